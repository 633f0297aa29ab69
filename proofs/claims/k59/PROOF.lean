import PyProof.Rows.All
import Wide.All
import OpenK.AllK
import Wide.FinOn
import PyProof.EqAt
import PyProof.EqKinds
import PyProof.TupleCall
import PyProof.CollectStr
import KE.KExcSuper
import HandS.ForMost
import HandS.Exc
import HandS.TryOnly
import HandS.ExcOwn
import HandS.WordsExc
import HandS.Defaults
import HandS.IsInst
import HandS.FStr
import HandS.Small
import HandS.Wide
import HandS.Walk
import HandS.Flow
import KE.IntTextLaws
import KE.KExcLine
import HandS.HeadWalk
import HandS.HeadHook4
import PyProof.ExcBaseAll.LookupError
import KE.GoesMore
import PyProof.Draws
import PyProof.EnumMake
import PyProof.ListStr
import HandS.TryMany
import HandS.Lambda
import PyProof.ReprRoads
import PyProof.CallFns
import PyProof.StrBlock2
import KE.DataMinKey
import KE.KDictList
import KE.KSetDisp
import HandS.ListItems
import HandS.DictComp
import HandS.Conv
import HandS.Star
import HandS.TupAny
import HandS.SortKw
import HandS.SetIn
import HandS.Strs
import HandS.Zip
import HandS.Dict
import HandS.TupMul
import HandS.Slots
import HandS.SlotsOwn
import HandS.Property
import HandS.MakeKwOnly
import HandS.NamedTupGet
import KE.KFmtOwn
import HandS.IterVal
import PyProof.TupleIter
import HandS.WordsDict
import PyProof.Rows.StrMeet
import HandS.Head0
import HandS.Head1
import HandS.Head2
import HandS.HeadEnd
import HandS.HeadHook1
import HandS.HeadHook2
import HandS.EndTab
import PySem.Challenge.RW_sumstead_k59_whole_disks_behind_losses_o
set_option Elab.async false
set_option linter.all false
set_option maxRecDepth 100000
set_option maxHeartbeats 4000000
/-! Sm: further rules over the layer, and short steps. -/
namespace Sm
open PySem PySem.Spec PyProof.Rows L2
/-! ### wide operators -/
def CDivU (i j : Int) : Prop := j ≠ 0 ∧ Builtin.divisionGoesByPylong i j = false
def CPowU (i j : Int) : Prop := 0 ≤ j ∧ (Builtin.Int.intBits i : Int) * j ≤ 2 ^ 27
section
variable {X : Cx}
theorem op_fdivU : OpR X (binaryOp .FloorDiv) (rI CDivU fun i j => .int (i.fdiv j)) := opI fun i j _ _ _ _ _ hc q => floordiv_int hc.1 q (.inl hc.2)
theorem op_mulU : OpR X (binaryOp .Mult) (rI IntMulOk fun i j => .int (i * j)) := opI fun _ _ _ _ _ _ _ hc q => mul_int q hc
theorem op_powW : OpR X (binaryOp .Pow) (rI CPowU fun i j => .int (i ^ j.toNat)) := opI fun _ _ _ _ _ _ _ hc q => pow_int hc.1 hc.2 q
def rAddS : R2 := fun x y H Q => ∃ i j, x = .str i ∧ y = .str j ∧ i.length + j.length ≤ sizeLine ∧ Q (.str (i ++ j)) H
def rAddU : R2 := fun x y H Q => rI0 (fun i j => .int (i + j)) x y H Q ∨ rAddS x y H Q
theorem op_addU : OpR X (binaryOp .Add) rAddU := op_add.or op_add_str
def rEqU (K : PySem.W.Frag) : R2 := fun x y H Q => rEq x y H Q ∨ rEqD K x y H Q
def rNeU (K : PySem.W.Frag) : R2 := fun x y H Q => rNe x y H Q ∨ rNeD K x y H Q
theorem op_eqU {k : Nat} (hr : Room k X.A) : OpR X (compareOp .Eq) (rEqU X.K) := op_eq.or (op_eqD hr.units)
theorem op_neU {k : Nat} (hr : Room k X.A) : OpR X (compareOp .NotEq) (rNeU X.K) := op_ne.or (op_neD hr.units)
def rIsN : R2 := fun x y H Q => y = .non ∧ Q (.bl (decide (x = .non))) H
def rNotN : R2 := fun x y H Q => y = .non ∧ Q (.bl (!decide (x = .non))) H
theorem op_isU : OpR X (compareOp .Is) rIsN := op_isN
theorem op_nisU : OpR X (compareOp .IsNot) rNotN := op_notN
/-- one sign in a text | a flat thing in a list or tuple -/
def rInS : R2 := fun x y H Q => ∃ (c : Nat) (z : Str), x = .str ⟨#[c]⟩ ∧ y = .str z ∧ Q (.bl (decide (c ∈ z.cps.toList))) H
def rInU (K : PySem.W.Frag) : R2 := fun x y H Q => rInS x y H Q ∨ rIn K false x y H Q
theorem op_inU : OpR X (compareOp .In) (rInU X.K) := op_in_sign.or op_in_seq
def rNiS : R2 := fun x y H Q => ∃ (c : Nat) (z : Str), x = .str ⟨#[c]⟩ ∧ y = .str z ∧ Q (.bl (!decide (c ∈ z.cps.toList))) H
def rNiU (K : PySem.W.Frag) : R2 := fun x y H Q => rNiS x y H Q ∨ rIn K true x y H Q
theorem op_niU : OpR X (compareOp .NotIn) (rNiU X.K) := op_notIn_sign.or op_notIn_seq
def rSlU (K : PySem.W.Frag) : V → Option Int → Option Int → Hp → VK → Prop := fun x lo hi H Q => rSlS x lo hi H Q ∨ (rSlL K x lo hi H Q ∨ rSlT K x lo hi H Q)
theorem sl_U : SlR X (rSlU X.K) := sl_str.or (sl_list.or sl_tup)
def rLenU (K : PySem.W.Frag) : List V → Hp → VK → Prop := fun xs H Q => ∃ x n, xs = [x] ∧ LenV K x H n ∧ Q (.int n) H
theorem call_lenU : CallR X (.builtin "len") (rLenU X.K) := call_len
def rAbs : List V → Hp → VK → Prop := fun xs H Q => ∃ i, xs = [.int i] ∧ Q (.int (if i < 0 then -i else i)) H
theorem call_absU : CallR X (.builtin "abs") rAbs := call_abs
def rMin2 : List V → Hp → VK → Prop := fun xs H Q => ∃ i j, xs = [.int i, .int j] ∧ Q (.int (if j < i then j else i)) H
def rMax2 : List V → Hp → VK → Prop := fun xs H Q => ∃ i j, xs = [.int i, .int j] ∧ Q (.int (if j > i then j else i)) H
theorem call_minU (hc : X.calm = true) : CallR X (.builtin "min") rMin2 := call_min2 hc
theorem call_maxU (hc : X.calm = true) : CallR X (.builtin "max") rMax2 := call_max2 hc
def rIntN : List V → Hp → VK → Prop := fun xs H Q => (∃ i, xs = [.int i] ∧ Q (.int i) H) ∨ ∃ k, xs = [.bl k] ∧ Q (.int (if k then 1 else 0)) H
def rIntS : List V → Hp → VK → Prop := fun xs H Q => ∃ a n, xs = [.str a] ∧ PySem.intText? a = some n ∧ a.length ≤ 640 ∧ Q (.int n) H
def rIntU : List V → Hp → VK → Prop := fun xs H Q => rIntN xs H Q ∨ rIntS xs H Q
theorem call_intU : CallR X (.type "int") rIntU := call_int1.or call_int_str
def rStrI : List V → Hp → VK → Prop := fun xs H Q => ∃ i, xs = [.int i] ∧ i.natAbs.log2 < 1920 ∧ Q (.str (toString i)) H
theorem call_strU : CallR X (.type "str") rStrI := call_str_int
end
/-! ### a def of the text, as callers know it -/
structure Fn (P : Program) (w : World) (K : PySem.W.Frag) (mg : Str → Option Value) (base : Heap) (k : Nat) (x : Str) (ps : List Str) (sp : Sp) : Prop where
  ex : ∃ f fd, FnOk P w K mg base (L2.CX P w) k f fd ps sp ∧ mg x = some (.ref f) ∧ PySem.W.keepIn K (.ref f) = true ∧ Binds K fd ps []
section
variable {X : Cx} {k j : Nat} {x : Str} {ps : List Str} {sp : Sp} {p pos : Pos} {e : Expr} {es : List Expr} {t : TA} {E : XK}
/-- f(e, ..) that lets nothing out -/
theorem pe_fn (G : Fn X.prog X.w X.K X.mg X.base k x ps sp) (hr : Room j X.A) (ha : PA X (e :: es) t) (hk : k ≤ j := by decide) (hg : Gl X x := by rfl) (hdb : (x == ("__debug__" : Str)) = false := by decide)
    (he : starEach (e :: es) X.env = (false, eval e X.env) :: starEach es X.env := by rfl) (hpl : (backTo pos (starEach es X.env)).any (·.1) = false := by rfl) :
    PE X (.Call (.Name x p) (e :: es) [] pos) (tCall sp [] E0 t) := by
  obtain ⟨f, fd, F, m, kp, b⟩ := G.ex
  exact pe_call F (hr.mono hk) hg m kp b .nil passL ha hdb he hpl
/-- f(e, ..), what it lets out leaves this def, too -/
theorem pe_fnE (G : Fn X.prog X.w X.K X.mg X.base k x ps sp) (hr : Room j X.A) (ha : PA X (e :: es) t) (hx : Passes (L2.CX X.prog X.w) X E) (hk : k ≤ j := by decide) (hg : Gl X x := by rfl) (hdb : (x == ("__debug__" : Str)) = false := by decide)
    (he : starEach (e :: es) X.env = (false, eval e X.env) :: starEach es X.env := by rfl) (hpl : (backTo pos (starEach es X.env)).any (·.1) = false := by rfl) :
    PE X (.Call (.Name x p) (e :: es) [] pos) (tCall sp [] E t) := by
  obtain ⟨f, fd, F, m, kp, b⟩ := G.ex
  exact pe_call F (hr.mono hk) hg m kp b .nil hx ha hdb he hpl
/-- f(e, ..) within a try's body -/
theorem pe_fnS {W : WX} (G : Fn X.prog X.w X.K X.mg X.base k x ps sp) (hr : Room j X.A) (tk : Takes X W) (ha : PA X (e :: es) t) (hk : k ≤ j := by decide) (hg : Gl X x := by rfl) (hdb : (x == ("__debug__" : Str)) = false := by decide)
    (he : starEach (e :: es) X.env = (false, eval e X.env) :: starEach es X.env := by rfl) (hpl : (backTo pos (starEach es X.env)).any (·.1) = false := by rfl) :
    PE X (.Call (.Name x p) (e :: es) [] pos) (tCallS sp (WE W) t) := by
  obtain ⟨f, fd, F, m, kp, b⟩ := G.ex
  exact pe_callS F (hr.mono hk) hg m kp b (fun σ => passAt tk σ) ha hdb he hpl
theorem passE {E₁ : Value → Shared → Prop} (hs : X.stack = X.env :: X.outer) (hf : X.env.frame = some X.env.locals) (hex : X.ex = [])
    (hx : X.xe = fun e s' => wpAny (model X.prog X.w) X.A (leaving X.env e) (fun _ s'' => L2.CX X.prog X.w X.outer X.H_0 X.s_0 E e s'') E₁ s') : Passes (L2.CX X.prog X.w) X E :=
  passes_call (takes_of hs hf hex hx) fun _ _ _ _ h => h
/-- a name of the module that holds an int, a text -/
theorem pe_gi {i : Int} (hm : ∃ t, X.mg x = some (.int i t)) (hg : Gl X x := by rfl) (hdb : (x == ("__debug__" : Str)) = false := by decide) : PE X (.Name x pos) (tC (.int i)) := by
  obtain ⟨t, hm⟩ := hm
  exact pe_glob hg hm ⟨_, rfl⟩ hdb
theorem pe_gs {z : Str} (hm : ∃ t, X.mg x = some (.str z t)) (hg : Gl X x := by rfl) (hdb : (x == ("__debug__" : Str)) = false := by decide) : PE X (.Name x pos) (tC (.str z)) := by
  obtain ⟨t, hm⟩ := hm
  exact pe_glob hg hm ⟨_, rfl⟩ hdb
/-- a built-in class as a value -/
theorem pe_ty {n : String} (hm : X.mg x = none) (hv : bootBuiltins x = some (.type n)) (hg : Gl X x := by rfl) (hn : x ≠ "__name__" := by decide) (hdb : (x == ("__debug__" : Str)) = false := by decide) : PE X (.Name x pos) (tC (.ty n)) :=
  pe_bltn hg hm hv rfl hn hdb
end
/-! ### steps: what a reading asks, by its head -/
section
variable {K : PySem.W.Frag} {σ : L2.St} {H : Hp} {ta tb tc te tx : TE} {t u : TT} {x y z v : V} {r : R2} {Q : VK} {D : Ends} {tu tw tz : TS} {g : TG} {k : Nat} {l : TA} {T : V → Prop}
theorem g_var {i : Nat} (h : σ[i]? = some (some v)) (q : Q v H) : tVar i σ H Q := ⟨v, h, q⟩
theorem g_c (q : Q v H) : tC v σ H Q := q
theorem g_op (h : ta σ H fun x H1 => tb σ H1 fun y H2 => r x y H2 Q) : tOp r ta tb σ H Q := h
theorem g_un {r : V → Hp → VK → Prop} (h : ta σ H fun x H1 => r x H1 Q) : tUn r ta σ H Q := h
theorem g_I0 {f : Int → Int → V} {i j : Int} (q : Q (f i j) H) : rI0 f (.int i) (.int j) H Q := ⟨i, j, rfl, rfl, q⟩
theorem g_I {C : Int → Int → Prop} {f : Int → Int → V} {i j : Int} (hc : C i j) (q : Q (f i j) H) : rI C f (.int i) (.int j) H Q := ⟨i, j, rfl, rfl, hc, q⟩
theorem g_U {f : Int → V} {i : Int} (q : Q (f i) H) : rU f (.int i) H Q := ⟨i, rfl, q⟩
theorem g_addI {i j : Int} (q : Q (.int (i + j)) H) : rAddU (.int i) (.int j) H Q := .inl ⟨i, j, rfl, rfl, q⟩
theorem g_addS {i j : Str} (hl : i.length + j.length ≤ sizeLine) (q : Q (.str (i ++ j)) H) : rAddU (.str i) (.str j) H Q := .inr ⟨i, j, rfl, rfl, hl, q⟩
theorem g_isN (q : Q (.bl (decide (x = .non))) H) : rIsN x .non H Q := ⟨rfl, q⟩
theorem g_notN (q : Q (.bl (!decide (x = .non))) H) : rNotN x .non H Q := ⟨rfl, q⟩
theorem g_isN1 (q : Q (.bl true) H) : rIsN .non .non H Q := ⟨rfl, q⟩
theorem g_notN1 (q : Q (.bl false) H) : rNotN .non .non H Q := ⟨rfl, q⟩
theorem g_isNr {a : Addr} (q : Q (.bl false) H) : rIsN (.ref a) .non H Q := ⟨rfl, by rw [decide_eq_false (fun z => by cases z)]; exact q⟩
theorem g_notNr {a : Addr} (q : Q (.bl true) H) : rNotN (.ref a) .non H Q := ⟨rfl, by rw [decide_eq_false (fun z => by cases z)]; exact q⟩
theorem dI {i j : Int} : decide (V.int i = V.int j) = decide (i = j) := by
  by_cases h : i = j
  · rw [h, decide_eq_true rfl, decide_eq_true rfl]
  · rw [decide_eq_false h, decide_eq_false fun z => h (V.int.inj z)]
theorem dS {i j : Str} : decide (V.str i = V.str j) = decide (i = j) := by
  by_cases h : i = j
  · rw [h, decide_eq_true rfl, decide_eq_true rfl]
  · rw [decide_eq_false h, decide_eq_false fun z => h (V.str.inj z)]
theorem g_eqII {i j : Int} (q : Q (.bl (decide (i = j))) H) : rEqU K (.int i) (.int j) H Q := .inl ⟨rfl, by rw [dI]; exact q⟩
theorem g_neII {i j : Int} (q : Q (.bl (!decide (i = j))) H) : rNeU K (.int i) (.int j) H Q := .inl ⟨rfl, by rw [dI]; exact q⟩
theorem g_eqSS {i j : Str} (q : Q (.bl (decide (i = j))) H) : rEqU K (.str i) (.str j) H Q := .inl ⟨rfl, by rw [dS]; exact q⟩
theorem g_neSS {i j : Str} (q : Q (.bl (!decide (i = j))) H) : rNeU K (.str i) (.str j) H Q := .inl ⟨rfl, by rw [dS]; exact q⟩
theorem g_eqD {d e : PyData} (hd : Dp K H x d) (he : Dp K H y e) (sd : SeqAt.shaped d = true) (se : SeqAt.shaped e = true) (q : Q (.bl (PyData.eqv d e)) H) : rEqU K x y H Q := .inr ⟨d, e, hd, he, sd, se, q⟩
theorem g_neD {d e : PyData} (hd : Dp K H x d) (he : Dp K H y e) (sd : SeqAt.shaped d = true) (se : SeqAt.shaped e = true) (q : Q (.bl (!PyData.eqv d e)) H) : rNeU K x y H Q := .inr ⟨d, e, hd, he, sd, se, q⟩
theorem g_inS {c : Nat} {z : Str} (q : Q (.bl (decide (c ∈ z.cps.toList))) H) : rInU K (.str ⟨#[c]⟩) (.str z) H Q := .inl ⟨c, z, rfl, rfl, q⟩
theorem g_niS {c : Nat} {z : Str} (q : Q (.bl (!decide (c ∈ z.cps.toList))) H) : rNiU K (.str ⟨#[c]⟩) (.str z) H Q := .inl ⟨c, z, rfl, rfl, q⟩
theorem g_inT {p : Addr} {xs : List V} (h : SqT K H p xs) (hx : flatV x = true) (ha : xs.all flatV = true) (q : Q (.bl (inV x xs)) H) : rInU K x (.ref p) H Q := .inr ⟨p, xs, rfl, .inr h, hx, ha, q⟩
theorem g_inL {p : Addr} {xs : List V} (h : SqL K H p xs) (hx : flatV x = true) (ha : xs.all flatV = true) (q : Q (.bl (inV x xs)) H) : rInU K x (.ref p) H Q := .inr ⟨p, xs, rfl, .inl h, hx, ha, q⟩
theorem g_and (h : ta σ H fun x H1 => ∃ c, x = .bl c ∧ if c = true then tb σ H1 Q else Q (.bl false) H1) : tAndV ta tb σ H Q := h
theorem g_or (h : ta σ H fun x H1 => ∃ c, x = .bl c ∧ if c = true then Q (.bl true) H1 else tb σ H1 Q) : tOrV ta tb σ H Q := h
theorem g_not (h : ta σ H fun x H1 => ∃ c, x = .bl c ∧ Q (.bl (!c)) H1) : tNotV ta σ H Q := h
theorem g_if (h : t σ H fun c H1 => if c = true then ta σ H1 Q else tb σ H1 Q) : tIf t ta tb σ H Q := h
theorem g_bl {R : Bool → Prop} {c : Bool} (h : R c) : ∃ d, V.bl c = .bl d ∧ R d := ⟨c, rfl, h⟩
theorem g_cons {R : List V → Hp → Prop} (h : ta σ H fun x H1 => l σ H1 fun xs H2 => R (x :: xs) H2) : tCons ta l σ H R := h
theorem g_nil {R : List V → Hp → Prop} (h : R [] H) : tNil σ H R := h
theorem g_CB {r : List V → Hp → VK → Prop} (h : l σ H fun xs H1 => r xs H1 Q) : tCB r l σ H Q := h
theorem g_call {sp : Sp} {E : XK} (h : l σ H fun vs H1 => sp (vs ++ []) H1 Q E) : tCall sp [] E l σ H Q := h
theorem g_callS {sp : Sp} {E : L2.St → XK} (h : l σ H fun vs H1 => sp vs H1 Q (E σ)) : tCallS sp E l σ H Q := h
theorem g_tup (h : l σ H fun xs H1 => xs.length ≤ sizeLine ∧ ∀ p, H1 p = none → Q (.ref p) (upd H1 p (.tup xs))) : tTup l σ H Q := h
theorem g_seq (h : tu { D with nx := tw D } σ H) : tSeq tu tw D σ H := h
theorem g_asg (h : te σ H fun x H1 => g x σ H1 D.nx) : tAsg te g D σ H := h
theorem g_name {i : Nat} {R : L2.St → Hp → Prop} (q : R (σ.set i (some v)) H) : gName i v σ H R := q
theorem g_ret (h : te σ H D.rt) : tRet te D σ H := h
theorem g_ifS (h : t σ H fun b H1 => if b = true then tu D σ H1 else tw D σ H1) : tIfS t tu tw D σ H := h
theorem g_test {R : Bool → Hp → Prop} (h : te σ H fun x H' => ∃ k, x = .bl k ∧ R k H') : tTest te σ H R := h
theorem g_B {R : Bool → Hp → Prop} (h : te σ H fun x H' => ∃ k, x = .bl k ∧ R k H') : tB te σ H R := h
theorem g_tand {R : Bool → Hp → Prop} (h : t σ H fun b H1 => if b = true then u σ H1 R else R false H1) : tAnd t u σ H R := h
theorem g_tor {R : Bool → Hp → Prop} (h : t σ H fun b H1 => if b = true then R true H1 else u σ H1 R) : tOr t u σ H R := h
theorem g_next (h : D.nx σ H) : tNext D σ H := h
theorem g_drop (h : te σ H fun _ H1 => D.nx σ H1) : tDrop te D σ H := h
theorem g_retN (h : D.rt .non H) : tRetN D σ H := h
theorem g_lst (h : l σ H fun xs H1 => xs.length ≤ sizeLine ∧ ∀ p, H1 p = none → Q (.ref p) (upd H1 p (.lst xs))) : tLst l σ H Q := h
theorem g_par {i j : Nat} (h : l σ H fun vs H1 => ∃ v w, vs = [v, w] ∧ D.nx ((σ.set i (some v)).set j (some w)) H1) : tPar i j l D σ H := h
theorem g_par2 {R : V → V → Prop} (h : R x y) : ∃ v w, ([x, y] : List V) = [v, w] ∧ R v w := ⟨x, y, rfl, h⟩
theorem g_new {R : Addr → Prop} {n : Nat} (hn : n ≤ sizeLine) (h : ∀ p, R p) : n ≤ sizeLine ∧ ∀ p, R p := ⟨hn, h⟩
theorem g_aug {i : Nat} {f : Int → Int → Int} {a : Int} (h : σ[i]? = some (some (.int a))) (q : te σ H fun y H1 => ∃ b, y = .int b ∧ D.nx (σ.set i (some (.int (f a b)))) H1) : tAug i te (ipI f) D σ H :=
  ⟨.int a, h, by
    show te σ H fun y H1 => ∃ i' j, V.int a = .int i' ∧ y = .int j ∧ D.nx (σ.set i (some (.int (f i' j)))) H1
    have e : (fun (y : V) (H1 : Hp) => ∃ i' j, V.int a = .int i' ∧ y = .int j ∧ D.nx (σ.set i (some (.int (f i' j)))) H1) = fun y H1 => ∃ b, y = .int b ∧ D.nx (σ.set i (some (.int (f a b)))) H1 := by
      funext y H1
      refine propext ⟨fun ⟨i', j, e1, e2, q⟩ => ?_, fun ⟨b, e2, q⟩ => ⟨a, b, rfl, e2, q⟩⟩
      cases e1
      exact ⟨j, e2, q⟩
    rw [e]
    exact q⟩
theorem g_int {R : Int → Prop} {i : Int} (h : R i) : ∃ b, V.int i = .int b ∧ R b := ⟨i, rfl, h⟩
theorem g_str {R : Str → Prop} {i : Str} (h : R i) : ∃ b, V.str i = .str b ∧ R b := ⟨i, rfl, h⟩
theorem g_abs {i : Int} (q : Q (.int (i.natAbs : Nat)) H) : rAbs [.int i] H Q := ⟨i, rfl, by rw [show (if i < 0 then -i else i) = ((i.natAbs : Nat) : Int) by split <;> omega]; exact q⟩
theorem g_min {i j : Int} (q : Q (.int (if j < i then j else i)) H) : rMin2 [.int i, .int j] H Q := ⟨i, j, rfl, q⟩
theorem g_max {i j : Int} (q : Q (.int (if j > i then j else i)) H) : rMax2 [.int i, .int j] H Q := ⟨i, j, rfl, q⟩
theorem g_intI {i : Int} (q : Q (.int i) H) : rIntU [.int i] H Q := .inl (.inl ⟨i, rfl, q⟩)
theorem g_intB {b : Bool} (q : Q (.int (if b then 1 else 0)) H) : rIntU [.bl b] H Q := .inl (.inr ⟨b, rfl, q⟩)
theorem g_intS {z : Str} {n : Int} (h : PySem.intText? z = some n) (hl : z.length ≤ 640) (q : Q (.int n) H) : rIntU [.str z] H Q := .inr ⟨z, n, rfl, h, hl, q⟩
theorem g_strI {i : Int} (h : i.natAbs.log2 < 1920) (q : Q (.str (toString i)) H) : rStrI [.int i] H Q := ⟨i, rfl, h, q⟩
theorem g_lenS {z : Str} (h : z.length ≤ sizeLine) (q : Q (.int z.length) H) : rLenU K [.str z] H Q := ⟨_, _, rfl, ⟨h, rfl⟩, q⟩
theorem g_lenL {p : Addr} {xs : List V} (h : SqL K H p xs) (q : Q (.int xs.length) H) : rLenU K [.ref p] H Q := ⟨_, _, rfl, .inl ⟨xs, h, rfl⟩, q⟩
theorem g_lenT {p : Addr} {xs : List V} (h : SqT K H p xs) (q : Q (.int xs.length) H) : rLenU K [.ref p] H Q := ⟨_, _, rfl, .inr ⟨xs, h, rfl⟩, q⟩
theorem g_ixL {p : Addr} {xs : List V} {i : Int} (h : SqL K H p xs) (e : atI xs i = some v) (q : Q v H) : rIx K (.ref p) (.int i) H Q := .inl ⟨p, xs, i, v, rfl, rfl, h, e, q⟩
theorem g_ixT {p : Addr} {xs : List V} {i : Int} (h : SqT K H p xs) (e : atI xs i = some v) (q : Q v H) : rIx K (.ref p) (.int i) H Q := .inr (.inl ⟨p, xs, i, v, rfl, rfl, h, e, q⟩)
theorem g_ixS {z : Str} {i : Int} {c : Nat} (hl : z.length ≤ sizeLine) (e : atI z.cps.toList i = some c) (q : Q (.str ⟨#[c]⟩) H) : rIx K (.str z) (.int i) H Q := .inr (.inr ⟨z, i, c, rfl, rfl, hl, e, q⟩)
theorem g_sl {r : V → Option Int → Option Int → Hp → VK → Prop} {tl th : TO} (h : te σ H fun x H1 => tl σ H1 fun l H2 => th σ H2 fun u H3 => r x l u H3 Q) : tSl r te tl th σ H Q := h
theorem g_po0 {R : Option Int → Hp → Prop} (h : R none H) : tNoPart σ H R := h
theorem g_po1 {R : Option Int → Hp → Prop} (h : te σ H fun x H1 => ∃ i, x = .int i ∧ R (some i) H1) : tPart te σ H R := h
theorem g_slS {z : Str} {lo hi : Option Int} (hl : z.length ≤ sizeLine) (q : Q (.str (cutS z lo hi)) H) : rSlU K (.str z) lo hi H Q := .inl ⟨z, rfl, hl, q⟩
theorem g_slL {p : Addr} {xs : List V} {lo hi : Option Int} (h : SqL K H p xs) (q : ∀ q, H q = none → Q (.ref q) (upd H q (.lst (cutV xs lo hi)))) : rSlU K (.ref p) lo hi H Q := .inr (.inl ⟨p, xs, rfl, h, q⟩)
theorem g_T {A B : Prop} (h : A) : if true = true then A else B := iteT h
theorem g_F {A B : Prop} (h : B) : if false = true then A else B := iteF h
theorem g_nT {A B : Prop} (h : B) : if (!true) = true then A else B := iteF h
theorem g_nF {A B : Prop} (h : A) : if (!false) = true then A else B := iteT h
theorem g_ite {p A B : Prop} [Decidable p] (h1 : p → A) (h2 : ¬ p → B) : if decide p = true then A else B := by
  by_cases h : p
  · rw [decide_eq_true h]; exact iteT (h1 h)
  · rw [decide_eq_false h]; exact iteF (h2 h)
theorem g_niteD {p A B : Prop} [Decidable p] (h1 : ¬ p → A) (h2 : p → B) : if (!decide p) = true then A else B := by
  by_cases h : p
  · rw [decide_eq_true h]; exact iteF (h2 h)
  · rw [decide_eq_false h]; exact iteT (h1 h)
theorem g_yes {p A B : Prop} [Decidable p] (h : p) (a : A) : if decide p = true then A else B := by rw [decide_eq_true h]; exact iteT a
theorem g_no {p A B : Prop} [Decidable p] (h : ¬ p) (a : B) : if decide p = true then A else B := by rw [decide_eq_false h]; exact iteF a
theorem g_nyes {p A B : Prop} [Decidable p] (h : ¬ p) (a : A) : if (!decide p) = true then A else B := by rw [decide_eq_false h]; exact iteT a
theorem g_nno {p A B : Prop} [Decidable p] (h : p) (a : B) : if (!decide p) = true then A else B := by rw [decide_eq_true h]; exact iteF a
theorem g_iteB {A B : Prop} {b : Bool} (h1 : b = true → A) (h2 : b = false → B) : if b = true then A else B := by
  cases b with
  | true => exact iteT (h1 rfl)
  | false => exact iteF (h2 rfl)
theorem g_niteB {A B : Prop} {b : Bool} (h1 : b = false → A) (h2 : b = true → B) : if (!b) = true then A else B := by
  cases b with
  | true => exact iteF (h2 rfl)
  | false => exact iteT (h1 rfl)
theorem g_byes {A B : Prop} {b : Bool} (h : b = true) (a : A) : if b = true then A else B := by rw [h]; exact iteT a
theorem g_bno {A B : Prop} {b : Bool} (h : b = false) (a : B) : if b = true then A else B := by rw [h]; exact iteF a
theorem g_nbyes {A B : Prop} {b : Bool} (h : b = false) (a : A) : if (!b) = true then A else B := by rw [h]; exact iteT a
theorem g_nbno {A B : Prop} {b : Bool} (h : b = true) (a : B) : if (!b) = true then A else B := by rw [h]; exact iteF a
theorem g_btru {R : Bool → Prop} {k : Bool} (q : R k) : ∃ j, TruV K (.bl k) H j ∧ R j := ⟨k, rfl, q⟩
theorem g_isi {x : V} {t : Value} {n : String} {b : Bool} (ty : TyX K H x t) (e : PySem.W.kitOne K t (.type n) = some b) (q : Q (.bl b) H) : rIsi K [x, .ty n] H Q := ⟨x, .ty n, t, _, b, rfl, .ty n, ty, e, q⟩
theorem g_tnot {R : Bool → Hp → Prop} (h : t σ H fun b H1 => R (!b) H1) : tNot t σ H R := h
end
/-! ### heaps that only grow, but for one object -/
theorem Same.new {H : Hp} {p : Addr} {o : HO} (h : H p = none) : Same H (upd H p o) := fun a u e => by
  rw [upd_ne (ne_of_none e h)]
  exact e
theorem Same.seqT {K : PySem.W.Frag} {H H' : Hp} {a : Addr} {xs : List V} (e : Same H H') (h : SqT K H a xs) : SqT K H' a xs := by
  rcases h with (h | ⟨o, h⟩) | h
  · exact .inl (.inl (e _ _ h))
  · exact .inl (.inr ⟨o, e _ _ h⟩)
  · exact .inr h
theorem seqL_at {K : PySem.W.Frag} {H H' : Hp} {a : Addr} {xs : List V} (h : SqL K H a xs) (e : Same H H') : SqL K H' a xs := e.seq h
theorem seqT_at {K : PySem.W.Frag} {H H' : Hp} {a : Addr} {xs : List V} (h : SqT K H a xs) (e : Same H H') : SqT K H' a xs := Same.seqT e h
theorem tup_at {K : PySem.W.Frag} {H H' : Hp} {a : Addr} {xs : List V} (h : H a = some (.tup xs)) (e : Same H H') : SqT K H' a xs := .inl (.inl (e _ _ h))
theorem lst_at {K : PySem.W.Frag} {H H' : Hp} {a : Addr} {xs : List V} (h : H a = some (.lst xs)) (e : Same H H') : SqL K H' a xs := .inl (.inl (e _ _ h))
mutual
theorem Same.dp {K : PySem.W.Frag} {H H' : Hp} (e : Same H H') : ∀ {x : V} {d : PyData}, Dp K H x d → Dp K H' x d
  | _, _, .non => .non
  | _, _, .bl b => .bl b
  | _, _, .int i => .int i
  | _, _, .str x => .str x
  | _, _, .lst h r => .lst (e.seq h) (Same.dps e r)
  | _, _, .tup h r => .tup (Same.seqT e h) (Same.dps e r)
theorem Same.dps {K : PySem.W.Frag} {H H' : Hp} (e : Same H H') : ∀ {xs : List V} {ds : List PyData}, DpAll K H xs ds → DpAll K H' xs ds
  | _, _, .nil => .nil
  | _, _, .cons h r => .cons (Same.dp e h) (Same.dps e r)
end
theorem dp_at {K : PySem.W.Frag} {H H' : Hp} {x : V} {d : PyData} (h : Dp K H x d) (e : Same H H') : Dp K H' x d := Same.dp e h
/-- all but what stands at p -/
def dl (H : Hp) (p : Addr) : Hp := fun b => if b = p then none else H b
theorem dl_sub {H : Hp} {p : Addr} : Same (dl H p) H := fun b o h => by
  unfold dl at h
  split at h
  · cases h
  · exact h
theorem dl_of {H H' : Hp} {p : Addr} (e : Same H H') : Same (dl H p) H' := dl_sub.trans e
theorem dl_both {H H' : Hp} {p : Addr} (e : Same (dl H p) H') : Same (dl H p) (dl H' p) := fun b o h => by
  have hb : b ≠ p := fun z => by
    unfold dl at h
    rw [if_pos z] at h
    cases h
  unfold dl
  rw [if_neg hb]
  exact e b o h
theorem dl_ne {H : Hp} {a p : Addr} (h : a ≠ p) : dl H p a = H a := if_neg h
theorem dl_mut {H H' : Hp} {p : Addr} {o : HO} (e : Same (dl H p) H') : Same (dl H p) (upd H' p o) := fun b u h => by
  have hb : b ≠ p := fun z => by
    unfold dl at h
    rw [if_pos z] at h
    cases h
  rw [upd_ne hb]
  exact e b u h
theorem dl_tup {H : Hp} {a p : Addr} {xs : List V} {ys : List V} (h : H a = some (.tup xs)) (hp : H p = some (.lst ys)) : dl H p a = some (.tup xs) := by
  rw [dl_ne (ne_of h hp (by intro z; cases z))]
  exact h
def RetV (v : V) (H : Hp) (Q : VK) : Prop := ∀ H', Same H H' → Q v H'
/-- what an object's kind is -/
inductive Kn where
  | non | bl | int | str | lst | tup | dic
abbrev Kn.name : Kn → String
  | .non => "NoneType"
  | .bl => "bool"
  | .int => "int"
  | .str => "str"
  | .lst => "list"
  | .tup => "tuple"
  | .dic => "dict"
def Kn.is : Kn → Kn → Bool
  | .non, .non => true
  | .bl, .bl => true
  | .bl, .int => true
  | .int, .int => true
  | .str, .str => true
  | .lst, .lst => true
  | .tup, .tup => true
  | .dic, .dic => true
  | _, _ => false
theorem Kn.kit : ∀ k n : Kn, n.name ≠ "NoneType" → kitB k.name n.name = some (k.is n) := by
  intro k n
  cases k <;> cases n <;> decide +kernel
theorem ty_int {K : PySem.W.Frag} {H : Hp} {i : Int} : TyX K H (.int i) (.type Kn.int.name) := .base (.int i)
theorem ty_bl {K : PySem.W.Frag} {H : Hp} {b : Bool} : TyX K H (.bl b) (.type Kn.bl.name) := .base (.bl b)
theorem ty_str {K : PySem.W.Frag} {H : Hp} {x : Str} : TyX K H (.str x) (.type Kn.str.name) := .base (.str x)
theorem ty_non {K : PySem.W.Frag} {H : Hp} : TyX K H .non (.type Kn.non.name) := .base .non
theorem ty_tup {K : PySem.W.Frag} {H : Hp} {a : Addr} {xs : List V} (h : SqT K H a xs) : TyX K H (.ref a) (.type Kn.tup.name) := by
  rcases h with (h | ⟨o, h⟩) | ⟨o, its, n, hk, hc, _⟩
  · exact .base (.tup h)
  · exact .fTuple h
  · exact .kTuple hk hc
theorem ty_lst {K : PySem.W.Frag} {H : Hp} {a : Addr} {xs : List V} (h : SqL K H a xs) : TyX K H (.ref a) (.type Kn.lst.name) := by
  rcases h with (h | ⟨o, h⟩) | ⟨o, its, n, hk, hc, _⟩
  · exact .base (.lst h)
  · exact .base (.frz h)
  · exact .kList hk hc
def kindD : PyData → Kn
  | .none => .non
  | .bool _ => .bl
  | .int _ => .int
  | .str _ => .str
  | .list _ => .lst
  | .tuple _ => .tup
  | .dict _ => .dic
theorem ty_dp {K : PySem.W.Frag} {H : Hp} {x : V} {d : PyData} (h : Dp K H x d) : TyX K H x (.type (kindD d).name) := by
  cases h with
  | non => exact ty_non
  | bl b => exact ty_bl
  | int i => exact ty_int
  | str x => exact ty_str
  | lst h r => exact ty_lst h
  | tup h r => exact ty_tup h
section
variable {K : PySem.W.Frag} {H : Hp} {Q : VK} {x : V} {k : Kn} {b : Bool}
theorem isi_n (n : Kn) (hn : n.name ≠ "NoneType") (ty : TyX K H x (.type k.name)) (h : k.is n = b) (q : Q (.bl b) H) : rIsi K [x, .ty n.name] H Q := g_isi ty (kit_ty (by rw [Kn.kit k n hn, h])) q
theorem g_intT (ty : TyX K H x (.type k.name)) (h : k.is .int = true) (q : Q (.bl true) H) : rIsi K [x, .ty "int"] H Q := isi_n .int (by decide) ty h q
theorem g_intF (ty : TyX K H x (.type k.name)) (h : k.is .int = false) (q : Q (.bl false) H) : rIsi K [x, .ty "int"] H Q := isi_n .int (by decide) ty h q
theorem g_boolT (ty : TyX K H x (.type k.name)) (h : k.is .bl = true) (q : Q (.bl true) H) : rIsi K [x, .ty "bool"] H Q := isi_n .bl (by decide) ty h q
theorem g_boolF (ty : TyX K H x (.type k.name)) (h : k.is .bl = false) (q : Q (.bl false) H) : rIsi K [x, .ty "bool"] H Q := isi_n .bl (by decide) ty h q
theorem g_strT (ty : TyX K H x (.type k.name)) (h : k.is .str = true) (q : Q (.bl true) H) : rIsi K [x, .ty "str"] H Q := isi_n .str (by decide) ty h q
theorem g_strF (ty : TyX K H x (.type k.name)) (h : k.is .str = false) (q : Q (.bl false) H) : rIsi K [x, .ty "str"] H Q := isi_n .str (by decide) ty h q
theorem g_listT (ty : TyX K H x (.type k.name)) (h : k.is .lst = true) (q : Q (.bl true) H) : rIsi K [x, .ty "list"] H Q := isi_n .lst (by decide) ty h q
theorem g_listF (ty : TyX K H x (.type k.name)) (h : k.is .lst = false) (q : Q (.bl false) H) : rIsi K [x, .ty "list"] H Q := isi_n .lst (by decide) ty h q
theorem g_tupleT (ty : TyX K H x (.type k.name)) (h : k.is .tup = true) (q : Q (.bl true) H) : rIsi K [x, .ty "tuple"] H Q := isi_n .tup (by decide) ty h q
theorem g_tupleF (ty : TyX K H x (.type k.name)) (h : k.is .tup = false) (q : Q (.bl false) H) : rIsi K [x, .ty "tuple"] H Q := isi_n .tup (by decide) ty h q
theorem g_dictT (ty : TyX K H x (.type k.name)) (h : k.is .dic = true) (q : Q (.bl true) H) : rIsi K [x, .ty "dict"] H Q := isi_n .dic (by decide) ty h q
theorem g_dictF (ty : TyX K H x (.type k.name)) (h : k.is .dic = false) (q : Q (.bl false) H) : rIsi K [x, .ty "dict"] H Q := isi_n .dic (by decide) ty h q
end
section
variable {K : PySem.W.Frag} {σ : L2.St} {H : Hp} {Q : VK} {D : Ends}
theorem g_newT {xs : List V} (hn : xs.length ≤ sizeLine) (k : ∀ p H2, H p = none → Same H H2 → H2 p = some (.tup xs) → Q (.ref p) H2) : xs.length ≤ sizeLine ∧ ∀ p, H p = none → Q (.ref p) (upd H p (.tup xs)) :=
  ⟨hn, fun p hp => k p _ hp (Same.new hp) upd_same⟩
theorem g_newL {xs : List V} (hn : xs.length ≤ sizeLine) (k : ∀ p H2, H p = none → Same H H2 → H2 p = some (.lst xs) → Q (.ref p) H2) : xs.length ≤ sizeLine ∧ ∀ p, H p = none → Q (.ref p) (upd H p (.lst xs)) :=
  ⟨hn, fun p hp => k p _ hp (Same.new hp) upd_same⟩
theorem g_newA {R : Addr → Hp → Prop} {o : HO} (k : ∀ p H2, H p = none → Same H H2 → H2 p = some o → R p H2) : ∀ p, H p = none → R p (upd H p o) := fun p hp => k p _ hp (Same.new hp) upd_same
/-- a turn of a while, n the measure ahead of it -/
def WTurn (W : L2.St → Hp → Prop) (m : L2.St → Hp → Nat) (n : Nat) (tb : TS) (D : Ends) (σ : L2.St) (H : Hp) : Prop :=
  ∃ N : L2.St → Hp → Prop, (∀ σ2 H2, N σ2 H2 → ∃ m', m' < n ∧ m σ2 H2 = m' ∧ W σ2 H2) ∧ tb { D with nx := N, ct := N, bk := D.nx } σ H
theorem g_wturn {W : L2.St → Hp → Prop} {m : L2.St → Hp → Nat} {n : Nat} {tb : TS} (h : tb { D with nx := fun σ2 H2 => m σ2 H2 < n ∧ W σ2 H2, ct := fun σ2 H2 => m σ2 H2 < n ∧ W σ2 H2, bk := D.nx } σ H) : WTurn W m n tb D σ H :=
  ⟨_, fun σ2 H2 q => ⟨_, q.1, rfl, q.2⟩, h⟩
theorem g_while {c : TT} {tb : TS} (W : L2.St → Hp → Prop) (m : L2.St → Hp → Nat) (h0 : W σ H)
    (hs : ∀ σ' H', W σ' H' → c σ' H' fun b H1 => if b = true then WTurn W m (m σ' H') tb D σ' H1 else D.nx σ' H1) : tWhile c tb D σ H := by
  refine ⟨fun n σ' H' => m σ' H' = n ∧ W σ' H', ⟨_, rfl, h0⟩, fun n σ' H' h => ?_⟩
  obtain ⟨rfl, hw⟩ := h
  exact hs σ' H' hw
/-- a for over a walk -/
theorem g_for {wi : TI} {g : TG} {tb : TS} {J : It} {n : Nat} {G : Hp → Prop} {Y : Nat → Hp → V → Hp → Prop} (w : Walk J n G Y) (Pv : Nat → L2.St → Hp → Prop) (h0 : Pv 0 σ H) (hG : ∀ i σ H, i ≤ n → Pv i σ H → G H)
    (hs : ∀ i x σ H H', i < n → Pv i σ H → Y i H x H' → g x σ H' fun σ2 H2 => tb { D with nx := Pv (i + 1), ct := Pv (i + 1), bk := D.nx } σ2 H2) (hd : ∀ σ H, Pv n σ H → D.nx σ H) :
    ∃ W : Nat → Nat → L2.St → Hp → Prop, (∃ m, W 0 m σ H) ∧ ∀ i m σ H, W i m σ H →
      (J.stop i H ∧ D.nx σ H) ∨ (J.go i H ∧ ∃ N : L2.St → Hp → Prop, (∀ σ' H', N σ' H' → ∃ m', m' < m ∧ W (i + 1) m' σ' H') ∧ ∀ x H', J.yld i H x H' → g x σ H' fun σ2 H2 => tb { D with nx := N, ct := N, bk := D.nx } σ2 H2) :=
  for_it w Pv h0 hG hs hd
/-- what a for asks, over a walk of n turns -/
theorem g_forW {J : It} {n : Nat} {G : Hp → Prop} {Y : Nat → Hp → V → Hp → Prop} {g : TG} {tb : TS} (w : Walk J n G Y) (Pv : Nat → L2.St → Hp → Prop) (h0 : Pv 0 σ H) (hG : ∀ i σ H, i ≤ n → Pv i σ H → G H)
    (hs : ∀ i x σ H H', i < n → Pv i σ H → Y i H x H' → g x σ H' fun σ2 H2 => tb { D with nx := Pv (i + 1), ct := Pv (i + 1), bk := D.nx } σ2 H2) (hd : ∀ σ H, Pv n σ H → D.nx σ H) :
    (fun (J : It) (H1 : Hp) => ∃ W : Nat → Nat → L2.St → Hp → Prop, (∃ m, W 0 m σ H1) ∧ ∀ i m σ H, W i m σ H →
      (J.stop i H ∧ D.nx σ H) ∨ (J.go i H ∧ ∃ N : L2.St → Hp → Prop, (∀ σ' H', N σ' H' → ∃ m', m' < m ∧ W (i + 1) m' σ' H') ∧ ∀ x H', J.yld i H x H' → g x σ H' fun σ2 H2 => tb { D with nx := N, ct := N, bk := D.nx } σ2 H2)) J H :=
  for_it w Pv h0 hG hs hd
theorem g_rng1 {R : It → Hp → Prop} {ta : TA} (h : ta σ H fun vs H1 => ∃ j : Int, vs = [.int j] ∧ -(2 ^ 62) ≤ j ∧ j < 2 ^ 62 ∧ R (Itr 0 j.toNat) H1) : iRng1 ta σ H R := h
theorem g_rng1i {R : Int → Prop} {j : Int} (h1 : -(2 ^ 62) ≤ j) (h2 : j < 2 ^ 62) (h : R j) : ∃ i : Int, ([.int j] : List V) = [.int i] ∧ -(2 ^ 62) ≤ i ∧ i < 2 ^ 62 ∧ R i := ⟨j, rfl, h1, h2, h⟩
end
/-! ### sides of arithmetic -/
theorem mulL {i j : Int} (h1 : -18446744073709551616 < i) (h2 : i < 18446744073709551616) : IntMulOk i j := CMul.ok (.inl ⟨by simpa using h1, by simpa using h2⟩)
theorem mulR {i j : Int} (h1 : -18446744073709551616 < j) (h2 : j < 18446744073709551616) : IntMulOk i j := CMul.ok (.inr ⟨by simpa using h1, by simpa using h2⟩)
theorem mulB {i j : Int} {a b : Nat} (ha : i.natAbs < 2 ^ a) (hb : j.natAbs < 2 ^ b) (h0 : 0 < a) (h1 : 0 < b) (h : a + b ≤ 1000000) : IntMulOk i j := (wide_mul ha hb h0 h1 h).ok
theorem pyS {i j : Int} (h0 : 0 < j) (h : j < 1073741824) : Builtin.divisionGoesByPylong i j = false := PyProof.noPylong_small (by omega)
theorem pyB {i j : Int} {b : Nat} (hb : j.natAbs < 2 ^ b) (h0 : 0 < b) (h9 : b ≤ 9000) : Builtin.divisionGoesByPylong i j = false := PyProof.noPylong_of_log2 (Nat.lt_of_lt_of_le (PySem.Flt.log2_lt_of h0 hb) h9)
section
variable {H : Hp} {Q : VK} {i j : Int}
theorem g_mul (h : IntMulOk i j) (q : Q (.int (i * j)) H) : rI IntMulOk (fun i j => .int (i * j)) (.int i) (.int j) H Q := ⟨i, j, rfl, rfl, h, q⟩
theorem g_mod (h : 0 < j) (q : Q (.int (i % j)) H) : rI (fun _ j => j ≠ 0) (fun i j => .int (i.fmod j)) (.int i) (.int j) H Q := ⟨i, j, rfl, rfl, by omega, by (show Q (.int (i.fmod j)) H); rw [Int.fmod_eq_emod_of_nonneg _ (by omega)]; exact q⟩
theorem g_fdiv (h : 0 < j) (hp : Builtin.divisionGoesByPylong i j = false) (q : Q (.int (i / j)) H) : rI CDivU (fun i j => .int (i.fdiv j)) (.int i) (.int j) H Q := ⟨i, j, rfl, rfl, ⟨by omega, hp⟩, by (show Q (.int (i.fdiv j)) H); rw [Int.fdiv_eq_ediv_of_nonneg _ (by omega)]; exact q⟩
theorem g_pow {r : Int} (h : 0 ≤ j) (hb : (Builtin.Int.intBits i : Int) * j ≤ 2 ^ 27) (hr : i ^ j.toNat = r) (q : Q (.int r) H) : rI CPowU (fun i j => .int (i ^ j.toNat)) (.int i) (.int j) H Q := ⟨i, j, rfl, rfl, ⟨h, hb⟩, by (show Q (.int (i ^ j.toNat)) H); rw [hr]; exact q⟩
end
/-! ### cuts of texts -/
open TL in
theorem cut_tl (z : Str) (a b : Nat) : tl (cutS z (some (a : Int)) (some (b : Int))) = ((tl z).take b).drop a := by
  have hl : z.length = (tl z).length := len_tl z
  unfold cutS
  rw [tl_mk]
  show List.take (HT.sIx z.length z.length (some (b : Int)) - HT.sIx z.length 0 (some (a : Int))) (List.drop (HT.sIx z.length 0 (some (a : Int))) (tl z)) = _
  rw [HT.sIx_nat, HT.sIx_nat, hl, List.drop_take]
  by_cases h1 : a ≤ (tl z).length
  · rw [show min a (tl z).length = a from Nat.min_eq_left h1]
    by_cases h2 : b ≤ (tl z).length
    · rw [show min b (tl z).length = b from Nat.min_eq_left h2]
    · rw [show min b (tl z).length = (tl z).length from Nat.min_eq_right (by omega)]
      rw [List.take_of_length_le (by rw [List.length_drop]; omega), List.take_of_length_le (by rw [List.length_drop]; omega)]
  · rw [show min a (tl z).length = (tl z).length from Nat.min_eq_right (by omega), List.drop_eq_nil_of_le (Nat.le_refl _), List.drop_eq_nil_of_le (by omega), List.take_nil, List.take_nil]
open TL in
theorem cut_to (z : Str) (b : Nat) : tl (cutS z none (some (b : Int))) = (tl z).take b := by
  have hl : z.length = (tl z).length := len_tl z
  unfold cutS
  rw [tl_mk]
  show List.take (HT.sIx z.length z.length (some (b : Int)) - 0) (List.drop 0 (tl z)) = _
  rw [HT.sIx_nat, hl, Nat.sub_zero, List.drop_zero]
  by_cases h2 : b ≤ (tl z).length
  · rw [Nat.min_eq_left h2]
  · rw [Nat.min_eq_right (by omega), List.take_of_length_le (Nat.le_refl _), List.take_of_length_le (by omega)]
open TL in
theorem cut_from (z : Str) (a : Nat) : tl (cutS z (some (a : Int)) none) = (tl z).drop a := by
  have hl : z.length = (tl z).length := len_tl z
  unfold cutS
  rw [tl_mk]
  show List.take (z.length - HT.sIx z.length 0 (some (a : Int))) (List.drop (HT.sIx z.length 0 (some (a : Int))) (tl z)) = _
  rw [HT.sIx_nat, hl]
  by_cases h1 : a ≤ (tl z).length
  · rw [Nat.min_eq_left h1, List.take_of_length_le (by rw [List.length_drop]; omega)]
  · rw [Nat.min_eq_right (by omega), List.drop_eq_nil_of_le (Nat.le_refl _), List.drop_eq_nil_of_le (by omega), List.take_nil]
theorem tl_one (c : Nat) : TL.tl ⟨#[c]⟩ = [c] := rfl
open TL in
theorem cut1 (z : Str) (s c : Nat) : cutS z (some (s : Int)) (some ((s : Int) + 1)) = ⟨#[c]⟩ ↔ (tl z)[s]? = some c := by
  have e : ((s : Int) + 1) = ((s + 1 : Nat) : Int) := by omega
  rw [e]
  have k : tl (cutS z (some (s : Int)) (some ((s + 1 : Nat) : Int))) = (tl z)[s]?.toList := by
    rw [cut_tl, List.drop_take, show s + 1 - s = 1 by omega]
    cases h : (tl z)[s]? with
    | none =>
      rw [List.drop_eq_nil_of_le (List.getElem?_eq_none_iff.mp h)]
      rfl
    | some d =>
      obtain ⟨hl, hd⟩ := List.getElem?_eq_some_iff.mp h
      rw [List.drop_eq_getElem_cons hl, hd]
      rfl
  constructor
  · intro h
    rw [h] at k
    have k' : [c] = (tl z)[s]?.toList := k
    cases h2 : (tl z)[s]? with
    | none => rw [h2] at k'; cases k'
    | some d => rw [h2] at k'; cases k'; rfl
  · intro h
    refine ext_tl ?_
    rw [k, h]
    rfl
open TL in
theorem cut0 (z : Str) (c : Nat) : cutS z none (some 1) = ⟨#[c]⟩ ↔ (tl z).head? = some c := by
  have k : tl (cutS z none (some 1)) = (tl z).take 1 := cut_to z 1
  constructor
  · intro h
    rw [h] at k
    have k' : [c] = (tl z).take 1 := k
    cases h2 : tl z with
    | nil => rw [h2] at k'; cases k'
    | cons d r => rw [h2] at k'; cases k'; rfl
  · intro h
    refine ext_tl ?_
    rw [k]
    cases h2 : tl z with
    | nil => rw [h2] at h; cases h
    | cons d r => rw [h2] at h; cases h; rfl
theorem fin {Q : VK} {v v' : V} {H : Hp} (q : Q v H) (e : v = v') : Q v' H := e ▸ q
theorem dp_pair_inv {K : PySem.W.Frag} {H : Hp} {x : V} {t b : Int} (h : Dp K H x (.tuple [.int t, .int b])) : ∃ p, x = .ref p ∧ SqT K H p [.int t, .int b] := by
  cases h with
  | tup h r =>
    cases r with
    | cons h0 r =>
      cases r with
      | cons h1 r =>
        cases r
        cases h0
        cases h1
        exact ⟨_, rfl, h⟩
theorem log_of {i : Int} {a : Nat} (h : i.natAbs < 2 ^ a) (h0 : 0 < a) (h9 : a ≤ 1920) : i.natAbs.log2 < 1920 := Nat.lt_of_lt_of_le (PySem.Flt.log2_lt_of h0 h) h9
theorem len_num {i : Int} (h : i.natAbs.log2 < 1920) : (PySem.Str.ofString (toString i)).length ≤ 2000 := by
  have e := PySem.int_text_length_le (k := 1920) (by decide) h
  rw [PySem.ofString_length]
  omega
theorem len_le {n : Nat} (h : n ≤ 16777216) : n ≤ sizeLine := h
theorem len_app (x y : Str) : (x ++ y).length = x.length + y.length := PySem.Str.length_append x y
theorem len_emp : Str.empty.length = 0 := rfl
theorem sget {H H' : Hp} {a : Addr} {o : HO} (h : H a = some o) (e : Same H H') : H' a = some o := e _ _ h
section
variable {X : Cx} {K : PySem.W.Frag}
theorem op_inK (h : X.K = K) : OpR X (compareOp .In) (rInU K) := h ▸ op_inU
theorem op_niK (h : X.K = K) : OpR X (compareOp .NotIn) (rNiU K) := h ▸ op_niU
theorem sl_K (h : X.K = K) : SlR X (rSlU K) := h ▸ sl_U
theorem call_lenK (h : X.K = K) : CallR X (.builtin "len") (rLenU K) := h ▸ call_lenU
theorem lit (n : Nat) : (OfNat.ofNat n : Int) = ((OfNat.ofNat n : Nat) : Int) := rfl
theorem g_powL {H : Hp} {Q : VK} {i j : Int} {n : Nat} (e : j = (n : Int)) (hb : (Builtin.Int.intBits i : Int) * j ≤ 2 ^ 27) (q : Q (.int (i ^ n)) H) : rI CPowU (fun i j => .int (i ^ j.toNat)) (.int i) (.int j) H Q := by
  refine ⟨i, j, rfl, rfl, ⟨?_, hb⟩, ?_⟩
  · rw [e]; omega
  · show Q (.int (i ^ j.toNat)) H
    rw [e, Int.toNat_natCast]; exact q
variable {H : Hp} {R : Hp → Prop} {p : Addr} {a b c v : V} {r : List V}
theorem g_setL0 (h : H p = some (.lst (a :: r))) (q : ∀ H', Same (dl H p) H' → H' p = some (.lst (v :: r)) → R H') : rSetL (.ref p) (.int 0) v H R :=
  ⟨p, _, 0, 0, rfl, rfl, h, by unfold ixN; rw [if_pos (by decide), if_pos (by rw [List.length_cons]; omega)]; rfl, q _ (dl_mut dl_sub) upd_same⟩
theorem g_setL1 (h : H p = some (.lst (a :: b :: r))) (q : ∀ H', Same (dl H p) H' → H' p = some (.lst (a :: v :: r)) → R H') : rSetL (.ref p) (.int 1) v H R :=
  ⟨p, _, 1, 1, rfl, rfl, h, by unfold ixN; rw [if_pos (by decide), if_pos (by simp only [List.length_cons]; omega)]; rfl, q _ (dl_mut dl_sub) upd_same⟩
theorem g_setL2 (h : H p = some (.lst (a :: b :: c :: r))) (q : ∀ H', Same (dl H p) H' → H' p = some (.lst (a :: b :: v :: r)) → R H') : rSetL (.ref p) (.int 2) v H R :=
  ⟨p, _, 2, 2, rfl, rfl, h, by unfold ixN; rw [if_pos (by decide), if_pos (by simp only [List.length_cons]; omega)]; rfl, q _ (dl_mut dl_sub) upd_same⟩
end
open TL in
theorem cut_mem {z : Str} {lo hi : Option Int} {c : Nat} (h : c ∈ tl (cutS z lo hi)) : c ∈ tl z := by
  unfold cutS at h
  rw [tl_mk] at h
  exact List.mem_of_mem_drop (List.mem_of_mem_take h)
open TL in
theorem cut_len {z : Str} {lo hi : Option Int} : (cutS z lo hi).length ≤ z.length := by
  rw [len_tl (cutS z lo hi), len_tl z]
  unfold cutS
  rw [tl_mk, List.length_take, List.length_drop]
  show min _ ((tl z).length - _) ≤ _
  omega
open TL in
/-- all signs are in ASCII -/
def Asc (z : Str) : Prop := ∀ c ∈ tl z, c < 128
open TL in
theorem asc_app {x y : Str} (h : Asc x) (k : Asc y) : Asc (x ++ y) := fun c hc => by
  rw [tl_append] at hc
  rcases List.mem_append.mp hc with e | e
  · exact h c e
  · exact k c e
theorem asc_cut {z : Str} {lo hi : Option Int} (h : Asc z) : Asc (cutS z lo hi) := fun c hc => h c (cut_mem hc)
open TL in
theorem asc_num (n : Nat) : Asc (Str.ofString (toString ((n : Nat) : Int))) := fun c hc => by
  rw [tl_num] at hc
  have := numL_digits n c hc
  omega
theorem asc_sign {z : Str} {c : Nat} (h : Asc z) (hc : c ∈ TL.tl z) : Asc ⟨#[c]⟩ := fun d hd => by
  rw [tl_one] at hd
  rcases List.mem_cons.mp hd with rfl | k
  · exact h _ hc
  · cases k
theorem shaped_strs {l : List Nat} (h : ∀ c ∈ l, c < 128) : SeqAt.shaped (.list (l.map fun c => PyData.str ⟨#[c]⟩)) = true := by
  have k : PyData.canLayAll0 (l.map fun c => PyData.str ⟨#[c]⟩) = true ∧ PyData.depthAll (l.map fun c => PyData.str ⟨#[c]⟩) ≤ 1 := by
    induction l with
    | nil => exact ⟨rfl, by decide⟩
    | cons c r ih =>
      obtain ⟨i1, i2⟩ := ih fun d hd => h d (List.mem_cons_of_mem _ hd)
      have hc := h c (List.mem_cons_self ..)
      refine ⟨?_, ?_⟩
      · rw [List.map_cons, PyData.canLayAll0, i1, Bool.and_true]
        simp [PyData.canLay0, PyData.strOk]
        omega
      · rw [List.map_cons, PyData.depthAll]
        simp only [PyData.depth]
        omega
  unfold SeqAt.shaped
  rw [PyData.canLay0, k.1, Bool.true_and, decide_eq_true_eq, PyData.depth]
  omega
section
variable {K : PySem.W.Frag} {H H' : Hp}
theorem dpn : Dp K H .non .none := .non
theorem dpi (i : Int) : Dp K H (.int i) (.int i) := .int i
theorem dps (z : Str) : Dp K H (.str z) (.str z) := .str z
theorem dpb (b : Bool) : Dp K H (.bl b) (.bool b) := .bl b
theorem dp_t2 {p : Addr} {a b : Int} (h : H p = some (.tup [.int a, .int b])) (e : Same H H') : Dp K H' (.ref p) (.tuple [.int a, .int b]) := .tup (.inl (.inl (sget h e))) (.cons (.int a) (.cons (.int b) .nil))
end
theorem g_nx {a c d : L2.St → Hp → Prop} {b : V → Hp → Prop} {σ : L2.St} {H : Hp} (h : a σ H) : ({ nx := a, rt := b, bk := c, ct := d } : Ends).nx σ H := h
end Sm
/-! SmKey: own exceptions over KeyError, which has no __new__ of its own. -/
namespace Sm
open PySem PySem.Spec PySem.F
open Builtin Builtin.ObjectAttr
section
variable {M : Model} {prog : Program} {w : World} {A : Around} {E : Value → Shared → Prop} {R : Result → Shared → Prop} {h : Heap} {g : Array GenState} {d : Drawn} {t : Nat} {os : OsState}
variable {nm q : Str} {C N : Addr} {bs bm bmB : List Value} {hdct : Bool} {sn : List Str} {sub : List Value} {ab : Bool} {col : Option Bool} {dd : Option Addr} {k0 k1 k2 k3 k5 : Option Value} {B newId initId : String} {rest : List Value}
/-- what the class at C must have above it to be made by the built-in B's __new__ -/
def Over (bm : List Value) (B : String) : Prop := bm.contains (.type B) = true ∧ bm.contains (.type "AttributeError") = false ∧ bm.contains (.type "NameError") = false
theorem over_check (F : ExcBaseFacts B newId initId bmB) (o : Over bm B) {Q : Unit → Shared → Prop} (hC : h.get? C = some (excClassObj nm q C N bs bm hdct sn sub ab col dd k0 k1 k2 k3 k5 newId)) (z : Q () ⟨h, g, d, t, os⟩) :
    wpAny M A (checkBuiltinCall newId ⟨.ref C :: rest, []⟩) Q E ⟨h, g, d, t, os⟩ := by
  have c1 : (Value.ref C :: bm).contains (.type B) = true := by rw [List.contains_cons, o.1, Bool.or_true]
  have c2 := F.noStar
  simp only [checkBuiltinCall, F.newKind, F.newSplit, F.newRow]
  repeat (first
    | refine wpAny_loadPart_at hC ?_
    | (refine wpAny_isSubtype_exc hC ?_; rw [c1])
    | refine wpAny_staticBase_exc hC ?_
    | refine wpAny_madeBy_exc hC ?_
    | simp only [bne_self_eq_false, Bool.false_eq_true, if_false]
    | wp_step)
  exact z
theorem over_new (F : ExcBaseFacts B newId initId bmB) (o : Over bm B) (hl : rest.length ≤ sizeLine) (hC : h.get? C = some (excClassObj nm q C N bs bm hdct sn sub ab col dd k0 k1 k2 k3 k5 newId))
    (z : R (.ok (.ret (.ref (h.objs.size + 1)))) ⟨(h.push { cls := .type "tuple", data := .seq rest.toArray }).push (HandSPX.excO C h.objs.size), g, d, t, os⟩) :
    codeAny (model prog w) A (.builtin newId ⟨.ref C :: rest, []⟩) R ⟨h, g, d, t, os⟩ := by
  have c0 := F.ends
  have c1 : (Value.ref C :: bm).contains (.type B) = true := by rw [List.contains_cons, o.1, Bool.or_true]
  have c2 : (Value.ref C :: bm).contains (.type "AttributeError") = false := by rw [List.contains_cons, o.2.1, Bool.or_false]; rfl
  have c3 : (Value.ref C :: bm).contains (.type "NameError") = false := by rw [List.contains_cons, o.2.2, Bool.or_false]; rfl
  refine codeAny_builtinAt F.entry ?_
  unfold Builtin.«BaseException.__new__»
  refine wpAt_bind ?_
  show wpAt _ _ _ (stack >>= _) _ _ _
  refine wpAt_bind (wpAt_stack fun _ _ => wpAt_of_wpAny ?_)
  wp_walk
  refine wpAt_of_wpAny ?_
  rw [F.owner]
  repeat (first
    | with_reducible refine wpAny_madeHere_exc F.canon hC ?_
    | with_reducible refine wpAny_loadPart_at hC ?_
    | (with_reducible refine wpAny_isSubtype_exc hC ?_; first | rw [c1] | rw [c2] | rw [c3])
    | wp_step)
  show R _ _
  rw [Heap.size_push]
  exact z
theorem over_type (F : ExcBaseFacts B newId initId bmB) (o : Over bm B) (hl : rest.length ≤ sizeLine) {fI : Addr} {Q : Fin → Shared → Prop} (hC : h.get? C = some (excClassObj nm q C N bs bm hdct sn sub ab col dd k0 k1 k2 k3 k5 newId))
    (i1 : W.Looks (model prog w) h (typeLookup (.ref C) "__init__") (some (.ref fI))) (b1 : ∀ self, W.Looks (model prog w) h (bindSpecial (.ref fI) self) (.ref fI, [self]))
    (z : codeAny (model prog w) A (.call (.ref fI) ⟨.ref (h.objs.size + 1) :: rest, []⟩)
      (fun r s' => match r with
        | .ok (.ret v) => v = .none ∧ Q (.done (.ret (.ref (h.objs.size + 1)))) s'
        | .ok _ => False
        | .error e => E e s') ⟨(h.push (W.kdv_tup rest)).push (HandSPX.excO C h.objs.size), g, d, t, os⟩) :
    wpAny (model prog w) A (Builtin.«type.__call__» ⟨.ref C :: rest, []⟩) Q E ⟨h, g, d, t, os⟩ := by
  repeat (first
    | with_reducible refine wpAny_loadPart_at hC ?_
    | with_reducible refine wpAny_madeBy_exc hC ?_
    | wp_step)
  refine codeAny_call_builtin_code (Code.quiet_builtin _ F.quiet) (over_check F o hC (over_new F o hl hC ?_))
  show wpAny _ _ _ _ _ _
  have kp : ∀ b u, h.get? b = some u → ((h.push (W.kdv_tup rest)).push (HandSPX.excO C h.objs.size)).get? b = some u := fun b u e => Heap.get?_push_of_some _ (Heap.get?_push_of_some _ e)
  have hC1 := kp _ _ hC
  have hg : ((h.push (W.kdv_tup rest)).push (HandSPX.excO C h.objs.size)).get? (h.objs.size + 1) = some (HandSPX.excO C h.objs.size) := by heap_get
  have cc : (Value.ref C :: bm).contains (.ref C) = true := by simp
  unfold isInstance
  repeat (first
    | with_reducible refine wpAny_loadPart_at hg ?_
    | (with_reducible refine wpAny_isSubtype_exc hC1 ?_; rw [cc])
    | wp_step)
  show wpAny _ _ (typeLookup (.ref C) _) _ _ _
  refine (i1.keeps kp).at (wpAny_holding (wpAny_bind (((b1 (.ref (h.objs.size + 1))).keeps kp).at ?_)))
  refine wpAny_bind (wpAny_call (codeAny_mono z fun r s' y => ?_))
  rcases r with e | (v | _ | _ | _)
  · exact y
  all_goals first
    | exact False.elim y
    | (obtain ⟨rfl, y⟩ := y; exact wpAny_pure (wpAny_pure y))
    | (obtain ⟨rfl, y⟩ := y; wp_walk; done)
    | (obtain ⟨rfl, y⟩ := y; wp_walk; exact y)
theorem over_call (F : ExcBaseFacts B newId initId bmB) (o : Over bm B) (hl : rest.length ≤ sizeLine) {fI : Addr} (hC : h.get? C = some (excClassObj nm q C N bs bm hdct sn sub ab col dd k0 k1 k2 k3 k5 newId))
    (i1 : W.Looks (model prog w) h (typeLookup (.ref C) "__init__") (some (.ref fI))) (b1 : ∀ self, W.Looks (model prog w) h (bindSpecial (.ref fI) self) (.ref fI, [self]))
    (z : codeAny (model prog w) (A.under (.builtin "type.__call__" ⟨.ref C :: rest, []⟩)) (.call (.ref fI) ⟨.ref (h.objs.size + 1) :: rest, []⟩) (W.InitBack (h.objs.size + 1) R) ⟨(h.push (W.kdv_tup rest)).push (HandSPX.excO C h.objs.size), g, d, t, os⟩) :
    codeAny (model prog w) A (.call (.ref C) ⟨rest, []⟩) R ⟨h, g, d, t, os⟩ := by
  have u1 := tc_lookup
  have u2 := tc_bind (.ref C)
  have u3 : (⟨h, g, d, t, os⟩ : Shared).TypeIs (.ref C) "type" := ⟨_, hC, rfl⟩
  refine codeAny_of_tree ?_
  show wpAny _ _ (callAny (.ref C) _) _ _ _
  repeat (any_goals (first
    | assumption
    | with_reducible refine wpAny_loadPart_at hC ?_
    | wp_step))
  refine ⟨rfl, codeAny_call_builtin_at (Code.quiet_builtin _ (by decide +kernel)) entry_typeCall (wpAny_check_type_call_sub hC (over_type F o hl hC i1 b1 (codeAny_mono z fun r s' y => ?_)))⟩
  rcases r with e | (v | _ | _ | _) <;> exact y
end
/-- what making and setting up an exception over B asks of B -/
structure XF (B newId initId : String) (bmB : List Value) : Prop where
  call : ∀ {prog : Program} {w : World} {A : Around} {R : Result → Shared → Prop} {h : Heap} {g : Array GenState} {d : Drawn} {t : Nat} {os : OsState} {nm q : Str} {C N : Addr} {bs bm : List Value} {hdct : Bool} {sn : List Str} {sub : List Value} {ab : Bool} {col : Option Bool}
    {dd : Option Addr} {k0 k1 k2 k3 k5 : Option Value} {rest : List Value} {fI : Addr}, (∀ X : String, bm.contains (.type X) = bmB.contains (.type X)) → h.get? C = some (excClassObj nm q C N bs bm hdct sn sub ab col dd k0 k1 k2 k3 k5 newId) →
    W.Looks (model prog w) h (typeLookup (.ref C) "__init__") (some (.ref fI)) → (∀ self, W.Looks (model prog w) h (bindSpecial (.ref fI) self) (.ref fI, [self])) → rest.length ≤ sizeLine →
    codeAny (model prog w) (A.under (.builtin "type.__call__" ⟨.ref C :: rest, []⟩)) (.call (.ref fI) ⟨.ref (h.objs.size + 1) :: rest, []⟩) (W.InitBack (h.objs.size + 1) R) ⟨(h.push (W.kdv_tup rest)).push (HandSPX.excO C h.objs.size), g, d, t, os⟩ →
    codeAny (model prog w) A (.call (.ref C) ⟨rest, []⟩) R ⟨h, g, d, t, os⟩
  plain : plainId initId = true
  entry : entryFor table initId = some Builtin.«BaseException.__init__»
  bound : ∀ {M : Model} {A : Around} {E : Value → Shared → Prop} {h : Heap} {g : Array GenState} {d : Drawn} {t : Nat} {os : OsState} {nm q : Str} {C N e : Addr} {oe : Obj} {bs bm : List Value} {hdct : Bool} {sn : List Str} {sub : List Value} {ab : Bool} {col : Option Bool}
    {dd : Option Addr} {k0 k1 k2 k3 k5 : Option Value} {rest : List Value} {Q : Unit → Shared → Prop}, h.get? C = some (excClassObj nm q C N bs bm hdct sn sub ab col dd k0 k1 k2 k3 k5 newId) → h.get? e = some oe → oe.cls = .ref C → Q () ⟨h, g, d, t, os⟩ →
    wpAny M A (checkBoundCall initId ⟨.ref e :: rest, []⟩) Q E ⟨h, g, d, t, os⟩
theorem xf_of {B newId initId : String} {bmB : List Value} (F : ExcBaseFacts B newId initId bmB) : XF B newId initId bmB where
  call := fun hT hC hi hb hl hq => HandSPX.call_own F hT hC hi hb hl hq
  plain := F.init.plain
  entry := F.initEntry
  bound := fun hC he hc hq => W.check_bound_init F.toExcCallFacts hC he hc hq
theorem xf_key : XF "KeyError" "LookupError.__new__" "KeyError.__init__" [.type "KeyError", .type "LookupError", .type "Exception", .type "BaseException", .type "object"] where
  call := fun hT hC hi hb hl hq => over_call excBase_LookupError ⟨(hT _).trans (by decide +kernel), (hT _).trans (by decide +kernel), (hT _).trans (by decide +kernel)⟩ hl hC hi hb hq
  plain := by decide +kernel
  entry := entryFor_alias (id' := "BaseException.__init__") (by rw [fastTable_eq_tree]; kernel_rfl) (by rfl) (by decide +kernel) (by rw [fastTable_eq_tree]; kernel_rfl)
  bound := fun {M A E h g d t os nm q C N e oe bs bm hdct sn sub ab col dd k0 k1 k2 k3 k5 rest Q} hC he hc hq => by
    have b1 : builtinKind "KeyError.__init__" = builtinKind "LookupError.__init__" := by decide +kernel
    have b2 : Manifest.signature? "KeyError.__init__" = some ⟨.positional, "*", "KeyError", .self, [⟨"args", .varPos, false⟩]⟩ := by kernel_rfl
    have b3 := excBase_LookupError.initKind
    simp only [checkBoundCall, b1, b2, b3]
    repeat (first
      | (with_reducible refine wpAny_loadPart_at he ?_; rw [hc])
      | with_reducible refine wpAny_loadPart_at hC ?_
      | wp_step)
    refine wpAny_onRaise ?_
    rw [show ∀ (a b : String) (n : Nat), Bind.check ⟨.positional, "*", "KeyError", .self, [⟨"args", .varPos, false⟩]⟩ a b n (List.map (fun x => x.fst) ({ pos := Value.ref e :: rest } : Args).kw) = pure () from fun a b n => check_star_args _ _ _ _ _ _]
    exact wpAny_pure hq
theorem kxs_KeyError : PySem.W.KxsFacts "KeyError" "KeyError.__init__" := ⟨by show builtinType _ = _; rw [builtinType_eq_fast]; kernel_rfl, by first | kernel_rfl | rfl⟩
theorem store_KeyError : StoreFacts "KeyError" [.type "KeyError", .type "LookupError", .type "Exception", .type "BaseException", .type "object"] "object.__setattr__" "object" :=
  { mro := by kernel_rfl, slot := .of (owner := "object") (n := "__setattr__") (by rw [typeLookup_type, builtinLookup_eq_fast]; kernel_rfl) (by decide +kernel) (by decide +kernel) (by decide +kernel) (by first | exact Or.inl (by decide +kernel) | exact Or.inr (by decide +kernel)) (by rw [isSubtype_type]; kernel_rfl)
    entry := entry_object_sa, kind := by decide +kernel, split := by decide +kernel, hasOwner := by decide +kernel, args := fun a b c => by unfold argsOk; kernel_rfl
    passes := fun _ => by kernel_rfl }
end Sm
/-! SmExc: own exceptions over any built-in base, with and without an __init__ that says super().__init__(x); self.f = x. -/
namespace Sm
open PySem PySem.Spec PyProof.Rows L2
open PySem.W PySem.Calls PyProof.V Builtin.ObjectAttr
/-! ### the text of such an __init__ -/
def iArgs (f : Str) (p1 p2 : Pos) : Arguments := { posonlyargs := [], args := [{ arg := "self", annotation := none, pos := p1 }, { arg := f, annotation := none, pos := p2 }], vararg := none, kwonlyargs := [], kw_defaults := [], kwarg := none, defaults := [] }
def iBody (f : Str) (a1 a2 a3 a4 a5 a6 b1 b2 b3 b4 : Pos) : List Stmt :=
  [.Expr (.Call (.Attribute (.Call (.Name "super" a1) [] [] a2) "__init__" a3) [.Name f a4] [] a5) a6,
   .Assign [.Attribute (.Name "self" b1) f b2] (.Name f b3) b4]
def iScope (f : Str) : Scope := { kind := .function, names := [(PySem.Str.ofString "self", .local), (f, .local), (PySem.Str.ofString "__class__", .free), (PySem.Str.ofString "super", .globalImplicit)], isGenerator := false, isCoroutine := false, more := [] }
abbrev excTl := PySem.W.excTail
/-- what the written part says of an own exception class, at C, over the base B -/
structure XBase (K : Frag) (mg : Str → Option Value) (x : Str) (C : Addr) (B newId initId : String) (bmB : List Value) : Prop where
  gC : mg x = some (.ref C)
  kC : keepIn K (.ref C) = true
  exC : subIn K (.ref C) (.type "BaseException") = some true
  tyC : typeIn K (.ref C) = some (.type "type")
structure XSup (P : Program) (K : Frag) (mg : Str → Option Value) (x f : Str) (C fI cda cc : Addr) (B newId initId : String) (bmB : List Value) : Prop extends XBase K mg x C B newId initId bmB where
  facts : XF B newId initId bmB
  init : excInitIn K C bmB newId = true
  over : excOver K C bmB = true
  kxs : KxsFacts B initId
  store : StoreFacts B bmB "object.__setattr__" "object"
  subB : subIn K (.ref C) (.type B) = some true
  sa : findIn K (.ref C) "__setattr__" = some (some (.builtin "object.__setattr__"))
  ga : findIn K (.ref C) "__getattribute__" = some (some (.builtin "BaseException.__getattribute__"))
  gg : findIn K (.ref C) "__getattr__" = some none
  noN : findIn K (.ref C) f = some none
  iC : findIn K (.ref C) "__init__" = some (some (.ref fI))
  tI : typeIn K (.ref fI) = some (.type "function")
  hdC : hasDictIn K C = true
  op : nsIn K cStatics "thirdparty.any" = some none
  sup : ks_superIn K C C "__init__" = some (some (.builtin initId))
  subC : mroIn K C (.ref C) = some true
  nsuper : nsIn K mainGlobals "super" = some none
  fn : ∃ (oc : Value) (od : Option Addr) (dV kV doc pm : Value) (an : Option Addr) (ct : Value) (osl : Array (Option Value)) (p1 p2 a1 a2 a3 a4 a5 a6 b1 b2 b3 b4 : Pos) (q : Str),
    K.lookup fI = some ⟨oc, od, .func (ksFn "__init__" q (iArgs f p1 p2) (iBody f a1 a2 a3 a4 a5 a6 b1 b2 b3 b4) (iScope f) dV kV doc pm an (.ref cda) ct cc), osl⟩ ∧ codeIn K (.ref cda) q = true ∧ (a3.endLine == a5.line) = true ∧
      ∀ x v, bindArgs (ksFn "__init__" q (iArgs f p1 p2) (iBody f a1 a2 a3 a4 a5 a6 b1 b2 b3 b4) (iScope f) dV kV doc pm an (.ref cda) ct cc) ⟨[.ref x, v], []⟩ = pure [(("self" : Str), Value.ref x), (f, v)]
  code : ∃ (ccl : Value) (cdd : Option Addr) (vs : Array Value) (ccs : Array (Option Value)) (file : Str) (tf : Tok), K.lookup cda = some ⟨ccl, cdd, .fields vs, ccs⟩ ∧ vs[2]? = some (.str file tf) ∧ ((P.main.file : Str) == file) = true
  cell : ∃ (cl : Value) (cld : Option Addr) (csl : Array (Option Value)), K.lookup cc = some ⟨cl, cld, .cell (some (.ref C)), csl⟩
  top : (P.main.scope.names.lookup ("super" : Str)).isSome = false
  fne : (f == ("self" : Str)) = false ∧ (f == ("__debug__" : Str)) = false ∧ (f == ("super" : Str)) = false ∧ (f == ("__class__" : Str)) = false
/-- what __init__ leaves of a fresh exception at x -/
structure SupEnd (h h' : Heap) (x C dx : Addr) (f : Str) (v : Value) : Prop where
  keep : ∀ b o, b ≠ x → h.get? b = some o → h'.get? b = some o
  obj : ∃ t1 : Addr, h'.get? x = some { cls := .ref C, dict := some dx, data := .fields #[.ref t1, .none, .none, .none, .bool false, .none] }
  dbig : h.objs.size ≤ dx
  dne : dx ≠ x
  ns : h'.Ns1 dx (fun y => if y = f then some v else none)
section
variable {prog : Program} {w : World} {A : Around} {E : Value → Shared → Prop} {R : Result → Shared → Prop} {s : Shared} {K : Frag} {mg mb : Str → Option Value} {f nm : Str} {C fI cda cc x : Addr} {B newId initId : String} {bmB : List Value} {v : Value}
/-- self.f = v on an exception without a dict -/
theorem sup_store (T : XSup prog K mg nm f C fI cda cc B newId initId bmB) {fv : Array Value} (X : K.In s.heap) (hx : s.heap.get? x = some { cls := .ref C, data := .fields fv })
    {Q : Unit → Shared → Prop}
    (hq : ∀ h' tk' dx, (∀ b o, b ≠ x → s.heap.get? b = some o → h'.get? b = some o) → s.heap.objs.size ≤ dx → dx ≠ x → h'.get? x = some { cls := .ref C, dict := some dx, data := .fields fv } →
      h'.Ns1 dx (fun y => if y = f then some v else none) → Q () { s with heap := h', toks := tk' }) :
    wpAny (model prog w) A (setAttr (.ref x) f v) Q E s := by
  obtain ⟨hp, g, d, t, os⟩ := s
  have I : InstAt hp x { cls := .ref C, data := .fields fv } C none := ⟨hx, rfl, rfl, trivial⟩
  obtain ⟨cd, hc, hdd⟩ := any_some T.hdC
  refine set_plain X (ox := { cls := .ref C, data := .fields fv }) (od := none) I T.sa ?_
  refine osa_openX (r := none) T.store X I T.over (by unfold takerIn; rw [T.noN]; rfl) (fun b => ?_)
  have hcls : Looks (model prog w) hp (classData C) cd := looks_clsIn X hc
  have hxs : x ≠ hp.objs.size := Nat.ne_of_lt (Heap.lt_size hx)
  obtain ⟨nm, bs, mro, ns, qn, hd, sn, sb, ab, col, del⟩ := cd
  dsimp only at hdd
  subst hdd
  dsimp only
  unfold storeInOwnDict ownDictForStores
  repeat (first | with_reducible refine PySem.HandSPX.store_in_new ?_ ?_ | with_reducible refine wpAny_loadPart_at hx ?_ | with_reducible refine hcls.at ?_ | wp_step)
  · exact ⟨_, #[], _, (Heap.get?_update_ne _ _ _ _ hxs.symm).trans (Heap.get?_push_at rfl rfl), rfl, fun e he => absurd he (by simp), fun _ => rfl⟩
  · intro h' tk' hn' hs
    have hx1 : (hp.push { cls := .type "dict", data := .dict #[] }).get? x = some { cls := .ref C, data := .fields fv } := Heap.get?_push_of_some _ hx
    refine hq h' tk' hp.objs.size (fun b o hb ho => ?_) (Nat.le_refl _) hxs.symm ?_ hn'
    · exact (hs.2 b (Nat.ne_of_lt (Heap.lt_size ho))).trans ((Heap.get?_update_ne _ _ _ _ hb).trans (Heap.get?_push_of_some _ ho))
    · exact (hs.2 x hxs).trans (Heap.get?_update_self _ hx1 rfl)
/-- the bound built-in __init__, called -/
theorem sup_call (T : XSup prog K mg nm f C fI cda cc B newId initId bmB) {u t0 : Addr} {Q : Value → Shared → Prop} (X : K.In s.heap) (hu : s.heap.get? u = some (kxs_mw initId x)) (hx : s.heap.get? x = some (HandSPX.excO C t0))
    (hq : ∀ h' t1, (∀ b o, b ≠ x → s.heap.get? b = some o → h'.get? b = some o) → h'.get? x = some (HandSPX.excO C t1) → Q .none { s with heap := h' }) :
    wpAny (model prog w) A (call (.ref u) [v]) Q E s := by
  obtain ⟨nm', N', qn, bs, bm, hdct, sn, sub, ab, col, dd, k0, k1, k2, k3, k5, hC, hT⟩ := excInit_of X T.init
  obtain ⟨hh, g, d, tk, os⟩ := s
  refine wpAny_call (codeAny_of_tree ?_); (show wpAny _ A.in1 (callAny (.ref u) ⟨[v], []⟩) _ _ _); simp only [callAny]
  refine wpAny_bind (wpAny_load hu ?_); simp only [kxs_mw, show (Value.type "method-wrapper" == Value.type "method" || Value.type "method-wrapper" == Value.type "builtin_function_or_method" || Value.type "method-wrapper" == Value.type "method-wrapper") = true by decide, if_true]
  refine PySem.W.KFB.if_so (by decide) (wpAny_bind (T.facts.bound hC hx rfl (wpAny_bind (wpAny_pure (wpAny_pure ⟨plainId_quiet T.facts.plain _, codeAny_builtin T.facts.entry ?_⟩)))))
  refine exc_init_tree (cls := .ref C) (t0 := t0) (dv := none) (c2 := .none) (c3 := .none) (b4 := .bool false) hx (by rw [sizeLine_eq]; exact (by decide : 1 ≤ 16777216)) (fun h' k e' t' => ?_)
  exact hq h' _ k e'
/-- the call of __init__ on a fresh exception -/
theorem sup_init (T : XSup prog K mg nm f C fI cda cc B newId initId bmB) {t0 : Addr} (X : K.In s.heap) (G : s.heap.Ns mainGlobals mg) (Gb : s.heap.Ns builtinsNs mb) (hb : ∀ y : Str, y ≠ "__name__" → mb y = bootBuiltins y)
    (hlim : s.heap.NoLimit) (hx : s.heap.get? x = some (HandSPX.excO C t0)) (hnx : ∀ o, K.lookup x = some o → False) (hroom : A.depth < recursionLimit)
    (hq : ∀ h' tk dx, SupEnd s.heap h' x C dx f v → R (.ok (.ret .none)) { s with heap := h', toks := tk }) :
    codeAny (model prog w) A (.call (.ref fI) ⟨[.ref x, v], []⟩) R s := by
  obtain ⟨oc, od, dV, kV, doc, pm, an, ct, osl, p1, p2, a1, a2, a3, a4, a5, a6, b1, b2, b3, b4, q, ho, hcd, hline, hbd⟩ := T.fn
  obtain ⟨f1, f2, f3, f4⟩ := T.fne
  have f1' : ¬ f = "self" := beq_eq_false_iff_ne.mp f1
  have g3 : (("super" : Str) == f) = false := beq_eq_false_iff_ne.mpr fun z => (beq_eq_false_iff_ne.mp f3) z.symm
  have g4 : (("__class__" : Str) == f) = false := beq_eq_false_iff_ne.mpr fun z => (beq_eq_false_iff_ne.mp f4) z.symm
  have g1 : (("self" : Str) == f) = false := beq_eq_false_iff_ne.mpr fun z => (beq_eq_false_iff_ne.mp f1) z.symm
  have lf : (iScope f).names.lookup f = some .local := by simp [iScope, List.lookup, f1]
  have ls : (iScope f).names.lookup ("self" : Str) = some .local := by simp [iScope, List.lookup]
  have lsu : (iScope f).names.lookup ("super" : Str) = some .globalImplicit := by
    show List.lookup ("super" : Str) [(("self" : Str), NameKind.local), (f, .local), (("__class__" : Str), .free), (("super" : Str), .globalImplicit)] = _
    rw [List.lookup_cons, show (("super" : Str) == "self") = false by decide, List.lookup_cons, g3, List.lookup_cons, show (("super" : Str) == "__class__") = false by decide]
    rfl
  have lc : (iScope f).names.lookup ("__class__" : Str) = some .free := by
    show List.lookup ("__class__" : Str) [(("self" : Str), NameKind.local), (f, .local), (("__class__" : Str), .free), (("super" : Str), .globalImplicit)] = _
    rw [List.lookup_cons, show (("__class__" : Str) == "self") = false by decide, List.lookup_cons, g4]
    rfl
  obtain ⟨ccl, cdd, vs, ccs, file, tf, hcode, hvs, hfile⟩ := T.code
  obtain ⟨cl, cld, csl, hcell⟩ := T.cell
  refine ks_codeAny_call_defAt (fd := ksFn "__init__" q (iArgs f p1 p2) (iBody f a1 a2 a3 a4 a5 a6 b1 b2 b3 b4) (iScope f) dV kV doc pm an (.ref cda) ct cc) (body := iBody f a1 a2 a3 a4 a5 a6 b1 b2 b3 b4)
    (binds := [("self", .ref x), (f, v)]) hroom (X _ _ ho) rfl hlim (codeRec_of X hcd) rfl (BindsTo.of_eq (hbd x v)) ?_ ?_ (fun h0 hns hk => ?_) rfl rfl rfl
  · intro y hy
    simp only [ksFn, iScope, List.mem_cons, List.not_mem_nil, or_false] at hy
    rcases hy with rfl | rfl | rfl | rfl <;> (intro z; cases z)
  · intro y hy
    simp only [List.mem_cons, List.not_mem_nil, or_false] at hy
    rcases hy with rfl | rfl
    · exact ls
    · exact lf
  · obtain ⟨hp, g, d, t, os⟩ := s
    have bv : ∀ y, ([(("self" : Str), Value.ref x), (f, v)].reverse.lookup y) = if y = f then some v else if y = "self" then some (.ref x) else none := by
      intro y
      show List.lookup y [(f, v), (("self" : Str), Value.ref x)] = _
      rw [List.lookup_cons, List.lookup_cons]
      by_cases e1 : y = f
      · simp [e1]
      · have e1' : (y == f) = false := by simpa using e1
        rw [e1', if_neg e1]
        by_cases e2 : y = "self"
        · simp [e2]
        · have e2' : (y == ("self" : Str)) = false := by simpa using e2
          rw [e2', if_neg e2]
          rfl
    have hx0 := hk _ _ hx
    have X0 : K.In h0 := X.keeps hk
    have hxs : x ≠ hp.objs.size := Nat.ne_of_lt (Heap.lt_size hx)
    obtain ⟨cd, hc, hdd⟩ := any_some T.hdC
    obtain ⟨nm', N', qn, bs, bm, hdct, sn, sub, ab, col, dd, k0, k1, k2, k3, k5, hC, hT⟩ := excInit_of X0 T.init
    have he : ∀ env : Env, eval (.Call (.Attribute (.Call (.Name "super" a1) [] [] a2) "__init__" a3) [.Name f a4] [] a5) env = (do
        let ov ← attributeBase (.Call (.Name "super" a1) [] [] a2) "__init__" env (eval (.Call (.Name "super" a1) [] [] a2) env)
        standAt a3.atName
        let (f1, first) ← holding [ov] (getMethod ov "__init__" (plainOf (.Call (.Name "super" a1) [] [] a2) env))
        callWith a5 f1 first (backTo a5 (starEach [.Name f a4] env)) []) := by
      intro env
      rw [arm_eval_Call]
      refine bind_congr fun ov => ?_
      refine bind_congr fun _ => ?_
      exact mcall_line rfl hline
    refine ks_wpAt_execs_cons (ks_wpAt_Expr_any (ks_wpAt_MethodCall (he := he _) ?_))
    refine ks_wpAt_super_base (env := ksEnv q (iScope f) hp.objs.size fI (.ref cda) cc) lsu lc (by decide) rfl (X0 _ _ ho) rfl rfl rfl (X0 _ _ hcode) rfl hvs hfile T.top ?_
    refine ks_loadName_global rfl lsu (loadGlobal_builtin (env := ksEnv q (iScope f) hp.objs.size fI (.ref cda) cc) (G.keeps hk) (mg_none_of X G T.nsuper) (Gb.keeps hk) ((hb _ (by decide +kernel)).trans (by decide +kernel)) ⟨rfl, ?_⟩)
    refine wpAny_loadName_free rfl lc rfl ⟨_, X0 _ _ hcell, rfl⟩ ?_
    refine wpAny_loadName_local rfl ls hns (v := .ref x) (by rw [bv, if_neg (Ne.symm f1'), if_pos rfl]) ?_
    refine ks_wpAny_isType_cls hC rfl ⟨rfl, ?_⟩
    refine ks_wpAny_call_super hC rfl hx0 rfl (fun c e => by cases e) (looks_mroIn X0 T.subC) (fun h1 e1 k1 => ?_)
    have X1 : K.In h1 := X0.keeps k1
    have hx1 := k1 _ _ hx0
    have I1 : InstAt h1 x (HandSPX.excO C t0) C none := ⟨hx1, rfl, rfl, trivial⟩
    have hI : Looks (model prog w) h1 (isInstance (.ref x) (.type B)) true := I1.type.andThen (looks_subIn X1 T.subB)
    have hm : alongIn K "__init__" ((cd.mro.dropWhile (· != .ref C)).drop 1) = some (some (.builtin initId)) := by
      have z := T.sup
      unfold ks_superIn at z
      rw [hc] at z
      exact z
    refine kxs_getMethod T.kxs e1 (looks_opaque X1 T.op) (l₀ := cd.mro) (fun A Q E s k q => wpAny_bind ((looks_clsIn X1 hc) A _ E s k (wpAny_pure q))) rfl X1 hm hI (ks_ne X1 I1 hc) (by decide) ?_
    have k2 : ∀ b o, h1.get? b = some o → (h1.push (kxs_mw initId x)).get? b = some o := fun b o e => Heap.get?_push_of_some _ e
    have hns2 : (h1.push (kxs_mw initId x)).Ns hp.objs.size (fun y => [(("self" : Str), Value.ref x), (f, v)].reverse.lookup y) := (hns.keeps k1).keeps k2
    refine kxs_callWith (i := initId) (x := x) rfl (evalArgs_plain (spliced_cons (wpAny_Name (wpAny_loadName_local rfl lf hns2 (v := v) (by rw [bv, if_pos rfl]) (spliced_nil ?_)) f2)))
    refine ⟨Heap.get?_push_size _ rfl, sup_call T (X1.keeps k2) (Heap.get?_push_size _ rfl) (k2 _ _ hx1) (fun h3 t1 k3 hx3 => ?_)⟩
    have hCn : x ≠ C := ks_ne X1 I1 hc
    have X3 : K.In h3 := fun a o e => k3 a o (fun z => by
      subst z
      exact hnx _ e) ((X1.keeps k2) a o e)
    have hns3 : h3.Ns hp.objs.size (fun y => [(("self" : Str), Value.ref x), (f, v)].reverse.lookup y) := hns2.at fun o e => k3 _ _ (Ne.symm hxs) e
    refine ks_wpAt_execs_cons (ks_wpAt_Assign_Attr (PySem.wpAt_of_wpAny ?_))
    refine wpAny_Name (wpAny_loadName_local rfl lf hns3 (v := v) (by rw [bv, if_pos rfl]) (wpAny_Name (wpAny_loadName_local rfl ls hns3 (v := .ref x) (by rw [bv, if_neg (Ne.symm f1'), if_pos rfl]) (sup_store T X3 hx3 (fun h4 tk dx k4 dn dne hx4 hn4 => ?_))))) f2
    refine PySem.wpAt_of_wpAny (wpAny_execs_nil (hq h4 tk dx ⟨fun b o hb e => k4 b o hb (k3 b o hb (k2 _ _ (k1 _ _ (hk _ _ e)))), ⟨t1, hx4⟩, Nat.le_trans (Nat.le_of_lt hns3.lt) dn, dne, hn4⟩))
/-- an exception made -/
structure SupMade (h h' : Heap) (e C d : Addr) (f : Str) (v : Value) : Prop where
  keep : ∀ b o, h.get? b = some o → h'.get? b = some o
  new : h.objs.size ≤ e
  obj : ∃ t1 : Addr, h'.get? e = some { cls := .ref C, dict := some d, data := .fields #[.ref t1, .none, .none, .none, .bool false, .none] }
  dbig : h.objs.size ≤ d
  dne : d ≠ e
  ns : h'.Ns1 d (fun y => if y = f then some v else none)
theorem sup_made (T : XSup prog K mg nm f C fI cda cc B newId initId bmB) (X : K.In s.heap) (G : s.heap.Ns mainGlobals mg) (Gb : s.heap.Ns builtinsNs mb) (hb : ∀ y : Str, y ≠ "__name__" → mb y = bootBuiltins y)
    (hlim : s.heap.NoLimit) (hroom : A.depth + 1 < recursionLimit) (hq : ∀ h' tk e d, SupMade s.heap h' e C d f v → R (.ok (.ret (.ref e))) { s with heap := h', toks := tk }) :
    codeAny (model prog w) A (.call (.ref C) ⟨[v], []⟩) R s := by
  obtain ⟨nm', N', qn, bs, bm, hdct, sn, sub, ab, col, dd, k0, k1, k2, k3, k5, hC, hT⟩ := excInit_of X T.init
  obtain ⟨hp, g, dr, tk, os⟩ := s
  have k : ∀ b o, hp.get? b = some o → ((hp.push (kdv_tup [v])).push (HandSPX.excO C hp.objs.size)).get? b = some o := fun b o e => Heap.get?_push_of_some _ (Heap.get?_push_of_some _ e)
  have hget : ((hp.push (kdv_tup [v])).push (HandSPX.excO C hp.objs.size)).get? (hp.objs.size + 1) = some (HandSPX.excO C hp.objs.size) := by heap_get
  have hnx : ∀ o, K.lookup (hp.objs.size + 1) = some o → False := fun o e => by
    have z : hp.get? (hp.objs.size + 1) = some o := X _ _ e
    exact absurd (Nat.lt_of_succ_lt (Heap.lt_size z)) (Nat.lt_irrefl _)
  refine T.facts.call hT hC (looks_findIn X T.iC) (fun self => bind_fn X self T.tI) (by rw [sizeLine_eq]; exact (by decide : 1 ≤ 16777216)) ?_
  refine sup_init (s := ⟨(hp.push (kdv_tup [v])).push (HandSPX.excO C hp.objs.size), g, dr, tk, os⟩) T (X.keeps k) (G.keeps k) (Gb.keeps k) hb (hlim.keeps k) hget hnx hroom fun h' tk' dx M => ?_
  have old : ∀ b o, hp.get? b = some o → h'.get? b = some o := fun b o e => M.keep b o (Nat.ne_of_lt (Nat.lt_succ_of_lt (Heap.lt_size e))) (k b o e)
  have z : hp.objs.size + 1 + 1 ≤ dx := by
    have q := M.dbig
    first
      | exact q
      | (rw [Heap.size_push, Heap.size_push] at q; exact q)
      | (simpa only [Heap.size_push] using q)
  exact ⟨rfl, hq h' tk' (hp.objs.size + 1) dx ⟨old, Nat.le_succ _, M.obj, Nat.le_trans (Nat.le_trans (Nat.le_succ _) (Nat.le_succ _)) z, M.dne, M.ns⟩⟩
end
theorem relO_one {f : Str} {v : V} {v' : Value} (r : RelV v v') (y : Str) : RelO (List.lookup y [(f, v)]) (if y = f then some v' else none) := by
  by_cases hw : y = f
  · rw [hw, if_pos rfl]
    have q : List.lookup f [(f, v)] = some v := by simp [List.lookup]
    rw [q]
    exact r
  · rw [if_neg hw]
    have qw : (y == f) = false := beq_eq_false_iff_ne.mpr hw
    have q2 : List.lookup y [(f, v)] = none := by simp [List.lookup, qw]
    rw [q2]
    trivial
section
variable {X : Cx} {C fI cda cc : Addr} {B newId initId : String} {bmB : List Value} {x f : Str}
/-- C(e) -/
def tMkSup (f : Str) (C : Addr) (ta : TA) : L2.St → Hp → XK → Prop := fun σ H Q => ta σ H fun vs H1 => ∃ v, vs = [v] ∧ ∀ d, H1 d = none → Q (.ref C) (some d) (upd H1 d (.xd [(f, v)]))
theorem pmk_sup {a : Expr} {ta : TA} {p pos : Pos} {k : Nat} (T : XSup X.prog X.K X.mg x f C fI cda cc B newId initId bmB) (hr : Room k X.A) (ha : PA X [a] ta) (hg : Gl X x := by rfl) (hdb : (x == ("__debug__" : Str)) = false := by decide)
    (he : starEach (a :: []) X.env = (false, eval a X.env) :: starEach [] X.env := by rfl) (hpl : (backTo pos (starEach [] X.env)).any (·.1) = false := by rfl) :
    PMk X (.Call (.Name x p) [a] [] pos) (tMkSup f C ta) := by
  intro pins s σ H Q I h
  refine wpAny_Call_Name_kw (ld_glob I hg T.gC ?_ hdb)
  refine PySem.W.callWith_K (h₀ := X.base) I.ok.mod.kin T.kC (thn (ha.run pos pins s σ H _ I h) fun us s1 hh => ?_) he hpl
  obtain ⟨vs, H1, I1, r1, v, ev, q1⟩ := hh; subst ev
  refine ⟨I1.kIn, ?_⟩
  cases r1 with
  | cons rv rn =>
    rename_i v' us'
    cases rn
    show wpAny _ _ (call (.ref C) [v']) _ _ _
    have hlim := I1.nolimit
    obtain ⟨mb, Gb, hb⟩ := I1.mod.blt
    have G := I1.mod.glob.keeps I1.bk
    have Gb' := Gb.keeps I1.bk
    have KI := I1.kIn
    obtain ⟨hp, g, dr, tk, os⟩ := s1
    refine wpAny_call (sup_made T KI G Gb' hb hlim (by have := hr.dp; omega) fun h' tk' e d M => ?_)
    show MkP X pins σ Q (.ref e) ⟨h', g, dr, tk', os⟩
    obtain ⟨t1, hoe⟩ := M.obj
    have hns := M.ns
    obtain ⟨G', g1, g2⟩ := restrict h' fun b => decide (b ≠ e)
    have gk : ∀ b, b ≠ e → G'.get? b = h'.get? b := fun b hb => g1 b (decide_eq_true hb)
    have ge : G'.get? e = none := g2 e (by simp)
    have old : ∀ b o, hp.get? b = some o → G'.get? b = some o := fun b o q => (gk b (Nat.ne_of_lt (Nat.lt_of_lt_of_le (Heap.lt_size q) M.new))).trans (M.keep b o q)
    have ob : ObjOk X.prog X.w (upd H1 d (.xd [(f, v)])) G' d (.xd [(f, v)]) :=
      ⟨_, hns.at (fun o q => (gk d M.dne).trans q), fun y => relO_one rv y⟩
    have J : Inv X pins σ (upd H1 d (.xd [(f, v)])) ⟨G', g, dr, tk', os⟩ := I1.laid (t' := tk') old M.dbig ob
    refine ⟨e, _, _, ⟨G', g, dr, tk', os⟩, _, .ref C, some d, rfl, J, fun b o q => ?_, ge, hoe, ⟨rfl, rfl⟩, rfl, rfl, ?_, rfl, I1.bare, raises_own T.exC T.tyC, q1 d (I1.hok.fresh M.dbig)⟩
    · by_cases hb : b = e
      · have q' : G'.get? b = some o := q
        rw [hb, ge] at q'; cases q'
      · exact (gk b hb).symm.trans q
    · rw [upd_ne (Ne.symm M.dne)]
      exact I1.hok.fresh M.new
/-- n.f, n the exception that the suite holds -/
def tBySup (f : Str) (C : Addr) (a : Addr) (cls : Value) (d : Option Addr) (te : TE) : TE := fun σ H Q => te σ H fun x H1 => x = .ref a ∧ cls = .ref C ∧ ∃ (dd : Addr) (v : V), d = some dd ∧ H1 dd = some (.xd [(f, v)]) ∧ Q v H1
theorem pe_bySup {a : Addr} {oe : Obj} {cls : Value} {d : Option Addr} {pn : List (Addr × Obj)} {e : Expr} {te : TE} {pos : Pos} (T : XSup X.prog X.K X.mg x f C fI cda cc B newId initId bmB) (hz : Zc cls d oe) (hf : ∃ vs, oe.data = .fields vs) (he : PE (X.suite a ((a, oe) :: pn)) e te)
    (hb : attributeBase e f X.env (eval e X.env) = eval e X.env := by rfl) :
    PE (X.suite a ((a, oe) :: pn)) (.Attribute e f pos) (tBySup f C a cls d te) := by
  refine ⟨fun pins s σ H Q I h => ?_⟩
  refine attr_of hb (thn (he.run pins s σ H _ I h) fun u s1 hh => ?_)
  obtain ⟨y, H1, I1, rx, ex, ec, dd, v, ed, ea, q⟩ := hh; subst ex
  obtain rfl : u = Value.ref a := rx
  subst ec; subst ed
  obtain ⟨ha, _⟩ := I1.pin (a, oe) (List.mem_append_left _ List.mem_cons_self)
  obtain ⟨vs, hd⟩ := hf
  have hx : ObjOk X.prog X.w H1 s1.heap dd (.xd [(f, v)]) := I1.hok dd _ ea
  obtain ⟨mA, hns, hr⟩ := hx
  obtain ⟨od, ho, hl⟩ := lookIn_ns hns
  have l : List.lookup f [(f, v)] = some v := by simp [List.lookup]
  obtain ⟨u, hu, ru⟩ := RelO.some_of (v := v) (o := mA f) (by rw [← l]; exact hr f)
  have J : PySem.W.InstAt s1.heap a oe C (some od) := ⟨ha, hz.1, by unfold PySem.W.notCls; rw [hd] <;> rfl, by rw [hz.2]; exact ho⟩
  exact HandSPX.exc_get I1.kIn J T.ga T.gg T.exC (PySem.W.findObj_own T.hdC T.noN rfl (by rw [hl, hu])) (handed_of ru) ⟨v, H1, I1.tok _, ru, q⟩
end
/-- a class without an __init__ of its own, made with one value of any kind -/
structure XPl (K : Frag) (mg : Str → Option Value) (x : Str) (C : Addr) (B newId initId : String) (bmB : List Value) : Prop extends XBase K mg x C B newId initId bmB where
  facts : ExcBaseFacts B newId initId bmB
  exc : excIn K C bmB newId = true
theorem pmk_pl {X : Cx} {x : Str} {C : Addr} {B newId initId : String} {bmB : List Value} {e : Expr} {es : List Expr} {t : TA} {p pos : Pos} (T : XPl X.K X.mg x C B newId initId bmB) (ha : PA X (e :: es) t) (hg : Gl X x := by rfl) (hdb : (x == ("__debug__" : Str)) = false := by decide)
    (he : starEach (e :: es) X.env = (false, eval e X.env) :: starEach es X.env := by rfl) (hpl : (backTo pos (starEach es X.env)).any (·.1) = false := by rfl) :
    PMk X (.Call (.Name x p) (e :: es) [] pos) (fun σ H Q => t σ H fun vs H1 => vs.length ≤ sizeLine ∧ Q (.ref C) none H1) := pmk_ownA T.facts T.exc T.gC T.kC (raises_own T.exC T.tyC) hg ha hdb he hpl
/-! ### without the addresses that none asks for -/
structure XS (P : Program) (K : Frag) (mg : Str → Option Value) (x f : Str) (C : Addr) (B newId initId : String) (bmB : List Value) : Prop where
  ex : ∃ fI cda cc, XSup P K mg x f C fI cda cc B newId initId bmB
theorem XS.gC {P : Program} {K : Frag} {mg : Str → Option Value} {x f : Str} {C : Addr} {B newId initId : String} {bmB : List Value} (T : XS P K mg x f C B newId initId bmB) : mg x = some (.ref C) := by
  obtain ⟨_, _, _, T⟩ := T.ex
  exact T.gC
section
variable {X : Cx} {C : Addr} {B newId initId : String} {bmB : List Value} {x f : Str}
theorem pmk_xs {a : Expr} {ta : TA} {p pos : Pos} {k : Nat} (T : XS X.prog X.K X.mg x f C B newId initId bmB) (hr : Room k X.A) (ha : PA X [a] ta) (hg : Gl X x := by rfl) (hdb : (x == ("__debug__" : Str)) = false := by decide)
    (he : starEach (a :: []) X.env = (false, eval a X.env) :: starEach [] X.env := by rfl) (hpl : (backTo pos (starEach [] X.env)).any (·.1) = false := by rfl) :
    PMk X (.Call (.Name x p) [a] [] pos) (tMkSup f C ta) := by
  obtain ⟨_, _, _, T⟩ := T.ex
  exact pmk_sup T hr ha hg hdb he hpl
theorem pe_byXs {a : Addr} {oe : Obj} {cls : Value} {d : Option Addr} {pn : List (Addr × Obj)} {e : Expr} {te : TE} {pos : Pos} (T : XS X.prog X.K X.mg x f C B newId initId bmB) (hz : Zc cls d oe) (hf : ∃ vs, oe.data = .fields vs) (he : PE (X.suite a ((a, oe) :: pn)) e te)
    (hb : attributeBase e f X.env (eval e X.env) = eval e X.env := by rfl) :
    PE (X.suite a ((a, oe) :: pn)) (.Attribute e f pos) (tBySup f C a cls d te) := by
  obtain ⟨_, _, _, T⟩ := T.ex
  exact pe_bySup T hz hf he hb
end
/-- an error of the class x leaves, with v at f in it | with nothing told -/
def Rz (K : Frag) (x f : Str) (v : V) (H : Hp) (E : XK) : Prop := ∀ d H', Same H H' → H' d = some (.xd [(f, v)]) → E (.ref (He.ga K x)) (some d) H'
def Rp (K : Frag) (x : Str) (H : Hp) (E : XK) : Prop := ∀ H', Same H H' → E (.ref (He.ga K x)) none H'
theorem g_mkSup {f : Str} {C : Addr} {l : TA} {σ : L2.St} {H : Hp} {R : XK} (h : l σ H fun vs H1 => ∃ v, vs = [v] ∧ ∀ d, H1 d = none → R (.ref C) (some d) (upd H1 d (.xd [(f, v)]))) : tMkSup f C l σ H R := h
theorem g_sup1 {f : Str} {v : V} {H : Hp} {R : Addr → Hp → Prop} (q : ∀ d H2, Same H H2 → H2 d = some (.xd [(f, v)]) → R d H2) : ∃ v', ([v] : List V) = [v'] ∧ ∀ d, H d = none → R d (upd H d (.xd [(f, v')])) := ⟨v, rfl, fun d hd => q d _ (Same.new hd) upd_same⟩
end Sm
/-! SmMore: enumerate(text), list(text). -/
namespace Sm
open PySem PySem.Spec PyProof.Rows L2
/-- a text's signs with their places, each pair new -/
def Itx (x : Str) : It := ⟨fun i _ => i < x.cps.size, fun i H v H' => ∃ T c, v = .ref T ∧ H T = none ∧ H' = upd H T (.tup [.int (i : Nat), .str ⟨#[c]⟩]) ∧ x.cps[i]? = some c, fun i _ => x.cps.size = i⟩
theorem turn_enumS {P : Program} {w : World} {K : PySem.W.Frag} {elts : List Expr} {kk : Nat} {tpos : Pos} (x : Str) (t : Tok) (e it : Addr) :
    Turn P w K (.Tuple elts kk tpos) (Itx x) [e, it] e (fun i h => (∃ old, IsEnum h e it ((i : Nat) : Int) old) ∧ h.IsStrIter it (strIterType x) x t i ∧ e ≠ it) where
  mem := by simp
  obj := fun i h st b hb => by
    obtain ⟨⟨old, he⟩, ⟨o, ho, hc, hd⟩, _⟩ := st
    have e' : b = e ∨ b = it := by simpa using hb
    rcases e' with z | z
    · rw [z]; exact ⟨_, he, fun v q => nomatch q⟩
    · rw [z]; exact ⟨o, ho, fun v q => by rw [hd] at q; cases q⟩
  keep := fun i h h' st k => let ⟨⟨old, he⟩, ⟨o, ho, r⟩, hne⟩ := st; ⟨⟨old, k e (by simp) _ he⟩, ⟨o, k it (by simp) _ ho, r⟩, hne⟩
  item := by
    intro X hP hw hK hc i pins s σ H E I hf st hg
    subst hP hw hK
    obtain ⟨⟨old, he⟩, hit, hne⟩ := st
    have hg' : i < x.cps.size := hg
    have hel : e < s.heap.objs.size := Heap.lt_size he
    have hil : it < s.heap.objs.size := by obtain ⟨_, q, _⟩ := hit; exact Heap.lt_size q
    refine wpAny_pyNext_enum_itemD (fp := [it]) (n := x.cps.size) (P := fun i v => ∃ c u, x.cps[i]? = some c ∧ v = .str ⟨#[c]⟩ u) (St := fun i h => h.IsStrIter it (strIterType x) x t i) (Draws.text (A := X.A.in1) (I.ok.hd hc) it x t) he hit hg' hne (by simpa using hne) fun u h' tk hu ho hit' hT hsz hk => ?_
    obtain ⟨c, tu, hcx, rfl⟩ := hu
    refine ⟨_, rfl, wpAny_letOwnedTupleGo_enum (s := { s with heap := h', toks := tk + 1 }) ho fun h'' he' sb => ?_⟩
    have hT2 : h''.get? s.heap.objs.size = some { cls := .type "tuple", data := .seq #[.int i tk, .str ⟨#[c]⟩ tu] } := (sb.2 _ (Nat.ne_of_gt hel)).trans hT
    have new : ObjOk X.prog X.w (upd H s.heap.objs.size (.tup [.int (i : Nat), .str ⟨#[c]⟩])) h'' s.heap.objs.size (.tup [.int (i : Nat), .str ⟨#[c]⟩]) :=
      ⟨by show 2 ≤ sizeLine; decide, [.int i tk, .str ⟨#[c]⟩ tu], .cons ⟨_, rfl⟩ (.cons ⟨_, rfl⟩ .nil), ⟨_, hT2, rfl, _, rfl⟩⟩
    have I1 : Inv X pins σ (upd H s.heap.objs.size (.tup [.int (i : Nat), .str ⟨#[c]⟩])) { s with heap := h'', toks := tk + 1 } :=
      I.turnedNew (ch := [e, it]) (fun b ob hb q => (sb.2 b (fun z => hb (by simp [z]))).trans (hk b ob (fun z => hb (by simp [z])) (fun z => hb (by simp [z])) q)) hf (Nat.le_refl _) new
    refine ⟨.ref s.heap.objs.size, _, I1, rfl, ⟨_, c, rfl, I.hok.fresh (Nat.le_refl _), rfl, hcx⟩, ⟨⟨Value.str ⟨#[c]⟩ tu, ?_⟩, ?_, hne⟩, fun b hb => ?_⟩
    · have e1 : ((i + 1 : Nat) : Int) = (i : Int) + 1 := by omega
      rw [e1]; exact he'
    · obtain ⟨o, q1, q2⟩ := hit'
      exact ⟨o, (sb.2 it (Ne.symm hne)).trans q1, q2⟩
    · have hb' : b < s.heap.objs.size := by
        have e' : b = e ∨ b = it := by simpa using hb
        rcases e' with z | z
        · rw [z]; exact hel
        · rw [z]; exact hil
      rw [upd_ne (Nat.ne_of_lt hb')]
      exact (hf b hb).1
  done := by
    intro X hP hw hK hc i pins s σ H E I hf st hg
    subst hP hw hK
    obtain ⟨⟨old, he⟩, hit, hne⟩ := st
    have hg' : x.cps.size = i := hg
    subst hg'
    obtain ⟨f0, f1, f2, f3, f4, f5⟩ := hf it (by simp)
    exact wpAny_pyNext_enum_endD (fp := [it]) (n := x.cps.size) (P := fun i v => ∃ c u, x.cps[i]? = some c ∧ v = .str ⟨#[c]⟩ u) (St := fun i h => h.IsStrIter it (strIterType x) x t i) (Draws.text (A := X.A.in1) (I.ok.hd hc) it x t) he hit fun h' eb => ⟨rfl, I.turned (t' := s.toks) (fun b o hb q => eb b o hb q) f0 f1 f3 f4 f5⟩
  self := fun A i s Q E st h => let ⟨⟨_, he⟩, _⟩ := st; wpAny_pyIter_enum he h
def iEnumS (ta : TA) : TI := fun σ H R => ta σ H fun vs H1 => ∃ x, vs = [.str x] ∧ R (Itx x) H1
theorem pi_enumS {X : Cx} {e : Expr} {ta : TA} {p pos tpos : Pos} {elts : List Expr} {kk : Nat} (hm : X.mg "enumerate" = none) (ha : PA X [e] ta) (hg : Gl X "enumerate" := by rfl) (hs : starEach [e] X.env = [(false, eval e X.env)] := by rfl) :
    PI X (.Tuple elts kk tpos) (.Call (.Name "enumerate" p) [e] [] pos) (iEnumS ta) := by
  refine ⟨fun pins s σ H R I h => ?_⟩
  refine Call_ (ld_blt I hg hm boot_enumerate (PyProof.Rows.callWith_type1 (thn (ha.run pos pins s σ H _ I h) fun us s1 ⟨vs, H1, I1, r1, q1⟩ => ?_) hs rfl))
  obtain ⟨x, ex, q⟩ := q1
  subst ex
  cases r1 with
  | cons r rr =>
    cases rr
    obtain ⟨t, rfl⟩ := r
    refine call_enumerate_str fun h' he hit hsz hk => wpAny_pyIter_enum he ?_
    have I2 : Inv X pins σ H1 { s1 with heap := h' } := I1.kept (t' := s1.toks) hk
    refine ⟨s1.heap.objs.size + 1, [s1.heap.objs.size + 1, s1.heap.objs.size], _, _, H1, rfl, I2, turn_enumS x t (s1.heap.objs.size + 1) s1.heap.objs.size, ⟨⟨.none, he⟩, hit, Nat.succ_ne_self _⟩, fun b hb => ?_, q⟩
    have e' : b = s1.heap.objs.size + 1 ∨ b = s1.heap.objs.size := by simpa using hb
    have hle : s1.heap.objs.size ≤ b := by
      rcases e' with z | z
      · rw [z]; exact Nat.le_add_right _ _
      · rw [z]; exact Nat.le_refl _
    exact I1.fpOk hle (I1.hok.fresh hle)
theorem walk_enumS {z : Str} : Walk (Itx z) z.cps.size (fun _ => True) (fun i H v H' => ∃ T c, v = .ref T ∧ H T = none ∧ H' = upd H T (.tup [.int (i : Nat), .str ⟨#[c]⟩]) ∧ z.cps[i]? = some c) where
  goes := fun i H h _ => h
  stops := fun H _ => rfl
  yields := fun i H x H' _ _ h => h
/-- the signs of a text, each a text -/
def signsV (z : Str) : List V := z.cps.toList.map fun c => V.str ⟨#[c]⟩
def rListS : List V → Hp → VK → Prop := fun xs H Q => ∃ z, xs = [.str z] ∧ z.length ≤ sizeLine ∧ ∀ l, H l = none → Q (.ref l) (upd H l (.lst (signsV z)))
theorem call_listS {X : Cx} (hc : X.calm = true) : CallR X (.type "list") rListS := by
  intro pins s σ H xs us Q I r h
  obtain ⟨z, rfl, hz, q⟩ := h
  obtain ⟨u, rfl, t, rfl⟩ := vals1 r
  refine call_list_str (I.ok.hd hc) z t (hn := hz) fun h' tk acc c' kp e hacc => ?_
  have hl : acc.size = z.cps.size := hacc.1
  have vals : Vals (signsV z) acc.toList := by
    have key : ∀ (ys : List V) (ws : List Value), ys.length = ws.length → (∀ (j : Nat) (y : V) (w : Value), ys[j]? = some y → ws[j]? = some w → RelV y w) → Vals ys ws := by
      intro ys
      induction ys with
      | nil =>
        intro ws hl _
        cases ws with
        | nil => exact .nil
        | cons _ _ => cases hl
      | cons y ys ih =>
        intro ws hl hh
        cases ws with
        | nil => cases hl
        | cons w ws => exact .cons (hh 0 y w rfl rfl) (ih ws (Nat.succ.inj hl) fun j a b ha hb => hh (j + 1) a b ha hb)
    refine key _ _ ?_ fun j y w hy hw => ?_
    · unfold signsV
      rw [List.length_map, Array.length_toList, Array.length_toList, hl]
    · obtain ⟨c, tu, hcx, rfl⟩ := hacc.2 j w (by simpa using hw)
      unfold signsV at hy
      rw [List.getElem?_map, Array.getElem?_toList, hcx] at hy
      cases hy
      exact ⟨_, rfl⟩
  have hlen : (signsV z).length ≤ sizeLine := by
    unfold signsV
    rw [List.length_map, Array.length_toList]
    exact hz
  exact ⟨.ref s.heap.objs.size, _, I.laid (t' := tk) kp (Nat.le_refl _) (show ObjOk X.prog X.w _ h' _ (.lst (signsV z)) from ⟨hlen, acc.toList, c', vals, by simpa using e⟩), rfl, q _ (I.hok.fresh (Nat.le_refl _))⟩
theorem g_listS {z : Str} {H : Hp} {Q : VK} (hl : z.length ≤ sizeLine) (q : ∀ l, H l = none → Q (.ref l) (upd H l (.lst (signsV z)))) : rListS [.str z] H Q := ⟨z, rfl, hl, q⟩
/-- what a turn of a comprehension leaves: D holds L -/
def LcAt (H : Hp) (D : Addr) (L : List V) (H' : Hp) : Prop := Same H H' ∧ H' D = some (.lst L)
theorem lc_add {H H1 : Hp} {D : Addr} {L L' : List V} {y : V} (hD : H D = none) (e : Same H H1) (h : H1 D = some (.lst L)) (hz : L.length < sizeLine) (hL : L' = L ++ [y]) : ∃ acc, H1 D = some (.lst acc) ∧ acc.length < sizeLine ∧ LcAt H D L' (upd H1 D (.lst (acc ++ [y]))) :=
  ⟨L, h, hz, fun a o ha => by
    have hne : a ≠ D := fun z => by
      rw [z, hD] at ha
      cases ha
    rw [upd_ne hne]
    exact e _ _ ha, by rw [upd_same, hL]⟩
theorem lc_keep {H H1 : Hp} {D : Addr} {L L' : List V} (e : Same H H1) (h : H1 D = some (.lst L)) (hL : L' = L) : LcAt H D L' H1 := ⟨e, by rw [hL]; exact h⟩
/-- a comprehension over a walk: F i the list behind i turns -/
theorem g_lcW {J : It} {n : Nat} {G : Hp → Prop} {Y : Nat → Hp → V → Hp → Prop} {g : TG} {tt : TT} {te : TE} {vs : List Nat} {σ : L2.St} {H : Hp} {Q : VK} (w : Walk J n G Y) (F : Nat → List V) (h0 : F 0 = []) (hG : ∀ H', Same H H' → G H')
    (hs : ∀ D i x H1 H2, H D = none → i < n → Same H H1 → H1 D = some (.lst (F i)) → Y i H1 x H2 → g x (wipe σ vs) H2 fun σ2 H3 => wipe σ2 vs = wipe σ vs ∧ tt σ2 H3 fun b H4 => if b = true then te σ2 H4 fun y H5 => ∃ acc, H5 D = some (.lst acc) ∧ acc.length < sizeLine ∧ LcAt H D (F (i + 1)) (upd H5 D (.lst (acc ++ [y]))) else LcAt H D (F (i + 1)) H4)
    (hd : ∀ D H', H D = none → Same H H' → H' D = some (.lst (F n)) → Q (.ref D) H') :
    ∀ D, H D = none → ∃ W : Nat → Nat → Hp → Prop, (∃ m, W 0 m (upd H D (.lst []))) ∧ ∀ i m H, W i m H →
      (J.stop i H ∧ Q (.ref D) H) ∨ (J.go i H ∧ ∃ Nx : Hp → Prop, (∀ H', Nx H' → ∃ m', m' < m ∧ W (i + 1) m' H') ∧ ∀ x H', J.yld i H x H' → g x (wipe σ vs) H' fun σ2 H2 => wipe σ2 vs = wipe σ vs ∧ tt σ2 H2 fun b H3 =>
        if b = true then te σ2 H3 fun y H4 => ∃ acc, H4 D = some (.lst acc) ∧ acc.length < sizeLine ∧ Nx (upd H4 D (.lst (acc ++ [y]))) else Nx H3) := fun D hD =>
  lc_it w (Qd := fun H => Q (.ref D) H) (fun i H' => LcAt H D (F i) H') ⟨Same.new hD, by rw [upd_same, h0]⟩ (fun i H' _ p => hG H' p.1) (fun i x H1 H2 hi p y => hs D i x H1 H2 hD hi p.1 p.2 y) (fun H' p => hd D H' hD p.1 p.2)
theorem g_lc {J : It} {n : Nat} {G : Hp → Prop} {Y : Nat → Hp → V → Hp → Prop} {wi : TI} {g : TG} {tt : TT} {te : TE} {vs : List Nat} {σ : L2.St} {H : Hp} {Q : VK} (w : Walk J n G Y) (hwi : ∀ R : It → Hp → Prop, R J H → wi σ H R) (F : Nat → List V) (h0 : F 0 = []) (hG : ∀ H', Same H H' → G H')
    (hs : ∀ D i x H1 H2, H D = none → i < n → Same H H1 → H1 D = some (.lst (F i)) → Y i H1 x H2 → g x (wipe σ vs) H2 fun σ2 H3 => wipe σ2 vs = wipe σ vs ∧ tt σ2 H3 fun b H4 => if b = true then te σ2 H4 fun y H5 => ∃ acc, H5 D = some (.lst acc) ∧ acc.length < sizeLine ∧ LcAt H D (F (i + 1)) (upd H5 D (.lst (acc ++ [y]))) else LcAt H D (F (i + 1)) H4)
    (hd : ∀ D H', H D = none → Same H H' → H' D = some (.lst (F n)) → Q (.ref D) H') : tLc wi g tt te vs σ H Q := hwi _ (g_lcW w F h0 hG hs hd)
theorem g_forS {J : It} {n : Nat} {G : Hp → Prop} {Y : Nat → Hp → V → Hp → Prop} {wi : TI} {g : TG} {tb : TS} {D : Ends} {σ : L2.St} {H : Hp} (w : Walk J n G Y) (hwi : ∀ R : It → Hp → Prop, R J H → wi σ H R) (Pv : Nat → L2.St → Hp → Prop) (h0 : Pv 0 σ H) (hG : ∀ i σ H, i ≤ n → Pv i σ H → G H)
    (hs : ∀ i x σ H H', i < n → Pv i σ H → Y i H x H' → g x σ H' fun σ2 H2 => tb { D with nx := Pv (i + 1), ct := Pv (i + 1), bk := D.nx } σ2 H2) (hd : ∀ σ H, Pv n σ H → D.nx σ H) : tFor wi g tb D σ H := hwi _ (for_it w Pv h0 hG hs hd)
theorem g_listSk {z : Str} {H : Hp} {Q : VK} (hl : z.length ≤ sizeLine) (k : ∀ l H2, H l = none → Same H H2 → H2 l = some (.lst (signsV z)) → Q (.ref l) H2) : rListS [.str z] H Q := g_listS hl fun l hn => k l _ hn (Same.new hn) upd_same
end Sm
/-! SmTry: several except clauses, each with a name or without. -/
namespace Sm
open PySem PySem.Spec PyProof.Rows L2
/-- a clause: its class, the slot of its name, what its suite reads -/
structure Cl where
  c : Value
  i : Option Nat
  ts : Addr → Value → Option Addr → TS
def dropAt : Option Nat → L2.St → L2.St
  | none, σ => σ
  | some i, σ => σ.set i none
def heldAt (a : Addr) : Option Nat → L2.St → L2.St
  | none, σ => σ
  | some i, σ => σ.set i (some (.ref a))
def endsAt (i : Option Nat) (D : Ends) : Ends := { nx := fun σ H => D.nx (dropAt i σ) H, rt := D.rt, bk := fun σ H => D.bk (dropAt i σ) H, ct := fun σ H => D.ct (dropAt i σ) H }
def wMix (K : PySem.W.Frag) (Wo : WX) (D : Ends) : List Cl → WX
  | [] => Wo
  | p :: r => fun cls d σ H => ∃ b, PySem.W.exmOne K cls p.c = some b ∧ (b = true → ∀ a, H a = none → p.ts a cls d (endsAt p.i D) (heldAt a p.i σ) H) ∧ (b = false → wMix K Wo D r cls d σ H)
inductive HdsMix (X : Cx) : List ExceptHandler → List Cl → Prop
  | nil : HdsMix X [] []
  | bare {x : Str} {c : Value} {ts : Addr → Value → Option Addr → TS} {b0 : Stmt} {bs : List Stmt} {p q : Pos} {hds : List ExceptHandler} {l : List Cl} (hc : Names X x c)
      (su : ∀ (a : Addr) (oe : Obj) (cls : Value) (d : Option Addr) (pn : List (Addr × Obj)), Zc cls d oe → (∃ vs, oe.data = .fields vs) → PSs (X.suite a ((a, oe) :: pn)) (b0 :: bs) (ts a cls d)) (r : HdsMix X hds l) :
      HdsMix X (.ExceptHandler (some (.Name x p)) none (b0 :: bs) q :: hds) (⟨c, none, ts⟩ :: l)
  | as {x n : Str} {i : Nat} {c : Value} {ts : Addr → Value → Option Addr → TS} {b0 : Stmt} {bs : List Stmt} {p q : Pos} {hds : List ExceptHandler} {l : List Cl} (hc : Names X x c) (hi : X.N[i]? = some n) (hl : X.env.kindOf n = some .local)
      (su : ∀ (a : Addr) (oe : Obj) (cls : Value) (d : Option Addr) (pn : List (Addr × Obj)), Zc cls d oe → (∃ vs, oe.data = .fields vs) → PSs (X.suite a ((a, oe) :: pn)) (b0 :: bs) (ts a cls d)) (r : HdsMix X hds l) :
      HdsMix X (.ExceptHandler (some (.Name x p)) (some n) (b0 :: bs) q :: hds) (⟨c, some i, ts⟩ :: l)
/-- an exception on its way, seen from the def that may catch it -/
structure Aloft (X : Cx) (pins : List (Addr × Obj)) (σ : L2.St) (H : Hp) (B : Heap) (o : Shared) (a : Addr) (cls : Value) (d : Option Addr) (s : Shared) : Prop where
  inv : Inv X pins σ H o
  nb : ∀ b u, o.heap.get? b = some u → b ∉ frs X.stack → B.get? b = some u
  up : o.heap.UpToSlots s.heap
  fl : HandSPX.FlyingZ B (X.env :: X.outer) a (Zc cls d) s.heap
  na : H a = none
  os : s.os = o.os
  ag : AllBare s.gens
section
variable {X : Cx} {pins : List (Addr × Obj)} {σ : L2.St} {H : Hp} {B : Heap} {o s : Shared} {a : Addr} {cls : Value} {d : Option Addr}
theorem Aloft.here (F : Aloft X pins σ H B o a cls d s) : Inv X pins σ H s := F.inv.landed F.nb F.fl.1 F.up F.os F.ag
theorem Aloft.sits (F : Aloft X pins σ H B o a cls d s) (hf : X.env.frame = some X.env.locals) : ∃ oe, Inv (X.suite a ((a, oe) :: (X.pn ++ pins))) [] σ H s ∧ s.heap.get? a = some oe ∧ Zc cls d oe ∧ ∃ vs, oe.data = .fields vs := by
  obtain ⟨oe, vs, g, hz, hd⟩ := F.fl.there
  have out : a ∉ frs (X.env :: X.outer) := fun m => by
    obtain ⟨_, u, gu, nf⟩ := F.fl.2.2.1.mem m
    rw [g] at gu
    injection gu with gu
    subst gu
    exact nf vs hd
  refine ⟨oe, F.here.suite g hd F.na (fun z => out ?_) (fun m => ?_), g, hz, vs, hd⟩
  · refine List.mem_filterMap.mpr ⟨X.env, List.mem_cons_self, ?_⟩
    rw [hf, z]
  · obtain ⟨ev, me, fe⟩ := List.mem_filterMap.mp m
    exact out (List.mem_filterMap.mpr ⟨ev, List.mem_cons_of_mem _ me, fe⟩)
theorem Aloft.again {Mo : Model} {A : Around} {E : Value → Shared → Prop} {Q : Unit → Shared → Prop} (F : Aloft X pins σ H B o a cls d s) (q : ∀ s', Aloft X pins σ H B o a cls d s' → Q () s') : wpAny Mo A (setFlight (.ref a) none) Q E s :=
  HandSPX.lands_againZ F.fl fun h' f u => q { s with heap := h' } ⟨F.inv, F.nb, F.up.trans u, f, F.na, F.os, F.ag⟩
/-- none of the clauses fits: it goes on -/
theorem Aloft.on {Wo : WX} {D : Ends} (F : Aloft X pins σ H B o a cls d s) (hs : X.stack = X.env :: X.outer) (hf : X.env.frame = some X.env.locals) (tk : Takes X Wo) (w : Wo cls d σ H) :
    wpAny (model X.prog X.w) X.A (handleBy (.ref a) X.env []) (SP X pins D) X.xe s := by
  refine wpAny_handleBy_nil ?_
  obtain ⟨_, _, _, oe, vs, T, _, _, g, _, dt, v1, _⟩ := id F.fl
  have off : wpAny (model X.prog X.w) X.A (setFlight (.ref a) X.env.frame) (fun _ s' => wpAny (model X.prog X.w) X.A (throw (.ref a) : Sem Flow) (SP X pins D) X.xe s') X.xe s := by
    rw [hf]
    refine HandSPX.setFlight_upZ F.fl fun h' f u => wpAny_throw (tk _ _ ⟨a, B, o, pins, σ, H, cls, d, rfl, F.inv, F.nb, F.up.trans u, ?_, F.na, F.os, F.ag, w⟩)
    rw [hs]
    exact .inr (.inr f)
  unfold PySem.passOn
  refine wpAny_bind (wpAny_field g dt v1 ?_)
  have ne : ¬ ((Value.ref T == Value.none) = true) := by simp
  rw [if_neg ne]
  first
    | exact wpAny_bind (wpAny_pure (wpAny_bind off))
    | exact wpAny_bind off
/-- the look at a clause's class -/
theorem Aloft.test {x : Str} {c : Value} {p : Pos} {E R : Value → Shared → Prop} (F : Aloft X pins σ H B o a cls d s) (hf : X.env.frame = some X.env.locals) (hc : Names X x c) (q : R c s) : wpAny (model X.prog X.w) (X.A.mark (some (.ref a))) (eval (.Name x p) X.env) R E s := by
  obtain ⟨oe, S, _⟩ := F.sits hf
  obtain ⟨hg, hdb, hm | ⟨hm, hv, hn⟩⟩ := hc
  · exact ld_glob (X := X.suite a ((a, oe) :: (X.pn ++ pins))) S hg hm q hdb
  · exact ld_blt (X := X.suite a ((a, oe) :: (X.pn ++ pins))) S hg hm hv q hn hdb
theorem mix_go {Wo : WX} {D : Ends} {hds : List ExceptHandler} {l : List Cl} (hh : HdsMix X hds l) (hs : X.stack = X.env :: X.outer) (hf : X.env.frame = some X.env.locals) (nd : X.N.Nodup) (tk : Takes X Wo) :
    ∀ (s : Shared), Aloft X pins σ H B o a cls d s → wMix X.K Wo D l cls d σ H → wpAny (model X.prog X.w) X.A (handleBy (.ref a) X.env hds) (SP X pins D) X.xe s := by
  induction hh with
  | nil => exact fun s F w => F.on hs hf tk w
  | @bare x c ts b0 bs p q hds l hc su r ih =>
    intro s F w
    obtain ⟨b, e, yes, no⟩ := w
    obtain ⟨oe, S, g, hz, _⟩ := F.sits hf
    refine wpAny_handleBy_cons (codeAny_handlers_test ?_) (by intro z; cases z)
    have ty : PySem.W.Looks (model X.prog X.w) s.heap (typeOf (.ref a)) cls := fun A Q E s k q => wpAny_typeOf_ref (k _ _ g) (by rw [hz.1]; exact q)
    refine F.test hf hc ((PySem.W.exm_one (M := model X.prog X.w) F.here.kIn ty e).here ?_)
    cases b with
    | false => exact ih s F (no rfl)
    | true =>
      refine codeAny_handlers_suite (F.again fun s4 F4 => ?_)
      obtain ⟨o4, S4, _, z4, v4⟩ := F4.sits hf
      refine wpAny_mono ((su a o4 cls d (X.pn ++ pins) z4 v4).run [] _ _ H _ S4 (yes rfl a F4.na)) (fun f s6 hsp => ?_) (fun _ _ z => False.elim z)
      cases f with
      | ret u =>
        obtain ⟨v6, σ6, H6, S6, r6, q6⟩ := hsp
        exact ⟨v6, σ6, H6, S6.unsuite F.inv.ok, r6, q6⟩
      | _ =>
        obtain ⟨σ6, H6, S6, q6⟩ := hsp
        exact ⟨σ6, H6, S6.unsuite F.inv.ok, q6⟩
  | @as x n i c ts b0 bs p q hds l hc hi hl su r ih =>
    intro s F w
    obtain ⟨b, e, yes, no⟩ := w
    obtain ⟨oe, S, g, hz, _⟩ := F.sits hf
    refine wpAny_handleBy_cons (codeAny_handlers_test ?_) (by intro z; cases z)
    have ty : PySem.W.Looks (model X.prog X.w) s.heap (typeOf (.ref a)) cls := fun A Q E s k q => wpAny_typeOf_ref (k _ _ g) (by rw [hz.1]; exact q)
    refine F.test hf hc ((PySem.W.exm_one (M := model X.prog X.w) F.here.kIn ty e).here ?_)
    cases b with
    | false => exact ih s F (no rfl)
    | true =>
      refine codeAny_handlers_suite_as (F.again fun s4 F4 => ?_)
      obtain ⟨o4, S4, _, z4, v4⟩ := F4.sits hf
      refine store_ok (X := X.suite a ((a, o4) :: (X.pn ++ pins))) (v := .ref a) S4 nd hi (.inl hl) rfl (fun s5 S5 => ?_) (.inr hl)
      refine wpAny_mono ((su a o4 cls d (X.pn ++ pins) z4 v4).run [] s5 _ H _ S5 (yes rfl a F4.na)) (fun f s6 hsp => ?_) (fun _ _ z => False.elim z)
      cases f with
      | ret u =>
        obtain ⟨v6, σ6, H6, S6, r6, q6⟩ := hsp
        exact gone_ok (S6.unsuite F.inv.ok) nd hi hl fun s7 J7 => ⟨v6, _, H6, J7, r6, q6⟩
      | _ =>
        obtain ⟨σ6, H6, S6, q6⟩ := hsp
        exact gone_ok (S6.unsuite F.inv.ok) nd hi hl fun s7 J7 => ⟨_, H6, J7, q6⟩
end
/-- try: body / except ..: .. / except .. as ..: .. -/
theorem ps_try_mix {X : Cx} {body : List Stmt} {h0 : ExceptHandler} {hds : List ExceptHandler} {l : List Cl} {pos : Pos} {tb : WX → TS} {Wo : WX} (hs : X.stack = X.env :: X.outer) (hf : X.env.frame = some X.env.locals) (nd : X.N.Nodup) (tk : Takes X Wo)
    (hb : ∀ (W : WX) (pn : List (Addr × Obj)) (xe : Value → Shared → Prop), Takes (X.tr pn xe) W → PassesOwn (model X.prog X.w) X.A X.env xe → PSs (X.tr pn xe) body (tb W)) (hh : HdsMix X (h0 :: hds) l) :
    PS X (.Try body (h0 :: hds) [] [] pos) (fun D σ H => tb (wMix X.K Wo D l) D σ H) := by
  refine ⟨fun pins s σ H D I h => wpAny_Try_except ?_⟩
  have ok := I.ok
  have fr : X.A.frames = some (X.env :: X.outer) := by rw [ok.frames, hs]
  let xe : Value → Shared → Prop := fun e s1 => wpAny (model X.prog X.w) X.A (noteFrame e X.env) (fun _ s2 => wpAny (model X.prog X.w) X.A (setFlight e none) (fun _ s3 => wpAny (model X.prog X.w) X.A (handleBy e X.env (h0 :: hds)) (SP X pins D) X.xe s3) X.xe s2) X.xe s1
  have tkI : Takes (X.tr (X.pn ++ pins) xe) (wMix X.K Wo D l) := fun u s' xx => by
    obtain ⟨a, B, sI, pins', σ', H', cls, d, rfl, J, nb, up, sky, na, os, ag, w⟩ := xx
    have sk : Sky B (X.env :: X.outer) a (Zc cls d) X.env.locals s'.heap := by rw [← hs]; exact sky
    exact Sky.land Zc.steady fr hf sk fun h3 f3 u3 => mix_go hh hs hf nd tk _ ⟨J.ofTry ok, nb, up.trans u3, f3, na, os, ag⟩ w
  refine wpAny_mono ((hb (wMix X.K Wo D l) (X.pn ++ pins) xe tkI PassesOwn.looking).run [] s σ H D (I.toTry _) h) (fun f s1 hsp => ?_) (fun e s1 he => he)
  cases f with
  | next =>
    obtain ⟨σ', H', J, q⟩ := hsp
    exact wpAny_execs_nil ⟨σ', H', J.ofTry ok, q⟩
  | ret u =>
    obtain ⟨v, σ', H', J, r, q⟩ := hsp
    exact ⟨v, σ', H', J.ofTry ok, r, q⟩
  | _ =>
    obtain ⟨σ', H', J, q⟩ := hsp
    exact ⟨σ', H', J.ofTry ok, q⟩
end Sm
/-! SmStep: steps that need nothing, found by their heads. -/
namespace Sm
open PySem PySem.Spec PyProof.Rows L2
/-- g is shown by s -/
class Stp (g : Prop) (s : outParam Prop) : Prop where
  h : s → g
class Stn (g : Prop) (s : outParam Prop) : Prop where
  h : s → g
/-- one step and as many as go -/
class Stq (g : Prop) (s : outParam Prop) : Prop where
  h : s → g
instance (priority := low) stn_refl {g : Prop} : Stn g g := ⟨id⟩
instance stn_more {g s r : Prop} [a : Stp g s] [b : Stn s r] : Stn g r := ⟨fun q => a.h (b.h q)⟩
instance stq_of {g s r : Prop} [a : Stp g s] [b : Stn s r] : Stq g r := ⟨fun q => a.h (b.h q)⟩
/-- slot i of σ holds v; σ' is σ with v at i -/
class Get (σ : L2.St) (i : Nat) (v : outParam V) : Prop where
  h : σ[i]? = some (some v)
class Put (σ : L2.St) (i : Nat) (v : V) (σ' : outParam L2.St) : Prop where
  h : σ.set i (some v) = σ'
instance get_0 {v : V} {r : L2.St} : Get (some v :: r) 0 v := ⟨rfl⟩
instance get_s {a : Option V} {r : L2.St} {i : Nat} {v : V} [g : Get r i v] : Get (a :: r) (i + 1) v := ⟨by rw [List.getElem?_cons_succ]; exact g.h⟩
instance put_0 {v : V} {a : Option V} {r : L2.St} : Put (a :: r) 0 v (some v :: r) := ⟨rfl⟩
instance put_s {a : Option V} {r r' : L2.St} {i : Nat} {v : V} [g : Put r i v r'] : Put (a :: r) (i + 1) v (a :: r') := ⟨by rw [List.set_cons_succ, g.h]⟩
section
variable {K : PySem.W.Frag} {σ σ' : L2.St} {H : Hp} {ta tb tc te tx : TE} {t u : TT} {x y z v : V} {r : R2} {Q : VK} {D : Ends} {tu tw tz : TS} {g : TG} {k : Nat} {l : TA}
instance i_var {i : Nat} [a : Get σ i v] : Stp (tVar i σ H Q) (Q v H) := ⟨fun q => ⟨v, a.h, q⟩⟩
instance i_c : Stp (tC v σ H Q) (Q v H) := ⟨id⟩
instance i_op : Stp (tOp r ta tb σ H Q) (ta σ H fun x H1 => tb σ H1 fun y H2 => r x y H2 Q) := ⟨id⟩
instance i_un {r : V → Hp → VK → Prop} : Stp (tUn r ta σ H Q) (ta σ H fun x H1 => r x H1 Q) := ⟨id⟩
instance i_I0 {f : Int → Int → V} {i j : Int} : Stp (rI0 f (.int i) (.int j) H Q) (Q (f i j) H) := ⟨g_I0⟩
instance i_U {f : Int → V} {i : Int} : Stp (rU f (.int i) H Q) (Q (f i) H) := ⟨g_U⟩
instance i_addI {i j : Int} : Stp (rAddU (.int i) (.int j) H Q) (Q (.int (i + j)) H) := ⟨g_addI⟩
instance i_isN1 : Stp (rIsN .non .non H Q) (Q (.bl true) H) := ⟨g_isN1⟩
instance i_notN1 : Stp (rNotN .non .non H Q) (Q (.bl false) H) := ⟨g_notN1⟩
instance i_isNr {a : Addr} : Stp (rIsN (.ref a) .non H Q) (Q (.bl false) H) := ⟨g_isNr⟩
instance i_notNr {a : Addr} : Stp (rNotN (.ref a) .non H Q) (Q (.bl true) H) := ⟨g_notNr⟩
theorem g_isNi {i : Int} (q : Q (.bl false) H) : rIsN (.int i) .non H Q := ⟨rfl, by rw [decide_eq_false (fun z => by cases z)]; exact q⟩
theorem g_notNi {i : Int} (q : Q (.bl true) H) : rNotN (.int i) .non H Q := ⟨rfl, by rw [decide_eq_false (fun z => by cases z)]; exact q⟩
theorem g_isNs {i : Str} (q : Q (.bl false) H) : rIsN (.str i) .non H Q := ⟨rfl, by rw [decide_eq_false (fun z => by cases z)]; exact q⟩
theorem g_notNs {i : Str} (q : Q (.bl true) H) : rNotN (.str i) .non H Q := ⟨rfl, by rw [decide_eq_false (fun z => by cases z)]; exact q⟩
theorem g_isNb {i : Bool} (q : Q (.bl false) H) : rIsN (.bl i) .non H Q := ⟨rfl, by rw [decide_eq_false (fun z => by cases z)]; exact q⟩
theorem g_notNb {i : Bool} (q : Q (.bl true) H) : rNotN (.bl i) .non H Q := ⟨rfl, by rw [decide_eq_false (fun z => by cases z)]; exact q⟩
instance i_isNi {i : Int} : Stp (rIsN (.int i) .non H Q) (Q (.bl false) H) := ⟨g_isNi⟩
instance i_notNi {i : Int} : Stp (rNotN (.int i) .non H Q) (Q (.bl true) H) := ⟨g_notNi⟩
instance i_isNs {i : Str} : Stp (rIsN (.str i) .non H Q) (Q (.bl false) H) := ⟨g_isNs⟩
instance i_notNs {i : Str} : Stp (rNotN (.str i) .non H Q) (Q (.bl true) H) := ⟨g_notNs⟩
instance i_isNb {i : Bool} : Stp (rIsN (.bl i) .non H Q) (Q (.bl false) H) := ⟨g_isNb⟩
instance i_notNb {i : Bool} : Stp (rNotN (.bl i) .non H Q) (Q (.bl true) H) := ⟨g_notNb⟩
instance i_eqII {i j : Int} : Stp (rEqU K (.int i) (.int j) H Q) (Q (.bl (decide (i = j))) H) := ⟨g_eqII⟩
instance i_neII {i j : Int} : Stp (rNeU K (.int i) (.int j) H Q) (Q (.bl (!decide (i = j))) H) := ⟨g_neII⟩
instance i_eqSS {i j : Str} : Stp (rEqU K (.str i) (.str j) H Q) (Q (.bl (decide (i = j))) H) := ⟨g_eqSS⟩
instance i_neSS {i j : Str} : Stp (rNeU K (.str i) (.str j) H Q) (Q (.bl (!decide (i = j))) H) := ⟨g_neSS⟩
instance i_inS {c : Nat} {z : Str} : Stp (rInU K (.str ⟨#[c]⟩) (.str z) H Q) (Q (.bl (decide (c ∈ z.cps.toList))) H) := ⟨g_inS⟩
instance i_niS {c : Nat} {z : Str} : Stp (rNiU K (.str ⟨#[c]⟩) (.str z) H Q) (Q (.bl (!decide (c ∈ z.cps.toList))) H) := ⟨g_niS⟩
instance i_and : Stp (tAndV ta tb σ H Q) (ta σ H fun x H1 => ∃ c, x = .bl c ∧ if c = true then tb σ H1 Q else Q (.bl false) H1) := ⟨id⟩
instance i_or : Stp (tOrV ta tb σ H Q) (ta σ H fun x H1 => ∃ c, x = .bl c ∧ if c = true then Q (.bl true) H1 else tb σ H1 Q) := ⟨id⟩
instance i_not : Stp (tNotV ta σ H Q) (ta σ H fun x H1 => ∃ c, x = .bl c ∧ Q (.bl (!c)) H1) := ⟨id⟩
instance i_if : Stp (tIf t ta tb σ H Q) (t σ H fun c H1 => if c = true then ta σ H1 Q else tb σ H1 Q) := ⟨id⟩
instance i_exb {R : Bool → Prop} {c : Bool} : Stp (∃ d, V.bl c = .bl d ∧ R d) (R c) := ⟨g_bl⟩
instance i_exi {R : Int → Prop} {c : Int} : Stp (∃ d, V.int c = .int d ∧ R d) (R c) := ⟨g_int⟩
instance i_exs {R : Str → Prop} {c : Str} : Stp (∃ d, V.str c = .str d ∧ R d) (R c) := ⟨g_str⟩
instance i_btru {R : Bool → Prop} {k : Bool} : Stp (∃ j, TruV K (.bl k) H j ∧ R j) (R k) := ⟨g_btru⟩
instance i_par2 {R : V → V → Prop} : Stp (∃ v w, ([x, y] : List V) = [v, w] ∧ R v w) (R x y) := ⟨g_par2⟩
instance i_cons {R : List V → Hp → Prop} : Stp (tCons ta l σ H R) (ta σ H fun x H1 => l σ H1 fun xs H2 => R (x :: xs) H2) := ⟨id⟩
instance i_nil {R : List V → Hp → Prop} : Stp (tNil σ H R) (R [] H) := ⟨id⟩
instance i_CB {r : List V → Hp → VK → Prop} : Stp (tCB r l σ H Q) (l σ H fun xs H1 => r xs H1 Q) := ⟨id⟩
instance i_call {sp : Sp} {E : XK} : Stp (tCall sp [] E l σ H Q) (l σ H fun vs H1 => sp (vs ++ []) H1 Q E) := ⟨id⟩
instance i_callS {sp : Sp} {E : L2.St → XK} : Stp (tCallS sp E l σ H Q) (l σ H fun vs H1 => sp vs H1 Q (E σ)) := ⟨id⟩
/-- a new tuple, a new list of xs -/
def NewT (xs : List V) (H : Hp) (Q : VK) : Prop := xs.length ≤ sizeLine ∧ ∀ p, H p = none → Q (.ref p) (upd H p (.tup xs))
def NewL (xs : List V) (H : Hp) (Q : VK) : Prop := xs.length ≤ sizeLine ∧ ∀ p, H p = none → Q (.ref p) (upd H p (.lst xs))
theorem g_newTt {xs : List V} (hn : xs.length ≤ sizeLine) (k : ∀ p H2, H p = none → Same H H2 → H2 p = some (.tup xs) → Q (.ref p) H2) : NewT xs H Q := g_newT hn k
theorem g_newLl {xs : List V} (hn : xs.length ≤ sizeLine) (k : ∀ p H2, H p = none → Same H H2 → H2 p = some (.lst xs) → Q (.ref p) H2) : NewL xs H Q := g_newL hn k
instance i_tup : Stp (tTup l σ H Q) (l σ H fun xs H1 => NewT xs H1 Q) := ⟨id⟩
instance i_lst : Stp (tLst l σ H Q) (l σ H fun xs H1 => NewL xs H1 Q) := ⟨id⟩
instance i_seq : Stp (tSeq tu tw D σ H) (tu { D with nx := tw D } σ H) := ⟨id⟩
instance i_asg : Stp (tAsg te g D σ H) (te σ H fun x H1 => g x σ H1 D.nx) := ⟨id⟩
instance i_name {i : Nat} {R : L2.St → Hp → Prop} [a : Put σ i v σ'] : Stp (gName i v σ H R) (R σ' H) := ⟨fun q => by
  show R (σ.set i (some v)) H
  rw [a.h]
  exact q⟩
instance i_ret : Stp (tRet te D σ H) (te σ H D.rt) := ⟨id⟩
instance i_ifS : Stp (tIfS t tu tw D σ H) (t σ H fun b H1 => if b = true then tu D σ H1 else tw D σ H1) := ⟨id⟩
instance i_test {R : Bool → Hp → Prop} : Stp (tTest te σ H R) (te σ H fun x H' => ∃ k, x = .bl k ∧ R k H') := ⟨id⟩
instance i_B {R : Bool → Hp → Prop} : Stp (tB te σ H R) (te σ H fun x H' => ∃ k, x = .bl k ∧ R k H') := ⟨id⟩
instance i_tand {R : Bool → Hp → Prop} : Stp (tAnd t u σ H R) (t σ H fun b H1 => if b = true then u σ H1 R else R false H1) := ⟨id⟩
instance i_tor {R : Bool → Hp → Prop} : Stp (tOr t u σ H R) (t σ H fun b H1 => if b = true then R true H1 else u σ H1 R) := ⟨id⟩
instance i_tnot {R : Bool → Hp → Prop} : Stp (tNot t σ H R) (t σ H fun b H1 => R (!b) H1) := ⟨id⟩
instance i_next : Stp (tNext D σ H) (D.nx σ H) := ⟨id⟩
instance i_drop : Stp (tDrop te D σ H) (te σ H fun _ H1 => D.nx σ H1) := ⟨id⟩
instance i_retN : Stp (tRetN D σ H) (D.rt .non H) := ⟨id⟩
instance i_par {i j : Nat} : Stp (tPar i j l D σ H) (l σ H fun vs H1 => ∃ v w, vs = [v, w] ∧ gName i v σ H1 fun σ1 H2 => gName j w σ1 H2 D.nx) := ⟨id⟩
instance i_sl {r : V → Option Int → Option Int → Hp → VK → Prop} {tl th : TO} : Stp (tSl r te tl th σ H Q) (te σ H fun x H1 => tl σ H1 fun l H2 => th σ H2 fun u H3 => r x l u H3 Q) := ⟨id⟩
instance i_po0 {R : Option Int → Hp → Prop} : Stp (tNoPart σ H R) (R none H) := ⟨id⟩
instance i_po1 {R : Option Int → Hp → Prop} : Stp (tPart te σ H R) (te σ H fun x H1 => ∃ i, x = .int i ∧ R (some i) H1) := ⟨id⟩
instance i_abs {i : Int} : Stp (rAbs [.int i] H Q) (Q (.int (i.natAbs : Nat)) H) := ⟨g_abs⟩
instance i_min {i j : Int} : Stp (rMin2 [.int i, .int j] H Q) (Q (.int (if j < i then j else i)) H) := ⟨g_min⟩
instance i_max {i j : Int} : Stp (rMax2 [.int i, .int j] H Q) (Q (.int (if j > i then j else i)) H) := ⟨g_max⟩
instance i_intI {i : Int} : Stp (rIntU [.int i] H Q) (Q (.int i) H) := ⟨g_intI⟩
instance i_intB {b : Bool} : Stp (rIntU [.bl b] H Q) (Q (.int (if b then 1 else 0)) H) := ⟨g_intB⟩
instance i_T {A B : Prop} : Stp (if true = true then A else B) A := ⟨iteT⟩
instance i_F {A B : Prop} : Stp (if false = true then A else B) B := ⟨iteF⟩
instance i_nT {A B : Prop} : Stp (if (!true) = true then A else B) B := ⟨iteF⟩
instance i_nF {A B : Prop} : Stp (if (!false) = true then A else B) A := ⟨iteT⟩
theorem g_augV {i : Nat} {f : Int → Int → Int} {a : Int} (h : Get σ i (.int a)) (q : te σ H fun y H1 => ∃ b, y = .int b ∧ gName i (.int (f a b)) σ H1 D.nx) : tAug i te (ipI f) D σ H := g_aug h.h q
instance i_aug {i : Nat} {f : Int → Int → Int} {a : Int} [h : Get σ i (.int a)] : Stp (tAug i te (ipI f) D σ H) (te σ H fun y H1 => ∃ b, y = .int b ∧ gName i (.int (f a b)) σ H1 D.nx) := ⟨g_augV h⟩
/-- a part of an f-string -/
def FmtV (x : V) (H : Hp) (Q : VK) : Prop := (∃ y : Str, x = .str y ∧ y.length ≤ sizeLine ∧ Q (.str y) H) ∨ ∃ i : Int, x = .int i ∧ i.natAbs.log2 < 1920 ∧ Q (.str (toString i)) H
theorem g_fmtI {i : Int} (h : i.natAbs.log2 < 1920) (q : Q (.str (toString i)) H) : FmtV (.int i) H Q := .inr ⟨i, rfl, h, q⟩
theorem g_fmtS {z : Str} (h : z.length ≤ sizeLine) (q : Q (.str z) H) : FmtV (.str z) H Q := .inl ⟨z, rfl, h, q⟩
instance i_fmt : Stp (tFmt te σ H Q) (te σ H fun x H1 => FmtV x H1 Q) := ⟨id⟩
instance i_js0 {acc : Str} {R : Str → Hp → Prop} : Stp (tJs [] acc σ H R) (R acc H) := ⟨id⟩
instance i_js1 {acc : Str} {R : Str → Hp → Prop} {ts : List TE} : Stp (tJs (te :: ts) acc σ H R) (te σ H fun x H1 => ∃ y : Str, x = .str y ∧ (acc ++ y).length ≤ sizeLine ∧ tJs ts (acc ++ y) σ H1 R) := ⟨id⟩
theorem g_len {z : Str} {A : Prop} (h : z.length ≤ sizeLine) (a : A) : z.length ≤ sizeLine ∧ A := ⟨h, a⟩
/-- the unpacking of a tuple that is known -/
theorem g_gTup {n : Nat} {t : TGs} {p : Addr} {xs : List V} {R : L2.St → Hp → Prop} (h : SqT K H p xs) (hl : xs.length = n) (q : t xs σ H R) : gTup K n t (.ref p) σ H R := ⟨p, xs, rfl, h, hl, q⟩
instance i_gCons {g : TG} {t : TGs} {xs : List V} {R : L2.St → Hp → Prop} : Stp (gCons g t (x :: xs) σ H R) (g x σ H fun σ1 H1 => t xs σ1 H1 R) := ⟨fun q => ⟨x, xs, rfl, q⟩⟩
instance i_gNil {R : L2.St → Hp → Prop} : Stp (gNil [] σ H R) (R σ H) := ⟨fun q => ⟨rfl, q⟩⟩
instance i_gSub {to ti : TE} {ts : TSet} {R : L2.St → Hp → Prop} : Stp (gSub to ti ts v σ H R) (to σ H fun o H1 => ti σ H1 fun i H2 => ts o i v H2 fun H3 => R σ H3) := ⟨id⟩
theorem g_tM1 {r : V → List V → Hp → VK → Prop} (h : ta σ H fun x H1 => (∃ a, x = .str a) ∧ tb σ H1 fun y H2 => r x [y] H2 Q) : tM1 r ta tb σ H Q := h
instance i_tM1 {r : V → List V → Hp → VK → Prop} : Stp (tM1 r ta tb σ H Q) (ta σ H fun x H1 => (∃ a, x = .str a) ∧ tb σ H1 fun y H2 => r x [y] H2 Q) := ⟨id⟩
instance i_isStr {z : Str} {A : Prop} : Stp ((∃ a, V.str z = .str a) ∧ A) A := ⟨fun q => ⟨⟨z, rfl⟩, q⟩⟩
theorem g_split {a b : Str} (h1 : (b.length == 0) = false) (h2 : a.length + 2 ≤ sizeLine) (k : ∀ p H', H p = none → Same H H' → H' p = some (.lst ((PySem.Txt.split a b).map V.str)) → Q (.ref p) H') : ∃ a' b', V.str a = .str a' ∧ [V.str b] = [.str b'] ∧ (b'.length == 0) = false ∧ a'.length + 2 ≤ sizeLine ∧ rNewStrs (PySem.Txt.split a' b') H Q :=
  ⟨a, b, rfl, rfl, h1, h2, fun p hp => k p _ hp (Same.new hp) upd_same⟩
-- a test's truth, known kinds of a value
instance (priority := high) i_isiII {i : Int} : Stp (rIsi K [.int i, .ty "int"] H Q) (Q (.bl true) H) := ⟨g_intT ty_int rfl⟩
instance i_isiIB {i : Int} : Stp (rIsi K [.int i, .ty "bool"] H Q) (Q (.bl false) H) := ⟨g_boolF ty_int rfl⟩
instance i_isiIS {i : Int} : Stp (rIsi K [.int i, .ty "str"] H Q) (Q (.bl false) H) := ⟨g_strF ty_int rfl⟩
instance i_isiIT {i : Int} : Stp (rIsi K [.int i, .ty "tuple"] H Q) (Q (.bl false) H) := ⟨g_tupleF ty_int rfl⟩
instance i_isiIL {i : Int} : Stp (rIsi K [.int i, .ty "list"] H Q) (Q (.bl false) H) := ⟨g_listF ty_int rfl⟩
instance i_isiID {i : Int} : Stp (rIsi K [.int i, .ty "dict"] H Q) (Q (.bl false) H) := ⟨g_dictF ty_int rfl⟩
instance i_isiBI {i : Bool} : Stp (rIsi K [.bl i, .ty "int"] H Q) (Q (.bl true) H) := ⟨g_intT ty_bl rfl⟩
instance i_isiBB {i : Bool} : Stp (rIsi K [.bl i, .ty "bool"] H Q) (Q (.bl true) H) := ⟨g_boolT ty_bl rfl⟩
instance i_isiBS {i : Bool} : Stp (rIsi K [.bl i, .ty "str"] H Q) (Q (.bl false) H) := ⟨g_strF ty_bl rfl⟩
instance i_isiBT {i : Bool} : Stp (rIsi K [.bl i, .ty "tuple"] H Q) (Q (.bl false) H) := ⟨g_tupleF ty_bl rfl⟩
instance i_isiBL {i : Bool} : Stp (rIsi K [.bl i, .ty "list"] H Q) (Q (.bl false) H) := ⟨g_listF ty_bl rfl⟩
instance i_isiBD {i : Bool} : Stp (rIsi K [.bl i, .ty "dict"] H Q) (Q (.bl false) H) := ⟨g_dictF ty_bl rfl⟩
instance i_isiSI {i : Str} : Stp (rIsi K [.str i, .ty "int"] H Q) (Q (.bl false) H) := ⟨g_intF ty_str rfl⟩
instance i_isiSB {i : Str} : Stp (rIsi K [.str i, .ty "bool"] H Q) (Q (.bl false) H) := ⟨g_boolF ty_str rfl⟩
instance i_isiSS {i : Str} : Stp (rIsi K [.str i, .ty "str"] H Q) (Q (.bl true) H) := ⟨g_strT ty_str rfl⟩
instance i_isiST {i : Str} : Stp (rIsi K [.str i, .ty "tuple"] H Q) (Q (.bl false) H) := ⟨g_tupleF ty_str rfl⟩
instance i_isiSL {i : Str} : Stp (rIsi K [.str i, .ty "list"] H Q) (Q (.bl false) H) := ⟨g_listF ty_str rfl⟩
instance i_isiSD {i : Str} : Stp (rIsi K [.str i, .ty "dict"] H Q) (Q (.bl false) H) := ⟨g_dictF ty_str rfl⟩
instance i_isiNI : Stp (rIsi K [.non, .ty "int"] H Q) (Q (.bl false) H) := ⟨g_intF ty_non rfl⟩
instance i_isiNB : Stp (rIsi K [.non, .ty "bool"] H Q) (Q (.bl false) H) := ⟨g_boolF ty_non rfl⟩
instance i_isiNS : Stp (rIsi K [.non, .ty "str"] H Q) (Q (.bl false) H) := ⟨g_strF ty_non rfl⟩
instance i_isiNT : Stp (rIsi K [.non, .ty "tuple"] H Q) (Q (.bl false) H) := ⟨g_tupleF ty_non rfl⟩
instance i_isiNL : Stp (rIsi K [.non, .ty "list"] H Q) (Q (.bl false) H) := ⟨g_listF ty_non rfl⟩
instance i_isiND : Stp (rIsi K [.non, .ty "dict"] H Q) (Q (.bl false) H) := ⟨g_dictF ty_non rfl⟩
end
end Sm
/-! SmLam: defs that know that no repr is under way, repr of data, a captured def called, a lambda handed to a def that catches. -/
namespace Sm
open PySem PySem.Spec PyProof.Rows L2 LamX
/-! ### defs called where no repr is under way -/
structure FnG (P : Program) (w : World) (K : PySem.W.Frag) (mg : Str → Option Value) (base : Heap) (k : Nat) (f : Addr) (fd : FuncData) (ps : List Str) (sp : Sp) : Prop where
  len : ∀ vs H Q E, sp vs H Q E → vs.length = ps.length
  go : ∀ (A : Around) (outer : List Env) (s : Shared) (H : Hp) (args : Args) (us : List Value) (vs : List V) (Q : VK) (E : XK), A.guards = some [] → Room k A → Env0 P w K mg base A outer s H → BindsTo s fd args (ps.zip us) → Vals vs us →
    sp vs H Q E → codeAny (model P w) A (.call (.ref f) args) (CR (L2.CX P w) outer P w H s Q E) s
section
variable {P : Program} {w : World} {K : PySem.W.Frag} {mg : Str → Option Value} {base : Heap} {x : Str} {params : Arguments} {body : List Stmt} {scope : Scope} {fd : FuncData} {N ps : List Str} {k : Nat} {sp : Sp}
theorem FnG.mk1 (F : FunD K x x params body scope [] [] (He.fAd K (x, none)) fd) (S : FnScope N ps scope) (len : ∀ vs H Q E, sp vs H Q E → vs.length = ps.length)
    (hb : ∀ (A : Around) (outer : List Env) (s : Shared) (H : Hp) (vs : List V) (Q : VK) (E : XK), A.guards = some [] → Room k (A.deeper (envOfC x scope s.heap.objs.size (He.fAd K (x, none)) (.ref (He.cT K (x, none)).1))) → sp vs H Q E →
      ∃ t, PSs (cxOf (L2.CX P w) P w K mg base N x scope (He.fAd K (x, none)) (.ref (He.cT K (x, none)).1) A outer s H E) body t ∧ t { nx := fun _ H' => Q .non H', rt := Q } (start N vs) H) : FnG P w K mg base (k + 1) (He.fAd K (x, none)) fd ps sp := by
  obtain ⟨oc, od, dV, kV, doc, pm, an, cdv, ct, osl, rfl, lk, hcd, _, _⟩ := F.ex
  obtain ⟨c, rfl⟩ := He.codeIn_ref hcd
  have e : He.codeOf K (x, none) = c := He.codeOf_eq lk rfl
  refine ⟨len, fun A outer s H args us vs Q E gd hr e0 hbd r hsp => run_ofS lk hcd S hr e0 hbd r (len _ _ _ _ hsp) fun hr' => ?_⟩
  have e' : (He.cT K (x, none)).1 = c := e
  rw [← e'] at hr' ⊢
  exact hb A outer s H vs Q E gd hr' hsp
end
structure FnH (P : Program) (w : World) (K : PySem.W.Frag) (mg : Str → Option Value) (base : Heap) (k : Nat) (x : Str) (ps : List Str) (sp : Sp) : Prop where
  ex : ∃ f fd, FnG P w K mg base k f fd ps sp ∧ mg x = some (.ref f) ∧ PySem.W.keepIn K (.ref f) = true ∧ Binds K fd ps []
section
variable {X : Cx} {k j : Nat} {x : Str} {ps : List Str} {sp : Sp} {p pos : Pos} {e : Expr} {es : List Expr} {t : TA} {E : XK}
theorem pe_fnG (G : FnH X.prog X.w X.K X.mg X.base k x ps sp) (gd : X.A.guards = some []) (hr : Room j X.A) (ha : PA X (e :: es) t) (hk : k ≤ j := by decide) (hg : Gl X x := by rfl) (hdb : (x == ("__debug__" : Str)) = false := by decide)
    (he : starEach (e :: es) X.env = (false, eval e X.env) :: starEach es X.env := by rfl) (hpl : (backTo pos (starEach es X.env)).any (·.1) = false := by rfl) :
    PE X (.Call (.Name x p) (e :: es) [] pos) (tCall sp [] E0 t) := by
  obtain ⟨f, fd, F, m, kp, b⟩ := G.ex
  refine ⟨fun pins s σ H Q I h => wpAny_Call_Name_kw (ld_glob I hg m ?_ hdb)⟩
  refine PySem.W.callWith_K (h₀ := X.base) I.ok.mod.kin kp (thn (ha.run pos pins s σ H _ I h) fun us s1 hh => ?_) he hpl
  obtain ⟨vs, H1, I1, r, q⟩ := hh
  refine ⟨I1.kIn, wpAny_call ?_⟩
  have r2 : Vals (vs ++ []) (us ++ []) := r.append .nil
  have q2 : sp (vs ++ []) H1 Q E0 := q
  have hl : (us ++ []).length = ps.length := by rw [← r2.length]; exact F.len _ _ _ _ q2
  refine codeAny_mono (F.go X.A X.stack s1 H1 ⟨us, []⟩ (us ++ []) (vs ++ []) Q E0 gd (hr.mono hk) I1.env0 (b s1 us I1.kIn hl) r2 q2) fun z s2 hz => ?_
  cases z with
  | error e => exact passL (X := X) pins σ H1 s1 e s2 I1 hz
  | ok fl =>
    cases fl with
    | ret u => exact I1.after hz
    | _ => exact False.elim hz
/-- f() -/
theorem pe_fn0 (G : Fn X.prog X.w X.K X.mg X.base k x ps sp) (hr : Room j X.A) (hk : k ≤ j := by decide) (hg : Gl X x := by rfl) (hdb : (x == ("__debug__" : Str)) = false := by decide) : PE X (.Call (.Name x p) [] [] pos) (tCall sp [] E0 tNil) := by
  obtain ⟨f, fd, F, m, kp, b⟩ := G.ex
  exact pe_call0 F (hr.mono hk) hg m kp b .nil passL hdb
theorem pe_fnG0 (G : FnH X.prog X.w X.K X.mg X.base k x ps sp) (gd : X.A.guards = some []) (hr : Room j X.A) (hk : k ≤ j := by decide) (hg : Gl X x := by rfl) (hdb : (x == ("__debug__" : Str)) = false := by decide) : PE X (.Call (.Name x p) [] [] pos) (tCall sp [] E0 tNil) := by
  obtain ⟨f, fd, F, m, kp, b⟩ := G.ex
  refine ⟨fun pins s σ H Q I h => wpAny_Call_Name_kw (ld_glob I hg m (PySem.W.callWith_K0 I.kIn kp (wpAny_call ?_)) hdb)⟩
  have q2 : sp ([] ++ []) H Q E0 := h
  have hl : ([] : List Value).length = ps.length := by have := F.len _ _ _ _ q2; simpa using this
  refine codeAny_mono (F.go X.A X.stack s H ⟨[], []⟩ [] [] Q E0 gd (hr.mono hk) I.env0 (b s [] I.kIn hl) .nil q2) fun z s2 hz => ?_
  cases z with
  | error e => exact passL (X := X) pins σ H s e s2 I hz
  | ok fl =>
    cases fl with
    | ret u => exact I.after hz
    | _ => exact False.elim hz
/-- a name of this def, or of one around it, that holds one of some defs, called -/
def tCallW (i : Nat) (S : Addr → Prop) (sp : Sp) (E : XK) (t : TA) : TE := fun σ H Q => (∃ f, σ[i]? = some (some (.ref f)) ∧ S f) ∧ t σ H fun vs H1 => sp vs H1 Q E
theorem pe_fnW {i : Nat} {S : Addr → Prop} (G : ∀ f, S f → ∃ fd, FnOk X.prog X.w X.K X.mg X.base (L2.CX X.prog X.w) k f fd ps sp ∧ PySem.W.keepIn X.K (.ref f) = true ∧ Binds X.K fd ps []) (hr : Room j X.A) (hx : Passes (L2.CX X.prog X.w) X E) (hN : X.N[i]? = some x) (hv : Vis X.env.scope x)
    (ha : PA X (e :: es) t) (hk : k ≤ j := by decide) (hd : (x == ("__debug__" : Str)) = false := by decide) (hcd : (x == ("__classdict__" : Str)) = false := by decide)
    (he : starEach (e :: es) X.env = (false, eval e X.env) :: starEach es X.env := by rfl) (hpl : (backTo pos (starEach es X.env)).any (·.1) = false := by rfl) :
    PE X (.Call (.Name x p) (e :: es) [] pos) (tCallW i S sp E t) := by
  refine ⟨fun pins s σ H Q I h => ?_⟩
  obtain ⟨⟨f, hs, hf⟩, ht⟩ := h
  obtain ⟨fd, F, kp, b⟩ := G f hf
  refine wpAny_Call_Name_kw (thn ((pe_var (pos := p) hN hv hd hcd).run pins s σ H (fun v H1 => v = .ref f ∧ H1 = H) I ⟨.ref f, hs, rfl, rfl⟩) fun u s1 hh => ?_)
  obtain ⟨v, H1, I1, r1, rfl, rfl⟩ := hh
  obtain rfl : u = Value.ref f := r1
  refine PySem.W.callWith_K (h₀ := X.base) I.ok.mod.kin kp (thn (ha.run pos pins s1 σ _ _ I1 ht) fun us s2 hh => ?_) he hpl
  obtain ⟨vs, H2, I2, r, q⟩ := hh
  exact ⟨I2.kIn, run_fn F (hr.mono hk) b .nil hx I2 r (by rw [List.append_nil]; exact q)⟩
/-! ### repr -/
def rRepr (K : PySem.W.Frag) : List V → Hp → VK → Prop := fun xs H Q => ∃ x d, xs = [x] ∧ Dp K H x d ∧ (d.showable = true ∧ d.hasDict = false ∧ d.depth ≤ 8 ∧ d.shown.length ≤ sizeLine) ∧ Q (.str d.shown) H
theorem call_reprG (gd : X.A.guards = some []) (hu : X.A.units + 64 < cLine) : CallR X (.builtin "repr") (rRepr X.K) := by
  intro pins s σ H xs us Q I r h
  obtain ⟨x, d, rfl, hd, ⟨h1, h2, h3, h4⟩, q⟩ := h
  obtain ⟨u, rfl, ru⟩ := vals1 r
  obtain ⟨as, rd⟩ := Dp.reads I d x u hd ru
  have nd : d.hasDict = true → sysModules ∉ as := fun z => by rw [h2] at z; cases z
  cases hd with
  | non =>
    obtain rfl : u = Value.none := ru
    simp only [PyData.shown] at q
    exact PySem.P.repr_of_none ⟨.str _, H, I.tok _, ⟨_, rfl⟩, q⟩
  | bl b =>
    obtain rfl : u = Value.bool b := ru
    simp only [PyData.shown] at q
    exact PySem.P.repr_of_bool ⟨.str _, H, I.tok _, ⟨_, rfl⟩, q⟩
  | int i =>
    obtain ⟨t, rfl⟩ := ru
    simp only [PyData.shown] at q
    exact PySem.P.repr_of_int (by simpa [PyData.showable] using h1) ⟨.str _, H, I.tok _, ⟨_, rfl⟩, q⟩
  | str z =>
    obtain ⟨t, rfl⟩ := ru
    simp only [PyData.shown] at q h4
    exact PySem.P.repr_of_str ⟨.str _, H, I.tok _, ⟨_, rfl⟩, q⟩ h4
  | @lst a _ _ _ _ =>
    obtain rfl : u = Value.ref a := ru
    exact PySem.repr_of_reads' rd h1 nd gd (by omega) (fun _ _ e => e) (fun h' u tk hk => ⟨.str _, H, I.kept (t' := tk) hk, ⟨u, rfl⟩, q⟩) h4
  | @tup a _ _ _ _ =>
    obtain rfl : u = Value.ref a := ru
    exact PySem.repr_of_reads' rd h1 nd gd (by omega) (fun _ _ e => e) (fun h' u tk hk => ⟨.str _, H, I.kept (t' := tk) hk, ⟨u, rfl⟩, q⟩) h4
theorem call_reprR {j : Nat} (gd : X.A.guards = some []) (hr : Room j X.A) : CallR X (.builtin "repr") (rRepr X.K) := call_reprG gd (by have := hr.un; omega)
/-- .. of what is neither a list nor a tuple -/
def flat0 : PyData → Bool
  | .none => true
  | .bool _ => true
  | .int _ => true
  | .str _ => true
  | _ => false
def rReprL (K : PySem.W.Frag) : List V → Hp → VK → Prop := fun xs H Q => ∃ x d, xs = [x] ∧ Dp K H x d ∧ (flat0 d = true ∧ d.showable = true ∧ d.shown.length ≤ sizeLine) ∧ Q (.str d.shown) H
theorem call_reprL : CallR X (.builtin "repr") (rReprL X.K) := by
  intro pins s σ H xs us Q I r h
  obtain ⟨x, d, rfl, hd, ⟨h0, h1, h4⟩, q⟩ := h
  obtain ⟨u, rfl, ru⟩ := vals1 r
  cases hd with
  | non =>
    obtain rfl : u = Value.none := ru
    simp only [PyData.shown] at q
    exact PySem.P.repr_of_none ⟨.str _, H, I.tok _, ⟨_, rfl⟩, q⟩
  | bl b =>
    obtain rfl : u = Value.bool b := ru
    simp only [PyData.shown] at q
    exact PySem.P.repr_of_bool ⟨.str _, H, I.tok _, ⟨_, rfl⟩, q⟩
  | int i =>
    obtain ⟨t, rfl⟩ := ru
    simp only [PyData.shown] at q
    exact PySem.P.repr_of_int (by simpa [PyData.showable] using h1) ⟨.str _, H, I.tok _, ⟨_, rfl⟩, q⟩
  | str z =>
    obtain ⟨t, rfl⟩ := ru
    simp only [PyData.shown] at q h4
    exact PySem.P.repr_of_str ⟨.str _, H, I.tok _, ⟨_, rfl⟩, q⟩ h4
  | lst _ _ => cases h0
  | tup _ _ => cases h0
end
/-! ### a def that catches what the lambda that it gets raises -/
structure Catch (P : Program) (w : World) (K : PySem.W.Frag) (mg : Str → Option Value) (base : Heap) (x a : Str) (N : List Str) (args : Arguments) (body : List Stmt) (scope : Scope) (TT : (XK → Hp → VK → Prop) → Hp → VK → Prop) : Prop where
  f : ∃ fd, FunD K x x args body scope [] [] (He.fAd K (x, none)) fd ∧ Binds K fd [a] []
  g : mg x = some (.ref (He.fAd K (x, none)))
  sc : FnScope N [a] scope
  n0 : N[0]? = some a
  va : Vis scope a
  gv : ∀ {X : Cx} (cdv : Value) (q : Str), X.prog = P → X.w = w → X.K = K → X.mg = mg → X.base = base → X.A.guards = some [] → X.A.units + 100 < cLine → GivesTo X N x scope (He.fAd K (x, none)) cdv body a q TT
section
variable {X : Cx}
theorem pe_catch {T : List (Addr × Str)} {TT : (XK → Hp → VK → Prop) → Hp → VK → Prop} {x a : Str} {k j : Nat} {ag : Arguments} {bg : List Stmt} {sg : Scope} {Ng : List Str} {c P : Addr}
    {params : Arguments} {body : Expr} {scope : Scope} {t : XK → TE} {p lpos pos : Pos} (G : Catch X.prog X.w X.K X.mg X.base x a Ng ag bg sg TT) (gd : X.A.guards = some [])
    (TB : TabB X.base X.mg c P) (hcode : X.env.code = .ref c) (hmT : (P, X.env.qual ++ "<lambda>") ∈ T) (hu : ∀ p ∈ T, p.1 = P → p.2 = X.env.qual ++ "<lambda>") (hr : Room j X.A) (L : LamS X.env.scope scope) (hk : k + 2 ≤ j)
    (hbody : ∀ (A : Around) (outer : List Env) (s : Shared) (H : Hp) (E : XK) (f c' : Addr), Room k (A.deeper (lamEnv X scope s.heap.objs.size f c')) → PE (lamCx X A outer s H E scope f c') body (t E))
    (hdef : defaultsOf params X.env = ([], []) := by rfl) (hbind : ∀ (q : Str) (cl : List (Str × Addr)) (pm cv ctv : Value), bindArgs (PySem.W.kla_fn "<lambda>" q params body scope cl pm cv ctv) ⟨[], []⟩ = pure [] := by intros; rfl)
    (hg : Gl X x := by rfl) (hdb : (x == ("__debug__" : Str)) = false := by decide) (hd : (a == ("__debug__" : Str)) = false := by decide) (hcd : (a == ("__classdict__" : Str)) = false := by decide) :
    PE X (.Call (.Name x p) [.Lambda params body scope lpos] [] pos) (tLam T TT t) := by
  obtain ⟨fd, F, b⟩ := G.f
  have kp := F.kp
  obtain ⟨oc, od, dV, kV, doc, pm, an, cdv, ct, osl, rfl, lk, hcg, _, _⟩ := F.ex
  have hr2 := hr.mono hk
  exact pe_lamcall hg G.g kp lk hcg b G.sc G.n0 G.va (G.gv cdv _ rfl rfl rfl rfl rfl gd (by have := hr2.un; omega)) TB hcode hmT hu hr2 L hdef hbind hbody hdb hd hcd
end
/-! ### heaps in which tables may have grown -/
theorem exN_same {H H1 H2 : Hp} (e : ExtN H H1) (s : Same H1 H2) : ExtN H H2 := fun b o h n => s b o (e b o h n)
theorem same_exN {H H1 H2 : Hp} (s : Same H H1) (e : ExtN H1 H2) : ExtN H H2 := fun b o h n => e b o (s b o h) n
theorem exN_of {H H1 : Hp} (s : Same H H1) : ExtN H H1 := ExtN.of s
theorem exN_tup {H H1 : Hp} {a : Addr} {xs : List V} (e : ExtN H H1) (h : H a = some (.tup xs)) : H1 a = some (.tup xs) := e _ _ h (fun _ z => by cases z)
theorem exN_lst {H H1 : Hp} {a : Addr} {xs : List V} (e : ExtN H H1) (h : H a = some (.lst xs)) : H1 a = some (.lst xs) := e _ _ h (fun _ z => by cases z)
theorem exN_seqL {K : PySem.W.Frag} {H H1 : Hp} {a : Addr} {xs : List V} (e : ExtN H H1) (h : SqL K H a xs) : SqL K H1 a xs := by
  rcases h with (h | ⟨o, h⟩) | h
  · exact .inl (.inl (exN_lst e h))
  · exact .inl (.inr ⟨o, e _ _ h (fun _ z => by cases z)⟩)
  · exact .inr h
theorem exN_seqT {K : PySem.W.Frag} {H H1 : Hp} {a : Addr} {xs : List V} (e : ExtN H H1) (h : SqT K H a xs) : SqT K H1 a xs := by
  rcases h with (h | ⟨o, h⟩) | h
  · exact .inl (.inl (exN_tup e h))
  · exact .inl (.inr ⟨o, e _ _ h (fun _ z => by cases z)⟩)
  · exact .inr h
mutual
theorem exN_dp {K : PySem.W.Frag} {H H1 : Hp} (e : ExtN H H1) : ∀ {x : V} {d : PyData}, Dp K H x d → Dp K H1 x d
  | _, _, .non => .non
  | _, _, .bl b => .bl b
  | _, _, .int i => .int i
  | _, _, .str x => .str x
  | _, _, .lst h r => .lst (exN_seqL e h) (exN_dps e r)
  | _, _, .tup h r => .tup (exN_seqT e h) (exN_dps e r)
theorem exN_dps {K : PySem.W.Frag} {H H1 : Hp} (e : ExtN H H1) : ∀ {xs : List V} {ds : List PyData}, DpAll K H xs ds → DpAll K H1 xs ds
  | _, _, .nil => .nil
  | _, _, .cons h r => .cons (exN_dp e h) (exN_dps e r)
end
/-! ### defaults -/
structure FnD (P : Program) (w : World) (K : PySem.W.Frag) (mg : Str → Option Value) (base : Heap) (k : Nat) (x : Str) (ps : List Str) (sp : Sp) (dvs : List V) : Prop where
  ex : ∃ f fd ds, FnOk P w K mg base (L2.CX P w) k f fd ps sp ∧ mg x = some (.ref f) ∧ PySem.W.keepIn K (.ref f) = true ∧ Vals dvs ds ∧ Binds K fd ps ds
section
variable {X : Cx} {k j : Nat} {x : Str} {ps : List Str} {sp : Sp} {dvs : List V} {p pos : Pos} {e : Expr} {es : List Expr} {t : TA} {E : XK}
theorem pe_fnDE (G : FnD X.prog X.w X.K X.mg X.base k x ps sp dvs) (hr : Room j X.A) (ha : PA X (e :: es) t) (hx : Passes (L2.CX X.prog X.w) X E) (hk : k ≤ j := by decide) (hg : Gl X x := by rfl) (hdb : (x == ("__debug__" : Str)) = false := by decide)
    (he : starEach (e :: es) X.env = (false, eval e X.env) :: starEach es X.env := by rfl) (hpl : (backTo pos (starEach es X.env)).any (·.1) = false := by rfl) :
    PE X (.Call (.Name x p) (e :: es) [] pos) (tCall sp dvs E t) := by
  obtain ⟨f, fd, ds, F, m, kp, v, b⟩ := G.ex
  exact pe_call F (hr.mono hk) hg m kp b v hx ha hdb he hpl
theorem pe_fnD (G : FnD X.prog X.w X.K X.mg X.base k x ps sp dvs) (hr : Room j X.A) (ha : PA X (e :: es) t) (hk : k ≤ j := by decide) (hg : Gl X x := by rfl) (hdb : (x == ("__debug__" : Str)) = false := by decide)
    (he : starEach (e :: es) X.env = (false, eval e X.env) :: starEach es X.env := by rfl) (hpl : (backTo pos (starEach es X.env)).any (·.1) = false := by rfl) :
    PE X (.Call (.Name x p) (e :: es) [] pos) (tCall sp dvs E0 t) := by
  obtain ⟨f, fd, ds, F, m, kp, v, b⟩ := G.ex
  exact pe_call F (hr.mono hk) hg m kp b v passL ha hdb he hpl
theorem pe_gr {X : Cx} {x : Str} {a : Addr} {pos : Pos} (hm : X.mg x = some (.ref a)) (hg : Gl X x := by rfl) (hdb : (x == ("__debug__" : Str)) = false := by decide) : PE X (.Name x pos) (tC (.ref a)) := pe_glob hg hm rfl hdb
theorem op_inT {k : Nat} (hr : Room k X.A) : OpR X (compareOp .In) (fun x y H Q => ∃ d ds, Dp X.K H x d ∧ Dp X.K H y (.tuple ds) ∧ SeqAt.shaped d = true ∧ SeqAt.shaped (.tuple ds) = true ∧ Q (.bl (ds.any fun z => PyData.eqv z d)) H) := by
  intro pins s σ H x y v u Q I rx ry h
  obtain ⟨d, ds, hd, he, sd, se, q⟩ := h
  obtain ⟨as, r1⟩ := Dp.reads I d x v hd rx
  obtain ⟨bs, r2⟩ := Dp.reads I (.tuple ds) y u he ry
  exact SeqAt.in_tuple_reads r2 r1 (SeqAt.canLay_of_shaped se) (SeqAt.canLay_of_shaped sd) (room_in_shaped sd (by have := hr.un; omega)) ⟨.bl _, H, I, rfl, q⟩
end
instance i_chain {r r' : R2} {ta tb tc : TE} {σ : L2.St} {H : Hp} {Q : VK} : Stp (tChain r r' ta tb tc σ H Q) (ta σ H fun x H1 => tb σ H1 fun y H2 => r x y H2 fun z H3 => ∃ k, z = .bl k ∧ (if k = true then tc σ H3 fun w' H4 => r' y w' H4 Q else Q (.bl false) H3)) := ⟨id⟩
instance (priority := low) i_callD {sp : Sp} {dvs : List V} {E : XK} {l : TA} {σ : L2.St} {H : Hp} {Q : VK} : Stp (tCall sp dvs E l σ H Q) (l σ H fun vs H1 => sp (vs ++ dvs) H1 Q E) := ⟨id⟩
instance i_yes {σ : L2.St} {H : Hp} {R : Bool → Hp → Prop} : Stp (tYes σ H R) (R true H) := ⟨id⟩
theorem tab_uni {T : List (Addr × Str)} {P : Addr} {q : Str} (hn : (T.map (·.1)).Nodup) (hm : (P, q) ∈ T) : ∀ p ∈ T, p.1 = P → p.2 = q := by
  induction T with
  | nil => cases hm
  | cons a r ih =>
    rw [List.map_cons, List.nodup_cons] at hn
    intro p hp e
    rcases List.mem_cons.mp hp with rfl | hp
    · rcases List.mem_cons.mp hm with z | z
      · rw [← z]
      · exact absurd (List.mem_map.mpr ⟨_, z, e.symm⟩) hn.1
    · rcases List.mem_cons.mp hm with z | z
      · exact absurd (List.mem_map.mpr ⟨p, hp, by rw [e, ← z]⟩) hn.1
      · exact ih hn.2 z p hp e
theorem pyC {i j : Int} (hi : i.natAbs < 2 ^ 13000) : Builtin.divisionGoesByPylong i j = false := by
  have hx : ∀ x : Int, x.natAbs < 2 ^ 13000 → (if x == 0 then 0 else x.natAbs.log2 / 30 + 1) ≤ 434 := fun x hx => by
    have : x.natAbs.log2 < 13000 := PySem.Flt.log2_lt_of (by decide) hx
    split <;> omega
  have h1 := hx i hi
  unfold Builtin.divisionGoesByPylong
  show (decide ((if j == 0 then 0 else j.natAbs.log2 / 30 + 1) > 300) && decide ((if i == 0 then 0 else i.natAbs.log2 / 30 + 1) > (if j == 0 then 0 else j.natAbs.log2 / 30 + 1) + 150)) = false
  by_cases h : (if j == 0 then 0 else j.natAbs.log2 / 30 + 1) > 300
  · rw [decide_eq_false (p := _ > _ + 150) (by omega), Bool.and_false]
  · rw [decide_eq_false h, Bool.false_and]
section
variable {K : PySem.W.Frag} {H : Hp} {Q : VK} {σ : L2.St} {x y : V} {p : Addr} {xs : List V}
theorem g_app (h : H p = some (.lst xs)) (hz : xs.length < sizeLine) (q : ∀ H', Same (dl H p) H' → H' p = some (.lst (xs ++ [y])) → Q .non H') : rAppend (.ref p) [y] H Q := ⟨p, xs, y, rfl, rfl, h, hz, q _ (dl_mut dl_sub) upd_same⟩
theorem g_tyL {R : Prop} (h : H p = some (.lst xs)) (r : R) : tyV K "list" (.ref p) H ∧ R := ⟨.inl ⟨rfl, xs, .inl (.inl h)⟩, r⟩
theorem g_BM {T : String} {r : V → List V → Hp → VK → Prop} {to : TE} {t : TA} (h : to σ H fun x H1 => tyV K T x H1 ∧ t σ H1 fun xs H2 => r x xs H2 Q) : tBM K T r to t σ H Q := h
theorem g_rep {n : Int} (h : H p = some (.lst xs)) (h0 : 0 ≤ n) (h1 : n < 1000) (hl : xs.length ≤ 1000) (q : ∀ a H', H a = none → Same H H' → H' a = some (.lst ((List.replicate n.toNat xs).flatten)) → Q (.ref a) H') : rRep (.ref p) (.int n) H Q := by
  refine ⟨p, n, xs, rfl, rfl, h, by omega, by omega, ?_, fun a ha => ?_⟩
  · have : n.toNat ≤ 1000 := by omega
    have h2 : xs.length * n.toNat ≤ 1000 * 1000 := Nat.mul_le_mul hl this
    exact Nat.le_trans h2 (by decide)
  · exact q a _ ha (Same.new ha) (by first | exact upd_same | (rw [upd_same]; rfl))
theorem g_isNx (h : x ≠ .non) (q : Q (.bl false) H) : rIsN x .non H Q := ⟨rfl, by rw [decide_eq_false h]; exact q⟩
theorem g_fdivN {i j g : Int} (hg : 0 < g) (hj : j = -g) (hd : g ∣ i) (hp : Builtin.divisionGoesByPylong i j = false) (q : Q (.int (-i / g)) H) : rI CDivU (fun i j => .int (i.fdiv j)) (.int i) (.int j) H Q := by
  refine ⟨i, j, rfl, rfl, ⟨by omega, hp⟩, ?_⟩
  obtain ⟨k, rfl⟩ := hd
  subst hj
  have e1 : (g * k).fdiv (-g) = -k := by
    rw [show g * k = -g * -k by rw [Int.neg_mul_neg]]
    exact Int.mul_fdiv_cancel_left _ (by omega)
  have e2 : -(g * k) / g = -k := by
    rw [show -(g * k) = g * -k by rw [Int.mul_neg]]
    exact Int.mul_ediv_cancel_left _ (by omega)
  rw [e2] at q
  show Q (.int ((g * k).fdiv (-g))) H
  rw [e1]
  exact q
theorem g_tupI {R : It → Hp → Prop} {tl : TE} (h : tl σ H fun x H1 => ∃ a, x = .ref a ∧ (∃ xs, SqT K H1 a xs) ∧ R (Itt K a) H1) : iTup K tl σ H R := h
theorem g_tupIi {R : Addr → Prop} (h : SqT K H p xs) (r : R p) : ∃ a, V.ref p = .ref a ∧ (∃ xs, SqT K H a xs) ∧ R a := ⟨p, rfl, ⟨_, h⟩, r⟩
theorem g_niT (h : SqT K H p xs) (hx : flatV x = true) (ha : xs.all flatV = true) (q : Q (.bl (!inV x xs)) H) : rNiU K x (.ref p) H Q := .inr ⟨p, xs, rfl, .inr h, hx, ha, q⟩
theorem g_repr {d : PyData} (hd : Dp K H x d) (h : d.showable = true ∧ d.hasDict = false ∧ d.depth ≤ 8 ∧ d.shown.length ≤ sizeLine) (q : Q (.str d.shown) H) : rRepr K [x] H Q := ⟨x, d, rfl, hd, h, q⟩
theorem g_reprL {d : PyData} (hd : Dp K H x d) (h : flat0 d = true ∧ d.showable = true ∧ d.shown.length ≤ sizeLine) (q : Q (.str d.shown) H) : rReprL K [x] H Q := ⟨x, d, rfl, hd, h, q⟩
theorem g_all {bs : List Bool} (h : SqL K H p (bs.map V.bl)) (q : Q (.bl (bs.all id)) H) : rAll K [.ref p] H Q := ⟨p, bs, rfl, h, q⟩
theorem g_tupL (h : SqL K H p xs) (q : ∀ a H', H a = none → Same H H' → H' a = some (.tup xs) → Q (.ref a) H') : ∃ p' ys, ([V.ref p] : List V) = [.ref p'] ∧ ((SqL K H p' ys ∧ ∀ l, H l = none → Q (.ref l) (upd H l (.tup ys))) ∨ (SqT K H p' ys ∧ Q (.ref p') H)) :=
  ⟨p, xs, rfl, .inl ⟨h, fun l hl => q l _ hl (Same.new hl) upd_same⟩⟩
end
/-- three statements, then the rest, with a word between -/
theorem pss_cut3 {X : Cx} {s1 s2 s3 : Stmt} {rest : List Stmt} {t1 t2 t3 u : TS} (h1 : PS X s1 t1) (h2 : PS X s2 t2) (h3 : PS X s3 t3) (h4 : PSs X rest u) : PSs X (s1 :: s2 :: s3 :: rest) (C8.tCut (tSeq t1 (tSeq t2 t3)) u) := by
  refine ⟨fun pins s σ H D I h => ?_⟩
  obtain ⟨Mid, hm, hu⟩ := h
  refine wpAny_execs_cons (thn (h1.run pins s σ H { D with nx := tSeq t2 t3 { D with nx := Mid } } I hm) fun f sA q => ?_)
  cases f with
  | next =>
    obtain ⟨σ1, H1, I1, q⟩ := q
    refine wpAny_execs_cons (thn (h2.run pins sA σ1 H1 { D with nx := t3 { D with nx := Mid } } I1 q) fun f sB q => ?_)
    cases f with
    | next =>
      obtain ⟨σ2, H2, I2, q⟩ := q
      refine wpAny_execs_cons (thn (h3.run pins sB σ2 H2 { D with nx := Mid } I2 q) fun f sC q => ?_)
      cases f with
      | next =>
        obtain ⟨σ3, H3, I3, q⟩ := q
        exact h4.run pins sC σ3 H3 D I3 (hu _ _ q)
      | _ => exact q
    | _ => exact q
  | _ => exact q
end Sm
/-! SmDict: list(d.values()), min(.., key=len), a display of a set of ints, enumerate(tuple), defs with their code known. -/
namespace Sm
open PySem PySem.Spec PyProof.Rows L2
/-! ### list(d.values()) -/
def rValsL : V → Hp → VK → Prop := fun x H Q => ∃ (d : Addr) (kvs : List (Key × V)), x = .ref d ∧ H d = some (.dK kvs) ∧ ∀ p, H p = none → Q (.ref p) (upd H p (.lst (kvs.map (·.2))))
def tListVals (te : TE) : TE := fun σ H Q => te σ H fun x H1 => rValsL x H1 Q
theorem pe_listVals {X : Cx} {e : Expr} {te : TE} {p apos cpos pos : Pos} (hc : X.calm = true) (he : PE X e te) (hm : X.mg "list" = none) (hg : Gl X "list" := by rfl) (hv : bootBuiltins "list" = some (.type "list") := by decide +kernel) (hbase : attributeBase e "values" X.env (eval e X.env) = eval e X.env := by rfl) (hline : (apos.endLine == cpos.line) = true := by rfl)
    (hs : starEach [.Call (.Attribute e "values" apos) [] [] cpos] X.env = (false, eval (.Call (.Attribute e "values" apos) [] [] cpos) X.env) :: starEach [] X.env := by rfl) :
    PE X (.Call (.Name "list" p) [.Call (.Attribute e "values" apos) [] [] cpos] [] pos) (tListVals te) := by
  refine ⟨fun pins s σ H Q I hq => ?_⟩
  refine wpAny_Call_Name_kw (ld_blt I hg hm hv ?_)
  refine PyProof.Rows.callWith_type1 ?_ hs rfl
  rw [hs]
  show wpAny _ _ (spliced ((false, eval (.Call (.Attribute e "values" apos) [] [] cpos) X.env) :: backTo pos (starEach [] X.env))) _ _ s
  refine Calls.spliced_cons ?_
  refine wpAny_Call_method (T := "dict") (id := "dict.values") hbase rfl hline F.plainAttrs_dict F.slot_dict_values F.type_dict_values (thn (he.run pins s σ H _ I hq) fun u s1 ⟨x, H1, I1, rx, d, kvs, ex, hd, q⟩ => ?_)
  subst ex
  obtain rfl : u = Value.ref d := rx
  obtain ⟨hz, hs0, vs, kv, hdo⟩ := I1.hok d _ hd
  obtain ⟨ep, hat⟩ := hdo.dictAt
  have lk : kvs.length = vs.length := Paired.length kv
  have I2 : Inv X pins σ H1 { s1 with heap := s1.heap.push { cls := .type "dict_values", data := .fields #[.ref d] } } := I1.kept (t' := s1.toks) fun b ob q => Heap.get?_push_of_some _ q
  refine ⟨hdo.typeIs, hdo.mapOf.noDict, ?_⟩
  show wpAny _ _ (callWith cpos (.builtin "dict.values") [.ref d] [] []) _ X.xe s1
  refine method_meetsIn F.slot_dict_values F.entry_dict_values rfl (PySem.evalArgs_none ⟨rfl, hdo.typeIs, F.args_dict_values_1 _, _, meets_dict_values (mixKind X.prog X.w) d hs0, ⟨vs, hdo⟩, ?_⟩)
  refine Calls.spliced_nil ?_
  refine PySem.W.kdl_call (PySem.W.kdl_values (knd := mixKind X.prog X.w) (kvs := vs) (ep := ep)) (I1.ok.hd hc) ⟨⟨_, Heap.get?_push_size _ rfl, rfl, rfl⟩, hat.push _⟩ (by omega) fun h' tk acc' c' hkeep hS hacc => ?_
  have hlen : (kvs.map (·.2)).length ≤ sizeLine := by rw [List.length_map]; exact hz
  refine ⟨.ref _, upd H1 _ (.lst (kvs.map (·.2))), I2.laid hkeep (Nat.le_refl _) (show ObjOk X.prog X.w _ _ _ (.lst (kvs.map (·.2))) from ⟨hlen, acc'.toList, c', ?_, ?_⟩), rfl, q _ (I2.hok.fresh (Nat.le_refl _))⟩
  · have el : acc'.toList.length = acc'.size := by simp
    refine vals_of_at (by rw [List.length_map, el, hacc.1, lk]) fun j x w h1 h2 => ?_
    obtain ⟨k, hky⟩ := hacc.2 j w (by rw [← Array.getElem?_toList]; exact h2)
    rw [List.getElem?_map] at h1
    obtain ⟨pk, hpk, rfl⟩ := Option.map_eq_some_iff.mp h1
    obtain ⟨y, g1, g2⟩ := LiI.paired_get kv hpk
    rw [hky] at g1
    cases g1
    exact g2.2
  · rw [Array.toArray_toList]
    exact hS
/-! ### min(xs, key=len) -/
def tMinLen (K : PySem.W.Frag) (t : TA) : TE := fun σ H Q => t σ H fun vs H1 => ∃ (a : Addr) (zs : List Str), vs = [.ref a] ∧ SqL K H1 a (zs.map V.str) ∧ zs ≠ [] ∧ (∀ z ∈ zs, z.length ≤ sizeLine) ∧
  ∀ z, zs[argBest (fun i j => decide (((zs.getD i "").length : Int) < ((zs.getD j "").length : Int))) (zs.length - 1)]? = some z → Q (.str z) H1
theorem pe_minLen {X : Cx} {e : Expr} {t : TA} {p pos kpos np : Pos} (hc : X.calm = true) (ha : PA X [e] t) (hm : X.mg "min" = none) (hm2 : X.mg "len" = none) (hg : Gl X "min" := by rfl) (hg2 : Gl X "len" := by rfl)
    (hs : backTo pos (starEach [e] X.env) = (false, eval e X.env) :: backTo pos (starEach [] X.env) := by rfl) :
    PE X (.Call (.Name "min" p) [e] [⟨some "key", .Name "len" np, kpos⟩] pos) (tMinLen X.K t) := by
  refine ⟨fun pins s σ H Q I h => ?_⟩
  refine wpAny_Call_Name_kw (ld_blt I hg hm (u := .builtin "min") (by decide +kernel) ?_)
  refine PyProof.Rows.callWith_kw (thn (ha.run pos pins s σ H _ I h) fun us s1 ⟨vs, H1, I1, r1, a, zs, ev, hz, hne, hle, q1⟩ => ?_) hs (by rw [hs] <;> rfl)
  subst ev
  obtain rfl := Vals.ref1 r1
  show wpAny _ _ (evalAll ((do let v ← eval (.Name "len" np) X.env; standAt pos; pure v) :: [])) _ _ s1
  refine wpAny_evalAll_cons (wpAny_bind (ld_blt I1 hg2 hm2 (u := .builtin "len") (by decide +kernel) (wpAny_bind (wpAny_standAt (wpAny_pure (wpAny_evalAll_nil ?_))))))
  show wpAny _ _ (call (.builtin "min") [.ref a] [(Str.ofString "key", .builtin "len")]) _ _ s1
  obtain ⟨its, rv, hl, hzl⟩ := I1.list hz
  have hll : its.length = zs.length := by rw [← rv.length, List.length_map]
  have hstr : ∀ i v, its.toArray[i]? = some v → ∃ t, v = .str (zs.getD i "") t ∧ (zs.getD i "").length ≤ sizeLine := fun i v hv => by
    have hi : i < its.length := by
      rcases Nat.lt_or_ge i its.length with z | z
      · exact z
      · rw [Array.getElem?_eq_none (by simpa using z)] at hv; cases hv
    have hzi : zs[i]? = some (zs.getD i "") := by
      rw [List.getD_eq_getElem?_getD, List.getElem?_eq_getElem (by omega)]
      rfl
    have h1 : (zs.map V.str)[i]? = some (V.str (zs.getD i "")) := by rw [List.getElem?_map, hzi]; rfl
    obtain ⟨u, hu, t, ru⟩ := rv.get h1
    have e1 : its[i]? = some v := by simpa using hv
    rw [e1] at hu
    cases hu
    exact ⟨t, ru, hle _ (List.mem_of_getElem? hzi)⟩
  have hlt : a < s1.heap.objs.size := hl.lt
  refine call_min_walkKB (wpAny_pyIter_list hl.isList ?_)
  have hW := (Walks.list (prog := X.prog) (w := X.w) (A := X.A.in1) (I1.ok.hd hc) s1.heap.objs.size a (Nat.ne_of_lt hlt) its.toArray).toS
  refine ⟨_, _, _, _, its.toArray.size, _, _, (fun s' => (∀ b o, s1.heap.get? b = some o → s'.heap.get? b = some o) ∧ s'.gens = s1.gens ∧ s'.drawn = s1.drawn ∧ s'.os = s1.os), (fun i k _ => ∃ t, k = .int ((zs.getD i "").length : Int) t), (fun i j => decide (((zs.getD i "").length : Int) < ((zs.getD j "").length : Int))), rfl, hW, ?_, ?_, ?_, ⟨?_, ?_, ?_, ?_⟩, ?_, ?_⟩
  · exact ⟨⟨_, Heap.get?_push_size _ rfl, rfl, rfl⟩, hl.isList.push _⟩
  · intro b hb
    show b < (s1.heap.push _).objs.size
    rw [Heap.size_push]
    have : b = s1.heap.objs.size ∨ b = a := by simpa using hb
    rcases this with z | z
    · rw [z]; exact Nat.lt_succ_self _
    · rw [z]; exact Nat.lt_succ_of_lt hlt
  · have : zs.length ≠ 0 := fun z => hne (List.length_eq_zero_iff.mp z)
    rw [List.size_toArray]
    omega
  · rintro x y ⟨k1, k2, k3, k4⟩ m
    refine ⟨fun b o hb => m.heap b o (fun z => ?_) (k1 b o hb), m.gens.trans k2, m.drawn.trans k3, m.os.trans k4⟩
    have hb' := Heap.lt_size hb
    have e1 : (s1.heap.push { cls := .type "list_iterator", data := .fields #[.ref a, .int 0 0] }).objs.size = s1.heap.objs.size + 1 := Heap.size_push ..
    have : b = (s1.heap.push { cls := .type "list_iterator", data := .fields #[.ref a, .int 0 0] }).objs.size ∨ b = s1.heap.objs.size := by simpa using z
    rcases this with z | z
    · rw [z, e1] at hb'
      exact absurd hb' (Nat.not_lt.mpr (Nat.le_succ _))
    · rw [z] at hb'
      exact absurd hb' (Nat.lt_irrefl _)
  · exact fun i k x y hv _ => hv
  · intro i v x o Q' E' hi hP hJ hst hS hk
    obtain ⟨t, rfl, hzz⟩ := hstr i v hP
    refine len_str (by rw [sizeLine_eq] at hzz; omega) ?_
    exact hk _ _ hJ hst hS ⟨_, rfl⟩ fun j k' z => z
  · rintro i j ki kj x Q' E' hJ ⟨t, rfl⟩ ⟨u, rfl⟩ hq
    exact richCompare_gives (op := .Lt) (typeIs_int x _ t) (typeIs_int x _ u) F.slot_int_lt F.entry_int_lt (F.args_int_lt_2 _ _) (gives_int_lt _ _ t u) (fun x => nomatch x) hq
  · exact ⟨fun b o hb => Heap.get?_push_of_some _ hb, rfl, rfl, rfl⟩
  · intro v s' hP hJ
    obtain ⟨k1, k2, k3, k4⟩ := hJ
    obtain ⟨t, rfl, _⟩ := hstr _ v hP
    obtain ⟨hp, g, dr, tk, os⟩ := s'
    dsimp only at k1 k2 k3 k4
    subst k2 k3 k4
    have hsz : its.toArray.size = zs.length := by rw [List.size_toArray]; exact hll
    refine ⟨.str _, H1, I1.kept (t' := tk) k1, ⟨t, rfl⟩, q1 _ ?_⟩
    rw [hsz] at hP
    have hi : argBest (fun i j => decide (((zs.getD i "").length : Int) < ((zs.getD j "").length : Int))) (zs.length - 1) < zs.length := by
      rcases Nat.lt_or_ge (argBest (fun i j => decide (((zs.getD i "").length : Int) < ((zs.getD j "").length : Int))) (zs.length - 1)) its.length with z | z
      · rw [hll] at z
        exact z
      · rw [Array.getElem?_eq_none (by simpa using z)] at hP; cases hP
    rw [hsz, List.getElem?_eq_getElem hi, List.getD_eq_getElem?_getD, List.getElem?_eq_getElem hi]
    rfl
/-! ### a display of a set of ints -/
inductive PEs (X : Cx) : List Expr → TA → Prop
  | nil : PEs X [] tNil
  | cons {e : Expr} {es : List Expr} {te : TE} {t : TA} : PE X e te → PEs X es t → PEs X (e :: es) (tCons te t)
theorem PEs.run {X : Cx} {es : List Expr} {t : TA} (h : PEs X es t) {pins : List (Addr × Obj)} {σ : L2.St} : ∀ (s : Shared) (H : Hp) (Q : List V → Hp → Prop) (R : List Value → Shared → Prop), Inv X pins σ H s → t σ H Q →
    (∀ vs s' ys H', Inv X pins σ H' s' → Vals ys vs → Q ys H' → R vs s') → PySem.W.KdsAll (model X.prog X.w) X.A X.xe X.env es R s := by
  induction h with
  | nil => exact fun s H Q R I q k => k [] s [] H I .nil q
  | @cons e es te t he _ ih =>
    intro s H Q R I q k
    show wpAny _ _ (eval e X.env) (fun v s' => PySem.W.KdsAll (model X.prog X.w) X.A X.xe X.env es (fun vs => R (v :: vs)) s') X.xe s
    exact thn (he.run pins s σ H _ I q) fun v s1 ⟨y, H1, I1, r1, q1⟩ => ih s1 H1 _ _ I1 q1 fun vs s' ys H' I' r' q' => k (v :: vs) s' (y :: ys) H' I' (.cons r1 r') q'
section
variable {P : Program} {w : World} {A : Around} {E : Value → Shared → Prop}
theorem fill_ints {u : Bool} {D : Addr} {Q : Value → Shared → Prop} : ∀ (ns : List Int) (us : List Value) (s : Shared) (S : Int → Bool) (n : Nat), Vals (ns.map V.int) us → SetR w s.heap D S n → n + ns.length < 4000 →
    (∀ h' tk n', Heap.SameBut D s.heap h' → SetR w h' D (fun x => S x || decide (x ∈ ns)) n' → n' ≤ n + ns.length → PySem.W.KdsFill (model P w) A E u D Q [] { s with heap := h', toks := tk }) → PySem.W.KdsFill (model P w) A E u D Q us s
  | [], _, s, S, n, .nil, R, hn, k => by
    have := k s.heap s.toks n ⟨rfl, fun _ _ => rfl⟩ (R.congr fun x => by simp) (Nat.le_refl _)
    exact this
  | i :: ns, _, s, S, n, .cons ri r, R, hn, k => by
    obtain ⟨tk, rfl⟩ := ri
    rw [List.length_cons] at hn k
    refine PySem.W.kds_fill_cons ?_
    unfold setAdd
    refine wpAny_holding (wpAny_bind ((intKind P w).pyHash (intKind_is P w i tk) ?_))
    refine setR_add_hashed (s := { s with toks := s.toks + 1 }) R (by unfold scanBound; omega) fun h' sb R' => ?_
    have hlen : (if S i = true then n else n + 1) ≤ n + 1 := by split <;> omega
    refine fill_ints ns _ _ _ _ r R' (by omega) fun h2 tk2 n' sb2 R2 hn' => ?_
    refine k h2 tk2 n' (sb.trans sb2) (R2.congr fun x => ?_) (by omega)
    by_cases h1 : x = i <;> simp [h1, Bool.or_assoc]
/-- the display's own work, one by one -/
theorem kds_coreL {b : Bool} {elts : List (Bool × Sem Value)} {ts : List (Sem Value)} {s : Shared} {Q : Value → Shared → Prop} (hs : elts.findIdx? (·.1) = none) (hlen : elts.length ≤ 30) (hm : elts.map (·.2) = ts)
    (h : wpAny (model P w) A (evalAll ts) (fun vs s' => PySem.W.KdsFill (model P w) A E false s.heap.objs.size Q vs s') E { s with heap := s.heap.push { cls := .type "set", dict := none, data := .set #[] 0 (.fresh 0 0 (!w.params.followText "set-order")) } }) :
    wpAny (model P w) A (setDisplay .oneByOne b elts) Q E s := by
  have hn : (if elts.length > 30 then 0 else (elts.findIdx? (·.1)).getD elts.length) = elts.length := by rw [if_neg (by omega), hs]; rfl
  unfold setDisplay
  try dsimp only
  rw [if_neg (by decide)]
  refine wpAny_bind ?_
  unfold newSet setsByText
  refine wpAny_bind (wpAny_bind (wpAny_askSetting (wpAny_pure ?_)))
  dsimp only
  simp only [newObj]
  refine wpAny_bind (wpAny_alloc (wpAny_pure ?_))
  dsimp only
  rw [hn, List.take_length, List.drop_length, hm]
  refine wpAny_bind (wpAny_holding ?_)
  refine wpAny_bind (wpAny_mono h (fun vs s' h' => ?_) fun _ _ x => x)
  refine wpAny_bind (wpAny_holding ?_)
  refine wpAny_bind (wpAny_mono (PySem.W.kds_for (fun x P s hx => ?_) vs s' h') (fun _ s1 h1 => ?_) fun _ _ x => x)
  · refine wpAny_bind (wpAny_mono hx (fun _ s2 h2 => ?_) fun _ _ x => x)
    first | exact wpAny_pure ⟨rfl, h2⟩ | exact wpAny_bind (wpAny_pure (wpAny_pure ⟨rfl, h2⟩))
  · have h2 : Q (.ref s.heap.objs.size) s1 := by simpa [PySem.W.KdsFill] using h1
    rw [if_neg (by decide)]
    refine wpAny_pure ?_
    rw [List.forIn_nil]
    exact wpAny_pure (wpAny_pure h2)
end
def tSetI (w : World) (t : TA) : TE := fun σ H Q => ∀ p, H p = none → t σ (upd H p (SetO w p (fun _ => false) 0)) fun vs H2 => H2 p = some (SetO w p (fun _ => false) 0) ∧ ∃ ns : List Int, vs = ns.map V.int ∧ ns.length ≤ 30 ∧
  ∀ n, n ≤ ns.length → Q (.ref p) (upd H2 p (SetO w p (fun x => decide (x ∈ ns)) n))
theorem pe_setI {X : Cx} {es : List Expr} {t : TA} {pos : Pos} (ha : PEs X es t) (hcd : PySem.W.kdsCode X.K X.env.code = true) (hp : es.all PySem.W.kdsPlain = true := by rfl) (hroad : displayRoad 0 es = .oneByOne := by rfl) (hl : es.length ≤ 30 := by decide) : PE X (.Set es 0 pos) (tSetI X.w t) := by
  refine ⟨fun pins s σ H Q I h => ?_⟩
  rw [arm_eval_Set]
  refine wpAny_bind (wpAny_standAt ?_)
  refine wpAny_bind (PySem.W.kds_main I.kIn hcd fun b => ?_)
  rw [PySem.W.kds_star es hp, List.map_map, hroad]
  have hn := I.hok.fresh (Nat.le_refl s.heap.objs.size)
  have I1 : Inv X pins σ (upd H s.heap.objs.size (SetO X.w s.heap.objs.size (fun _ => false) 0)) { s with heap := s.heap.push { cls := .type "set", dict := none, data := .set #[] 0 (.fresh 0 0 (!X.w.params.followText "set-order")) } } :=
    I.laid (t' := s.toks) (fun b u e => Heap.get?_push_of_some _ e) (Nat.le_refl _) (setO_new (setR_fresh X.w))
  refine kds_coreL (ts := (evalEach es X.env).map fun t => do let v ← t; standAt pos; pure v) ?_ ?_ ?_ ?_
  · refine List.findIdx?_eq_none_iff.mpr fun x hx => ?_
    obtain ⟨t, _, rfl⟩ := List.mem_map.mp hx
    rfl
  · rw [List.length_map, PySem.W.kds_len]
    exact hl
  · rw [List.map_map]
    try rfl
  · refine PySem.W.kds_all pos es _ _ (ha.run _ _ _ _ I1 (h _ hn) fun vs s' ys H' I' r' q' => ?_)
    obtain ⟨hat, ns, rfl, hns, q⟩ := q'
    refine fill_ints ns vs s' _ 0 r' (setO_get I' hat) (by omega) fun h' tk n' sb R' hn' => PySem.W.kds_fill_nil rfl ?_
    have R2 : SetR X.w h' s.heap.objs.size (fun x => decide (x ∈ ns)) n' := R'.congr fun x => by simp
    have he : ∃ u, h'.get? s.heap.objs.size = some u := by
      have ⟨o, _, _, _, ho, _⟩ := R2
      exact ⟨o, ho⟩
    exact ⟨.ref _, _, I'.write (e := s.heap.objs.size) (t' := tk) (by rw [hat]; trivial) (.inl rfl) (fun b u hb hu => (sb.2 b hb).trans hu) he (setO_new R2), rfl, q n' (by omega)⟩
/-! ### enumerate(tuple) -/
theorem meets_enum_newT (l : Addr) (items : Array Value) :
    Meets (Builtin.«enumerate.__new__» ⟨[.type "enumerate", .ref l], []⟩) (fun _ R s => s.heap.IsTuple l items ∧
      R (.ok (.ret (.ref (s.heap.push { cls := .type "tuple_iterator", data := .fields #[.ref l, .int 0 0] }).objs.size)))
        { s with heap := (s.heap.push { cls := .type "tuple_iterator", data := .fields #[.ref l, .int 0 0] }).push { cls := .type "enumerate", data := .fields #[.none, .bool false, .ref s.heap.objs.size, rawInt 0, .none, .none] } }) :=
  .of_wp fun prog w A R s h => by
    obtain ⟨hp, g, d, tk, os⟩ := s
    obtain ⟨hL, h⟩ := h
    have hsub := sub_enumerate
    obtain ⟨oL, hl, _⟩ := id hL
    wp_walk using AutoSeq1.wpAny_loadPart' hl
    refine wpAny_stack_any fun st => wpAny_pure ?_
    split
    · rename_i c _ _ _ _ _
      cases (c == Value.type "enumerate")
      · wp_walk using AutoSeq1.wpAny_loadPart' hl, wpAny_pyIter_tuple hL
        exact ⟨_, rfl, h⟩
      · wp_walk using AutoSeq1.wpAny_loadPart' hl, wpAny_pyIter_tuple hL
        exact ⟨_, rfl, h⟩
    · wp_walk using AutoSeq1.wpAny_loadPart' hl, wpAny_pyIter_tuple hL
      exact ⟨_, rfl, h⟩
theorem call_enumT {prog : Program} {w : World} {A : Around} {E : Value → Shared → Prop} {s : Shared} {l : Addr} {items : Array Value} {Q : Value → Shared → Prop} (hL : s.heap.IsTuple l items)
    (h : ∀ h', IsEnum h' (s.heap.objs.size + 1) s.heap.objs.size 0 .none → h'.IsTupleIter s.heap.objs.size l 0 → (∀ b o, s.heap.get? b = some o → h'.get? b = some o) → Q (.ref (s.heap.objs.size + 1)) { s with heap := h' }) :
    wpAny (model prog w) A (call (.type "enumerate") [.ref l]) Q E s := by
  refine callType_new F.called_enumerate (by decide) (F.typeCall_enumerate_1 _) (F.newCall_enumerate_1 _) (fun obj => F.args_object_init_2 obj _) F.entry_enumerate_new (meets_enum_newT l items) ⟨hL, ?_⟩
  have hz : (s.heap.push { cls := .type "tuple_iterator", data := .fields #[.ref l, .int 0 0] }).objs.size = s.heap.objs.size + 1 := Heap.size_push ..
  show _ ∧ _
  rw [hz]
  have he : IsEnum ((s.heap.push { cls := .type "tuple_iterator", data := .fields #[.ref l, .int 0 0] }).push { cls := .type "enumerate", data := .fields #[.none, .bool false, .ref s.heap.objs.size, rawInt 0, .none, .none] }) (s.heap.objs.size + 1) s.heap.objs.size 0 .none := by
    have := Heap.get?_push_size (s.heap.push { cls := .type "tuple_iterator", data := .fields #[.ref l, .int 0 0] }) (o := { cls := .type "enumerate", data := .fields #[.none, .bool false, .ref s.heap.objs.size, rawInt 0, .none, .none] }) rfl
    rw [hz] at this
    exact this
  exact ⟨⟨_, he, rfl⟩, h _ he ⟨_, Heap.get?_push_of_some _ (Heap.get?_push_size _ rfl), rfl, rfl⟩ fun b o x => Heap.get?_push_of_some _ (Heap.get?_push_of_some _ x)⟩
def Ietu (K : PySem.W.Frag) (a : Addr) : It :=
  ⟨fun i H => ∃ (xs : List V) (x : V), SqT K H a xs ∧ xs[i]? = some x, fun i H v H' => ∃ T x, v = .ref T ∧ H T = none ∧ H' = upd H T (.tup [.int (i : Nat), x]) ∧ ∀ xs, SqT K H a xs → xs[i]? = some x, fun i H => ∃ xs : List V, SqT K H a xs ∧ xs.length = i⟩
theorem turn_enumT {P : Program} {w : World} {K : PySem.W.Frag} {elts : List Expr} {kk : Nat} {tpos : Pos} (a e it : Addr) :
    Turn P w K (.Tuple elts kk tpos) (Ietu K a) [e, it] e (fun i h => (∃ old, IsEnum h e it ((i : Nat) : Int) old) ∧ h.IsTupleIter it a i ∧ e ≠ it ∧ a ≠ it ∧ a ≠ e) where
  mem := by simp
  obj := fun i h st b hb => by
    obtain ⟨⟨old, he⟩, ⟨o, ho, hc, hd⟩, _⟩ := st
    have e' : b = e ∨ b = it := by simpa using hb
    rcases e' with z | z
    · rw [z]; exact ⟨_, he, fun v q => nomatch q⟩
    · rw [z]; exact ⟨o, ho, fun v q => by rw [hd] at q; cases q⟩
  keep := fun i h h' st k => let ⟨⟨old, he⟩, ⟨o, ho, r⟩, hne⟩ := st; ⟨⟨old, k e (by simp) _ he⟩, ⟨o, k it (by simp) _ ho, r⟩, hne⟩
  item := by
    intro X hP hw hK hc i pins s σ H E I hf st hg
    subst hP hw hK
    obtain ⟨⟨old, he⟩, hit, hne, hne2, hne3⟩ := st
    obtain ⟨xs, x, hq, hx⟩ := hg
    obtain ⟨its, rv, p, _⟩ := I.tuple hq
    obtain ⟨u, hu, ru⟩ := rv.get hx
    have hi : i < its.toArray.size := by
      have := (List.getElem?_eq_some_iff.mp hu).1
      simpa using this
    have hel : e < s.heap.objs.size := Heap.lt_size he
    have hil : it < s.heap.objs.size := by obtain ⟨_, q, _⟩ := hit; exact Heap.lt_size q
    refine wpAny_pyNext_enum_itemD (fp := [it, a]) (Draws.tuple (A := X.A.in1) (I.ok.hd hc) it a hne2 its.toArray) he ⟨hit, p⟩ hi hne (by simpa using ⟨hne, Ne.symm hne3⟩) fun v h' tk hv ho hit' hT hsz hk => ?_
    have hv' : its[i]? = some v := by simpa using hv
    rw [hu] at hv'
    cases hv'
    refine ⟨_, rfl, wpAny_letOwnedTupleGo_enum (s := { s with heap := h', toks := tk + 1 }) ho fun h'' he' sb => ?_⟩
    have hT2 : h''.get? s.heap.objs.size = some { cls := .type "tuple", data := .seq #[.int i tk, u] } := (sb.2 _ (Nat.ne_of_gt hel)).trans hT
    have new : ObjOk X.prog X.w (upd H s.heap.objs.size (.tup [.int (i : Nat), x])) h'' s.heap.objs.size (.tup [.int (i : Nat), x]) :=
      ⟨by show 2 ≤ sizeLine; decide, [.int i tk, u], .cons ⟨_, rfl⟩ (.cons ru .nil), ⟨_, hT2, rfl, _, rfl⟩⟩
    have I1 : Inv X pins σ (upd H s.heap.objs.size (.tup [.int (i : Nat), x])) { s with heap := h'', toks := tk + 1 } :=
      I.turnedNew (ch := [e, it]) (fun b ob hb q => (sb.2 b (fun z => hb (by simp [z]))).trans (hk b ob (fun z => hb (by simp [z])) (fun z => hb (by simp [z])) q)) hf (Nat.le_refl _) new
    refine ⟨.ref s.heap.objs.size, _, I1, rfl, ⟨_, x, rfl, I.hok.fresh (Nat.le_refl _), rfl, fun l hl => by rw [I.tuple_inj hl hq]; exact hx⟩, ⟨⟨u, ?_⟩, ?_, hne, hne2, hne3⟩, fun b hb => ?_⟩
    · have e1 : ((i + 1 : Nat) : Int) = (i : Int) + 1 := by omega
      rw [e1]; exact he'
    · obtain ⟨o, q1, q2⟩ := hit'.1
      exact ⟨o, (sb.2 it (Ne.symm hne)).trans q1, q2⟩
    · have hb' : b < s.heap.objs.size := by
        have e' : b = e ∨ b = it := by simpa using hb
        rcases e' with z | z
        · rw [z]; exact hel
        · rw [z]; exact hil
      rw [upd_ne (Nat.ne_of_lt hb')]
      exact (hf b hb).1
  done := by
    intro X hP hw hK hc i pins s σ H E I hf st hg
    subst hP hw hK
    obtain ⟨⟨old, he⟩, hit, hne, hne2, hne3⟩ := st
    obtain ⟨xs, hq, hl⟩ := hg
    obtain ⟨its, rv, p, _⟩ := I.tuple hq
    have hsz : its.toArray.size = i := by
      rw [← hl, rv.length]
      simp
    subst hsz
    obtain ⟨f0, f1, f2, f3, f4, f5⟩ := hf it (by simp)
    exact wpAny_pyNext_enum_endD (fp := [it, a]) (Draws.tuple (A := X.A.in1) (I.ok.hd hc) it a hne2 its.toArray) he ⟨hit, p⟩ fun h' eb => ⟨rfl, I.turned (t' := s.toks) (fun b o hb q => eb b o hb q) f0 f1 f3 f4 f5⟩
  self := fun A i s Q E st h => let ⟨⟨_, he⟩, _⟩ := st; wpAny_pyIter_enum he h
def iEnumT (K : PySem.W.Frag) (ta : TA) : TI := fun σ H R => ta σ H fun vs H1 => ∃ a xs, vs = [.ref a] ∧ SqT K H1 a xs ∧ R (Ietu K a) H1
theorem pi_enumT {X : Cx} {e : Expr} {ta : TA} {p pos tpos : Pos} {elts : List Expr} {kk : Nat} (hm : X.mg "enumerate" = none) (ha : PA X [e] ta) (hg : Gl X "enumerate" := by rfl) (hs : starEach [e] X.env = [(false, eval e X.env)] := by rfl) :
    PI X (.Tuple elts kk tpos) (.Call (.Name "enumerate" p) [e] [] pos) (iEnumT X.K ta) := by
  refine ⟨fun pins s σ H R I h => ?_⟩
  refine Call_ (ld_blt I hg hm boot_enumerate (PyProof.Rows.callWith_type1 (thn (ha.run pos pins s σ H _ I h) fun us s1 ⟨vs, H1, I1, r1, q1⟩ => ?_) hs rfl))
  obtain ⟨a, xs, ex, hq, q⟩ := q1
  subst ex
  cases r1 with
  | cons r rr =>
    cases rr
    cases r
    obtain ⟨its, rv, p', hz⟩ := I1.tuple hq
    have la : a < s1.heap.objs.size := by obtain ⟨_, e, _⟩ := p'; exact Heap.lt_size e
    refine call_enumT p' fun h' he hit hk => wpAny_pyIter_enum he ?_
    have I2 : Inv X pins σ H1 { s1 with heap := h' } := I1.kept (t' := s1.toks) hk
    refine ⟨s1.heap.objs.size + 1, [s1.heap.objs.size + 1, s1.heap.objs.size], _, _, H1, rfl, I2, turn_enumT a (s1.heap.objs.size + 1) s1.heap.objs.size, ⟨⟨.none, he⟩, hit, Nat.succ_ne_self _, Nat.ne_of_lt la, Nat.ne_of_lt (Nat.lt_succ_of_lt la)⟩, fun b hb => ?_, q⟩
    have e' : b = s1.heap.objs.size + 1 ∨ b = s1.heap.objs.size := by simpa using hb
    have hle : s1.heap.objs.size ≤ b := by
      rcases e' with z | z
      · rw [z]; exact Nat.le_add_right _ _
      · rw [z]; exact Nat.le_refl _
    exact I1.fpOk hle (I1.hok.fresh hle)
theorem walk_enumT {K : PySem.W.Frag} {a : Addr} {xs : List V} {n : Nat} (hn : n = xs.length) : Walk (Ietu K a) n (fun H => SqT K H a xs) (fun i H v H' => ∃ T x, v = .ref T ∧ H T = none ∧ H' = upd H T (.tup [.int (i : Nat), x]) ∧ xs[i]? = some x) where
  goes := fun i H hi q => ⟨xs, xs[i]'(by omega), q, by rw [List.getElem?_eq_getElem]⟩
  stops := fun H q => ⟨xs, q, hn.symm⟩
  yields := fun i H v H' _ q y => by
    obtain ⟨T, x, h1, h2, h3, h4⟩ := y
    exact ⟨T, x, h1, h2, h3, h4 xs q⟩
theorem walk_zipT {K : PySem.W.Frag} {a b : Addr} {xs ys : List V} {n : Nat} (hn : n = min xs.length ys.length) : Walk (RZ.ItzT K a b) n (fun H => SqT K H a xs ∧ SqT K H b ys) (fun i H v H' => ∃ T x y, v = .ref T ∧ H T = none ∧ H' = upd H T (.tup [x, y]) ∧ xs[i]? = some x ∧ ys[i]? = some y) where
  goes := fun i H hi q => ⟨xs, ys, xs[i]'(by omega), ys[i]'(by omega), q.1, q.2, by rw [List.getElem?_eq_getElem], by rw [List.getElem?_eq_getElem]⟩
  stops := fun H q => ⟨xs, ys, q.1, q.2, by omega⟩
  yields := fun i H v H' _ q y => by
    obtain ⟨T, x, y, h1, h2, h3, h4, h5⟩ := y
    exact ⟨T, x, y, h1, h2, h3, h4 xs q.1, h5 ys q.2⟩
/-! ### a def with its code known -/
theorem okC {P : Program} {w : World} {K : PySem.W.Frag} {mg : Str → Option Value} {base : Heap} {x qual : Str} {params : Arguments} {body : List Stmt} {scope : Scope} {dvs : List V} {kws : List (Str × V)} {f : Addr} {fd : FuncData} {CX : CXT} {N ps : List Str} {k : Nat} {sp : Sp} (F : FunD K x qual params body scope dvs kws f fd) (S : FnScope N ps scope) (len : ∀ vs H Q E, sp vs H Q E → vs.length = ps.length)
    (hbody : ∀ (cdv : Value) (A : Around) (outer : List Env) (s : Shared) (H : Hp) (vs : List V) (Q : VK) (E : XK), Room k (A.deeper (envOfC qual scope s.heap.objs.size f cdv)) → PySem.W.kdsCode K cdv = true → sp vs H Q E →
      ∃ t, PSs (cxOf CX P w K mg base N qual scope f cdv A outer s H E) body t ∧ t { nx := fun _ H' => Q .non H', rt := Q } (L2.start N vs) H) : FnOk P w K mg base CX (k + 1) f fd ps sp := by
  obtain ⟨oc, od, dV, kV, doc, pm, an, cdv, ct, osl, rfl, lk, hcd, _, _⟩ := F.ex
  exact fn_of lk hcd S len fun A outer s H vs Q E hr hsp => hbody cdv A outer s H vs Q E hr (kdsCode_of hcd) hsp
/-! ### steps within a try; stars -/
theorem op_eqK {X : Cx} {K : PySem.W.Frag} {k : Nat} (h : X.K = K) (hr : Room k X.A) : OpR X (compareOp .Eq) (rEqU K) := by
  subst h
  exact op_eqU hr
theorem op_neK {X : Cx} {K : PySem.W.Frag} {k : Nat} (h : X.K = K) (hr : Room k X.A) : OpR X (compareOp .NotEq) (rNeU K) := by
  subst h
  exact op_neU hr
instance i_star {K : PySem.W.Frag} {te : TE} {t : TA} {σ : L2.St} {H : Hp} {Q : List V → Hp → Prop} : Stp (StX.tStar K te t σ H Q) (te σ H fun x H1 => ∃ p xs, x = V.ref p ∧ (SqT K H1 p xs ∨ SqL K H1 p xs) ∧ t σ H1 fun ys H2 => Q (xs ++ ys) H2) := ⟨id⟩
theorem g_starT {K : PySem.W.Frag} {H : Hp} {p : Addr} {xs : List V} {R : List V → Prop} (h : SqT K H p xs) (r : R xs) : ∃ p' xs', V.ref p = V.ref p' ∧ (SqT K H p' xs' ∨ SqL K H p' xs') ∧ R xs' := ⟨p, xs, rfl, .inl h, r⟩
theorem g_starL {K : PySem.W.Frag} {H : Hp} {p : Addr} {xs : List V} {R : List V → Prop} (h : SqL K H p xs) (r : R xs) : ∃ p' xs', V.ref p = V.ref p' ∧ (SqT K H p' xs' ∨ SqL K H p' xs') ∧ R xs' := ⟨p, xs, rfl, .inr h, r⟩
theorem g_slT {K : PySem.W.Frag} {H : Hp} {Q : VK} {p : Addr} {xs : List V} {lo hi : Option Int} (h : SqT K H p xs) (hn : ¬ (HT.sIx xs.length 0 lo = 0 ∧ HT.sIx xs.length xs.length hi = xs.length)) (q : ∀ a H', H a = none → Same H H' → H' a = some (.tup (cutV xs lo hi)) → Q (.ref a) H') : rSlU K (.ref p) lo hi H Q := .inr (.inr ⟨p, xs, rfl, h, hn, fun a ha => q a _ ha (Same.new ha) upd_same⟩)
theorem g_slL2 {K : PySem.W.Frag} {H : Hp} {Q : VK} {p : Addr} {xs : List V} {lo hi : Option Int} (h : SqL K H p xs) (q : ∀ a H', H a = none → Same H H' → H' a = some (.lst (cutV xs lo hi)) → Q (.ref a) H') : rSlU K (.ref p) lo hi H Q := .inr (.inl ⟨p, xs, rfl, h, fun a ha => q a _ ha (Same.new ha) upd_same⟩)
theorem op_niT {X : Cx} {k : Nat} (hr : Room k X.A) : OpR X (compareOp .NotIn) (fun x y H Q => ∃ d ds, Dp X.K H x d ∧ Dp X.K H y (.tuple ds) ∧ SeqAt.shaped d = true ∧ SeqAt.shaped (.tuple ds) = true ∧ Q (.bl (!ds.any fun z => PyData.eqv z d)) H) := by
  intro pins s σ H x y v u Q I rx ry h
  obtain ⟨d, ds, hd, he, sd, se, q⟩ := h
  obtain ⟨as, r1⟩ := Dp.reads I d x v hd rx
  obtain ⟨bs, r2⟩ := Dp.reads I (.tuple ds) y u he ry
  exact SeqAt.notIn_tuple_reads r2 r1 (SeqAt.canLay_of_shaped se) (SeqAt.canLay_of_shaped sd) (room_in_shaped sd (by have := hr.un; omega)) ⟨.bl _, H, I, rfl, q⟩
theorem g_niD {K : PySem.W.Frag} {H : Hp} {Q : VK} {x y : V} {d : PyData} {ds : List PyData} (hd : Dp K H x d) (he : Dp K H y (.tuple ds)) (sd : SeqAt.shaped d = true) (se : SeqAt.shaped (.tuple ds) = true) (q : Q (.bl (!ds.any fun z => PyData.eqv z d)) H) : ∃ d ds, Dp K H x d ∧ Dp K H y (.tuple ds) ∧ SeqAt.shaped d = true ∧ SeqAt.shaped (.tuple ds) = true ∧ Q (.bl (!ds.any fun z => PyData.eqv z d)) H := ⟨d, ds, hd, he, sd, se, q⟩
theorem pg_tupK {X : Cx} {K : PySem.W.Frag} {es : List Expr} {k : Nat} {t : TGs} {n : Nat} {pos : Pos} (hK : X.K = K) (hc : X.calm = true) (h : PGs X es t)
    (hn : (assignEach es X.env).length = n := by rfl) (hst : (assignEach es X.env).findIdx? (·.1) = none := by rfl) : PG X (.Tuple es k pos) (gTup K n t) := by
  subst hK
  exact pg_tup hc h hn hst
/-! ### a walk over a list or a tuple -/
def iSeq (K : PySem.W.Frag) (tl : TE) : TI := fun σ H R => iList K tl σ H R ∨ iTup K tl σ H R
theorem pi_seq {X : Cx} {l tg : Expr} {tl : TE} (hl : PE X l tl) : PI X tg l (iSeq X.K tl) := ⟨fun pins s σ H R I h => h.elim (fun h => (pi_list hl).run pins s σ H R I h) (fun h => (pi_tup hl).run pins s σ H R I h)⟩
theorem g_forQ {K : PySem.W.Frag} {te : TE} {g : TG} {tb : TS} {D : Ends} {σ : L2.St} {H H0 : Hp} {p : Addr} {xs : List V} (hte : ∀ Q : VK, Q (.ref p) H → te σ H Q) (hq : SqL K H0 p xs ∨ SqT K H0 p xs) (e0 : Same H0 H) (Pv : Nat → L2.St → Hp → Prop) (h0 : Pv 0 σ H) (hS : ∀ i σ H', i ≤ xs.length → Pv i σ H' → Same H0 H')
    (hs : ∀ i x σ H', i < xs.length → Pv i σ H' → xs[i]? = some x → g x σ H' fun σ2 H2 => tb { D with nx := Pv (i + 1), ct := Pv (i + 1), bk := D.nx } σ2 H2) (hd : ∀ σ H', Pv xs.length σ H' → D.nx σ H') : tFor (iSeq K te) g tb D σ H := by
  rcases hq with hq | hq
  · exact g_forS (walk_list (K := K) (a := p) (xs := xs)) (fun R hR => .inl (hte _ ⟨p, rfl, ⟨xs, seqL_at hq e0⟩, hR⟩)) Pv h0 (fun i σ H hi h => seqL_at hq (hS i σ H hi h)) (fun i x σ H H' hi h y => by
      obtain ⟨rfl, hx⟩ := y
      exact hs i x σ _ hi h hx) hd
  · exact g_forS (walk_tup (K := K) (a := p) (xs := xs)) (fun R hR => .inr (hte _ ⟨p, rfl, ⟨xs, seqT_at hq e0⟩, hR⟩)) Pv h0 (fun i σ H hi h => seqT_at hq (hS i σ H hi h)) (fun i x σ H H' hi h y => by
      obtain ⟨rfl, hx⟩ := y
      exact hs i x σ _ hi h hx) hd
/-- a comprehension with a word of its own: P D i, D the list that grows -/
theorem g_lcI {J : It} {n : Nat} {G : Hp → Prop} {Y : Nat → Hp → V → Hp → Prop} {wi : TI} {g : TG} {tt : TT} {te : TE} {vs : List Nat} {σ : L2.St} {H : Hp} {Q : VK} (w : Walk J n G Y) (hwi : ∀ R : It → Hp → Prop, R J H → wi σ H R) (P : Addr → Nat → Hp → Prop)
    (h0 : ∀ D H', H D = none → Same H H' → H' D = some (.lst []) → P D 0 H') (hG : ∀ D i H', i ≤ n → P D i H' → G H')
    (hs : ∀ D i x H1 H2, i < n → P D i H1 → Y i H1 x H2 → g x (wipe σ vs) H2 fun σ2 H3 => wipe σ2 vs = wipe σ vs ∧ tt σ2 H3 fun b H4 => if b = true then te σ2 H4 fun y H5 => ∃ acc, H5 D = some (.lst acc) ∧ acc.length < sizeLine ∧ P D (i + 1) (upd H5 D (.lst (acc ++ [y]))) else P D (i + 1) H4)
    (hd : ∀ D H', P D n H' → Q (.ref D) H') : tLc wi g tt te vs σ H Q :=
  hwi _ fun D hD => lc_it w (Qd := fun H => Q (.ref D) H) (fun i H' => P D i H') (h0 D _ hD (Same.new hD) upd_same) (fun i H' hi h => hG D i H' hi h) (fun i x H1 H2 hi h y => hs D i x H1 H2 hi h y) (fun H' h => hd D H' h)
theorem g_setLast {H : Hp} {R : Hp → Prop} {p : Addr} {xs : List V} {x v : V} (h : H p = some (.lst (xs ++ [x]))) (q : ∀ H', Same (dl H p) H' → H' p = some (.lst (xs ++ [v])) → R H') : rSetL (.ref p) (.int (-1)) v H R :=
  ⟨p, _, -1, xs.length, rfl, rfl, h, by unfold ixN; rw [if_neg (by decide), List.length_append, List.length_singleton, if_pos (by omega)]; congr 1; omega, by
    rw [List.set_append_right _ _ (Nat.le_refl _), Nat.sub_self, List.set_cons_zero]
    exact q _ (dl_mut dl_sub) upd_same⟩
/-! ### dicts: displays, d[k], k in d, d[k] = v -/
instance i_pairs0 {σ : L2.St} {H : Hp} {Q : List (V × V) → Hp → Prop} : Stp (tPairs [] σ H Q) (Q [] H) := ⟨id⟩
instance i_pairs {tk tv : TE} {r : List (TE × TE)} {σ : L2.St} {H : Hp} {Q : List (V × V) → Hp → Prop} : Stp (tPairs ((tk, tv) :: r) σ H Q) (tk σ H fun x H1 => tv σ H1 fun y H2 => tPairs r σ H2 fun ps H3 => Q ((x, y) :: ps) H3) := ⟨id⟩
theorem g_disp {trs : List (TE × TE)} {σ : L2.St} {H : Hp} {Q : VK} (k : ∀ p H2, H p = none → Same H H2 → H2 p = some (.dK []) → tPairs trs σ H2 fun ps H3 => H3 p = some (.dK []) ∧ ∃ kvs : List (Key × V), ps = kvs.map (fun kv => (kV kv.1, kv.2)) ∧ kvs.length ≤ 15 ∧ Q (.ref p) (upd H3 p (.dK (mergeK [] kvs)))) : tDisp trs σ H Q := fun p hp => k p _ hp (Same.new hp) upd_same
theorem g_dispE {H : Hp} {Q : VK} {p : Addr} {ps : List (V × V)} (kvs : List (Key × V)) (h : H p = some (.dK [])) (e : ps = kvs.map fun kv => (kV kv.1, kv.2)) (hl : kvs.length ≤ 15) (q : ∀ H', Same (dl H p) H' → H' p = some (.dK (mergeK [] kvs)) → Q (.ref p) H') : H p = some (.dK []) ∧ ∃ kvs : List (Key × V), ps = kvs.map (fun kv => (kV kv.1, kv.2)) ∧ kvs.length ≤ 15 ∧ Q (.ref p) (upd H p (.dK (mergeK [] kvs))) := ⟨h, kvs, e, hl, q _ (dl_mut dl_sub) upd_same⟩
instance i_dget {td ty : TE} {σ : L2.St} {H : Hp} {Q : VK} : Stp (tDGet td ty σ H Q) (td σ H fun x H1 => ty σ H1 fun y H2 => ∃ a v, x = .ref a ∧ DGet H2 a y (some v) ∧ Q v H2) := ⟨id⟩
instance i_din {td ty : TE} {σ : L2.St} {H : Hp} {Q : VK} : Stp (tDIn ty td σ H Q) (ty σ H fun y H1 => td σ H1 fun x H2 => ∃ a o, x = .ref a ∧ DGet H2 a y o ∧ Q (.bl o.isSome) H2) := ⟨id⟩
instance i_dnotin {td ty : TE} {σ : L2.St} {H : Hp} {Q : VK} : Stp (tDNotIn ty td σ H Q) (ty σ H fun y H1 => td σ H1 fun x H2 => ∃ a o, x = .ref a ∧ DGet H2 a y o ∧ Q (.bl (!o.isSome)) H2) := ⟨id⟩
instance i_dput {td ty tv : TE} {D : Ends} {σ : L2.St} {H : Hp} : Stp (sDPut td ty tv D σ H) (tv σ H fun v H1 => td σ H1 fun x H2 => ty σ H2 fun y H3 => ∃ a H4, x = .ref a ∧ DPut H3 a y v H4 ∧ D.nx σ H4) := ⟨id⟩
theorem g_dgetS {H : Hp} {Q : VK} {a : Addr} {kvs : List (Key × V)} {z : Str} {v : V} (h : H a = some (.dK kvs)) (e : valV kvs (.inr z) = some v) (q : Q v H) : ∃ a' v', V.ref a = .ref a' ∧ DGet H a' (.str z) (some v') ∧ Q v' H := ⟨a, v, rfl, e ▸ DGet.k (k := .inr z) h, q⟩
theorem g_dinS {H : Hp} {Q : VK} {a : Addr} {kvs : List (Key × V)} {z : Str} (h : H a = some (.dK kvs)) (q : Q (.bl (valV kvs (.inr z)).isSome) H) : ∃ a' o, V.ref a = .ref a' ∧ DGet H a' (.str z) o ∧ Q (.bl o.isSome) H := ⟨a, _, rfl, DGet.k (k := .inr z) h, q⟩
theorem g_dputS {H : Hp} {R : Hp → Prop} {a : Addr} {kvs : List (Key × V)} {z : Str} {v : V} (h : H a = some (.dK kvs)) (hl : kvs.length < sizeLine) (q : ∀ H', Same (dl H a) H' → H' a = some (.dK (putK kvs (.inr z) v)) → R H') : ∃ a' H4, V.ref a = .ref a' ∧ DPut H a' (.str z) v H4 ∧ R H4 := ⟨a, _, rfl, DPut.k (k := .inr z) h hl, q _ (dl_mut dl_sub) upd_same⟩
/-- what a comprehension asks once its walk is known -/
def LcAsk (g : TG) (tt : TT) (te : TE) (vs : List Nat) (σ : L2.St) (Q : VK) (J : It) (H1 : Hp) : Prop := ∀ D, H1 D = none → ∃ W : Nat → Nat → Hp → Prop, (∃ m, W 0 m (upd H1 D (.lst []))) ∧ ∀ i m H, W i m H →
  (J.stop i H ∧ Q (.ref D) H) ∨ (J.go i H ∧ ∃ Nx : Hp → Prop, (∀ H', Nx H' → ∃ m', m' < m ∧ W (i + 1) m' H') ∧ ∀ x H', J.yld i H x H' → g x (wipe σ vs) H' fun σ2 H2 => wipe σ2 vs = wipe σ vs ∧ tt σ2 H2 fun b H3 =>
    if b = true then te σ2 H3 fun y H4 => ∃ acc, H4 D = some (.lst acc) ∧ acc.length < sizeLine ∧ Nx (upd H4 D (.lst (acc ++ [y]))) else Nx H3)
theorem lc_open {wi : TI} {g : TG} {tt : TT} {te : TE} {vs : List Nat} {σ : L2.St} {H : Hp} {Q : VK} (h : wi σ H (LcAsk g tt te vs σ Q)) : tLc wi g tt te vs σ H Q := h
theorem g_lcA {J : It} {n : Nat} {G : Hp → Prop} {Y : Nat → Hp → V → Hp → Prop} {g : TG} {tt : TT} {te : TE} {vs : List Nat} {σ : L2.St} {H : Hp} {Q : VK} (w : Walk J n G Y) (P : Addr → Nat → Hp → Prop)
    (h0 : ∀ D H', H D = none → Same H H' → H' D = some (.lst []) → P D 0 H') (hG : ∀ D i H', i ≤ n → P D i H' → G H')
    (hs : ∀ D i x H1 H2, i < n → P D i H1 → Y i H1 x H2 → g x (wipe σ vs) H2 fun σ2 H3 => wipe σ2 vs = wipe σ vs ∧ tt σ2 H3 fun b H4 => if b = true then te σ2 H4 fun y H5 => ∃ acc, H5 D = some (.lst acc) ∧ acc.length < sizeLine ∧ P D (i + 1) (upd H5 D (.lst (acc ++ [y]))) else P D (i + 1) H4)
    (hd : ∀ D H', P D n H' → Q (.ref D) H') : LcAsk g tt te vs σ Q J H :=
  fun D hD => lc_it w (Qd := fun H => Q (.ref D) H) (fun i H' => P D i H') (h0 D _ hD (Same.new hD) upd_same) (fun i H' hi h => hG D i H' hi h) (fun i x H1 H2 hi h y => hs D i x H1 H2 hi h y) (fun H' h => hd D H' h)
instance i_zipA {K : PySem.W.Frag} {ta : TA} {σ : L2.St} {H : Hp} {R : It → Hp → Prop} : Stp (RZ.iZipA K ta σ H R) (ta σ H fun vs H1 => ∃ a b xs ys, vs = [.ref a, .ref b] ∧ ((SqL K H1 a xs ∧ SqL K H1 b ys ∧ R (Itz K a b) H1) ∨ (SqT K H1 a xs ∧ SqT K H1 b ys ∧ R (RZ.ItzT K a b) H1))) := ⟨id⟩
theorem ix_K {X : Cx} {K : PySem.W.Frag} (h : X.K = K) : IxR X (rIx K) := by
  subst h
  exact ix_seq
/-- what a for asks once its walk is known -/
def ForAsk (g : TG) (tb : TS) (D : Ends) (σ : L2.St) (J : It) (H1 : Hp) : Prop := ∃ W : Nat → Nat → L2.St → Hp → Prop, (∃ m, W 0 m σ H1) ∧ ∀ i m σ H, W i m σ H →
  (J.stop i H ∧ D.nx σ H) ∨ (J.go i H ∧ ∃ N : L2.St → Hp → Prop, (∀ σ' H', N σ' H' → ∃ m', m' < m ∧ W (i + 1) m' σ' H') ∧ ∀ x H', J.yld i H x H' → g x σ H' fun σ2 H2 => tb { D with nx := N, ct := N, bk := D.nx } σ2 H2)
theorem for_open {wi : TI} {g : TG} {tb : TS} {D : Ends} {σ : L2.St} {H : Hp} (h : wi σ H (ForAsk g tb D σ)) : tFor wi g tb D σ H := h
theorem g_forA {J : It} {n : Nat} {G : Hp → Prop} {Y : Nat → Hp → V → Hp → Prop} {g : TG} {tb : TS} {D : Ends} {σ : L2.St} {H : Hp} (w : Walk J n G Y) (Pv : Nat → L2.St → Hp → Prop) (h0 : Pv 0 σ H) (hG : ∀ i σ H, i ≤ n → Pv i σ H → G H)
    (hs : ∀ i x σ H H', i < n → Pv i σ H → Y i H x H' → g x σ H' fun σ2 H2 => tb { D with nx := Pv (i + 1), ct := Pv (i + 1), bk := D.nx } σ2 H2) (hd : ∀ σ H, Pv n σ H → D.nx σ H) : ForAsk g tb D σ J H := for_it w Pv h0 hG hs hd
instance i_listVals {te : TE} {σ : L2.St} {H : Hp} {Q : VK} : Stp (tListVals te σ H Q) (te σ H fun x H1 => rValsL x H1 Q) := ⟨id⟩
theorem g_vals {H : Hp} {Q : VK} {d : Addr} {kvs : List (Key × V)} (h : H d = some (.dK kvs)) (k : ∀ p H', H p = none → Same H H' → H' p = some (.lst (kvs.map (·.2))) → Q (.ref p) H') : rValsL (.ref d) H Q := ⟨d, kvs, rfl, h, fun p hp => k p _ hp (Same.new hp) upd_same⟩
instance i_rng1 {ta : TA} {σ : L2.St} {H : Hp} {R : It → Hp → Prop} : Stp (iRng1 ta σ H R) (ta σ H fun vs H1 => ∃ j : Int, vs = [.int j] ∧ -(2 ^ 62) ≤ j ∧ j < 2 ^ 62 ∧ R (Itr 0 j.toNat) H1) := ⟨id⟩
instance i_iList {K : PySem.W.Frag} {tl : TE} {σ : L2.St} {H : Hp} {R : It → Hp → Prop} : Stp (iList K tl σ H R) (tl σ H fun x H1 => ∃ a, x = .ref a ∧ (∃ xs, SqL K H1 a xs) ∧ R (Itl K a) H1) := ⟨id⟩
instance i_iTup {K : PySem.W.Frag} {tl : TE} {σ : L2.St} {H : Hp} {R : It → Hp → Prop} : Stp (iTup K tl σ H R) (tl σ H fun x H1 => ∃ a, x = .ref a ∧ (∃ xs, SqT K H1 a xs) ∧ R (Itt K a) H1) := ⟨id⟩
theorem g_catA {K : PySem.W.Frag} {H : Hp} {Q : VK} {a b : Addr} {xs ys : List V} (ha : SqT K H a xs) (hb : SqT K H b ys) (hl : xs.length + ys.length ≤ sizeLine) (q : ∀ c H', Same H H' → SqT K H' c (xs ++ ys) → Q (.ref c) H') : rCatA K (.ref a) (.ref b) H Q :=
  ⟨a, b, xs, ys, rfl, rfl, ha, hb, hl, fun e => q b H (Same.refl _) (by rw [e]; exact hb), fun _ e => q a H (Same.refl _) (by rw [e, List.append_nil]; exact ha), fun _ _ p hp => q p _ (Same.new hp) (.inl (.inl upd_same))⟩
theorem g_setI {w : World} {t : TA} {σ : L2.St} {H : Hp} {Q : VK} (k : ∀ s H1, H s = none → Same H H1 → H1 s = some (SetO w s (fun _ => false) 0) → t σ H1 fun vs H2 => H2 s = some (SetO w s (fun _ => false) 0) ∧ ∃ ns : List Int, vs = ns.map V.int ∧ ns.length ≤ 30 ∧ ∀ n, n ≤ ns.length → Q (.ref s) (upd H2 s (SetO w s (fun x => decide (x ∈ ns)) n))) : tSetI w t σ H Q := fun s hs => k s _ hs (Same.new hs) upd_same
/-- three names at once -/
def tPar3 (i j l : Nat) (ta : TA) : TS := fun D σ H => ta σ H fun vs H1 => ∃ u v w, vs = [u, v, w] ∧ D.nx (((σ.set i (some u)).set j (some v)).set l (some w)) H1
theorem ps_par3 {X : Cx} {pos : Pos} {i j l : Nat} {x y z : Str} {a b c : Expr} {ta : TA} {px py pz pt : Pos} {kt k2 pt2} (hc : X.calm = true) (hN : X.N.Nodup) (hi : X.N[i]? = some x) (hj : X.N[j]? = some y) (hl : X.N[l]? = some z) (hij : i ≠ j ∧ i ≠ l ∧ j ≠ l)
    (hx : X.env.scope.names.lookup x = some .local) (hy : X.env.scope.names.lookup y = some .local) (hz : X.env.scope.names.lookup z = some .local) (ha : PA X [a, b, c] ta)
    (hw : swappedStores [.Tuple [.Name x px, .Name y py, .Name z pz] kt pt] (.Tuple [a, b, c] k2 pt2) X.env = pure (some [x, y, z]))
    (hs : swapsWithSole [.Tuple [.Name x px, .Name y py, .Name z pz] kt pt] (.Tuple [a, b, c] k2 pt2) pos.line X.env = pure false := by rfl) :
    PS X (.Assign [.Tuple [.Name x px, .Name y py, .Name z pz] kt pt] (.Tuple [a, b, c] k2 pt2) pos) (tPar3 i j l ta) := by
  refine ⟨fun pins s σ H D I h => ?_⟩
  rw [exec_Assign_arm]
  refine wpAny_bind (wpAny_standAt ?_)
  rw [hs]
  refine wpAny_bind (wpAny_pure ?_)
  rw [if_neg (by decide)]
  refine wpAny_bind (Tuple_ (thn (ha.run _ pins s σ H _ I h) fun us s1 ⟨vs, H1, I1, r1, q1⟩ => ?_))
  obtain ⟨u, v, w, e1, q1⟩ := q1
  subst e1
  obtain ⟨u1, u2, u3, rfl, ru, rv, rw'⟩ : ∃ u1 u2 u3, us = [u1, u2, u3] ∧ RelV u u1 ∧ RelV v u2 ∧ RelV w u3 := by
    cases r1 with
    | cons p q =>
      cases q with
      | cons p' q' =>
        cases q' with
        | cons p'' q'' =>
          cases q''
          exact ⟨_, _, _, rfl, p, p', p''⟩
  refine wpAny_newObj_type ?_ (by show 3 ≤ sizeLine; decide)
  have I2 : Inv X pins σ H1 { s1 with heap := s1.heap.push { cls := .type "tuple", data := .seq [u1, u2, u3].toArray } } := I1.kept (t' := s1.toks) fun b o e => Heap.get?_push_of_some _ e
  rw [hw]
  refine wpAny_bind (wpAny_pure ?_)
  show wpAny (model X.prog X.w) X.A (do rule "assign.swapped-stores"; let items ← unpackItems (.ref s1.heap.objs.size) 3 none; assignInOrder [fun v => bindName X.env z v, fun v => bindName X.env y v, fun v => bindName X.env x v] items.reverse; pure Flow.next) _ _ _
  refine wpAny_bind (wpAny_rule (wpAny_bind (unpackItems_tuple (items := #[u1, u2, u3]) (I.ok.hd hc) (IsTup.new s1.heap _) fun h' hx' => ?_)))
  have I3 := I2.kept (h' := h') (t' := s1.toks) fun b o e => hx' b o (Nat.ne_of_lt (Heap.lt_size e)) e
  show wpAny _ _ (assignInOrder [fun v => bindName X.env z v, fun v => bindName X.env y v, fun v => bindName X.env x v] [u3, u2, u1] >>= fun _ => pure Flow.next) _ _ _
  refine wpAny_bind (assignInOrder_cons (wpAny_bindName (store_ok I3 hN hl (.inl hz) rw' (fun s2 I4 => ?_) (.inr hz))))
  refine assignInOrder_cons (wpAny_bindName (store_ok I4 hN hj (.inl hy) rv (fun s3 I5 => ?_) (.inr hy)))
  refine assignInOrder_cons (wpAny_bindName (store_ok I5 hN hi (.inl hx) ru (fun s4 I6 => assignInOrder_nil (wpAny_pure ?_)) (.inr hx)))
  rw [List.set_comm _ _ hij.2.2.symm, List.set_comm _ _ hij.2.1.symm, List.set_comm _ _ hij.1.symm] at I6
  exact ⟨_, H1, I6, q1⟩
instance i_par3 {i j l : Nat} {ta : TA} {D : Ends} {σ : L2.St} {H : Hp} : Stp (tPar3 i j l ta D σ H) (ta σ H fun vs H1 => ∃ u v w, vs = [u, v, w] ∧ gName i u σ H1 fun σ1 H2 => gName j v σ1 H2 fun σ2 H3 => gName l w σ2 H3 D.nx) := ⟨id⟩
theorem g_par32 {x y z : V} {R : V → V → V → Prop} (h : R x y z) : ∃ u v w, ([x, y, z] : List V) = [u, v, w] ∧ R u v w := ⟨x, y, z, rfl, h⟩
instance i_par32 {x y z : V} {R : V → V → V → Prop} : Stp (∃ u v w, ([x, y, z] : List V) = [u, v, w] ∧ R u v w) (R x y z) := ⟨g_par32⟩
/-- text * int -/
def rMulS : R2 := fun x y H Q => ∃ z n, x = .str z ∧ y = .int n ∧ PySem.MulOk z n ∧ Q (.str (Txt.mul z n)) H
theorem op_mulS {X : Cx} : OpR X (binaryOp .Mult) rMulS := by
  intro pins s σ H x y v u Q I rx ry h
  obtain ⟨z, n, rfl, rfl, ok, q⟩ := h
  obtain ⟨t, rfl⟩ := rx
  obtain ⟨t2, rfl⟩ := ry
  exact SB.mul ok fun t' k => ⟨.str _, H, I.tok _, ⟨_, rfl⟩, q⟩
theorem g_mulS {z : Str} {n : Int} {H : Hp} {Q : VK} (h : PySem.MulOk z n) (q : Q (.str (Txt.mul z n)) H) : rMulS (.str z) (.int n) H Q := ⟨z, n, rfl, rfl, h, q⟩
/-- tuple * int, up to 10000 times -/
def rRepW (K : PySem.W.Frag) : R2 := fun x y H Q => ∃ (c : Addr) (n : Int) (zs : List V), x = .ref c ∧ y = .int n ∧ SqT K H c zs ∧ (zs ≠ [] ∧ zs.length ≤ 100) ∧ (2 ≤ n ∧ n ≤ 10000) ∧ ∀ g, H g = none → Q (.ref g) (upd H g (.tup (List.replicate n.toNat zs).flatten))
theorem repW_len {α : Type} (l : List α) (n : Int) (hl : l.length ≤ 100) (hn : n ≤ 10000) : (List.replicate n.toNat l).flatten.length ≤ sizeLine := by
  rw [PyProof.Rows.lm_len_rep_flat]
  exact Nat.le_trans (Nat.mul_le_mul (show n.toNat ≤ 10000 by omega) hl) (by decide)
theorem op_repW {X : Cx} : OpR X (binaryOp .Mult) (rRepW X.K) := by
  intro pn sh S Hp1 a b va vb Q I ra rb hh
  obtain ⟨c, n, zs, rfl, rfl, hz, ⟨z0, z1⟩, ⟨n0, n1⟩, q⟩ := hh
  obtain rfl : va = Value.ref c := ra
  obtain ⟨tk, rfl⟩ := rb
  obtain ⟨ws, rw1, hat, hsm⟩ := I.tuple hz
  obtain ⟨⟨kc, kd, ka, ks⟩, hob, hkc, m, hka⟩ := hat
  dsimp only at hkc hka
  subst hkc
  subst hka
  have lw : ws.length = zs.length := rw1.length.symm
  have ne : ws.toArray.isEmpty = false := by
    cases ws with
    | nil => exact absurd (List.length_eq_zero_iff.mp lw.symm) z0
    | cons _ _ => rfl
  have lz : ws.toArray.size = zs.length := by simp [lw]
  have b0 : ((ws.toArray.size : Nat) : Int) * n ≤ 1000000 := by
    rw [lz]
    have := Int.mul_le_mul (show ((zs.length : Nat) : Int) ≤ 100 by omega) n1 (by omega) (by decide)
    omega
  have k0 : (decide (n < -(2 ^ 63)) || decide (n ≥ 2 ^ 63)) = false := by simp; omega
  have k1 : (ws.toArray.isEmpty || n == 1) = false := by rw [ne]; simp; omega
  have k2 : (decide (n ≤ 0) || ws.toArray.isEmpty) = false := by rw [ne]; simp; omega
  have k3 : Builtin.Tuple.tupleTooMany (((ws.toArray.size : Nat) : Int) * n) = false := decide_eq_false (by rw [sizeLine_eq]; omega)
  have k4 : (List.foldl (fun u v => u ++ v) #[] (List.replicate n.toNat ws.toArray)).size ≤ sizeLine := by
    rw [size_rep, List.size_toArray]
    exact repW_len ws n (by omega) n1
  have ti := fun s1 : Shared => typeIs_int s1 n tk
  refine wpAny_binaryOp_repeat_ref (T := "tuple") (U := "int") (by decide) ⟨_, hob, rfl⟩ ti noFill_tuple_mul F.fills_int_mul
    F.slot_int_rmul repeat_tuple F.slot_int_index.lookup ?_
  refine call_meets F.slot_int_rmul (ti sh) F.entry_int_rmul (F.args_int_rmul_2 _ _) (int_rmul_tuple n tk c ws.toArray m kd ks) ⟨hob, rfl, ⟨_, hob, rfl⟩, ?_⟩
  refine call_meets F.slot_tuple_mul ⟨_, hob, rfl⟩ F.entry_tuple_mul (F.args_tuple_mul_2 _ _) (tuple_mulW c ws.toArray m kd ks n tk k0 k1 k2 (by omega) k3 k4) ⟨hob, ?_⟩
  rw [size_rep]
  have fr := I.hok.fresh (Nat.le_refl sh.heap.objs.size)
  refine ⟨.ref sh.heap.objs.size, upd Hp1 sh.heap.objs.size (.tup (List.replicate n.toNat zs).flatten), ?_, rfl, q _ fr⟩
  refine I.laid (t' := sh.toks) (fun _ _ g => Heap.get?_push_of_some _ g) (Nat.le_refl _) ⟨repW_len zs n z1 n1, ?_⟩
  exact ⟨_, rw1.rep n.toNat, IsTup.new _ _⟩
theorem g_repW {K : PySem.W.Frag} {H : Hp} {Q : VK} {c : Addr} {n : Int} {zs : List V} (h : SqT K H c zs) (h0 : zs ≠ [] ∧ zs.length ≤ 100) (hn : 2 ≤ n ∧ n ≤ 10000) (k : ∀ g H', H g = none → Same H H' → H' g = some (.tup (List.replicate n.toNat zs).flatten) → Q (.ref g) H') : rRepW K (.ref c) (.int n) H Q :=
  ⟨c, n, zs, rfl, rfl, h, h0, hn, fun g hg => k g _ hg (Same.new hg) upd_same⟩
theorem g_catL {H : Hp} {Q : VK} {l b : Addr} {xs zs : List V} (h1 : H l = some (.lst xs)) (h2 : H b = some (.lst zs)) (hl : xs.length + zs.length ≤ sizeLine) (k : ∀ p H', H p = none → Same H H' → H' p = some (.lst (xs ++ zs)) → Q (.ref p) H') : rCat (.ref l) (.ref b) H Q :=
  ⟨l, b, xs, zs, rfl, rfl, h1, h2, hl, fun p hp => k p _ hp (Same.new hp) upd_same⟩
end Sm
/-! SmCls: own len(o), x in o, str(o) of slotted instances. -/
namespace Sm
open PySem PySem.Spec PyProof.Rows L2
section
variable {prog : Program} {w : World} {A : Around} {E : Value → Shared → Prop} {s : Shared} {K : PySem.W.Frag} {x C f : Addr} {ox : Obj} {od : Option Obj}
/-- len(o) by an own __len__ -/
theorem len_own {Q : Value → Shared → Prop} (X : K.In s.heap) (I : PySem.W.InstAt s.heap x ox C od) (hs : PySem.W.findIn K (.ref C) "__len__" = some (some (.ref f))) (hf : PySem.W.isFn K (.ref f) = true)
    (h : wpAny (model prog w) A.in1 (call (.ref f) [.ref x]) (fun r s1 => ∃ n u, r = Value.int n u ∧ 0 ≤ n ∧ n < 2 ^ 63 ∧ Q (.int n s1.toks) { s1 with toks := s1.toks + 1 }) E s) : wpAny (model prog w) A (call (.builtin "len") [.ref x]) Q E s := by
  refine Calls.call_function_entry kind_len plain_len entry_len (args_len1 _) ?_
  unfold Builtin.«len»
  refine wpAny_bind (m := oneArg "len" _) (wpAny_pure ?_)
  refine wpAny_bind (m := callSpecial? (.ref x) (PySem.Str.ofString "__len__")) (PySem.W.special_fn X I hs (beq_iff_eq.mp hf) (wpAny_mono h (fun r s1 hr => ?_) fun _ _ y => y))
  obtain ⟨n, u, rfl, h0, h1, hq⟩ := hr
  refine wpAny_bind (wpAny_holding (wpAny_pure ?_))
  refine wpAny_bind (wpAny_letGo ?_)
  rw [if_neg (by omega)]
  rw [if_neg (by omega)]
  exact wpAny_bind (wpAny_mkInt (wpAny_pure ⟨_, rfl, hq⟩))
/-- y in o by an own __contains__ that answers True or False -/
theorem in_own {y : Value} {Q : Bool → Shared → Prop} (X : K.In s.heap) (I : PySem.W.InstAt s.heap x ox C od) (hs : PySem.W.findIn K (.ref C) "__contains__" = some (some (.ref f))) (hf : PySem.W.isFn K (.ref f) = true)
    (h : wpAny (model prog w) A (call (.ref f) [.ref x, y]) (fun r s1 => ∃ b, r = Value.bool b ∧ Q b s1) E s) : wpAny (model prog w) A (contains (.ref x) y) Q E s := by
  unfold contains
  refine wpAny_holding ?_
  rw [show stdlibNamesSay? (.ref x) y = none by cases y <;> rfl]
  refine wpAny_bind (m := specialOf (.ref x) (PySem.Str.ofString "__contains__")) (wpAny_bind (I.type.here ((PySem.W.looks_findIn X hs).here ?_)))
  have hne : ¬ ((some (Value.ref f) == some Value.none) = true) := by
    intro z
    cases z
  rw [if_neg hne]
  refine wpAny_bind (m := callSpecialUnlessNone? (.ref x) (PySem.Str.ofString "__contains__") [y] _) ?_
  unfold callSpecialUnlessNone?
  refine wpAny_bind (m := specialOf (.ref x) (PySem.Str.ofString "__contains__")) (wpAny_bind (I.type.here ((PySem.W.looks_findIn X hs).here ?_)))
  refine wpAny_holding (wpAny_bind ((PySem.W.bind_fn X _ (beq_iff_eq.mp hf)).here ?_))
  have hnf : ¬ ((Value.ref f == Value.none) = true) := by
    intro z
    cases z
  dsimp only
  rw [if_neg hnf]
  refine wpAny_bind (wpAny_mono h (fun r s1 hr => ?_) fun _ _ y => y)
  obtain ⟨b, rfl, hq⟩ := hr
  exact wpAny_pure (wpAny_truthy_bool hq)
open Builtin Builtin.Str in
/-- str(o) by an own __str__ -/
theorem str_own {Q : Value → Shared → Prop} (hu : A.in1.in1.units < cLine) (X : K.In s.heap) (I : PySem.W.InstAt s.heap x ox C od) (hs : PySem.W.findIn K (.ref C) "__str__" = some (some (.ref f))) (hf : PySem.W.isFn K (.ref f) = true)
    (h : wpAny (model prog w) A.in1.in1 (call (.ref f) [.ref x]) (fun r s1 => ∃ z u, r = Value.str z u ∧ Q r s1) E s) : wpAny (model prog w) A (call (.type "str") [.ref x]) Q E s := by
  refine callType_codes (Q₁ := fun r s1 => ∃ z u, r = Value.str z u ∧ Q r s1) (T := "str") (Bi := Builtin.«object.__init__») PySem.F.called_str (PySem.F.typeCall_str_1 _) PySem.F.entry_object_init ?_ fun obj s1 hr => ?_
  · refine codeAny_of_tree ?_
    show wpAny _ A.in1.in1 (checkBuiltinCall "str.__new__" ⟨[.type "str", .ref x], []⟩ >>= fun _ => again (.builtin "str.__new__" ⟨[.type "str", .ref x], []⟩)) _ _ s
    refine wpAny_bind (wpAny_of_eq (PySem.F.newCall_str_1 _) (wpAny_pure (And.intro (plainId_quiet (by decide +kernel) _) (codeAny_builtin PySem.F.entry_str_new ?_))))
    rw [Around.under_plainId (by decide +kernel) _, str_new_tree]
    refine wpAny_bind (wpAny_pure (wpAny_bind (wpAny_of_eq isSubtype_str_str (wpAny_bind (wpAny_mono (Q := fun r s1 => ∃ z u, r = Value.str z u ∧ Q r s1) ?_ (fun r s1 hr => wpAny_pure hr) fun _ _ z => z)))))
    unfold PySem.Builtin.Str.strOf
    rw [(rfl : isExactStr (Value.ref x) = false)]
    refine wpAny_bind (m := cRoomFor _ _) (wpAny_cRoomFor hu (wpAny_bind (m := callSpecial? (.ref x) (PySem.Str.ofString "__str__")) (PySem.W.special_fn X I hs (beq_iff_eq.mp hf) (wpAny_mono h (fun r s1 hr => ?_) fun _ _ z => z))))
    obtain ⟨z, u, rfl, hq⟩ := hr
    exact wpAny_pure ⟨z, u, rfl, hq⟩
  · obtain ⟨z, u, rfl, hq⟩ := hr
    exact ⟨typeIs_str _ _ _, PySem.F.args_object_init_2 _ _, object_init_meets PySem.F.called_str.init.lookup PySem.F.called_str.made (by decide) prog w A.in1 _ s1 ⟨typeIs_str _ _ _, rfl, hq⟩⟩
end
section
variable {X : Cx} {CX : CXT} {n : Nat} {C g : Addr} {sp : Sp} {E : XK}
def rLenOwn (C : Addr) (sp : Sp) (E : XK) : List V → Hp → VK → Prop := fun xs H Q => ∃ a dx vs, xs = [V.ref a] ∧ SlX.Slt H a C dx vs ∧ sp [.ref a] H (fun z H' => ∃ i : Int, z = .int i ∧ 0 ≤ i ∧ i < 2 ^ 63 ∧ Q z H') E
theorem call_lenOwn (hs : PySem.W.findIn X.K (.ref C) "__len__" = some (some (.ref g))) (hf : PySem.W.isFn X.K (.ref g) = true) (F : FnR X.prog X.w X.K X.mg X.base CX n g sp) (hr : Room (n + 1) X.A) (hx : Passes CX X E) : CallR X (.builtin "len") (rLenOwn C sp E) := by
  intro pins s σ H xs us Q I r h
  obtain ⟨a, dx, vs, rfl, hsl, q⟩ := h
  obtain ⟨u, rfl, ru⟩ := vals1 r
  obtain rfl : u = Value.ref a := ru
  obtain ⟨sl, od, _, J, _⟩ := SlX.slt_inst I hsl
  refine len_own I.kIn J hs hf (wpAny_mono (wpAny_call (SlX.run_at (us := [.ref a]) (ws := [.ref a]) F (Room.in1 hr) I.env0.in1 hx I (.cons rfl .nil) q)) (fun w s' z => ?_) fun _ _ x => x)
  obtain ⟨z', H', I', rz, i, ei, h0, h1, qz⟩ := z
  subst ei
  obtain ⟨t, rfl⟩ := rz
  exact ⟨i, t, rfl, h0, h1, .int i, H', I'.tok _, ⟨_, rfl⟩, qz⟩
def rStrOwn (C : Addr) (sp : Sp) (E : XK) : List V → Hp → VK → Prop := fun xs H Q => ∃ a dx vs, xs = [V.ref a] ∧ SlX.Slt H a C dx vs ∧ sp [.ref a] H (fun z H' => ∃ i : Str, z = .str i ∧ Q z H') E
theorem call_strOwn (hs : PySem.W.findIn X.K (.ref C) "__str__" = some (some (.ref g))) (hf : PySem.W.isFn X.K (.ref g) = true) (F : FnR X.prog X.w X.K X.mg X.base CX n g sp) (hr : Room (n + 2) X.A) (hx : Passes CX X E) : CallR X (.type "str") (rStrOwn C sp E) := by
  intro pins s σ H xs us Q I r h
  obtain ⟨a, dx, vs, rfl, hsl, q⟩ := h
  obtain ⟨u, rfl, ru⟩ := vals1 r
  obtain rfl : u = Value.ref a := ru
  obtain ⟨sl, od, _, J, _⟩ := SlX.slt_inst I hsl
  have hr2 : Room n X.A.in1.in1 := (show Room (n + 1) X.A.in1 from Room.in1 hr).in1
  refine str_own (by have := hr2.un; omega) I.kIn J hs hf (wpAny_mono (wpAny_call (SlX.run_at (us := [.ref a]) (ws := [.ref a]) F hr2 I.env0.in1.in1 hx I (.cons rfl .nil) q)) (fun w s' z => ?_) fun _ _ x => x)
  obtain ⟨z', H', I', rz, i, ei, qz⟩ := z
  subst ei
  obtain ⟨t, rfl⟩ := rz
  exact ⟨i, t, rfl, .str i, H', I', ⟨_, rfl⟩, qz⟩
/-- x in o, o of the class at C -/
def rInOwn (C : Addr) (sp : Sp) (E : XK) (neg : Bool) : R2 := fun x y H Q => ∃ a dx vs, y = V.ref a ∧ SlX.Slt H a C dx vs ∧ sp [.ref a, x] H (fun z H' => ∃ b, z = .bl b ∧ Q (.bl (b != neg)) H') E
theorem op_inOwn (hs : PySem.W.findIn X.K (.ref C) "__contains__" = some (some (.ref g))) (hf : PySem.W.isFn X.K (.ref g) = true) (F : FnR X.prog X.w X.K X.mg X.base CX n g sp) (hr : Room n X.A) (hx : Passes CX X E) : OpR X (compareOp .In) (rInOwn C sp E false) := by
  intro pins s σ H x y v u Q I rx ry h
  obtain ⟨a, dx, vs, rfl, hsl, q⟩ := h
  obtain rfl : u = Value.ref a := ry
  obtain ⟨sl, od, _, J, _⟩ := SlX.slt_inst I hsl
  unfold compareOp
  refine wpAny_bind (in_own I.kIn J hs hf (wpAny_mono (wpAny_call (run_fnR (us := [.ref a, v]) (vs := [.ref a, x]) F hr hx I (.cons rfl (.cons rx .nil)) q)) (fun w s' z => ?_) fun _ _ x => x))
  obtain ⟨z', H', I', rz, b, eb, qz⟩ := z
  subst eb
  obtain rfl : w = Value.bool b := rz
  refine ⟨b, rfl, wpAny_pure ⟨.bl b, H', I', rfl, ?_⟩⟩
  cases b <;> exact qz
theorem op_niOwn (hs : PySem.W.findIn X.K (.ref C) "__contains__" = some (some (.ref g))) (hf : PySem.W.isFn X.K (.ref g) = true) (F : FnR X.prog X.w X.K X.mg X.base CX n g sp) (hr : Room n X.A) (hx : Passes CX X E) : OpR X (compareOp .NotIn) (rInOwn C sp E true) := by
  intro pins s σ H x y v u Q I rx ry h
  obtain ⟨a, dx, vs, rfl, hsl, q⟩ := h
  obtain rfl : u = Value.ref a := ry
  obtain ⟨sl, od, _, J, _⟩ := SlX.slt_inst I hsl
  unfold compareOp
  refine wpAny_bind (in_own I.kIn J hs hf (wpAny_mono (wpAny_call (run_fnR (us := [.ref a, v]) (vs := [.ref a, x]) F hr hx I (.cons rfl (.cons rx .nil)) q)) (fun w s' z => ?_) fun _ _ x => x))
  obtain ⟨z', H', I', rz, b, eb, qz⟩ := z
  subst eb
  obtain rfl : w = Value.bool b := rz
  refine ⟨b, rfl, wpAny_pure ⟨.bl (!b), H', I', rfl, ?_⟩⟩
  cases b <;> exact qz
end
end Sm
/-! SmIter: iter(t) of a tuple, next(it, d). -/
namespace Sm
open PySem PySem.Spec PyProof.Rows L2
def tiObj (t : Addr) (i : Nat) : Obj := { cls := .type "tuple_iterator", data := .fields #[.ref t, .int i 0] }
def tiEnd (i : Nat) : Obj := { cls := .type "tuple_iterator", data := .fields #[.none, .int i 0] }
theorem ti_next (t : Addr) (i : Nat) : Obj.mapFields (·.setIfInBounds 1 (rawInt ((i : Int) + 1))) (tiObj t i) = tiObj t (i + 1) := by
  first | rfl | simp [Obj.mapFields, rawInt]
theorem ti_end (t : Addr) (i : Nat) : Obj.mapFields (·.setIfInBounds 0 Value.none) (tiObj t i) = tiEnd i := by
  first | rfl | simp [Obj.mapFields]
section
variable {prog : Program} {w : World} {A : Around} {E : Value → Shared → Prop} {s : Shared} {it t : Addr} {i : Nat} {items : Array Value}
theorem ti_item {x : Value} {Q : Option Value → Shared → Prop} (ho : s.heap.get? it = some (tiObj t i)) (ht : IsTup s.heap t items) (hx : items[i]? = some x)
    (hQ : ∀ h', h'.get? it = some (tiObj t (i + 1)) → Heap.SameBut it s.heap h' → Q (some x) { s with heap := h' }) : wpAny (model prog w) A (pyNext (.ref it)) Q E s := by
  obtain ⟨ol, hol, _, nl, hdl⟩ := ht
  have hT : s.TypeIs (.ref it) "tuple_iterator" := ⟨_, ho, rfl⟩
  unfold pyNext
  refine wpAny_bind (wpAny_attempt (wpAny_callSpecial?_slot (name := Str.ofString "__next__") hT F.slot_tuple_iterator_next (wpAny_call_entry F.slot_tuple_iterator_next hT F.entry_tuple_iterator_next ?_ (F.args_tuple_iterator_next_1 _))))
  show wpAny _ _ (field (.ref it) 0 >>= _) _ _ s
  refine wpAny_bind (wpAny_field ho rfl (x := .ref t) rfl ?_)
  show wpAny _ _ (if (Value.ref t == Value.none) = true then _ else _) _ _ s
  rw [if_neg (show ¬ ((Value.ref t == Value.none) = true) from Bool.false_ne_true)]
  show wpAny _ _ (field (.ref it) 1 >>= _) _ _ s
  refine wpAny_bind (wpAny_field ho rfl (x := .int i 0) rfl ?_)
  show wpAny _ _ (seqItems? (.ref t) >>= _) _ _ s
  refine wpAny_bind (wpAny_seqItems hol hdl ?_)
  simp only [Int.toNat_natCast, hx]
  refine wpAny_bind (wpAny_setField ho rfl (by simp) (wpAny_pure ⟨x, rfl, wpAny_pure (hQ _ ?_ (Heap.SameBut.update ..))⟩))
  rw [Heap.get?_update_self _ ho (by rfl)]
  exact congrArg some (ti_next t i)
theorem ti_stop {Q : Option Value → Shared → Prop} (hh : A.handled = none) (ho : s.heap.get? it = some (tiObj t i)) (ht : IsTup s.heap t items) (hx : items[i]? = none)
    (hQ : ∀ h', h'.get? it = some (tiEnd i) → Heap.ExtBut it s.heap h' → Q none { s with heap := h' }) : wpAny (model prog w) A (pyNext (.ref it)) Q E s := by
  obtain ⟨ol, hol, _, nl, hdl⟩ := ht
  have hT : s.TypeIs (.ref it) "tuple_iterator" := ⟨_, ho, rfl⟩
  unfold pyNext
  refine wpAny_bind (wpAny_attempt (wpAny_callSpecial?_slot (name := Str.ofString "__next__") hT F.slot_tuple_iterator_next (wpAny_call_entry F.slot_tuple_iterator_next hT F.entry_tuple_iterator_next ?_ (F.args_tuple_iterator_next_1 _))))
  show wpAny _ _ (field (.ref it) 0 >>= _) _ _ s
  refine wpAny_bind (wpAny_field ho rfl (x := .ref t) rfl ?_)
  show wpAny _ _ (if (Value.ref t == Value.none) = true then _ else _) _ _ s
  rw [if_neg (show ¬ ((Value.ref t == Value.none) = true) from Bool.false_ne_true)]
  show wpAny _ _ (field (.ref it) 1 >>= _) _ _ s
  refine wpAny_bind (wpAny_field ho rfl (x := .int i 0) rfl ?_)
  show wpAny _ _ (seqItems? (.ref t) >>= _) _ _ s
  refine wpAny_bind (wpAny_seqItems hol hdl ?_)
  simp only [Int.toNat_natCast, hx]
  refine wpAny_bind (wpAny_rule (wpAny_bind (wpAny_setField ho rfl (by simp) ?_)))
  show wpAny _ _ (newExc (.type "StopIteration") [] >>= _) _ _ _
  refine wpAny_bind ?_
  simp only [newExc, newTuple]
  refine wpAny_bind (wpAny_newObj_type ?_ (by size_fits))
  refine wpAny_bind (m := firstArgMember _ _) (wpAny_of_eq (a := Value.none) (by first | rfl | (simp only [firstArgMember]; rfl)) ?_)
  refine wpAny_newObj_type ?_ (by size_fits)
  simp only [raiseNew]
  refine wpAny_bind (wpAny_handled ?_)
  first | rw [show A.in1.handled = none from hh] | rw [hh]
  refine wpAny_bind (wpAny_pure (wpAny_throw ?_))
  refine wpAny_bind (wpAny_isInstance (T := "StopIteration") (b := true) ⟨_, Heap.get?_push_size _ rfl, rfl⟩ isSubtype_stop ?_)
  have e1 : (s.heap.update it (Obj.mapFields (·.setIfInBounds 0 Value.none))).get? it = some (tiEnd i) := by
    rw [Heap.get?_update_self _ ho (by rfl)]
    exact congrArg some (ti_end t i)
  exact wpAny_pure (hQ _ (Heap.get?_push_of_some _ (Heap.get?_push_of_some _ e1)) (((Heap.SameBut.update ..).extBut.push _).push _))
theorem ti_again {Q : Option Value → Shared → Prop} (hh : A.handled = none) (ho : s.heap.get? it = some (tiEnd i))
    (hQ : ∀ h', (∀ b o, s.heap.get? b = some o → h'.get? b = some o) → Q none { s with heap := h' }) : wpAny (model prog w) A (pyNext (.ref it)) Q E s := by
  have hT : s.TypeIs (.ref it) "tuple_iterator" := ⟨_, ho, rfl⟩
  unfold pyNext
  refine wpAny_bind (wpAny_attempt (wpAny_callSpecial?_slot (name := Str.ofString "__next__") hT F.slot_tuple_iterator_next (wpAny_call_entry F.slot_tuple_iterator_next hT F.entry_tuple_iterator_next ?_ (F.args_tuple_iterator_next_1 _))))
  show wpAny _ _ (field (.ref it) 0 >>= _) _ _ s
  refine wpAny_bind (wpAny_field ho rfl (x := .none) rfl ?_)
  show wpAny _ _ (if (Value.none == Value.none) = true then _ else _) _ _ s
  rw [if_pos (show (Value.none == Value.none) = true from rfl)]
  refine wpAny_bind (wpAny_rule (wpAny_bind ?_))
  show wpAny _ _ (newExc (.type "StopIteration") [] >>= _) _ _ _
  refine wpAny_bind ?_
  simp only [newExc, newTuple]
  refine wpAny_bind (wpAny_newObj_type ?_ (by size_fits))
  refine wpAny_bind (m := firstArgMember _ _) (wpAny_of_eq (a := Value.none) (by first | rfl | (simp only [firstArgMember]; rfl)) ?_)
  refine wpAny_newObj_type ?_ (by size_fits)
  simp only [raiseNew]
  refine wpAny_bind (wpAny_handled ?_)
  first | rw [show A.in1.handled = none from hh] | rw [hh]
  refine wpAny_bind (wpAny_pure (wpAny_throw ?_))
  refine wpAny_bind (wpAny_isInstance (T := "StopIteration") (b := true) ⟨_, Heap.get?_push_size _ rfl, rfl⟩ isSubtype_stop ?_)
  exact wpAny_pure (hQ _ fun b o e => Heap.get?_push_of_some _ (Heap.get?_push_of_some _ e))
end
def TiO (t it : Addr) (i : Nat) : HO := .ext fun h => h.get? it = some (tiObj t i)
def TiE (it : Addr) (i : Nat) : HO := .ext fun h => h.get? it = some (tiEnd i)
theorem tiO_ok {P : Program} {w : World} {H : Hp} {h : Heap} {t it : Addr} {i : Nat} (e : h.get? it = some (tiObj t i)) : ObjOk P w H h it (TiO t it i) := ⟨e, ⟨_, e⟩, fun h1 h2 q k => k _ q⟩
theorem tiE_ok {P : Program} {w : World} {H : Hp} {h : Heap} {it : Addr} {i : Nat} (e : h.get? it = some (tiEnd i)) : ObjOk P w H h it (TiE it i) := ⟨e, ⟨_, e⟩, fun h1 h2 q k => k _ q⟩
/-- at it an iterator over xs, i items are out -/
def TiAt (K : PySem.W.Frag) (H : Hp) (it : Addr) (xs : List V) (i : Nat) : Prop := (∃ t, H it = some (TiO t it i) ∧ SqT K H t xs) ∨ (∃ j, H it = some (TiE it j) ∧ xs.length ≤ i)
theorem sqT_upd {K : PySem.W.Frag} {H : Hp} {t a : Addr} {o : HO} {φ : Heap → Prop} {xs : List V} (h : SqT K H t xs) (ha : H a = some (.ext φ)) : SqT K (upd H a o) t xs := by
  have n : ∀ u, H t = some u → (∀ ψ, u ≠ .ext ψ) → upd H a o t = some u := fun u e q => by
    have hn : t ≠ a := fun z => by
      rw [z, ha] at e
      exact q φ (Option.some.inj e).symm
    rw [upd_ne hn]
    exact e
  rcases h with (h | ⟨u, h⟩) | h
  · exact .inl (.inl (n _ h fun _ z => nomatch z))
  · exact .inl (.inr ⟨u, n _ h fun _ z => nomatch z⟩)
  · exact .inr h
section
variable {X : Cx}
def rIterT (K : PySem.W.Frag) : List V → Hp → VK → Prop := fun xs H Q => ∃ (l : Addr) (zs : List V), xs = [.ref l] ∧ SqT K H l zs ∧ ∀ it H', H it = none → Same H H' → TiAt K H' it zs 0 → Q (.ref it) H'
theorem call_iterT : CallR X (.builtin "iter") (rIterT X.K) := by
  intro pins s σ H xs us Q I r h
  obtain ⟨l, zs, rfl, hq, q⟩ := h
  obtain rfl := Vals.ref1 r
  obtain ⟨its, rv, pl, hz⟩ := I.tuple hq
  refine Calls.call_function_entry (by decide +kernel) (by decide +kernel) PySem.W.kdk_entry_iter (PySem.W.kdk_args_iter _) ?_
  unfold Builtin.«iter»
  refine wpAny_bind (m := someArgs "iter" 1 2 _) (wpAny_of_eq (a := [Value.ref l]) (by first | rfl | kernel_rfl!) ?_)
  show wpAny _ _ (pyIter (.ref l) >>= _) _ _ _
  refine wpAny_bind (wpAny_pyIter_tuple pl ?_)
  refine wpAny_pure ⟨_, rfl, ?_⟩
  have hn : H s.heap.objs.size = none := I.hok.fresh (Nat.le_refl _)
  exact ⟨.ref s.heap.objs.size, _, I.laid (t' := s.toks) (fun b u e => Heap.get?_push_of_some _ e) (Nat.le_refl _) (tiO_ok (t := l) (i := 0) (Heap.get?_push_size _ rfl)), rfl, q _ _ hn (Same.new hn) (.inl ⟨l, upd_same, seqT_at hq (Same.new hn)⟩)⟩
def rNext2 (K : PySem.W.Frag) : List V → Hp → VK → Prop := fun vs H Q => ∃ (it : Addr) (xs : List V) (i : Nat) (d : V), vs = [.ref it, d] ∧ TiAt K H it xs i ∧ ∀ H', Same (dl H it) H' → TiAt K H' it xs (i + 1) → Q (xs.getD i d) H'
theorem call_next2 (hc : X.calm = true) : CallR X (.builtin "next") (rNext2 X.K) := by
  intro pins s σ H vs us Q I r h
  obtain ⟨it, xs, i, d, rfl, hi, q⟩ := h
  obtain ⟨u1, u2, rfl, r1, r2⟩ := r.two
  obtain rfl : u1 = Value.ref it := r1
  have hT : s.TypeIs (.ref it) "tuple_iterator" := by
    rcases hi with ⟨t, hi, _⟩ | ⟨j, hi, _⟩
    · exact ⟨_, (I.hok it _ hi).1, rfl⟩
    · exact ⟨_, (I.hok it _ hi).1, rfl⟩
  refine Calls.call_function_entry (by decide +kernel) (by decide +kernel) PySem.W.kdk_entry_next (PySem.W.kdk_args_next2 _ _) ?_
  unfold Builtin.«next»
  refine wpAny_bind (m := someArgs "next" 1 2 _) (wpAny_of_eq (a := [Value.ref it, u2]) (by first | rfl | kernel_rfl!) ?_)
  dsimp only
  refine wpAny_bind (wpAny_specialOf (name := Str.ofString "__next__") hT F.slot_tuple_iterator_next.lookup ?_)
  refine wpAny_ite_split (fun hab => absurd hab (by decide)) (fun _ => ?_)
  have hh : X.A.in1.handled = none := I.ok.hd hc
  rcases hi with ⟨t, hi, hs⟩ | ⟨j, hi, hl⟩
  · obtain ⟨its, rv, pl, hz⟩ := I.tuple hs
    have mu : Mut (H it) := by rw [hi]; exact True.intro
    have hi' := hi
    unfold TiO at hi'
    cases hv : xs[i]? with
    | some v =>
      obtain ⟨w', hw, rw'⟩ := rv.get hv
      refine wpAny_bind (ti_item (I.hok it _ hi).1 pl (by rw [List.getElem?_toArray]; exact hw) fun h' e' sb => ?_)
      refine wpAny_pure ⟨_, rfl, ?_⟩
      have q1 := q (upd H it (TiO t it (i + 1))) (dl_mut dl_sub) (.inl ⟨t, upd_same, sqT_upd hs hi'⟩)
      rw [List.getD_eq_getElem?_getD, hv] at q1
      exact ⟨v, _, I.write (x := it) (e := it) (t' := s.toks) mu (.inl rfl) (fun b o nb z => (sb.2 b nb).trans z) ⟨_, e'⟩ (tiO_ok e'), rw', q1⟩
    | none =>
      refine wpAny_bind (ti_stop hh (I.hok it _ hi).1 pl (by rw [List.getElem?_toArray]; exact rv.none_of hv) fun h' e' sb => ?_)
      refine wpAny_pure ⟨_, rfl, ?_⟩
      have q1 := q (upd H it (TiE it i)) (dl_mut dl_sub) (.inr ⟨i, upd_same, Nat.le_succ_of_le (List.getElem?_eq_none_iff.mp hv)⟩)
      rw [List.getD_eq_getElem?_getD, hv] at q1
      exact ⟨d, _, I.write (x := it) (e := it) (t' := s.toks) mu (.inl rfl) (fun b o nb z => sb b o nb z) ⟨_, e'⟩ (tiE_ok e'), r2, q1⟩
  · refine wpAny_bind (ti_again hh (I.hok it _ hi).1 fun h' k => ?_)
    refine wpAny_pure ⟨_, rfl, ?_⟩
    have q1 := q H dl_sub (.inr ⟨j, hi, Nat.le_succ_of_le hl⟩)
    rw [List.getD_eq_getElem?_getD, List.getElem?_eq_none_iff.mpr hl] at q1
    exact ⟨d, H, I.kept (t' := s.toks) k, r2, q1⟩
end
end Sm
/-! SmSlot: slotted instances: their slots, methods, properties, dunders, by bundles that a law's text can name. -/
namespace Sm
open PySem PySem.Spec PyProof.Rows L2
/-- a class with slots named fs -/
structure ClS (K : PySem.W.Frag) (C : Addr) (fs : List Str) : Prop where
  cls : SlX.SCls K C
  slots : ∀ i f, fs[i]? = some f → ∃ p, SlX.Slot1 K C f p i
/-- a method, called positionally; dvs: the defaults that fill up -/
structure Me (P : Program) (w : World) (K : PySem.W.Frag) (mg : Str → Option Value) (base : Heap) (k : Nat) (C : Addr) (m : Str) (ps : List Str) (sp : Sp) : Prop where
  ex : ∃ g fd, FnOk P w K mg base (L2.CX P w) k g fd ps sp ∧ Meth K C m g ∧ Binds K fd ps []
/-- .. with keywords ks behind n positional values -/
structure MeK (P : Program) (w : World) (K : PySem.W.Frag) (mg : Str → Option Value) (base : Heap) (k : Nat) (C : Addr) (m : Str) (ps : List Str) (sp : Sp) (n : Nat) (ks : List Str) (gV : List V → List V → List V) : Prop where
  ex : ∃ g fd gU, FnOk P w K mg base (L2.CX P w) k g fd ps sp ∧ Meth K C m g ∧ KBn K fd ps n ks gU gV
/-- C(..) -/
structure Mak (P : Program) (w : World) (K : PySem.W.Frag) (mg : Str → Option Value) (base : Heap) (k : Nat) (x : Str) (ps : List Str) (sp : Sp) : Prop where
  ex : ∃ g fd, FnOk P w K mg base (L2.CX P w) k g fd ps sp ∧ Mk K (He.ga K x) g ∧ Binds K fd ps [] ∧ mg x = some (.ref (He.ga K x))
structure MakK (P : Program) (w : World) (K : PySem.W.Frag) (mg : Str → Option Value) (base : Heap) (k : Nat) (x : Str) (ps : List Str) (sp : Sp) (n : Nat) (ks : List Str) (gV : List V → List V → List V) : Prop where
  ex : ∃ g fd gU, FnOk P w K mg base (L2.CX P w) k g fd ps sp ∧ Mk K (He.ga K x) g ∧ KBn K fd ps n ks gU gV ∧ mg x = some (.ref (He.ga K x))
/-- a property -/
structure Prp (P : Program) (w : World) (K : PySem.W.Frag) (mg : Str → Option Value) (base : Heap) (k : Nat) (C : Addr) (f : Str) (sp : Sp) : Prop where
  ex : ∃ p g, PySem.W.findIn K (.ref C) f = some (some (.ref p)) ∧ PySem.W.specialIn K (.ref p) "__get__" = some (some (.builtin "property.__get__")) ∧ PySem.W.takesIn K (.ref p) = some true ∧
    (∃ rest, PySem.W.recIn K p "property" = some (.ref g :: rest)) ∧ FnR P w K mg base (L2.CX P w) k g sp
section
variable {P : Program} {w : World} {K : PySem.W.Frag} {mg : Str → Option Value} {base : Heap} {k : Nat} {C : Addr} {m : Str} {ps : List Str} {sp : Sp}
theorem sp_nil {sp : Sp} : (fun (vs : List V) H Q E => sp (vs ++ []) H Q E) = sp := by
  funext vs H Q E
  rw [List.append_nil]
theorem Me.raw (M : Me P w K mg base k C m ps sp) : ∃ g, FnR P w K mg base (L2.CX P w) k g sp ∧ Meth K C m g := by
  obtain ⟨g, fd, F, M, b⟩ := M.ex
  have q := F.raw b .nil
  rw [sp_nil] at q
  exact ⟨g, q, M⟩
end
section
variable {X : Cx} {C : Addr} {fs : List Str} {f m x : Str} {i j k n : Nat} {e o value : Expr} {es : List Expr} {kws : List Keyword} {ta tv te : TE} {t tk : TA} {p pos pos' apos tpos : Pos} {ps ks : List Str} {sp : Sp} {E : XK} {gV : List V → List V → List V}
/-- e.f -/
def tSlC (C : Addr) (i : Nat) (ta : TE) : TE := fun σ H Q => ta σ H fun x H1 => ∃ a dx vs v, x = .ref a ∧ SlX.Slt H1 a C dx vs ∧ vs[i]? = some (some v) ∧ Q v H1
theorem pe_slC (i : Nat) (T : ClS X.K C fs) (hf : fs[i]? = some f) (he : PE X e ta) (hb : attributeBase e f X.env (eval e X.env) = eval e X.env := by rfl) : PE X (.Attribute e f pos) (tSlC C i ta) := by
  obtain ⟨p, t⟩ := T.slots i f hf
  refine ⟨fun pins s σ H Q I h => ?_⟩
  refine attr_of hb (thn (he.run pins s σ H _ I h) fun u s1 ⟨x, H1, I1, rx, a, dx, vs, v, ex, hs, l, q⟩ => ?_)
  subst ex
  obtain rfl : u = Value.ref a := rx
  exact SlX.getslot_ok I1 hs T.cls t l fun u' s2 I2 ru => ⟨v, H1, I2, ru, q⟩
/-- e.f = value -/
def sSlC (C : Addr) (i : Nat) (ta tv : TE) : TS := fun D σ H => tv σ H fun y H1 => ta σ H1 fun x H2 => ∃ a dx vs, x = .ref a ∧ SlX.Slt H2 a C dx vs ∧ D.nx σ (SlX.slH H2 a C dx (SlX.putS i y vs))
theorem ps_slC (i : Nat) (T : ClS X.K C fs) (hf : fs[i]? = some f) (ha : PE X o ta) (hv : PE X value tv) (hs : swapsWith value (some (.Attribute o f pos')) pos.line X.env = pure false := by rfl) : PS X (.Assign [.Attribute o f pos'] value pos) (sSlC C i ta tv) := by
  obtain ⟨p, t⟩ := T.slots i f hf
  refine ⟨fun pins s σ H D I h => ?_⟩
  refine plainObj_wpAny_Assign_Attribute (thn (hv.run pins s σ H _ I h) fun u s1 ⟨y, H1, I1, ry, q⟩ => thn (ha.run pins s1 σ H1 _ I1 q) fun ov s2 ⟨x, H2, I2, rx, a, dx, vs, ex, hsl, q2⟩ => ?_) hs
  subst ex
  obtain rfl : ov = Value.ref a := rx
  exact SlX.setslot_ok I2 hsl T.cls t ry fun s3 I3 => ⟨σ, _, I3, q2⟩
/-- e.f op= value -/
def sSlAug (C : Addr) (i : Nat) (ta tv : TE) (rd : V → V → Hp → VK → Prop) : TS := fun D σ H => ta σ H fun x H1 => ∃ a dx vs v, x = .ref a ∧ SlX.Slt H1 a C dx vs ∧ vs[i]? = some (some v) ∧
  tv σ H1 fun y H2 => rd v y H2 fun z H3 => ∃ dx' vs', SlX.Slt H3 a C dx' vs' ∧ D.nx σ (SlX.slH H3 a C dx' (SlX.putS i z vs'))
theorem ps_slAug (i : Nat) {op : Operator} {rd : V → V → Hp → VK → Prop} (T : ClS X.K C fs) (hf : fs[i]? = some f) (ha : PE X o ta) (hv : PE X value tv) (hop : InOp X op rd) :
    PS X (.AugAssign (.Attribute o f tpos) op value pos) (sSlAug C i ta tv rd) := by
  obtain ⟨p, t⟩ := T.slots i f hf
  refine ⟨fun pins s σ H D I h => ?_⟩
  refine wpAny_AugAssign_AttributeAny (thn (ha.run pins s σ H _ I h) fun ov s1 ⟨x, H1, I1, rx, a, dx, vs, v, ex, ea, l, q⟩ => ?_)
  subst ex
  obtain rfl : ov = Value.ref a := rx
  refine SlX.getslot_ok I1 ea T.cls t l fun u s2 I2 ru => thn (hv.run pins s2 σ H1 _ I2 q) fun w3 s3 ⟨y, H2, I3, ry, q3⟩ => thn (hop pins s3 σ H2 v y u w3 _ I3 ru ry q3) fun w4 s4 ⟨z, H3, I4, rz, dx', vs', ea', q4⟩ => ?_
  exact SlX.setslot_ok I4 ea' T.cls t rz fun s5 I5 => ⟨σ, _, I5, q4⟩
/-- o.m(e, ..) -/
theorem pe_me {pl : Sem Bool} (T : ClS X.K C fs) (M : Me X.prog X.w X.K X.mg X.base k C m ps sp) (hr : Room j X.A) (he : PE X o ta) (ha : PA X (e :: es) t) (hx : Passes (L2.CX X.prog X.w) X E) (hk : k ≤ j := by decide)
    (hst : starEach (e :: es) X.env = (false, eval e X.env) :: starEach es X.env := by rfl) (hpl : (backTo pos (starEach es X.env)).any (·.1) = false := by rfl)
    (ht : eval (.Call (.Attribute o m apos) (e :: es) [] pos) X.env = (do
      let ov ← eval o X.env
      standAt apos.atName
      let (f, first) ← holding [ov] (getMethod ov m pl)
      callWith pos f first (backTo pos (starEach (e :: es) X.env)) (backToKw pos (keywordEach [] X.env))) := by rfl) :
    PE X (.Call (.Attribute o m apos) (e :: es) [] pos) (SlX.tMethSl C sp E ta t) := by
  obtain ⟨g, F, M⟩ := M.raw
  exact SlX.pe_methSl he T.cls M F (hr.mono hk) hx ha hst hpl ht
theorem pe_me0 {pl : Sem Bool} (T : ClS X.K C fs) (M : Me X.prog X.w X.K X.mg X.base k C m ps sp) (hr : Room j X.A) (he : PE X o ta) (hx : Passes (L2.CX X.prog X.w) X E) (hk : k ≤ j := by decide)
    (ht : eval (.Call (.Attribute o m apos) [] [] pos) X.env = (do
      let ov ← eval o X.env
      standAt apos.atName
      let (f, first) ← holding [ov] (getMethod ov m pl)
      callWith pos f first (backTo pos (starEach [] X.env)) (backToKw pos (keywordEach [] X.env))) := by rfl) :
    PE X (.Call (.Attribute o m apos) [] [] pos) (SlX.tMethSl C sp E ta tNil) := by
  obtain ⟨g, F, M⟩ := M.raw
  exact SlX.pe_methSl0 he T.cls M F (hr.mono hk) hx ht
/-- o.m(e, .., k = v, ..): n positional values, self among them -/
def tMethK (C : Addr) (n m : Nat) (sp : Sp) (gV : List V → List V → List V) (E : XK) (ta : TE) (t tk : TA) : TE := fun σ H Q => ta σ H fun x H1 => ∃ a dx vs, x = .ref a ∧ SlX.Slt H1 a C dx vs ∧ t σ H1 fun ws H2 => tk σ H2 fun zs H3 => ws.length + 1 = n ∧ zs.length = m ∧ sp (gV (x :: ws) zs) H3 Q E
theorem run_fnK {CX : CXT} {g : Addr} {fd : FuncData} {gU : List Value → List Value → List Value} {pins : List (Addr × Obj)} {σ : L2.St} {H : Hp} {s : Shared} {Q : VK} {us ws : List Value} {vs zs : List V} (F : FnOk X.prog X.w X.K X.mg X.base CX k g fd ps sp) (hr : Room k X.A) (hb : KBn X.K fd ps n ks gU gV) (hx : Passes CX X E)
    (I : Inv X pins σ H s) (r : Vals vs us) (rz : Vals zs ws) (l1 : vs.length = n) (l2 : zs.length = ks.length) (h : sp (gV vs zs) H Q E) : wpAny (model X.prog X.w) X.A (call (.ref g) us (ks.zip ws)) (EP X pins σ Q) X.xe s := run_fnN F hr hb hx I r rz l1 l2 h
theorem pe_meK {pl : Sem Bool} (T : ClS X.K C fs) (M : MeK X.prog X.w X.K X.mg X.base k C m ps sp n ks gV) (hr : Room j X.A) (he : PE X o ta) (ha : PA X (e :: es) t) (hkw : PK X kws tk) (hx : Passes (L2.CX X.prog X.w) X E) (hk : k ≤ j := by decide)
    (hall : (backToKw pos (keywordEach kws X.env)).all (·.1.isSome) = true := by rfl) (hks : (backToKw pos (keywordEach kws X.env)).filterMap (·.1) = ks := by rfl)
    (hst : starEach (e :: es) X.env = (false, eval e X.env) :: starEach es X.env := by rfl) (hpl : ((backTo pos (starEach (e :: es) X.env)).any (·.1) || (backToKw pos (keywordEach kws X.env)).any (·.1.isNone)) = false := by rfl)
    (ht : eval (.Call (.Attribute o m apos) (e :: es) kws pos) X.env = (do
      let ov ← eval o X.env
      standAt apos.atName
      let (f, first) ← holding [ov] (getMethod ov m pl)
      callWith pos f first (backTo pos (starEach (e :: es) X.env)) (backToKw pos (keywordEach kws X.env))) := by rfl) :
    PE X (.Call (.Attribute o m apos) (e :: es) kws pos) (tMethK C n ks.length sp gV E ta t tk) := by
  obtain ⟨g, fd, gU, F, M, hb⟩ := M.ex
  refine ⟨fun pins s σ H Q I h => ?_⟩
  refine PySem.W.methodCall_KW (pl := pl) (thn (he.run pins s σ H _ I h) fun u s1 ⟨x, H1, I1, rx, a, dx, vs, ex, hsl, q⟩ => ?_) ht
  subst ex
  obtain rfl : u = Value.ref a := rx
  refine SlX.getmethsl_ok I1 hsl T.cls M ?_
  refine PySem.W.callWith_KW (first := [.ref a]) (h₀ := X.base) I.ok.mod.kin M.kp hall (thn (ha.run pos pins s1 σ H1 _ I1 q) fun us s2 ⟨ws, H2, I2, r, q2⟩ => ?_) hpl hst
  refine thn (hkw.run pos pins s2 σ H2 _ I2 q2) fun zs s3 ⟨ys, H3, I3, rz, l1, l2, q3⟩ => ⟨I3.kIn, ?_⟩
  rw [hks]
  exact run_fnK (us := .ref a :: us) (vs := .ref a :: ws) F (hr.mono hk) hb hx I3 (.cons rfl r) rz l1 l2 q3
theorem pe_meK0 {pl : Sem Bool} (T : ClS X.K C fs) (M : MeK X.prog X.w X.K X.mg X.base k C m ps sp n ks gV) (hr : Room j X.A) (he : PE X o ta) (hkw : PK X kws tk) (hx : Passes (L2.CX X.prog X.w) X E) (hk : k ≤ j := by decide)
    (hall : (backToKw pos (keywordEach kws X.env)).all (·.1.isSome) = true := by rfl) (hks : (backToKw pos (keywordEach kws X.env)).filterMap (·.1) = ks := by rfl)
    (hpl : ((backTo pos (starEach [] X.env)).any (·.1) || (backToKw pos (keywordEach kws X.env)).any (·.1.isNone)) = false := by rfl)
    (ht : eval (.Call (.Attribute o m apos) [] kws pos) X.env = (do
      let ov ← eval o X.env
      standAt apos.atName
      let (f, first) ← holding [ov] (getMethod ov m pl)
      callWith pos f first (backTo pos (starEach [] X.env)) (backToKw pos (keywordEach kws X.env))) := by rfl) :
    PE X (.Call (.Attribute o m apos) [] kws pos) (tMethK C n ks.length sp gV E ta tNil tk) := by
  obtain ⟨g, fd, gU, F, M, hb⟩ := M.ex
  refine ⟨fun pins s σ H Q I h => ?_⟩
  refine PySem.W.methodCall_KW (pl := pl) (thn (he.run pins s σ H _ I h) fun u s1 ⟨x, H1, I1, rx, a, dx, vs, ex, hsl, q⟩ => ?_) ht
  subst ex
  obtain rfl : u = Value.ref a := rx
  refine SlX.getmethsl_ok I1 hsl T.cls M ?_
  refine PySem.W.callWith_KW0 (first := [.ref a]) (h₀ := X.base) I.ok.mod.kin M.kp hall ?_ hpl
  refine thn (hkw.run pos pins s1 σ H1 _ I1 q) fun zs s3 ⟨ys, H3, I3, rz, l1, l2, q3⟩ => ⟨I3.kIn, ?_⟩
  rw [hks]
  exact run_fnK (us := [.ref a]) (vs := [.ref a]) F (hr.mono hk) hb hx I3 (.cons rfl .nil) rz l1 l2 q3
/-- C(e, ..), C(k = v, ..) -/
theorem pe_mak (K : PySem.W.Frag) (hK : X.K = K) (M : Mak X.prog X.w X.K X.mg X.base k x ps sp) (hr : Room j X.A) (ha : PA X (e :: es) t) (hx : Passes (L2.CX X.prog X.w) X E) (hk : k + 1 ≤ j := by decide) (hg : Gl X x := by rfl) (hdb : (x == ("__debug__" : Str)) = false := by decide)
    (he : starEach (e :: es) X.env = (false, eval e X.env) :: starEach es X.env := by rfl) (hpl : (backTo pos (starEach es X.env)).any (·.1) = false := by rfl) :
    PE X (.Call (.Name x p) (e :: es) [] pos) (tMake (He.ga K x) sp [] E t) := by
  subst hK
  obtain ⟨g, fd, F, M, b, hm⟩ := M.ex
  exact pe_make M F (hr.mono hk) hg hm b .nil hx ha hdb he hpl
theorem pe_makK0 (K : PySem.W.Frag) (hK : X.K = K) (M : MakK X.prog X.w X.K X.mg X.base k x ps sp 1 ks gV) (hr : Room j X.A) (hkw : PK X kws tk) (hx : Passes (L2.CX X.prog X.w) X E) (hk : k + 1 ≤ j := by decide) (hg : Gl X x := by rfl) (hdb : (x == ("__debug__" : Str)) = false := by decide)
    (hall : (backToKw pos (keywordEach kws X.env)).all (·.1.isSome) = true := by rfl) (hks : (backToKw pos (keywordEach kws X.env)).filterMap (·.1) = ks := by rfl)
    (hpl : ((backTo pos (starEach [] X.env)).any (·.1) || (backToKw pos (keywordEach kws X.env)).any (·.1.isNone)) = false := by rfl) :
    PE X (.Call (.Name x p) [] kws pos) (tMakeK (He.ga K x) 0 ks.length sp gV E tNil tk) := by
  subst hK
  obtain ⟨g, fd, gU, F, M, b, hm⟩ := M.ex
  exact pe_makeK0 M F (hr.mono hk) hg hm b hx hkw hall hks hdb hpl
/-- e.f, a property that raises nothing -/
theorem pe_prp (T : ClS X.K C fs) (M : Prp X.prog X.w X.K X.mg X.base k C f sp) (hr : Room j X.A) (he : PE X e ta) (hk : k + 1 ≤ j := by decide) (hb : attributeBase e f X.env (eval e X.env) = eval e X.env := by rfl) : PE X (.Attribute e f pos) (SlX.tPropSl C sp E0 ta) := by
  obtain ⟨p, g, h1, h2, h3, h4, F⟩ := M.ex
  exact SlX.pe_propSl he T.cls h1 h2 h3 h4 F (hr.mono hk) (fun H s e s' z => by
    obtain ⟨_, _, _, _, _, _, _, _, _, _, _, _, z⟩ := z
    exact z) hb
theorem call_lenMe (M : Me X.prog X.w X.K X.mg X.base k C "__len__" ps sp) (hr : Room j X.A) (hk : k + 1 ≤ j := by decide) : CallR X (.builtin "len") (rLenOwn C sp E0) := by
  obtain ⟨g, F, M⟩ := M.raw
  exact call_lenOwn M.at_ M.fn F (hr.mono hk) passL
theorem call_strMe (M : Me X.prog X.w X.K X.mg X.base k C "__str__" ps sp) (hr : Room j X.A) (hk : k + 2 ≤ j := by decide) : CallR X (.type "str") (rStrOwn C sp E0) := by
  obtain ⟨g, F, M⟩ := M.raw
  exact call_strOwn M.at_ M.fn F (hr.mono hk) passL
theorem op_inMe (M : Me X.prog X.w X.K X.mg X.base k C "__contains__" ps sp) (hr : Room j X.A) (hk : k ≤ j := by decide) : OpR X (compareOp .In) (rInOwn C sp E0 false) := by
  obtain ⟨g, F, M⟩ := M.raw
  exact op_inOwn M.at_ M.fn F (hr.mono hk) passL
theorem op_niMe (M : Me X.prog X.w X.K X.mg X.base k C "__contains__" ps sp) (hr : Room j X.A) (hk : k ≤ j := by decide) : OpR X (compareOp .NotIn) (rInOwn C sp E0 true) := by
  obtain ⟨g, F, M⟩ := M.raw
  exact op_niOwn M.at_ M.fn F (hr.mono hk) passL
end
/-! ### an instance behind its first store -/
def IsS (H : Hp) (a C dx : Addr) (vs : List (Option V)) : Prop := H a = some (SlX.SlO a C dx vs) ∧ H dx = some (.xd [])
theorem IsS.slt {H : Hp} {a C dx : Addr} {vs : List (Option V)} (h : IsS H a C dx vs) : SlX.Slt H a C dx vs := .inr h
theorem IsS.at {H H' : Hp} {a C dx : Addr} {vs : List (Option V)} (h : IsS H a C dx vs) (e : Same H H') : IsS H' a C dx vs := ⟨e _ _ h.1, e _ _ h.2⟩
theorem IsS.ne {H : Hp} {a C dx : Addr} {vs : List (Option V)} (h : IsS H a C dx vs) : dx ≠ a := fun z => by
  have h2 := h.2
  rw [z, h.1] at h2
  exact SlX.slO_not (Option.some.inj h2)
/-- a store into it -/
theorem IsS.put {H : Hp} {a C dx : Addr} {vs : List (Option V)} (h : IsS H a C dx vs) (i : Nat) (v : V) : Same (dl H a) (SlX.slH H a C dx (SlX.putS i v vs)) ∧ IsS (SlX.slH H a C dx (SlX.putS i v vs)) a C dx (SlX.putS i v vs) := by
  refine ⟨fun b o e => ?_, upd_same, ?_⟩
  · have hb : b ≠ a := fun z => by
      unfold dl at e
      rw [if_pos z] at e
      cases e
    rw [dl_ne hb] at e
    by_cases h2 : b = dx
    · unfold SlX.slH
      rw [upd_ne hb, h2, upd_same, ← h.2, ← h2]
      exact e
    · rw [SlX.slH_ne hb h2]
      exact e
  · unfold SlX.slH
    rw [upd_ne h.ne, upd_same]
/-- the first store -/
theorem isS_first {H : Hp} {a C dx : Addr} (h : H a = some (.ins C dx [])) (hd : dx ≠ a) (i : Nat) (v : V) : Same (dl (dl H a) dx) (SlX.slH H a C dx (SlX.putS i v [])) ∧ IsS (SlX.slH H a C dx (SlX.putS i v [])) a C dx (SlX.putS i v []) := by
  refine ⟨fun b o e => ?_, upd_same, ?_⟩
  · have h2 : b ≠ dx := fun z => by
      unfold dl at e
      rw [if_pos z] at e
      cases e
    rw [dl_ne h2] at e
    have hb : b ≠ a := fun z => by
      unfold dl at e
      rw [if_pos z] at e
      cases e
    rw [dl_ne hb] at e
    rw [SlX.slH_ne hb h2]
    exact e
  · unfold SlX.slH
    rw [upd_ne hd, upd_same]
/-! ### steps -/
section
variable {σ : L2.St} {H : Hp} {Q : VK} {C a dx : Addr} {i n m : Nat} {vs : List (Option V)} {v : V} {ta tv : TE} {t tk : TA} {sp : Sp} {E : XK} {D : Ends} {gV : List V → List V → List V} {rd : V → V → Hp → VK → Prop}
instance i_slC : Stp (tSlC C i ta σ H Q) (ta σ H fun x H1 => ∃ a dx vs v, x = .ref a ∧ SlX.Slt H1 a C dx vs ∧ vs[i]? = some (some v) ∧ Q v H1) := ⟨id⟩
theorem g_slc {R : V → Prop} (h : IsS H a C dx vs) (e : vs[i]? = some (some v)) (q : R v) : ∃ a' dx vs v, V.ref a = .ref a' ∧ SlX.Slt H a' C dx vs ∧ vs[i]? = some (some v) ∧ R v := ⟨a, dx, vs, v, rfl, h.slt, e, q⟩
instance i_sslC : Stp (sSlC C i ta tv D σ H) (tv σ H fun y H1 => ta σ H1 fun x H2 => ∃ a dx vs, x = .ref a ∧ SlX.Slt H2 a C dx vs ∧ D.nx σ (SlX.slH H2 a C dx (SlX.putS i y vs))) := ⟨id⟩
theorem g_ssl {R : Hp → Prop} {y : V} (h : IsS H a C dx vs) (q : ∀ H', Same (dl H a) H' → IsS H' a C dx (SlX.putS i y vs) → R H') : ∃ a' dx vs, V.ref a = .ref a' ∧ SlX.Slt H a' C dx vs ∧ R (SlX.slH H a' C dx (SlX.putS i y vs)) := ⟨a, dx, vs, rfl, h.slt, q _ (h.put i y).1 (h.put i y).2⟩
theorem g_ssl0 {R : Hp → Prop} {y : V} (h : H a = some (.ins C dx [])) (hd : dx ≠ a) (q : ∀ H', Same (dl (dl H a) dx) H' → IsS H' a C dx (SlX.putS i y []) → R H') : ∃ a' dx vs, V.ref a = .ref a' ∧ SlX.Slt H a' C dx vs ∧ R (SlX.slH H a' C dx (SlX.putS i y vs)) := ⟨a, dx, [], rfl, .inl ⟨h, rfl⟩, q _ (isS_first h hd i y).1 (isS_first h hd i y).2⟩
instance i_sslAug : Stp (sSlAug C i ta tv rd D σ H) (ta σ H fun x H1 => ∃ a dx vs v, x = .ref a ∧ SlX.Slt H1 a C dx vs ∧ vs[i]? = some (some v) ∧
  tv σ H1 fun y H2 => rd v y H2 fun z H3 => ∃ dx' vs', SlX.Slt H3 a C dx' vs' ∧ D.nx σ (SlX.slH H3 a C dx' (SlX.putS i z vs'))) := ⟨id⟩
theorem g_sslA {R : Hp → Prop} {y : V} (h : IsS H a C dx vs) (q : ∀ H', Same (dl H a) H' → IsS H' a C dx (SlX.putS i y vs) → R H') : ∃ dx vs, SlX.Slt H a C dx vs ∧ R (SlX.slH H a C dx (SlX.putS i y vs)) := ⟨dx, vs, h.slt, q _ (h.put i y).1 (h.put i y).2⟩
instance i_methSl : Stp (SlX.tMethSl C sp E ta t σ H Q) (ta σ H fun x H1 => ∃ a dx vs, x = .ref a ∧ SlX.Slt H1 a C dx vs ∧ t σ H1 fun ws H2 => sp (x :: ws) H2 Q E) := ⟨id⟩
theorem g_me {x : V} {R : Prop} (h : IsS H a C dx vs) (q : R) : ∃ a' dx vs, V.ref a = .ref a' ∧ SlX.Slt H a' C dx vs ∧ R := ⟨a, dx, vs, rfl, h.slt, q⟩
instance i_methK : Stp (tMethK C n m sp gV E ta t tk σ H Q) (ta σ H fun x H1 => ∃ a dx vs, x = .ref a ∧ SlX.Slt H1 a C dx vs ∧ t σ H1 fun ws H2 => tk σ H2 fun zs H3 => ws.length + 1 = n ∧ zs.length = m ∧ sp (gV (x :: ws) zs) H3 Q E) := ⟨id⟩
instance i_make {dvs : List V} : Stp (tMake C sp dvs E t σ H Q) (t σ H fun vs H1 => ∀ x dx, H1 x = none → H1 dx = none → dx ≠ x → sp (.ref x :: (vs ++ dvs)) (upd (upd H1 dx (.own x)) x (.ins C dx [])) (fun v H2 => v = .non ∧ Q (.ref x) H2) E) := ⟨id⟩
instance i_makeK : Stp (tMakeK C n m sp gV E t tk σ H Q) (t σ H fun vs H1 => tk σ H1 fun zs H2 => vs.length = n ∧ zs.length = m ∧ ∀ x dx, H2 x = none → H2 dx = none → dx ≠ x → sp (gV (.ref x :: vs) zs) (upd (upd H2 dx (.own x)) x (.ins C dx [])) (fun v H3 => v = .non ∧ Q (.ref x) H3) E) := ⟨id⟩
instance i_propSl : Stp (SlX.tPropSl C sp E ta σ H Q) (ta σ H fun x H1 => ∃ a dx vs, x = .ref a ∧ SlX.Slt H1 a C dx vs ∧ sp [.ref a] H1 Q E) := ⟨id⟩
theorem g_prp {R : Addr → Prop} (h : IsS H a C dx vs) (q : R a) : ∃ a' dx vs, V.ref a = .ref a' ∧ SlX.Slt H a' C dx vs ∧ R a' := ⟨a, dx, vs, rfl, h.slt, q⟩
theorem g_lenOwn (h : IsS H a C dx vs) (q : sp [.ref a] H (fun z H' => ∃ i : Int, z = .int i ∧ 0 ≤ i ∧ i < 2 ^ 63 ∧ Q z H') E) : rLenOwn C sp E [.ref a] H Q := ⟨a, dx, vs, rfl, h.slt, q⟩
theorem g_strOwn (h : IsS H a C dx vs) (q : sp [.ref a] H (fun z H' => ∃ i : Str, z = .str i ∧ Q z H') E) : rStrOwn C sp E [.ref a] H Q := ⟨a, dx, vs, rfl, h.slt, q⟩
theorem g_inOwn {x : V} {neg : Bool} (h : IsS H a C dx vs) (q : sp [.ref a, x] H (fun z H' => ∃ b, z = .bl b ∧ Q (.bl (b != neg)) H') E) : rInOwn C sp E neg x (.ref a) H Q := ⟨a, dx, vs, rfl, h.slt, q⟩
end
/-! ### what a heap owns -/
/-- from H to H', h owned ahead of it, h' behind it -/
def Step (h H h' H' : Hp) : Prop := Same h' H' ∧ ∀ b o, h b = none → H b = some o → H' b = some o ∧ h' b = none
theorem Step.refl {h H : Hp} (e : Same h H) : Step h H h H := ⟨e, fun b o h1 h2 => ⟨h2, h1⟩⟩
theorem Step.trans {h H h1 H1 h2 H2 : Hp} (a : Step h H h1 H1) (b : Step h1 H1 h2 H2) : Step h H h2 H2 := ⟨b.1, fun c o e1 e2 => by
  obtain ⟨q1, q2⟩ := a.2 c o e1 e2
  exact b.2 c o q2 q1⟩
theorem Step.more {h H h1 H1 H2 : Hp} (a : Step h H h1 H1) (e : Same H1 H2) : Step h H h1 H2 := ⟨a.1.trans e, fun c o e1 e2 => by
  obtain ⟨q1, q2⟩ := a.2 c o e1 e2
  exact ⟨e _ _ q1, q2⟩⟩
theorem Step.same {h H H' : Hp} (e : Same h H) (s : Same H H') : Step h H h H' := (Step.refl e).more s
/-- an owned thing changes -/
theorem Step.mut {h H h1 H1 H2 : Hp} {a : Addr} {o : HO} (s : Step h H h1 H1) (ha : h1 a ≠ none) (e : Same (dl H1 a) H2) (ho : H2 a = some o) : Step h H (upd h1 a o) H2 := s.trans ⟨fun b u q => by
    by_cases hb : b = a
    · rw [hb, upd_same] at q
      rw [hb, ho, q]
    · rw [upd_ne hb] at q
      exact e _ _ ((dl_ne hb).trans (s.1 _ _ q)), fun b u q1 q2 => by
    have hb : b ≠ a := fun z => ha (by rw [← z]; exact q1)
    exact ⟨e _ _ ((dl_ne hb).trans q2), by rw [upd_ne hb]; exact q1⟩⟩
/-- a new thing is owned -/
theorem Step.new {h H h1 H1 H2 : Hp} {a : Addr} {o : HO} (s : Step h H h1 H1) (hn : H1 a = none) (e : Same H1 H2) (ho : H2 a = some o) : Step h H (upd h1 a o) H2 := s.trans ⟨fun b u q => by
    by_cases hb : b = a
    · rw [hb, upd_same] at q
      rw [hb, ho, q]
    · rw [upd_ne hb] at q
      exact e _ _ (s.1 _ _ q), fun b u q1 q2 => by
    have hb : b ≠ a := ne_of_none q2 hn
    exact ⟨e _ _ q2, by rw [upd_ne hb]; exact q1⟩⟩
/-- a thing that is new since the start is owned, too -/
theorem Step.add {h H h1 H1 : Hp} {p : Addr} {o : HO} (s : Step h H h1 H1) (hn : H p = none) (ho : H1 p = some o) : Step h H (upd h1 p o) H1 := ⟨fun b u q => by
    by_cases hb : b = p
    · rw [hb, upd_same] at q
      rw [hb, ho, q]
    · rw [upd_ne hb] at q
      exact s.1 _ _ q, fun b u q1 q2 => by
    obtain ⟨r1, r2⟩ := s.2 b u q1 q2
    have hb : b ≠ p := fun z => by rw [z, hn] at q2; cases q2
    exact ⟨r1, by rw [upd_ne hb]; exact r2⟩⟩
/-- what none of the owned things reaches stays -/
theorem Step.old {h H h' H' g : Hp} (s : Step h H h' H') (d : ∀ b, g b ≠ none → h b = none) (e : Same g H) : Same g H' ∧ ∀ b, g b ≠ none → h' b = none := ⟨fun b o q => (s.2 b o (d b (by rw [q]; exact fun z => nomatch z)) (e _ _ q)).1, fun b hb => by
  cases q : g b with
  | none => exact absurd q hb
  | some o => exact (s.2 b o (d b hb) (e _ _ q)).2⟩
end Sm
/-! SmDct: dicts by texts: len, sorted, dict(d), pop; iterators; locks. -/
namespace Sm
open PySem PySem.Spec PyProof.Rows L2
/-! ### sorted texts -/
def Srt (ks ys : List Str) : Prop := ys.Perm ks ∧ sortedS ys = true
theorem lt_irr (a : List Nat) : ¬ a < a := List.lt_irrefl a
theorem le_tr {a b c : List Nat} (h1 : ¬ b < a) (h2 : ¬ c < b) : ¬ c < a := by
  have q1 : a ≤ b := List.not_lt.mp h1
  have q2 : b ≤ c := List.not_lt.mp h2
  exact List.not_lt.mpr (List.le_trans q1 q2)
theorem le_anti {a b : List Nat} (h1 : ¬ b < a) (h2 : ¬ a < b) : a = b := List.le_antisymm (List.not_lt.mp h1) (List.not_lt.mp h2)
theorem rising_le : ∀ (l : List Str) (p : Str), risingS p l = true → ∀ y ∈ l, ¬ y.cps.toList < p.cps.toList
  | [], _, _, y, hy => nomatch hy
  | x :: r, p, h, y, hy => by
    have h' : (!ltCps x.cps.toList p.cps.toList && risingS x r) = true := h
    rw [ltCps_eq, Bool.and_eq_true] at h'
    have h1 : ¬ x.cps.toList < p.cps.toList := by simpa using h'.1
    rcases List.mem_cons.mp hy with rfl | hy
    · exact h1
    · exact le_tr h1 (rising_le r x h'.2 y hy)
theorem sorted_tail {x : Str} {r : List Str} (h : sortedS (x :: r) = true) : sortedS r = true := by
  cases r with
  | nil => rfl
  | cons y r =>
    have h' : (!ltCps y.cps.toList x.cps.toList && risingS y r) = true := h
    rw [Bool.and_eq_true] at h'
    exact h'.2
theorem str_eq {a b : Str} (h : a.cps.toList = b.cps.toList) : a = b := by
  cases a; cases b
  simp only [Str.mk.injEq]
  exact Array.toList_inj.mp h
theorem srt_one : ∀ (l m : List Str), l.Perm m → sortedS l = true → sortedS m = true → l = m
  | [], m, p, _, _ => (List.nil_perm.mp p).symm
  | x :: r, [], p, _, _ => absurd p.length_eq (by simp)
  | x :: r, y :: s, p, h1, h2 => by
    have hx : x ∈ y :: s := p.subset List.mem_cons_self
    have hy : y ∈ x :: r := p.symm.subset List.mem_cons_self
    have e : x = y := by
      rcases List.mem_cons.mp hx with e | hx
      · exact e
      · rcases List.mem_cons.mp hy with e | hy
        · exact e.symm
        · exact str_eq (le_anti (rising_le r x h1 y hy) (rising_le s y h2 x hx))
    subst e
    rw [srt_one r s (List.Perm.cons_inv p) (sorted_tail h1) (sorted_tail h2)]
theorem Srt.uniq {ks ys zs : List Str} (a : Srt ks ys) (b : Srt ks zs) : ys = zs := srt_one ys zs (a.1.trans b.1.symm) a.2 b.2
section
variable {X : Cx}
def rLenD : List V → Hp → VK → Prop := fun xs H Q => ∃ a kvs, xs = [V.ref a] ∧ Rd H a (.dK kvs) ∧ Q (.int kvs.length) H
theorem call_lenDk : CallR X (.builtin "len") rLenD := by
  intro pins s σ H xs us Q I r h
  obtain ⟨a, kvs, rfl, hd, q⟩ := h
  obtain rfl := Vals.ref1 r
  exact d_len I hd fun t s' I' => ⟨.int kvs.length, H, I', ⟨t, rfl⟩, q⟩
def rSortD : List V → Hp → VK → Prop := fun xs H Q => ∃ (a : Addr) (kvs : List (Key × V)) (ks : List Str), xs = [.ref a] ∧ Rd H a (.dK kvs) ∧ kvs.map (·.1) = ks.map Sum.inr ∧ ks.length < 64 ∧ ∀ ys p, ys.Perm ks → sortedS ys = true → H p = none → Q (.ref p) (upd H p (.lst (ys.map V.str)))
theorem call_sortDk (hcalm : X.calm = true) : CallR X (.builtin "sorted") rSortD := call_sortedD hcalm
def rDictD : List V → Hp → VK → Prop := fun xs H Q => ∃ (a : Addr) (kvs : List (Key × V)), xs = [.ref a] ∧ Rd H a (.dK kvs) ∧ ∀ p, H p = none → Q (.ref p) (upd H p (.dK kvs))
theorem call_dictDk : CallR X (.type "dict") rDictD := call_dictD
def rLeS : R2 := fun x y H Q => ∃ i j, x = .str i ∧ y = .str j ∧ Q (.bl (!decide (j.cps.toList < i.cps.toList))) H
theorem op_leS : OpR X (compareOp .LtE) rLeS := op_le_str
def rListO (K : PySem.W.Frag) : List V → Hp → VK → Prop := fun xs H Q => ∃ p ys, xs = [.ref p] ∧ (SqL K H p ys ∨ SqT K H p ys) ∧ ∀ l, H l = none → Q (.ref l) (upd H l (.lst ys))
theorem call_listO : CallR X (.type "list") (rListO X.K) := call_list_of
theorem g_lsT {K : PySem.W.Frag} {H : Hp} {Q : VK} {p : Addr} {ys : List V} (h : SqT K H p ys) (k : ∀ l H', H l = none → Same H H' → H' l = some (.lst ys) → Q (.ref l) H') : rListO K [.ref p] H Q := ⟨p, ys, rfl, .inr h, fun l hn => k l _ hn (Same.new hn) upd_same⟩
end
section
variable {K : PySem.W.Frag} {σ : L2.St} {H : Hp} {Q : VK} {a : Addr} {kvs : List (Key × V)} {v : V} {z : Str} {D : Ends}
theorem g_lenD (h : H a = some (.dK kvs)) (q : Q (.int kvs.length) H) : rLenD [.ref a] H Q := ⟨a, kvs, rfl, .inl h, q⟩
theorem g_sortD {ks : List Str} (h : H a = some (.dK kvs)) (hk : kvs.map (·.1) = ks.map Sum.inr) (hl : ks.length < 64) (q : ∀ ys p H', Srt ks ys → H p = none → Same H H' → H' p = some (.lst (ys.map V.str)) → Q (.ref p) H') : rSortD [.ref a] H Q :=
  ⟨a, kvs, ks, rfl, .inl h, hk, hl, fun ys p h1 h2 hn => q ys p _ ⟨h1, h2⟩ hn (Same.new hn) upd_same⟩
theorem g_dictD (h : H a = some (.dK kvs)) (q : ∀ p H', H p = none → Same H H' → H' p = some (.dK kvs) → Q (.ref p) H') : rDictD [.ref a] H Q := ⟨a, kvs, rfl, .inl h, fun p hn => q p _ hn (Same.new hn) upd_same⟩
theorem g_leS {i j : Str} (q : Q (.bl (!decide (j.cps.toList < i.cps.toList))) H) : rLeS (.str i) (.str j) H Q := ⟨i, j, rfl, rfl, q⟩
def PopTo (H : Hp) (a : Addr) (kvs : List (Key × V)) (k : Key) (v : V) (Q : VK) : Prop := Q v (upd H a (.dK (dropK kvs k)))
instance i_dpop {td ty : TE} : Stp (tDPop1 td ty σ H Q) (td σ H fun x H1 => ∃ a, x = .ref a ∧ IsD H1 a ∧ ty σ H1 fun y H2 => ∃ kvs k v, H2 a = some (.dK kvs) ∧ y = kV k ∧ valV kvs k = some v ∧ PopTo H2 a kvs k v Q) := ⟨id⟩
theorem g_pop0 {R : Addr → Prop} (h : H a = some (.dK kvs)) (r : R a) : ∃ a', V.ref a = .ref a' ∧ IsD H a' ∧ R a' := ⟨a, rfl, .inl ⟨kvs, .inl h⟩, r⟩
theorem g_popS (h : H a = some (.dK kvs)) (e : valV kvs (.inr z) = some v) (q : ∀ H', Same (dl H a) H' → H' a = some (.dK (dropK kvs (.inr z))) → Q v H') : ∃ kvs k v, H a = some (.dK kvs) ∧ V.str z = kV k ∧ valV kvs k = some v ∧ PopTo H a kvs k v Q := ⟨kvs, .inr z, v, h, rfl, e, q _ (dl_mut dl_sub) upd_same⟩
theorem g_dinK {k : Key} (h : H a = some (.dK kvs)) (q : Q (.bl (valV kvs k).isSome) H) : ∃ a' o, V.ref a = .ref a' ∧ DGet H a' (kV k) o ∧ Q (.bl o.isSome) H := ⟨a, _, rfl, DGet.k h, q⟩
theorem g_dniK {k : Key} (h : H a = some (.dK kvs)) (q : Q (.bl (!(valV kvs k).isSome)) H) : ∃ a' o, V.ref a = .ref a' ∧ DGet H a' (kV k) o ∧ Q (.bl (!o.isSome)) H := ⟨a, _, rfl, DGet.k h, q⟩
theorem g_dniS (h : H a = some (.dK kvs)) (q : Q (.bl (!(valV kvs (.inr z)).isSome)) H) : ∃ a' o, V.ref a = .ref a' ∧ DGet H a' (.str z) o ∧ Q (.bl (!o.isSome)) H := ⟨a, _, rfl, DGet.k (k := .inr z) h, q⟩
theorem g_dinR {R : Option V → Prop} {k : Key} (h : H a = some (.dK kvs)) (q : R (valV kvs k)) : ∃ a' o, V.ref a = .ref a' ∧ DGet H a' (kV k) o ∧ R o := ⟨a, _, rfl, DGet.k h, q⟩
theorem g_dinRS {R : Option V → Prop} (h : H a = some (.dK kvs)) (q : R (valV kvs (.inr z))) : ∃ a' o, V.ref a = .ref a' ∧ DGet H a' (.str z) o ∧ R o := ⟨a, _, rfl, DGet.k (k := .inr z) h, q⟩
theorem g_pl {xs : List V} {R : Prop} (h : xs.length ≤ sizeLine) (r : R) : xs.length ≤ sizeLine ∧ R := ⟨h, r⟩
theorem g_setLn {R : Hp → Prop} {xs : List V} {i : Int} {k : Nat} (h : H a = some (.lst xs)) (hi : ixN xs.length i = some k) (q : ∀ H', Same (dl H a) H' → H' a = some (.lst (xs.set k v)) → R H') : rSetL (.ref a) (.int i) v H R := ⟨a, xs, i, k, rfl, rfl, h, hi, q _ (dl_mut dl_sub) upd_same⟩
theorem g_dgetI {i : Int} (h : H a = some (.dK kvs)) (e : valV kvs (.inl i) = some v) (q : Q v H) : ∃ a' v', V.ref a = .ref a' ∧ DGet H a' (.int i) (some v') ∧ Q v' H := ⟨a, v, rfl, e ▸ DGet.k (k := .inl i) h, q⟩
theorem g_dgetF {od : Obj} (h : H a = some (.frz od (.dK kvs))) (e : valV kvs (.inr z) = some v) (q : Q v H) : ∃ a' v', V.ref a = .ref a' ∧ DGet H a' (.str z) (some v') ∧ Q v' H := ⟨a, v, rfl, .inl ⟨kvs, .inr z, .inr ⟨od, h⟩, rfl, e.symm⟩, q⟩
theorem g_dputI {R : Hp → Prop} {i : Int} (h : H a = some (.dK kvs)) (hl : kvs.length < sizeLine) (q : ∀ H', Same (dl H a) H' → H' a = some (.dK (putK kvs (.inl i) v)) → R H') : ∃ a' H4, V.ref a = .ref a' ∧ DPut H a' (.int i) v H4 ∧ R H4 := ⟨a, _, rfl, DPut.k (k := .inl i) h hl, q _ (dl_mut dl_sub) upd_same⟩
theorem g_iterT {p : Addr} {xs : List V} (h : SqT K H p xs) (q : ∀ it H', H it = none → Same H H' → TiAt K H' it xs 0 → Q (.ref it) H') : rIterT K [.ref p] H Q := ⟨p, xs, rfl, h, q⟩
theorem g_next2 {it : Addr} {xs : List V} {i : Nat} {d : V} (h : TiAt K H it xs i) (q : ∀ H', Same (dl H it) H' → TiAt K H' it xs (i + 1) → Q (xs.getD i d) H') : rNext2 K [.ref it, d] H Q := ⟨it, xs, i, d, rfl, h, q⟩
instance i_enumL {K : PySem.W.Frag} {ta : TA} {R : It → Hp → Prop} : Stp (iEnum K ta σ H R) (ta σ H fun vs H1 => ∃ a xs, vs = [.ref a] ∧ SqL K H1 a xs ∧ R (Ite K a) H1) := ⟨id⟩
theorem g_gLst {K : PySem.W.Frag} {n : Nat} {t : TGs} {p : Addr} {xs : List V} {R : L2.St → Hp → Prop} (h : H p = some (.lst xs)) (hl : xs.length = n) (q : t xs σ H R) : gLst K n t (.ref p) σ H R := ⟨p, xs, rfl, .inl (.inl h), hl, q⟩
instance i_dnewK : Stp (tDNewK σ H Q) (∀ p H2, H p = none → Same H H2 → H2 p = some (.dK []) → Q (.ref p) H2) := ⟨fun k p hn => k p _ hn (Same.new hn) upd_same⟩
theorem g_new4 {R : Addr → Hp → Prop} {o : HO} (k : ∀ p H2, H p = none → Same H H2 → H2 p = some o → R p H2) : ∀ p H2, H p = none → Same H H2 → H2 p = some o → R p H2 := k
instance i_addA {i j : Int} : Stp (rAdd (.int i) (.int j) H Q) (Q (.int (i + j)) H) := ⟨fun q => ⟨i, j, rfl, rfl, q⟩⟩
theorem g_js {z : Str} {R : Prop} (h : z.length ≤ sizeLine) (r : R) : z.length ≤ sizeLine ∧ R := ⟨h, r⟩
theorem g_slcA {R : Addr → V → Prop} {C dx : Addr} {i : Nat} {vs : List (Option V)} (h : IsS H a C dx vs) (e : vs[i]? = some (some v)) (q : R a v) : ∃ a' dx vs v, V.ref a = .ref a' ∧ SlX.Slt H a' C dx vs ∧ vs[i]? = some (some v) ∧ R a' v := ⟨a, dx, vs, v, rfl, h.slt, e, q⟩
/-- a dict locked while an expression runs -/
theorem g_lockE {t : TE} (h : H a = some (.dK kvs)) (q : ∀ od H', H' a = some (.frz od (.dK kvs)) → (∀ b, b ≠ a → H' b = H b) → t σ H' fun v H2 => H2 a = some (.frz od (.dK kvs)) ∧ ∀ H3, H3 a = some (.dK kvs) → (∀ b, b ≠ a → H3 b = H2 b) → Q v H3) : tLockE t σ H Q := by
  refine ⟨a, _, h, True.intro, fun od => ?_⟩
  have z := q od (upd H a (.frz od (.dK kvs))) upd_same fun b hb => upd_ne hb
  have e : (fun (v : V) (H2 : Hp) => H2 a = some (.frz od (.dK kvs)) ∧ ∀ H3, H3 a = some (.dK kvs) → (∀ b, b ≠ a → H3 b = H2 b) → Q v H3) = (fun v H2 => H2 a = some (.frz od (.dK kvs)) ∧ Q v (upd H2 a (.dK kvs))) := by
    funext v H2
    refine propext ⟨fun x => ⟨x.1, x.2 _ upd_same fun b hb => upd_ne hb⟩, fun x => ⟨x.1, fun H3 h1 h2 => ?_⟩⟩
    have : H3 = upd H2 a (.dK kvs) := by
      funext b
      by_cases hb : b = a
      · rw [hb, upd_same, h1]
      · rw [upd_ne hb, h2 b hb]
    rw [this]
    exact x.2
  rw [e] at z
  exact z
end
end Sm
set_option synthInstance.maxSize 100000
set_option synthInstance.maxHeartbeats 0
local macro_rules | `(tactic| wtm_at "sm") => `(tactic| first | exact L2.Same.refl _ | assumption | (refine L2.Same.trans ?_ (by assumption); wtm_at "sm") | (refine Sm.dl_both ?_; wtm_at "sm") | (refine Sm.dl_of ?_; wtm_at "sm"))
local macro_rules | `(tactic| wtm_at "at") => `(tactic| first | assumption | exact Sm.dpn | exact Sm.dpi _ | exact Sm.dps _ | exact Sm.dpb _ | exact Sm.tup_at (by assumption) (by wtm_at "sm") | exact Sm.lst_at (by assumption) (by wtm_at "sm") | exact Sm.seqT_at (by assumption) (by wtm_at "sm") | exact Sm.seqL_at (by assumption) (by wtm_at "sm") | exact Sm.dp_at (by assumption) (by wtm_at "sm") | exact Sm.dp_t2 (by assumption) (by wtm_at "sm"))
local macro_rules | `(tactic| wtm_at "ty") => `(tactic| first | exact Sm.ty_int | exact Sm.ty_bl | exact Sm.ty_str | exact Sm.ty_non | exact Sm.ty_tup (by wtm_at "at") | exact Sm.ty_lst (by wtm_at "at") | exact Sm.ty_dp (by wtm_at "at"))
local macro_rules | `(tactic| wtm_at "sd") => `(tactic| first | assumption | omega | decide | rfl | decide +kernel | (refine Sm.len_le ?_; first | omega | (simp only [Sm.len_app, Sm.len_emp]; omega) | exact Nat.le_of_ble_eq_true rfl) | (simp only [List.length_cons, List.length_nil]; omega))
local macro_rules | `(tactic| wtm_at "tt") => `(tactic| first | (with_reducible assumption) | (with_reducible rfl) | omega | decide | (simp only [List.length_cons, List.length_nil]; omega))
local macro_rules | `(tactic| wtm_at "st") => `(tactic| first
  | with_reducible refine Sm.Stq.h ?_
  | ((with_reducible apply Sm.g_ixT); (focus (wtm_at "at")); (focus (first | assumption | rfl)))
  | ((with_reducible apply Sm.g_ixL); (focus (wtm_at "at")); (focus (first | assumption | rfl)))
  | ((with_reducible apply Sm.g_ixS); (focus (wtm_at "sd")); (focus (assumption)))
  | ((with_reducible apply Sm.g_newTt); (focus (exact Nat.le_of_ble_eq_true rfl)); intro p H2 hn he hp)
  | ((with_reducible apply Sm.g_newLl); (focus (exact Nat.le_of_ble_eq_true rfl)); intro p H2 hn he hp)
  | ((with_reducible apply Sm.g_newT); (focus (exact Nat.le_of_ble_eq_true rfl)); intro p H2 hn he hp)
  | ((with_reducible apply Sm.g_newL); (focus (exact Nat.le_of_ble_eq_true rfl)); intro p H2 hn he hp)
  | ((with_reducible apply Sm.g_newA); intro p H2 hn he hp)
  | ((with_reducible apply Sm.g_mkSup))
  | ((with_reducible apply Sm.g_sup1); intro d H2 he hd)
  | ((with_reducible apply Sm.g_mod); (focus (wtm_at "sd")))
  | ((with_reducible apply Sm.g_mul); (focus (first | assumption | exact Sm.mulL (by omega) (by omega) | exact Sm.mulR (by omega) (by omega))))
  | ((with_reducible apply Sm.g_fdiv); (focus (wtm_at "sd")); (focus (first | assumption | solve_by_elim | exact Sm.pyS (by omega) (by omega))))
  | ((with_reducible apply Sm.g_addS); (focus (wtm_at "sd")))
  | ((with_reducible apply Sm.g_fmtI); (focus (wtm_at "sd")))
  | ((with_reducible apply Sm.g_fmtS); (focus (wtm_at "sd")))
  | ((with_reducible apply Sm.g_strI); (focus (wtm_at "sd")))
  | ((with_reducible apply Sm.g_len); (focus (wtm_at "sd")))
  | ((with_reducible apply Sm.g_gTup); (focus (wtm_at "at")); (focus (rfl)))
  | ((with_reducible apply Sm.g_lenS); (focus (wtm_at "sd")))
  | ((with_reducible apply Sm.g_lenT); (focus (wtm_at "at")))
  | ((with_reducible apply Sm.g_lenL); (focus (wtm_at "at")))
  | ((with_reducible apply Sm.g_slS); (focus (wtm_at "sd")))
  | ((with_reducible apply Sm.g_neD); (focus (wtm_at "at")); (focus (wtm_at "at")); (focus (first | assumption | rfl)); (focus (first | assumption | rfl)))
  | ((with_reducible apply Sm.g_eqD); (focus (wtm_at "at")); (focus (wtm_at "at")); (focus (first | assumption | rfl)); (focus (first | assumption | rfl)))
  | ((with_reducible apply Sm.g_inT); (focus (wtm_at "at")); (focus (rfl)); (focus (rfl)))
  | ((with_reducible apply Sm.g_inL); (focus (wtm_at "at")); (focus (rfl)); (focus (rfl)))
  | ((with_reducible apply Sm.g_listSk); (focus (wtm_at "sd")); intro p H2 hn he hp)
  | ((with_reducible apply Sm.g_split); (focus (decide)); (focus (wtm_at "sd")); intro p H2 hn he hp)
  | ((with_reducible apply Sm.g_powL); (focus (exact Sm.lit _)); (focus (decide +kernel)))
  | ((with_reducible apply Sm.g_setL0); (focus (assumption)); intro H' hs hp)
  | ((with_reducible apply Sm.g_setL1); (focus (assumption)); intro H' hs hp)
  | ((with_reducible apply Sm.g_setL2); (focus (assumption)); intro H' hs hp)
  | ((with_reducible apply Sm.g_intS); (focus (assumption)); (focus (wtm_at "sd")))
  | ((with_reducible apply Sm.g_tupleT); (focus (wtm_at "ty")); (focus (rfl)))
  | ((with_reducible apply Sm.g_tupleF); (focus (wtm_at "ty")); (focus (rfl)))
  | ((with_reducible apply Sm.g_intF); (focus (wtm_at "ty")); (focus (rfl)))
  | ((with_reducible apply Sm.g_boolF); (focus (wtm_at "ty")); (focus (rfl)))
  | ((with_reducible apply Sm.g_strF); (focus (wtm_at "ty")); (focus (rfl)))
  | ((with_reducible apply Sm.g_strT); (focus (wtm_at "ty")); (focus (rfl)))
  | ((with_reducible apply Sm.g_listT); (focus (wtm_at "ty")); (focus (rfl)))
  | ((with_reducible apply Sm.g_listF); (focus (wtm_at "ty")); (focus (rfl)))
  | ((with_reducible apply Sm.g_dictF); (focus (wtm_at "ty")); (focus (rfl)))
  | ((with_reducible apply Sm.g_yes); (focus (wtm_at "tt")))
  | ((with_reducible apply Sm.g_no); (focus (wtm_at "tt")))
  | ((with_reducible apply Sm.g_nyes); (focus (wtm_at "tt")))
  | ((with_reducible apply Sm.g_nno); (focus (wtm_at "tt")))
  | ((with_reducible apply Sm.g_nbyes); (focus (with_reducible assumption)))
  | ((with_reducible apply Sm.g_nbno); (focus (with_reducible assumption)))
  | ((with_reducible apply Sm.g_byes); (focus (with_reducible assumption)))
  | ((with_reducible apply Sm.g_bno); (focus (with_reducible assumption)))
  | ((with_reducible apply Sm.g_ite) <;> intro hc)
  | ((with_reducible apply Sm.g_niteD) <;> intro hc)
  | ((with_reducible apply Sm.g_niteB) <;> intro hc)
  | ((with_reducible apply Sm.g_iteB) <;> intro hc))
namespace K59
open PySem PySem.Spec PyProof.Rows L2
@[irreducible] def BI : Int := ((10 ^ 60 : Nat) : Int)
def topS (i : Nat) : Stmt := PySem.Challenge.pw_sumstead_k59_whole_disks_behind_losses_o.main.body.getD i (.Pass ⟨0, 0, 0, 0⟩)
abbrev FD (K : PySem.W.Frag) (x : Str) (st : Stmt) (f : Addr) (fd : FuncData) : Prop := FunD K x x (defArgs st) (defBody st) (defScope st) [] [] f fd
abbrev s_is_whole : Stmt := topS 13
abbrev N_is_whole : List Str := ["value"]
abbrev P_is_whole : List Str := ["value"]
theorem st_is_whole (a0 : V) : L2.start N_is_whole [a0] = [some a0] := rfl
theorem sc_is_whole : FnScope N_is_whole P_is_whole (defScope s_is_whole) := ⟨rfl, rfl, rfl, by decide +kernel, rfl, by decide +kernel, by decide +kernel⟩
abbrev s_is_integer : Stmt := topS 14
abbrev N_is_integer : List Str := ["value"]
abbrev P_is_integer : List Str := ["value"]
theorem st_is_integer (a0 : V) : L2.start N_is_integer [a0] = [some a0] := rfl
theorem sc_is_integer : FnScope N_is_integer P_is_integer (defScope s_is_integer) := ⟨rfl, rfl, rfl, by decide +kernel, rfl, by decide +kernel, by decide +kernel⟩
abbrev s_is_name : Stmt := topS 15
abbrev N_is_name : List Str := ["value", "sign"]
abbrev P_is_name : List Str := ["value"]
theorem st_is_name (a0 : V) : L2.start N_is_name [a0] = [some a0, none] := rfl
theorem sc_is_name : FnScope N_is_name P_is_name (defScope s_is_name) := ⟨rfl, rfl, rfl, by decide +kernel, rfl, by decide +kernel, by decide +kernel⟩
abbrev s_is_disk_text : Stmt := topS 23
abbrev N_is_disk_text : List Str := ["value", "sign"]
abbrev P_is_disk_text : List Str := ["value"]
theorem st_is_disk_text (a0 : V) : L2.start N_is_disk_text [a0] = [some a0, none] := rfl
theorem sc_is_disk_text : FnScope N_is_disk_text P_is_disk_text (defScope s_is_disk_text) := ⟨rfl, rfl, rfl, by decide +kernel, rfl, by decide +kernel, by decide +kernel⟩
abbrev s_require_power : Stmt := topS 24
abbrev N_require_power : List Str := ["power"]
abbrev P_require_power : List Str := ["power"]
theorem st_require_power (a0 : V) : L2.start N_require_power [a0] = [some a0] := rfl
theorem sc_require_power : FnScope N_require_power P_require_power (defScope s_require_power) := ⟨rfl, rfl, rfl, by decide +kernel, rfl, by decide +kernel, by decide +kernel⟩
abbrev s_are_choices : Stmt := topS 25
abbrev N_are_choices : List Str := ["value", "one"]
abbrev P_are_choices : List Str := ["value"]
theorem st_are_choices (a0 : V) : L2.start N_are_choices [a0] = [some a0, none] := rfl
theorem sc_are_choices : FnScope N_are_choices P_are_choices (defScope s_are_choices) := ⟨rfl, rfl, rfl, by decide +kernel, rfl, by decide +kernel, by decide +kernel⟩
abbrev s_DiskFile___init__ : Stmt := inClass (topS 26) 1
abbrev N_DiskFile___init__ : List Str := ["self", "text", "firm"]
abbrev P_DiskFile___init__ : List Str := ["self", "text", "firm"]
theorem st_DiskFile___init__ (a0 a1 a2 : V) : L2.start N_DiskFile___init__ [a0, a1, a2] = [some a0, some a1, some a2] := rfl
theorem sc_DiskFile___init__ : FnScope N_DiskFile___init__ P_DiskFile___init__ (defScope s_DiskFile___init__) := ⟨rfl, rfl, rfl, by decide +kernel, rfl, by decide +kernel, by decide +kernel⟩
abbrev s_names_behind : Stmt := topS 27
abbrev N_names_behind : List Str := ["names", "change", "word", "name", "more", "found"]
abbrev P_names_behind : List Str := ["names", "change"]
theorem st_names_behind (a0 a1 : V) : L2.start N_names_behind [a0, a1] = [some a0, some a1, none, none, none, none] := rfl
theorem sc_names_behind : FnScope N_names_behind P_names_behind (defScope s_names_behind) := ⟨rfl, rfl, rfl, by decide +kernel, rfl, by decide +kernel, by decide +kernel⟩
abbrev s_Disk___init__ : Stmt := inClass (topS 28) 1
abbrev N_Disk___init__ : List Str := ["self", "power"]
abbrev P_Disk___init__ : List Str := ["self", "power"]
theorem st_Disk___init__ (a0 a1 : V) : L2.start N_Disk___init__ [a0, a1] = [some a0, some a1] := rfl
theorem sc_Disk___init__ : FnScope N_Disk___init__ P_Disk___init__ (defScope s_Disk___init__) := ⟨rfl, rfl, rfl, by decide +kernel, rfl, by decide +kernel, by decide +kernel⟩
abbrev s_Disk_names : Stmt := inClass (topS 28) 2
abbrev N_Disk_names : List Str := ["self"]
abbrev P_Disk_names : List Str := ["self"]
theorem st_Disk_names (a0 : V) : L2.start N_Disk_names [a0] = [some a0] := rfl
theorem sc_Disk_names : FnScope N_Disk_names P_Disk_names (defScope s_Disk_names) := ⟨rfl, rfl, rfl, by decide +kernel, rfl, by decide +kernel, by decide +kernel⟩
abbrev s_Disk_steps : Stmt := inClass (topS 28) 3
abbrev N_Disk_steps : List Str := ["self"]
abbrev P_Disk_steps : List Str := ["self"]
theorem st_Disk_steps (a0 : V) : L2.start N_Disk_steps [a0] = [some a0] := rfl
theorem sc_Disk_steps : FnScope N_Disk_steps P_Disk_steps (defScope s_Disk_steps) := ⟨rfl, rfl, rfl, by decide +kernel, rfl, by decide +kernel, by decide +kernel⟩
abbrev s_Disk_require_file : Stmt := inClass (topS 28) 4
abbrev N_Disk_require_file : List Str := ["self", "name"]
abbrev P_Disk_require_file : List Str := ["self", "name"]
theorem st_Disk_require_file (a0 a1 : V) : L2.start N_Disk_require_file [a0, a1] = [some a0, some a1] := rfl
theorem sc_Disk_require_file : FnScope N_Disk_require_file P_Disk_require_file (defScope s_Disk_require_file) := ⟨rfl, rfl, rfl, by decide +kernel, rfl, by decide +kernel, by decide +kernel⟩
abbrev s_Disk_do_step : Stmt := inClass (topS 28) 5
abbrev N_Disk_do_step : List Str := ["self"]
abbrev P_Disk_do_step : List Str := ["self"]
theorem st_Disk_do_step (a0 : V) : L2.start N_Disk_do_step [a0] = [some a0] := rfl
theorem sc_Disk_do_step : FnScope N_Disk_do_step P_Disk_do_step (defScope s_Disk_do_step) := ⟨rfl, rfl, rfl, by decide +kernel, rfl, by decide +kernel, by decide +kernel⟩
abbrev s_Disk_change_names : Stmt := inClass (topS 28) 6
abbrev N_Disk_change_names : List Str := ["self", "change"]
abbrev P_Disk_change_names : List Str := ["self", "change"]
theorem st_Disk_change_names (a0 a1 : V) : L2.start N_Disk_change_names [a0, a1] = [some a0, some a1] := rfl
theorem sc_Disk_change_names : FnScope N_Disk_change_names P_Disk_change_names (defScope s_Disk_change_names) := ⟨rfl, rfl, rfl, by decide +kernel, rfl, by decide +kernel, by decide +kernel⟩
abbrev s_Disk_append : Stmt := inClass (topS 28) 7
abbrev N_Disk_append : List Str := ["self", "name", "text", "ahead"]
abbrev P_Disk_append : List Str := ["self", "name", "text"]
theorem st_Disk_append (a0 a1 a2 : V) : L2.start N_Disk_append [a0, a1, a2] = [some a0, some a1, some a2, none] := rfl
theorem sc_Disk_append : FnScope N_Disk_append P_Disk_append (defScope s_Disk_append) := ⟨rfl, rfl, rfl, by decide +kernel, rfl, by decide +kernel, by decide +kernel⟩
abbrev s_Disk_sync : Stmt := inClass (topS 28) 8
abbrev N_Disk_sync : List Str := ["self", "name"]
abbrev P_Disk_sync : List Str := ["self", "name"]
theorem st_Disk_sync (a0 a1 : V) : L2.start N_Disk_sync [a0, a1] = [some a0, some a1] := rfl
theorem sc_Disk_sync : FnScope N_Disk_sync P_Disk_sync (defScope s_Disk_sync) := ⟨rfl, rfl, rfl, by decide +kernel, rfl, by decide +kernel, by decide +kernel⟩
abbrev s_Disk_remove : Stmt := inClass (topS 28) 9
abbrev N_Disk_remove : List Str := ["self", "name"]
abbrev P_Disk_remove : List Str := ["self", "name"]
theorem st_Disk_remove (a0 a1 : V) : L2.start N_Disk_remove [a0, a1] = [some a0, some a1] := rfl
theorem sc_Disk_remove : FnScope N_Disk_remove P_Disk_remove (defScope s_Disk_remove) := ⟨rfl, rfl, rfl, by decide +kernel, rfl, by decide +kernel, by decide +kernel⟩
abbrev s_Disk_rename : Stmt := inClass (topS 28) 10
abbrev N_Disk_rename : List Str := ["self", "old", "new"]
abbrev P_Disk_rename : List Str := ["self", "old", "new"]
theorem st_Disk_rename (a0 a1 a2 : V) : L2.start N_Disk_rename [a0, a1, a2] = [some a0, some a1, some a2] := rfl
theorem sc_Disk_rename : FnScope N_Disk_rename P_Disk_rename (defScope s_Disk_rename) := ⟨rfl, rfl, rfl, by decide +kernel, rfl, by decide +kernel, by decide +kernel⟩
abbrev s_Disk_sync_names : Stmt := inClass (topS 28) 11
abbrev N_Disk_sync_names : List Str := ["self"]
abbrev P_Disk_sync_names : List Str := ["self"]
theorem st_Disk_sync_names (a0 : V) : L2.start N_Disk_sync_names [a0] = [some a0] := rfl
theorem sc_Disk_sync_names : FnScope N_Disk_sync_names P_Disk_sync_names (defScope s_Disk_sync_names) := ⟨rfl, rfl, rfl, by decide +kernel, rfl, by decide +kernel, by decide +kernel⟩
abbrev s_Disk_read : Stmt := inClass (topS 28) 12
abbrev N_Disk_read : List Str := ["self", "name"]
abbrev P_Disk_read : List Str := ["self", "name"]
theorem st_Disk_read (a0 a1 : V) : L2.start N_Disk_read [a0, a1] = [some a0, some a1] := rfl
theorem sc_Disk_read : FnScope N_Disk_read P_Disk_read (defScope s_Disk_read) := ⟨rfl, rfl, rfl, by decide +kernel, rfl, by decide +kernel, by decide +kernel⟩
abbrev s_Disk_lost : Stmt := inClass (topS 28) 13
abbrev N_Disk_lost : List Str := ["self", "choices", "power", "left", "names", "change", "found", "name", "text", "firm", "size"]
abbrev P_Disk_lost : List Str := ["self", "choices", "power"]
theorem st_Disk_lost (a0 a1 a2 : V) : L2.start N_Disk_lost [a0, a1, a2] = [some a0, some a1, some a2, none, none, none, none, none, none, none, none] := rfl
theorem sc_Disk_lost : FnScope N_Disk_lost P_Disk_lost (defScope s_Disk_lost) := ⟨rfl, rfl, rfl, by decide +kernel, rfl, by decide +kernel, by decide +kernel⟩
abbrev s_Disk___contains__ : Stmt := inClass (topS 28) 14
abbrev N_Disk___contains__ : List Str := ["self", "value"]
abbrev P_Disk___contains__ : List Str := ["self", "value"]
theorem st_Disk___contains__ (a0 a1 : V) : L2.start N_Disk___contains__ [a0, a1] = [some a0, some a1] := rfl
theorem sc_Disk___contains__ : FnScope N_Disk___contains__ P_Disk___contains__ (defScope s_Disk___contains__) := ⟨rfl, rfl, rfl, by decide +kernel, rfl, by decide +kernel, by decide +kernel⟩
abbrev s_Disk___len__ : Stmt := inClass (topS 28) 16
abbrev N_Disk___len__ : List Str := ["self"]
abbrev P_Disk___len__ : List Str := ["self"]
theorem st_Disk___len__ (a0 : V) : L2.start N_Disk___len__ [a0] = [some a0] := rfl
theorem sc_Disk___len__ : FnScope N_Disk___len__ P_Disk___len__ (defScope s_Disk___len__) := ⟨rfl, rfl, rfl, by decide +kernel, rfl, by decide +kernel, by decide +kernel⟩
abbrev s_Disk___str__ : Stmt := inClass (topS 28) 17
abbrev N_Disk___str__ : List Str := ["self"]
abbrev P_Disk___str__ : List Str := ["self"]
theorem st_Disk___str__ (a0 : V) : L2.start N_Disk___str__ [a0] = [some a0] := rfl
theorem sc_Disk___str__ : FnScope N_Disk___str__ P_Disk___str__ (defScope s_Disk___str__) := ⟨rfl, rfl, rfl, by decide +kernel, rfl, by decide +kernel, by decide +kernel⟩
abbrev s__law_dice : Stmt := topS 30
abbrev N__law_dice : List Str := ["_law_script", "_law_at", "_law_cell", "_law_great", "_law_left", "_law_mixed"]
abbrev P__law_dice : List Str := ["_law_script", "_law_at"]
theorem st__law_dice (a0 a1 : V) : L2.start N__law_dice [a0, a1] = [some a0, some a1, none, none, none, none] := rfl
theorem sc__law_dice : FnScope N__law_dice P__law_dice (defScope s__law_dice) := ⟨rfl, rfl, rfl, by decide +kernel, rfl, by decide +kernel, by decide +kernel⟩
abbrev s__law_roll : Stmt := topS 31
abbrev N__law_roll : List Str := ["_law_dice_here", "_law_total", "_law_size", "_law_drawn", "_law_one", "_law_two"]
abbrev P__law_roll : List Str := ["_law_dice_here", "_law_total"]
theorem st__law_roll (a0 a1 : V) : L2.start N__law_roll [a0, a1] = [some a0, some a1, none, none, none, none] := rfl
theorem sc__law_roll : FnScope N__law_roll P__law_roll (defScope s__law_roll) := ⟨rfl, rfl, rfl, by decide +kernel, rfl, by decide +kernel, by decide +kernel⟩
abbrev s__law_one_of : Stmt := topS 32
abbrev N__law_one_of : List Str := ["_law_dice_here", "_law_items"]
abbrev P__law_one_of : List Str := ["_law_dice_here", "_law_items"]
theorem st__law_one_of (a0 a1 : V) : L2.start N__law_one_of [a0, a1] = [some a0, some a1] := rfl
theorem sc__law_one_of : FnScope N__law_one_of P__law_one_of (defScope s__law_one_of) := ⟨rfl, rfl, rfl, by decide +kernel, rfl, by decide +kernel, by decide +kernel⟩
abbrev s__law_word_of : Stmt := topS 33
abbrev N__law_word_of : List Str := ["_law_call", "e"]
abbrev P__law_word_of : List Str := ["_law_call"]
theorem st__law_word_of (a0 : V) : L2.start N__law_word_of [a0] = [some a0, none] := rfl
theorem sc__law_word_of : FnScope N__law_word_of P__law_word_of (defScope s__law_word_of) := ⟨rfl, rfl, rfl, by decide +kernel, rfl, by decide +kernel, by decide +kernel⟩
abbrev s__law_new : Stmt := topS 34
abbrev N__law_new : List Str := ["_law_power"]
abbrev P__law_new : List Str := ["_law_power"]
theorem st__law_new (a0 : V) : L2.start N__law_new [a0] = [some a0] := rfl
theorem sc__law_new : FnScope N__law_new P__law_new (defScope s__law_new) := ⟨rfl, rfl, rfl, by decide +kernel, rfl, by decide +kernel, by decide +kernel⟩
abbrev s__law_names : Stmt := topS 35
abbrev N__law_names : List Str := ["_law_own", "_law_many", "_law_found", "_law_word", "_law_old", "_law_new_here"]
abbrev P__law_names : List Str := ["_law_own", "_law_many"]
theorem st__law_names (a0 a1 : V) : L2.start N__law_names [a0, a1] = [some a0, some a1, none, none, none, none] := rfl
theorem sc__law_names : FnScope N__law_names P__law_names (defScope s__law_names) := ⟨rfl, rfl, rfl, by decide +kernel, rfl, by decide +kernel, by decide +kernel⟩
abbrev s__law_step : Stmt := topS 36
abbrev N__law_step : List Str := ["_law_own", "_law_deed", "_law_word", "_law_name", "_law_more", "_law_names_here", "_law_file"]
abbrev P__law_step : List Str := ["_law_own", "_law_deed"]
theorem st__law_step (a0 a1 : V) : L2.start N__law_step [a0, a1] = [some a0, some a1, none, none, none, none, none] := rfl
theorem sc__law_step : FnScope N__law_step P__law_step (defScope s__law_step) := ⟨rfl, rfl, rfl, by decide +kernel, rfl, by decide +kernel, by decide +kernel⟩
abbrev s__law_is_name : Stmt := topS 37
abbrev N__law_is_name : List Str := ["_law_value", "_law_sign"]
abbrev P__law_is_name : List Str := ["_law_value"]
theorem st__law_is_name (a0 : V) : L2.start N__law_is_name [a0] = [some a0, none] := rfl
theorem sc__law_is_name : FnScope N__law_is_name P__law_is_name (defScope s__law_is_name) := ⟨rfl, rfl, rfl, by decide +kernel, rfl, by decide +kernel, by decide +kernel⟩
abbrev s__law_lost : Stmt := topS 38
abbrev N__law_lost : List Str := ["_law_own", "_law_choices", "_law_power", "_law_left", "_law_names_here", "_law_found", "_law_at", "_law_name", "_law_text", "_law_firm"]
abbrev P__law_lost : List Str := ["_law_own", "_law_choices", "_law_power"]
theorem st__law_lost (a0 a1 a2 : V) : L2.start N__law_lost [a0, a1, a2] = [some a0, some a1, some a2, none, none, none, none, none, none, none] := rfl
theorem sc__law_lost : FnScope N__law_lost P__law_lost (defScope s__law_lost) := ⟨rfl, rfl, rfl, by decide +kernel, rfl, by decide +kernel, by decide +kernel⟩
abbrev s__law_done : Stmt := topS 39
abbrev N__law_done : List Str := ["_law_disk", "_law_deed", "_law_word", "_law_name", "_law_more"]
abbrev P__law_done : List Str := ["_law_disk", "_law_deed"]
theorem st__law_done (a0 a1 : V) : L2.start N__law_done [a0, a1] = [some a0, some a1, none, none, none] := rfl
theorem sc__law_done : FnScope N__law_done P__law_done (defScope s__law_done) := ⟨rfl, rfl, rfl, by decide +kernel, rfl, by decide +kernel, by decide +kernel⟩
abbrev s__law_is_like : Stmt := topS 40
abbrev N__law_is_like : List Str := ["_law_disk", "_law_own", "_law_names_here", "_law_name"]
abbrev P__law_is_like : List Str := ["_law_disk", "_law_own"]
theorem st__law_is_like (a0 a1 : V) : L2.start N__law_is_like [a0, a1] = [some a0, some a1, none, none] := rfl
theorem sc__law_is_like : FnScope N__law_is_like P__law_is_like (defScope s__law_is_like) := ⟨rfl, rfl, rfl, by decide +kernel, rfl, by decide +kernel, by decide +kernel⟩
abbrev s__law_disks_right : Stmt := topS 41
abbrev N__law_disks_right : List Str := ["_law_dice_here", "_law_power", "_law_disk", "_law_own", "_law_words", "_law_turn", "_law_word", "_law_name", "_law_choices", "_law_more", "_law_other", "_law_told", "_law_due", "_law_wrong", "_law_at"]
abbrev P__law_disks_right : List Str := ["_law_dice_here"]
theorem st__law_disks_right (a0 : V) : L2.start N__law_disks_right [a0] = [some a0, none, none, none, none, none, none, none, none, none, none, none, none, none, none] := rfl
theorem sc__law_disks_right : FnScope N__law_disks_right P__law_disks_right (defScope s__law_disks_right) := ⟨rfl, rfl, rfl, by decide +kernel, rfl, by decide +kernel, by decide +kernel⟩
abbrev s_law : Stmt := topS 42
abbrev N_law : List Str := ["_law_script", "_law_at"]
abbrev P_law : List Str := ["_law_script"]
theorem st_law (a0 : V) : L2.start N_law [a0] = [some a0, none] := rfl
theorem sc_law : FnScope N_law P_law (defScope s_law) := ⟨rfl, rfl, rfl, by decide +kernel, rfl, by decide +kernel, by decide +kernel⟩
structure Txt (P : Program) (K : PySem.W.Frag) (mg : Str → Option Value) : Prop where
  f_abs : mg "abs" = none
  f_all : mg "all" = none
  f_bool : mg "bool" = none
  f_dict : mg "dict" = none
  f_enumerate : mg "enumerate" = none
  f_int : mg "int" = none
  f_isinstance : mg "isinstance" = none
  f_iter : mg "iter" = none
  f_len : mg "len" = none
  f_list : mg "list" = none
  f_max : mg "max" = none
  f_min : mg "min" = none
  f_next : mg "next" = none
  f_range : mg "range" = none
  f_sorted : mg "sorted" = none
  f_str : mg "str" = none
  f_tuple : mg "tuple" = none
  c_BEYOND_INTEGERS : ∃ t, mg "BEYOND_INTEGERS" = some (.int BI t)
  c_DIGITS : ∃ t, mg "DIGITS" = some (.str "0123456789" t)
  c_LETTERS : ∃ t, mg "LETTERS" = some (.str "abcdefghijklmnopqrstuvwxyz" t)
  c_MADE : ∃ t, mg "MADE" = some (.str "made" t)
  c_MAX_FILES : ∃ t, mg "MAX_FILES" = some (.int 8 t)
  c_MAX_POWER : ∃ t, mg "MAX_POWER" = some (.int 1000000 t)
  c_MAX_TEXT : ∃ t, mg "MAX_TEXT" = some (.int 200000 t)
  c_MOST_NAME : ∃ t, mg "MOST_NAME" = some (.int 8 t)
  c_REMOVED : ∃ t, mg "REMOVED" = some (.str "removed" t)
  c_RENAMED : ∃ t, mg "RENAMED" = some (.str "renamed" t)
  x_InvalidName : Sm.XPl K mg "InvalidName" (He.ga K "InvalidName") "ValueError" "ValueError.__new__" "ValueError.__init__" [.type "ValueError", .type "Exception", .type "BaseException", .type "object"]
  x_InvalidNumber : Sm.XS P K mg "InvalidNumber" "given" (He.ga K "InvalidNumber") "IndexError" "IndexError.__new__" "IndexError.__init__" [.type "IndexError", .type "LookupError", .type "Exception", .type "BaseException", .type "object"]
  x_InvalidOperation : Sm.XPl K mg "InvalidOperation" (He.ga K "InvalidOperation") "ValueError" "ValueError.__new__" "ValueError.__init__" [.type "ValueError", .type "Exception", .type "BaseException", .type "object"]
  x_PowerLost : Sm.XS P K mg "PowerLost" "taken" (He.ga K "PowerLost") "RuntimeError" "RuntimeError.__new__" "RuntimeError.__init__" [.type "RuntimeError", .type "Exception", .type "BaseException", .type "object"]
  x_TooMany : Sm.XS P K mg "TooMany" "limit" (He.ga K "TooMany") "OverflowError" "OverflowError.__new__" "OverflowError.__init__" [.type "OverflowError", .type "ArithmeticError", .type "Exception", .type "BaseException", .type "object"]
  x_UnknownName : Sm.XS P K mg "UnknownName" "asked" (He.ga K "UnknownName") "KeyError" "LookupError.__new__" "KeyError.__init__" [.type "KeyError", .type "LookupError", .type "Exception", .type "BaseException", .type "object"]
  l_Disk : Sm.ClS K (He.ga K "Disk") ["own_changes", "own_firm_names", "own_names", "own_power", "own_steps"]
  l_DiskFile : Sm.ClS K (He.ga K "DiskFile") ["own_firm", "own_text"]
  m_NN : PySem.W.exmOne K (.ref (He.ga K "InvalidName")) (.ref (He.ga K "InvalidName")) = some true
  m_IN : PySem.W.exmOne K (.ref (He.ga K "InvalidNumber")) (.ref (He.ga K "InvalidName")) = some false
  m_II : PySem.W.exmOne K (.ref (He.ga K "InvalidNumber")) (.ref (He.ga K "InvalidNumber")) = some true
  m_ON : PySem.W.exmOne K (.ref (He.ga K "InvalidOperation")) (.ref (He.ga K "InvalidName")) = some false
  m_OI : PySem.W.exmOne K (.ref (He.ga K "InvalidOperation")) (.ref (He.ga K "InvalidNumber")) = some false
  m_OO : PySem.W.exmOne K (.ref (He.ga K "InvalidOperation")) (.ref (He.ga K "InvalidOperation")) = some true
  m_UN : PySem.W.exmOne K (.ref (He.ga K "UnknownName")) (.ref (He.ga K "InvalidName")) = some false
  m_UI : PySem.W.exmOne K (.ref (He.ga K "UnknownName")) (.ref (He.ga K "InvalidNumber")) = some false
  m_UO : PySem.W.exmOne K (.ref (He.ga K "UnknownName")) (.ref (He.ga K "InvalidOperation")) = some false
  m_UU : PySem.W.exmOne K (.ref (He.ga K "UnknownName")) (.ref (He.ga K "UnknownName")) = some true
  m_MN : PySem.W.exmOne K (.ref (He.ga K "TooMany")) (.ref (He.ga K "InvalidName")) = some false
  m_MI : PySem.W.exmOne K (.ref (He.ga K "TooMany")) (.ref (He.ga K "InvalidNumber")) = some false
  m_MO : PySem.W.exmOne K (.ref (He.ga K "TooMany")) (.ref (He.ga K "InvalidOperation")) = some false
  m_MU : PySem.W.exmOne K (.ref (He.ga K "TooMany")) (.ref (He.ga K "UnknownName")) = some false
  m_MM : PySem.W.exmOne K (.ref (He.ga K "TooMany")) (.ref (He.ga K "TooMany")) = some true
  m_LN : PySem.W.exmOne K (.ref (He.ga K "PowerLost")) (.ref (He.ga K "InvalidName")) = some false
  m_LI : PySem.W.exmOne K (.ref (He.ga K "PowerLost")) (.ref (He.ga K "InvalidNumber")) = some false
  m_LO : PySem.W.exmOne K (.ref (He.ga K "PowerLost")) (.ref (He.ga K "InvalidOperation")) = some false
  m_LU : PySem.W.exmOne K (.ref (He.ga K "PowerLost")) (.ref (He.ga K "UnknownName")) = some false
  m_LM : PySem.W.exmOne K (.ref (He.ga K "PowerLost")) (.ref (He.ga K "TooMany")) = some false
  m_LL : PySem.W.exmOne K (.ref (He.ga K "PowerLost")) (.ref (He.ga K "PowerLost")) = some true
  d_lost : ∀ H, SqT K H (He.dflAt ("Disk", some "lost") 0 K) []
def TT (K : PySem.W.Frag) : List (Addr × Str) := [((He.cT K ("_law_done", none)).2, (envOfC "_law_done" (defScope s__law_done) 0 0 .none).qual ++ "<lambda>"), ((He.cT K ("_law_disks_right", none)).2, (envOfC "_law_disks_right" (defScope s__law_disks_right) 0 0 .none).qual ++ "<lambda>")]
theorem TTm__law_done (K : PySem.W.Frag) : ((He.cT K ("_law_done", none)).2, (envOfC "_law_done" (defScope s__law_done) 0 0 .none).qual ++ "<lambda>") ∈ TT K := List.mem_cons_self
theorem TTm__law_disks_right (K : PySem.W.Frag) : ((He.cT K ("_law_disks_right", none)).2, (envOfC "_law_disks_right" (defScope s__law_disks_right) 0 0 .none).qual ++ "<lambda>") ∈ TT K := List.mem_cons_of_mem _ (List.mem_cons_self)
end K59
/-! SmHead: a Hook that tells own exceptions, too. -/
namespace Sm
open PySem PySem.Spec PyProof.Rows L2
open PySem.W
def asS (g : Addr → Option Obj) : Nat → List Addr
  | 0 => [mainGlobals, cStatics]
  | n + 1 => He.growD g (asS g n)
/-- an own exception whose __init__ says super().__init__(f); self.f = f -/
structure ExD where
  x : Str
  f : Str
  qual : Str
  p1 : Pos
  p2 : Pos
  a1 : Pos
  a2 : Pos
  a3 : Pos
  a4 : Pos
  a5 : Pos
  a6 : Pos
  b1 : Pos
  b2 : Pos
  b3 : Pos
  b4 : Pos
  B : String
  newId : String
  initId : String
  bmB : List Value
/-- an own exception without an __init__ -/
structure PlD where
  x : Str
  B : String
  newId : String
  initId : String
  bmB : List Value
abbrev IniW : Type := Option (Str × Str × Arguments × FuncBody × Scope × Addr × List Str × Addr × Value)
def iniW (K : Frag) (x : Str) : IniW := match K.lookup (He.ma K (He.ga K x) "__init__") with
  | some ⟨_, _, .func fd, _⟩ => some (fd.name, fd.qualname, fd.params, fd.body, fd.scope, fd.globals, fd.closure.map (·.1), fd.builtins, fd.defaults)
  | _ => none
def ExD.val (d : ExD) : IniW := some ("__init__", d.qual, iArgs d.f d.p1 d.p2, .stmts (iBody d.f d.a1 d.a2 d.a3 d.a4 d.a5 d.a6 d.b1 d.b2 d.b3 d.b4), iScope d.f, mainGlobals, ["__class__"], builtinsNs, .none)
def baseB (K : Frag) (x : Str) : Bool := He.eqO (nsIn K mainGlobals x) (some (some (.ref (He.ga K x)))) && (keepIn K (.ref (He.ga K x)) && (decide (subIn K (.ref (He.ga K x)) (.type "BaseException") = some true) && decide (typeIn K (.ref (He.ga K x)) = some (.type "type"))))
def cellB (K : Frag) (file q : Str) (C fI : Addr) : Bool := match K.lookup fI with
  | some ⟨_, _, .func fd, _⟩ => (match fd.code with
    | .ref cda => (match fd.closure with
      | [(_, cc)] => codeIn K (.ref cda) q && ((match K.lookup cda with
          | some ⟨_, _, .fields vs, _⟩ => (match (vs[2]? : Option Value) with
            | some (.str fl _) => (file == fl)
            | _ => false)
          | _ => false) && (match K.lookup cc with
          | some ⟨_, _, .cell (some (.ref a)), _⟩ => decide (a = C)
          | _ => false))
      | _ => false)
    | _ => false)
  | _ => false
def ExD.ok (file : Str) (K : Frag) (d : ExD) : Bool :=
  baseB K d.x && (excInitIn K (He.ga K d.x) d.bmB d.newId && (excOver K (He.ga K d.x) d.bmB && (decide (subIn K (.ref (He.ga K d.x)) (.type d.B) = some true) && (He.eqO (findIn K (.ref (He.ga K d.x)) "__setattr__") (some (some (.builtin "object.__setattr__"))) &&
  (He.eqO (findIn K (.ref (He.ga K d.x)) "__getattribute__") (some (some (.builtin "BaseException.__getattribute__"))) && (He.eqO (findIn K (.ref (He.ga K d.x)) "__getattr__") (some none) && (He.eqO (findIn K (.ref (He.ga K d.x)) d.f) (some none) &&
  (He.eqO (findIn K (.ref (He.ga K d.x)) "__init__") (some (some (.ref (He.ma K (He.ga K d.x) "__init__")))) && (decide (typeIn K (.ref (He.ma K (He.ga K d.x) "__init__")) = some (.type "function")) && (hasDictIn K (He.ga K d.x) && (He.eqO (nsIn K cStatics "thirdparty.any") (some none) &&
  (He.eqO (ks_superIn K (He.ga K d.x) (He.ga K d.x) "__init__") (some (some (.builtin d.initId))) && (decide (mroIn K (He.ga K d.x) (.ref (He.ga K d.x)) = some true) && (He.eqO (nsIn K mainGlobals "super") (some none) && cellB K file d.qual (He.ga K d.x) (He.ma K (He.ga K d.x) "__init__")))))))))))))))
def PlD.ok (K : Frag) (d : PlD) : Bool := baseB K d.x && excIn K (He.ga K d.x) d.bmB d.newId
section
variable {K : Frag} {h : Heap} {mg : Str → Option Value}
theorem base_ok (X : K.In h) (G : h.Ns mainGlobals mg) {x : Str} {B newId initId : String} {bmB : List Value} (c : baseB K x = true) : XBase K mg x (He.ga K x) B newId initId bmB := by
  obtain ⟨c1, c⟩ := He.ba c
  obtain ⟨c2, c⟩ := He.ba c
  obtain ⟨c3, c4⟩ := He.ba c
  exact ⟨PySem.W.mg_of X G (He.eqO_ok c1), c2, of_decide_eq_true c3, of_decide_eq_true c4⟩
theorem pl_ok (X : K.In h) (G : h.Ns mainGlobals mg) {d : PlD} (F : ExcBaseFacts d.B d.newId d.initId d.bmB) (c : d.ok K = true) : XPl K mg d.x (He.ga K d.x) d.B d.newId d.initId d.bmB := by
  obtain ⟨c1, c2⟩ := He.ba c
  exact ⟨base_ok X G c1, F, c2⟩
theorem xs_ok {P : Program} (X : K.In h) (G : h.Ns mainGlobals mg) {d : ExD} (F : XF d.B d.newId d.initId d.bmB) (Kx : KxsFacts d.B d.initId) (S : StoreFacts d.B d.bmB "object.__setattr__" "object")
    (hl : (d.a3.endLine == d.a5.line) = true) (hb : ∀ (kV doc pm : Value) (an : Option Addr) (cdv ct : Value) (cc : Addr) (x : Addr) (v : Value), bindArgs (ksFn "__init__" d.qual (iArgs d.f d.p1 d.p2) (iBody d.f d.a1 d.a2 d.a3 d.a4 d.a5 d.a6 d.b1 d.b2 d.b3 d.b4) (iScope d.f) .none kV doc pm an cdv ct cc) ⟨[.ref x, v], []⟩ = pure [(("self" : Str), Value.ref x), (d.f, v)])
    (ht : (P.main.scope.names.lookup ("super" : Str)).isSome = false) (hf : (d.f == ("self" : Str)) = false ∧ (d.f == ("__debug__" : Str)) = false ∧ (d.f == ("super" : Str)) = false ∧ (d.f == ("__class__" : Str)) = false)
    (e : iniW K d.x = d.val) (c : d.ok P.main.file K = true) : XS P K mg d.x d.f (He.ga K d.x) d.B d.newId d.initId d.bmB := by
  unfold ExD.ok at c
  obtain ⟨c1, c⟩ := He.ba c
  obtain ⟨c2, c⟩ := He.ba c
  obtain ⟨c3, c⟩ := He.ba c
  obtain ⟨c4, c⟩ := He.ba c
  obtain ⟨c5, c⟩ := He.ba c
  obtain ⟨c6, c⟩ := He.ba c
  obtain ⟨c7, c⟩ := He.ba c
  obtain ⟨c8, c⟩ := He.ba c
  obtain ⟨c9, c⟩ := He.ba c
  obtain ⟨c10, c⟩ := He.ba c
  obtain ⟨c11, c⟩ := He.ba c
  obtain ⟨c12, c⟩ := He.ba c
  obtain ⟨c13, c⟩ := He.ba c
  obtain ⟨c14, c⟩ := He.ba c
  obtain ⟨c15, c⟩ := He.ba c
  unfold cellB at c
  unfold iniW at e
  cases q : K.lookup (He.ma K (He.ga K d.x) "__init__") with
  | none =>
    rw [q] at c
    cases c
  | some o =>
    obtain ⟨oc, od, dt, osl⟩ := o
    rw [q] at c e
    cases dt with
    | func fd =>
      obtain ⟨n1, n2, n3, n4, n5, n6, n7, n8, n9, n10, n11, n12, n13, n14, n15⟩ := fd
      have e2 : (some (n1, n2, n3, n4, n5, n6, n7.map (·.1), n15, n8) : IniW) = d.val := e
      unfold ExD.val at e2
      simp only [Option.some.injEq, Prod.mk.injEq] at e2
      obtain ⟨h1, h2, h3, h4, h5, h6, h7, h8, h9⟩ := e2
      subst h1 h2 h3 h4 h5 h6 h8 h9
      cases n13 with
      | ref cda =>
        cases n7 with
        | nil => exact absurd (congrArg List.length h7) (by simp)
        | cons u r =>
          cases r with
          | cons u2 r2 => exact absurd (congrArg List.length h7) (by simp)
          | nil =>
            obtain ⟨u, cc⟩ := u
            have hu : u = ("__class__" : Str) := by
              have e9 : [u] = [("__class__" : Str)] := h7
              injection e9
            subst hu
            have c' : (codeIn K (.ref cda) d.qual && ((match K.lookup cda with
              | some ⟨_, _, .fields vs, _⟩ => (match (vs[2]? : Option Value) with
                | some (.str fl _) => (P.main.file == fl)
                | _ => false)
              | _ => false) && (match K.lookup cc with
              | some ⟨_, _, .cell (some (.ref a)), _⟩ => decide (a = He.ga K d.x)
              | _ => false))) = true := c
            obtain ⟨k1, k⟩ := He.ba c'
            obtain ⟨k2, k3⟩ := He.ba k
            refine ⟨He.ma K (He.ga K d.x) "__init__", cda, cc, { toXBase := base_ok X G c1, facts := F, init := c2, over := c3, kxs := Kx, store := S, subB := of_decide_eq_true c4, sa := He.eqO_ok c5, ga := He.eqO_ok c6, gg := He.eqO_ok c7, noN := He.eqO_ok c8, iC := He.eqO_ok c9, tI := of_decide_eq_true c10, hdC := c11, op := He.eqO_ok c12, sup := He.eqO_ok c13, subC := of_decide_eq_true c14, nsuper := He.eqO_ok c15, fn := ?_, code := ?_, cell := ?_, top := ht, fne := hf }⟩
            · exact ⟨oc, od, _, n9, n10, n11, n12, n14, osl, d.p1, d.p2, d.a1, d.a2, d.a3, d.a4, d.a5, d.a6, d.b1, d.b2, d.b3, d.b4, d.qual, q, k1, hl, fun x v => hb n9 n10 n11 n12 _ n14 cc x v⟩
            · cases q2 : K.lookup cda with
              | none =>
                rw [q2] at k2
                cases k2
              | some o =>
                obtain ⟨ccl, cdd, dt, ccs⟩ := o
                rw [q2] at k2
                cases dt with
                | fields vs =>
                  have k2' : (match (vs[2]? : Option Value) with
                    | some (.str fl _) => (P.main.file == fl)
                    | _ => false) = true := k2
                  cases q3 : vs[2]? with
                  | none =>
                    rw [q3] at k2'
                    cases k2'
                  | some w =>
                    rw [q3] at k2'
                    cases w with
                    | str fl t => exact ⟨ccl, cdd, vs, ccs, fl, t, rfl, q3, k2'⟩
                    | _ => cases k2'
                | _ => cases k2
            · cases q2 : K.lookup cc with
              | none =>
                rw [q2] at k3
                cases k3
              | some o =>
                obtain ⟨ccl, cdd, dt, ccs⟩ := o
                rw [q2] at k3
                cases dt with
                | cell v =>
                  cases v with
                  | none => cases k3
                  | some v =>
                    cases v with
                    | ref a =>
                      have : a = He.ga K d.x := of_decide_eq_true k3
                      subst this
                      exact ⟨ccl, cdd, ccs, rfl⟩
                    | _ => cases k3
                | _ => cases k3
      | _ => cases c
    | _ => cases c
end
/-! ### the Hook -/
abbrev AlS : Type := He.AlD × (Bool × List IniW)
def obsS (n : Nat) (fa : List He.Fa) (fn : List He.DefD) (xs : List ExD) (ps : List PlD) (file : Str) (g : Addr → Option Obj) : AlS :=
  (He.obsD fa fn (He.frG g (asS g n)), (xs.all (fun d => d.ok file (He.frG g (asS g n))) && ps.all (fun d => d.ok (He.frG g (asS g n))), xs.map fun d => iniW (He.frG g (asS g n)) d.x))
def valS (fn : List He.DefD) (xs : List ExD) : AlS := (He.valD fn, (true, xs.map ExD.val))
structure SaysS (fa : List He.Fa) (fn : List He.DefD) (xs : List ExD) (ps : List PlD) (file : Str) (K : Frag) : Prop where
  d : He.SaysD fa fn K
  x : ∀ e ∈ xs, e.ok file K = true ∧ iniW K e.x = e.val
  p : ∀ e ∈ ps, e.ok K = true
theorem map_all {α β : Type} {f g : α → β} : ∀ {l : List α}, l.map f = l.map g → ∀ a ∈ l, f a = g a
  | [], _, a, h => nomatch h
  | b :: r, e, a, h => by
    rw [List.map_cons, List.map_cons] at e
    injection e with e1 e2
    rcases List.mem_cons.mp h with rfl | h
    · exact e1
    · exact map_all e2 a h
theorem says_of {n : Nat} {fa : List He.Fa} {fn : List He.DefD} {xs : List ExD} {ps : List PlD} {file : Str} {g : Addr → Option Obj} (e : obsS n fa fn xs ps file g = valS fn xs) : SaysS fa fn xs ps file (He.frG g (asS g n)) := by
  have e1 : He.obsD fa fn (He.frG g (asS g n)) = He.valD fn := congrArg (fun z : AlS => z.1) e
  have e2 : (xs.all (fun d => d.ok file (He.frG g (asS g n))) && ps.all (fun d => d.ok (He.frG g (asS g n)))) = true := congrArg (fun z : AlS => z.2.1) e
  have e3 : (xs.map fun d => iniW (He.frG g (asS g n)) d.x) = xs.map ExD.val := congrArg (fun z : AlS => z.2.2) e
  obtain ⟨k1, k2⟩ := He.ba e2
  exact ⟨e1, fun d hd => ⟨List.all_eq_true.mp k1 d hd, map_all e3 d hd⟩, fun d hd => List.all_eq_true.mp k2 d hd⟩
def hookS (n : Nat) (fa : List He.Fa) (fn : List He.DefD) (xs : List ExD) (ps : List PlD) (file : Str) : PySem.W.Hook where
  α := AlS
  obs := fun s => obsS n fa fn xs ps file s.heap.get?
  val := fun _ => valS fn xs
  says := fun _ h => ∃ K : PySem.W.Frag, K.In h ∧ SaysS fa fn xs ps file K
  of := fun _ _ e => ⟨_, He.frG_in, says_of e⟩
  keeps := fun _ _ _ ⟨K, hK, c⟩ k => ⟨K, PySem.W.Frag.In.keeps hK k, c⟩
theorem obsS_eq {n : Nat} {fa : List He.Fa} {fn : List He.DefD} {xs : List ExD} {ps : List PlD} {file : Str} {g : Addr → Option Obj} {s : Shared} (h : ∀ a, g a = s.heap.get? a) : obsS n fa fn xs ps file g = (hookS n fa fn xs ps file).obs s := by
  have e : g = s.heap.get? := funext h
  rw [e] <;> rfl
end Sm
/-! SmEnd: the law's def called where no repr is under way. -/
namespace Sm
open PySem PySem.Spec PyProof.Rows L2 LamX
section
variable {P : Program} {w : World} {K : PySem.W.Frag} {mg mb : Str → Option Value} {k : Nat} {fa a : Addr} {cs : List (Addr × Addr)} {fd : FuncData} {x : Str} {sp : Sp} {s : Shared} {vs : List Value} {ns : List Int}
def lstO (vs : List Value) : Obj := { cls := .type "list", data := .seq vs.toArray }
def tabO : Obj := { cls := .none, data := .fields #[] }
/-- what is tracked at the start: the tables, and the script unless K has it -/
theorem start_heap (hT : ∀ p ∈ cs, s.heap.get? p.2 = some tabO) (ha : s.heap.get? a = some (lstO vs)) (KX : K.In s.heap) (hi : IntsAre vs ns) (hl : ns.length ≤ sizeLine) :
    ∃ H : Hp, (∀ p ∈ cs, H p.2 = some (.tbl #[])) ∧ SqL K H a (ns.map V.int) ∧ HOk P w H s.heap ∧ ∀ b u, H b = some u → (b ∈ cs.map (·.2) ∧ u = .tbl #[]) ∨ (b = a ∧ u = .frz (lstO vs) (.lst (ns.map V.int)) ∧ K.lookup a = none) := by
  have r := vals_ints hi
  have len := hi.length
  have tab : ∀ b ∈ cs.map (·.2), s.heap.get? b = some tabO := fun b m => by
    obtain ⟨p, mp, rfl⟩ := List.mem_map.mp m
    exact hT p mp
  have out : a ∉ cs.map (·.2) := fun m => by
    have z := (tab a m).symm.trans ha
    injection z with z
    injection z with z
    cases z
  have mem : ∀ p ∈ cs, p.2 ∈ cs.map (·.2) := fun p mp => List.mem_map.mpr ⟨p, mp, rfl⟩
  cases q : K.lookup a with
  | some o =>
    have z := (KX a o q).symm.trans ha
    injection z with z
    subst z
    refine ⟨fun b => if b ∈ cs.map (·.2) then some (.tbl #[]) else none, fun p mp => if_pos (mem p mp), .inr ⟨_, vs.toArray, _, q, rfl, rfl, rfl, by rw [List.size_toArray, len]; exact hl, by simpa using r⟩, fun b u e => ?_, fun b u e => ?_⟩
    · dsimp only at e
      split at e
      · cases e
        exact tab b (by assumption)
      · cases e
    · dsimp only at e
      split at e
      · cases e
        exact .inl ⟨by assumption, rfl⟩
      · cases e
  | none =>
    refine ⟨fun b => if b = a then some (.frz (lstO vs) (.lst (ns.map V.int))) else if b ∈ cs.map (·.2) then some (.tbl #[]) else none, fun p mp => ?_, .inl (.inr ⟨lstO vs, if_pos rfl⟩), fun b u e => ?_, fun b u e => ?_⟩
    · have ne : p.2 ≠ a := fun z => out (z ▸ mem p mp)
      exact (if_neg ne).trans (if_pos (mem p mp))
    · dsimp only at e
      split at e
      · rename_i eb
        cases e
        subst eb
        exact ⟨ha, by rw [List.length_map]; exact hl, vs, _, r, ha⟩
      · split at e
        · cases e
          exact tab b (by assumption)
        · cases e
    · dsimp only at e
      split at e
      · rename_i eb
        cases e
        exact .inr ⟨eb, rfl, rfl⟩
      · split at e
        · cases e
          exact .inl ⟨by assumption, rfl⟩
        · cases e
theorem law_goG (KX : K.In s.heap) (hns : s.heap.Ns mainGlobals mg) (hb : s.heap.Ns builtinsNs mb) (hbb : ∀ x : Str, x ≠ "__name__" → mb x = bootBuiltins x) (hlim : s.heap.NoLimit) (hg : s.gens = #[])
    (hT : ∀ p ∈ cs, s.heap.get? p.2 = some tabO) (nT : ∀ p ∈ cs, K.lookup p.2 = none) (C : ∀ p ∈ cs, PySem.W.CodeHd s.heap p.1 p.2)
    (hbm : ∃ (bm : Addr) (ob : Obj), mg "__builtins__" = some (.ref bm) ∧ bm ≠ builtinsNs ∧ s.heap.get? bm = some ob ∧ ob.cls = .type "module" ∧ ob.dict = some builtinsNs ∧ ob.data = .plain)
    (ha : s.heap.get? a = some (lstO vs)) (hi : IntsAre vs ns) (hl : ns.length ≤ sizeLine) (hr : Room k callerA)
    (F : ∀ base : Heap, K.In base → base.Ns mainGlobals mg → (∀ p ∈ cs, TabB base mg p.1 p.2) → FnG P w K mg base k fa fd [x] sp) (hbind : ∀ (s : Shared) (u : Value), BindsTo s fd ⟨[u], []⟩ [(x, u)])
    (hsp : ∀ H : Hp, (∀ p ∈ cs, H p.2 = some (.tbl #[])) → SqL K H a (ns.map V.int) → sp [.ref a] H (fun v _ => v = .bl true) fun _ _ _ => False) :
    codeAny (model P w) callerA (.call (.ref fa) ⟨[.ref a], []⟩) (fun r s' => r = .ok (.ret (.bool true)) ∧ OldK s.heap s'.heap ∧ s'.os = s.os ∧ AllBare s'.gens) s := by
  obtain ⟨H, hH, hS, hok, own⟩ := start_heap (P := P) (w := w) (cs := cs) hT ha KX hi hl
  have tab : ∀ b ∈ cs.map (·.2), s.heap.get? b = some tabO := fun b m => by
    obtain ⟨p, mp, rfl⟩ := List.mem_map.mp m
    exact hT p mp
  have free : ∀ {b : Addr} {o : Obj}, s.heap.get? b = some o → (∀ v n, o.data ≠ .seq v n) → o.data ≠ .fields #[] → H b = none := fun {b o} e n1 n2 => by
    cases q : H b with
    | none => rfl
    | some u =>
      rcases own b u q with ⟨m, _⟩ | ⟨rfl, _⟩
      · have z := e.symm.trans (tab b m)
        injection z with z
        subst z
        exact absurd rfl n2
      · have z := e.symm.trans ha
        injection z with z
        subst z
        exact absurd rfl (n1 _ _)
  have seen : ∀ {b : Addr} {o : Obj}, s.heap.get? b = some o → (∀ v n, o.data ≠ .seq v n) → o.data ≠ .fields #[] → (hidT s.heap H).get? b = some o := fun e n1 n2 => hidT_get e (free e n1 n2)
  have nsB : ∀ {b : Addr} {m : Str → Option Value}, s.heap.Ns b m → (hidT s.heap H).Ns b m := fun {b m} h => by
    obtain ⟨o, es, ep, e, d, rest⟩ := h
    refine ⟨o, es, ep, seen e (fun v n z => ?_) (fun z => ?_), d, rest⟩ <;> (rw [d] at z; cases z)
  have kB : K.In (hidT s.heap H) := fun b o e => by
    refine hidT_get (KX b o e) ?_
    cases q : H b with
    | none => rfl
    | some u =>
      rcases own b u q with ⟨m, _⟩ | ⟨rfl, _, z⟩
      · obtain ⟨p, mp, rfl⟩ := List.mem_map.mp m
        rw [nT p mp] at e
        cases e
      · rw [z] at e
        cases e
  have tB : ∀ p ∈ cs, TabB (hidT s.heap H) mg p.1 p.2 := fun p mp => by
    refine ⟨?_, ?_, fun z => ?_⟩
    · obtain ⟨o, us, file, tf, flags, tg, inF, text, tt, e1, r1, r2, r3, more⟩ := C p mp
      refine ⟨o, us, file, tf, flags, tg, inF, text, tt, seen e1 (fun v n z => ?_) (fun z => ?_), r1, r2, r3, more⟩
      · rw [r2] at z
        cases z
      · rw [r2] at z
        cases z
        cases r3
    · obtain ⟨bm, ob, b1, b2, b3, b4, b5, b6⟩ := hbm
      refine ⟨bm, ob, b1, b2, fun z => ?_, fun z => ?_, seen b3 (fun v n z => ?_) (fun z => ?_), b4, b5, b6⟩
      · obtain ⟨o, es, ep, e, d, _⟩ := hns
        rw [z, e] at b3
        injection b3 with b3
        subst b3
        rw [d] at b6
        cases b6
      · have e := hT p mp
        rw [← z, b3] at e
        injection e with e
        subst e
        cases b6
      · rw [b6] at z
        cases z
      · rw [b6] at z
        cases z
    · obtain ⟨o, es, ep, e, d, _⟩ := hns
      have e2 := hT p mp
      rw [← z, e] at e2
      injection e2 with e2
      subst e2
      cases d
  have env : Env0 P w K mg (hidT s.heap H) callerA [] s H :=
    { frames := rfl
      mod := ⟨kB, nsB hns, ⟨mb, nsB hb, hbb⟩, by obtain ⟨mc, h1, h2⟩ := hlim; exact ⟨mc, nsB h1, h2⟩⟩
      bs := fun b o e => of_hidT e
      bsz := Nat.le_of_eq (hidT_size _ _)
      funs := trivial
      frf := fun b m => absurd (show b ∈ ([] : List Addr) from m) List.not_mem_nil
      hok := hok
      bare := .of_eq hg }
  refine codeAny_mono ((F _ kB (nsB hns) tB).go callerA [] s H ⟨[.ref a], []⟩ [.ref a] [.ref a] _ _ rfl hr env (hbind s (.ref a)) (.cons rfl .nil) (hsp H hH hS)) fun r s' h => ?_
  cases r with
  | error e =>
    obtain ⟨_, _, _, _, _, _, _, _, _, _, _, _, z⟩ := (show L2.CX P w [] H s (fun _ _ _ => False) e s' from h)
    exact z.elim
  | ok fl =>
    cases fl with
    | ret u =>
      obtain ⟨v, H', os, bare, un, hok', rv, q⟩ := h
      obtain rfl : v = .bl true := q
      obtain rfl : u = Value.bool true := rv
      have keep : ∀ b o, b ∉ cs.map (·.2) → s.heap.get? b = some o → s'.heap.get? b = some o := fun b o nb e => by
        cases q : H b with
        | none => exact un.keep b o e q (fun m => absurd (show b ∈ ([] : List Addr) from m) List.not_mem_nil) List.not_mem_nil
        | some u =>
          rcases own b u q with ⟨m, _⟩ | ⟨rfl, rfl, _⟩
          · exact absurd m nb
          · have z := (hok' b _ (un.frzs b _ _ q)).1
            rw [ha] at e
            rw [← e]
            exact z
      have grown : ∀ p ∈ cs, ∃ more : Array Value, s'.heap.get? p.2 = some { cls := .none, data := .fields more } := fun p mp => by
        obtain ⟨more, z⟩ := un.tbls p.2 #[] (hH p mp)
        exact ⟨_, hok' p.2 _ z⟩
      refine ⟨rfl, ⟨fun b o e => ?_, fun b o e => ?_⟩, os, bare⟩
      · by_cases m : b ∈ cs.map (·.2)
        · obtain ⟨p, mp, rfl⟩ := List.mem_map.mp m
          obtain ⟨more, z⟩ := grown p mp
          have e2 := hT p mp
          rw [e] at e2
          injection e2 with e2
          subst e2
          exact .inr (.inl ⟨((C p mp).tab (hT p mp)).isCodeTable, rfl, #[], more, rfl, by rw [Array.empty_append]; exact z⟩)
        · exact .inl (keep b o m e)
      · by_cases m : b ∈ cs.map (·.2)
        · obtain ⟨p, mp, rfl⟩ := List.mem_map.mp m
          obtain ⟨more, z⟩ := grown p mp
          exact ⟨_, z⟩
        · exact ⟨o, keep b o m e⟩
    | _ => exact False.elim h
end
/-- what the end asks of the law's def -/
def LawG (l : PySem.W.OpenLaw) (w : World) (K : PySem.W.Frag) (k n : Nat) (x : Str) (mg : Str → Option Value) (fa : Addr) (h : Heap) : Prop :=
  ∃ (fd : FuncData) (cs : List (Addr × Addr)) (sp : Sp), (∀ p ∈ cs, h.get? p.2 = some tabO) ∧ (∀ p ∈ cs, K.lookup p.2 = none) ∧ (∀ p ∈ cs, PySem.W.CodeHd h p.1 p.2) ∧ (∀ (s : Shared) (u : Value), BindsTo s fd ⟨[u], []⟩ [(x, u)]) ∧
    (∀ (H : Hp) (a : Addr) (ns : List Int), ns.length ≤ n → (∀ p ∈ cs, H p.2 = some (.tbl #[])) → SqL K H a (ns.map V.int) → sp [.ref a] H (fun v _ => v = .bl true) fun _ _ _ => False) ∧
    ∀ base : Heap, K.In base → base.Ns mainGlobals mg → (∀ p ∈ cs, TabB base mg p.1 p.2) → FnG l.prog w K mg base k fa fd [x] sp
theorem walk_G {l : PySem.W.OpenLaw} {n k : Nat} {q : Program} {loose : List Str} {XP : (Str → Option Value) → Heap → Prop} {YP : World → Heap → Prop} {d : DefRec} {x : Str} (hn : l.most = some n) (hn2 : n ≤ sizeLine) (hdf : d.params.defaults = []) (hr : Room k callerA)
    (F : ∀ (w : World) (mg : Str → Option Value) (fa : Addr) (h : Heap), YP w h → h.Ns mainGlobals mg → mg d.name = some (.ref fa) → ∃ K : PySem.W.Frag, K.In h ∧ LawG l w K k n x mg fa h) :
    PySem.W.WalkO q loose XP YP l.row.toRowW d [] (fun f vs => PySem.call f vs) := by
  refine Att.attach_callB hn hdf fun w s0 s1 mg mb fa o pm cd doc a vs ns G Y ho hd hcd hmg hobj hints hlen hbits hg => ?_
  obtain ⟨K, KX, fd, cs, sp, h1, h2, h3, h4, h5, h6⟩ := F w mg fa _ Y G.T.g hmg
  exact law_goG KX G.T.g G.T.b G.T.builtins G.T.nolimit hg h1 h2 h3 G.T.bmain hobj hints (Nat.le_trans hlen hn2) hr h6 h4 fun H hH hS => h5 H a ns hlen hH hS
/-! ### a Hook with tables and tuples -/
def tupB (K : PySem.W.Frag) (q : Str × List V) : Bool := match K.lookup (He.ga K q.1) with
  | some ⟨.type c, _, .seq its _, _⟩ => decide (c = "tuple") && (decide (its.size ≤ sizeLine) && He.relAll q.2 its.toList)
  | _ => false
theorem tup_ok {K : PySem.W.Frag} {q : Str × List V} (h : tupB K q = true) : ∀ H : Hp, SqT K H (He.ga K q.1) q.2 := fun H => by
  unfold tupB at h
  cases e : K.lookup (He.ga K q.1) with
  | none =>
    rw [e] at h
    cases h
  | some o =>
    obtain ⟨oc, od, dt, osl⟩ := o
    rw [e] at h
    cases oc with
    | type c =>
      cases dt with
      | seq its n =>
        obtain ⟨h1, h2⟩ := He.ba h
        obtain ⟨h3, h4⟩ := He.ba h2
        exact .inr ⟨_, its, n, e, congrArg Value.type (of_decide_eq_true h1), rfl, of_decide_eq_true h3, He.relAll_ok h4⟩
      | _ => cases h
    | _ => cases h
structure SaysY (fa : List He.Fa) (fn : List He.DefD) (xs : List ExD) (ps : List PlD) (tf : List He.Defn) (tu : List (Str × List V)) (file : Str) (h : Heap) (K : PySem.W.Frag) : Prop where
  s : SaysS fa fn xs ps file K
  hd : ∀ p ∈ tf, PySem.W.codeHdIn K (He.cT K p).1 (He.cT K p).2 = true
  out : ∀ p ∈ tf, K.lookup (He.cT K p).2 = none
  empty : ∀ p ∈ tf, h.get? (He.cT K p).2 = some tabO
  nod : (tf.map fun p => (He.cT K p).2).Nodup
  tup : ∀ q ∈ tu, tupB K q = true
def obsY (n : Nat) (fa : List He.Fa) (fn : List He.DefD) (xs : List ExD) (ps : List PlD) (tf : List He.Defn) (tu : List (Str × List V)) (file : Str) (g : Addr → Option Obj) : AlS :=
  let K := He.frT g (asS g n)
  (He.obsD fa fn K, ((xs.all (fun d => d.ok file K) && ps.all (fun d => d.ok K)) && (He.tabsB g tf K && (decide (tf.map fun p => (He.cT K p).2).Nodup && tu.all fun q => tupB K q)), xs.map fun d => iniW K d.x))
theorem saysY_of {n : Nat} {fa : List He.Fa} {fn : List He.DefD} {xs : List ExD} {ps : List PlD} {tf : List He.Defn} {tu : List (Str × List V)} {file : Str} {h : Heap} (e : obsY n fa fn xs ps tf tu file h.get? = valS fn xs) : SaysY fa fn xs ps tf tu file h (He.frT h.get? (asS h.get? n)) := by
  have e1 : He.obsD fa fn (He.frT h.get? (asS h.get? n)) = He.valD fn := congrArg (fun z : AlS => z.1) e
  have e2 := congrArg (fun z : AlS => z.2.1) e
  have e3 : (xs.map fun d => iniW (He.frT h.get? (asS h.get? n)) d.x) = xs.map ExD.val := congrArg (fun z : AlS => z.2.2) e
  obtain ⟨k, k0⟩ := He.ba (show (_ && _) = true from e2)
  obtain ⟨k1, k2⟩ := He.ba k
  obtain ⟨k3, k4⟩ := He.ba k0
  obtain ⟨k5, k6⟩ := He.ba k4
  have key : ∀ p ∈ tf, PySem.W.codeHdIn (He.frT h.get? (asS h.get? n)) (He.cT (He.frT h.get? (asS h.get? n)) p).1 (He.cT (He.frT h.get? (asS h.get? n)) p).2 = true ∧ ∃ o, h.get? (He.cT (He.frT h.get? (asS h.get? n)) p).2 = some o ∧ He.emptyTab o = true := fun p mp => by
    obtain ⟨z1, z2⟩ := He.ba (List.all_eq_true.mp k3 p mp)
    refine ⟨z1, ?_⟩
    split at z2
    · exact ⟨_, by assumption, z2⟩
    · cases z2
  refine ⟨⟨e1, fun d hd => ⟨List.all_eq_true.mp k1 d hd, map_all e3 d hd⟩, fun d hd => List.all_eq_true.mp k2 d hd⟩, fun p mp => (key p mp).1, fun p mp => ?_, fun p mp => ?_, of_decide_eq_true k5, fun q mq => List.all_eq_true.mp k6 q mq⟩
  · obtain ⟨_, o, z1, z2⟩ := key p mp
    exact He.frT_none z1 z2
  · obtain ⟨_, o, z1, z2⟩ := key p mp
    rw [z1, He.emptyTab_eq z2]
    rfl
def hookY (n : Nat) (fa : List He.Fa) (fn : List He.DefD) (xs : List ExD) (ps : List PlD) (tf : List He.Defn) (tu : List (Str × List V)) (file : Str) : PySem.W.Hook where
  α := AlS
  obs := fun s => obsY n fa fn xs ps tf tu file s.heap.get?
  val := fun _ => valS fn xs
  says := fun _ h => ∃ K : PySem.W.Frag, K.In h ∧ SaysY fa fn xs ps tf tu file h K
  of := fun _ _ e => ⟨_, He.frT_in, saysY_of e⟩
  keeps := fun _ _ _ ⟨K, hK, c⟩ k => ⟨K, PySem.W.Frag.In.keeps hK k, ⟨c.s, c.hd, c.out, fun p hp => k _ _ (c.empty p hp), c.nod, c.tup⟩⟩
theorem obsY_eq {n : Nat} {fa : List He.Fa} {fn : List He.DefD} {xs : List ExD} {ps : List PlD} {tf : List He.Defn} {tu : List (Str × List V)} {file : Str} {g : Addr → Option Obj} {s : Shared} (h : ∀ a, g a = s.heap.get? a) : obsY n fa fn xs ps tf tu file g = (hookY n fa fn xs ps tf tu file).obs s := by
  have e : g = s.heap.get? := funext h
  rw [e] <;> rfl
end Sm
/-! SmCHd: a Hook that tells slotted classes, their properties, and objects by an address, too. -/
namespace Sm
open PySem PySem.Spec PyProof.Rows L2
open PySem.W
/-! ### slotted classes -/
structure ClD where
  x : Str
  fs : List Str
def slotB (K : Frag) (C : Addr) (f : Str) (i : Nat) : Bool :=
  He.eqO (findIn K (.ref C) f) (some (some (.ref (He.ma K C f)))) && (He.eqO (specialIn K (.ref (He.ma K C f)) "__get__") (some (some (.builtin "member_descriptor.__get__"))) && (decide (takesIn K (.ref (He.ma K C f)) = some true) &&
  (decide (typeIn K (.ref (He.ma K C f)) = some (.type "member_descriptor")) && (decide (slotIn K (He.ma K C f) C = some i) && decide (i < 1000)))))
def slotsB (K : Frag) (C : Addr) : List Str → Nat → Bool
  | [], _ => true
  | f :: r, i => slotB K C f i && slotsB K C r (i + 1)
def ClD.ok (K : Frag) (d : ClD) : Bool := plainGet K (He.ga K d.x) Str.empty && (isClsIn K (He.ga K d.x) && (plainOver K (He.ga K d.x) && (He.eqO (findIn K (.ref (He.ga K d.x)) "__setattr__") (some (some (.builtin "object.__setattr__"))) && slotsB K (He.ga K d.x) d.fs 0)))
theorem slot_ok {K : Frag} {C : Addr} {f : Str} {i : Nat} (c : slotB K C f i = true) : SlX.Slot1 K C f (He.ma K C f) i := by
  obtain ⟨c1, c⟩ := He.ba c
  obtain ⟨c2, c⟩ := He.ba c
  obtain ⟨c3, c⟩ := He.ba c
  obtain ⟨c4, c⟩ := He.ba c
  obtain ⟨c5, c6⟩ := He.ba c
  exact ⟨He.eqO_ok c1, He.eqO_ok c2, of_decide_eq_true c3, of_decide_eq_true c4, of_decide_eq_true c5, of_decide_eq_true c6⟩
theorem slots_ok {K : Frag} {C : Addr} : ∀ {fs : List Str} {i : Nat}, slotsB K C fs i = true → ∀ j f, fs[j]? = some f → ∃ p, SlX.Slot1 K C f p (i + j)
  | [], i, _, j, f, h => by simp at h
  | g :: r, i, c, 0, f, h => by
    obtain ⟨c1, _⟩ := He.ba c
    have e : g = f := by simpa using h
    subst e
    exact ⟨_, slot_ok c1⟩
  | g :: r, i, c, j + 1, f, h => by
    obtain ⟨_, c2⟩ := He.ba c
    have q := slots_ok c2 j f (by simpa using h)
    rw [show i + 1 + j = i + (j + 1) by omega] at q
    exact q
theorem cl_ok {K : Frag} {d : ClD} (c : d.ok K = true) : ClS K (He.ga K d.x) d.fs := by
  obtain ⟨c1, c⟩ := He.ba c
  obtain ⟨c2, c⟩ := He.ba c
  obtain ⟨c3, c⟩ := He.ba c
  obtain ⟨c4, c5⟩ := He.ba c
  refine ⟨⟨c1, c2, c3, He.eqO_ok c4⟩, fun i f h => ?_⟩
  have q := slots_ok c5 i f h
  rw [Nat.zero_add] at q
  exact q
/-! ### properties -/
structure PrD where
  cls : Str
  f : Str
  qual : Str
  params : Arguments
  body : List Stmt
  scope : Scope
def prA (K : Frag) (C : Addr) (f : Str) : Addr := match recIn K (He.ma K C f) "property" with
  | some (.ref g :: _) => g
  | _ => 0
def prW (K : Frag) (d : PrD) : He.FnW := match K.lookup (prA K (He.ga K d.cls) d.f) with
  | some ⟨_, _, .func fd, _⟩ => some (fd.name, fd.qualname, fd.params, fd.body, fd.scope, fd.globals, fd.closure, fd.builtins)
  | _ => none
def PrD.val (d : PrD) : He.FnW := some (d.f, d.qual, d.params, .stmts d.body, d.scope, mainGlobals, [], builtinsNs)
def PrD.ok (K : Frag) (d : PrD) : Bool :=
  He.eqO (findIn K (.ref (He.ga K d.cls)) d.f) (some (some (.ref (He.ma K (He.ga K d.cls) d.f)))) && (He.eqO (specialIn K (.ref (He.ma K (He.ga K d.cls) d.f)) "__get__") (some (some (.builtin "property.__get__"))) && (decide (takesIn K (.ref (He.ma K (He.ga K d.cls) d.f)) = some true) &&
  ((match recIn K (He.ma K (He.ga K d.cls) d.f) "property" with
    | some (.ref _ :: _) => true
    | _ => false) && (keepIn K (.ref (prA K (He.ga K d.cls) d.f)) && (match K.lookup (prA K (He.ga K d.cls) d.f) with
    | some ⟨_, _, .func fd, _⟩ => codeIn K fd.code d.qual && (He.dflB K fd.defaults [] && He.kwdB K fd.kwdefaults [])
    | _ => false)))))
theorem pr_fun {K : Frag} {d : PrD} (e : prW K d = d.val) (c : d.ok K = true) : ∃ fd, FunD K d.f d.qual d.params d.body d.scope [] [] (prA K (He.ga K d.cls) d.f) fd := by
  obtain ⟨_, c⟩ := He.ba c
  obtain ⟨_, c⟩ := He.ba c
  obtain ⟨_, c⟩ := He.ba c
  obtain ⟨_, c⟩ := He.ba c
  obtain ⟨kp, c2⟩ := He.ba c
  unfold prW at e
  cases q : K.lookup (prA K (He.ga K d.cls) d.f) with
  | none =>
    rw [q] at c2
    cases c2
  | some o =>
    obtain ⟨oc, od, dt, osl⟩ := o
    rw [q] at c2 e
    cases dt with
    | func fd =>
      obtain ⟨n1, n2, n3, n4, n5, n6, n7, n8, n9, n10, n11, n12, n13, n14, n15⟩ := fd
      have e2 : (some (n1, n2, n3, n4, n5, n6, n7, n15) : He.FnW) = some (d.f, d.qual, d.params, .stmts d.body, d.scope, mainGlobals, [], builtinsNs) := e
      simp only [Option.some.injEq, Prod.mk.injEq] at e2
      obtain ⟨h1, h2, h3, h4, h5, h6, h7, h8⟩ := e2
      subst h1 h2 h3 h4 h5 h6 h7 h8
      have c3 : (codeIn K n13 d.qual && (He.dflB K n8 [] && He.kwdB K n9 [])) = true := c2
      obtain ⟨k1, k2⟩ := He.ba c3
      obtain ⟨k3, k4⟩ := He.ba k2
      exact ⟨_, ⟨oc, od, n8, n9, n10, n11, n12, n13, n14, osl, rfl, q, k1, He.dflB_ok k3, He.kwdB_ok k4⟩, kp⟩
    | _ => cases c2
theorem prp_ok {P : Program} {w : World} {K : Frag} {mg : Str → Option Value} {base : Heap} {k : Nat} {d : PrD} {fd : FuncData} {ps : List Str} {sp : Sp} (c : d.ok K = true) (F : FnOk P w K mg base (L2.CX P w) k (prA K (He.ga K d.cls) d.f) fd ps sp) (b : Binds K fd ps []) :
    Prp P w K mg base k (He.ga K d.cls) d.f sp := by
  obtain ⟨c1, c⟩ := He.ba c
  obtain ⟨c2, c⟩ := He.ba c
  obtain ⟨c3, c⟩ := He.ba c
  obtain ⟨c4, _⟩ := He.ba c
  have q := F.raw b .nil
  rw [sp_nil] at q
  refine ⟨_, _, He.eqO_ok c1, He.eqO_ok c2, of_decide_eq_true c3, ?_, q⟩
  cases z : recIn K (He.ma K (He.ga K d.cls) d.f) "property" with
  | none => rw [z] at c4; cases c4
  | some l =>
    rw [z] at c4
    cases l with
    | nil => cases c4
    | cons v r =>
      cases v with
      | ref g =>
        refine ⟨r, ?_⟩
        unfold prA
        rw [z]
      | _ => cases c4
/-! ### a tuple by its address -/
def adrB (K : Frag) (a : Addr) (vs : List V) : Bool := match K.lookup a with
  | some ⟨.type c, _, .seq its _, _⟩ => decide (c = "tuple") && (decide (its.size ≤ sizeLine) && He.relAll vs its.toList)
  | _ => false
theorem adr_ok {K : Frag} {a : Addr} {vs : List V} (h : adrB K a vs = true) : ∀ H : Hp, SqT K H a vs := fun H => by
  unfold adrB at h
  cases e : K.lookup a with
  | none =>
    rw [e] at h
    cases h
  | some o =>
    obtain ⟨oc, od, dt, osl⟩ := o
    rw [e] at h
    cases oc with
    | type c =>
      cases dt with
      | seq its n =>
        obtain ⟨h1, h2⟩ := He.ba h
        obtain ⟨h3, h4⟩ := He.ba h2
        exact .inr ⟨_, its, n, e, congrArg Value.type (of_decide_eq_true h1), rfl, of_decide_eq_true h3, He.relAll_ok h4⟩
      | _ => cases h
    | _ => cases h
/-! ### bundles -/
section
variable {P : Program} {w : World} {K : Frag} {mg : Str → Option Value} {base : Heap} {k : Nat} {x m : Str} {ps : List Str} {sp : Sp} {fd : FuncData}
theorem me_ok (c : (He.Fa.meth x m).ok K = true) (F : FnOk P w K mg base (L2.CX P w) k (He.ma K (He.ga K x) m) fd ps sp) (b : Binds K fd ps []) : Me P w K mg base k (He.ga K x) m ps sp := ⟨_, _, F, He.meth_ok c, b⟩
theorem meK_ok {n : Nat} {ks : List Str} {gU : List Value → List Value → List Value} {gV : List V → List V → List V} (c : (He.Fa.meth x m).ok K = true) (F : FnOk P w K mg base (L2.CX P w) k (He.ma K (He.ga K x) m) fd ps sp) (b : KBn K fd ps n ks gU gV) : MeK P w K mg base k (He.ga K x) m ps sp n ks gV := ⟨_, _, _, F, He.meth_ok c, b⟩
theorem mak_ok (c : (He.Fa.mkr x).ok K = true) (hm : mg x = some (.ref (He.ga K x))) (F : FnOk P w K mg base (L2.CX P w) k (He.ma K (He.ga K x) "__init__") fd ps sp) (b : Binds K fd ps []) : Mak P w K mg base k x ps sp := ⟨_, _, F, He.mkr_ok c, b, hm⟩
theorem makK_ok {n : Nat} {ks : List Str} {gU : List Value → List Value → List Value} {gV : List V → List V → List V} (c : (He.Fa.mkr x).ok K = true) (hm : mg x = some (.ref (He.ga K x))) (F : FnOk P w K mg base (L2.CX P w) k (He.ma K (He.ga K x) "__init__") fd ps sp) (b : KBn K fd ps n ks gU gV) : MakK P w K mg base k x ps sp n ks gV := ⟨_, _, _, F, He.mkr_ok c, b, hm⟩
end
/-! ### the Hook -/
abbrev AlZ : Type := AlS × (Bool × List He.FnW)
structure SaysZ (fa : List He.Fa) (fn : List He.DefD) (xs : List ExD) (ps : List PlD) (tf : List He.Defn) (tu : List (Str × List V)) (cl : List ClD) (pr : List PrD) (ex : Frag → Bool) (file : Str) (h : Heap) (K : Frag) : Prop extends SaysY fa fn xs ps tf tu file h K where
  cl : ∀ d ∈ cl, d.ok K = true
  pr : ∀ d ∈ pr, d.ok K = true ∧ prW K d = d.val
  ex : ex K = true
def obsZ (n : Nat) (fa : List He.Fa) (fn : List He.DefD) (xs : List ExD) (ps : List PlD) (tf : List He.Defn) (tu : List (Str × List V)) (cl : List ClD) (pr : List PrD) (ex : Frag → Bool) (file : Str) (g : Addr → Option Obj) : AlZ :=
  (obsY n fa fn xs ps tf tu file g, (let K := He.frT g (asS g n); ((cl.all fun d => d.ok K) && ((pr.all fun d => d.ok K) && ex K), pr.map fun d => prW K d)))
def valZ (fn : List He.DefD) (xs : List ExD) (pr : List PrD) : AlZ := (valS fn xs, (true, pr.map PrD.val))
theorem saysZ_of {n : Nat} {fa : List He.Fa} {fn : List He.DefD} {xs : List ExD} {ps : List PlD} {tf : List He.Defn} {tu : List (Str × List V)} {cl : List ClD} {pr : List PrD} {ex : Frag → Bool} {file : Str} {h : Heap} (e : obsZ n fa fn xs ps tf tu cl pr ex file h.get? = valZ fn xs pr) : SaysZ fa fn xs ps tf tu cl pr ex file h (He.frT h.get? (asS h.get? n)) := by
  have e1 := congrArg (fun z : AlZ => z.1) e
  have e2 := congrArg (fun z : AlZ => z.2.1) e
  have e3 : (pr.map fun d => prW (He.frT h.get? (asS h.get? n)) d) = pr.map PrD.val := congrArg (fun z : AlZ => z.2.2) e
  obtain ⟨k1, k⟩ := He.ba (show (_ && _) = true from e2)
  obtain ⟨k2, k3⟩ := He.ba k
  exact { toSaysY := saysY_of e1, cl := fun d hd => List.all_eq_true.mp k1 d hd, pr := fun d hd => ⟨List.all_eq_true.mp k2 d hd, map_all e3 d hd⟩, ex := k3 }
def hookZ (n : Nat) (fa : List He.Fa) (fn : List He.DefD) (xs : List ExD) (ps : List PlD) (tf : List He.Defn) (tu : List (Str × List V)) (cl : List ClD) (pr : List PrD) (ex : Frag → Bool) (file : Str) : PySem.W.Hook where
  α := AlZ
  obs := fun s => obsZ n fa fn xs ps tf tu cl pr ex file s.heap.get?
  val := fun _ => valZ fn xs pr
  says := fun _ h => ∃ K : PySem.W.Frag, K.In h ∧ SaysZ fa fn xs ps tf tu cl pr ex file h K
  of := fun _ _ e => ⟨_, He.frT_in, saysZ_of e⟩
  keeps := fun _ _ _ ⟨K, hK, c⟩ k => ⟨K, PySem.W.Frag.In.keeps hK k, { toSaysY := ⟨c.s, c.hd, c.out, fun p hp => k _ _ (c.empty p hp), c.nod, c.tup⟩, cl := c.cl, pr := c.pr, ex := c.ex }⟩
theorem obsZ_eq {n : Nat} {fa : List He.Fa} {fn : List He.DefD} {xs : List ExD} {ps : List PlD} {tf : List He.Defn} {tu : List (Str × List V)} {cl : List ClD} {pr : List PrD} {ex : Frag → Bool} {file : Str} {g : Addr → Option Obj} {s : Shared} (h : ∀ a, g a = s.heap.get? a) : obsZ n fa fn xs ps tf tu cl pr ex file g = (hookZ n fa fn xs ps tf tu cl pr ex file).obs s := by
  have e : g = s.heap.get? := funext h
  rw [e] <;> rfl
end Sm
set_option maxHeartbeats 0
namespace K59
open PySem PySem.Spec PyProof.Rows L2
def t_is_whole : He.DefD := ⟨("is_whole", none), "is_whole", "is_whole", defArgs s_is_whole, defBody s_is_whole, defScope s_is_whole, [], []⟩
def t_is_integer : He.DefD := ⟨("is_integer", none), "is_integer", "is_integer", defArgs s_is_integer, defBody s_is_integer, defScope s_is_integer, [], []⟩
def t_is_name : He.DefD := ⟨("is_name", none), "is_name", "is_name", defArgs s_is_name, defBody s_is_name, defScope s_is_name, [], []⟩
def t_is_disk_text : He.DefD := ⟨("is_disk_text", none), "is_disk_text", "is_disk_text", defArgs s_is_disk_text, defBody s_is_disk_text, defScope s_is_disk_text, [], []⟩
def t_require_power : He.DefD := ⟨("require_power", none), "require_power", "require_power", defArgs s_require_power, defBody s_require_power, defScope s_require_power, [], []⟩
def t_are_choices : He.DefD := ⟨("are_choices", none), "are_choices", "are_choices", defArgs s_are_choices, defBody s_are_choices, defScope s_are_choices, [], []⟩
def t_DiskFile___init__ : He.DefD := ⟨("DiskFile", some "__init__"), "__init__", "DiskFile.__init__", defArgs s_DiskFile___init__, defBody s_DiskFile___init__, defScope s_DiskFile___init__, [], []⟩
def t_names_behind : He.DefD := ⟨("names_behind", none), "names_behind", "names_behind", defArgs s_names_behind, defBody s_names_behind, defScope s_names_behind, [], []⟩
def t_Disk___init__ : He.DefD := ⟨("Disk", some "__init__"), "__init__", "Disk.__init__", defArgs s_Disk___init__, defBody s_Disk___init__, defScope s_Disk___init__, [], [("power", .non)]⟩
def t_Disk_require_file : He.DefD := ⟨("Disk", some "require_file"), "require_file", "Disk.require_file", defArgs s_Disk_require_file, defBody s_Disk_require_file, defScope s_Disk_require_file, [], []⟩
def t_Disk_do_step : He.DefD := ⟨("Disk", some "do_step"), "do_step", "Disk.do_step", defArgs s_Disk_do_step, defBody s_Disk_do_step, defScope s_Disk_do_step, [], []⟩
def t_Disk_change_names : He.DefD := ⟨("Disk", some "change_names"), "change_names", "Disk.change_names", defArgs s_Disk_change_names, defBody s_Disk_change_names, defScope s_Disk_change_names, [], []⟩
def t_Disk_append : He.DefD := ⟨("Disk", some "append"), "append", "Disk.append", defArgs s_Disk_append, defBody s_Disk_append, defScope s_Disk_append, [], []⟩
def t_Disk_sync : He.DefD := ⟨("Disk", some "sync"), "sync", "Disk.sync", defArgs s_Disk_sync, defBody s_Disk_sync, defScope s_Disk_sync, [], []⟩
def t_Disk_remove : He.DefD := ⟨("Disk", some "remove"), "remove", "Disk.remove", defArgs s_Disk_remove, defBody s_Disk_remove, defScope s_Disk_remove, [], []⟩
def t_Disk_rename : He.DefD := ⟨("Disk", some "rename"), "rename", "Disk.rename", defArgs s_Disk_rename, defBody s_Disk_rename, defScope s_Disk_rename, [], []⟩
def t_Disk_sync_names : He.DefD := ⟨("Disk", some "sync_names"), "sync_names", "Disk.sync_names", defArgs s_Disk_sync_names, defBody s_Disk_sync_names, defScope s_Disk_sync_names, [], []⟩
def t_Disk_read : He.DefD := ⟨("Disk", some "read"), "read", "Disk.read", defArgs s_Disk_read, defBody s_Disk_read, defScope s_Disk_read, [], []⟩
def t_Disk_lost : He.DefD := ⟨("Disk", some "lost"), "lost", "Disk.lost", defArgs s_Disk_lost, defBody s_Disk_lost, defScope s_Disk_lost, [.adr (He.dflAt ("Disk", some "lost") 0)], [("power", .non)]⟩
def t_Disk___contains__ : He.DefD := ⟨("Disk", some "__contains__"), "__contains__", "Disk.__contains__", defArgs s_Disk___contains__, defBody s_Disk___contains__, defScope s_Disk___contains__, [], []⟩
def t_Disk___len__ : He.DefD := ⟨("Disk", some "__len__"), "__len__", "Disk.__len__", defArgs s_Disk___len__, defBody s_Disk___len__, defScope s_Disk___len__, [], []⟩
def t_Disk___str__ : He.DefD := ⟨("Disk", some "__str__"), "__str__", "Disk.__str__", defArgs s_Disk___str__, defBody s_Disk___str__, defScope s_Disk___str__, [], []⟩
def t__law_dice : He.DefD := ⟨("_law_dice", none), "_law_dice", "_law_dice", defArgs s__law_dice, defBody s__law_dice, defScope s__law_dice, [], []⟩
def t__law_roll : He.DefD := ⟨("_law_roll", none), "_law_roll", "_law_roll", defArgs s__law_roll, defBody s__law_roll, defScope s__law_roll, [], []⟩
def t__law_one_of : He.DefD := ⟨("_law_one_of", none), "_law_one_of", "_law_one_of", defArgs s__law_one_of, defBody s__law_one_of, defScope s__law_one_of, [], []⟩
def t__law_word_of : He.DefD := ⟨("_law_word_of", none), "_law_word_of", "_law_word_of", defArgs s__law_word_of, defBody s__law_word_of, defScope s__law_word_of, [], []⟩
def t__law_new : He.DefD := ⟨("_law_new", none), "_law_new", "_law_new", defArgs s__law_new, defBody s__law_new, defScope s__law_new, [], []⟩
def t__law_names : He.DefD := ⟨("_law_names", none), "_law_names", "_law_names", defArgs s__law_names, defBody s__law_names, defScope s__law_names, [], []⟩
def t__law_step : He.DefD := ⟨("_law_step", none), "_law_step", "_law_step", defArgs s__law_step, defBody s__law_step, defScope s__law_step, [], []⟩
def t__law_is_name : He.DefD := ⟨("_law_is_name", none), "_law_is_name", "_law_is_name", defArgs s__law_is_name, defBody s__law_is_name, defScope s__law_is_name, [], []⟩
def t__law_lost : He.DefD := ⟨("_law_lost", none), "_law_lost", "_law_lost", defArgs s__law_lost, defBody s__law_lost, defScope s__law_lost, [], []⟩
def t__law_done : He.DefD := ⟨("_law_done", none), "_law_done", "_law_done", defArgs s__law_done, defBody s__law_done, defScope s__law_done, [], []⟩
def t__law_is_like : He.DefD := ⟨("_law_is_like", none), "_law_is_like", "_law_is_like", defArgs s__law_is_like, defBody s__law_is_like, defScope s__law_is_like, [], []⟩
def t__law_disks_right : He.DefD := ⟨("_law_disks_right", none), "_law_disks_right", "_law_disks_right", defArgs s__law_disks_right, defBody s__law_disks_right, defScope s__law_disks_right, [], []⟩
def t_law : He.DefD := ⟨("law", none), "law", "law", defArgs s_law, defBody s_law, defScope s_law, [], []⟩
def p_Disk_names : Sm.PrD := ⟨"Disk", "names", "Disk.names", defArgs s_Disk_names, defBody s_Disk_names, defScope s_Disk_names⟩
def p_Disk_steps : Sm.PrD := ⟨"Disk", "steps", "Disk.steps", defArgs s_Disk_steps, defBody s_Disk_steps, defScope s_Disk_steps⟩
def c_Disk : Sm.ClD := ⟨"Disk", ["own_changes", "own_firm_names", "own_names", "own_power", "own_steps"]⟩
def c_DiskFile : Sm.ClD := ⟨"DiskFile", ["own_firm", "own_text"]⟩
def e_InvalidName : Sm.PlD := ⟨"InvalidName", "ValueError", "ValueError.__new__", "ValueError.__init__", [.type "ValueError", .type "Exception", .type "BaseException", .type "object"]⟩
def e_InvalidNumber : Sm.ExD := ⟨"InvalidNumber", "given", "InvalidNumber.__init__", ⟨10, 17, 10, 21⟩, ⟨10, 23, 10, 28⟩, ⟨11, 8, 11, 13⟩, ⟨11, 8, 11, 15⟩, ⟨11, 8, 11, 24⟩, ⟨11, 25, 11, 30⟩, ⟨11, 8, 11, 31⟩, ⟨11, 8, 11, 31⟩, ⟨12, 8, 12, 12⟩, ⟨12, 8, 12, 18⟩, ⟨12, 21, 12, 26⟩, ⟨12, 8, 12, 26⟩, "IndexError", "IndexError.__new__", "IndexError.__init__", [.type "IndexError", .type "LookupError", .type "Exception", .type "BaseException", .type "object"]⟩
def e_InvalidOperation : Sm.PlD := ⟨"InvalidOperation", "ValueError", "ValueError.__new__", "ValueError.__init__", [.type "ValueError", .type "Exception", .type "BaseException", .type "object"]⟩
def e_PowerLost : Sm.ExD := ⟨"PowerLost", "taken", "PowerLost.__init__", ⟨25, 17, 25, 21⟩, ⟨25, 23, 25, 28⟩, ⟨26, 8, 26, 13⟩, ⟨26, 8, 26, 15⟩, ⟨26, 8, 26, 24⟩, ⟨26, 25, 26, 30⟩, ⟨26, 8, 26, 31⟩, ⟨26, 8, 26, 31⟩, ⟨27, 8, 27, 12⟩, ⟨27, 8, 27, 18⟩, ⟨27, 21, 27, 26⟩, ⟨27, 8, 27, 26⟩, "RuntimeError", "RuntimeError.__new__", "RuntimeError.__init__", [.type "RuntimeError", .type "Exception", .type "BaseException", .type "object"]⟩
def e_TooMany : Sm.ExD := ⟨"TooMany", "limit", "TooMany.__init__", ⟨20, 17, 20, 21⟩, ⟨20, 23, 20, 28⟩, ⟨21, 8, 21, 13⟩, ⟨21, 8, 21, 15⟩, ⟨21, 8, 21, 24⟩, ⟨21, 25, 21, 30⟩, ⟨21, 8, 21, 31⟩, ⟨21, 8, 21, 31⟩, ⟨22, 8, 22, 12⟩, ⟨22, 8, 22, 18⟩, ⟨22, 21, 22, 26⟩, ⟨22, 8, 22, 26⟩, "OverflowError", "OverflowError.__new__", "OverflowError.__init__", [.type "OverflowError", .type "ArithmeticError", .type "Exception", .type "BaseException", .type "object"]⟩
def e_UnknownName : Sm.ExD := ⟨"UnknownName", "asked", "UnknownName.__init__", ⟨15, 17, 15, 21⟩, ⟨15, 23, 15, 28⟩, ⟨16, 8, 16, 13⟩, ⟨16, 8, 16, 15⟩, ⟨16, 8, 16, 24⟩, ⟨16, 25, 16, 30⟩, ⟨16, 8, 16, 31⟩, ⟨16, 8, 16, 31⟩, ⟨17, 8, 17, 12⟩, ⟨17, 8, 17, 18⟩, ⟨17, 21, 17, 26⟩, ⟨17, 8, 17, 26⟩, "KeyError", "LookupError.__new__", "KeyError.__init__", [.type "KeyError", .type "LookupError", .type "Exception", .type "BaseException", .type "object"]⟩
def fn : List He.DefD := [t_is_whole, t_is_integer, t_is_name, t_is_disk_text, t_require_power, t_are_choices, t_DiskFile___init__, t_names_behind, t_Disk___init__, t_Disk_require_file, t_Disk_do_step, t_Disk_change_names, t_Disk_append, t_Disk_sync, t_Disk_remove, t_Disk_rename, t_Disk_sync_names, t_Disk_read, t_Disk_lost, t_Disk___contains__, t_Disk___len__, t_Disk___str__, t__law_dice, t__law_roll, t__law_one_of, t__law_word_of, t__law_new, t__law_names, t__law_step, t__law_is_name, t__law_lost, t__law_done, t__law_is_like, t__law_disks_right, t_law]
def fa : List He.Fa := [.free "abs", .free "all", .free "bool", .free "dict", .free "enumerate", .free "int", .free "isinstance", .free "iter", .free "len", .free "list", .free "max", .free "min", .free "next", .free "range", .free "sorted", .free "str", .free "tuple", .int "BEYOND_INTEGERS" (BI), .str "DIGITS" "0123456789", .str "LETTERS" "abcdefghijklmnopqrstuvwxyz", .str "MADE" "made", .int "MAX_FILES" (8), .int "MAX_POWER" (1000000), .int "MAX_TEXT" (200000), .int "MOST_NAME" (8), .str "REMOVED" "removed", .str "RENAMED" "renamed", .exm "InvalidName" "InvalidName" true, .exm "InvalidNumber" "InvalidName" false, .exm "InvalidNumber" "InvalidNumber" true, .exm "InvalidOperation" "InvalidName" false, .exm "InvalidOperation" "InvalidNumber" false, .exm "InvalidOperation" "InvalidOperation" true, .exm "UnknownName" "InvalidName" false, .exm "UnknownName" "InvalidNumber" false, .exm "UnknownName" "InvalidOperation" false, .exm "UnknownName" "UnknownName" true, .exm "TooMany" "InvalidName" false, .exm "TooMany" "InvalidNumber" false, .exm "TooMany" "InvalidOperation" false, .exm "TooMany" "UnknownName" false, .exm "TooMany" "TooMany" true, .exm "PowerLost" "InvalidName" false, .exm "PowerLost" "InvalidNumber" false, .exm "PowerLost" "InvalidOperation" false, .exm "PowerLost" "UnknownName" false, .exm "PowerLost" "TooMany" false, .exm "PowerLost" "PowerLost" true, .glo "is_whole", .glo "is_integer", .glo "is_name", .glo "is_disk_text", .glo "require_power", .glo "are_choices", .glo "names_behind", .glo "_law_dice", .glo "_law_roll", .glo "_law_one_of", .glo "_law_word_of", .glo "_law_new", .glo "_law_names", .glo "_law_step", .glo "_law_is_name", .glo "_law_lost", .glo "_law_done", .glo "_law_is_like", .glo "_law_disks_right", .glo "law", .meth "Disk" "require_file", .meth "Disk" "do_step", .meth "Disk" "change_names", .meth "Disk" "append", .meth "Disk" "sync", .meth "Disk" "remove", .meth "Disk" "rename", .meth "Disk" "sync_names", .meth "Disk" "read", .meth "Disk" "lost", .meth "Disk" "__contains__", .meth "Disk" "__len__", .meth "Disk" "__str__", .mkr "Disk", .mkr "DiskFile", .glo "Disk", .glo "DiskFile"]
def xs : List Sm.ExD := [e_InvalidNumber, e_PowerLost, e_TooMany, e_UnknownName]
def ps : List Sm.PlD := [e_InvalidName, e_InvalidOperation]
def tf : List He.Defn := [("_law_done", none), ("_law_disks_right", none)]
def tu : List (Str × List V) := []
def clss : List Sm.ClD := [c_Disk, c_DiskFile]
def prps : List Sm.PrD := [p_Disk_names, p_Disk_steps]
def exB (K : PySem.W.Frag) : Bool := Sm.adrB K (He.dflAt ("Disk", some "lost") 0 K) [] && (true)
abbrev R : PySem.W.OpenRow := PySem.W.OpenLaw.row PySem.Challenge.rw_sumstead_k59_whole_disks_behind_losses_o
abbrev prog : Program := PySem.Challenge.pw_sumstead_k59_whole_disks_behind_losses_o
abbrev hk : PySem.W.Hook := Sm.hookZ 6 fa fn xs ps tf tu clss prps exB prog.main.file
def ob (s : PySem.W.SharedT) : Sm.AlZ := Sm.obsZ 6 fa fn xs ps tf tu clss prps exB prog.main.file (HandSHeadRun.getT s)
theorem ob_eq (s : PySem.W.SharedT) : ob s = hk.obs s.abs := Sm.obsZ_eq (HandSHeadRun.getT_eq s)
def loose : List Str := (["__name__", "CubeError", "InvalidName", "InvalidOperation", "InvalidNumber", "UnknownName", "TooMany", "PowerLost", "BEYOND_INTEGERS", "MOST_NAME", "DIGITS", "LETTERS", "is_whole", "is_integer", "is_name", "MAX_FILES", "MAX_TEXT", "MAX_POWER", "MADE", "RENAMED", "REMOVED", "is_disk_text", "require_power", "are_choices", "DiskFile", "names_behind", "Disk", "_law_dice", "_law_roll", "_law_one_of"] : List Str) ++ (["_law_word_of", "_law_new", "_law_names", "_law_step", "_law_is_name", "_law_lost", "_law_done", "_law_is_like", "_law_disks_right"] : List Str)
theorem glue {α β γ δ : Type} {o : Option α} {f : α → β} {g : α → γ} {h : α → δ} {x : β} {y : γ} {z : δ} (a : o.map f = some x) (b : o.map g = some y) (c : o.map h = some z) : o.map (fun s => (f s, g s, h s)) = some (x, y, z) := by
  cases o with
  | none => cases a
  | some s =>
    have a' : f s = x := Option.some.inj a
    have b' : g s = y := Option.some.inj b
    have c' : h s = z := Option.some.inj c
    rw [← a', ← b', ← c']
    rfl
open PySem.W in
theorem runA (w : World) (os : OsState) : (HandSHeadRun.endF (HandSHeadRun.stepQ (HandSHeadRun.denQ HandSHeadRun.tabQ) R.prog w) 4000 R.prog w os).map (fun s => HandSHeadRun.looksF R.prog (boot_heap w.params) s.abs) = some true := by kernel_rfl
open PySem.W in
theorem runB (w : World) (os : OsState) : (HandSHeadRun.endF (HandSHeadRun.stepQ (HandSHeadRun.denQ HandSHeadRun.tabQ) R.prog w) 4000 R.prog w os).map (fun s => HandSHeadRun.seenQ (PySem.W.view R.prog [42]) loose (importedModules R.prog.main.body) (fun s => xlAt (PySem.W.view R.prog [42]) [] s && recOk R.toRowW.records s) s.abs) = some (openGood (PySem.W.view R.prog [42]) loose) := by kernel_rfl
theorem runC (w : World) (os : OsState) : (HandSHeadRun.endF (HandSHeadRun.stepQ (HandSHeadRun.denQ HandSHeadRun.tabQ) R.prog w) 4000 R.prog w os).map ob = some (Sm.valZ fn xs prps) := by kernel_rfl
theorem run (w : World) : HandSHeadRun.RunEq R (PySem.W.view R.prog [42]) hk ob 4000 loose w := fun os => glue (runA w os) (runB w os) (runC w os)
end K59
set_option maxHeartbeats 4000000
namespace K59
open PySem PySem.Spec PyProof.Rows L2
open TL (tl)
/-! ### names, changes, disks -/
abbrev Nms := List (Str × Nat)
def getN (l : Nms) (z : Str) : Option Nat := (l.find? fun p => decide (p.1 = z)).map (·.2)
def putN (l : Nms) (z : Str) (i : Nat) : Nms := if (l.any fun p => decide (p.1 = z)) = true then l.map (fun p => if p.1 = z then (p.1, i) else p) else l ++ [(z, i)]
def dropN (l : Nms) (z : Str) : Nms := l.filter fun p => decide (p.1 ≠ z)
inductive Chg where
  | mk (n : Str) (i : Nat)
  | rm (n : Str)
  | rn (o n : Str)
def beh (l : Nms) : Chg → Nms
  | .mk n i => putN l n i
  | .rm n => dropN l n
  | .rn o n => putN (dropN l o) n ((getN l o).getD 0)
def replay (l : Nms) (cs : List Chg) : Nms := cs.foldl beh l
structure DSt where
  firm : Nms
  chg : List Chg
  files : List (Str × Nat)
  power : Option Int
  steps : Nat
def now (s : DSt) : Nms := replay s.firm s.chg
def okC (l : Nms) : Chg → Prop
  | .mk _ _ => True
  | .rm n => (getN l n).isSome = true
  | .rn o _ => (getN l o).isSome = true
def okL : Nms → List Chg → Prop
  | l, [] => l.length ≤ 8
  | l, c :: r => l.length ≤ 8 ∧ okC l c ∧ okL (beh l c) r
def PwOk (p : Option Int) : Prop := ∀ i, p = some i → 0 ≤ i ∧ i ≤ 1000
def letter (c : Nat) : Bool := decide (c ∈ (Str.ofString "abcdefghijklmnopqrstuvwxyz").cps.toList)
def digit (c : Nat) : Bool := decide (c ∈ (Str.ofString "0123456789").cps.toList)
def nameS (z : Str) : Bool := decide (1 ≤ z.cps.toList.length ∧ z.cps.toList.length ≤ 8) && ((z.cps.toList.head?.map letter).getD false && z.cps.toList.all fun c => letter c || digit c)
def NmZ (z : Str) : Prop := nameS z = true ∧ z ≠ Str.ofString "zz"
def nmC : Chg → Prop
  | .mk n _ => NmZ n
  | .rm _ => True
  | .rn _ n => NmZ n
structure WF (b : Nat) (s : DSt) : Prop where
  ok : okL s.firm s.chg
  idf : ∀ p ∈ s.firm, p.2 < s.files.length
  idc : ∀ n i, Chg.mk n i ∈ s.chg → i < s.files.length
  fl : ∀ f ∈ s.files, f.2 ≤ f.1.length ∧ f.1.length ≤ 4 * b
  nf : s.files.length ≤ 8 + b
  nc : s.chg.length ≤ b
  ns : s.steps ≤ b
  pw : PwOk s.power
  nmf : ∀ p ∈ s.firm, NmZ p.1
  nmc : ∀ c ∈ s.chg, nmC c
/-! ### what is asked of a disk -/
def nameK : Key → Bool
  | .inl _ => false
  | .inr z => nameS z
def pr (c : Nat) : Bool := (!decide ((⟨#[c]⟩ : Str).cps.toList < (Str.ofString " ").cps.toList) && !decide ((Str.ofString "~").cps.toList < (⟨#[c]⟩ : Str).cps.toList)) || decide ((⟨#[c]⟩ : Str) = Str.ofString "\n")
def prn (z : Str) : Bool := z.cps.toList.all pr
def textK : Key → Bool
  | .inl _ => false
  | .inr z => prn z
inductive Deed where
  | app (n t : Key)
  | syn (n t : Key)
  | rem (n t : Key)
  | ren (n t : Key)
  | nms (n t : Key)
inductive Er where
  | name
  | op
  | unk (k : Key)
  | many
  | lost (p : Int)
def getK (s : DSt) : Key → Option Nat
  | .inl _ => none
  | .inr z => getN (now s) z
def step1 (s : DSt) : Except Er DSt := match s.power with
  | some p => if p ≤ (s.steps : Int) then .error (.lost p) else .ok { s with steps := s.steps + 1 }
  | none => .ok { s with steps := s.steps + 1 }
def putText (s : DSt) (z x : Str) : DSt := match getN (now s) z with
  | some i => { s with files := s.files.set i ((s.files.getD i ("", 0)).1 ++ x, (s.files.getD i ("", 0)).2) }
  | none => { s with chg := s.chg ++ [.mk z s.files.length], files := s.files ++ [("" ++ x, 0)] }
def syncAt (s : DSt) (i : Nat) : DSt := { s with files := s.files.set i ((s.files.getD i ("", 0)).1, (s.files.getD i ("", 0)).1.length) }
def doApp (s : DSt) (n t : Key) : Except Er DSt := if nameK n = false then .error .name else if textK t = false then .error .op else
  match n, t with
  | .inr z, .inr x => if getN (now s) z = none ∧ 8 ≤ (now s).length then .error .many else
    match step1 s with
    | .error e => .error e
    | .ok s => .ok (putText s z x)
  | _, _ => .error .name
def doSyn (s : DSt) (n : Key) : Except Er DSt := match getK s n with
  | none => .error (.unk n)
  | some i => match step1 s with
    | .error e => .error e
    | .ok s => .ok (syncAt s i)
def doRem (s : DSt) (n : Key) : Except Er DSt := match n with
  | .inl _ => .error (.unk n)
  | .inr z => match getN (now s) z with
    | none => .error (.unk n)
    | some _ => match step1 s with
      | .error e => .error e
      | .ok s => .ok { s with chg := s.chg ++ [.rm z] }
def doRen (s : DSt) (n t : Key) : Except Er DSt := match n with
  | .inl _ => .error (.unk n)
  | .inr z => match getN (now s) z with
    | none => .error (.unk n)
    | some _ => match t with
      | .inl _ => .error .name
      | .inr y => if nameS y = false then .error .name else
        match step1 s with
        | .error e => .error e
        | .ok s => .ok { s with chg := s.chg ++ [.rn z y] }
def doNms (s : DSt) : Except Er DSt := match step1 s with
  | .error e => .error e
  | .ok s => .ok { s with firm := now s, chg := [] }
def deed (s : DSt) : Deed → Except Er DSt
  | .app n t => doApp s n t
  | .syn n _ => doSyn s n
  | .rem n _ => doRem s n
  | .ren n t => doRen s n t
  | .nms _ _ => doNms s
def newD (p : Option Int) : DSt := ⟨[], [], [], p, 0⟩
def atLoss (s : DSt) (cs : List Nat) : Nms := replay s.firm (s.chg.take (cs.getD 0 0 % (s.chg.length + 1)))
def sizeAt (f : Str × Nat) (c : Nat) : Nat := f.2 + c % (f.1.length - f.2 + 1)
def lostGo (s : DSt) (l : Nms) (cs : List Nat) : Nat → List Str → DSt → DSt
  | _, [], d => d
  | j, z :: r, d =>
    let f := s.files.getD ((getN l z).getD 0) ("", 0)
    lostGo s l cs (j + 1) r { d with firm := putN d.firm z j, files := d.files ++ [(cutS f.1 none (some ((sizeAt f (cs.getD (j + 1) 0) : Nat) : Int)), sizeAt f (cs.getD (j + 1) 0))] }
def lostD (s : DSt) (cs : List Nat) (p : Option Int) (ys : List Str) : DSt := lostGo s (atLoss s cs) cs 0 ys (newD p)
def keysN (l : Nms) : List Str := l.map (·.1)
/-! ### in the heap -/
def nmE (e : Nat → V) (l : Nms) : List (Key × V) := l.map fun p => (Sum.inr p.1, e p.2)
def pwV : Option Int → V
  | some i => .int i
  | none => .non
def cDisk (K : PySem.W.Frag) : Addr := He.ga K "Disk"
def cFile (K : PySem.W.Frag) : Addr := He.ga K "DiskFile"
abbrev FileAt (K : PySem.W.Frag) (h : Hp) (p d : Addr) (t : Str) (m : Nat) : Prop := Sm.IsS h p (He.ga K "DiskFile") d [some (.int (m : Nat)), some (.str t)]
/-- a change's tuple -/
def ChgV (fa : Nat → Addr) : Chg → List V
  | .mk n i => [.str "made", .str n, .ref (fa i)]
  | .rm n => [.str "removed", .str n, .non]
  | .rn o n => [.str "renamed", .str o, .str n]
def ChgsAt (h : Hp) (fa : Nat → Addr) (vs : List V) (cs : List Chg) : Prop := vs.length = cs.length ∧ ∀ (i : Nat) c, cs[i]? = some c → ∃ a, vs[i]? = some (.ref a) ∧ h a = some (.tup (ChgV fa c))
structure DA where
  dx : Addr
  f : Addr
  n : Addr
  c : Addr
  fa : Nat → Addr
  fd : Nat → Addr
  cs : List V
def DA.r (a : DA) : Nat → V := fun i => .ref (a.fa i)
def dsl (a : DA) (s : DSt) : List (Option V) := [some (.ref a.c), some (.ref a.f), some (.ref a.n), some (pwV s.power), some (.int (s.steps : Nat))]
structure DiskB (K : PySem.W.Frag) (h : Hp) (x : Addr) (a : DA) (s : DSt) : Prop where
  firm : h a.f = some (.dK (nmE a.r s.firm))
  nms : h a.n = some (.dK (nmE a.r (now s)))
  fn : a.f ≠ a.n
  chgs : h a.c = some (.lst a.cs)
  each : ChgsAt h a.fa a.cs s.chg
  file : ∀ i t m, s.files[i]? = some (t, m) → FileAt K h (a.fa i) (a.fd i) t m ∧ a.fa i ≠ x
  inj : ∀ i j, i < s.files.length → j < s.files.length → a.fa i = a.fa j → i = j
structure DiskH (K : PySem.W.Frag) (h : Hp) (x : Addr) (a : DA) (s : DSt) : Prop extends DiskB K h x a s where
  self : Sm.IsS h x (He.ga K "Disk") a.dx (dsl a s)
def DiskAt (K : PySem.W.Frag) (h : Hp) (x : Addr) (s : DSt) : Prop := ∃ a, DiskH K h x a s
/-- the law's own rows -/
structure LA where
  f : Addr
  c : Addr
  fs : Addr
  la : Nat → Addr
  cs : List V
def ChgL (g : Hp) (v : V) : Chg → Prop
  | .mk n i => ∃ a, v = .ref a ∧ g a = some (.tup [.str "make", .str n, .int (i : Nat)])
  | .rm n => ∃ a m, v = .ref a ∧ g a = some (.tup [.str "remove", .str n, m])
  | .rn o n => ∃ a, v = .ref a ∧ g a = some (.tup [.str "rename", .str o, .str n])
def ChgsL (g : Hp) (vs : List V) (cs : List Chg) : Prop := vs.length = cs.length ∧ ∀ (i : Nat) c, cs[i]? = some c → ∃ v, vs[i]? = some v ∧ ChgL g v c
def iE : Nat → V := fun i => .int (i : Nat)
def flE (la : Nat → Addr) (n : Nat) : List (Key × V) := (List.range n).map fun (i : Nat) => (Sum.inl (i : Int), V.ref (la i))
structure OwnB (g : Hp) (o : Addr) (a : LA) (s : DSt) : Prop where
  firm : g a.f = some (.dK (nmE iE s.firm))
  chgs : g a.c = some (.lst a.cs)
  each : ChgsL g a.cs s.chg
  fls : g a.fs = some (.dK (flE a.la s.files.length))
  file : ∀ i t m, s.files[i]? = some (t, m) → g (a.la i) = some (.lst [.str t, .int (m : Nat)]) ∧ a.la i ≠ o ∧ a.la i ≠ a.c
  inj : ∀ i j, i < s.files.length → j < s.files.length → a.la i = a.la j → i = j
  ff : a.f ≠ a.fs
  oc : o ≠ a.c
structure OwnH (g : Hp) (o : Addr) (a : LA) (s : DSt) : Prop extends OwnB g o a s where
  self : g o = some (.lst [.ref a.f, .ref a.c, .ref a.fs, .int (s.steps : Nat), pwV s.power])
def OwnAt (g : Hp) (o : Addr) (s : DSt) : Prop := ∃ a, OwnH g o a s
/-! ### contracts -/
def Dice (H : Hp) (p : Addr) : Prop := ∃ a b c : Int, H p = some (.lst [.int a, .int b, .int c])
/-- goes on with the dice at p, all else as before -/
def After (H : Hp) (p : Addr) (Q : Hp → Prop) : Prop := ∀ H', Same (Sm.dl H p) H' → Dice H' p → Q H'
def sp__law_dice (K : PySem.W.Frag) : Sp := fun vs H Q _ => ∃ (p : Addr) (ns : List Int) (i : Nat), vs = [.ref p, .int (i : Int)] ∧ SqL K H p (ns.map V.int) ∧ ∀ q H', H q = none → Same H H' → Dice H' q → Q (.ref q) H'
def sp__law_roll (K : PySem.W.Frag) : Sp := fun vs H Q _ => ∃ (p : Addr) (n : Int), vs = [.ref p, .int n] ∧ Dice H p ∧ 0 < n ∧ n ≤ 1000000000000000000 ∧ ∀ r : Int, 0 ≤ r → r < n → After H p (Q (.int r))
def sp__law_one_of (K : PySem.W.Frag) : Sp := fun vs H Q _ => ∃ (p q : Addr) (xs : List V), vs = [.ref p, .ref q] ∧ Dice H p ∧ SqL K (Sm.dl H p) q xs ∧ 0 < xs.length ∧ xs.length < 1073741824 ∧ ∀ (i : Nat) (v : V), xs[i]? = some v → After H p (Q v)
def isWhole : PyData → Bool
  | .int _ => true
  | _ => false
def isInt : PyData → Bool
  | .int i => decide ((i.natAbs : Int) < BI)
  | _ => false
def isNat : PyData → Bool
  | .int i => decide ((i.natAbs : Int) < BI) && decide (0 ≤ i)
  | _ => false
def isCh : PyData → Bool
  | .tuple ds => ds.all isNat
  | _ => false
def sp_is_whole (K : PySem.W.Frag) : Sp := fun vs H Q _ => ∃ x d, vs = [x] ∧ Dp K H x d ∧ Sm.RetV (.bl (isWhole d)) H Q
def sp_is_integer (K : PySem.W.Frag) : Sp := fun vs H Q _ => ∃ x d, vs = [x] ∧ Dp K H x d ∧ Sm.RetV (.bl (isInt d)) H Q
def sp_are_choices (K : PySem.W.Frag) : Sp := fun vs H Q _ => ∃ x d, vs = [x] ∧ Dp K H x d ∧ (∀ ds, d = .tuple ds → ds.length ≤ 100) ∧ Sm.RetV (.bl (isCh d)) H Q
def NmOk (k : Key) : Prop := ∀ z, k = .inr z → z.length ≤ 1000 ∧ PyData.strOk z = true
def sp_is_name (K : PySem.W.Frag) : Sp := fun vs H Q _ => ∃ k : Key, vs = [kV k] ∧ NmOk k ∧ Sm.RetV (.bl (nameK k)) H Q
def sp__law_is_name (K : PySem.W.Frag) : Sp := fun vs H Q _ => ∃ k : Key, vs = [kV k] ∧ NmOk k ∧ Sm.RetV (.bl (nameK k)) H Q
def sp_is_disk_text (K : PySem.W.Frag) : Sp := fun vs H Q _ => ∃ k : Key, vs = [kV k] ∧ NmOk k ∧ Sm.RetV (.bl (textK k)) H Q
def PwGood (i : Int) : Prop := 0 ≤ i ∧ i ≤ 1000000
/-- a power, good or bad -/
def PwOut (K : PySem.W.Frag) (p : Option Int) (H : Hp) (good : Prop) (E : XK) : Prop := ((∀ i, p = some i → PwGood i) → good) ∧ ∀ i, p = some i → ¬ PwGood i → i.natAbs < 2 ^ 62 → Sm.Rz K "InvalidNumber" "given" (.int i) H E
def PwSmall (p : Option Int) : Prop := ∀ i, p = some i → i.natAbs < 2 ^ 62
def sp_require_power (K : PySem.W.Frag) : Sp := fun vs H Q E => ∃ p : Option Int, vs = [pwV p] ∧ PwSmall p ∧ PwOut K p H (Sm.RetV .non H Q) E
def sp_DiskFile___init__ (K : PySem.W.Frag) : Sp := fun vs H Q _ => ∃ x dx t m, vs = [.ref x, .str t, .int (m : Nat)] ∧ H x = some (.ins (He.ga K "DiskFile") dx []) ∧ H dx = some (.own x) ∧ dx ≠ x ∧ ∀ H', Same (Sm.dl (Sm.dl H x) dx) H' → FileAt K H' x dx t m → Q .non H'
def sp_names_behind (K : PySem.W.Frag) : Sp := fun vs H Q _ => ∃ (nd c : Addr) (fa : Nat → Addr) (l : Nms) (ch : Chg), vs = [.ref nd, .ref c] ∧ H nd = some (.dK (nmE (fun i => .ref (fa i)) l)) ∧ SqT K H c (ChgV fa ch) ∧ okC l ch ∧ l.length ≤ 1000 ∧
  ∀ q H', H q = none → Same H H' → H' q = some (.dK (nmE (fun i => .ref (fa i)) (beh l ch))) → Q (.ref q) H'
def two (H : Hp) (x dx : Addr) : Hp := fun b => if b = x then H x else if b = dx then H dx else none
def sp_Disk___init__ (K : PySem.W.Frag) : Sp := fun vs H Q E => ∃ x dx p, vs = [.ref x, pwV p] ∧ H x = some (.ins (He.ga K "Disk") dx []) ∧ H dx = some (.own x) ∧ dx ≠ x ∧ PwSmall p ∧ PwOut K p H (∀ h' H', Sm.Step (two H x dx) H h' H' → DiskAt K h' x (newD p) → Q .non H') E
def ErAt (K : PySem.W.Frag) (e : Er) (H : Hp) (E : XK) : Prop := match e with
  | .name => Sm.Rp K "InvalidName" H E
  | .op => Sm.Rp K "InvalidOperation" H E
  | .unk k => Sm.Rz K "UnknownName" "asked" (kV k) H E
  | .many => Sm.Rz K "TooMany" "limit" (.int 8) H E
  | .lost p => Sm.Rz K "PowerLost" "taken" (.int p) H E
/-- a deed's end -/
def DOut (K : PySem.W.Frag) (h H : Hp) (x : Addr) (r : Except Er DSt) (Q : VK) (E : XK) : Prop := match r with
  | .ok s => ∀ h' H', Sm.Step h H h' H' → DiskAt K h' x s → Q .non H'
  | .error e => ErAt K e H E
def sp_Disk_names (K : PySem.W.Frag) : Sp := fun vs H Q _ => ∃ x h s, vs = [.ref x] ∧ DiskAt K h x s ∧ Same h H ∧ (now s).length ≤ 8 ∧ ∀ ys q H', Sm.Srt (keysN (now s)) ys → H q = none → Same H H' → H' q = some (.tup (ys.map V.str)) → Q (.ref q) H'
def sp_Disk_steps (K : PySem.W.Frag) : Sp := fun vs H Q _ => ∃ x h s, vs = [.ref x] ∧ DiskAt K h x s ∧ Same h H ∧ Sm.RetV (.int (s.steps : Nat)) H Q
def sp_Disk___contains__ (K : PySem.W.Frag) : Sp := fun vs H Q _ => ∃ x k h s, vs = [.ref x, kV k] ∧ DiskAt K h x s ∧ Same h H ∧ Sm.RetV (.bl (getK s k).isSome) H Q
def sp_Disk___len__ (K : PySem.W.Frag) : Sp := fun vs H Q _ => ∃ x h s, vs = [.ref x] ∧ DiskAt K h x s ∧ Same h H ∧ Sm.RetV (.int ((now s).length : Nat)) H Q
def strD (s : DSt) : Str := "disk of " ++ toString (((now s).length : Nat) : Int) ++ " files, " ++ toString ((s.steps : Nat) : Int) ++ " steps"
def sp_Disk___str__ (K : PySem.W.Frag) : Sp := fun vs H Q _ => ∃ x h s, vs = [.ref x] ∧ DiskAt K h x s ∧ Same h H ∧ (now s).length ≤ 8 ∧ s.steps ≤ 1000 ∧ Sm.RetV (.str (strD s)) H Q
def sp_Disk_require_file (K : PySem.W.Frag) : Sp := fun vs H Q E => ∃ x k h s, vs = [.ref x, kV k] ∧ DiskAt K h x s ∧ Same h H ∧ ((getK s k).isSome = true → Sm.RetV .non H Q) ∧ (getK s k = none → ErAt K (.unk k) H E)
def sp_Disk_do_step (K : PySem.W.Frag) : Sp := fun vs H Q E => ∃ x h s a, vs = [.ref x] ∧ DiskH K h x a s ∧ Same h H ∧ match step1 s with
  | .ok s => ∀ h' H', Sm.Step h H h' H' → DiskH K h' x a s → (∀ b, b ≠ x → h' b = h b) → Q .non H'
  | .error e => ErAt K e H E
def sp_Disk_change_names (K : PySem.W.Frag) : Sp := fun vs H Q _ => ∃ x h s a c ch, vs = [.ref x, .ref c] ∧ DiskH K h x a s ∧ Same h H ∧ h c = some (.tup (ChgV a.fa ch)) ∧ okC (now s) ch ∧ (now s).length ≤ 1000 ∧ s.chg.length ≤ 10000 ∧
  ∀ h' H' a', Sm.Step h H h' H' → a'.fa = a.fa → a'.fd = a.fd → DiskH K h' x a' { s with chg := s.chg ++ [ch] } → Q .non H'
def TxOk (t : Key) : Prop := ∀ z, t = .inr z → z.length ≤ 4 ∧ PyData.strOk z = true
def sp_Disk_append (K : PySem.W.Frag) : Sp := fun vs H Q E => ∃ x n t h s b, vs = [.ref x, kV n, kV t] ∧ DiskAt K h x s ∧ Same h H ∧ WF b s ∧ b ≤ 1000 ∧ NmOk n ∧ TxOk t ∧ DOut K h H x (doApp s n t) Q E
def sp_Disk_sync (K : PySem.W.Frag) : Sp := fun vs H Q E => ∃ x n h s b, vs = [.ref x, kV n] ∧ DiskAt K h x s ∧ Same h H ∧ WF b s ∧ b ≤ 1000 ∧ DOut K h H x (doSyn s n) Q E
def sp_Disk_remove (K : PySem.W.Frag) : Sp := fun vs H Q E => ∃ x n h s b, vs = [.ref x, kV n] ∧ DiskAt K h x s ∧ Same h H ∧ WF b s ∧ b ≤ 1000 ∧ DOut K h H x (doRem s n) Q E
def sp_Disk_rename (K : PySem.W.Frag) : Sp := fun vs H Q E => ∃ x n t h s b, vs = [.ref x, kV n, kV t] ∧ DiskAt K h x s ∧ Same h H ∧ WF b s ∧ b ≤ 1000 ∧ NmOk t ∧ DOut K h H x (doRen s n t) Q E
def sp_Disk_sync_names (K : PySem.W.Frag) : Sp := fun vs H Q E => ∃ x h s b, vs = [.ref x] ∧ DiskAt K h x s ∧ Same h H ∧ WF b s ∧ b ≤ 1000 ∧ DOut K h H x (doNms s) Q E
def sp_Disk_read (K : PySem.W.Frag) : Sp := fun vs H Q E => ∃ x n h s b, vs = [.ref x, kV n] ∧ DiskAt K h x s ∧ Same h H ∧ WF b s ∧ (∀ i, getK s n = some i → Sm.RetV (.str (s.files.getD i ("", 0)).1) H Q) ∧ (getK s n = none → ErAt K (.unk n) H E)
def ChOk (cs : List Nat) : Prop := cs.length ≤ 10 ∧ ∀ c ∈ cs, c ≤ 1000
def chV (cs : List Nat) : List V := cs.map fun c => V.int (c : Nat)
def LostOut (K : PySem.W.Frag) (s : DSt) (cs : List Nat) (p : Option Int) (H : Hp) (Q : VK) : Prop := ∀ ys y h' H', Sm.Srt (keysN (atLoss s cs)) ys → (∀ b, H b ≠ none → h' b = none) → Same H H' → Same h' H' → DiskAt K h' y (lostD s cs p ys) → Q (.ref y) H'
def sp_Disk_lost (K : PySem.W.Frag) : Sp := fun vs H Q E => ∃ x c p h s b, vs = [.ref x, c, pwV p] ∧ DiskAt K h x s ∧ Same h H ∧ WF b s ∧ b ≤ 1000 ∧ PwSmall p ∧
  ((∃ (q : Addr) (cs : List Nat), c = .ref q ∧ SqT K H q (chV cs) ∧ ChOk cs ∧ PwOut K p H (LostOut K s cs p H Q) E) ∨ (∃ d, Dp K H c d ∧ (∀ ds, d = .tuple ds → ds.length ≤ 100) ∧ isCh d = false ∧ Sm.Rp K "InvalidOperation" H E))
/-! ### the law's own disk -/
def sp__law_new (K : PySem.W.Frag) : Sp := fun vs H Q _ => ∃ p, vs = [pwV p] ∧ ∀ o g' H', (∀ b, H b ≠ none → g' b = none) → Same H H' → Same g' H' → OwnAt g' o (newD p) → Q (.ref o) H'
def sp__law_names (K : PySem.W.Frag) : Sp := fun vs H Q _ => ∃ o m g s b, vs = [.ref o, .int (m : Nat)] ∧ OwnAt g o s ∧ Same g H ∧ WF b s ∧ b ≤ 2000 ∧ m ≤ s.chg.length ∧ ∀ q H', H q = none → Same H H' → H' q = some (.dK (nmE iE (replay s.firm (s.chg.take m)))) → Q (.ref q) H'
def erT : Er → List V
  | .name => [.str "name"]
  | .op => [.str "operation"]
  | .unk k => [.str "unknown", kV k]
  | .many => [.str "many", .int 8]
  | .lost p => [.str "lost", .int p]
def toldT : List V := [.str "told", .non]
def deedT : Deed → List V
  | .app n t => [.str "append", kV n, kV t]
  | .syn n t => [.str "sync", kV n, kV t]
  | .rem n t => [.str "remove", kV n, kV t]
  | .ren n t => [.str "rename", kV n, kV t]
  | .nms n t => [.str "names", kV n, kV t]
def DdOk : Deed → Prop
  | .app n t => NmOk n ∧ TxOk t ∧ (∀ z, t = .inr z → prn z = true) ∧ n ≠ .inr (Str.ofString "zz")
  | .syn n _ => NmOk n
  | .rem n _ => NmOk n
  | .ren n t => NmOk n ∧ NmOk t ∧ t ≠ .inr (Str.ofString "zz")
  | .nms _ _ => True
def sp__law_step (K : PySem.W.Frag) : Sp := fun vs H Q _ => ∃ o d g s b dd, vs = [.ref o, .ref d] ∧ OwnAt g o s ∧ Same g H ∧ WF b s ∧ b ≤ 1000 ∧ SqT K H d (deedT dd) ∧ DdOk dd ∧ match deed s dd with
  | .ok s' => ∀ q g' H', Sm.Step g H g' H' → OwnAt g' o s' → H' q = some (.tup toldT) → Q (.ref q) H'
  | .error e => ∀ q H', Same H H' → H' q = some (.tup (erT e)) → Q (.ref q) H'
def sp__law_lost (K : PySem.W.Frag) : Sp := fun vs H Q _ => ∃ o c p g s b cs, vs = [.ref o, .ref c, pwV p] ∧ OwnAt g o s ∧ Same g H ∧ WF b s ∧ b ≤ 1000 ∧ SqT K H c (chV cs) ∧ ChOk cs ∧
  ∀ ys o' g' H', Sm.Srt (keysN (atLoss s cs)) ys → (∀ b, H b ≠ none → g' b = none) → Same H H' → Same g' H' → OwnAt g' o' (lostD s cs p ys) → Q (.ref o') H'
/-! ### the catcher -/
def tupTo (Q : VK) (H : Hp) (xs : List V) : Prop := ∀ q H', H q = none → Same H H' → H' q = some (.tup xs) → Q (.ref q) H'
def EMet (K : PySem.W.Frag) (Q : VK) : XK := fun cls d H =>
  ∃ b, PySem.W.exmOne K cls (.ref (He.ga K "InvalidName")) = some b ∧ (b = true → tupTo Q H [.str "name"]) ∧ (b = false →
  ∃ b, PySem.W.exmOne K cls (.ref (He.ga K "InvalidNumber")) = some b ∧ (b = true → cls = .ref (He.ga K "InvalidNumber") ∧ ∃ a v, d = some a ∧ H a = some (.xd [("given", v)]) ∧ tupTo Q H [.str "number", v]) ∧ (b = false →
  ∃ b, PySem.W.exmOne K cls (.ref (He.ga K "InvalidOperation")) = some b ∧ (b = true → tupTo Q H [.str "operation"]) ∧ (b = false →
  ∃ b, PySem.W.exmOne K cls (.ref (He.ga K "UnknownName")) = some b ∧ (b = true → cls = .ref (He.ga K "UnknownName") ∧ ∃ a v, d = some a ∧ H a = some (.xd [("asked", v)]) ∧ tupTo Q H [.str "unknown", v]) ∧ (b = false →
  ∃ b, PySem.W.exmOne K cls (.ref (He.ga K "TooMany")) = some b ∧ (b = true → cls = .ref (He.ga K "TooMany") ∧ ∃ a v, d = some a ∧ H a = some (.xd [("limit", v)]) ∧ tupTo Q H [.str "many", v]) ∧ (b = false →
  ∃ b, PySem.W.exmOne K cls (.ref (He.ga K "PowerLost")) = some b ∧ (b = true → cls = .ref (He.ga K "PowerLost") ∧ ∃ a v, d = some a ∧ H a = some (.xd [("taken", v)]) ∧ tupTo Q H [.str "lost", v]) ∧ b ≠ false)))))
def rawT (Q : VK) (H : Hp) (xs : List V) : Prop := xs.length ≤ sizeLine ∧ ∀ p, H p = none → Q (.ref p) (upd H p (.tup xs))
def TMet (K : PySem.W.Frag) : (XK → Hp → VK → Prop) → Hp → VK → Prop := fun tl H Q => tl (EMet K Q) H fun v H' => rawT Q H' [.str "told", v]
/-- a table, a code object -/
def Bad (b : Addr) (o : HO) : Prop := (∃ ps, o = .tbl ps) ∨ ∃ q, o = LamX.CodeO b q
def Pure (h : Hp) : Prop := ∀ b o, h b = some o → ¬ Bad b o
/-- a step that may have laid tables -/
def StepN (h H h' H' : Hp) : Prop := Same h' H' ∧ ∀ b o, h b = none → H b = some o → (∀ ps, o ≠ .tbl ps) → H' b = some o ∧ h' b = none
def sp__law_done (K : PySem.W.Frag) : Sp := fun vs H Q _ => ∃ x d h s b dd, vs = [.ref x, .ref d] ∧ DiskAt K h x s ∧ Same h H ∧ Pure h ∧ WF b s ∧ b ≤ 1000 ∧ SqT K H d (deedT dd) ∧ DdOk dd ∧ LamX.Tabs (TT K) H ∧ match deed s dd with
  | .ok s' => ∀ q h' H1 H', StepN h H h' H1 → LamX.Tabs (TT K) H1 → DiskAt K h' x s' → H1 q = none → Same H1 H' → H' q = some (.tup toldT) → Q (.ref q) H'
  | .error e => ∀ q H', LamX.ExtN H H' → LamX.Tabs (TT K) H' → H' q = some (.tup (erT e)) → Q (.ref q) H'
def sp__law_is_like (K : PySem.W.Frag) : Sp := fun vs H Q _ => ∃ x o h g s b, vs = [.ref x, .ref o] ∧ DiskAt K h x s ∧ OwnAt g o s ∧ Same h H ∧ Same g H ∧ WF b s ∧ b ≤ 1000 ∧ Sm.RetV (.bl true) H Q
def sp__law_disks_right (K : PySem.W.Frag) : Sp := fun vs H Q _ => ∃ p : Addr, vs = [.ref p] ∧ Dice H p ∧ LamX.Tabs (TT K) H ∧ ∀ H', LamX.ExtN (Sm.dl H p) H' → LamX.Tabs (TT K) H' → Q (.bl true) H'
def sp_law (K : PySem.W.Frag) : Sp := fun vs H Q _ => ∃ (p : Addr) (ns : List Int), vs = [.ref p] ∧ SqL K H p (ns.map V.int) ∧ ns.length ≤ 63 ∧ LamX.Tabs (TT K) H ∧ ∀ H', Q (.bl true) H'
end K59
namespace K59
open PySem PySem.Spec PyProof.Rows L2
/-! ### names -/
theorem valV_nm (e : Nat → V) (z : Str) : ∀ l : Nms, valV (nmE e l) (.inr z) = (getN l z).map e
  | [] => rfl
  | p :: r => by
    by_cases h : p.1 = z
    · have h1 : (Sum.inr p.1 : Key) = Sum.inr z := by rw [h]
      show valV ((Sum.inr p.1, e p.2) :: nmE e r) (.inr z) = _
      rw [valV_pos h1]
      simp [getN, List.find?_cons, h]
    · have h1 : ¬ (Sum.inr p.1 : Key) = Sum.inr z := fun q => h (Sum.inr.inj q)
      show valV ((Sum.inr p.1, e p.2) :: nmE e r) (.inr z) = _
      rw [valV_neg h1, valV_nm e z r]
      simp [getN, List.find?_cons, h]
theorem valV_nmI (e : Nat → V) (i : Int) : ∀ l : Nms, valV (nmE e l) (.inl i) = none
  | [] => rfl
  | p :: r => by
    have h1 : ¬ (Sum.inr p.1 : Key) = Sum.inl i := fun q => nomatch q
    show valV ((Sum.inr p.1, e p.2) :: nmE e r) (.inl i) = _
    rw [valV_neg h1, valV_nmI e i r]
theorem any_nm (e : Nat → V) (z : Str) (l : Nms) : ((nmE e l).any fun kv => decide (kv.1 = Sum.inr z)) = l.any fun p => decide (p.1 = z) := by
  unfold nmE
  rw [List.any_map]
  congr 1
  funext p
  simp
theorem putK_nm (e : Nat → V) (l : Nms) (z : Str) (i : Nat) : putK (nmE e l) (.inr z) (e i) = nmE e (putN l z i) := by
  unfold putK putN
  rw [any_nm]
  split
  · unfold nmE
    rw [List.map_map, List.map_map]
    refine List.map_congr_left fun p _ => ?_
    by_cases h : p.1 = z
    · simp [h]
    · simp [h]
  · unfold nmE
    simp
theorem dropK_nm (e : Nat → V) (l : Nms) (z : Str) : dropK (nmE e l) (.inr z) = nmE e (dropN l z) := by
  unfold dropK dropN nmE
  rw [List.filter_map]
  congr 1
  refine List.filter_congr fun p _ => ?_
  simp
theorem nm_len (e : Nat → V) (l : Nms) : (nmE e l).length = l.length := List.length_map ..
theorem nm_keys (e : Nat → V) (l : Nms) : (nmE e l).map (·.1) = (keysN l).map Sum.inr := by
  unfold nmE keysN
  rw [List.map_map, List.map_map]
  rfl
theorem nm_congr {e e' : Nat → V} {l : Nms} (h : ∀ p ∈ l, e p.2 = e' p.2) : nmE e l = nmE e' l := List.map_congr_left fun p hp => by rw [h p hp]
theorem getN_mem {l : Nms} {z : Str} {i : Nat} (h : getN l z = some i) : (z, i) ∈ l := by
  unfold getN at h
  cases q : l.find? (fun p => decide (p.1 = z)) with
  | none => rw [q] at h; cases h
  | some p =>
    rw [q] at h
    have h1 : p.2 = i := Option.some.inj h
    have h2 : p.1 = z := by simpa using List.find?_some q
    have h3 := List.mem_of_find?_eq_some q
    rw [← h1, ← h2]
    exact h3
theorem getN_of {l : Nms} {z : Str} (h : z ∈ keysN l) : (getN l z).isSome = true := by
  obtain ⟨p, hp, rfl⟩ := List.mem_map.mp h
  unfold getN
  rw [Option.isSome_map, List.find?_isSome]
  exact ⟨p, hp, by simp⟩
theorem putN_len (l : Nms) (z : Str) (i : Nat) : (putN l z i).length ≤ l.length + 1 := by
  unfold putN
  split
  · rw [List.length_map]; omega
  · rw [List.length_append, List.length_singleton]; exact Nat.le_refl _
theorem putN_old {l : Nms} {z : Str} {i : Nat} (h : getN l z ≠ none) : (putN l z i).length = l.length := by
  have q : (l.any fun p => decide (p.1 = z)) = true := by
    cases e : getN l z with
    | none => exact absurd e h
    | some j => exact List.any_eq_true.mpr ⟨(z, j), getN_mem e, by simp⟩
  unfold putN
  rw [if_pos q, List.length_map]
theorem dropN_len (l : Nms) (z : Str) : (dropN l z).length ≤ l.length := List.length_filter_le _ _
theorem dropN_lt {l : Nms} {z : Str} (h : (getN l z).isSome = true) : (dropN l z).length + 1 ≤ l.length := by
  obtain ⟨i, hi⟩ := Option.isSome_iff_exists.mp h
  have hm := getN_mem hi
  have : (dropN l z).length < l.length := by
    unfold dropN
    exact List.length_filter_lt_length_iff_exists.mpr ⟨(z, i), hm, by simp⟩
  omega
theorem beh_len {l : Nms} {c : Chg} (h : okC l c) : (beh l c).length ≤ l.length + 1 := by
  cases c with
  | mk n i => exact putN_len l n i
  | rm n => exact Nat.le_succ_of_le (dropN_len l n)
  | rn o n =>
    have h1 : ((dropN l o).length + 1 ≤ l.length) := dropN_lt h
    have h2 := putN_len (dropN l o) n ((getN l o).getD 0)
    show (putN (dropN l o) n ((getN l o).getD 0)).length ≤ _
    omega
theorem mem_putN {l : Nms} {z : Str} {i : Nat} {p : Str × Nat} (h : p ∈ putN l z i) : p.2 = i ∨ p ∈ l := by
  unfold putN at h
  split at h
  · obtain ⟨q, hq, e⟩ := List.mem_map.mp h
    split at e
    · exact .inl (by rw [← e])
    · exact .inr (e ▸ hq)
  · rcases List.mem_append.mp h with h | h
    · exact .inr h
    · exact .inl (by rw [List.mem_singleton.mp h])
theorem mem_dropN {l : Nms} {z : Str} {p : Str × Nat} (h : p ∈ dropN l z) : p ∈ l := (List.mem_filter.mp h).1
/-- ids stay small -/
theorem beh_id {l : Nms} {c : Chg} {n : Nat} (hl : ∀ p ∈ l, p.2 < n) (hc : ∀ m i, c = .mk m i → i < n) (ho : okC l c) : ∀ p ∈ beh l c, p.2 < n := by
  intro p hp
  cases c with
  | mk m i =>
    rcases mem_putN hp with h | h
    · rw [h]; exact hc m i rfl
    · exact hl p h
  | rm m => exact hl p (mem_dropN hp)
  | rn o m =>
    obtain ⟨i, hi⟩ := Option.isSome_iff_exists.mp (show (getN l o).isSome = true from ho)
    rcases mem_putN hp with h | h
    · rw [h, hi]
      exact hl _ (getN_mem hi)
    · exact hl p (mem_dropN h)
theorem replay_snoc (l : Nms) (cs : List Chg) (c : Chg) : replay l (cs ++ [c]) = beh (replay l cs) c := by
  unfold replay
  rw [List.foldl_append]
  rfl
theorem okL_at : ∀ {l : Nms} {cs : List Chg}, okL l cs → ∀ k, (replay l (cs.take k)).length ≤ 8 ∧ ∀ c, cs[k]? = some c → okC (replay l (cs.take k)) c
  | l, [], h, k => by
    rw [List.take_nil]
    exact ⟨h, fun c q => by simp at q⟩
  | l, d :: r, h, 0 => ⟨h.1, fun c q => by
    have : d = c := by simpa using q
    rw [← this]
    exact h.2.1⟩
  | l, d :: r, h, k + 1 => okL_at h.2.2 k
theorem okL_ids : ∀ {l : Nms} {cs : List Chg} {n : Nat}, okL l cs → (∀ p ∈ l, p.2 < n) → (∀ m i, Chg.mk m i ∈ cs → i < n) → ∀ k, ∀ p ∈ replay l (cs.take k), p.2 < n
  | l, [], n, h, h1, h2, k => by
    rw [List.take_nil]
    exact h1
  | l, d :: r, n, h, h1, h2, 0 => h1
  | l, d :: r, n, h, h1, h2, k + 1 => okL_ids h.2.2 (beh_id h1 (fun m i e => h2 m i (e ▸ List.mem_cons_self)) h.2.1) (fun m i e => h2 m i (List.mem_cons_of_mem _ e)) k
theorem okL_snoc : ∀ {l : Nms} {cs : List Chg} {c : Chg}, okL l cs → okC (replay l cs) c → (beh (replay l cs) c).length ≤ 8 → okL l (cs ++ [c])
  | l, [], c, h, h1, h2 => ⟨h, h1, h2⟩
  | l, d :: r, c, h, h1, h2 => ⟨h.1, h.2.1, okL_snoc (l := beh l d) (cs := r) h.2.2 h1 h2⟩
/-! ### disks in order -/
section
variable {b : Nat} {s : DSt}
theorem WF.now8 (w : WF b s) : (now s).length ≤ 8 := by
  have := (okL_at w.ok s.chg.length).1
  rw [List.take_length] at this
  exact this
theorem WF.ids (w : WF b s) : ∀ p ∈ now s, p.2 < s.files.length := by
  have := okL_ids w.ok w.idf w.idc s.chg.length
  rw [List.take_length] at this
  exact this
theorem WF.idAt (w : WF b s) {z : Str} {i : Nat} (h : getN (now s) z = some i) : i < s.files.length := w.ids _ (getN_mem h)
theorem WF.loss8 (w : WF b s) (cs : List Nat) : (atLoss s cs).length ≤ 8 := (okL_at w.ok _).1
theorem WF.lossIds (w : WF b s) (cs : List Nat) : ∀ p ∈ atLoss s cs, p.2 < s.files.length := okL_ids w.ok w.idf w.idc _
theorem WF.file (w : WF b s) {i : Nat} (h : i < s.files.length) : (s.files.getD i ("", 0)).2 ≤ (s.files.getD i ("", 0)).1.length ∧ (s.files.getD i ("", 0)).1.length ≤ 4 * b := by
  rw [List.getD_eq_getElem?_getD, List.getElem?_eq_getElem h]
  exact w.fl _ (List.getElem_mem h)
theorem wf_new {p : Option Int} (h : PwOk p) (b : Nat) : WF b (newD p) := ⟨Nat.zero_le _, (fun p hp => nomatch hp), (fun n i h => nomatch h), (fun f h => nomatch h), Nat.zero_le _, Nat.zero_le _, Nat.zero_le _, h, (fun p hp => nomatch hp), (fun c hc => nomatch hc)⟩
theorem wf_more (w : WF b s) {c : Nat} (h : b ≤ c) : WF c s := ⟨w.ok, w.idf, w.idc, fun f hf => ⟨(w.fl f hf).1, Nat.le_trans (w.fl f hf).2 (by omega)⟩, by have := w.nf; omega, by have := w.nc; omega, by have := w.ns; omega, w.pw, w.nmf, w.nmc⟩
theorem step1_wf {s' : DSt} (w : WF b s) (h : step1 s = .ok s') : s' = { s with steps := s.steps + 1 } ∧ ∀ p, s.power = some p → (s.steps : Int) < p := by
  unfold step1 at h
  cases q : s.power with
  | none =>
    rw [q] at h
    exact ⟨(Except.ok.inj h).symm, fun p e => by cases e⟩
  | some p =>
    rw [q] at h
    by_cases hp : p ≤ (s.steps : Int)
    · simp only [hp, if_true] at h
      cases h
    · simp only [hp, if_false] at h
      exact ⟨(Except.ok.inj h).symm, fun p' e => by cases e; omega⟩
theorem name_putN {l : Nms} {z : Str} {i : Nat} {p : Str × Nat} (h : p ∈ putN l z i) : p.1 = z ∨ ∃ q ∈ l, q.1 = p.1 := by
  unfold putN at h
  split at h
  · obtain ⟨q, hq, e⟩ := List.mem_map.mp h
    split at e
    · exact .inr ⟨q, hq, by rw [← e]⟩
    · exact .inr ⟨q, hq, by rw [e]⟩
  · rcases List.mem_append.mp h with h | h
    · exact .inr ⟨p, h, rfl⟩
    · exact .inl (by rw [List.mem_singleton.mp h])
theorem beh_name {l : Nms} {c : Chg} (hl : ∀ p ∈ l, NmZ p.1) (hc : nmC c) : ∀ p ∈ beh l c, NmZ p.1 := by
  intro p hp
  cases c with
  | mk m i =>
    rcases name_putN hp with h | ⟨q, hq, e⟩
    · rw [h]; exact hc
    · rw [← e]; exact hl q hq
  | rm m => exact hl p (mem_dropN hp)
  | rn o m =>
    rcases name_putN hp with h | ⟨q, hq, e⟩
    · rw [h]; exact hc
    · rw [← e]; exact hl q (mem_dropN hq)
theorem replay_name : ∀ {l : Nms} {cs : List Chg}, (∀ p ∈ l, NmZ p.1) → (∀ c ∈ cs, nmC c) → ∀ k, ∀ p ∈ replay l (cs.take k), NmZ p.1
  | l, [], h1, h2, k => by
    rw [List.take_nil]
    exact h1
  | l, d :: r, h1, h2, 0 => h1
  | l, d :: r, h1, h2, k + 1 => replay_name (l := beh l d) (cs := r) (beh_name h1 (h2 d List.mem_cons_self)) (fun c hc => h2 c (List.mem_cons_of_mem _ hc)) k
theorem WF.nowN (w : WF b s) : ∀ p ∈ now s, NmZ p.1 := by
  have := replay_name w.nmf w.nmc s.chg.length
  rw [List.take_length] at this
  exact this
theorem WF.lossN (w : WF b s) (cs : List Nat) : ∀ p ∈ atLoss s cs, NmZ p.1 := replay_name w.nmf w.nmc _
theorem nmc_snoc {cs : List Chg} {c : Chg} (h : ∀ c ∈ cs, nmC c) (hc : nmC c) : ∀ d ∈ cs ++ [c], nmC d := fun d hd => by
  rcases List.mem_append.mp hd with hd | hd
  · exact h d hd
  · rw [List.mem_singleton.mp hd]; exact hc
theorem set_file {l : List (Str × Nat)} {i : Nat} {f g : Str × Nat} (h : g ∈ l.set i f) : g = f ∨ g ∈ l := by
  rcases List.mem_or_eq_of_mem_set h with h | h
  · exact .inr h
  · exact .inl h
theorem getK_inr {k : Key} {i : Nat} (h : getK s k = some i) : ∃ z, k = .inr z ∧ getN (now s) z = some i := by
  cases k with
  | inl j => cases h
  | inr z => exact ⟨z, rfl, h⟩
theorem getK_val (e : Nat → V) (k : Key) : valV (nmE e (now s)) k = (getK s k).map e := by
  cases k with
  | inl i => exact valV_nmI e i _
  | inr z => exact valV_nm e z _
end
theorem len_ap (a b : Str) : (a ++ b).length = a.length + b.length := Sm.len_app ..
/-- what a deed leaves is in order -/
theorem deed_wf {b : Nat} {s s' : DSt} {dd : Deed} (w : WF b s) (ho : DdOk dd) (h : deed s dd = .ok s') : WF (b + 1) s' := by
  have w1 := wf_more w (Nat.le_succ b)
  cases dd with
  | app n t =>
    obtain ⟨_, ht, _, hzz⟩ := ho
    have h : doApp s n t = .ok s' := h
    unfold doApp at h
    by_cases h1 : nameK n = false
    · rw [if_pos h1] at h; cases h
    rw [if_neg h1] at h
    by_cases h2 : textK t = false
    · rw [if_pos h2] at h; cases h
    rw [if_neg h2] at h
    cases n with
    | inl i => exact absurd rfl h1
    | inr z =>
      cases t with
      | inl i => exact absurd rfl h2
      | inr x =>
        have hx : x.length ≤ 4 := (ht x rfl).1
        simp only at h
        by_cases h3 : getN (now s) z = none ∧ 8 ≤ (now s).length
        · rw [if_pos h3] at h; cases h
        rw [if_neg h3] at h
        cases q : step1 s with
        | error e => rw [q] at h; cases h
        | ok s1 =>
          rw [q] at h
          obtain ⟨e1, _⟩ := step1_wf w q
          have e2 : s' = putText s1 z x := (Except.ok.inj h).symm
          subst e2 e1
          unfold putText
          have en : now { s with steps := s.steps + 1 } = now s := rfl
          rw [en]
          cases g : getN (now s) z with
          | some i =>
            have hi := w.idAt g
            refine ⟨w1.ok, fun p hp => ?_, fun n j hj => ?_, fun f hf => ?_, ?_, w1.nc, ?_, w.pw, w.nmf, w.nmc⟩
            · show p.2 < (s.files.set _ _).length
              rw [List.length_set]; exact w.idf p hp
            · show j < (s.files.set _ _).length
              rw [List.length_set]; exact w.idc n j hj
            · rcases set_file hf with rfl | hf
              · have := w.file hi
                show _ ≤ ((s.files.getD i ("", 0)).1 ++ x).length ∧ ((s.files.getD i ("", 0)).1 ++ x).length ≤ _
                rw [len_ap]
                exact ⟨Nat.le_trans this.1 (by omega), by omega⟩
              · exact w1.fl f hf
            · show (s.files.set _ _).length ≤ _
              rw [List.length_set]; exact w1.nf
            · show s.steps + 1 ≤ b + 1
              have := w.ns; omega
          | none =>
            have h8 : (now s).length < 8 := by
              rcases Nat.lt_or_ge (now s).length 8 with q8 | q8
              · exact q8
              · exact absurd ⟨g, q8⟩ h3
            have hnz : NmZ z := ⟨by
              cases q : nameS z with
              | true => rfl
              | false => exact absurd q h1, fun q => hzz (by rw [q])⟩
            refine ⟨okL_snoc w.ok trivial ?_, fun p hp => ?_, fun n j hj => ?_, fun f hf => ?_, ?_, ?_, ?_, w.pw, w.nmf, nmc_snoc w.nmc hnz⟩
            · have := putN_len (now s) z s.files.length
              show (putN (now s) z s.files.length).length ≤ 8
              omega
            · show p.2 < (s.files ++ [_]).length
              rw [List.length_append]; have := w.idf p hp; omega
            · show j < (s.files ++ [_]).length
              rw [List.length_append, List.length_singleton]
              rcases List.mem_append.mp hj with hj | hj
              · have := w.idc n j hj; omega
              · cases List.mem_singleton.mp hj
                exact Nat.lt_succ_self _
            · rcases List.mem_append.mp hf with hf | hf
              · exact w1.fl f hf
              · rw [List.mem_singleton.mp hf]
                refine ⟨Nat.zero_le _, ?_⟩
                show ("" ++ x : Str).length ≤ _
                rw [len_ap]
                have : (("" : Str)).length = 0 := rfl
                omega
            · show (s.files ++ [_]).length ≤ _
              rw [List.length_append, List.length_singleton]; have := w.nf; omega
            · show (s.chg ++ [_]).length ≤ _
              rw [List.length_append, List.length_singleton]; have := w.nc; omega
            · show s.steps + 1 ≤ b + 1
              have := w.ns; omega
  | syn n t =>
    have h : doSyn s n = .ok s' := h
    unfold doSyn at h
    cases g : getK s n with
    | none => rw [g] at h; cases h
    | some i =>
      rw [g] at h
      obtain ⟨z, _, hz⟩ := getK_inr g
      have hi := w.idAt hz
      cases q : step1 s with
      | error e => rw [q] at h; cases h
      | ok s1 =>
        rw [q] at h
        obtain ⟨e1, _⟩ := step1_wf w q
        have e2 : s' = syncAt s1 i := (Except.ok.inj h).symm
        subst e2 e1
        unfold syncAt
        refine ⟨w1.ok, fun p hp => ?_, fun n j hj => ?_, fun f hf => ?_, ?_, w1.nc, ?_, w.pw, w.nmf, w.nmc⟩
        · show p.2 < (s.files.set _ _).length
          rw [List.length_set]; exact w.idf p hp
        · show j < (s.files.set _ _).length
          rw [List.length_set]; exact w.idc n j hj
        · rcases set_file hf with rfl | hf
          · have := w.file hi
            exact ⟨Nat.le_refl _, Nat.le_trans this.2 (by omega)⟩
          · exact w1.fl f hf
        · show (s.files.set _ _).length ≤ _
          rw [List.length_set]; exact w1.nf
        · show s.steps + 1 ≤ b + 1
          have := w.ns; omega
  | rem n t =>
    have h : doRem s n = .ok s' := h
    unfold doRem at h
    cases n with
    | inl i => cases h
    | inr z =>
      simp only at h
      cases g : getN (now s) z with
      | none => rw [g] at h; cases h
      | some i =>
        rw [g] at h
        cases q : step1 s with
        | error e => rw [q] at h; cases h
        | ok s1 =>
          rw [q] at h
          obtain ⟨e1, _⟩ := step1_wf w q
          have e2 : s' = { s1 with chg := s1.chg ++ [.rm z] } := (Except.ok.inj h).symm
          subst e2 e1
          refine ⟨okL_snoc w.ok (by show (getN (now s) z).isSome = true; rw [g]; rfl) ?_, w1.idf, fun n j hj => ?_, w1.fl, w1.nf, ?_, ?_, w.pw, w.nmf, nmc_snoc w.nmc trivial⟩
          · have := dropN_len (now s) z
            have := w.now8
            show (dropN (now s) z).length ≤ 8
            omega
          · rcases List.mem_append.mp hj with hj | hj
            · exact w.idc n j hj
            · cases List.mem_singleton.mp hj
          · show (s.chg ++ [_]).length ≤ _
            rw [List.length_append, List.length_singleton]; have := w.nc; omega
          · show s.steps + 1 ≤ b + 1
            have := w.ns; omega
  | ren n t =>
    have h : doRen s n t = .ok s' := h
    unfold doRen at h
    cases n with
    | inl i => cases h
    | inr z =>
      simp only at h
      cases g : getN (now s) z with
      | none => rw [g] at h; cases h
      | some i =>
        rw [g] at h
        cases t with
        | inl j => cases h
        | inr y =>
          simp only at h
          by_cases h2 : nameS y = false
          · rw [if_pos h2] at h; cases h
          rw [if_neg h2] at h
          cases q : step1 s with
          | error e => rw [q] at h; cases h
          | ok s1 =>
            rw [q] at h
            obtain ⟨e1, _⟩ := step1_wf w q
            have e2 : s' = { s1 with chg := s1.chg ++ [.rn z y] } := (Except.ok.inj h).symm
            subst e2 e1
            have ho' : okC (now s) (.rn z y) := by show (getN (now s) z).isSome = true; rw [g]; rfl
            have hny : NmZ y := ⟨by
              cases q : nameS y with
              | true => rfl
              | false => exact absurd q h2, fun q => ho.2.2 (by rw [q])⟩
            refine ⟨okL_snoc w.ok ho' ?_, w1.idf, fun n j hj => ?_, w1.fl, w1.nf, ?_, ?_, w.pw, w.nmf, nmc_snoc w.nmc hny⟩
            · have h1 : (dropN (now s) z).length + 1 ≤ (now s).length := dropN_lt ho'
              have h2 := putN_len (dropN (now s) z) y ((getN (now s) z).getD 0)
              have := w.now8
              show (putN (dropN (now s) z) y ((getN (now s) z).getD 0)).length ≤ 8
              omega
            · rcases List.mem_append.mp hj with hj | hj
              · exact w.idc n j hj
              · cases List.mem_singleton.mp hj
            · show (s.chg ++ [_]).length ≤ _
              rw [List.length_append, List.length_singleton]; have := w.nc; omega
            · show s.steps + 1 ≤ b + 1
              have := w.ns; omega
  | nms n t =>
    have h : doNms s = .ok s' := h
    unfold doNms at h
    cases q : step1 s with
    | error e => rw [q] at h; cases h
    | ok s1 =>
      rw [q] at h
      obtain ⟨e1, _⟩ := step1_wf w q
      have e2 : s' = { s1 with firm := now s1, chg := [] } := (Except.ok.inj h).symm
      subst e2 e1
      exact ⟨w.now8, w.ids, (fun n i h => nomatch h), w1.fl, w1.nf, Nat.zero_le _, (by show s.steps + 1 ≤ b + 1; have := w.ns; omega), w.pw, w.nowN, (fun c hc => nomatch hc)⟩
/-! ### behind a loss -/
theorem cut_len {t : Str} {k : Nat} (h : k ≤ t.length) : (cutS t none (some ((k : Nat) : Int))).length = k := by
  have e : cutS t none (some ((k : Nat) : Int)) = cutS t (some ((0 : Nat) : Int)) (some ((k : Nat) : Int)) := rfl
  rw [e, TL.len_tl, Sm.cut_tl t 0 k, List.length_drop, List.length_take]
  rw [TL.len_tl] at h
  omega
theorem size_le (f : Str × Nat) (c : Nat) (h : f.2 ≤ f.1.length) : sizeAt f c ≤ f.1.length := by
  unfold sizeAt
  have := Nat.mod_lt c (show 0 < f.1.length - f.2 + 1 by omega)
  omega
theorem lostGo_wf {b : Nat} {s : DSt} {cs : List Nat} {l : Nms} (hf : ∀ f ∈ s.files, f.2 ≤ f.1.length ∧ f.1.length ≤ 4 * b) : ∀ (ys : List Str) (j : Nat) (d : DSt), j = d.files.length → d.chg = [] → d.steps = 0 → PwOk d.power →
    (∀ p ∈ d.firm, p.2 < d.files.length) → (∀ f ∈ d.files, f.2 ≤ f.1.length ∧ f.1.length ≤ 4 * b) → d.firm.length ≤ d.files.length → d.files.length + ys.length ≤ 8 → (∀ p ∈ d.firm, NmZ p.1) → (∀ z ∈ ys, NmZ z) → WF b (lostGo s l cs j ys d)
  | [], j, d, hj, h1, h2, h3, h4, h5, h6, h7, h8, h9 => by
    show WF b d
    refine ⟨by rw [h1]; show d.firm.length ≤ 8; simp only [List.length_nil] at h7; omega, h4, fun n i h => (by rw [h1] at h; cases h), h5, by simp only [List.length_nil] at h7; omega, by rw [h1]; exact Nat.zero_le _, by omega, h3, h8, (fun c hc => by rw [h1] at hc; cases hc)⟩
  | z :: r, j, d, hj, h1, h2, h3, h4, h5, h6, h7, h8, h9 => by
    have hs : sizeAt (s.files.getD ((getN l z).getD 0) ("", 0)) (cs.getD (j + 1) 0) ≤ (s.files.getD ((getN l z).getD 0) ("", 0)).1.length ∧ (s.files.getD ((getN l z).getD 0) ("", 0)).1.length ≤ 4 * b := by
      rw [List.getD_eq_getElem?_getD]
      cases q : s.files[(getN l z).getD 0]? with
      | none => exact ⟨size_le _ _ (Nat.le_refl _), Nat.zero_le _⟩
      | some f =>
        have := hf f (List.mem_of_getElem? q)
        exact ⟨size_le _ _ this.1, this.2⟩
    show WF b (lostGo s l cs (j + 1) r _)
    refine lostGo_wf hf r (j + 1) _ ?_ h1 h2 h3 (fun p hp => ?_) (fun f hf => ?_) ?_ ?_ (fun p hp => ?_) (fun y hy => h9 y (List.mem_cons_of_mem _ hy))
    · show j + 1 = (d.files ++ [_]).length
      rw [List.length_append, List.length_singleton, hj]
    · show p.2 < (d.files ++ [_]).length
      rw [List.length_append, List.length_singleton]
      rcases mem_putN hp with h | h
      · rw [h, hj]; omega
      · have := h4 p h; omega
    · rcases List.mem_append.mp hf with hf | hf
      · exact h5 f hf
      · rw [List.mem_singleton.mp hf]
        dsimp only
        rw [cut_len hs.1]
        exact ⟨Nat.le_refl _, Nat.le_trans hs.1 hs.2⟩
    · show (putN d.firm z j).length ≤ (d.files ++ [_]).length
      have := putN_len d.firm z j
      rw [List.length_append, List.length_singleton]; omega
    · show (d.files ++ [_]).length + r.length ≤ 8
      rw [List.length_append, List.length_singleton]
      simp only [List.length_cons] at h7
      omega
    · rcases name_putN hp with h | ⟨q, hq, e⟩
      · rw [h]; exact h9 z List.mem_cons_self
      · rw [← e]; exact h8 q hq
theorem lost_wf {b : Nat} {s : DSt} {cs : List Nat} {p : Option Int} {ys : List Str} (w : WF b s) (hp : PwOk p) (hy : Sm.Srt (keysN (atLoss s cs)) ys) : WF b (lostD s cs p ys) := by
  refine lostGo_wf w.fl ys 0 (newD p) rfl rfl rfl hp (fun p h => by cases h) (fun f h => by cases h) (Nat.le_refl _) ?_ (fun p h => by cases h) (fun z hz => ?_)
  · have h1 := hy.1.length_eq
    have h2 := w.loss8 cs
    have h3 : (keysN (atLoss s cs)).length = (atLoss s cs).length := List.length_map ..
    show 0 + ys.length ≤ 8
    omega
  · obtain ⟨p, hp, rfl⟩ := List.mem_map.mp (hy.1.subset hz)
    exact w.lossN cs p hp
end K59
namespace K59
open PySem PySem.Spec PyProof.Rows L2
/-! ### owned disks -/
section
variable {K : PySem.W.Frag} {h h1 H H1 H2 : Hp} {x : Addr} {a : DA} {s : DSt}
theorem slO_xd {p C d : Addr} {vs : List (Option V)} {ps : List (Str × V)} : SlX.SlO p C d vs ≠ .xd ps := fun z => by
  unfold SlX.SlO at z
  cases z
theorem slO_dK {p C d : Addr} {vs : List (Option V)} {ps : List (Key × V)} : SlX.SlO p C d vs ≠ .dK ps := fun z => by
  unfold SlX.SlO at z
  cases z
theorem slO_lst {p C d : Addr} {vs : List (Option V)} {ps : List V} : SlX.SlO p C d vs ≠ .lst ps := fun z => by
  unfold SlX.SlO at z
  cases z
theorem slO_tup {p C d : Addr} {vs : List (Option V)} {ps : List V} : SlX.SlO p C d vs ≠ .tup ps := fun z => by
  unfold SlX.SlO at z
  cases z
theorem nn {H : Hp} {a : Addr} {o : HO} (h : H a = some o) : H a ≠ none := fun z => nomatch (h.symm.trans z)
theorem off {p q : Addr} {o u : HO} (hp : h p = some o) (hq : h q = some u) (n : o ≠ u) : p ≠ q := fun z => by
  rw [z, hq] at hp
  exact n (Option.some.inj hp).symm
theorem keepAt {p q : Addr} {o u w : HO} (hp : h p = some o) (hq : h q = some u) (n : u ≠ o) : upd h q w p = some o := by
  rw [upd_ne (fun z => off hq hp n z.symm)]
  exact hp
theorem chgs_same {h h1 : Hp} {fa : Nat → Addr} {vs : List V} {cs : List Chg} (c : ChgsAt h fa vs cs) (e : Same h h1) : ChgsAt h1 fa vs cs := ⟨c.1, fun i d q => by
  obtain ⟨p, h1, h2⟩ := c.2 i d q
  exact ⟨p, h1, e _ _ h2⟩⟩
theorem DiskB.same (B : DiskB K h x a s) (e : Same h h1) : DiskB K h1 x a s := ⟨e _ _ B.firm, e _ _ B.nms, B.fn, e _ _ B.chgs, chgs_same B.each e, fun i t m q => ⟨(B.file i t m q).1.at e, (B.file i t m q).2⟩, B.inj⟩
theorem DiskH.same (D : DiskH K h x a s) (e : Same h h1) : DiskH K h1 x a s := ⟨D.toDiskB.same e, D.self.at e⟩
theorem DiskAt.same (D : DiskAt K h x s) (e : Same h h1) : DiskAt K h1 x s := by
  obtain ⟨a, D⟩ := D
  exact ⟨a, D.same e⟩
/-- the instance's own object changes -/
theorem DiskB.self_upd (B : DiskB K h x a s) {C d : Addr} {vs : List (Option V)} {o : HO} (hx : h x = some (SlX.SlO x C d vs)) : DiskB K (upd h x o) x a s := by
  refine ⟨keepAt B.firm hx slO_dK, keepAt B.nms hx slO_dK, B.fn, keepAt B.chgs hx slO_lst, ⟨B.each.1, fun i c q => ?_⟩, fun i t m q => ?_, B.inj⟩
  · obtain ⟨p, h1, h2⟩ := B.each.2 i c q
    exact ⟨p, h1, keepAt h2 hx slO_tup⟩
  · obtain ⟨⟨h1, h2⟩, h3⟩ := B.file i t m q
    exact ⟨⟨by rw [upd_ne h3]; exact h1, keepAt h2 hx slO_xd⟩, h3⟩
theorem DiskH.put (D : DiskH K h x a s) {a' : DA} {s' : DSt} (B : DiskB K h x a' s') (e : a'.dx = a.dx) : DiskH K (upd h x (SlX.SlO x (He.ga K "Disk") a.dx (dsl a' s'))) x a' s' := ⟨B.self_upd D.self.1, by
  refine ⟨by rw [e]; exact upd_same, ?_⟩
  rw [e]
  exact keepAt D.self.2 D.self.1 slO_xd⟩
/-- a file's object changes -/
theorem DiskH.file_put (D : DiskH K h x a s) {i : Nat} {t t' : Str} {m m' : Nat} (hi : s.files[i]? = some (t, m)) : DiskH K (upd h (a.fa i) (SlX.SlO (a.fa i) (He.ga K "DiskFile") (a.fd i) [some (.int (m' : Nat)), some (.str t')])) x a { s with files := s.files.set i (t', m') } := by
  obtain ⟨⟨p1, p2⟩, p3⟩ := D.file i t m hi
  refine ⟨⟨keepAt D.firm p1 slO_dK, keepAt D.nms p1 slO_dK, D.fn, keepAt D.chgs p1 slO_lst, ⟨D.each.1, fun j c q => ?_⟩, fun j t2 m2 q => ?_, ?_⟩, ⟨by rw [upd_ne (Ne.symm p3)]; exact D.self.1, keepAt D.self.2 p1 slO_xd⟩⟩
  · obtain ⟨p, h1, h2⟩ := D.each.2 j c q
    exact ⟨p, h1, keepAt h2 p1 slO_tup⟩
  · have q' : (s.files.set i (t', m'))[j]? = some (t2, m2) := q
    have hil := (List.getElem?_eq_some_iff.mp hi).1
    by_cases hj : j = i
    · subst hj
      rw [List.getElem?_set_self hil] at q'
      cases q'
      exact ⟨⟨upd_same, keepAt p2 p1 slO_xd⟩, p3⟩
    · rw [List.getElem?_set_ne (Ne.symm hj)] at q'
      obtain ⟨⟨r1, r2⟩, r3⟩ := D.file j t2 m2 q'
      have hjl := (List.getElem?_eq_some_iff.mp q').1
      have hne : a.fa j ≠ a.fa i := fun z => hj (D.inj j i hjl hil z)
      exact ⟨⟨by rw [upd_ne hne]; exact r1, keepAt r2 p1 slO_xd⟩, r3⟩
  · show ∀ i' j, i' < (s.files.set i _).length → j < (s.files.set i _).length → _
    rw [List.length_set]
    exact D.inj
/-- one more file -/
def DA.more (a : DA) (n : Nat) (p d : Addr) : DA := { a with fa := fun i => if i = n then p else a.fa i, fd := fun i => if i = n then d else a.fd i }
theorem more_old {n i : Nat} {p d : Addr} (h : i ≠ n) : (a.more n p d).fa i = a.fa i := if_neg h
theorem more_fd {n i : Nat} {p d : Addr} (h : i ≠ n) : (a.more n p d).fd i = a.fd i := if_neg h
theorem more_new {n : Nat} {p d : Addr} : (a.more n p d).fa n = p := if_pos rfl
theorem more_newd {n : Nat} {p d : Addr} : (a.more n p d).fd n = d := if_pos rfl
theorem more_r {n : Nat} {p d : Addr} {l : Nms} (h : ∀ q ∈ l, q.2 < n) : nmE (a.more n p d).r l = nmE a.r l := nm_congr fun q hq => by
  have := h q hq
  show V.ref _ = V.ref _
  rw [more_old (by omega)]
theorem DiskH.file_new (D : DiskH K h x a s) {p d : Addr} {t : Str} {m : Nat} (w : ∀ q ∈ now s, q.2 < s.files.length) (wf : ∀ q ∈ s.firm, q.2 < s.files.length) (wc : ∀ n i, Chg.mk n i ∈ s.chg → i < s.files.length) (e : Same h h1) (hn : h p = none) (hf : FileAt K h1 p d t m) :
    DiskH K h1 x (a.more s.files.length p d) { s with files := s.files ++ [(t, m)] } := by
  have nx : ∀ q u, h q = some u → q ≠ p := fun q u hq z => by rw [z, hn] at hq; cases hq
  refine ⟨⟨by rw [more_r wf]; exact e _ _ D.firm, by
      show h1 a.n = some (.dK (nmE _ (now s)))
      rw [more_r w]; exact e _ _ D.nms, D.fn, e _ _ D.chgs, ⟨D.each.1, fun j c q => ?_⟩, fun j t2 m2 q => ?_, ?_⟩, ⟨e _ _ D.self.1, e _ _ D.self.2⟩⟩
  · obtain ⟨r, r1, r2⟩ := D.each.2 j c q
    refine ⟨r, r1, ?_⟩
    have hc : ChgV (a.more s.files.length p d).fa c = ChgV a.fa c := by
      cases c with
      | mk n i =>
        have := wc n i (List.mem_of_getElem? q)
        show [_, _, V.ref _] = [_, _, V.ref _]
        rw [more_old (by omega)]
      | rm n => rfl
      | rn o n => rfl
    rw [hc]
    exact e _ _ r2
  · have q' : (s.files ++ [(t, m)])[j]? = some (t2, m2) := q
    rcases Nat.lt_trichotomy j s.files.length with hj | hj | hj
    · rw [List.getElem?_append_left hj] at q'
      obtain ⟨r1, r2⟩ := D.file j t2 m2 q'
      rw [more_old (by omega), more_fd (by omega)]
      exact ⟨r1.at e, r2⟩
    · subst hj
      rw [List.getElem?_append_right (Nat.le_refl _), Nat.sub_self] at q'
      cases q'
      rw [more_new, more_newd]
      exact ⟨hf, (nx x _ D.self.1).symm⟩
    · rw [List.getElem?_eq_none (by rw [List.length_append, List.length_singleton]; omega)] at q'
      cases q'
  · intro i j hi hj z
    have hi : i < (s.files ++ [(t, m)]).length := hi
    have hj : j < (s.files ++ [(t, m)]).length := hj
    rw [List.length_append, List.length_singleton] at hi hj
    have old : ∀ k, k < s.files.length → a.fa k ≠ p := fun k hk => nx _ _ (D.file k _ _ (List.getElem?_eq_getElem hk)).1.1
    by_cases ei : i = s.files.length
    · by_cases ej : j = s.files.length
      · rw [ei, ej]
      · rw [ei, more_new, more_old ej] at z
        exact absurd z.symm (old j (by omega))
    · by_cases ej : j = s.files.length
      · rw [ej, more_new, more_old ei] at z
        exact absurd z (old i (by omega))
      · rw [more_old ei, more_old ej] at z
        exact D.inj i j (by omega) (by omega) z
/-- a change is noted -/
theorem DiskB.chg_put (B : DiskB K h x a s) {ch : Chg} {t n' : Addr} (ht : h t = some (.tup (ChgV a.fa ch))) (hn : h n' = some (.dK (nmE a.r (beh (now s) ch)))) (hfn : a.f ≠ n') :
    DiskB K (upd h a.c (.lst (a.cs ++ [.ref t]))) x { a with n := n', cs := a.cs ++ [.ref t] } { s with chg := s.chg ++ [ch] } := by
  have hc := B.chgs
  have en : now { s with chg := s.chg ++ [ch] } = beh (now s) ch := replay_snoc ..
  refine ⟨keepAt B.firm hc (fun z => nomatch z), by rw [en]; exact keepAt hn hc (fun z => nomatch z), hfn, upd_same, ⟨?_, fun i c q => ?_⟩, fun i t2 m q => ?_, B.inj⟩
  · show (a.cs ++ [_]).length = (s.chg ++ [_]).length
    rw [List.length_append, List.length_append, B.each.1]; rfl
  · have q' : (s.chg ++ [ch])[i]? = some c := q
    rcases Nat.lt_trichotomy i s.chg.length with hi | hi | hi
    · rw [List.getElem?_append_left hi] at q'
      obtain ⟨r, r1, r2⟩ := B.each.2 i c q'
      refine ⟨r, ?_, keepAt r2 hc (fun z => nomatch z)⟩
      show (a.cs ++ [_])[i]? = _
      rw [List.getElem?_append_left (by rw [B.each.1]; exact hi)]
      exact r1
    · subst hi
      rw [List.getElem?_append_right (Nat.le_refl _), Nat.sub_self] at q'
      cases q'
      refine ⟨t, ?_, keepAt ht hc (fun z => nomatch z)⟩
      show (a.cs ++ [_])[s.chg.length]? = _
      rw [← B.each.1, List.getElem?_append_right (Nat.le_refl _), Nat.sub_self]; rfl
    · rw [List.getElem?_eq_none (by rw [List.length_append, List.length_singleton]; omega)] at q'
      cases q'
  · obtain ⟨⟨r1, r2⟩, r3⟩ := B.file i t2 m q
    exact ⟨⟨keepAt r1 hc (fun z => slO_lst z.symm), keepAt r2 hc (fun z => nomatch z)⟩, r3⟩
end
theorem self_put {K : PySem.W.Frag} {h : Hp} {x : Addr} {a' : DA} {s' : DSt} {vs : List (Option V)} (B : DiskB K h x a' s') (hi : Sm.IsS h x (He.ga K "Disk") a'.dx vs) : DiskH K (upd h x (SlX.SlO x (He.ga K "Disk") a'.dx (dsl a' s'))) x a' s' := ⟨B.self_upd hi.1, ⟨upd_same, keepAt hi.2 hi.1 slO_xd⟩⟩
theorem DiskH.fileAt {K : PySem.W.Frag} {h : Hp} {x : Addr} {a : DA} {s : DSt} {b i : Nat} {z : Str} (D : DiskH K h x a s) (w : WF b s) (g : getN (now s) z = some i) : ∃ t m, s.files[i]? = some (t, m) ∧ s.files.getD i ("", 0) = (t, m) ∧ FileAt K h (a.fa i) (a.fd i) t m ∧ a.fa i ≠ x ∧ valV (nmE a.r (now s)) (.inr z) = some (.ref (a.fa i)) ∧ t.length ≤ 4 * b := by
  have hi := w.idAt g
  have e := List.getElem?_eq_getElem hi
  have hl := (w.fl _ (List.getElem_mem hi)).2
  cases q : s.files[i] with
  | mk t m =>
    rw [q] at e hl
    refine ⟨t, m, e, ?_, (D.file i t m e).1, (D.file i t m e).2, by rw [valV_nm, g]; rfl, hl⟩
    rw [List.getD_eq_getElem?_getD, e]
    rfl
theorem none_of {h H : Hp} {q : Addr} (e : Same h H) (n : H q = none) : h q = none := by
  cases z : h q with
  | none => rfl
  | some o => rw [e _ _ z] at n; cases n
theorem er_mv {K : PySem.W.Frag} {H H1 : Hp} {e : Er} {E : XK} (s : Same H H1) (h : ErAt K e H E) : ErAt K e H1 E := by
  cases e with
  | name => exact fun H' q => h H' (s.trans q)
  | op => exact fun H' q => h H' (s.trans q)
  | unk k => exact fun d H' q => h d H' (s.trans q)
  | many => exact fun d H' q => h d H' (s.trans q)
  | lost p => exact fun d H' q => h d H' (s.trans q)
theorem wf_step {b : Nat} {s : DSt} (w : WF b s) : WF (b + 1) { s with steps := s.steps + 1 } := by
  have w1 := wf_more w (Nat.le_succ b)
  exact ⟨w1.ok, w1.idf, w1.idc, w1.fl, w1.nf, w1.nc, Nat.succ_le_succ w.ns, w1.pw, w.nmf, w.nmc⟩
theorem wf_mk {b : Nat} {s : DSt} {z : Str} (w : WF b s) (g : getN (now s) z = none) (h8 : (now s).length < 8) (hz : NmZ z) : WF (b + 1) { s with steps := s.steps + 1, files := s.files ++ [(Str.ofString "", 0)], chg := s.chg ++ [.mk z s.files.length] } := by
  have w1 := wf_more w (Nat.le_succ b)
  refine ⟨okL_snoc w.ok trivial ?_, fun p hp => ?_, fun n j hj => ?_, fun f hf => ?_, ?_, ?_, ?_, w.pw, w.nmf, nmc_snoc w.nmc hz⟩
  · have := putN_len (now s) z s.files.length
    show (putN (now s) z s.files.length).length ≤ 8
    omega
  · show p.2 < (s.files ++ [_]).length
    rw [List.length_append]; have := w.idf p hp; omega
  · show j < (s.files ++ [_]).length
    rw [List.length_append, List.length_singleton]
    rcases List.mem_append.mp hj with hj | hj
    · have := w.idc n j hj; omega
    · cases List.mem_singleton.mp hj
      exact Nat.lt_succ_self _
  · rcases List.mem_append.mp hf with hf | hf
    · exact w1.fl f hf
    · rw [List.mem_singleton.mp hf]
      exact ⟨Nat.le_refl _, Nat.zero_le _⟩
  · show (s.files ++ [_]).length ≤ _
    rw [List.length_append, List.length_singleton]; have := w.nf; omega
  · show (s.chg ++ [_]).length ≤ _
    rw [List.length_append, List.length_singleton]; have := w.nc; omega
  · show s.steps + 1 ≤ b + 1
    have := w.ns; omega
theorem doRem_no {s : DSt} {k : Key} (h : getK s k = none) : doRem s k = .error (.unk k) := by
  cases k with
  | inl i => rfl
  | inr z =>
    have h : getN (now s) z = none := h
    unfold doRem
    simp only [h]
theorem doRen_no {s : DSt} {k t : Key} (h : getK s k = none) : doRen s k t = .error (.unk k) := by
  cases k with
  | inl i => rfl
  | inr z =>
    have h : getN (now s) z = none := h
    unfold doRen
    simp only [h]
theorem getN_put (z : Str) (i : Nat) (l : Nms) : getN (putN l z i) z = some i := by
  have h := valV_nm (fun j => .int (j : Nat)) z (putN l z i)
  rw [← putK_nm, valV_put, if_pos rfl] at h
  cases g : getN (putN l z i) z with
  | none => rw [g] at h; cases h
  | some j =>
    rw [g] at h
    have h : V.int ((i : Nat) : Int) = V.int ((j : Nat) : Int) := Option.some.inj h
    have := V.int.inj h
    exact congrArg some (by omega)
/-- a store into the instance -/
theorem disk_put {K : PySem.W.Frag} {h H H' : Hp} {x : Addr} {a a' : DA} {s s' : DSt} {vs : List (Option V)} (D : DiskH K h x a s) (hh : Same h H) (B : DiskB K h x a' s') (e : a'.dx = a.dx) (hs : Same (Sm.dl H x) H') (hi : Sm.IsS H' x (He.ga K "Disk") a.dx vs) (ev : vs = dsl a' s') :
    Sm.Step h H (upd h x (SlX.SlO x (He.ga K "Disk") a.dx (dsl a' s'))) H' ∧ DiskH K (upd h x (SlX.SlO x (He.ga K "Disk") a.dx (dsl a' s'))) x a' s' :=
  ⟨(Sm.Step.refl hh).mut (by rw [D.self.1]; exact fun z => nomatch z) hs (by rw [← ev]; exact hi.1), D.put B e⟩
section
variable {G G1 G2 : Hp} {x dx b : Addr} {o : HO}
def Fr2 (x dx : Addr) (G G1 : Hp) : Prop := Same (Sm.dl (Sm.dl G x) dx) G1
theorem Fr2.get (F : Fr2 x dx G G1) (h : G b = some o) (h1 : b ≠ x) (h2 : b ≠ dx) : G1 b = some o := F b o (by rw [Sm.dl_ne h2, Sm.dl_ne h1]; exact h)
theorem fr2_in {b : Addr} {o : HO} (h : Sm.dl (Sm.dl G x) dx b = some o) : b ≠ x ∧ b ≠ dx ∧ G b = some o := by
  have h2 : b ≠ dx := fun z => by
    subst z
    unfold Sm.dl at h
    rw [if_pos rfl] at h
    cases h
  rw [Sm.dl_ne h2] at h
  have h1 : b ≠ x := fun z => by
    subst z
    unfold Sm.dl at h
    rw [if_pos rfl] at h
    cases h
  rw [Sm.dl_ne h1] at h
  exact ⟨h1, h2, h⟩
theorem Fr2.same (F : Fr2 x dx G G1) (e : Same G1 G2) : Fr2 x dx G G2 := fun b o h => e _ _ (F b o h)
theorem Fr2.put (F : Fr2 x dx G G1) (e : Same (Sm.dl G1 x) G2) : Fr2 x dx G G2 := fun b o h => by
  obtain ⟨h1, h2, h3⟩ := fr2_in h
  exact e _ _ ((Sm.dl_ne h1).trans (F b o h))
theorem Fr2.put2 (F : Fr2 x dx G G1) (e : Same (Sm.dl (Sm.dl G1 x) dx) G2) : Fr2 x dx G G2 := fun b o h => by
  obtain ⟨h1, h2, h3⟩ := fr2_in h
  exact Fr2.get e (F b o h) h1 h2
theorem fr2_refl (e : Same G G1) : Fr2 x dx G G1 := fun b o h => e _ _ (fr2_in h).2.2
end
/-- a new disk's things -/
def own5 (H : Hp) (x dx p q r : Addr) : Hp := fun b => if b = x ∨ b = dx ∨ b = p ∨ b = q ∨ b = r then H b else none
theorem own5_step {H H' : Hp} {x dx p q r : Addr} (F : Fr2 x dx H H') (hp : H p = none) (hq : H q = none) (hr : H r = none) : Sm.Step (two H x dx) H (own5 H' x dx p q r) H' := by
  refine ⟨fun b o h => ?_, fun b o h1 h2 => ?_⟩
  · unfold own5 at h
    split at h
    · exact h
    · cases h
  · have e1 : b ≠ x := fun z => by
      subst z
      unfold two at h1
      rw [if_pos rfl, h2] at h1
      cases h1
    have e2 : b ≠ dx := fun z => by
      subst z
      unfold two at h1
      rw [if_neg e1, if_pos rfl, h2] at h1
      cases h1
    refine ⟨F.get h2 e1 e2, ?_⟩
    unfold own5
    rw [if_neg]
    rintro (z | z | z | z | z)
    · exact e1 z
    · exact e2 z
    · rw [z, hp] at h2; cases h2
    · rw [z, hq] at h2; cases h2
    · rw [z, hr] at h2; cases h2
theorem own5_at {H : Hp} {x dx p q r b : Addr} (h : b = x ∨ b = dx ∨ b = p ∨ b = q ∨ b = r) : own5 H x dx p q r b = H b := if_pos h
theorem disk_new {K : PySem.W.Frag} {H : Hp} {x dx p q r : Addr} {w : Option Int} {vs : List (Option V)} (hi : Sm.IsS H x (He.ga K "Disk") dx vs) (ev : vs = [some (.ref r), some (.ref p), some (.ref q), some (pwV w), some (.int 0)]) (hp : H p = some (.dK [])) (hq : H q = some (.dK [])) (hr : H r = some (.lst [])) (n : p ≠ q) : DiskAt K (own5 H x dx p q r) x (newD w) := by
  subst ev
  refine ⟨⟨dx, p, q, r, fun _ => 0, fun _ => 0, []⟩, ⟨⟨?_, ?_, n, ?_, ⟨rfl, fun i c h => by cases h⟩, (fun i t m h => by cases h), (fun i j h => by cases h)⟩, ⟨?_, ?_⟩⟩⟩
  · rw [own5_at (by simp)]; exact hp
  · rw [own5_at (by simp)]; exact hq
  · rw [own5_at (by simp)]; exact hr
  · rw [own5_at (by simp)]; exact hi.1
  · rw [own5_at (by simp)]; exact hi.2
theorem init_new {G h6 H6 : Hp} {y dy : Addr} {o u : HO} (ny : G y = none) (nd : G dy = none) (st : Sm.Step (two (upd (upd G dy o) y u) y dy) (upd (upd G dy o) y u) h6 H6) : Same G H6 ∧ ∀ b, G b ≠ none → h6 b = none := by
  have k : ∀ b w, G b = some w → H6 b = some w ∧ h6 b = none := fun b w e => by
    have h1 : b ≠ y := fun z => by rw [z, ny] at e; cases e
    have h2 : b ≠ dy := fun z => by rw [z, nd] at e; cases e
    refine st.2 b w ?_ (by rw [upd_ne h1, upd_ne h2]; exact e)
    unfold two
    rw [if_neg h1, if_neg h2]
  refine ⟨fun b w e => (k b w e).1, fun b hb => ?_⟩
  cases e : G b with
  | none => exact absurd e hb
  | some w => exact (k b w e).2
/-- what is new since H -/
def newOf (H G : Hp) : Hp := fun b => match H b with
  | none => G b
  | some _ => none
theorem newOf_at {H G : Hp} {b : Addr} (h : H b = none) : newOf H G b = G b := by unfold newOf; rw [h]
theorem newOf_sub {H G : Hp} : Same (newOf H G) G := fun b o h => by
  unfold newOf at h
  cases e : H b with
  | none => rw [e] at h; exact h
  | some w => rw [e] at h; cases h
theorem newOf_old {H G : Hp} {b : Addr} (h : H b ≠ none) : newOf H G b = none := by
  unfold newOf
  cases e : H b with
  | none => exact absurd e h
  | some w => rfl
theorem ti_ext {K : PySem.W.Frag} {H : Hp} {it : Addr} {xs : List V} {i : Nat} (h : Sm.TiAt K H it xs i) : ∃ φ, H it = some (.ext φ) := by
  rcases h with ⟨t, h, _⟩ | ⟨j, h, _⟩
  · exact ⟨_, h⟩
  · exact ⟨_, h⟩
/-- a disk that a loss leaves, as far as it is made; H: the heap ahead of it, it: the iterator -/
structure LostI (K : PySem.W.Frag) (H G : Hp) (it y : Addr) (a : DA) (p : Option Int) (d : DSt) : Prop where
  e : Same H G
  self : Sm.IsS G y (He.ga K "Disk") a.dx (dsl a (newD p))
  nms : G a.n = some (.dK (nmE a.r d.firm))
  chgs : G a.c = some (.lst [])
  file : ∀ i t m, d.files[i]? = some (t, m) → FileAt K G (a.fa i) (a.fd i) t m ∧ a.fa i ≠ y ∧ a.fa i ≠ it ∧ H (a.fa i) = none ∧ H (a.fd i) = none
  inj : ∀ i j, i < d.files.length → j < d.files.length → a.fa i = a.fa j → i = j
  new : H y = none ∧ H a.dx = none ∧ H a.n = none ∧ H a.c = none ∧ y ≠ it
  ids : ∀ q ∈ d.firm, q.2 < d.files.length
section
variable {K : PySem.W.Frag} {H G G1 G2 : Hp} {it y : Addr} {a : DA} {p : Option Int} {d : DSt}
theorem LostI.same (I : LostI K H G it y a p d) (e : Same G G1) : LostI K H G1 it y a p d := ⟨I.e.trans e, I.self.at e, e _ _ I.nms, e _ _ I.chgs, fun i t m q => ⟨(I.file i t m q).1.at e, (I.file i t m q).2⟩, I.inj, I.new, I.ids⟩
theorem LostI.turn (I : LostI K H G it y a p d) {φ : Heap → Prop} (hi : G it = some (.ext φ)) (hn : H it = none) (e : Same (Sm.dl G it) G1) : LostI K H G1 it y a p d := by
  have k : ∀ b o, G b = some o → b ≠ it → G1 b = some o := fun b o h n => e b o ((Sm.dl_ne n).trans h)
  have kk : ∀ b o, G b = some o → (∀ ψ, o ≠ .ext ψ) → G1 b = some o := fun b o h n => k b o h fun z => by
    rw [z, hi] at h
    exact n φ (Option.some.inj h).symm
  refine ⟨fun b o h => k b o (I.e b o h) (fun z => by rw [z, hn] at h; cases h), ⟨k _ _ I.self.1 I.new.2.2.2.2, kk _ _ I.self.2 (fun ψ z => nomatch z)⟩, kk _ _ I.nms (fun ψ z => nomatch z), kk _ _ I.chgs (fun ψ z => nomatch z), fun i t m q => ?_, I.inj, I.new, I.ids⟩
  obtain ⟨f1, f2, f3, f4⟩ := I.file i t m q
  exact ⟨⟨k _ _ f1.1 f3, kk _ _ f1.2 (fun ψ z => nomatch z)⟩, f2, f3, f4⟩
theorem LostI.file_put (I : LostI K H G it y a p d) {q dd : Addr} {z t : Str} {m : Nat} {φ : Heap → Prop} (hi : G it = some (.ext φ)) (nq : G q = none) (nd : G dd = none) (e : Same G G1) (f : FileAt K G1 q dd t m) (e2 : Same (Sm.dl G1 a.n) G2) (hp : G2 a.n = some (.dK (putK (nmE a.r d.firm) (.inr z) (.ref q)))) :
    LostI K H G2 it y (a.more d.files.length q dd) p { d with firm := putN d.firm z d.files.length, files := d.files ++ [(t, m)] } := by
  have hn1 := e _ _ I.nms
  have k : ∀ b o, G1 b = some o → (∀ kvs, o ≠ .dK kvs) → G2 b = some o := fun b o h n => e2 b o ((Sm.dl_ne (fun z => by rw [z, hn1] at h; exact n _ (Option.some.inj h).symm)).trans h)
  have nx : ∀ b o, G b = some o → b ≠ q := fun b o h z => by rw [z, nq] at h; cases h
  have hq : H q = none := none_of I.e nq
  have hdd : H dd = none := none_of I.e nd
  refine ⟨fun b o h => e2 b o ((Sm.dl_ne (fun z => by rw [z, I.new.2.2.1] at h; cases h)).trans (e _ _ (I.e _ _ h))), ⟨k _ _ (e _ _ I.self.1) (fun kvs => slO_dK), k _ _ (e _ _ I.self.2) (fun kvs z => nomatch z)⟩, ?_, k _ _ (e _ _ I.chgs) (fun kvs z => nomatch z), fun i t2 m2 r => ?_, fun i j hi' hj z' => ?_, I.new, fun r hr => ?_⟩
  · show G2 a.n = some (.dK (nmE (a.more d.files.length q dd).r (putN d.firm z d.files.length)))
    rw [hp, ← putK_nm, more_r I.ids]
    congr 3
    show V.ref q = V.ref ((a.more d.files.length q dd).fa d.files.length)
    rw [more_new]
  · have r' : (d.files ++ [(t, m)])[i]? = some (t2, m2) := r
    rcases Nat.lt_trichotomy i d.files.length with hi' | hi' | hi'
    · rw [List.getElem?_append_left hi'] at r'
      obtain ⟨f1, f2, f3, f4⟩ := I.file i t2 m2 r'
      rw [more_old (by omega), more_fd (by omega)]
      exact ⟨⟨k _ _ (e _ _ f1.1) (fun kvs => slO_dK), k _ _ (e _ _ f1.2) (fun kvs z => nomatch z)⟩, f2, f3, f4⟩
    · subst hi'
      rw [List.getElem?_append_right (Nat.le_refl _), Nat.sub_self] at r'
      cases r'
      rw [more_new, more_newd]
      exact ⟨⟨k _ _ f.1 (fun kvs => slO_dK), k _ _ f.2 (fun kvs z => nomatch z)⟩, (nx _ _ I.self.1).symm, (nx _ _ hi).symm, hq, hdd⟩
    · rw [List.getElem?_eq_none (by rw [List.length_append, List.length_singleton]; omega)] at r'
      cases r'
  · have hi' : i < (d.files ++ [(t, m)]).length := hi'
    have hj : j < (d.files ++ [(t, m)]).length := hj
    rw [List.length_append, List.length_singleton] at hi' hj
    have old : ∀ k, k < d.files.length → a.fa k ≠ q := fun k hk => nx _ _ (I.file k _ _ (List.getElem?_eq_getElem hk)).1.1
    by_cases ei : i = d.files.length
    · by_cases ej : j = d.files.length
      · rw [ei, ej]
      · rw [ei, more_new, more_old ej] at z'
        exact absurd z'.symm (old j (by omega))
    · by_cases ej : j = d.files.length
      · rw [ej, more_new, more_old ei] at z'
        exact absurd z' (old i (by omega))
      · rw [more_old ei, more_old ej] at z'
        exact I.inj i j (by omega) (by omega) z'
  · show r.2 < (d.files ++ [(t, m)]).length
    rw [List.length_append, List.length_singleton]
    rcases mem_putN hr with h | h
    · rw [h]; omega
    · have := I.ids r h; omega
theorem LostI.fin (I : LostI K H G it y a p d) {q : Addr} {vs : List (Option V)} (hc : d.chg = []) (hp : d.power = p) (h0 : d.steps = 0) (hcs : a.cs = []) (nq : G q = none) (e : Same G G1) (hq : G1 q = some (.dK (nmE a.r d.firm))) (e2 : Same (Sm.dl G1 y) G2) (i2 : Sm.IsS G2 y (He.ga K "Disk") a.dx vs) (ev : vs = [some (.ref a.c), some (.ref q), some (.ref a.n), some (pwV p), some (.int 0)]) :
    (∀ b, H b ≠ none → newOf H G2 b = none) ∧ Same H G2 ∧ Same (newOf H G2) G2 ∧ DiskAt K (newOf H G2) y d := by
  have k : ∀ b o, G1 b = some o → b ≠ y → G2 b = some o := fun b o h n => e2 b o ((Sm.dl_ne n).trans h)
  have sy := e _ _ I.self.1
  have kk : ∀ b o, G1 b = some o → o ≠ SlX.SlO y (He.ga K "Disk") a.dx (dsl a (newD p)) → G2 b = some o := fun b o h n => k b o h fun z => by
    rw [z, sy] at h
    exact n (Option.some.inj h).symm
  obtain ⟨n1, n2, n3, n4, n5⟩ := I.new
  have nq' : H q = none := none_of I.e nq
  have en : now d = d.firm := by unfold now; rw [hc]; rfl
  refine ⟨fun b hb => newOf_old hb, fun b o h => k _ _ (e _ _ (I.e _ _ h)) (fun z => by rw [z, n1] at h; cases h), newOf_sub, { a with f := q }, ⟨⟨?_, ?_, fun z => ?_, ?_, ?_, fun i t m r => ?_, I.inj⟩, ⟨?_, ?_⟩⟩⟩
  · rw [newOf_at (show H q = none from nq')]; exact kk _ _ hq (fun z => slO_dK z.symm)
  · rw [newOf_at (show H a.n = none from n3), en]; exact kk _ _ (e _ _ I.nms) (fun z => slO_dK z.symm)
  · have z : q = a.n := z
    rw [z, I.nms] at nq
    cases nq
  · rw [newOf_at (show H a.c = none from n4)]
    show G2 a.c = some (.lst a.cs)
    rw [hcs]
    exact kk _ _ (e _ _ I.chgs) (fun z => slO_lst z.symm)
  · rw [hc]
    exact ⟨by show a.cs.length = 0; rw [hcs]; rfl, fun i c h => by cases h⟩
  · obtain ⟨f1, f2, f3, f4, f5⟩ := I.file i t m r
    exact ⟨⟨by rw [newOf_at f4]; exact k _ _ (e _ _ f1.1) f2, by rw [newOf_at f5]; exact kk _ _ (e _ _ f1.2) (fun z => slO_xd z.symm)⟩, f2⟩
  · rw [newOf_at n1]
    have : dsl { a with f := q } d = vs := by
      rw [ev]
      unfold dsl
      rw [hp, h0]
      rfl
    rw [this]
    exact i2.1
  · rw [newOf_at (show H a.dx = none from n2)]; exact i2.2
end
/-! ### the law's own rows -/
section
variable {g g1 : Hp} {o : Addr} {a : LA} {s : DSt}
theorem ChgL.mono {v : V} {c : Chg} (h : ChgL g v c) (k : ∀ b xs, g b = some (.tup xs) → g1 b = some (.tup xs)) : ChgL g1 v c := by
  cases c with
  | mk n i => obtain ⟨a, e, h⟩ := h; exact ⟨a, e, k _ _ h⟩
  | rm n => obtain ⟨a, m, e, h⟩ := h; exact ⟨a, m, e, k _ _ h⟩
  | rn o n => obtain ⟨a, e, h⟩ := h; exact ⟨a, e, k _ _ h⟩
theorem ChgsL.mono {vs : List V} {cs : List Chg} (h : ChgsL g vs cs) (k : ∀ b xs, g b = some (.tup xs) → g1 b = some (.tup xs)) : ChgsL g1 vs cs := ⟨h.1, fun i c q => by
  obtain ⟨v, h1, h2⟩ := h.2 i c q
  exact ⟨v, h1, h2.mono k⟩⟩
theorem ChgsL.snoc {vs : List V} {cs : List Chg} {v : V} {c : Chg} (h : ChgsL g vs cs) (hv : ChgL g v c) : ChgsL g (vs ++ [v]) (cs ++ [c]) := ⟨by rw [List.length_append, List.length_append, h.1]; rfl, fun i d q => by
  rcases Nat.lt_trichotomy i cs.length with hi | hi | hi
  · rw [List.getElem?_append_left hi] at q
    obtain ⟨r, r1, r2⟩ := h.2 i d q
    exact ⟨r, by rw [List.getElem?_append_left (by rw [h.1]; exact hi)]; exact r1, r2⟩
  · subst hi
    rw [List.getElem?_append_right (Nat.le_refl _), Nat.sub_self] at q
    cases q
    exact ⟨v, by rw [← h.1, List.getElem?_append_right (Nat.le_refl _), Nat.sub_self]; rfl, hv⟩
  · rw [List.getElem?_eq_none (by rw [List.length_append, List.length_singleton]; omega)] at q
    cases q⟩
theorem OwnB.same (B : OwnB g o a s) (e : Same g g1) : OwnB g1 o a s := ⟨e _ _ B.firm, e _ _ B.chgs, B.each.mono fun b xs h => e _ _ h, e _ _ B.fls, fun i t m q => ⟨e _ _ (B.file i t m q).1, (B.file i t m q).2⟩, B.inj, B.ff, B.oc⟩
theorem OwnH.same (O : OwnH g o a s) (e : Same g g1) : OwnH g1 o a s := ⟨O.toOwnB.same e, e _ _ O.self⟩
theorem OwnAt.same (O : OwnAt g o s) (e : Same g g1) : OwnAt g1 o s := by
  obtain ⟨a, O⟩ := O
  exact ⟨a, O.same e⟩
/-- the row itself changes -/
theorem OwnB.self_upd (B : OwnB g o a s) {ys : List V} {u : HO} (ho : g o = some (.lst ys)) : OwnB (upd g o u) o a s :=
  ⟨keepAt B.firm ho (fun z => nomatch z), by rw [upd_ne B.oc.symm]; exact B.chgs, B.each.mono fun b xs h => keepAt h ho (fun z => nomatch z), keepAt B.fls ho (fun z => nomatch z), fun i t m q => ⟨by rw [upd_ne (B.file i t m q).2.1]; exact (B.file i t m q).1, (B.file i t m q).2⟩, B.inj, B.ff, B.oc⟩
/-- a file's row changes -/
theorem OwnH.file_put (O : OwnH g o a s) {i : Nat} {t t' : Str} {m m' : Nat} (hi : s.files[i]? = some (t, m)) : OwnH (upd g (a.la i) (.lst [.str t', .int (m' : Nat)])) o a { s with files := s.files.set i (t', m') } := by
  obtain ⟨p1, p2, p3⟩ := O.file i t m hi
  have hil := (List.getElem?_eq_some_iff.mp hi).1
  refine ⟨⟨keepAt O.firm p1 (fun z => nomatch z), by rw [upd_ne p3.symm]; exact O.chgs, O.each.mono fun b xs h => keepAt h p1 (fun z => nomatch z), ?_, fun j t2 m2 q => ?_, ?_, O.ff, O.oc⟩, by rw [upd_ne p2.symm]; exact O.self⟩
  · show upd g (a.la i) _ a.fs = some (.dK (flE a.la (s.files.set i (t', m')).length))
    rw [List.length_set]
    exact keepAt O.fls p1 (fun z => nomatch z)
  · have q' : (s.files.set i (t', m'))[j]? = some (t2, m2) := q
    by_cases hj : j = i
    · subst hj
      rw [List.getElem?_set_self hil] at q'
      cases q'
      exact ⟨upd_same, p2, p3⟩
    · rw [List.getElem?_set_ne (Ne.symm hj)] at q'
      obtain ⟨r1, r2, r3⟩ := O.file j t2 m2 q'
      have hjl := (List.getElem?_eq_some_iff.mp q').1
      exact ⟨by rw [upd_ne (fun z => hj (O.inj j i hjl hil z))]; exact r1, r2, r3⟩
  · show ∀ i' j, i' < (s.files.set i _).length → j < (s.files.set i _).length → _
    rw [List.length_set]
    exact O.inj
/-- a change is noted -/
theorem OwnH.chg_put (O : OwnH g o a s) {v : V} {c : Chg} (hv : ChgL g v c) : OwnH (upd g a.c (.lst (a.cs ++ [v]))) o { a with cs := a.cs ++ [v] } { s with chg := s.chg ++ [c] } := by
  have hc := O.chgs
  refine ⟨⟨keepAt O.firm hc (fun z => nomatch z), upd_same, (O.each.snoc hv).mono fun b xs h => keepAt h hc (fun z => nomatch z), keepAt O.fls hc (fun z => nomatch z), fun j t m q => ?_, O.inj, O.ff, O.oc⟩, by rw [upd_ne O.oc]; exact O.self⟩
  obtain ⟨r1, r2, r3⟩ := O.file j t m q
  exact ⟨by rw [upd_ne r3]; exact r1, r2, r3⟩
/-- one more file: its row at p -/
def LA.more (a : LA) (n : Nat) (p : Addr) : LA := { a with la := fun i => if i = n then p else a.la i }
theorem la_old {n i : Nat} {p : Addr} (h : i ≠ n) : (a.more n p).la i = a.la i := if_neg h
theorem la_new {n : Nat} {p : Addr} : (a.more n p).la n = p := if_pos rfl
theorem flE_more {n : Nat} {p : Addr} : flE (a.more n p).la (n + 1) = flE a.la n ++ [(Sum.inl (n : Int), .ref p)] := by
  unfold flE
  rw [List.range_succ, List.map_append, List.map_singleton, la_new]
  congr 1
  refine List.map_congr_left fun i hi => ?_
  rw [la_old (by have := List.mem_range.mp hi; omega)]
theorem flE_len (la : Nat → Addr) (n : Nat) : (flE la n).length = n := by
  unfold flE
  rw [List.length_map, List.length_range]
theorem flE_val (la : Nat → Addr) : ∀ (n i : Nat), valV (flE la n) (.inl (i : Int)) = if i < n then some (.ref (la i)) else none
  | 0, i => rfl
  | n + 1, i => by
    have e : flE la (n + 1) = flE la n ++ [(Sum.inl (n : Int), .ref (la n))] := by
      unfold flE
      rw [List.range_succ, List.map_append, List.map_singleton]
    have h := flE_val la n
    rw [e, valV_snoc _ _ _ _ (by rw [h n, if_neg (Nat.lt_irrefl _)])]
    by_cases hi : i = n
    · subst hi
      rw [if_pos rfl, if_pos (Nat.lt_succ_self _)]
    · rw [if_neg (fun z => hi (by have := Sum.inl.inj z; omega)), h i]
      by_cases hl : i < n
      · rw [if_pos hl, if_pos (by omega)]
      · rw [if_neg hl, if_neg (by omega)]
theorem flE_put {n : Nat} {p : Addr} : putK (flE a.la n) (.inl (n : Int)) (.ref p) = flE (a.more n p).la (n + 1) := by
  rw [putK_new _ (by rw [flE_val, if_neg (Nat.lt_irrefl _)]), flE_more]
theorem OwnH.file_new (O : OwnH g o a s) {p : Addr} {t : Str} {m : Nat} (e : Same g g1) (hn : g p = none) (hp : g1 p = some (.lst [.str t, .int (m : Nat)])) :
    OwnH (upd g1 a.fs (.dK (flE (a.more s.files.length p).la (s.files.length + 1)))) o (a.more s.files.length p) { s with files := s.files ++ [(t, m)] } := by
  have hf := e _ _ O.fls
  have nx : ∀ b u, g b = some u → b ≠ p := fun b u h z => by rw [z, hn] at h; cases h
  refine ⟨⟨by rw [upd_ne (show (a.more s.files.length p).f ≠ a.fs from O.ff)]; exact e _ _ O.firm, keepAt (e _ _ O.chgs) hf (fun z => nomatch z), (O.each.mono fun b xs h => e _ _ h).mono fun b xs h => keepAt h hf (fun z => nomatch z), ?_, fun j t2 m2 q => ?_, fun i j hi hj z => ?_, O.ff, O.oc⟩, keepAt (e _ _ O.self) hf (fun z => nomatch z)⟩
  · show upd g1 a.fs _ a.fs = some (.dK (flE _ (s.files ++ [_]).length))
    rw [List.length_append, List.length_singleton]
    exact upd_same
  · have q' : (s.files ++ [(t, m)])[j]? = some (t2, m2) := q
    rcases Nat.lt_trichotomy j s.files.length with hj | hj | hj
    · rw [List.getElem?_append_left hj] at q'
      obtain ⟨r1, r2, r3⟩ := O.file j t2 m2 q'
      rw [la_old (by omega)]
      exact ⟨keepAt (e _ _ r1) hf (fun z => nomatch z), r2, r3⟩
    · subst hj
      rw [List.getElem?_append_right (Nat.le_refl _), Nat.sub_self] at q'
      cases q'
      rw [la_new]
      exact ⟨keepAt hp hf (fun z => nomatch z), (nx _ _ O.self).symm, (nx _ _ O.chgs).symm⟩
    · rw [List.getElem?_eq_none (by rw [List.length_append, List.length_singleton]; omega)] at q'
      cases q'
  · have hi : i < (s.files ++ [(t, m)]).length := hi
    have hj : j < (s.files ++ [(t, m)]).length := hj
    rw [List.length_append, List.length_singleton] at hi hj
    have old : ∀ k, k < s.files.length → a.la k ≠ p := fun k hk => nx _ _ (O.file k _ _ (List.getElem?_eq_getElem hk)).1
    by_cases ei : i = s.files.length
    · by_cases ej : j = s.files.length
      · rw [ei, ej]
      · rw [ei, la_new, la_old ej] at z
        exact absurd z.symm (old j (by omega))
    · by_cases ej : j = s.files.length
      · rw [ej, la_new, la_old ei] at z
        exact absurd z (old i (by omega))
      · rw [la_old ei, la_old ej] at z
        exact O.inj i j (by omega) (by omega) z
/-- a name is put -/
theorem OwnH.firm_put (O : OwnH g o a s) (z : Str) (i : Nat) (h : s.chg = []) : OwnH (upd g a.f (.dK (nmE iE (putN s.firm z i)))) o a { s with firm := putN s.firm z i } := by
  have hf := O.firm
  exact ⟨⟨upd_same, keepAt O.chgs hf (fun z => nomatch z), O.each.mono fun b xs h => keepAt h hf (fun z => nomatch z), by rw [upd_ne O.ff.symm]; exact O.fls, fun j t m q => ⟨keepAt (O.file j t m q).1 hf (fun z => nomatch z), (O.file j t m q).2⟩, O.inj, O.ff, O.oc⟩, keepAt O.self hf (fun z => nomatch z)⟩
/-- its own row put -/
theorem OwnB.put {vs : List V} {a' : LA} {s' : DSt} (B : OwnB g o a' s') (ho : g o = some (.lst vs)) : OwnH (upd g o (.lst [.ref a'.f, .ref a'.c, .ref a'.fs, .int (s'.steps : Nat), pwV s'.power])) o a' s' := ⟨B.self_upd ho, upd_same⟩
theorem OwnB.st {s' : DSt} (B : OwnB g o a s) (h1 : s'.firm = s.firm) (h2 : s'.chg = s.chg) (h3 : s'.files = s.files) : OwnB g o a s' := ⟨by rw [h1]; exact B.firm, B.chgs, by rw [h2]; exact B.each, by rw [h3]; exact B.fls, by rw [h3]; exact B.file, by rw [h3]; exact B.inj, B.ff, B.oc⟩
end
theorem step1_none {s : DSt} (h : s.power = none) : step1 s = .ok { s with steps := s.steps + 1 } := by unfold step1; rw [h]
theorem step1_lt {s : DSt} {p : Int} (h : s.power = some p) (q : ¬ p ≤ (s.steps : Int)) : step1 s = .ok { s with steps := s.steps + 1 } := by unfold step1; rw [h]; simp only [q, if_false]
theorem step1_ge {s : DSt} {p : Int} (h : s.power = some p) (q : p ≤ (s.steps : Int)) : step1 s = .error (.lost p) := by unfold step1; rw [h]; simp only [q, if_true]
/-! ### calls -/
theorem dpAll_len {K : PySem.W.Frag} {H : Hp} : ∀ {xs : List V} {ds : List PyData}, DpAll K H xs ds → xs.length = ds.length
  | _, _, .nil => rfl
  | _, _, .cons _ r => by
    rw [List.length_cons, List.length_cons, dpAll_len r]
theorem dpAll_get {K : PySem.W.Frag} {H : Hp} : ∀ {xs : List V} {ds : List PyData} {i : Nat} {v : V} {d : PyData}, DpAll K H xs ds → xs[i]? = some v → ds[i]? = some d → Dp K H v d
  | _, _, _, _, _, .nil, h, _ => by simp at h
  | _, _, 0, _, _, .cons a _, h, h2 => by
    simp only [List.getElem?_cons_zero, Option.some.injEq] at h h2
    rw [← h, ← h2]
    exact a
  | _, _, i + 1, _, _, .cons _ r, h, h2 => by
    rw [List.getElem?_cons_succ] at h h2
    exact dpAll_get r h h2
section
variable {K : PySem.W.Frag} {H : Hp} {Q : VK} {E : XK} {x y : V} {d e : PyData} {n m : Nat} {p q : Addr}
theorem BI_eq : BI = ((10 ^ 60 : Nat) : Int) := by unfold BI; rfl
theorem dl2 {H H1 H2 : Hp} {a d : Addr} (e1 : Same (Sm.dl (Sm.dl H a) d) H1) (e2 : Same (Sm.dl H1 a) H2) : Same (Sm.dl (Sm.dl H a) d) H2 := fun b o q => by
  have h1 := e1 b o q
  have hb : b ≠ a := fun z => by
    subst z
    unfold Sm.dl at q
    split at q
    · cases q
    · first | cases q | (rw [if_pos rfl] at q; cases q)
  exact e2 b o ((Sm.dl_ne hb).trans h1)
theorem fresh_mut {H H1 H2 : Hp} {q : Addr} (hn : H q = none) (e : Same H H1) (m : Same (Sm.dl H1 q) H2) : Same H H2 := fun b o h => by
  have hb : b ≠ q := fun z => by rw [z, hn] at h; cases h
  exact m b o ((Sm.dl_ne hb).trans (e b o h))
theorem mut_mut {H H1 H2 : Hp} {q : Addr} (e : Same (Sm.dl H q) H1) (m : Same (Sm.dl H1 q) H2) : Same (Sm.dl H q) H2 := (Sm.dl_both e).trans m
theorem isInt_small {i : Int} (h : i.natAbs < 2 ^ 62) : isInt (.int i) = true := by
  show decide _ = true
  rw [BI_eq]
  exact decide_eq_true (by
    have : (2 : Nat) ^ 62 < 10 ^ 60 := by decide +kernel
    exact Int.ofNat_lt.mpr (Nat.lt_trans h this))
theorem isInt_int {d : PyData} (h : isInt d = true) : ∃ i, d = .int i := by
  cases d with
  | int i => exact ⟨i, rfl⟩
  | _ => cases h
theorem isNat_of {i : Int} (h : isInt (.int i) = true) : isNat (.int i) = decide (0 ≤ i) := by
  show (isInt (.int i) && decide (0 ≤ i)) = _
  rw [h, Bool.true_and]
theorem isNat_no {d : PyData} (h : isInt d = false) : isNat d = false := by
  cases d with
  | int i =>
    show (isInt (.int i) && decide (0 ≤ i)) = _
    rw [h, Bool.false_and]
  | _ => rfl
theorem cutV_to {xs : List V} {n : Nat} (h : n ≤ xs.length) : cutV xs none (some (n : Int)) = xs.take n := by
  have e1 : HT.sIx xs.length 0 none = 0 := rfl
  have e2 : HT.sIx xs.length xs.length (some (n : Int)) = n := by
    simp only [HT.sIx]
    rw [if_neg (by omega), Int.toNat_natCast]
    omega
  unfold cutV
  rw [e1, e2, List.drop_zero, Nat.sub_zero]
theorem tiAt_at {K : PySem.W.Frag} {H H' : Hp} {it : Addr} {xs : List V} {i : Nat} (h : Sm.TiAt K H it xs i) (e : Same H H') : Sm.TiAt K H' it xs i := by
  rcases h with ⟨t, h1, h2⟩ | ⟨j, h1, h2⟩
  · exact .inl ⟨t, e _ _ h1, Sm.seqT_at h2 e⟩
  · exact .inr ⟨j, e _ _ h1, h2⟩
theorem ch_getD (cs : List Nat) (i : Nat) : (chV cs).getD i (.int 0) = .int ((cs.getD i 0 : Nat) : Int) := by
  unfold chV
  rw [List.getD_eq_getElem?_getD, List.getD_eq_getElem?_getD, List.getElem?_map]
  cases cs[i]? <;> rfl
theorem ch_dps {K : PySem.W.Frag} {H : Hp} : ∀ cs : List Nat, DpAll K H (chV cs) (cs.map fun c => .int ((c : Nat) : Int))
  | [] => .nil
  | c :: r => .cons (.int _) (ch_dps r)
theorem ch_isCh {cs : List Nat} (h : ∀ c ∈ cs, c ≤ 1000) : isCh (.tuple (cs.map fun c => .int ((c : Nat) : Int))) = true := by
  show List.all _ isNat = true
  rw [List.all_eq_true]
  intro d hd
  obtain ⟨c, hc, rfl⟩ := List.mem_map.mp hd
  rw [isNat_of (isInt_small (by have := h c hc; have : (2 : Nat) ^ 62 = 4611686018427387904 := by decide
                                omega))]
  exact decide_eq_true (by omega)
theorem ch_mod (a b : Nat) : ((a : Nat) : Int).fmod ((b : Nat) + 1) = ((a % (b + 1) : Nat) : Int) := by
  have e : ((b : Nat) : Int) + 1 = ((b + 1 : Nat) : Int) := by omega
  rw [e, Int.fmod_eq_emod_of_nonneg _ (by omega)]
  exact (Int.natCast_emod ..).symm
theorem size_int {t : Str} {m c : Nat} (h : m ≤ t.length) : ((m : Nat) : Int) + ((c : Nat) : Int) % (((t.length : Nat) : Int) - ((m : Nat) : Int) + 1) = ((sizeAt (t, m) c : Nat) : Int) := by
  have e : ((t.length : Nat) : Int) - ((m : Nat) : Int) + 1 = ((t.length - m + 1 : Nat) : Int) := by omega
  rw [e, ← Int.natCast_emod]
  unfold sizeAt
  dsimp only
  omega
theorem tiAt_dl {K : PySem.W.Frag} {G G2 : Hp} {it n : Addr} {xs : List V} {i : Nat} {kvs : List (Key × V)} (h : Sm.TiAt K G it xs i) (hn : G n = some (.dK kvs)) (e : Same (Sm.dl G n) G2) : Sm.TiAt K G2 it xs i := by
  have k : ∀ b o, G b = some o → o ≠ .dK kvs → G2 b = some o := fun b o q z => e b o ((Sm.dl_ne (fun w => by rw [w, hn] at q; exact z (Option.some.inj q).symm)).trans q)
  rcases h with ⟨t, h1, h2⟩ | ⟨j, h1, h2⟩
  · refine .inl ⟨t, k _ _ h1 (fun z => by unfold Sm.TiO at z; cases z), ?_⟩
    rcases h2 with (h2 | ⟨o, h2⟩) | h2
    · exact .inl (.inl (k _ _ h2 (fun z => nomatch z)))
    · exact .inl (.inr ⟨o, k _ _ h2 (fun z => nomatch z)⟩)
    · exact .inr h2
  · exact .inr ⟨j, k _ _ h1 (fun z => by unfold Sm.TiE at z; cases z), h2⟩
theorem lostGo_cons (s : DSt) (l : Nms) (cs : List Nat) (j : Nat) (z : Str) (r : List Str) (d : DSt) : lostGo s l cs j (z :: r) d = lostGo s l cs (j + 1) r { d with firm := putN d.firm z j, files := d.files ++ [(cutS (s.files.getD ((getN l z).getD 0) ("", 0)).1 none (some ((sizeAt (s.files.getD ((getN l z).getD 0) ("", 0)) (cs.getD (j + 1) 0) : Nat) : Int)), sizeAt (s.files.getD ((getN l z).getD 0) ("", 0)) (cs.getD (j + 1) 0))] } := rfl
theorem eqv_nil (ds : List PyData) : PyData.eqv (.list ds) (.list []) = ds.isEmpty := by
  cases ds with
  | nil => simp [PyData.eqv, PyData.eqvAll]
  | cons d r => simp [PyData.eqv, PyData.eqvAll]
theorem sgn_dps {K : PySem.W.Frag} {H : Hp} : ∀ l : List Nat, DpAll K H (l.map fun c => V.str ⟨#[c]⟩) (l.map fun c => PyData.str ⟨#[c]⟩)
  | [] => .nil
  | c :: r => .cons (.str _) (sgn_dps r)
theorem sh_all {ds : List PyData} (h : ∀ d ∈ ds, d.canLay0 = true ∧ d.depth ≤ 10) : PyData.canLayAll0 ds = true ∧ PyData.depthAll ds ≤ 10 := by
  induction ds with
  | nil => exact ⟨rfl, Nat.zero_le _⟩
  | cons d r ih =>
    obtain ⟨i1, i2⟩ := ih fun x hx => h x (List.mem_cons_of_mem _ hx)
    obtain ⟨j1, j2⟩ := h d (List.mem_cons_self ..)
    refine ⟨by simp only [PyData.canLayAll0, Bool.and_eq_true]; exact ⟨j1, i1⟩, ?_⟩
    simp only [PyData.depthAll]
    exact Nat.max_le.mpr ⟨j2, i2⟩
theorem sh_list {ds : List PyData} (h : ∀ d ∈ ds, d.canLay0 = true ∧ d.depth ≤ 10) : SeqAt.shaped (.list ds) = true := by
  obtain ⟨i1, i2⟩ := sh_all h
  refine Bool.and_eq_true_iff.mpr ⟨by simp only [PyData.canLay0]; exact i1, decide_eq_true ?_⟩
  simp only [PyData.depth]
  omega
theorem sh_tuple {ds : List PyData} (h : ∀ d ∈ ds, d.canLay0 = true ∧ d.depth ≤ 10) : SeqAt.shaped (.tuple ds) = true := by
  obtain ⟨i1, i2⟩ := sh_all h
  refine Bool.and_eq_true_iff.mpr ⟨by simp only [PyData.canLay0]; exact i1, decide_eq_true ?_⟩
  simp only [PyData.depth]
  omega
theorem lay_str {z : Str} (h : PyData.strOk z = true) : (PyData.str z).canLay0 = true := by
  simp only [PyData.canLay0]
  exact h
theorem strOk_at {z : Str} (h : PyData.strOk z = true) : ∀ c ∈ z.cps.toList, c < 0x110000 := fun c hc => by
  unfold PyData.strOk at h
  rw [Array.all_eq_true'] at h
  exact of_decide_eq_true (h c (Array.mem_toList_iff.mp hc))
theorem strOk_of {z : Str} (h : ∀ c ∈ z.cps.toList, c < 0x110000) : PyData.strOk z = true := by
  unfold PyData.strOk
  rw [Array.all_eq_true']
  exact fun c hc => decide_eq_true (h c (Array.mem_toList_iff.mpr hc))
theorem strOk_sgn {c : Nat} (h : c < 0x110000) : PyData.strOk ⟨#[c]⟩ = true := strOk_of fun d hd => by
  have : d = c := by simpa using hd
  rw [this]; exact h
theorem sgn_shaped {l : List Nat} (h : ∀ c ∈ l, c < 0x110000) : SeqAt.shaped (.list (l.map fun c => PyData.str ⟨#[c]⟩)) = true := sh_list fun d hd => by
  obtain ⟨c, hc, rfl⟩ := List.mem_map.mp hd
  exact ⟨lay_str (strOk_sgn (h c hc)), by simp [PyData.depth]⟩
theorem name_ok {z : Str} (h : nameS z = true) : PyData.strOk z = true := strOk_of fun c hc => by
  unfold nameS at h
  rw [Bool.and_eq_true, Bool.and_eq_true, List.all_eq_true] at h
  have := h.2.2 c hc
  rw [Bool.or_eq_true] at this
  have e1 : (Str.ofString "abcdefghijklmnopqrstuvwxyz").cps.toList.all (· < 0x110000) = true := by decide +kernel
  have e2 : (Str.ofString "0123456789").cps.toList.all (· < 0x110000) = true := by decide +kernel
  rw [List.all_eq_true] at e1 e2
  rcases this with q | q
  · exact of_decide_eq_true (e1 c (of_decide_eq_true q))
  · exact of_decide_eq_true (e2 c (of_decide_eq_true q))
theorem names_shaped {ys : List Str} (h : ∀ y ∈ ys, nameS y = true) : SeqAt.shaped (.tuple (ys.map PyData.str)) = true := sh_tuple fun d hd => by
  obtain ⟨y, hy, rfl⟩ := List.mem_map.mp hd
  exact ⟨lay_str (name_ok (h y hy)), by simp [PyData.depth]⟩
theorem ld_in (c : Nat) : (c ∈ (Str.ofString "abcdefghijklmnopqrstuvwxyz0123456789").cps.toList) ↔ (letter c || digit c) = true := by
  have e : (Str.ofString "abcdefghijklmnopqrstuvwxyz0123456789").cps.toList = (Str.ofString "abcdefghijklmnopqrstuvwxyz").cps.toList ++ (Str.ofString "0123456789").cps.toList := by decide +kernel
  rw [e, List.mem_append]
  unfold letter digit
  simp
theorem flt_yes {c : Nat} (h : (letter c || digit c) = true) : ([c].filter fun c => !(letter c || digit c)) = [] := by
  simp only [List.filter_cons, h, Bool.not_true]
  rfl
theorem flt_no {c : Nat} (h : (letter c || digit c) = false) : ([c].filter fun c => !(letter c || digit c)) = [c] := by
  simp only [List.filter_cons, h, Bool.not_false, if_true]
  rfl
theorem flt_all : ∀ l : List Nat, (l.filter fun c => !(letter c || digit c)).isEmpty = l.all fun c => letter c || digit c
  | [] => rfl
  | c :: r => by
    cases h : (letter c || digit c) with
    | true =>
      simp only [List.filter_cons, List.all_cons, h, Bool.not_true, Bool.true_and]
      exact flt_all r
    | false =>
      simp only [List.filter_cons, List.all_cons, h, Bool.not_false, if_true, Bool.false_and]
      rfl
theorem fileOf {b i : Nat} {s : DSt} (w : WF b s) (h : i < s.files.length) : ∃ t m, s.files[i]? = some (t, m) ∧ s.files.getD i (Str.ofString "", 0) = (t, m) ∧ t.length ≤ 4 * b := by
  have e := List.getElem?_eq_getElem h
  have hl := (w.fl _ (List.getElem_mem h)).2
  cases q : s.files[i] with
  | mk t m =>
    rw [q] at e hl
    refine ⟨t, m, e, ?_, hl⟩
    rw [List.getD_eq_getElem?_getD, e]
    rfl
theorem left_at (cs : List Nat) (k : Nat) (hk : k < 20) : atI (chV cs ++ (List.replicate (20 : Int).toNat [V.int 0]).flatten) (k : Int) = some (.int ((cs.getD k 0 : Nat) : Int)) := by
  have e : (List.replicate (20 : Int).toNat [V.int 0]).flatten = List.replicate 20 (V.int 0) := by decide
  rw [e]
  refine atI_nat ?_
  rw [List.getD_eq_getElem?_getD]
  by_cases h : k < cs.length
  · rw [List.getElem?_append_left (by unfold chV; rw [List.length_map]; exact h)]
    unfold chV
    rw [List.getElem?_map, List.getElem?_eq_getElem h]
    rfl
  · have hl : (chV cs).length = cs.length := List.length_map ..
    rw [List.getElem?_append_right (by omega), hl, List.getElem?_replicate, if_pos (by omega), List.getElem?_eq_none (by omega)]
    rfl
theorem str_dps {K : PySem.W.Frag} {H : Hp} : ∀ ys : List Str, DpAll K H (ys.map V.str) (ys.map PyData.str)
  | [] => .nil
  | y :: r => .cons (.str y) (str_dps r)
theorem eqv_refl_names (ys : List Str) : PyData.eqv (.tuple (ys.map PyData.str)) (.tuple (ys.map PyData.str)) = true := by
  simp only [PyData.eqv]
  induction ys with
  | nil => simp [PyData.eqvAll]
  | cons y r ih => simp [PyData.eqvAll, PyData.eqv, ih]
theorem nm_at {e : Nat → V} {l : Nms} {i : Nat} {k : Key} {w : V} (h : (nmE e l)[i]? = some (k, w)) : ∃ z j, l[i]? = some (z, j) ∧ k = .inr z ∧ w = e j ∧ (getN l z).isSome = true := by
  unfold nmE at h
  rw [List.getElem?_map] at h
  cases q : l[i]? with
  | none => rw [q] at h; cases h
  | some p =>
    rw [q] at h
    cases h
    exact ⟨p.1, p.2, rfl, rfl, rfl, getN_of (List.mem_map.mpr ⟨p, List.mem_of_getElem? q, rfl⟩)⟩
theorem obj_at {H H' : Hp} {a : Addr} {o : HO} (h : H a = some o) (e : Same H H') : H' a = some o := e _ _ h
theorem c_is_whole (hd : Dp K H x d) (q : ∀ H', Same H H' → Q (.bl (isWhole d)) H') : sp_is_whole K ([x] ++ []) H Q E := ⟨x, d, rfl, hd, q⟩
theorem c_is_integer (hd : Dp K H x d) (q : ∀ H', Same H H' → Q (.bl (isInt d)) H') : sp_is_integer K ([x] ++ []) H Q E := ⟨x, d, rfl, hd, q⟩
theorem c_is_name {k : Key} (hz : NmOk k) (q : ∀ H', Same H H' → Q (.bl (nameK k)) H') : sp_is_name K ([kV k] ++ []) H Q E := ⟨k, rfl, hz, q⟩
theorem c_law_is_name {k : Key} (hz : NmOk k) (q : ∀ H', Same H H' → Q (.bl (nameK k)) H') : sp__law_is_name K ([kV k] ++ []) H Q E := ⟨k, rfl, hz, q⟩
theorem c_is_disk_text {k : Key} (hz : NmOk k) (q : ∀ H', Same H H' → Q (.bl (textK k)) H') : sp_is_disk_text K ([kV k] ++ []) H Q E := ⟨k, rfl, hz, q⟩
theorem c_is_nameS {z : Str} (hz : NmOk (.inr z)) (q : ∀ H', Same H H' → Q (.bl (nameK (.inr z))) H') : sp_is_name K ([.str z] ++ []) H Q E := ⟨.inr z, rfl, hz, q⟩
theorem c_law_is_nameS {z : Str} (hz : NmOk (.inr z)) (q : ∀ H', Same H H' → Q (.bl (nameK (.inr z))) H') : sp__law_is_name K ([.str z] ++ []) H Q E := ⟨.inr z, rfl, hz, q⟩
theorem c_is_disk_textS {z : Str} (hz : NmOk (.inr z)) (q : ∀ H', Same H H' → Q (.bl (textK (.inr z))) H') : sp_is_disk_text K ([.str z] ++ []) H Q E := ⟨.inr z, rfl, hz, q⟩
theorem made_same {H H' : Hp} {x dx : Addr} {o u : HO} (hx : H x = none) (hd : H dx = none) (e : Same (Sm.dl (Sm.dl (upd (upd H dx o) x u) x) dx) H') : Same H H' := fun b w h => by
  have h1 : b ≠ x := fun z => by rw [z, hx] at h; cases h
  have h2 : b ≠ dx := fun z => by rw [z, hd] at h; cases h
  exact e b w ((Sm.dl_ne h2).trans ((Sm.dl_ne h1).trans ((upd_ne h1).trans ((upd_ne h2).trans h))))
theorem c_file {R : Addr → Hp → Prop} {t : Str} {m : Nat} (k : ∀ p d H', H p = none → H d = none → d ≠ p → Same H H' → FileAt K H' p d t m → R p H') : ∀ x dx, H x = none → H dx = none → dx ≠ x → sp_DiskFile___init__ K (.ref x :: ([.str t, .int (m : Nat)] ++ [])) (upd (upd H dx (.own x)) x (.ins (He.ga K "DiskFile") dx [])) (fun v H2 => v = .non ∧ R x H2) E :=
  fun x dx hx hd hne => ⟨x, dx, t, m, rfl, upd_same, (upd_ne hne).trans upd_same, hne, fun H' e f => ⟨rfl, k x dx H' hx hd hne (made_same hx hd e) f⟩⟩
theorem c_file0 {R : Addr → Hp → Prop} {t : Str} (k : ∀ p d H', H p = none → H d = none → d ≠ p → Same H H' → FileAt K H' p d t 0 → R p H') : ∀ x dx, H x = none → H dx = none → dx ≠ x → sp_DiskFile___init__ K (.ref x :: ([.str t, .int 0] ++ [])) (upd (upd H dx (.own x)) x (.ins (He.ga K "DiskFile") dx [])) (fun v H2 => v = .non ∧ R x H2) E := c_file (m := 0) k
theorem c_roll {n : Int} (hd : Dice H p) (h0 : 0 < n) (h1 : n ≤ 1000000000000000000) (k : ∀ r H', 0 ≤ r → r < n → Same (Sm.dl H p) H' → Dice H' p → Q (.int r) H') : sp__law_roll K ([.ref p, .int n] ++ []) H Q E := ⟨p, n, rfl, hd, h0, h1, fun r a b H' hs hd => k r H' a b hs hd⟩
theorem c_one_of {xs : List V} (hd : Dice H p) (hx : SqL K (Sm.dl H p) q xs) (h0 : 0 < xs.length) (h1 : xs.length < 1073741824) (k : ∀ (i : Nat) v H', xs[i]? = some v → Same (Sm.dl H p) H' → Dice H' p → Q v H') : sp__law_one_of K ([.ref p, .ref q] ++ []) H Q E := ⟨p, q, xs, rfl, hd, hx, h0, h1, fun i v e H' hs hd => k i v H' e hs hd⟩
theorem dice_mv {H H2 : Hp} {p : Addr} (hd : Dice H p) (e : Same H H2) : Dice H2 p := by
  obtain ⟨a, b, c, h⟩ := hd
  exact ⟨a, b, c, e _ _ h⟩
end
end K59
namespace K59
open PySem PySem.Spec PyProof.Rows L2
theorem pss_len {X : Cx} {ss : List Stmt} {t : L2.TS} (h : PSs X ss t) : PSs X ss (fun D σ H => σ.length = X.N.length → t D σ H) := ⟨fun pins s σ H D I q => h.run pins s σ H D I (q I.len)⟩
def mWord (z : Str) : Addr → Value → Option Addr → L2.TS := fun _ _ _ => tRet (tTup (tCons (tC (.str z)) tNil))
def mTell (z f : Str) (C : Addr) : Addr → Value → Option Addr → L2.TS := fun a cls d D σ H => σ.length = 2 → tRet (tTup (tCons (tC (.str z)) (tCons (Sm.tBySup f C a cls d (tVar 1)) tNil))) D σ H
def mList (K : PySem.W.Frag) : List Sm.Cl := [⟨.ref (He.ga K "InvalidName"), none, mWord "name"⟩, ⟨.ref (He.ga K "InvalidNumber"), some 1, mTell "number" "given" (He.ga K "InvalidNumber")⟩, ⟨.ref (He.ga K "InvalidOperation"), none, mWord "operation"⟩, ⟨.ref (He.ga K "UnknownName"), some 1, mTell "unknown" "asked" (He.ga K "UnknownName")⟩, ⟨.ref (He.ga K "TooMany"), some 1, mTell "many" "limit" (He.ga K "TooMany")⟩, ⟨.ref (He.ga K "PowerLost"), some 1, mTell "lost" "taken" (He.ga K "PowerLost")⟩]
theorem tup_raw {Q : VK} {H : Hp} {xs : List V} (hl : xs.length ≤ sizeLine) (h : tupTo Q H xs) : rawT Q H xs := ⟨hl, fun p hp => h p _ hp (Sm.Same.new hp) upd_same⟩
theorem m_tell {z f : Str} {C a : Addr} {d : Option Addr} {D : Ends} {σ : L2.St} {H : Hp} {Q : VK} (hr : D.rt = Q) (h : ∃ dd v, d = some dd ∧ H dd = some (.xd [(f, v)]) ∧ tupTo Q H [.str z, v]) :
    mTell z f C a (.ref C) d (Sm.endsAt (some 1) D) (Sm.heldAt a (some 1) σ) H := by
  intro hl
  obtain ⟨dd, v, hd, hx, q⟩ := h
  have hs : (Sm.heldAt a (some 1) σ)[1]? = some (some (V.ref a)) := by
    show (σ.set 1 (some (V.ref a)))[1]? = _
    have hl' : (σ.set 1 (some (V.ref a))).length = 2 := hl
    rw [List.length_set] at hl'
    rw [List.getElem?_set_self (by omega)]
  refine ⟨.ref a, hs, rfl, rfl, dd, v, hd, hx, ?_⟩
  show rawT D.rt H [.str z, v]
  rw [hr]
  exact tup_raw (Nat.le_of_ble_eq_true rfl) q
theorem m_list {K : PySem.W.Frag} {D : Ends} {cls : Value} {d : Option Addr} {σ : L2.St} {H : Hp} {Q : VK} (hr : D.rt = Q) (h : EMet K Q cls d H) : Sm.wMix K (fun _ _ _ _ => False) D (mList K) cls d σ H := by
  obtain ⟨b1, e1, y1, n1⟩ := h
  refine ⟨b1, e1, fun z a _ => ?_, fun z => ?_⟩
  · show rawT D.rt H [.str "name"]
    rw [hr]
    exact tup_raw (by decide) (y1 z)
  obtain ⟨b2, e2, y2, n2⟩ := n1 z
  refine ⟨b2, e2, fun z a _ => ?_, fun z => ?_⟩
  · obtain ⟨rfl, hx⟩ := y2 z
    exact m_tell hr hx
  obtain ⟨b3, e3, y3, n3⟩ := n2 z
  refine ⟨b3, e3, fun z a _ => ?_, fun z => ?_⟩
  · show rawT D.rt H [.str "operation"]
    rw [hr]
    exact tup_raw (by decide) (y3 z)
  obtain ⟨b4, e4, y4, n4⟩ := n3 z
  refine ⟨b4, e4, fun z a _ => ?_, fun z => ?_⟩
  · obtain ⟨rfl, hx⟩ := y4 z
    exact m_tell hr hx
  obtain ⟨b5, e5, y5, n5⟩ := n4 z
  refine ⟨b5, e5, fun z a _ => ?_, fun z => ?_⟩
  · obtain ⟨rfl, hx⟩ := y5 z
    exact m_tell hr hx
  obtain ⟨b6, e6, y6, n6⟩ := n5 z
  refine ⟨b6, e6, fun z a _ => ?_, fun z => absurd z n6⟩
  obtain ⟨rfl, hx⟩ := y6 z
  exact m_tell hr hx
theorem met_gives {X : Cx} (T : Txt X.prog X.K X.mg) {cdv : Value} {q : Str} (gd : X.A.guards = some []) (hu : X.A.units + 100 < cLine) : LamX.GivesTo X N__law_word_of "_law_word_of" (defScope s__law_word_of) (He.fAd X.K ("_law_word_of", none)) cdv (defBody s__law_word_of) "_law_call" q (TMet X.K) := by
  intro f c' s H Q tl act hc h
  refine ⟨_, pss_one (Sm.ps_try_mix (l := mList X.K) (Wo := fun _ _ _ _ => False) (tb := fun W D σ H => ∃ Ech : XK, (∀ cls d σ' H', Ech cls d H' → W cls d σ' H') ∧ σ[0]? = some (some (V.ref f)) ∧ H c' = some (LamX.CodeO c' q) ∧ tl Ech H fun v H' => rawT D.rt H' [.str "told", v]) rfl rfl sc__law_word_of.nd LamX.takes0 (fun W pn xe tk _ => ?_)
    (.bare ⟨rfl, by decide, .inl T.x_InvalidName.gC⟩ (fun a oe cls d pn _ _ => pss_one (ps_ret (pe_tup (pa_cons pe_str pa_nil))))
      (.as ⟨rfl, by decide, .inl T.x_InvalidNumber.gC⟩ rfl rfl (fun a oe cls d pn hz hf => pss_len (pss_one (ps_ret (pe_tup (pa_cons pe_str (pa_cons (Sm.pe_byXs T.x_InvalidNumber hz hf (pv 1)) pa_nil))))))
        (.bare ⟨rfl, by decide, .inl T.x_InvalidOperation.gC⟩ (fun a oe cls d pn _ _ => pss_one (ps_ret (pe_tup (pa_cons pe_str pa_nil))))
          (.as ⟨rfl, by decide, .inl T.x_UnknownName.gC⟩ rfl rfl (fun a oe cls d pn hz hf => pss_len (pss_one (ps_ret (pe_tup (pa_cons pe_str (pa_cons (Sm.pe_byXs T.x_UnknownName hz hf (pv 1)) pa_nil))))))
            (.as ⟨rfl, by decide, .inl T.x_TooMany.gC⟩ rfl rfl (fun a oe cls d pn hz hf => pss_len (pss_one (ps_ret (pe_tup (pa_cons pe_str (pa_cons (Sm.pe_byXs T.x_TooMany hz hf (pv 1)) pa_nil))))))
              (.as ⟨rfl, by decide, .inl T.x_PowerLost.gC⟩ rfl rfl (fun a oe cls d pn hz hf => pss_len (pss_one (ps_ret (pe_tup (pa_cons pe_str (pa_cons (Sm.pe_byXs T.x_PowerLost hz hf (pv 1)) pa_nil)))))) .nil))))))), ?_⟩
  · refine ⟨fun pins s' σ H' D I h' => ?_⟩
    obtain ⟨Ech, hW, h1, h2, h3⟩ := h'
    refine PSs.run (t := tRet (tTup (tCons (tC (.str "told")) (tCons (fun σZ HZ Q => σZ[0]? = some (some (V.ref f)) ∧ HZ c' = some (LamX.CodeO c' q) ∧ tl Ech HZ Q) tNil)))) ?_ pins s' σ H' D I ⟨h1, h2, h3⟩
    exact pss_one (ps_ret (pe_tup (pa_cons pe_str (pa_cons (act W pn xe Ech _ _ tk hW) pa_nil))))
  · exact ⟨EMet X.K Q, fun cls d σ' H' hh => m_list rfl hh, rfl, hc, h⟩
theorem catch_ok {P : Program} {w : World} {K : PySem.W.Frag} {mg : Str → Option Value} {base : Heap} {fd : FuncData} (T : Txt P K mg) (hg : mg "_law_word_of" = some (.ref (He.fAd K ("_law_word_of", none)))) (F : FD K "_law_word_of" s__law_word_of (He.fAd K ("_law_word_of", none)) fd) (b : Binds K fd P__law_word_of []) :
    Sm.Catch P w K mg base "_law_word_of" "_law_call" N__law_word_of (defArgs s__law_word_of) (defBody s__law_word_of) (defScope s__law_word_of) (TMet K) where
  f := ⟨fd, F, b⟩
  g := hg
  sc := sc__law_word_of
  n0 := rfl
  va := .inl rfl
  gv := fun {X} cdv q h1 h2 h3 h4 h5 gd hu => by
    subst h1 h2 h3 h4 h5
    exact met_gives T gd hu
/-! ### what the catcher makes of it -/
section
variable {P : Program} {K : PySem.W.Frag} {mg : Str → Option Value} {H : Hp} {Q : VK}
def no {A : Prop} {b : Bool} (h : b = false) : b = true → A := fun z => by rw [h] at z; cases z
theorem tupTo_mv {H H' : Hp} {xs : List V} (e : Same H H') (h : tupTo Q H xs) : tupTo Q H' xs := fun q H2 hn s he => h q H2 (none_of e hn) (e.trans s) he
theorem met_er (T : Txt P K mg) {e : Er} (h : tupTo Q H (erT e)) : ErAt K e H (EMet K Q) := by
  cases e with
  | name => exact fun H' hs => ⟨true, T.m_NN, fun _ => tupTo_mv hs h, fun z => nomatch z⟩
  | op => exact fun H' hs => ⟨false, T.m_ON, (fun z => nomatch z), fun _ => ⟨false, T.m_OI, (fun z => nomatch z), fun _ => ⟨true, T.m_OO, fun _ => tupTo_mv hs h, fun z => nomatch z⟩⟩⟩
  | unk k => exact fun d H' hs hd => ⟨false, T.m_UN, (fun z => nomatch z), fun _ => ⟨false, T.m_UI, (fun z => nomatch z), fun _ => ⟨false, T.m_UO, (fun z => nomatch z), fun _ => ⟨true, T.m_UU, fun _ => ⟨rfl, d, _, rfl, hd, tupTo_mv hs h⟩, fun z => nomatch z⟩⟩⟩⟩
  | many => exact fun d H' hs hd => ⟨false, T.m_MN, (fun z => nomatch z), fun _ => ⟨false, T.m_MI, (fun z => nomatch z), fun _ => ⟨false, T.m_MO, (fun z => nomatch z), fun _ => ⟨false, T.m_MU, (fun z => nomatch z), fun _ => ⟨true, T.m_MM, fun _ => ⟨rfl, d, _, rfl, hd, tupTo_mv hs h⟩, fun z => nomatch z⟩⟩⟩⟩⟩
  | lost p => exact fun d H' hs hd => ⟨false, T.m_LN, (fun z => nomatch z), fun _ => ⟨false, T.m_LI, (fun z => nomatch z), fun _ => ⟨false, T.m_LO, (fun z => nomatch z), fun _ => ⟨false, T.m_LU, (fun z => nomatch z), fun _ => ⟨false, T.m_LM, (fun z => nomatch z), fun _ => ⟨true, T.m_LL, fun _ => ⟨rfl, d, _, rfl, hd, tupTo_mv hs h⟩, fun z => nomatch z⟩⟩⟩⟩⟩⟩
theorem met_num (T : Txt P K mg) {v : V} (h : tupTo Q H [.str "number", v]) : Sm.Rz K "InvalidNumber" "given" v H (EMet K Q) := fun d H' hs hd => ⟨false, T.m_IN, (fun z => nomatch z), fun _ => ⟨true, T.m_II, fun _ => ⟨rfl, d, _, rfl, hd, tupTo_mv hs h⟩, fun z => nomatch z⟩⟩
end
theorem g_lam {K : PySem.W.Frag} {t : XK → TE} {σ : L2.St} {H : Hp} {Q : VK} (hT : LamX.Tabs (TT K) H) (h : ∀ H1, LamX.ExtN H H1 → LamX.Tabs (TT K) H1 → t (EMet K Q) σ H1 fun v H' => rawT Q H' [.str "told", v]) : LamX.tLam (TT K) (TMet K) t σ H Q := ⟨hT, fun H1 he ht => h H1 he ht⟩
/-! ### heaps without tables and code objects -/
def wit : V → Value
  | .non => .none
  | .bl b => .bool b
  | .int i => .int i 0
  | .str x => .str x 0
  | .byt b => .bytes b 0
  | .flt b => .float b 0
  | .ref a => .ref a
  | .ty n => .type n
theorem wit_rel : ∀ v : V, RelV v (wit v)
  | .non => rfl
  | .bl _ => rfl
  | .int _ => ⟨0, rfl⟩
  | .str _ => ⟨0, rfl⟩
  | .byt _ => ⟨0, rfl⟩
  | .flt _ => ⟨0, rfl⟩
  | .ref _ => rfl
  | .ty _ => rfl
theorem slO_code {a C d : Addr} {vs : List (Option V)} {q : Str} : SlX.SlO a C d vs ≠ LamX.CodeO a q := fun z => by
  unfold SlX.SlO LamX.CodeO at z
  injection z with z
  obtain ⟨o, ho⟩ : ∃ o : Obj, o = { PySem.W.instObj C d with slots := (vs.map fun w => w.map wit).toArray } := ⟨_, rfl⟩
  have hg : Heap.get? { objs := Array.replicate (a + 1) o } a = some o := by
    have e : (Array.replicate (a + 1) o)[a]? = some o := by simp
    unfold Heap.get?
    simp only [e]
    rw [ho]
    try rfl
  have h1 : ∃ sl, Heap.get? { objs := Array.replicate (a + 1) o } a = some { PySem.W.instObj C d with slots := sl } ∧ SlX.SlR vs sl := ⟨_, by rw [hg, ho], fun i v hv => ⟨wit v, by simp [hv], wit_rel v⟩⟩
  rw [congrFun z] at h1
  obtain ⟨oc, us, t, e1, e2, _⟩ := h1
  rw [hg] at e1
  cases e1
  rw [ho] at e2
  cases e2
open Classical in
noncomputable def cln (h : Hp) : Hp := fun b => if ∃ o, h b = some o ∧ Bad b o then none else h b
theorem cln_of {h : Hp} {b : Addr} {o : HO} (e : h b = some o) (n : ¬ Bad b o) : cln h b = some o := by
  unfold cln
  rw [if_neg (fun ⟨u, e2, q⟩ => by rw [e] at e2; cases e2; exact n q)]
  exact e
theorem cln_sub {h : Hp} : Same (cln h) h := fun b o e => by
  unfold cln at e
  split at e
  · cases e
  · exact e
theorem cln_none {h : Hp} {b : Addr} (e : h b = none) : cln h b = none := by
  unfold cln
  split
  · rfl
  · exact e
theorem cln_pure (h : Hp) : Pure (cln h) := fun b o e q => by
  have e2 := cln_sub b o e
  unfold cln at e
  rw [if_pos ⟨o, e2, q⟩] at e
  cases e
theorem not_bad {b : Addr} {o : HO} (h1 : ∀ ps, o ≠ .tbl ps) (h2 : ∀ φ, o ≠ .ext φ) : ¬ Bad b o := fun z => by
  rcases z with ⟨ps, z⟩ | ⟨q, z⟩
  · exact h1 ps z
  · exact h2 _ z
theorem sl_not_bad {a C d : Addr} {vs : List (Option V)} : ¬ Bad a (SlX.SlO a C d vs) := fun z => by
  rcases z with ⟨ps, z⟩ | ⟨q, z⟩
  · unfold SlX.SlO at z; cases z
  · exact slO_code z
theorem DiskAt.cln {K : PySem.W.Frag} {h : Hp} {x : Addr} {s : DSt} (D : DiskAt K h x s) : DiskAt K (K59.cln h) x s := by
  obtain ⟨a, D⟩ := D
  have nb : ∀ {b : Addr} {o : HO}, (∀ ps, o ≠ .tbl ps) → (∀ φ, o ≠ .ext φ) → ¬ Bad b o := not_bad
  have fs : ∀ {p C d : Addr} {vs : List (Option V)}, Sm.IsS h p C d vs → Sm.IsS (K59.cln h) p C d vs := fun i => ⟨cln_of i.1 sl_not_bad, cln_of i.2 (nb (fun _ z => nomatch z) (fun _ z => nomatch z))⟩
  exact ⟨a, ⟨⟨cln_of D.firm (nb (fun _ z => nomatch z) (fun _ z => nomatch z)), cln_of D.nms (nb (fun _ z => nomatch z) (fun _ z => nomatch z)), D.fn, cln_of D.chgs (nb (fun _ z => nomatch z) (fun _ z => nomatch z)), ⟨D.each.1, fun i c q => by
    obtain ⟨p, h1, h2⟩ := D.each.2 i c q
    exact ⟨p, h1, cln_of h2 (nb (fun _ z => nomatch z) (fun _ z => nomatch z))⟩⟩, fun i t m q => ⟨fs (D.file i t m q).1, (D.file i t m q).2⟩, D.inj⟩, fs D.self⟩⟩
theorem OwnAt.cln {g : Hp} {o : Addr} {s : DSt} (O : OwnAt g o s) : OwnAt (K59.cln g) o s := by
  obtain ⟨a, O⟩ := O
  have k : ∀ {b : Addr} {u : HO}, g b = some u → (∀ ps, u ≠ .tbl ps) → (∀ φ, u ≠ .ext φ) → K59.cln g b = some u := fun e h1 h2 => cln_of e (not_bad h1 h2)
  exact ⟨a, ⟨⟨k O.firm (fun _ z => nomatch z) (fun _ z => nomatch z), k O.chgs (fun _ z => nomatch z) (fun _ z => nomatch z), O.each.mono fun b xs h => k h (fun _ z => nomatch z) (fun _ z => nomatch z), k O.fls (fun _ z => nomatch z) (fun _ z => nomatch z), fun i t m q => ⟨k (O.file i t m q).1 (fun _ z => nomatch z) (fun _ z => nomatch z), (O.file i t m q).2⟩, O.inj, O.ff, O.oc⟩, k O.self (fun _ z => nomatch z) (fun _ z => nomatch z)⟩⟩
/-- the tables stay -/
theorem tabs_step {T : List (Addr × Str)} {h h' H H' : Hp} (t : LamX.Tabs T H) (p : Pure h) (e : Same h H) (s : Sm.Step h H h' H') : LamX.Tabs T H' := fun r hr => by
  have k : ∀ b o, H b = some o → Bad b o → H' b = some o := fun b o hb q => by
    cases z : h b with
    | none => exact (s.2 b o z hb).1
    | some u =>
      have := e _ _ z
      rw [hb] at this
      cases this
      exact absurd q (p b o z)
  obtain ⟨ps, h1, h2, h3⟩ := t r hr
  refine ⟨ps, k _ _ h1 (.inl ⟨ps, rfl⟩), h2, fun pos cv hc => ?_⟩
  obtain ⟨c, e1, e2⟩ := h3 pos cv hc
  exact ⟨c, e1, k _ _ e2 (.inr ⟨_, rfl⟩)⟩
theorem stepN_of {h H H1 h' H' : Hp} (x : LamX.ExtN H H1) (s : Sm.Step h H1 h' H') : StepN h H h' H' := ⟨s.1, fun b o h1 h2 n => s.2 b o h1 (x b o h2 n)⟩
theorem pure_exN {h H H1 : Hp} (p : Pure h) (e : Same h H) (x : LamX.ExtN H H1) : Same h H1 := fun b o q => x b o (e b o q) fun ps z => p b o q (.inl ⟨ps, z⟩)
theorem done_out {P : Program} {K : PySem.W.Frag} {mg : Str → Option Value} {h H H1 : Hp} {x : Addr} {Q : VK} {r : Except Er DSt} (T : Txt P K mg) (hpu : Pure h) (hh : Same h H) (he : LamX.ExtN H H1) (ht : LamX.Tabs (TT K) H1)
    (hq : match r with
      | .ok s' => ∀ q h' H1 H', StepN h H h' H1 → LamX.Tabs (TT K) H1 → DiskAt K h' x s' → H1 q = none → Same H1 H' → H' q = some (.tup toldT) → Q (.ref q) H'
      | .error e => ∀ q H', LamX.ExtN H H' → LamX.Tabs (TT K) H' → H' q = some (.tup (erT e)) → Q (.ref q) H') : DOut K h H1 x r (fun v H' => rawT Q H' [.str "told", v]) (EMet K Q) := by
  cases r with
  | error e => exact met_er T fun q H' hn hs z => hq q H' (Sm.exN_same he hs) (ht.ext hs) z
  | ok s' => exact fun h' H' st D' => tup_raw (Nat.le_of_ble_eq_true rfl) fun q H2 hn hs z => hq q h' H' H2 (stepN_of he st) (tabs_step ht hpu (pure_exN hpu hh he) st) D' hn hs z
end K59
namespace K59
open PySem PySem.Spec PyProof.Rows L2
/-! ### words between -/
/-- an expression's value, by a word of its own -/
def tCutE (M : L2.St → V → Hp → Prop) (ta : TE) : TE := fun σ H Q => ta σ H (M σ) ∧ ∀ v H', M σ v H' → Q v H'
def tCutX (ta : TE) : TE := fun σ H Q => ∃ M : V → Hp → Prop, ta σ H M ∧ ∀ v H', M v H' → Q v H'
theorem pe_cutX {X : Cx} {e : Expr} {ta : TE} (h : PE X e ta) : PE X e (tCutX ta) := ⟨fun pins s σ H Q I q => by
  obtain ⟨M, h1, h2⟩ := q
  exact thn (h.run pins s σ H M I h1) fun v s1 ⟨x, H1, I1, r1, q1⟩ => ⟨x, H1, I1, r1, h2 _ _ q1⟩⟩
/-- one statement, then the rest, with a word between -/
theorem pss_cut1 {X : Cx} {s1 : Stmt} {rest : List Stmt} {t1 u : L2.TS} (h1 : PS X s1 t1) (h4 : PSs X rest u) : PSs X (s1 :: rest) (C8.tCut t1 u) := by
  refine ⟨fun pins s σ H D I h => ?_⟩
  obtain ⟨Mid, hm, hu⟩ := h
  refine wpAny_execs_cons (thn (h1.run pins s σ H { D with nx := Mid } I hm) fun f sA q => ?_)
  cases f with
  | next =>
    obtain ⟨σ1, H1, I1, q⟩ := q
    exact h4.run pins sA σ1 H1 D I1 (hu _ _ q)
  | _ => exact q
/-! ### heaps -/
theorem same_dlb {G G1 : Hp} {p : Addr} (h : Same G G1) : Same (Sm.dl G p) (Sm.dl G1 p) := Sm.dl_both (Sm.dl_of h)
theorem exN_dice {H H1 : Hp} {p : Addr} (hd : Dice H p) (h : LamX.ExtN H H1) : Dice H1 p := by
  obtain ⟨a, b, c, hp⟩ := hd
  exact ⟨a, b, c, Sm.exN_lst h hp⟩
theorem tabs_dl {T : List (Addr × Str)} {H : Hp} {l : Addr} {xs : List V} (h : LamX.Tabs T H) (hl : H l = some (.lst xs)) : LamX.Tabs T (Sm.dl H l) := fun p hp => by
  obtain ⟨ps, h1, h2, h3⟩ := h p hp
  have ne : ∀ {b : Addr} {o : HO}, H b = some o → (∀ ys, o ≠ .lst ys) → b ≠ l := fun {b o} e n z => by
    rw [z, hl] at e
    exact n _ (Option.some.inj e).symm
  refine ⟨ps, by rw [Sm.dl_ne (ne h1 fun _ z => by cases z)]; exact h1, h2, fun pos cv hc => ?_⟩
  obtain ⟨c, e1, e2⟩ := h3 pos cv hc
  exact ⟨c, e1, by rw [Sm.dl_ne (ne e2 fun _ z => by cases z)]; exact e2⟩
theorem tabs_dice {T : List (Addr × Str)} {H H1 : Hp} {p : Addr} (h : LamX.Tabs T H) (hd : Dice H p) (hs : Same (Sm.dl H p) H1) : LamX.Tabs T H1 := by
  obtain ⟨a, b, c, hp⟩ := hd
  exact (tabs_dl h hp).ext hs
theorem dice_nn {H : Hp} {p : Addr} (h : Dice H p) : H p ≠ none := by
  obtain ⟨a, b, c, h⟩ := h
  exact nn h
/-- without tables -/
def nt (H : Hp) : Hp := fun b => match H b with
  | some (.tbl _) => none
  | u => u
theorem nt_of {H : Hp} {b : Addr} {o : HO} (e : H b = some o) (n : ∀ ps, o ≠ .tbl ps) : nt H b = some o := by
  unfold nt
  rw [e]
  cases o <;> first | rfl | exact absurd rfl (n _)
theorem nt_sub {H : Hp} : Same (nt H) H := fun b o e => by
  unfold nt at e
  split at e
  · cases e
  · exact e
theorem nt_no {H : Hp} {b : Addr} {ps : Array Value} : nt H b ≠ some (.tbl ps) := fun e => by
  have e2 := nt_sub _ _ e
  unfold nt at e
  rw [e2] at e
  cases e
theorem nt_none {H : Hp} {b : Addr} (e : H b = none) : nt H b = none := by
  unfold nt
  rw [e]
/-! ### a disk and an own one, side by side -/
structure Duo (K : PySem.W.Frag) (O h g : Hp) (p x o : Addr) (s t : DSt) (G : Hp) : Prop where
  d : DiskAt K h x s
  w : OwnAt g o t
  hG : Same h G
  gG : Same g G
  oG : Same O G
  hg : ∀ a u, g a = some u → h a = none
  oh : ∀ a u, O a = some u → h a = none
  og : ∀ a u, O a = some u → g a = none
  ph : Pure h
  pg : Pure g
  po : ∀ a ps, O a ≠ some (.tbl ps)
  T : LamX.Tabs (TT K) G
  dice : Dice G p
  hp : h p = none
  gp : g p = none
  op : O p = none
section
variable {K : PySem.W.Frag} {O h g G G1 h' g' : Hp} {p x y o o' : Addr} {s t s' t' : DSt}
theorem pure_no {h : Hp} (ph : Pure h) {a : Addr} {u : HO} (e : h a = some u) : ∀ ps, u ≠ .tbl ps := fun ps z => ph a u e (.inl ⟨ps, z⟩)
theorem off_none {h : Hp} {p : Addr} (hp : h p = none) {b : Addr} {u : HO} (e : h b = some u) : b ≠ p := fun z => by rw [z, hp] at e; cases e
theorem Duo.same (D : Duo K O h g p x o s t G) (e : Same G G1) : Duo K O h g p x o s t G1 := { D with hG := D.hG.trans e, gG := D.gG.trans e, oG := D.oG.trans e, T := D.T.ext e, dice := dice_mv D.dice e }
theorem Duo.roll (D : Duo K O h g p x o s t G) (e : Same (Sm.dl G p) G1) (hd : Dice G1 p) : Duo K O h g p x o s t G1 := { D with
  hG := fun b u q => e _ _ ((Sm.dl_ne (off_none D.hp q)).trans (D.hG _ _ q))
  gG := fun b u q => e _ _ ((Sm.dl_ne (off_none D.gp q)).trans (D.gG _ _ q))
  oG := fun b u q => e _ _ ((Sm.dl_ne (off_none D.op q)).trans (D.oG _ _ q))
  T := tabs_dice D.T D.dice e
  dice := hd }
theorem Duo.ext (D : Duo K O h g p x o s t G) (e : LamX.ExtN G G1) (T : LamX.Tabs (TT K) G1) : Duo K O h g p x o s t G1 := { D with
  hG := fun b u q => e _ _ (D.hG _ _ q) (pure_no D.ph q)
  gG := fun b u q => e _ _ (D.gG _ _ q) (pure_no D.pg q)
  oG := fun b u q => e _ _ (D.oG _ _ q) (fun ps z => D.po b ps (by rw [q, z]))
  T := T
  dice := exN_dice D.dice e }
/-- a thing that is none of theirs -/
theorem Duo.put (D : Duo K O h g p x o s t G) {a : Addr} {xs : List V} {u : HO} (ha : G a = some (.lst xs)) (h1 : h a = none) (h2 : g a = none) (h3 : O a = none) (ne : a ≠ p) : Duo K O h g p x o s t (upd G a u) := { D with
  hG := fun b w q => (upd_ne (off_none h1 q)).trans (D.hG _ _ q)
  gG := fun b w q => (upd_ne (off_none h2 q)).trans (D.gG _ _ q)
  oG := fun b w q => (upd_ne (off_none h3 q)).trans (D.oG _ _ q)
  T := (tabs_dl D.T ha).ext fun b w q => by
    have hb : b ≠ a := fun z => by rw [z] at q; unfold Sm.dl at q; rw [if_pos rfl] at q; cases q
    rw [upd_ne hb]
    rw [Sm.dl_ne hb] at q
    exact q
  dice := by
    obtain ⟨i, j, k, q⟩ := D.dice
    exact ⟨i, j, k, (upd_ne (Ne.symm ne)).trans q⟩ }
theorem Duo.deed (D : Duo K O h g p x o s t G) (st : StepN h G h' G1) (T : LamX.Tabs (TT K) G1) (d' : DiskAt K h' x s') : Duo K O (cln h') g p x o s' t G1 := { D with
  d := d'.cln
  hG := cln_sub.trans st.1
  gG := fun b u q => (st.2 b u (D.hg _ _ q) (D.gG _ _ q) (pure_no D.pg q)).1
  oG := fun b u q => (st.2 b u (D.oh _ _ q) (D.oG _ _ q) (fun ps z => D.po b ps (by rw [q, z]))).1
  hg := fun b u q => cln_none (st.2 b u (D.hg _ _ q) (D.gG _ _ q) (pure_no D.pg q)).2
  oh := fun b u q => cln_none (st.2 b u (D.oh _ _ q) (D.oG _ _ q) (fun ps z => D.po b ps (by rw [q, z]))).2
  ph := cln_pure _
  T := T
  dice := by
    obtain ⟨i, j, k, q⟩ := D.dice
    exact ⟨i, j, k, (st.2 p _ D.hp q (fun _ z => nomatch z)).1⟩
  hp := by
    obtain ⟨i, j, k, q⟩ := D.dice
    exact cln_none (st.2 p _ D.hp q (fun _ z => nomatch z)).2 }
theorem Duo.own (D : Duo K O h g p x o s t G) (st : Sm.Step g G g' G1) (w' : OwnAt g' o t') : Duo K O h (cln g') p x o s t' G1 := by
  have k : ∀ b u, h b = some u → G1 b = some u ∧ g' b = none := fun b u q => st.2 b u (by
    cases e : g b with
    | none => rfl
    | some v => rw [D.hg _ _ e] at q; cases q) (D.hG _ _ q)
  exact { D with
    w := w'.cln
    hG := fun b u q => (k b u q).1
    gG := cln_sub.trans st.1
    oG := fun b u q => (st.2 b u (D.og _ _ q) (D.oG _ _ q)).1
    hg := fun b u q => by
      cases e : h b with
      | none => rfl
      | some v => rw [cln_none (k b v e).2] at q; cases q
    og := fun b u q => cln_none (st.2 b u (D.og _ _ q) (D.oG _ _ q)).2
    pg := cln_pure _
    T := tabs_step D.T D.pg D.gG st
    dice := by
      obtain ⟨i, j, l, q⟩ := D.dice
      exact ⟨i, j, l, (st.2 p _ D.gp q).1⟩
    gp := by
      obtain ⟨i, j, l, q⟩ := D.dice
      exact cln_none (st.2 p _ D.gp q).2 }
theorem Duo.lost (D : Duo K O h g p x o s t G) (n : ∀ b, G b ≠ none → h' b = none) (e : Same G G1) (e' : Same h' G1) (d' : DiskAt K h' y s') : Duo K O (cln h') g p y o s' t G1 := { D.same e with
  d := d'.cln
  hG := cln_sub.trans e'
  hg := fun b u q => cln_none (n b (nn (D.gG _ _ q)))
  oh := fun b u q => cln_none (n b (nn (D.oG _ _ q)))
  ph := cln_pure _
  hp := cln_none (n p (dice_nn D.dice)) }
theorem Duo.lostO (D : Duo K O h g p x o s t G) (n : ∀ b, G b ≠ none → g' b = none) (e : Same G G1) (e' : Same g' G1) (w' : OwnAt g' o' t') : Duo K O h (cln g') p x o' s t' G1 := { D.same e with
  w := w'.cln
  gG := cln_sub.trans e'
  hg := fun b u q => by
    cases e2 : h b with
    | none => rfl
    | some v => rw [cln_none (n b (nn (D.hG _ _ e2)))] at q; cases q
  og := fun b u q => cln_none (n b (nn (D.oG _ _ q)))
  pg := cln_pure _
  gp := cln_none (n p (dice_nn D.dice)) }
/-- none of the two -/
theorem Duo.free (D : Duo K O h g p x o s t G) {a : Addr} (n : G a = none) : h a = none ∧ g a = none ∧ O a = none ∧ a ≠ p := ⟨none_of D.hG n, none_of D.gG n, none_of D.oG n, fun z => dice_nn D.dice (z ▸ n)⟩
end
/-- what stands beside them -/
def rest (H : Hp) (p W : Addr) (ws : List V) : Hp := upd (nt (Sm.dl H p)) W (.lst ws)
theorem dl_at {H : Hp} {p b : Addr} {u : HO} (e : Sm.dl H p b = some u) : b ≠ p ∧ H b = some u := by
  have hb : b ≠ p := fun z => by rw [z] at e; unfold Sm.dl at e; rw [if_pos rfl] at e; cases e
  exact ⟨hb, by rw [Sm.dl_ne hb] at e; exact e⟩
theorem rest_in {H : Hp} {p W b : Addr} {ws : List V} {u : HO} (e : rest H p W ws b = some u) : (b = W ∧ u = .lst ws) ∨ (b ≠ W ∧ b ≠ p ∧ H b = some u ∧ ∀ ps, u ≠ .tbl ps) := by
  unfold rest at e
  by_cases hb : b = W
  · rw [hb, upd_same] at e
    exact .inl ⟨hb, (Option.some.inj e).symm⟩
  · rw [upd_ne hb] at e
    obtain ⟨h1, h2⟩ := dl_at (nt_sub _ _ e)
    exact .inr ⟨hb, h1, h2, fun ps z => nt_no (by rw [e, z])⟩
theorem rest_of {H : Hp} {p W b : Addr} {ws : List V} {u : HO} (e : H b = some u) (h1 : b ≠ p) (h2 : b ≠ W) (n : ∀ ps, u ≠ .tbl ps) : rest H p W ws b = some u := by
  unfold rest
  rw [upd_ne h2]
  exact nt_of (by rw [Sm.dl_ne h1]; exact e) n
theorem duo_new {K : PySem.W.Frag} {H1 H4 H5 h g : Hp} {p W x o : Addr} {ws : List V} {s t : DSt} (hd : Dice H1 p) (hT : LamX.Tabs (TT K) H1) (hn : ∀ b, H1 b ≠ none → h b = none) (gn : ∀ b, H1 b ≠ none → g b = none) (hgd : ∀ a u, h a = some u → g a = none) (e : Same H1 H4) (hh : Same h H4) (gg : Same g H4)
    (d : DiskAt K h x s) (w : OwnAt g o t) (nW : H4 W = none) (e5 : Same H4 H5) (hW : H5 W = some (.lst ws)) (hpW : p ≠ W) : Duo K (rest H1 p W ws) (cln h) (cln g) p x o s t H5 where
  d := d.cln
  w := w.cln
  hG := (cln_sub.trans hh).trans e5
  gG := (cln_sub.trans gg).trans e5
  oG := fun b u q => by
    rcases rest_in q with ⟨rfl, rfl⟩ | ⟨_, _, q, _⟩
    · exact hW
    · exact e5 _ _ (e _ _ q)
  hg := fun b u q => cln_none (by
    cases z : h b with
    | none => rfl
    | some v => rw [cln_none (hgd _ _ z)] at q; cases q)
  oh := fun b u q => cln_none (by
    rcases rest_in q with ⟨rfl, rfl⟩ | ⟨_, _, q, _⟩
    · exact none_of hh nW
    · exact hn _ (nn q))
  og := fun b u q => cln_none (by
    rcases rest_in q with ⟨rfl, rfl⟩ | ⟨_, _, q, _⟩
    · exact none_of gg nW
    · exact gn _ (nn q))
  ph := cln_pure _
  pg := cln_pure _
  po := fun b ps q => by
    rcases rest_in q with ⟨_, z⟩ | ⟨_, _, _, z⟩
    · cases z
    · exact z ps rfl
  T := (hT.ext e).ext e5
  dice := dice_mv (dice_mv hd e) e5
  hp := cln_none (hn _ (dice_nn hd))
  gp := cln_none (gn _ (dice_nn hd))
  op := by
    cases z : rest H1 p W ws p with
    | none => rfl
    | some u =>
      rcases rest_in z with ⟨z, _⟩ | ⟨_, z, _⟩
      · exact absurd z hpW
      · exact absurd rfl z
/-! ### names, texts, deeds -/
def NmG (k : Key) : Prop := NmOk k ∧ k ≠ .inr (Str.ofString "zz")
def TxG (t : Key) : Prop := TxOk t ∧ ∀ z, t = .inr z → prn z = true
def nmB (z : Str) : Bool := decide (z.length ≤ 1000) && (PyData.strOk z && decide (z ≠ Str.ofString "zz"))
theorem nmG_of {z : Str} (h : nmB z = true) : NmG (.inr z) := by
  unfold nmB at h
  rw [Bool.and_eq_true, Bool.and_eq_true] at h
  exact ⟨fun y e => (by cases e; exact ⟨of_decide_eq_true h.1, h.2.1⟩), fun e => of_decide_eq_true h.2.2 (Sum.inr.inj e)⟩
theorem nmG_int (i : Int) : NmG (.inl i) := ⟨fun y e => (nomatch e), fun e => (nomatch e)⟩
theorem nmG_n {r : Int} (h0 : 0 ≤ r) (h1 : r < 10) : NmG (.inr (Str.ofString "n" ++ Str.ofString (toString r))) := nmG_of (by
  have k : ∀ i : Fin 10, nmB (Str.ofString "n" ++ Str.ofString (toString ((i.val : Nat) : Int))) = true := by decide +kernel
  have z := k ⟨r.toNat, by omega⟩
  have e : ((r.toNat : Nat) : Int) = r := Int.toNat_of_nonneg h0
  simp only [e] at z
  exact z)
def txB (z : Str) : Bool := decide (z.length ≤ 4) && (PyData.strOk z && prn z)
theorem txG_of {z : Str} (h : txB z = true) : TxG (.inr z) := by
  unfold txB at h
  rw [Bool.and_eq_true, Bool.and_eq_true] at h
  exact ⟨fun y e => (by cases e; exact ⟨of_decide_eq_true h.1, h.2.1⟩), fun y e => (by cases e; exact h.2.2)⟩
theorem txG_int (i : Int) : TxG (.inl i) := ⟨fun y e => (nomatch e), fun y e => (nomatch e)⟩
def deedWord (w : Str) : Prop := w = Str.ofString "append" ∨ w = Str.ofString "sync" ∨ w = Str.ofString "names" ∨ w = Str.ofString "remove" ∨ w = Str.ofString "rename"
theorem deed_of {w : Str} {n t : Key} (hw : deedWord w) (hn : NmG n) (ht : w ≠ Str.ofString "rename" → TxG t) (hr : w = Str.ofString "rename" → NmG t) : ∃ dd, deedT dd = [.str w, kV n, kV t] ∧ DdOk dd := by
  rcases hw with rfl | rfl | rfl | rfl | rfl
  · exact ⟨.app n t, rfl, hn.1, (ht (by decide)).1, (ht (by decide)).2, hn.2⟩
  · exact ⟨.syn n t, rfl, hn.1⟩
  · exact ⟨.nms n t, rfl, trivial⟩
  · exact ⟨.rem n t, rfl, hn.1⟩
  · exact ⟨.ren n t, rfl, hn.1, (hr rfl).1, (hr rfl).2⟩
/-! ### what is told, compared -/
def kD : Key → PyData
  | .inl i => .int i
  | .inr z => .str z
theorem kD_at {K : PySem.W.Frag} {H : Hp} (k : Key) : Dp K H (kV k) (kD k) := by
  cases k with
  | inl i => exact .int i
  | inr z => exact .str z
def erD : Er → List PyData
  | .name => [.str "name"]
  | .op => [.str "operation"]
  | .unk k => [.str "unknown", kD k]
  | .many => [.str "many", .int 8]
  | .lost p => [.str "lost", .int p]
theorem erD_at {K : PySem.W.Frag} {H : Hp} (e : Er) : DpAll K H (erT e) (erD e) := by
  cases e with
  | name => exact .cons (.str _) .nil
  | op => exact .cons (.str _) .nil
  | unk k => exact .cons (.str _) (.cons (kD_at k) .nil)
  | many => exact .cons (.str _) (.cons (.int _) .nil)
  | lost p => exact .cons (.str _) (.cons (.int _) .nil)
theorem eqv_str (z : Str) : PyData.eqv (.str z) (.str z) = true := by simp [PyData.eqv]
theorem eqv_int (z : Int) : PyData.eqv (.int z) (.int z) = true := by simp [PyData.eqv]
theorem eqv_kD (k : Key) : PyData.eqv (kD k) (kD k) = true := by
  cases k with
  | inl i => exact eqv_int i
  | inr z => exact eqv_str z
theorem eqv_er (e : Er) : PyData.eqv (.tuple (erD e)) (.tuple (erD e)) = true := by
  cases e <;> simp [erD, PyData.eqv, PyData.eqvAll, eqv_kD]
theorem kD_lay {k : Key} (h : NmOk k) : (kD k).canLay0 = true ∧ (kD k).depth ≤ 10 := by
  cases k with
  | inl i => exact ⟨by first | rfl | exact lay_str (by decide +kernel), Nat.zero_le _⟩
  | inr z => exact ⟨lay_str (h z rfl).2, Nat.zero_le _⟩
theorem er_shaped {e : Er} (h : ∀ k, e = .unk k → NmOk k) : SeqAt.shaped (.tuple (erD e)) = true := sh_tuple fun d hd => by
  cases e with
  | name => rw [List.mem_singleton.mp hd]; exact ⟨by first | rfl | exact lay_str (by decide +kernel), Nat.zero_le _⟩
  | op => rw [List.mem_singleton.mp hd]; exact ⟨by first | rfl | exact lay_str (by decide +kernel), Nat.zero_le _⟩
  | unk k =>
    rcases List.mem_cons.mp hd with rfl | hd
    · exact ⟨by first | rfl | exact lay_str (by decide +kernel), Nat.zero_le _⟩
    · rw [List.mem_singleton.mp hd]; exact kD_lay (h k rfl)
  | many =>
    rcases List.mem_cons.mp hd with rfl | hd
    · exact ⟨by first | rfl | exact lay_str (by decide +kernel), Nat.zero_le _⟩
    · rw [List.mem_singleton.mp hd]; exact ⟨by first | rfl | exact lay_str (by decide +kernel), Nat.zero_le _⟩
  | lost p =>
    rcases List.mem_cons.mp hd with rfl | hd
    · exact ⟨by first | rfl | exact lay_str (by decide +kernel), Nat.zero_le _⟩
    · rw [List.mem_singleton.mp hd]; exact ⟨by first | rfl | exact lay_str (by decide +kernel), Nat.zero_le _⟩
/-- the first of what is told is a text other than "told" -/
theorem er_head (e : Er) : ∃ z r, erT e = .str z :: r ∧ z ≠ Str.ofString "told" := by
  cases e <;> exact ⟨_, _, rfl, by decide⟩
theorem deed_unk {s : DSt} {dd : Deed} {k : Key} (ho : DdOk dd) (h : deed s dd = .error (.unk k)) : NmOk k := by
  have key : ∀ {s : DSt}, step1 s ≠ .error (.unk k) := fun {s} z => by
    unfold step1 at z
    split at z
    · split at z <;> cases z
    · cases z
  cases dd with
  | app n t =>
    have h : doApp s n t = .error (.unk k) := h
    unfold doApp at h
    split at h
    · cases h
    · split at h
      · cases h
      · split at h
        · split at h
          · cases h
          · split at h
            · rename_i q; cases h; exact absurd q key
            · cases h
        · cases h
  | syn n t =>
    have h : doSyn s n = .error (.unk k) := h
    unfold doSyn at h
    split at h
    · cases h; exact ho
    · split at h
      · rename_i q; cases h; exact absurd q key
      · cases h
  | rem n t =>
    have h : doRem s n = .error (.unk k) := h
    unfold doRem at h
    split at h
    · cases h; exact ho
    · split at h
      · cases h; exact ho
      · split at h
        · rename_i q; cases h; exact absurd q key
        · cases h
  | ren n t =>
    have h : doRen s n t = .error (.unk k) := h
    unfold doRen at h
    split at h
    · cases h; exact ho.1
    · split at h
      · cases h; exact ho.1
      · split at h
        · cases h
        · split at h
          · cases h
          · split at h
            · rename_i q; cases h; exact absurd q key
            · cases h
  | nms n t =>
    have h : doNms s = .error (.unk k) := h
    unfold doNms at h
    split at h
    · rename_i q; cases h; exact absurd q key
    · cases h
theorem pw_good {p : Option Int} (h : PwOk p) : ∀ i, p = some i → PwGood i := fun i e => ⟨(h i e).1, by have := (h i e).2; omega⟩
theorem pw_small {p : Option Int} (h : PwOk p) : PwSmall p := fun i e => by have := h i e; omega
def wds : List Str := [Str.ofString "append", Str.ofString "append", Str.ofString "append", Str.ofString "append", Str.ofString "sync", Str.ofString "names", Str.ofString "remove", Str.ofString "rename", Str.ofString "lost"]
theorem wds_at {i : Nat} {v : V} (h : (wds.map V.str)[i]? = some v) : ∃ w, v = .str w ∧ (deedWord w ∨ w = Str.ofString "lost") := by
  rw [List.getElem?_map] at h
  cases q : wds[i]? with
  | none => rw [q] at h; cases h
  | some w =>
    rw [q] at h
    cases h
    refine ⟨w, rfl, ?_⟩
    have m := List.mem_of_getElem? q
    unfold wds at m
    simp only [List.mem_cons, List.not_mem_nil, or_false] at m
    unfold deedWord
    rcases m with rfl | rfl | rfl | rfl | rfl | rfl | rfl | rfl | rfl <;> simp
theorem deed_not_lost {w : Str} (h : deedWord w) : w ≠ Str.ofString "lost" := by
  rcases h with rfl | rfl | rfl | rfl | rfl <;> decide
theorem sh_k {k : Key} (h : NmOk k) : SeqAt.shaped (kD k) = true := by
  obtain ⟨h1, h2⟩ := kD_lay h
  simp only [SeqAt.shaped, h1, Bool.true_and, decide_eq_true_eq]
  omega
theorem tx_nm {t : Key} (h : TxG t) : NmOk t := fun z e => ⟨Nat.le_trans (h.1 z e).1 (by decide), (h.1 z e).2⟩
theorem nm1_at {K : PySem.W.Frag} {H : Hp} {i : Int} : DpAll K H [.str (Str.ofString "number"), .int i] [.str (Str.ofString "number"), .int i] := .cons (.str _) (.cons (.int _) .nil)
theorem nm_sh {i : Int} : SeqAt.shaped (.tuple [.str (Str.ofString "number"), .int i]) = true := sh_tuple fun d hd => by
  rcases List.mem_cons.mp hd with rfl | hd
  · exact ⟨lay_str (by decide +kernel), Nat.zero_le _⟩
  · rw [List.mem_singleton.mp hd]; exact ⟨rfl, Nat.zero_le _⟩
theorem nm_eqv {i : Int} : PyData.eqv (.tuple [.str (Str.ofString "number"), .int i]) (.tuple [.str (Str.ofString "number"), .int i]) = true := by simp [PyData.eqv, PyData.eqvAll]
end K59
namespace K59
open PySem PySem.Spec PyProof.Rows L2
local macro_rules | `(tactic| wtm_at "dc") => `(tactic| first | assumption | exact dice_mv (by assumption) (by wtm_at "sm"))
local macro_rules | `(tactic| wtm_at "ow") => `(tactic| first | assumption | exact obj_at (by assumption) (by wtm_at "sm") | exact Sm.IsS.at (by assumption) (by wtm_at "sm"))
local macro_rules | `(tactic| wtm_at "lj") => `(tactic| (refine Sm.len_le ?_; simp only [Sm.len_app, Sm.len_emp]; omega))
local macro_rules | `(tactic| wtm_at "ti") => `(tactic| first | assumption | exact tiAt_at (by assumption) (by wtm_at "sm"))
local macro_rules | `(tactic| wtm_at "pl") => `(tactic| exact Nat.le_of_ble_eq_true rfl)
local macro_rules | `(tactic| wtm_at "st") => `(tactic| first | ((with_reducible apply c_is_whole); (focus (wtm_at "at")); intro H' hs) | ((with_reducible apply c_is_integer); (focus (wtm_at "at")); intro H' hs) | ((with_reducible apply c_is_name); (focus (assumption)); intro H' hs) | ((with_reducible apply c_law_is_name); (focus (assumption)); intro H' hs) | ((with_reducible apply c_is_disk_text); (focus (assumption)); intro H' hs) | ((with_reducible apply c_is_nameS); (focus (assumption)); intro H' hs) | ((with_reducible apply c_law_is_nameS); (focus (assumption)); intro H' hs) | ((with_reducible apply c_is_disk_textS); (focus (assumption)); intro H' hs) | ((with_reducible apply c_file0); intro p d H' hn hd hne he hf) | ((with_reducible apply c_roll); (focus (wtm_at "dc")); (focus (wtm_at "sd")); (focus (wtm_at "sd")); intro r H' h0 h1 hs hd) | ((with_reducible apply c_one_of); (focus (wtm_at "dc")); (focus (wtm_at "at")); (focus (wtm_at "sd")); (focus (wtm_at "sd")); intro i v H' hx hs hd) | ((with_reducible apply Sm.g_slc); (focus (wtm_at "ow")); (focus (rfl))) | ((with_reducible apply Sm.g_slcA); (focus (wtm_at "ow")); (focus (rfl))) | ((with_reducible apply Sm.g_js); (focus (wtm_at "lj"))) | ((with_reducible apply Sm.g_new4); intro p H2 hn he hp) | ((with_reducible apply Sm.g_ssl0); (focus (wtm_at "ow")); (focus (assumption)); intro H' hs hi) | ((with_reducible apply Sm.g_ssl); (focus (wtm_at "ow")); intro H' hs hi) | ((with_reducible apply Sm.g_sslA); (focus (wtm_at "ow")); intro H' hs hi) | ((with_reducible apply Sm.g_me); (focus (wtm_at "ow"))) | ((with_reducible apply Sm.g_prp); (focus (wtm_at "ow"))) | ((with_reducible apply Sm.g_dinR); (focus (wtm_at "ow"))) | ((with_reducible apply Sm.g_dinRS); (focus (wtm_at "ow"))) | ((with_reducible apply Sm.g_lenD); (focus (wtm_at "ow"))) | ((with_reducible apply Sm.g_dictD); (focus (wtm_at "ow")); intro q H' hn hs hq) | ((with_reducible apply Sm.g_pop0); (focus (wtm_at "ow"))) | ((with_reducible apply Sm.g_popS); (focus (wtm_at "ow")); (focus (assumption)); intro H' hs hp) | ((with_reducible apply Sm.g_dputS); (focus (wtm_at "ow")); (focus (wtm_at "sd")); intro H' hs hp) | ((with_reducible apply Sm.g_dputI); (focus (wtm_at "ow")); (focus (wtm_at "sd")); intro H' hs hp) | ((with_reducible apply Sm.g_dgetS); (focus (wtm_at "ow")); (focus (assumption))) | ((with_reducible apply Sm.g_dgetF); (focus (wtm_at "ow")); (focus (assumption))) | ((with_reducible apply Sm.g_dgetI); (focus (wtm_at "ow")); (focus (assumption))) | ((with_reducible apply Sm.g_leS)) | ((with_reducible apply Sm.g_iterT); (focus (wtm_at "at")); intro it H' hn hs hi) | ((with_reducible apply Sm.g_BM)) | ((with_reducible apply Sm.g_tyL); (focus (wtm_at "ow"))) | ((with_reducible apply Sm.g_app); (focus (wtm_at "ow")); (focus (assumption)); intro H' hs hp) | ((with_reducible apply Sm.g_pl); (focus (wtm_at "pl"))) | ((with_reducible apply Sm.g_setLn); (focus (wtm_at "ow")); (focus (rfl)); intro H' hs hp) | ((with_reducible apply Sm.g_gLst); (focus (wtm_at "ow")); (focus (rfl))))
section
variable {P : Program} {w : World} {K : PySem.W.Frag} {mg : Str → Option Value} {base : Heap} {f : Addr} {fd : FuncData}
theorem ok_is_whole (T : Txt P K mg) (F : FD K "is_whole" s_is_whole f fd)    : FnOk P w K mg base (L2.CX P w) 1 f fd P_is_whole (sp_is_whole K) := by
  refine F.ok sc_is_whole (fun vs H Q E h => ?_) (fun cdv A outer s H vs Q E hr h => ?_)
  · obtain ⟨x, d, rfl, _⟩ := h
    rfl
  obtain ⟨x, d, rfl, hd, hq⟩ := h
  refine ⟨_, (pss_one (ps_ret (pe_and (pe_callB call_isi rfl T.f_isinstance (by decide +kernel) (pa_cons (pv 0) (pa_cons (Sm.pe_ty (n := "int") T.f_int (by decide +kernel)) pa_nil))) (pe_one (pe_not (pe_callB call_isi rfl T.f_isinstance (by decide +kernel) (pa_cons (pv 0) (pa_cons (Sm.pe_ty (n := "bool") T.f_bool (by decide +kernel)) pa_nil)))))))), ?_⟩
  rw [st_is_whole]
  cases hd <;> (repeat' wtm_at "st")
  all_goals exact hq _ (Same.refl _)
end
section
variable {P : Program} {w : World} {K : PySem.W.Frag} {mg : Str → Option Value} {base : Heap} {f : Addr} {fd : FuncData}
theorem ok_is_integer (T : Txt P K mg) (F : FD K "is_integer" s_is_integer f fd) (G_is_whole : Sm.Fn P w K mg base 1 "is_whole" P_is_whole (sp_is_whole K))   : FnOk P w K mg base (L2.CX P w) 2 f fd P_is_integer (sp_is_integer K) := by
  refine F.ok sc_is_integer (fun vs H Q E h => ?_) (fun cdv A outer s H vs Q E hr h => ?_)
  · obtain ⟨x, d, rfl, _⟩ := h
    rfl
  obtain ⟨x, d, rfl, hd, hq⟩ := h
  refine ⟨_, (pss_one (ps_ret (pe_and (Sm.pe_fn G_is_whole hr (pa_cons (pv 0) pa_nil)) (pe_one (pe_cmpR op_lt (pe_callB Sm.call_absU rfl T.f_abs (by decide +kernel) (pa_cons (pv 0) pa_nil)) (Sm.pe_gi T.c_BEYOND_INTEGERS) (nomark _)))))), ?_⟩
  rw [st_is_integer]
  cases d with
  | int i =>
    cases hd
    repeat' wtm_at "st"
    · exact hq _ (by wtm_at "sm")
    · rename_i hc; cases hc
  | _ =>
    repeat' wtm_at "st"
    all_goals first | exact hq _ (by wtm_at "sm") | (rename_i hc; cases hc)
end
section
variable {P : Program} {w : World} {K : PySem.W.Frag} {mg : Str → Option Value} {base : Heap} {f : Addr} {fd : FuncData}
theorem ok_is_name (T : Txt P K mg) (F : FD K "is_name" s_is_name f fd)    : FnOk P w K mg base (L2.CX P w) 1 f fd P_is_name (sp_is_name K) := by
  refine F.ok sc_is_name (fun vs H Q E h => ?_) (fun cdv A outer s H vs Q E hr h => ?_)
  · obtain ⟨k, rfl, _⟩ := h
    rfl
  obtain ⟨k, rfl, hz, hq⟩ := h
  refine ⟨_, (pss_cons (ps_if (PW.pt (pw_or (pt_not (pt_truth (pe_callB call_isi rfl T.f_isinstance (by decide +kernel) (pa_cons (pv 0) (pa_cons (Sm.pe_ty (n := "str") T.f_str (by decide +kernel)) pa_nil))) (by intro _; rfl))) (pw_or (pt_not (pt_chain op_le op_le pe_int (pe_callB Sm.call_lenU rfl T.f_len (by decide +kernel) (pa_cons (pv 0) pa_nil)) (Sm.pe_gi T.c_MOST_NAME))) (pw_or1 (pt_cmpR Sm.op_niU (pe_ix ix_seq (pv 0) pe_int (fun _ _ => rfl)) (Sm.pe_gs T.c_LETTERS) (by rfl)))))) (pss_one (ps_ret pe_bl)) pss_nil)
      (pss_one (ps_ret (pe_callB (cr_all rfl) rfl T.f_all (by decide +kernel) (pa_cons (pe_lc (own := [("sign", 1)]) rfl sc_is_name.nd (pi_str (pv 0)) (blkOk_by (own := [("sign", 1)]) (N := N_is_name) (sc := defScope s_is_name) (by decide +kernel)) (fun _ _ _ _ _ => (pg_name (i := 1) sc_is_name.nd rfl (Or.inl rfl))) (fun _ _ _ _ _ => pts_nil) (fun _ _ _ _ _ => (pe_or (pe_cmpR (Sm.op_inK (K := K) rfl) (pv 1) (Sm.pe_gs T.c_LETTERS) (by rfl)) (pe_one (pe_cmpR (Sm.op_inK (K := K) rfl) (pv 1) (Sm.pe_gs T.c_DIGITS) (by rfl)))))) pa_nil))))), ?_⟩
  rw [st_is_name]
  cases k with
  | inr z =>
    have hl : z.length ≤ 1000 := (hz z rfl).1
    have hlz : z.length ≤ sizeLine := Sm.len_le (by omega)
    have hl2 : z.length = z.cps.toList.length := TL.len_tl z
    show _
    have key : ∀ b : Bool, nameS z = b → ∀ H', Same H H' → Q (.bl b) H' := fun b e H' hs => by rw [← e]; exact hq H' hs
    change tSeq _ _ _ [some (V.str z), none] H
    by_cases h8 : 1 ≤ z.cps.toList.length ∧ z.cps.toList.length ≤ 8
    · obtain ⟨c, r, hc⟩ := List.exists_cons_of_length_pos (show 0 < z.cps.toList.length by omega)
      have h0 : atI z.cps.toList 0 = some c := by rw [hc]; exact atI_nat (j := 0) rfl
      have hN : nameS z = (letter c && z.cps.toList.all fun c => letter c || digit c) := by
        show (decide _ && _) = _
        rw [decide_eq_true h8, hc]
        rfl
      have hcl : decide (c ∈ (Str.ofString "abcdefghijklmnopqrstuvwxyz").cps.toList) = letter c := rfl
      repeat' wtm_at "st"
      · refine key false ?_ _ (by wtm_at "sm")
        rw [hN, ← hcl, decide_eq_false (by assumption), Bool.false_and]
      · rename_i hcm
        refine Sm.g_lc walk_str (fun R h => ⟨_, rfl, z, rfl, h⟩) (fun i => ((z.cps.toList.take i).map fun c => letter c || digit c).map V.bl) rfl (fun _ _ => trivial) ?_ ?_
        · rintro D i x H1 H2 hD hi hs hL ⟨rfl, c', hc', rfl⟩
          have hc2 : z.cps.toList[i]? = some c' := by
            rw [Array.getElem?_toList]
            exact hc'
          refine Sm.Stq.h (g := gName 1 (V.str ⟨#[c']⟩) [some (V.str z), none] _ _) ?_
          refine ⟨rfl, ?_⟩
          have hlen : (((z.cps.toList.take i).map fun c => letter c || digit c).map V.bl).length < sizeLine := by
            rw [List.length_map, List.length_map, List.length_take]
            exact Nat.lt_of_le_of_lt (Nat.le_trans (Nat.min_le_right _ _) (by omega : z.cps.toList.length ≤ 1000)) (by decide)
          have hstep : ∀ v : Bool, (letter c' || digit c') = v → (((z.cps.toList.take (i + 1)).map fun c => letter c || digit c).map V.bl) = (((z.cps.toList.take i).map fun c => letter c || digit c).map V.bl) ++ [V.bl v] := fun v e => by
            rw [List.take_succ, hc2, List.map_append, List.map_append]
            show _ ++ [V.bl (letter c' || digit c')] = _
            rw [e]
          by_cases h1 : c' ∈ (Str.ofString "abcdefghijklmnopqrstuvwxyz").cps.toList
          · have e1 : (letter c' || digit c') = true := by
              rw [show letter c' = true from decide_eq_true h1, Bool.true_or]
            repeat' wtm_at "st"
            exact Sm.lc_add hD hs hL hlen (hstep _ e1)
          · have e1 : (letter c' || digit c') = decide (c' ∈ (Str.ofString "0123456789").cps.toList) := by
              rw [show letter c' = false from decide_eq_false h1, Bool.false_or]
              rfl
            repeat' wtm_at "st"
            exact Sm.lc_add hD hs hL hlen (hstep _ e1)
        · rintro D H1 hD hs hL
          rw [List.take_of_length_le (show z.cps.toList.length ≤ z.cps.size from Nat.le_of_eq (Array.length_toList ..))] at hL
          wtm_at "st"
          refine Sm.g_all (bs := z.cps.toList.map fun c => letter c || digit c) (.inl (.inl hL)) ?_
          repeat' wtm_at "st"
          refine key _ ?_ _ hs
          rw [hN, ← hcl, decide_eq_true hcm, Bool.true_and, List.all_map]
          rfl
    · have hN : nameS z = false := by
        show (decide _ && _) = _
        rw [decide_eq_false h8, Bool.false_and]
      repeat' wtm_at "st"
      all_goals first
        | exact key false hN _ (by wtm_at "sm")
        | (exfalso; omega)
  | inl i =>
    change tSeq _ _ _ [some (V.int i), none] H
    repeat' wtm_at "st"
    all_goals exact hq _ (Same.refl _)
end
section
variable {P : Program} {w : World} {K : PySem.W.Frag} {mg : Str → Option Value} {base : Heap} {f : Addr} {fd : FuncData}
theorem ok_is_disk_text (T : Txt P K mg) (F : FD K "is_disk_text" s_is_disk_text f fd)    : FnOk P w K mg base (L2.CX P w) 1 f fd P_is_disk_text (sp_is_disk_text K) := by
  refine F.ok sc_is_disk_text (fun vs H Q E h => ?_) (fun cdv A outer s H vs Q E hr h => ?_)
  · obtain ⟨k, rfl, _⟩ := h
    rfl
  obtain ⟨k, rfl, hz, hq⟩ := h
  refine ⟨_, (pss_one (ps_ret (pe_and (pe_callB call_isi rfl T.f_isinstance (by decide +kernel) (pa_cons (pv 0) (pa_cons (Sm.pe_ty (n := "str") T.f_str (by decide +kernel)) pa_nil))) (pe_one (pe_callB (cr_all rfl) rfl T.f_all (by decide +kernel) (pa_cons (pe_lc (own := [("sign", 1)]) rfl sc_is_disk_text.nd (pi_str (pv 0)) (blkOk_by (own := [("sign", 1)]) (N := N_is_disk_text) (sc := defScope s_is_disk_text) (by decide +kernel)) (fun _ _ _ _ _ => (pg_name (i := 1) sc_is_disk_text.nd rfl (Or.inl rfl))) (fun _ _ _ _ _ => pts_nil) (fun _ _ _ _ _ => (pe_or (pe_chain Sm.op_leS Sm.op_leS pe_str (pv 1) pe_str) (pe_one (pe_cmpR (Sm.op_eqK (K := K) rfl hr) (pv 1) pe_str (nomark _)))))) pa_nil)))))), ?_⟩
  rw [st_is_disk_text]
  cases k with
  | inr z =>
    have hl : z.length ≤ 1000 := (hz z rfl).1
    have hl2 : z.length = z.cps.toList.length := TL.len_tl z
    change tRet _ _ [some (V.str z), none] H
    have hlz : z.length ≤ sizeLine := Sm.len_le (by omega)
    repeat' wtm_at "st"
    refine Sm.g_lc walk_str (fun R h => ⟨_, rfl, z, rfl, h⟩) (fun i => ((z.cps.toList.take i).map pr).map V.bl) rfl (fun _ _ => trivial) ?_ ?_
    · rintro D i x H1 H2 hD hi hs hL ⟨rfl, c', hc', rfl⟩
      have hc2 : z.cps.toList[i]? = some c' := by
        rw [Array.getElem?_toList]
        exact hc'
      refine Sm.Stq.h (g := gName 1 (V.str ⟨#[c']⟩) [some (V.str z), none] _ _) ?_
      refine ⟨rfl, ?_⟩
      have hlen : (((z.cps.toList.take i).map pr).map V.bl).length < sizeLine := by
        rw [List.length_map, List.length_map, List.length_take]
        exact Nat.lt_of_le_of_lt (Nat.le_trans (Nat.min_le_right _ _) (by omega : z.cps.toList.length ≤ 1000)) (by decide)
      have hstep : ∀ v : Bool, pr c' = v → (((z.cps.toList.take (i + 1)).map pr).map V.bl) = (((z.cps.toList.take i).map pr).map V.bl) ++ [V.bl v] := fun v e => by
        rw [List.take_succ, hc2, List.map_append, List.map_append]
        show _ ++ [V.bl (pr c')] = _
        rw [e]
      repeat' wtm_at "st"
      all_goals exact Sm.lc_add hD hs hL hlen (hstep _ (by unfold pr; simp_all))
    · rintro D H1 hD hs hL
      rw [List.take_of_length_le (show z.cps.toList.length ≤ z.cps.size from Nat.le_of_eq (Array.length_toList ..))] at hL
      wtm_at "st"
      refine Sm.g_all (bs := z.cps.toList.map pr) (.inl (.inl hL)) ?_
      repeat' wtm_at "st"
      refine Sm.fin (hq _ hs) (congrArg V.bl ?_)
      rw [List.all_map]
      rfl
  | inl i =>
    change tRet _ _ [some (V.int i), none] H
    repeat' wtm_at "st"
    all_goals exact hq _ (Same.refl _)
end
section
variable {P : Program} {w : World} {K : PySem.W.Frag} {mg : Str → Option Value} {base : Heap} {f : Addr} {fd : FuncData}
theorem ok_require_power (T : Txt P K mg) (F : FD K "require_power" s_require_power f fd) (G_is_integer : Sm.Fn P w K mg base 2 "is_integer" P_is_integer (sp_is_integer K))   : FnOk P w K mg base (L2.CX P w) 3 f fd P_require_power (sp_require_power K) := by
  refine F.ok sc_require_power (fun vs H Q E h => ?_) (fun cdv A outer s H vs Q E hr h => ?_)
  · obtain ⟨p, rfl, _⟩ := h
    rfl
  obtain ⟨p, rfl, hs, hq⟩ := h
  refine ⟨_, (pss_one (ps_if (PW.pt (pw_and (pt_cmpR Sm.op_nisU (pv 0) pe_non (nomark _)) (pw_and1 (PW.pt (pw_or (pt_not (pt_truth (Sm.pe_fn G_is_integer hr (pa_cons (pv 0) pa_nil)) (by intro _; rfl))) (pw_or1 (pt_not (pt_chain op_le op_le pe_int (pv 0) (Sm.pe_gi T.c_MAX_POWER))))))))) (pss_one (ps_raise rfl (takes_of rfl rfl rfl rfl) (Sm.pmk_xs T.x_InvalidNumber hr (by exact (pa_cons (pv 0) pa_nil))))) pss_nil)), ?_⟩
  rw [st_require_power]
  cases p with
  | none =>
    change tIfS _ _ _ _ [some V.non] H
    repeat' wtm_at "st"
    all_goals exact hq.1 (fun i e => by cases e) _ (by wtm_at "sm")
  | some i =>
    change tIfS _ _ _ _ [some (V.int i)] H
    have hi := hs i rfl
    have hI := isInt_small hi
    repeat' wtm_at "st"
    · exact hq.2 i rfl (fun z => by unfold PwGood at z; omega) hi _ _ (by wtm_at "sm") (by assumption)
    · exact hq.1 (fun j e => by cases e; unfold PwGood; omega) _ (by wtm_at "sm")
    · exact hq.2 i rfl (fun z => by unfold PwGood at z; omega) hi _ _ (by wtm_at "sm") (by assumption)
end
section
variable {P : Program} {w : World} {K : PySem.W.Frag} {mg : Str → Option Value} {base : Heap} {f : Addr} {fd : FuncData}
theorem ok_are_choices (T : Txt P K mg) (F : FD K "are_choices" s_are_choices f fd) (G_is_integer : Sm.Fn P w K mg base 2 "is_integer" P_is_integer (sp_is_integer K))   : FnOk P w K mg base (L2.CX P w) 3 f fd P_are_choices (sp_are_choices K) := by
  refine F.ok sc_are_choices (fun vs H Q E h => ?_) (fun cdv A outer s H vs Q E hr h => ?_)
  · obtain ⟨x, d, rfl, _⟩ := h
    rfl
  obtain ⟨x, d, rfl, hd, hl, hq⟩ := h
  refine ⟨_, (pss_one (ps_ret (pe_and (pe_callB call_isi rfl T.f_isinstance (by decide +kernel) (pa_cons (pv 0) (pa_cons (Sm.pe_ty (n := "tuple") T.f_tuple (by decide +kernel)) pa_nil))) (pe_one (pe_callB (cr_all rfl) rfl T.f_all (by decide +kernel) (pa_cons (pe_lc (own := [("one", 1)]) rfl sc_are_choices.nd (pi_tup (pv 0)) (blkOk_by (own := [("one", 1)]) (N := N_are_choices) (sc := defScope s_are_choices) (by decide +kernel)) (fun _ _ _ _ _ => (pg_name (i := 1) sc_are_choices.nd rfl (Or.inl rfl))) (fun _ _ _ _ _ => pts_nil) (fun _ _ _ _ _ => (pe_and (Sm.pe_fn G_is_integer hr (pa_cons (pv 1) pa_nil)) (pe_one (pe_cmpR op_ge (pv 1) pe_int (nomark _)))))) pa_nil)))))), ?_⟩
  rw [st_are_choices]
  cases d with
  | tuple ds =>
    cases hd with
    | @tup a xs _ h r =>
    have hlen : xs.length = ds.length := dpAll_len r
    have hds := hl ds rfl
    repeat' wtm_at "st"
    refine Sm.g_lc (walk_tup (K := K) (a := a) (xs := xs)) (fun R hR => ⟨.ref a, rfl, a, rfl, ⟨_, h⟩, hR⟩) (fun i => ((ds.take i).map isNat).map V.bl) rfl (fun H' hs => Sm.seqT_at h hs) ?_ ?_
    · rintro D i y H1 H2 hD hi hs hL ⟨rfl, hy⟩
      have hi' : i < ds.length := by omega
      have hel := Sm.dp_at (dpAll_get r hy (List.getElem?_eq_getElem hi')) hs
      have hl2 : (((ds.take i).map isNat).map V.bl).length < sizeLine := by
        rw [List.length_map, List.length_map, List.length_take]
        exact Nat.lt_of_le_of_lt (Nat.le_trans (Nat.min_le_right _ _) hds) (by decide)
      refine Sm.Stq.h (g := gName 1 y [some (V.ref a), none] _ _) ?_
      refine ⟨rfl, ?_⟩
      repeat' wtm_at "st"
      · rename_i H3 hs3 hc
        obtain ⟨j, hj⟩ := isInt_int hc
        have hel3 := Sm.dp_at hel hs3
        rw [hj] at hel3
        cases hel3
        repeat' wtm_at "st"
        exact Sm.lc_add hD (by wtm_at "sm") (hs3 _ _ hL) hl2 (by rw [List.take_succ, List.getElem?_eq_getElem hi', List.map_append, List.map_append, hj]; exact congrArg (fun b => _ ++ [V.bl b]) (isNat_of (hj ▸ hc)))
      · rename_i H3 hs3 hc
        exact Sm.lc_add hD (by wtm_at "sm") (hs3 _ _ hL) hl2 (by rw [List.take_succ, List.getElem?_eq_getElem hi', List.map_append, List.map_append]; exact congrArg (fun b => _ ++ [V.bl b]) (isNat_no hc))
    · rintro D H1 hD hs hL
      rw [hlen, List.take_of_length_le (Nat.le_refl _)] at hL
      refine Sm.g_all (bs := ds.map isNat) (.inl (.inl hL)) ?_
      repeat' wtm_at "st"
      refine Sm.fin (hq _ hs) (congrArg V.bl ?_)
      rw [List.all_map]
      rfl
  | _ =>
    repeat' wtm_at "st"
    all_goals exact hq _ (Same.refl _)
end
section
variable {P : Program} {w : World} {K : PySem.W.Frag} {mg : Str → Option Value} {base : Heap} {f : Addr} {fd : FuncData}
theorem ok_DiskFile___init__ (T : Txt P K mg) (F : FunD K "__init__" "DiskFile.__init__" (defArgs s_DiskFile___init__) (defBody s_DiskFile___init__) (defScope s_DiskFile___init__) [] [] f fd)    : FnOk P w K mg base (L2.CX P w) 1 f fd P_DiskFile___init__ (sp_DiskFile___init__ K) := by
  refine F.ok sc_DiskFile___init__ (fun vs H Q E h => ?_) (fun cdv A outer s H vs Q E hr h => ?_)
  · obtain ⟨x, dx, t, m, rfl, _⟩ := h
    rfl
  obtain ⟨x, dx, t, m, rfl, hx, hdx, hd, hq⟩ := h
  refine ⟨_, (pss_cons (Sm.ps_slC 1 T.l_DiskFile rfl (pv 0) (pv 1))
      (pss_one (Sm.ps_slC 0 T.l_DiskFile rfl (pv 0) (pv 2)))), ?_⟩
  rw [st_DiskFile___init__]
  repeat' wtm_at "st"
  refine hq _ (dl2 (by assumption) (by assumption)) (by assumption)
end
section
variable {P : Program} {w : World} {K : PySem.W.Frag} {mg : Str → Option Value} {base : Heap} {f : Addr} {fd : FuncData}
theorem ok_names_behind (T : Txt P K mg) (F : FD K "names_behind" s_names_behind f fd)    : FnOk P w K mg base (L2.CX P w) 1 f fd P_names_behind (sp_names_behind K) := by
  refine F.ok sc_names_behind (fun vs H Q E h => ?_) (fun cdv A outer s H vs Q E hr h => ?_)
  · obtain ⟨nd, c, fa, l, ch, rfl, _⟩ := h
    rfl
  obtain ⟨nd, c, fa, l, ch, rfl, hn, hc, ho, hl, hq⟩ := h
  refine ⟨_, (pss_cons (ps_asg (pv 1) (pg_tup rfl (pgs_cons (pg_name (i := 2) sc_names_behind.nd rfl (Or.inl rfl)) (pgs_cons (pg_name (i := 3) sc_names_behind.nd rfl (Or.inl rfl)) (pgs_cons (pg_name (i := 4) sc_names_behind.nd rfl (Or.inl rfl)) pgs_nil)))))
      (pss_cons (ps_set (i := 5) sc_names_behind.nd rfl (Or.inl rfl) (pe_callTy Sm.call_dictDk rfl T.f_dict (by decide +kernel) (pa_cons (pv 0) pa_nil)))
      (pss_cons (ps_if (pt_cmpR (Sm.op_eqU hr) (pv 2) (Sm.pe_gs T.c_MADE) (nomark _)) (pss_one (ps_dput (hu_of hr) (pv 5) (pv 3) (pv 4) rfl)) (pss_one (ps_if (pt_cmpR (Sm.op_eqU hr) (pv 2) (Sm.pe_gs T.c_RENAMED) (nomark _)) (pss_one (ps_dput (hu_of hr) (pv 5) (pv 4) (pe_dpop1 (pv 5) (pv 3) ⟨rfl, rfl, rfl, rfl⟩) rfl)) (pss_one (ps_expr (pe_dpop1 (pv 5) (pv 3) ⟨rfl, rfl, rfl, rfl⟩))))))
      (pss_one (ps_ret (pv 5)))))), ?_⟩
  rw [st_names_behind]
  have hlen : (nmE (fun i => V.ref (fa i)) l).length < sizeLine := by rw [nm_len]; exact Nat.lt_of_le_of_lt hl (by decide)
  have hE : ∀ z : Str, (("made" : Str) = z → ("made" : Str) = z) := fun _ h => h
  cases ch with
  | mk n i =>
    have hc : SqT K H c [V.str "made", .str n, .ref (fa i)] := hc
    repeat' wtm_at "st"
    refine hq _ _ (by assumption) (fresh_mut (by assumption) (by assumption) (by assumption)) ?_
    show _ = some (HO.dK (nmE (fun i => V.ref (fa i)) (putN l n i)))
    rw [← putK_nm]
    assumption
  | rm n =>
    obtain ⟨i, hi⟩ := Option.isSome_iff_exists.mp (show (getN l n).isSome = true from ho)
    have hv : valV (nmE (fun i => V.ref (fa i)) l) (.inr n) = some (.ref (fa i)) := by rw [valV_nm, hi]; rfl
    have hc : SqT K H c [V.str "removed", .str n, .non] := hc
    repeat' wtm_at "st"
    refine hq _ _ (by assumption) (fresh_mut (by assumption) (by assumption) (by assumption)) ?_
    show _ = some (HO.dK (nmE (fun i => V.ref (fa i)) (dropN l n)))
    rw [← dropK_nm]
    assumption
  | rn o n =>
    obtain ⟨i, hi⟩ := Option.isSome_iff_exists.mp (show (getN l o).isSome = true from ho)
    have hv : valV (nmE (fun i => V.ref (fa i)) l) (.inr o) = some (.ref (fa i)) := by rw [valV_nm, hi]; rfl
    have hc : SqT K H c [V.str "renamed", .str o, .str n] := hc
    have hlen2 : (dropK (nmE (fun i => V.ref (fa i)) l) (.inr o)).length < sizeLine := by rw [dropK_nm, nm_len]; exact Nat.lt_of_le_of_lt (Nat.le_trans (dropN_len _ _) hl) (by decide)
    repeat' wtm_at "st"
    rename_i q H1 hn1 hs1 hq1 H2 hs2 hp2 H3 hs3 hp3
    refine hq _ _ hn1 (fresh_mut hn1 hs1 (mut_mut hs2 hs3)) ?_
    show _ = some (HO.dK (nmE (fun i => V.ref (fa i)) (putN (dropN l o) n ((getN l o).getD 0))))
    rw [hi, ← putK_nm, ← dropK_nm]
    assumption
end
section
variable {P : Program} {w : World} {K : PySem.W.Frag} {mg : Str → Option Value} {base : Heap} {f : Addr} {fd : FuncData}
theorem ok_Disk___contains__ (T : Txt P K mg) (F : FunD K "__contains__" "Disk.__contains__" (defArgs s_Disk___contains__) (defBody s_Disk___contains__) (defScope s_Disk___contains__) [] [] f fd)    : FnOk P w K mg base (L2.CX P w) 1 f fd P_Disk___contains__ (sp_Disk___contains__ K) := by
  refine F.ok sc_Disk___contains__ (fun vs H Q E h => ?_) (fun cdv A outer s H vs Q E hr h => ?_)
  · obtain ⟨x, k, h, s, rfl, _⟩ := h
    rfl
  obtain ⟨x, k, h, s, rfl, hD, hh, hq⟩ := h
  refine ⟨_, (pss_one (ps_ret (pe_and (pe_callB call_isi rfl T.f_isinstance (by decide +kernel) (pa_cons (pv 1) (pa_cons (Sm.pe_ty (n := "str") T.f_str (by decide +kernel)) pa_nil))) (pe_one (pe_cmp (pc_din (hu_of hr) (pv 1) (Sm.pe_slC 2 T.l_Disk rfl (pv 0))) (by rfl)))))), ?_⟩
  rw [st_Disk___contains__]
  obtain ⟨a, hD⟩ := hD
  have hs := hD.self.at hh
  have hn := hh _ _ hD.nms
  cases k with
  | inl i =>
    change tRet _ _ [some (V.ref x), some (V.int i)] H
    repeat' wtm_at "st"
    all_goals exact hq _ (by wtm_at "sm")
  | inr z =>
    have hv := valV_nm a.r z (now s)
    change tRet _ _ [some (V.ref x), some (V.str z)] H
    repeat' wtm_at "st"
    rw [hv, Option.isSome_map]
    exact hq _ (Same.refl _)
end
section
variable {P : Program} {w : World} {K : PySem.W.Frag} {mg : Str → Option Value} {base : Heap} {f : Addr} {fd : FuncData}
theorem ok_Disk_steps (T : Txt P K mg) (F : FunD K "steps" "Disk.steps" (defArgs s_Disk_steps) (defBody s_Disk_steps) (defScope s_Disk_steps) [] [] f fd)    : FnOk P w K mg base (L2.CX P w) 1 f fd P_Disk_steps (sp_Disk_steps K) := by
  refine F.ok sc_Disk_steps (fun vs H Q E h => ?_) (fun cdv A outer s H vs Q E hr h => ?_)
  · obtain ⟨x, h, s, rfl, _⟩ := h
    rfl
  obtain ⟨x, h, s, rfl, hD, hh, hq⟩ := h
  refine ⟨_, (pss_one (ps_ret (Sm.pe_slC 4 T.l_Disk rfl (pv 0)))), ?_⟩
  rw [st_Disk_steps]
  obtain ⟨a, hD⟩ := hD
  have hs := hD.self.at hh
  repeat' wtm_at "st"
  all_goals exact hq _ (by wtm_at "sm")
end
section
variable {P : Program} {w : World} {K : PySem.W.Frag} {mg : Str → Option Value} {base : Heap} {f : Addr} {fd : FuncData}
theorem ok_Disk_names (T : Txt P K mg) (F : FunD K "names" "Disk.names" (defArgs s_Disk_names) (defBody s_Disk_names) (defScope s_Disk_names) [] [] f fd)    : FnOk P w K mg base (L2.CX P w) 1 f fd P_Disk_names (sp_Disk_names K) := by
  refine F.ok sc_Disk_names (fun vs H Q E h => ?_) (fun cdv A outer s H vs Q E hr h => ?_)
  · obtain ⟨x, h, s, rfl, _⟩ := h
    rfl
  obtain ⟨x, h, s, rfl, hD, hh, h8, hq⟩ := h
  refine ⟨_, (pss_one (ps_ret (pe_callTy call_tuple_of rfl T.f_tuple (by decide +kernel) (pa_cons (pe_callB (Sm.call_sortDk rfl) rfl T.f_sorted (by decide +kernel) (pa_cons (Sm.pe_slC 2 T.l_Disk rfl (pv 0)) pa_nil)) pa_nil)))), ?_⟩
  rw [st_Disk_names]
  obtain ⟨a, hD⟩ := hD
  have hs := hD.self.at hh
  have hn := hh _ _ hD.nms
  repeat' wtm_at "st"
  refine Sm.g_sortD hn (nm_keys _ _) (by rw [show (keysN (now s)).length = (now s).length from List.length_map ..]; omega) fun ys p H1 hS hp he hl => ?_
  repeat' wtm_at "st"
  refine Sm.g_tupL (.inl (.inl hl)) fun q H2 hq2 he2 ht => ?_
  refine hq ys q H2 hS ?_ (by wtm_at "sm") ht
  cases h : H q with
  | none => rfl
  | some o =>
    rw [he _ _ h] at hq2
    cases hq2
end
section
variable {P : Program} {w : World} {K : PySem.W.Frag} {mg : Str → Option Value} {base : Heap} {f : Addr} {fd : FuncData}
theorem ok_Disk___len__ (T : Txt P K mg) (F : FunD K "__len__" "Disk.__len__" (defArgs s_Disk___len__) (defBody s_Disk___len__) (defScope s_Disk___len__) [] [] f fd)    : FnOk P w K mg base (L2.CX P w) 1 f fd P_Disk___len__ (sp_Disk___len__ K) := by
  refine F.ok sc_Disk___len__ (fun vs H Q E h => ?_) (fun cdv A outer s H vs Q E hr h => ?_)
  · obtain ⟨x, h, s, rfl, _⟩ := h
    rfl
  obtain ⟨x, h, s, rfl, hD, hh, hq⟩ := h
  refine ⟨_, (pss_one (ps_ret (pe_callB Sm.call_lenDk rfl T.f_len (by decide +kernel) (pa_cons (Sm.pe_slC 2 T.l_Disk rfl (pv 0)) pa_nil)))), ?_⟩
  rw [st_Disk___len__]
  obtain ⟨a, hD⟩ := hD
  have hs := hD.self.at hh
  have hn := hh _ _ hD.nms
  repeat' wtm_at "st"
  rw [nm_len]
  exact hq _ (Same.refl _)
end
section
variable {P : Program} {w : World} {K : PySem.W.Frag} {mg : Str → Option Value} {base : Heap} {f : Addr} {fd : FuncData}
theorem ok_Disk___str__ (T : Txt P K mg) (F : FunD K "__str__" "Disk.__str__" (defArgs s_Disk___str__) (defBody s_Disk___str__) (defScope s_Disk___str__) [] [] f fd)    : FnOk P w K mg base (L2.CX P w) 1 f fd P_Disk___str__ (sp_Disk___str__ K) := by
  refine F.ok sc_Disk___str__ (fun vs H Q E h => ?_) (fun cdv A outer s H vs Q E hr h => ?_)
  · obtain ⟨x, h, s, rfl, _⟩ := h
    rfl
  obtain ⟨x, h, s, rfl, hD, hh, h8, h1, hq⟩ := h
  refine ⟨_, (pss_one (ps_ret (pe_joined (PJ.cons pe_str (PJ.cons (pe_fmt (pe_callB Sm.call_lenDk rfl T.f_len (by decide +kernel) (pa_cons (Sm.pe_slC 2 T.l_Disk rfl (pv 0)) pa_nil))) (PJ.cons pe_str (PJ.cons (pe_fmt (Sm.pe_slC 4 T.l_Disk rfl (pv 0))) (PJ.cons pe_str PJ.nil)))))))), ?_⟩
  rw [st_Disk___str__]
  obtain ⟨a, hD⟩ := hD
  have hs := hD.self.at hh
  have hn := hh _ _ hD.nms
  have p20 : (2 : Nat) ^ 20 = 1048576 := by decide
  have f1 : ((((now s).length : Nat) : Int)).natAbs.log2 < 1920 := Sm.log_of (a := 20) (by omega) (by decide) (by decide)
  have f2 : (((s.steps : Nat) : Int)).natAbs.log2 < 1920 := Sm.log_of (a := 20) (by omega) (by decide) (by decide)
  have l1 := Sm.len_num f1
  have l2 := Sm.len_num f2
  have c1 : (Str.ofString "disk of ").length = 8 := by decide
  have c2 : (Str.ofString " files, ").length = 8 := by decide
  have c3 : (Str.ofString " steps").length = 6 := by decide
  repeat' wtm_at "st"
  rw [nm_len]
  repeat' wtm_at "st"
  refine Sm.fin (hq _ (Same.refl _)) (congrArg V.str ?_)
  unfold strD
  rw [PySem.Str.empty_append]
end
section
variable {P : Program} {w : World} {K : PySem.W.Frag} {mg : Str → Option Value} {base : Heap} {f : Addr} {fd : FuncData}
theorem ok_Disk_require_file (T : Txt P K mg) (F : FunD K "require_file" "Disk.require_file" (defArgs s_Disk_require_file) (defBody s_Disk_require_file) (defScope s_Disk_require_file) [] [] f fd)  (G_Disk___contains__ : Sm.Me P w K mg base 1 (He.ga K "Disk") "__contains__" P_Disk___contains__ (sp_Disk___contains__ K))  : FnOk P w K mg base (L2.CX P w) 2 f fd P_Disk_require_file (sp_Disk_require_file K) := by
  refine F.ok sc_Disk_require_file (fun vs H Q E h => ?_) (fun cdv A outer s H vs Q E hr h => ?_)
  · obtain ⟨x, k, h, s, rfl, _⟩ := h
    rfl
  obtain ⟨x, k, h, s, rfl, hD, hh, hq, he⟩ := h
  refine ⟨_, (pss_one (ps_if (pt_cmpR (Sm.op_niMe G_Disk___contains__ hr) (pv 1) (pv 0) (by rfl)) (pss_one (ps_raise rfl (takes_of rfl rfl rfl rfl) (Sm.pmk_xs T.x_UnknownName hr (by exact (pa_cons (pv 1) pa_nil))))) pss_nil)), ?_⟩
  rw [st_Disk_require_file]
  have hD0 := hD
  obtain ⟨a, hD0⟩ := hD0
  have hs := hD0.self.at hh
  repeat' wtm_at "st"
  refine Sm.g_inOwn hs ?_
  refine ⟨x, k, h, s, rfl, hD, hh, fun H1 hs1 => ?_⟩
  refine ⟨_, rfl, ?_⟩
  repeat' wtm_at "st"
  · rename_i hc d H2 h1 h2
    exact he (by cases e : getK s k with | none => rfl | some i => rw [e] at hc; cases hc) d H2 (by wtm_at "sm") h2
  · rename_i hc
    exact hq (by cases e : getK s k with | none => rw [e] at hc; cases hc | some i => rfl) _ hs1
end
section
variable {P : Program} {w : World} {K : PySem.W.Frag} {mg : Str → Option Value} {base : Heap} {f : Addr} {fd : FuncData}
theorem ok_Disk_do_step (T : Txt P K mg) (F : FunD K "do_step" "Disk.do_step" (defArgs s_Disk_do_step) (defBody s_Disk_do_step) (defScope s_Disk_do_step) [] [] f fd)    : FnOk P w K mg base (L2.CX P w) 1 f fd P_Disk_do_step (sp_Disk_do_step K) := by
  refine F.ok sc_Disk_do_step (fun vs H Q E h => ?_) (fun cdv A outer s H vs Q E hr h => ?_)
  · obtain ⟨x, h, s, a, rfl, _⟩ := h
    rfl
  obtain ⟨x, h, s, a, rfl, hD, hh, hq⟩ := h
  refine ⟨_, (pss_cons (ps_if (PW.pt (pw_and (pt_cmpR Sm.op_nisU (Sm.pe_slC 3 T.l_Disk rfl (pv 0)) pe_non (nomark _)) (pw_and1 (pt_cmpR op_ge (Sm.pe_slC 4 T.l_Disk rfl (pv 0)) (Sm.pe_slC 3 T.l_Disk rfl (pv 0)) (nomark _))))) (pss_one (ps_raise rfl (takes_of rfl rfl rfl rfl) (Sm.pmk_xs T.x_PowerLost hr (by exact (pa_cons (Sm.pe_slC 3 T.l_Disk rfl (pv 0)) pa_nil))))) pss_nil)
      (pss_one (Sm.ps_slAug 4 T.l_Disk rfl (pv 0) pe_int in_add))), ?_⟩
  rw [st_Disk_do_step]
  have hs := hD.self.at hh
  have fin : ∀ H' v, Same (Sm.dl H x) H' → Sm.IsS H' x (He.ga K "Disk") a.dx (SlX.putS 4 (.int ((s.steps : Nat) + 1)) [some (.ref a.c), some (.ref a.f), some (.ref a.n), some v, some (.int (s.steps : Nat))]) → v = pwV s.power → step1 s = .ok { s with steps := s.steps + 1 } → Q .non H' := fun H' v e i hv e1 => by
    subst hv
    rw [e1] at hq
    have hq : ∀ (h' H' : Hp), Sm.Step h H h' H' → DiskH K h' x a { s with steps := s.steps + 1 } → (∀ (b : Addr), b ≠ x → h' b = h b) → Q V.non H' := hq
    have B : DiskB K h x a { s with steps := s.steps + 1 } := ⟨hD.firm, hD.nms, hD.fn, hD.chgs, hD.each, hD.file, hD.inj⟩
    obtain ⟨st, dk⟩ := disk_put hD hh B rfl e i rfl
    exact hq _ _ st dk fun b hb => upd_ne hb
  cases hp : s.power with
  | none =>
    have hv : pwV s.power = .non := by rw [hp]; rfl
    unfold dsl at hs
    rw [hv] at hs
    repeat' wtm_at "st"
    exact fin _ _ (by assumption) (by assumption) (by rw [hv]) (step1_none hp)
  | some p =>
    have hv : pwV s.power = .int p := by rw [hp]; rfl
    unfold dsl at hs
    rw [hv] at hs
    repeat' wtm_at "st"
    · rename_i hc d H2 h1 h2
      rw [step1_ge hp hc] at hq
      exact hq d H2 h1 h2
    · rename_i hc H2 h1 h2
      exact fin _ _ (by assumption) (by assumption) (by rw [hv]) (step1_lt hp hc)
end
section
variable {P : Program} {w : World} {K : PySem.W.Frag} {mg : Str → Option Value} {base : Heap} {f : Addr} {fd : FuncData}
theorem ok_Disk___init__ (T : Txt P K mg) (F : FunD K "__init__" "Disk.__init__" (defArgs s_Disk___init__) (defBody s_Disk___init__) (defScope s_Disk___init__) [] [("power", .non)] f fd) (G_require_power : Sm.Fn P w K mg base 3 "require_power" P_require_power (sp_require_power K))   : FnOk P w K mg base (L2.CX P w) 4 f fd P_Disk___init__ (sp_Disk___init__ K) := by
  refine F.ok sc_Disk___init__ (fun vs H Q E h => ?_) (fun cdv A outer s H vs Q E hr h => ?_)
  · obtain ⟨x, dx, p, rfl, _⟩ := h
    rfl
  obtain ⟨x, dx, p, rfl, hx, hdx, hd, hp, hq⟩ := h
  refine ⟨_, (pss_cons (ps_expr (Sm.pe_fnE G_require_power hr (pa_cons (pv 1) pa_nil) (Sm.passE rfl rfl rfl rfl)))
      (pss_cons (Sm.ps_slC 1 T.l_Disk rfl (pv 0) pe_dnewK)
      (pss_cons (Sm.ps_slC 2 T.l_Disk rfl (pv 0) pe_dnewK)
      (pss_cons (Sm.ps_slC 0 T.l_Disk rfl (pv 0) (pe_lst pa_nil))
      (pss_cons (Sm.ps_slC 3 T.l_Disk rfl (pv 0) (pv 1))
      (pss_one (Sm.ps_slC 4 T.l_Disk rfl (pv 0) pe_int))))))), ?_⟩
  rw [st_Disk___init__]
  repeat' wtm_at "st"
  refine ⟨p, rfl, hp, fun hg H1 hs1 => ?_, hq.2⟩
  have hx1 := hs1 _ _ hx
  repeat' wtm_at "st"
  rename_i p1 G1 n1 e1 q1 G2 s2 i2 p2 G3 n3 e3 q3 G4 s4 i4 p3 G5 n5 e5 q5 G6 s6 i6 G7 s7 i7 G8 s8 i8
  have hd1 := hs1 _ _ hdx
  have a1 : p1 ≠ x := fun z => by rw [z, hx1] at n1; cases n1
  have a2 : p1 ≠ dx := fun z => by rw [z, hd1] at n1; cases n1
  have a3 : p2 ≠ x := fun z => by rw [z, i2.1] at n3; cases n3
  have a4 : p2 ≠ dx := fun z => by rw [z, i2.2] at n3; cases n3
  have a5 : p3 ≠ x := fun z => by rw [z, i4.1] at n5; cases n5
  have a6 : p3 ≠ dx := fun z => by rw [z, i4.2] at n5; cases n5
  have F5 : Fr2 x dx G5 G8 := (((fr2_refl (Same.refl _)).put s6).put s7).put s8
  have F3 : Fr2 x dx G3 G8 := (((((fr2_refl (Same.refl _)).put s4).same e5).put s6).put s7).put s8
  have F1 : Fr2 x dx G1 G8 := (((((((fr2_refl (Same.refl _)).put2 s2).same e3).put s4).same e5).put s6).put s7).put s8
  have F0 : Fr2 x dx H G8 := ((((((((fr2_refl (hs1.trans e1)).put2 s2).same e3).put s4).same e5).put s6).put s7).put s8)
  have b0 : ∀ q G, Fr2 x dx H G → G q = none → q ≠ x → q ≠ dx → H q = none := fun q G F n c1 c2 => by
    cases e : H q with
    | none => rfl
    | some o =>
      rw [F.get e c1 c2] at n
      cases n
  refine hq.1 hg _ G8 (own5_step (p := p1) (q := p2) (r := p3) F0 (b0 _ _ (fr2_refl hs1) n1 a1 a2) (b0 _ _ ((fr2_refl (hs1.trans e1)).put2 s2) n3 a3 a4) (b0 _ _ ((((fr2_refl (hs1.trans e1)).put2 s2).same e3).put s4) n5 a5 a6)) (disk_new i8 rfl (F1.get q1 a1 a2) (F3.get q3 a3 a4) (F5.get q5 a5 a6) ?_)
  intro z
  subst z
  rw [Fr2.get ((fr2_refl (Same.refl _)).put2 s2) q1 a1 a2] at n3
  cases n3
end
section
variable {P : Program} {w : World} {K : PySem.W.Frag} {mg : Str → Option Value} {base : Heap} {f : Addr} {fd : FuncData}
theorem ok_Disk_change_names (T : Txt P K mg) (F : FunD K "change_names" "Disk.change_names" (defArgs s_Disk_change_names) (defBody s_Disk_change_names) (defScope s_Disk_change_names) [] [] f fd) (G_names_behind : Sm.Fn P w K mg base 1 "names_behind" P_names_behind (sp_names_behind K))   : FnOk P w K mg base (L2.CX P w) 2 f fd P_Disk_change_names (sp_Disk_change_names K) := by
  refine F.ok sc_Disk_change_names (fun vs H Q E h => ?_) (fun cdv A outer s H vs Q E hr h => ?_)
  · obtain ⟨x, h, s, a, c, ch, rfl, _⟩ := h
    rfl
  obtain ⟨x, h, s, a, c, ch, rfl, hD, hh, hc, ho, hl, hl2, hq⟩ := h
  refine ⟨_, (pss_cons (Sm.ps_slC 2 T.l_Disk rfl (pv 0) (Sm.pe_fn G_names_behind hr (pa_cons (Sm.pe_slC 2 T.l_Disk rfl (pv 0)) (pa_cons (pv 1) pa_nil))))
      (pss_one (ps_expr (pe_bm PySem.F.plainAttrs_list PySem.F.slot_list_append PySem.F.type_list_append mt_append (Sm.pe_slC 0 T.l_Disk rfl (pv 0)) (pa_cons (pv 1) pa_nil))))), ?_⟩
  rw [st_Disk_change_names]
  have hs := hD.self.at hh
  have hn := hh _ _ hD.nms
  have hc1 := hh _ _ hc
  have hch := hh _ _ hD.chgs
  have hz : a.cs.length < sizeLine := by rw [hD.each.1]; exact Nat.lt_of_le_of_lt hl2 (by decide)
  repeat' wtm_at "st"
  refine ⟨a.n, c, a.fa, now s, ch, rfl, hn, .inl (.inl hc1), ho, hl, fun q H1 hq0 he1 hq1 => ?_⟩
  repeat' wtm_at "st"
  rename_i H2 h2 i2
  have hch2 := h2 _ _ ((Sm.dl_ne (off hD.chgs hD.self.1 (fun z => slO_lst z.symm))).trans (he1 _ _ hch))
  repeat' wtm_at "st"
  rename_i H3 h3 p3
  have q1 : nmE (fun i => V.ref (a.fa i)) (beh (now s) ch) = nmE a.r (beh (now s) ch) := rfl
  rw [q1] at hq1
  have hn0 : h q = none := by
    cases e : h q with
    | none => rfl
    | some o => rw [hh _ _ e] at hq0; cases hq0
  have st1 := (Sm.Step.refl hh).new hq0 he1 hq1
  have D1 : DiskH K (upd h q (.dK (nmE a.r (beh (now s) ch)))) x a s := hD.same (Sm.Same.new hn0)
  have st2 := st1.mut (a := x) (by rw [D1.self.1]; exact fun z => nomatch z) h2 i2.1
  have B2 := D1.toDiskB.self_upd (o := SlX.SlO x (He.ga K "Disk") a.dx (SlX.putS 2 (.ref q) (dsl a s))) D1.self.1
  have st3 := st2.mut (a := a.c) (by rw [B2.chgs]; exact fun z => nomatch z) h3 p3
  have t1 : (upd h q (.dK (nmE a.r (beh (now s) ch)))) c = some (.tup (ChgV a.fa ch)) := Sm.Same.new hn0 _ _ hc
  have B3 := B2.chg_put (ch := ch) (t := c) (n' := q) (keepAt t1 D1.self.1 slO_tup) (keepAt upd_same D1.self.1 slO_dK) (fun z => by rw [← z, hD.firm] at hn0; cases hn0)
  refine hq _ H3 { a with n := q, cs := a.cs ++ [.ref c] } st3 rfl rfl ⟨B3, ⟨?_, ?_⟩⟩
  · exact keepAt upd_same B2.chgs (fun z => slO_lst z.symm)
  · exact keepAt (keepAt D1.self.2 D1.self.1 slO_xd) B2.chgs (fun z => nomatch z)
end
section
variable {P : Program} {w : World} {K : PySem.W.Frag} {mg : Str → Option Value} {base : Heap} {f : Addr} {fd : FuncData}
theorem ok_Disk_read (T : Txt P K mg) (F : FunD K "read" "Disk.read" (defArgs s_Disk_read) (defBody s_Disk_read) (defScope s_Disk_read) [] [] f fd)  (G_Disk_require_file : Sm.Me P w K mg base 2 (He.ga K "Disk") "require_file" P_Disk_require_file (sp_Disk_require_file K))  : FnOk P w K mg base (L2.CX P w) 3 f fd P_Disk_read (sp_Disk_read K) := by
  refine F.ok sc_Disk_read (fun vs H Q E h => ?_) (fun cdv A outer s H vs Q E hr h => ?_)
  · obtain ⟨x, n, h, s, b, rfl, _⟩ := h
    rfl
  obtain ⟨x, n, h, s, b, rfl, hD, hh, hw, hq, he⟩ := h
  refine ⟨_, (pss_cons (ps_expr (Sm.pe_me T.l_Disk G_Disk_require_file hr (pv 0) (pa_cons (pv 1) pa_nil) (Sm.passE rfl rfl rfl rfl)))
      (pss_one (ps_ret (Sm.pe_slC 1 T.l_DiskFile rfl (pe_dget (hu_of hr) (Sm.pe_slC 2 T.l_Disk rfl (pv 0)) (pv 1) (fun _ _ => rfl)))))), ?_⟩
  rw [st_Disk_read]
  have hD0 := hD
  obtain ⟨a, hD0⟩ := hD0
  have hs := hD0.self.at hh
  have hn := hh _ _ hD0.nms
  repeat' wtm_at "st"
  refine ⟨x, n, h, s, rfl, hD, hh, fun hi H1 e1 => ?_, fun z => he z⟩
  cases n with
  | inl i => cases hi
  | inr z =>
    obtain ⟨i, g⟩ := Option.isSome_iff_exists.mp hi
    obtain ⟨t, m, h1, h2, h3, h4, hv, _⟩ := hD0.fileAt hw g
    have hf := h3.at hh
    show tRet (Sm.tSlC (He.ga K "DiskFile") 1 (tDGet (Sm.tSlC (He.ga K "Disk") 2 (tVar 0)) (tVar 1))) { nx := fun x H' => Q V.non H', rt := Q } [some (V.ref x), some (V.str z)] H1
    repeat' wtm_at "st"
    refine Sm.fin (hq i g _ e1) (congrArg V.str ?_)
    rw [h2]
end
section
variable {P : Program} {w : World} {K : PySem.W.Frag} {mg : Str → Option Value} {base : Heap} {f : Addr} {fd : FuncData}
theorem ok_Disk_sync_names (T : Txt P K mg) (F : FunD K "sync_names" "Disk.sync_names" (defArgs s_Disk_sync_names) (defBody s_Disk_sync_names) (defScope s_Disk_sync_names) [] [] f fd)  (G_Disk_do_step : Sm.Me P w K mg base 1 (He.ga K "Disk") "do_step" P_Disk_do_step (sp_Disk_do_step K))  : FnOk P w K mg base (L2.CX P w) 2 f fd P_Disk_sync_names (sp_Disk_sync_names K) := by
  refine F.ok sc_Disk_sync_names (fun vs H Q E h => ?_) (fun cdv A outer s H vs Q E hr h => ?_)
  · obtain ⟨x, h, s, b, rfl, _⟩ := h
    rfl
  obtain ⟨x, h, s, b, rfl, hD, hh, hw, hb, hq⟩ := h
  refine ⟨_, (pss_cons (ps_expr (Sm.pe_me0 T.l_Disk G_Disk_do_step hr (pv 0) (Sm.passE rfl rfl rfl rfl)))
      (pss_cons (Sm.ps_slC 1 T.l_Disk rfl (pv 0) (pe_callTy Sm.call_dictDk rfl T.f_dict (by decide +kernel) (pa_cons (Sm.pe_slC 2 T.l_Disk rfl (pv 0)) pa_nil)))
      (pss_one (Sm.ps_slC 0 T.l_Disk rfl (pv 0) (pe_lst pa_nil))))), ?_⟩
  rw [st_Disk_sync_names]
  obtain ⟨a, hD⟩ := hD
  have hs := hD.self.at hh
  repeat' wtm_at "st"
  refine ⟨x, h, s, a, rfl, hD, hh, ?_⟩
  unfold doNms at hq
  cases e : step1 s with
  | error er =>
    rw [e] at hq
    exact hq
  | ok s1 =>
    rw [e] at hq
    intro h1 H1 st1 D1 _
    have hs := D1.self.at st1.1
    have hn := st1.1 _ _ D1.nms
    repeat' wtm_at "st"
    rename_i q H2 n2 e2 q2 H3 s3 i3 p H4 n4 e4 p4 H5 s5 i5
    have hn0 : h1 q = none := none_of st1.1 n2
    have st2 := st1.new n2 e2 q2
    have D2 : DiskH K (upd h1 q (.dK (nmE a.r (now s1)))) x a s1 := D1.same (Sm.Same.new hn0)
    have st3 := st2.mut (a := x) (by rw [D2.self.1]; exact fun z => nomatch z) s3 i3.1
    have hp0 := none_of st3.1 n4
    have st4 := st3.new n4 e4 p4
    have st5 := st4.mut (a := x) (by rw [Sm.Same.new hp0 _ _ upd_same]; exact fun z => nomatch z) s5 i5.1
    have B3 := D2.toDiskB.self_upd (o := SlX.SlO x (He.ga K "Disk") a.dx (SlX.putS 1 (.ref q) (dsl a s1))) D2.self.1
    have B4 := B3.same (Sm.Same.new (o := .lst []) hp0)
    have B : DiskB K _ x { a with f := q, c := p, cs := [] } { s1 with firm := now s1, chg := [] } := ⟨Sm.Same.new hp0 _ _ (keepAt upd_same D2.self.1 slO_dK), B4.nms, (fun z => by
      have z : q = a.n := z
      rw [z, D1.nms] at hn0; cases hn0), upd_same, ⟨rfl, fun i c h => by cases h⟩, B4.file, B4.inj⟩
    exact hq _ H5 st5 ⟨_, self_put B ⟨Sm.Same.new hp0 _ _ upd_same, Sm.Same.new hp0 _ _ (keepAt D2.self.2 D2.self.1 slO_xd)⟩⟩
end
section
variable {P : Program} {w : World} {K : PySem.W.Frag} {mg : Str → Option Value} {base : Heap} {f : Addr} {fd : FuncData}
theorem ok_Disk_sync (T : Txt P K mg) (F : FunD K "sync" "Disk.sync" (defArgs s_Disk_sync) (defBody s_Disk_sync) (defScope s_Disk_sync) [] [] f fd)  (G_Disk_require_file : Sm.Me P w K mg base 2 (He.ga K "Disk") "require_file" P_Disk_require_file (sp_Disk_require_file K)) (G_Disk_do_step : Sm.Me P w K mg base 1 (He.ga K "Disk") "do_step" P_Disk_do_step (sp_Disk_do_step K))  : FnOk P w K mg base (L2.CX P w) 3 f fd P_Disk_sync (sp_Disk_sync K) := by
  refine F.ok sc_Disk_sync (fun vs H Q E h => ?_) (fun cdv A outer s H vs Q E hr h => ?_)
  · obtain ⟨x, n, h, s, b, rfl, _⟩ := h
    rfl
  obtain ⟨x, n, h, s, b, rfl, hD, hh, hw, hb, hq⟩ := h
  refine ⟨_, (pss_cons (ps_expr (Sm.pe_me T.l_Disk G_Disk_require_file hr (pv 0) (pa_cons (pv 1) pa_nil) (Sm.passE rfl rfl rfl rfl)))
      (pss_cons (ps_expr (Sm.pe_me0 T.l_Disk G_Disk_do_step hr (pv 0) (Sm.passE rfl rfl rfl rfl)))
      (pss_one (Sm.ps_slC 0 T.l_DiskFile rfl (pe_dget (hu_of hr) (Sm.pe_slC 2 T.l_Disk rfl (pv 0)) (pv 1) (fun _ _ => rfl)) (pe_callB Sm.call_lenU rfl T.f_len (by decide +kernel) (pa_cons (Sm.pe_slC 1 T.l_DiskFile rfl (pe_dget (hu_of hr) (Sm.pe_slC 2 T.l_Disk rfl (pv 0)) (pv 1) (fun _ _ => rfl))) pa_nil)))))), ?_⟩
  rw [st_Disk_sync]
  have hD0 := hD
  obtain ⟨a, hD0⟩ := hD0
  have hs := hD0.self.at hh
  repeat' wtm_at "st"
  unfold doSyn at hq
  refine ⟨x, n, h, s, rfl, hD, hh, fun hi H1 e1 => ?_, fun z => by rw [z] at hq; exact hq⟩
  obtain ⟨i, g⟩ := Option.isSome_iff_exists.mp hi
  rw [g] at hq
  obtain ⟨z, rfl, gz⟩ := getK_inr g
  have hh1 := hh.trans e1
  have hs1 := hD0.self.at hh1
  show tSeq _ _ _ [some (V.ref x), some (V.str z)] H1
  repeat' wtm_at "st"
  refine ⟨x, h, s, a, rfl, hD0, hh1, ?_⟩
  cases e : step1 s with
  | error er =>
    rw [e] at hq
    exact er_mv e1 hq
  | ok s1 =>
    rw [e] at hq
    obtain ⟨rfl, _⟩ := step1_wf hw e
    intro h1 H2 st1 D1 _
    have st0 : Sm.Step h H h1 H2 := (Sm.Step.same hh e1).trans st1
    obtain ⟨t, m, f1, f2, f3, f4, hv, hl⟩ := D1.fileAt (wf_step hw) gz
    have hs2 := D1.self.at st1.1
    have hn2 := st1.1 _ _ D1.nms
    have hf := f3.at st1.1
    have hz : t.length ≤ sizeLine := Sm.len_le (by omega)
    repeat' wtm_at "st"
    rename_i H3 s3 i3
    have st3 := st0.mut (a := a.fa i) (by rw [f3.1]; exact fun z => nomatch z) s3 i3.1
    have D3 := D1.file_put (t' := t) (m' := t.length) f1
    have eq : syncAt { s with steps := s.steps + 1 } i = { s with steps := s.steps + 1, files := s.files.set i (t, t.length) } := by
      unfold syncAt
      rw [f2]
    have hq : ∀ h' H', Sm.Step h H h' H' → DiskAt K h' x (syncAt { s with steps := s.steps + 1 } i) → Q .non H' := hq
    rw [eq] at hq
    exact hq _ _ st3 ⟨a, D3⟩
end
section
variable {P : Program} {w : World} {K : PySem.W.Frag} {mg : Str → Option Value} {base : Heap} {f : Addr} {fd : FuncData}
theorem ok_Disk_remove (T : Txt P K mg) (F : FunD K "remove" "Disk.remove" (defArgs s_Disk_remove) (defBody s_Disk_remove) (defScope s_Disk_remove) [] [] f fd)  (G_Disk_require_file : Sm.Me P w K mg base 2 (He.ga K "Disk") "require_file" P_Disk_require_file (sp_Disk_require_file K)) (G_Disk_do_step : Sm.Me P w K mg base 1 (He.ga K "Disk") "do_step" P_Disk_do_step (sp_Disk_do_step K)) (G_Disk_change_names : Sm.Me P w K mg base 2 (He.ga K "Disk") "change_names" P_Disk_change_names (sp_Disk_change_names K))  : FnOk P w K mg base (L2.CX P w) 3 f fd P_Disk_remove (sp_Disk_remove K) := by
  refine F.ok sc_Disk_remove (fun vs H Q E h => ?_) (fun cdv A outer s H vs Q E hr h => ?_)
  · obtain ⟨x, n, h, s, b, rfl, _⟩ := h
    rfl
  obtain ⟨x, n, h, s, b, rfl, hD, hh, hw, hb, hq⟩ := h
  refine ⟨_, (pss_cons (ps_expr (Sm.pe_me T.l_Disk G_Disk_require_file hr (pv 0) (pa_cons (pv 1) pa_nil) (Sm.passE rfl rfl rfl rfl)))
      (pss_cons (ps_expr (Sm.pe_me0 T.l_Disk G_Disk_do_step hr (pv 0) (Sm.passE rfl rfl rfl rfl)))
      (pss_one (ps_expr (Sm.pe_me T.l_Disk G_Disk_change_names hr (pv 0) (pa_cons (pe_tup (pa_cons (Sm.pe_gs T.c_REMOVED) (pa_cons (pv 1) (pa_cons pe_non pa_nil)))) pa_nil) passL))))), ?_⟩
  rw [st_Disk_remove]
  have hD0 := hD
  obtain ⟨a, hD0⟩ := hD0
  have hs := hD0.self.at hh
  repeat' wtm_at "st"
  refine ⟨x, n, h, s, rfl, hD, hh, fun hi H1 e1 => ?_, fun z => ?_⟩
  · obtain ⟨i, g⟩ := Option.isSome_iff_exists.mp hi
    obtain ⟨z, rfl, gz⟩ := getK_inr g
    unfold doRem at hq
    simp only [gz] at hq
    have hh1 := hh.trans e1
    have hs1 := hD0.self.at hh1
    show tSeq _ _ _ [some (V.ref x), some (V.str z)] H1
    repeat' wtm_at "st"
    refine ⟨x, h, s, a, rfl, hD0, hh1, ?_⟩
    cases e : step1 s with
    | error er =>
      rw [e] at hq
      exact er_mv e1 hq
    | ok s1 =>
      rw [e] at hq
      obtain ⟨rfl, _⟩ := step1_wf hw e
      intro h1 H2 st1 D1 _
      have st0 : Sm.Step h H h1 H2 := (Sm.Step.same hh e1).trans st1
      have hs2 := D1.self.at st1.1
      repeat' wtm_at "st"
      rename_i p H3 n3 e3 q3
      have hp0 := none_of st1.1 n3
      have st3 := st0.new n3 e3 q3
      refine ⟨x, _, _, a, p, .rm z, rfl, D1.same (Sm.Same.new hp0), st3.1, upd_same, (by show (getN (now s) z).isSome = true; rw [gz]; rfl), Nat.le_trans (wf_step hw).now8 (by decide), Nat.le_trans (wf_step hw).nc (by omega), fun h' H' a' st' _ _ D' => hq _ _ (st3.trans st') ⟨a', D'⟩⟩
  · have q := doRem_no z
    rw [q] at hq
    exact hq
end
section
variable {P : Program} {w : World} {K : PySem.W.Frag} {mg : Str → Option Value} {base : Heap} {f : Addr} {fd : FuncData}
theorem ok_Disk_rename (T : Txt P K mg) (F : FunD K "rename" "Disk.rename" (defArgs s_Disk_rename) (defBody s_Disk_rename) (defScope s_Disk_rename) [] [] f fd) (G_is_name : Sm.Fn P w K mg base 1 "is_name" P_is_name (sp_is_name K)) (G_Disk_require_file : Sm.Me P w K mg base 2 (He.ga K "Disk") "require_file" P_Disk_require_file (sp_Disk_require_file K)) (G_Disk_do_step : Sm.Me P w K mg base 1 (He.ga K "Disk") "do_step" P_Disk_do_step (sp_Disk_do_step K)) (G_Disk_change_names : Sm.Me P w K mg base 2 (He.ga K "Disk") "change_names" P_Disk_change_names (sp_Disk_change_names K))  : FnOk P w K mg base (L2.CX P w) 3 f fd P_Disk_rename (sp_Disk_rename K) := by
  refine F.ok sc_Disk_rename (fun vs H Q E h => ?_) (fun cdv A outer s H vs Q E hr h => ?_)
  · obtain ⟨x, n, t, h, s, b, rfl, _⟩ := h
    rfl
  obtain ⟨x, n, t, h, s, b, rfl, hD, hh, hw, hb, hnt, hq⟩ := h
  refine ⟨_, (pss_cons (ps_expr (Sm.pe_me T.l_Disk G_Disk_require_file hr (pv 0) (pa_cons (pv 1) pa_nil) (Sm.passE rfl rfl rfl rfl)))
      (pss_cons (ps_if (pt_not (pt_truth (Sm.pe_fn G_is_name hr (pa_cons (pv 2) pa_nil)) (by intro _; rfl))) (pss_one (ps_raise rfl (takes_of rfl rfl rfl rfl) (Sm.pmk_pl T.x_InvalidName (pa_cons (pv 2) pa_nil)))) pss_nil)
      (pss_cons (ps_expr (Sm.pe_me0 T.l_Disk G_Disk_do_step hr (pv 0) (Sm.passE rfl rfl rfl rfl)))
      (pss_one (ps_expr (Sm.pe_me T.l_Disk G_Disk_change_names hr (pv 0) (pa_cons (pe_tup (pa_cons (Sm.pe_gs T.c_RENAMED) (pa_cons (pv 1) (pa_cons (pv 2) pa_nil)))) pa_nil) passL)))))), ?_⟩
  rw [st_Disk_rename]
  have hD0 := hD
  obtain ⟨a, hD0⟩ := hD0
  have hs := hD0.self.at hh
  repeat' wtm_at "st"
  refine ⟨x, n, h, s, rfl, hD, hh, fun hi H1 e1 => ?_, fun z => ?_⟩
  · obtain ⟨i, g⟩ := Option.isSome_iff_exists.mp hi
    obtain ⟨z, rfl, gz⟩ := getK_inr g
    unfold doRen at hq
    simp only [gz] at hq
    have hh1 := hh.trans e1
    have hs1 := hD0.self.at hh1
    repeat' wtm_at "st"
    · rename_i H2 e2 hc
      cases t with
      | inl j => exact hq H2 (e1.trans e2)
      | inr y =>
        have hc : nameS y = false := hc
        simp only [hc, if_true] at hq
        exact hq H2 (e1.trans e2)
    · rename_i H2 e2 hc
      cases t with
      | inl j => cases hc
      | inr y =>
        have hc2 : ¬ nameS y = false := fun q => by
          have hc : nameS y = true := hc
          rw [q] at hc; cases hc
        simp only [hc2, if_false] at hq
        have e12 := e1.trans e2
        have hh2 := hh.trans e12
        have hs2 := hD0.self.at hh2
        refine ⟨x, h, s, a, rfl, hD0, hh2, ?_⟩
        cases e : step1 s with
        | error er =>
          rw [e] at hq
          exact er_mv e12 hq
        | ok s1 =>
          rw [e] at hq
          obtain ⟨rfl, _⟩ := step1_wf hw e
          intro h1 H3 st1 D1 _
          have st0 : Sm.Step h H h1 H3 := (Sm.Step.same hh e12).trans st1
          have hs3 := D1.self.at st1.1
          repeat' wtm_at "st"
          rename_i p H4 n3 e3 q3
          have hp0 := none_of st1.1 n3
          have st3 := st0.new n3 e3 q3
          refine ⟨x, _, _, a, p, .rn z y, rfl, D1.same (Sm.Same.new hp0), st3.1, upd_same, (by show (getN (now s) z).isSome = true; rw [gz]; rfl), Nat.le_trans (wf_step hw).now8 (by decide), Nat.le_trans (wf_step hw).nc (by omega), fun h' H' a' st' _ _ D' => hq _ _ (st3.trans st') ⟨a', D'⟩⟩
  · have q := doRen_no (t := t) z
    rw [q] at hq
    exact hq
end
section
variable {P : Program} {w : World} {K : PySem.W.Frag} {mg : Str → Option Value} {base : Heap} {f : Addr} {fd : FuncData}
theorem ok_Disk_append (T : Txt P K mg) (F : FunD K "append" "Disk.append" (defArgs s_Disk_append) (defBody s_Disk_append) (defScope s_Disk_append) [] [] f fd) (G_is_name : Sm.Fn P w K mg base 1 "is_name" P_is_name (sp_is_name K)) (G_is_disk_text : Sm.Fn P w K mg base 1 "is_disk_text" P_is_disk_text (sp_is_disk_text K)) (G_Disk_do_step : Sm.Me P w K mg base 1 (He.ga K "Disk") "do_step" P_Disk_do_step (sp_Disk_do_step K)) (G_Disk_change_names : Sm.Me P w K mg base 2 (He.ga K "Disk") "change_names" P_Disk_change_names (sp_Disk_change_names K)) (G_DiskFile___init__ : Sm.Mak P w K mg base 1 "DiskFile" P_DiskFile___init__ (sp_DiskFile___init__ K))  : FnOk P w K mg base (L2.CX P w) 3 f fd P_Disk_append (sp_Disk_append K) := by
  refine F.ok sc_Disk_append (fun vs H Q E h => ?_) (fun cdv A outer s H vs Q E hr h => ?_)
  · obtain ⟨x, n, t, h, s, b, rfl, _⟩ := h
    rfl
  obtain ⟨x, n, t, h, s, b, rfl, hD, hh, hw, hb, hnn, htt, hq⟩ := h
  refine ⟨_, (pss_cons (ps_if (pt_not (pt_truth (Sm.pe_fn G_is_name hr (pa_cons (pv 1) pa_nil)) (by intro _; rfl))) (pss_one (ps_raise rfl (takes_of rfl rfl rfl rfl) (Sm.pmk_pl T.x_InvalidName (pa_cons (pv 1) pa_nil)))) pss_nil)
      (pss_cons (ps_if (pt_not (pt_truth (Sm.pe_fn G_is_disk_text hr (pa_cons (pv 2) pa_nil)) (by intro _; rfl))) (pss_one (ps_raise rfl (takes_of rfl rfl rfl rfl) (Sm.pmk_pl T.x_InvalidOperation (pa_cons pe_str pa_nil)))) pss_nil)
      (pss_cons (ps_if (PW.pt (pw_and (pt_cmp (pc_dnotin (hu_of hr) (pv 1) (Sm.pe_slC 2 T.l_Disk rfl (pv 0))) (by rfl)) (pw_and1 (pt_cmpR op_ge (pe_callB Sm.call_lenDk rfl T.f_len (by decide +kernel) (pa_cons (Sm.pe_slC 2 T.l_Disk rfl (pv 0)) pa_nil)) (Sm.pe_gi T.c_MAX_FILES) (nomark _))))) (pss_one (ps_raise rfl (takes_of rfl rfl rfl rfl) (Sm.pmk_xs T.x_TooMany hr (by exact (pa_cons (Sm.pe_gi T.c_MAX_FILES) pa_nil))))) pss_nil)
      (pss_cons (ps_set (i := 3) sc_Disk_append.nd rfl (Or.inl rfl) (pe_ifExp (pt_cmp (pc_din (hu_of hr) (pv 1) (Sm.pe_slC 2 T.l_Disk rfl (pv 0))) (by rfl)) (Sm.pe_slC 1 T.l_DiskFile rfl (pe_dget (hu_of hr) (Sm.pe_slC 2 T.l_Disk rfl (pv 0)) (pv 1) (fun _ _ => rfl))) pe_str))
      (pss_cons (ps_if (pt_cmpR op_gt (pe_op Sm.op_addU (pe_callB Sm.call_lenU rfl T.f_len (by decide +kernel) (pa_cons (pv 3) pa_nil)) (pe_callB Sm.call_lenU rfl T.f_len (by decide +kernel) (pa_cons (pv 2) pa_nil))) (Sm.pe_gi T.c_MAX_TEXT) (nomark _)) (pss_one (ps_raise rfl (takes_of rfl rfl rfl rfl) (Sm.pmk_xs T.x_TooMany hr (by exact (pa_cons (Sm.pe_gi T.c_MAX_TEXT) pa_nil))))) pss_nil)
      (pss_cons (ps_expr (Sm.pe_me0 T.l_Disk G_Disk_do_step hr (pv 0) (Sm.passE rfl rfl rfl rfl)))
      (pss_cons (ps_if (pt_cmp (pc_dnotin (hu_of hr) (pv 1) (Sm.pe_slC 2 T.l_Disk rfl (pv 0))) (by rfl)) (pss_one (ps_expr (Sm.pe_me T.l_Disk G_Disk_change_names hr (pv 0) (pa_cons (pe_tup (pa_cons (Sm.pe_gs T.c_MADE) (pa_cons (pv 1) (pa_cons (Sm.pe_mak K rfl G_DiskFile___init__ hr (pa_cons pe_str (pa_cons pe_int pa_nil)) passL) pa_nil)))) pa_nil) passL))) pss_nil)
      (pss_one (Sm.ps_slC 1 T.l_DiskFile rfl (pe_dget (hu_of hr) (Sm.pe_slC 2 T.l_Disk rfl (pv 0)) (pv 1) (fun _ _ => rfl)) (pe_op Sm.op_addU (pv 3) (pv 2))))))))))), ?_⟩
  rw [st_Disk_append]
  have hnt : NmOk t := fun z e => ⟨Nat.le_trans (htt z e).1 (by decide), (htt z e).2⟩
  obtain ⟨a, hD⟩ := hD
  have hs := hD.self.at hh
  have hn := hh _ _ hD.nms
  unfold doApp at hq
  cases n with
  | inl i =>
    have hk : nameK (.inl i) = false := rfl
    rw [if_pos hk] at hq
    repeat' wtm_at "st"
    exact hq _ (by wtm_at "sm")
  | inr z =>
    show tSeq _ _ _ [some (V.ref x), some (V.str z), some (kV t), none] H
    cases hk : nameK (.inr z) with
    | false =>
      rw [if_pos hk] at hq
      repeat' wtm_at "st"
      exact hq _ (by wtm_at "sm")
    | true =>
      have hk2 : ¬ nameK (.inr z) = false := by rw [hk]; exact fun q => nomatch q
      rw [if_neg hk2] at hq
      cases hp : textK t with
      | false =>
        rw [if_pos hp] at hq
        repeat' wtm_at "st"
        exact hq _ (by wtm_at "sm")
      | true =>
        have hp2 : ¬ textK t = false := by rw [hp]; exact fun q => nomatch q
        rw [if_neg hp2] at hq
        cases t with
        | inl j => cases hp
        | inr y =>
          have hy : y.length ≤ 4 := (htt y rfl).1
          have hz0 : (Str.ofString "").length = 0 := by decide
          have hlz0 : (Str.ofString "").length ≤ sizeLine := by decide
          have hly : y.length ≤ sizeLine := Sm.len_le (by omega)
          show tSeq _ _ _ [some (V.ref x), some (V.str z), some (V.str y), none] H
          dsimp only at hq
          cases g : getN (now s) z with
          | none =>
            have hv : (valV (nmE a.r (now s)) (.inr z)).isSome = false := by rw [valV_nm, g]; rfl
            by_cases h8 : 8 ≤ (now s).length
            · have h8' : (8 : Int) ≤ ((nmE a.r (now s)).length : Nat) := by rw [nm_len]; omega
              rw [if_pos ⟨g, h8⟩] at hq
              repeat' wtm_at "st"
              exact hq _ _ (by wtm_at "sm") (by assumption)
            · have h8' : ¬ (8 : Int) ≤ ((nmE a.r (now s)).length : Nat) := by rw [nm_len]; omega
              rw [if_neg (fun q => h8 q.2)] at hq
              repeat' wtm_at "st"
              rename_i H1 e1 H2 e2
              have e12 := e1.trans e2
              have hh2 := hh.trans e12
              refine ⟨x, h, s, a, rfl, hD, hh2, ?_⟩
              cases e : step1 s with
              | error er =>
                rw [e] at hq
                exact er_mv e12 hq
              | ok s1 =>
                rw [e] at hq
                obtain ⟨rfl, _⟩ := step1_wf hw e
                intro h1 H3 st1 D1 _
                have st0 := (Sm.Step.same hh e12).trans st1
                have hs2 := D1.self.at st1.1
                have hn2 := st1.1 _ _ D1.nms
                have hv2 : (valV (nmE a.r (now { s with steps := s.steps + 1 })) (.inr z)).isSome = false := hv
                repeat' wtm_at "st"
                rename_i p d H4 np nd ne4 e4 f4 c H5 n5 e5 q5
                have w1 := wf_step hw
                have stA := ((Sm.Step.same st1.1 e4).add nd f4.2).add np f4.1
                have sm1 : Same h1 (upd (upd h1 d (.xd [])) p (SlX.SlO p (He.ga K "DiskFile") d [some (.int ((0 : Nat) : Int)), some (.str "")])) := (Sm.Same.new (none_of st1.1 nd)).trans (Sm.Same.new (by rw [upd_ne ne4.symm]; exact none_of st1.1 np))
                have D2 := D1.file_new (p := p) (d := d) (t := "") (m := 0) w1.ids w1.idf w1.idc sm1 (none_of st1.1 np) ⟨upd_same, by rw [upd_ne ne4]; exact upd_same⟩
                have stB := (st0.trans stA).new n5 e5 q5
                have D3 := D2.same (Sm.Same.new (o := .tup [.str "made", .str z, .ref p]) (none_of stA.1 n5))
                have en : now { s with steps := s.steps + 1, files := s.files ++ [(Str.ofString "", 0)], chg := s.chg ++ [.mk z s.files.length] } = putN (now s) z s.files.length := replay_snoc ..
                refine ⟨x, _, _, _, c, .mk z s.files.length, rfl, D3, stB.1, ?_, trivial, Nat.le_trans w1.now8 (by decide), Nat.le_trans w1.nc (by omega), fun h' H' a' st' ea ed D' => ?_⟩
                · show upd _ c _ c = some (HO.tup [V.str "made", V.str z, V.ref ((a.more s.files.length p d).fa s.files.length)])
                  rw [upd_same, more_new]
                have hv3 : valV (nmE a'.r (now { s with steps := s.steps + 1, files := s.files ++ [(Str.ofString "", 0)], chg := s.chg ++ [.mk z s.files.length] })) (.inr z) = some (.ref (a'.fa s.files.length)) := by
                  rw [valV_nm, en, getN_put]; rfl
                have hfn : (s.files ++ [((Str.ofString "", 0) : Str × Nat)])[s.files.length]? = some (Str.ofString "", 0) := by
                  rw [List.getElem?_append_right (Nat.le_refl _), Nat.sub_self]; rfl
                obtain ⟨ff, fx⟩ := D'.file s.files.length _ _ hfn
                have hs3 := D'.self.at st'.1
                have hn3 := st'.1 _ _ D'.nms
                have hf3 := ff.at st'.1
                repeat' wtm_at "st"
                rename_i H7 s7 i7
                have stC := (stB.trans st').mut (a := a'.fa s.files.length) (by rw [ff.1]; exact fun z => nomatch z) s7 i7.1
                have D5 := D'.file_put (t' := Str.ofString "" ++ y) (m' := 0) hfn
                have eq : putText { s with steps := s.steps + 1 } z y = { s with steps := s.steps + 1, chg := s.chg ++ [.mk z s.files.length], files := (s.files ++ [(Str.ofString "", 0)]).set s.files.length (Str.ofString "" ++ y, 0) } := by
                  have g' : getN (now { s with steps := s.steps + 1 }) z = none := g
                  unfold putText
                  rw [g', List.set_append_right _ _ (Nat.le_refl _), Nat.sub_self]
                  rfl
                have hq : ∀ h' H', Sm.Step h H h' H' → DiskAt K h' x (putText { s with steps := s.steps + 1 } z y) → Q .non H' := hq
                rw [eq] at hq
                exact hq _ _ stC ⟨a', D5⟩
          | some i =>
            obtain ⟨t, m, f1, f2, f3, f4, hv, hl⟩ := hD.fileAt hw g
            have hv1 : (valV (nmE a.r (now s)) (.inr z)).isSome = true := by rw [hv]; rfl
            have hf := f3.at hh
            have hlt : t.length ≤ sizeLine := Sm.len_le (by omega)
            have gn : ¬ (getN (now s) z = none ∧ 8 ≤ (now s).length) := fun q => by rw [g] at q; cases q.1
            rw [if_neg gn] at hq
            repeat' wtm_at "st"
            rename_i H1 e1 H2 e2
            have e12 := e1.trans e2
            have hh2 := hh.trans e12
            refine ⟨x, h, s, a, rfl, hD, hh2, ?_⟩
            cases e : step1 s with
            | error er =>
              rw [e] at hq
              exact er_mv e12 hq
            | ok s1 =>
              rw [e] at hq
              obtain ⟨rfl, _⟩ := step1_wf hw e
              intro h1 H3 st1 D1 _
              have st0 := (Sm.Step.same hh e12).trans st1
              have hs2 := D1.self.at st1.1
              have hn2 := st1.1 _ _ D1.nms
              have hv2 : valV (nmE a.r (now { s with steps := s.steps + 1 })) (.inr z) = some (.ref (a.fa i)) := hv
              have hv3 : (valV (nmE a.r (now { s with steps := s.steps + 1 })) (.inr z)).isSome = true := hv1
              have ff := (D1.file i t m f1).1
              have hf2 := ff.at st1.1
              repeat' wtm_at "st"
              rename_i H7 s7 i7
              have stC := st0.mut (a := a.fa i) (by rw [ff.1]; exact fun z => nomatch z) s7 i7.1
              have D5 := D1.file_put (t' := t ++ y) (m' := m) f1
              have eq : putText { s with steps := s.steps + 1 } z y = { s with steps := s.steps + 1, files := s.files.set i (t ++ y, m) } := by
                have g' : getN (now { s with steps := s.steps + 1 }) z = some i := g
                unfold putText
                simp only [g', f2]
              have hq : ∀ h' H', Sm.Step h H h' H' → DiskAt K h' x (putText { s with steps := s.steps + 1 } z y) → Q .non H' := hq
              rw [eq] at hq
              exact hq _ _ stC ⟨a, D5⟩
end
section
variable {P : Program} {w : World} {K : PySem.W.Frag} {mg : Str → Option Value} {base : Heap} {f : Addr} {fd : FuncData}
theorem ok_Disk_lost (T : Txt P K mg) (F : FunD K "lost" "Disk.lost" (defArgs s_Disk_lost) (defBody s_Disk_lost) (defScope s_Disk_lost) [.ref (He.dflAt ("Disk", some "lost") 0 K)] [("power", .non)] f fd) (G_require_power : Sm.Fn P w K mg base 3 "require_power" P_require_power (sp_require_power K)) (G_are_choices : Sm.Fn P w K mg base 3 "are_choices" P_are_choices (sp_are_choices K)) (G_names_behind : Sm.Fn P w K mg base 1 "names_behind" P_names_behind (sp_names_behind K)) (G_Disk___init___K1 : Sm.MakK P w K mg base 4 "Disk" P_Disk___init__ (sp_Disk___init__ K) 1 ["power"] (fun vs zs => vs ++ zs)) (G_DiskFile___init__ : Sm.Mak P w K mg base 1 "DiskFile" P_DiskFile___init__ (sp_DiskFile___init__ K))  : FnOk P w K mg base (L2.CX P w) 6 f fd P_Disk_lost (sp_Disk_lost K) := by
  refine F.ok sc_Disk_lost (fun vs H Q E h => ?_) (fun cdv A outer s H vs Q E hr h => ?_)
  · obtain ⟨x, c, p, h, s, b, rfl, _⟩ := h
    rfl
  obtain ⟨x, c, p, h, s, b, rfl, hD, hh, hw, hb, hp, hq⟩ := h
  refine ⟨_, (pss_cons (ps_if (pt_not (pt_truth (Sm.pe_fn G_are_choices hr (pa_cons (pv 1) pa_nil)) (by intro _; rfl))) (pss_one (ps_raise rfl (takes_of rfl rfl rfl rfl) (Sm.pmk_pl T.x_InvalidOperation (pa_cons pe_str pa_nil)))) pss_nil)
      (pss_cons (ps_expr (Sm.pe_fnE G_require_power hr (pa_cons (pv 2) pa_nil) (Sm.passE rfl rfl rfl rfl)))
      (pss_cons (ps_set (i := 3) sc_Disk_lost.nd rfl (Or.inl rfl) (pe_callB Sm.call_iterT rfl T.f_iter (by decide +kernel) (pa_cons (pv 1) pa_nil)))
      (pss_cons (ps_set (i := 4) sc_Disk_lost.nd rfl (Or.inl rfl) (Sm.pe_slC 1 T.l_Disk rfl (pv 0)))
      (pss_cons (ps_for (passes_of rfl) rfl (pi_list (pe_slice Sm.sl_U (Sm.pe_slC 0 T.l_Disk rfl (pv 0)) po_none (po_some (pe_op op_modN (pe_callB (Sm.call_next2 rfl) rfl T.f_next (by decide +kernel) (pa_cons (pv 3) (pa_cons pe_int pa_nil))) (pe_op Sm.op_addU (pe_callB Sm.call_lenU rfl T.f_len (by decide +kernel) (pa_cons (Sm.pe_slC 0 T.l_Disk rfl (pv 0)) pa_nil)) pe_int))))) (pg_name (i := 5) sc_Disk_lost.nd rfl (Or.inl rfl)) (pss_one (ps_set (i := 4) sc_Disk_lost.nd rfl (Or.inl rfl) (Sm.pe_fn G_names_behind hr (pa_cons (pv 4) (pa_cons (pv 5) pa_nil))))))
      (pss_cons (ps_set (i := 6) sc_Disk_lost.nd rfl (Or.inl rfl) (Sm.pe_makK0 K rfl G_Disk___init___K1 hr (pk_cons (pv 2) pk_nil) (Sm.passE rfl rfl rfl rfl)))
      (pss_cons (ps_for (passes_of rfl) rfl (pi_list (pe_callB (Sm.call_sortDk rfl) rfl T.f_sorted (by decide +kernel) (pa_cons (pv 4) pa_nil))) (pg_name (i := 7) sc_Disk_lost.nd rfl (Or.inl rfl)) (pss_cons (ps_par (i := 8) (j := 9) rfl sc_Disk_lost.nd rfl rfl (by decide) rfl rfl (pa_cons (Sm.pe_slC 1 T.l_DiskFile rfl (pe_dget (hu_of hr) (pv 4) (pv 7) (fun _ _ => rfl))) (pa_cons (Sm.pe_slC 0 T.l_DiskFile rfl (pe_dget (hu_of hr) (pv 4) (pv 7) (fun _ _ => rfl))) pa_nil)) (by rfl))
      (pss_cons (ps_set (i := 10) sc_Disk_lost.nd rfl (Or.inl rfl) (pe_op Sm.op_addU (pv 9) (pe_op op_modN (pe_callB (Sm.call_next2 rfl) rfl T.f_next (by decide +kernel) (pa_cons (pv 3) (pa_cons pe_int pa_nil))) (pe_op Sm.op_addU (pe_op op_sub (pe_callB Sm.call_lenU rfl T.f_len (by decide +kernel) (pa_cons (pv 8) pa_nil)) (pv 9)) pe_int))))
      (pss_one (ps_dput (hu_of hr) (Sm.pe_slC 2 T.l_Disk rfl (pv 6)) (pv 7) (Sm.pe_mak K rfl G_DiskFile___init__ hr (pa_cons (pe_slice Sm.sl_U (pv 8) po_none (po_some (pv 10))) (pa_cons (pv 10) pa_nil)) passL) rfl)))))
      (pss_cons (Sm.ps_slC 1 T.l_Disk rfl (pv 6) (pe_callTy Sm.call_dictDk rfl T.f_dict (by decide +kernel) (pa_cons (Sm.pe_slC 2 T.l_Disk rfl (pv 6)) pa_nil)))
      (pss_one (ps_ret (pv 6))))))))))), ?_⟩
  rw [st_Disk_lost]
  obtain ⟨a, hD⟩ := hD
  have hs := hD.self.at hh
  have hf := hh _ _ hD.firm
  have hc := hh _ _ hD.chgs
  rcases hq with ⟨q, cs, rfl, hcq, hco, hq⟩ | ⟨d, hd, hdl, hdc, hq⟩
  · have hdp : Dp K H (.ref q) (.tuple (cs.map fun c => .int ((c : Nat) : Int))) := .tup hcq (ch_dps cs)
    repeat' wtm_at "st"
    refine ⟨.ref q, _, rfl, hdp, (fun ds e => by cases e; rw [List.length_map]; exact Nat.le_trans hco.1 (by decide)), fun H1 e1 => ?_⟩
    rw [ch_isCh hco.2]
    repeat' wtm_at "st"
    refine ⟨p, rfl, hp, fun hg H2 e2 => ?_, fun i hi hb hs' d H' e3 => hq.2 i hi hb hs' d H' (e1.trans e3)⟩
    repeat' wtm_at "st"
    rename_i it H3 n3 e3 i3
    have e02 := e1.trans e2
    refine Sm.for_open ?_
    repeat' wtm_at "st"
    refine Sm.g_next2 i3 fun H4 s4 i4 => ?_
    rw [ch_getD]
    have e24 : Same H2 H4 := fresh_mut n3 e3 s4
    have e04 := e02.trans e24
    have hs4 := hs.at e04
    have hc4 := e04 _ _ hc
    have hne : ((s.chg.length : Nat) : Int) + 1 ≠ 0 := by omega
    rw [← hD.each.1] at hne
    repeat' wtm_at "st"
    obtain ⟨k, hk⟩ : ∃ k, k = cs.getD 0 0 % (s.chg.length + 1) := ⟨_, rfl⟩
    have hkl : k ≤ s.chg.length := by rw [hk]; exact Nat.le_of_lt_succ (Nat.mod_lt _ (Nat.succ_pos _))
    have hkc : k ≤ a.cs.length := by rw [hD.each.1]; exact hkl
    rw [show ((cs.getD 0 0 : Nat) : Int) % ((a.cs.length : Nat) + 1) = ((k : Nat) : Int) by rw [hk, hD.each.1]; exact (Int.natCast_emod ..).symm]
    refine Sm.g_slL2 (.inl (.inl hc4)) fun L H5 n5 e5 q5 => ?_
    rw [cutV_to hkc] at q5
    have e05 := e04.trans e5
    have hlk : (a.cs.take k).length = k := by rw [List.length_take]; omega
    refine ⟨L, rfl, ⟨_, .inl (.inl q5)⟩, ?_⟩
    refine Sm.g_forA (walk_list (K := K) (a := L) (xs := a.cs.take k)) (fun i σ G => ∃ (nd : Addr) (o5 : Option V), σ = [some (.ref x), some (.ref q), some (pwV p), some (.ref it), some (.ref nd), o5, none, none, none, none, none] ∧ Same H5 G ∧ G nd = some (.dK (nmE a.r (replay s.firm (s.chg.take i))))) ⟨a.f, none, rfl, Same.refl _, e05 _ _ hf⟩ (fun i σ G _ z => by obtain ⟨nd, o5, _, e, _⟩ := z; exact .inl (.inl (e _ _ q5))) ?_ ?_
    · rintro i v σ G G' hi ⟨nd, o5, rfl, eG, hnd⟩ ⟨rfl, hv⟩
      rw [hlk] at hi
      have hci : s.chg[i]? = some s.chg[i] := List.getElem?_eq_getElem (by omega)
      obtain ⟨ad, hv2, had⟩ := hD.each.2 i _ hci
      rw [List.getElem?_take_of_lt hi, hv2] at hv
      cases hv
      have hok := okL_at hw.ok i
      have hadG := eG _ _ (e05 _ _ (hh _ _ had))
      repeat' wtm_at "st"
      refine ⟨nd, ad, a.fa, _, s.chg[i], rfl, hnd, .inl (.inl hadG), hok.2 _ hci, Nat.le_trans hok.1 (by decide), fun q' G2 n2 e2' hq' => ?_⟩
      repeat' wtm_at "st"
      refine ⟨q', _, rfl, eG.trans e2', ?_⟩
      rw [List.take_succ, hci, Option.toList_some, replay_snoc]
      exact hq'
    · rintro σ G ⟨nd, o5, rfl, eG, hnd⟩
      rw [hlk, hk] at hnd
      have hnd : G nd = some (.dK (nmE a.r (atLoss s cs))) := hnd
      repeat' wtm_at "st"
      refine ⟨rfl, rfl, fun y dy ny nd' ne => ?_⟩
      refine ⟨y, dy, p, rfl, upd_same, (upd_ne ne).trans upd_same, ne, hp, fun hg' h6 H6 st6 D6 => ⟨rfl, ?_⟩, fun i hi hb' => absurd (hg i hi) hb'⟩
      obtain ⟨a6, D6⟩ := D6
      obtain ⟨eG6, nw6⟩ := init_new ny nd' st6
      have eHG := e05.trans eG
      have eH6 := eHG.trans eG6
      have hnd6 := eG6 _ _ hnd
      have nwG : ∀ b o, h6 b = some o → G b = none := fun b o e => by
        cases z : G b with
        | none => rfl
        | some w => rw [nw6 b (by rw [z]; exact fun z => nomatch z)] at e; cases e
      have nwH : ∀ b o, h6 b = some o → H b = none := fun b o e => none_of eHG (nwG b o e)
      have hcs6 : a6.cs = [] := List.length_eq_zero_iff.mp D6.each.1
      have tG := tiAt_at i4 (e5.trans eG)
      obtain ⟨φ, hitG⟩ := ti_ext tG
      have hit0 : H it = none := none_of e02 n3
      have hyit : y ≠ it := fun z => by rw [z, hitG] at ny; cases ny
      have hndn : nd ≠ a6.n := fun z => by
        have := nwG _ _ D6.nms
        rw [← z, hnd] at this
        cases this
      have I0 : LostI K H H6 it y a6 p (newD p) := ⟨eH6, D6.self.at st6.1, st6.1 _ _ D6.nms, (by rw [← hcs6]; exact st6.1 _ _ D6.chgs), (fun i t m e => by cases e), (fun i j hi => by cases hi), ⟨nwH _ _ D6.self.1, nwH _ _ D6.self.2, nwH _ _ D6.nms, nwH _ _ D6.chgs, hyit⟩, (fun q hq => by cases hq)⟩
      have hk8 := hw.loss8 cs
      repeat' wtm_at "st"
      refine Sm.for_open ?_
      repeat' wtm_at "st"
      refine Sm.g_sortD hnd6 (nm_keys _ _) (by rw [show (keysN (atLoss s cs)).length = (atLoss s cs).length from List.length_map ..]; omega) fun ys L2 H7 hS n7 e7 q7 => ?_
      refine ⟨L2, rfl, ⟨_, .inl (.inl q7)⟩, ?_⟩
      refine Sm.g_forA (walk_list (K := K) (a := L2) (xs := ys.map V.str)) (fun j σ G2 => ∃ (a' : DA) (d : DSt) (o7 o8 o9 o10 : Option V), σ = [some (.ref x), some (.ref q), some (pwV p), some (.ref it), some (.ref nd), o5, some (.ref y), o7, o8, o9, o10] ∧ LostI K H G2 it y a' p d ∧ Sm.TiAt K G2 it (chV cs) (j + 1) ∧ G2 L2 = some (.lst (ys.map V.str)) ∧ G2 nd = some (.dK (nmE a.r (atLoss s cs))) ∧ (j = d.files.length ∧ d.firm.length ≤ j ∧ nd ≠ a'.n) ∧ lostGo s (atLoss s cs) cs j (ys.drop j) d = lostD s cs p ys ∧ d.chg = [] ∧ d.power = p ∧ d.steps = 0 ∧ a'.cs = [])
        ⟨a6, newD p, none, none, none, none, rfl, I0.same e7, tiAt_at tG (eG6.trans e7), q7, e7 _ _ hnd6, ⟨rfl, Nat.le_refl _, hndn⟩, rfl, rfl, rfl, rfl, hcs6⟩ (fun i σ G _ z => by obtain ⟨_, _, _, _, _, _, _, _, _, e, _⟩ := z; exact .inl (.inl e)) ?_ ?_
      · rintro j v σ G2 G3 hj ⟨a', d, o7, o8, o9, o10, rfl, I, ti, hL, hnd2, ⟨hjd, hfl, hnn⟩, hgo, hc0, hp0, hs0, hcs0⟩ ⟨rfl, hv⟩
        rw [List.length_map] at hj
        rw [List.getElem?_map, List.getElem?_eq_getElem hj] at hv
        cases hv
        obtain ⟨z, hz⟩ : ∃ z, z = ys[j] := ⟨_, rfl⟩
        rw [← hz]
        have hzk : z ∈ keysN (atLoss s cs) := hS.1.subset (by rw [hz]; exact List.getElem_mem hj)
        obtain ⟨i, hi⟩ := Option.isSome_iff_exists.mp (getN_of hzk)
        have hil := hw.lossIds cs _ (getN_mem hi)
        have hvv : valV (nmE a.r (atLoss s cs)) (.inr z) = some (.ref (a.fa i)) := by rw [valV_nm, hi]; rfl
        have hfi := List.getElem?_eq_getElem hil
        have hfw := hw.fl _ (List.getElem_mem hil)
        obtain ⟨t, ht⟩ : ∃ t, t = (s.files[i]).1 := ⟨_, rfl⟩
        obtain ⟨m, hm⟩ : ∃ m, m = (s.files[i]).2 := ⟨_, rfl⟩
        have hfe : s.files[i] = (t, m) := by rw [ht, hm]
        rw [hfe] at hfi hfw
        have hml : m ≤ t.length := hfw.1
        have htl : t.length ≤ sizeLine := Sm.len_le (by have : t.length ≤ 4 * b := hfw.2; omega)
        have hff := ((hD.file i t m hfi).1.at hh).at I.e
        obtain ⟨φ2, hit2⟩ := ti_ext ti
        repeat' wtm_at "st"
        refine Sm.g_next2 ti fun G4 s4' t4 => ?_
        rw [ch_getD]
        have I4 := I.turn hit2 hit0 s4'
        have hlt : (0 : Int) < ((t.length : Nat) : Int) - ((m : Nat) : Int) + 1 := by omega
        repeat' wtm_at "st"
        rw [size_int hml]
        refine c_file fun q' dd G5 nq nd5 ne5 e5' f5 => ?_
        have I5 := I4.same e5'
        have hs5 := I5.self
        have hn5 := I5.nms
        have hy8 : ys.length ≤ 8 := by
          have h1 := hS.1.length_eq
          have h2 : (keysN (atLoss s cs)).length = (atLoss s cs).length := List.length_map ..
          omega
        have hl5 : (nmE a'.r d.firm).length < sizeLine := by rw [nm_len]; exact Nat.lt_of_le_of_lt (show d.firm.length ≤ 8 by omega) (by decide)
        repeat' wtm_at "st"
        rename_i G6 s6 p6
        obtain ⟨φ4, hit4⟩ := ti_ext t4
        have I6 := I4.file_put hit4 nq nd5 e5' f5 s6 p6
        have hL4 := s4' _ _ ((Sm.dl_ne (off hL hit2 (fun z => nomatch z))).trans hL)
        have hnd4 := s4' _ _ ((Sm.dl_ne (off hnd2 hit2 (fun z => nomatch z))).trans hnd2)
        have hL6 := s6 _ _ ((Sm.dl_ne (off (e5' _ _ hL4) hn5 (fun z => nomatch z))).trans (e5' _ _ hL4))
        have hnd6' := s6 _ _ ((Sm.dl_ne hnn).trans (e5' _ _ hnd4))
        have hgd : s.files.getD ((getN (atLoss s cs) z).getD 0) (Str.ofString "", 0) = (t, m) := by
          rw [hi, List.getD_eq_getElem?_getD, Option.getD_some, hfi]; rfl
        rw [List.drop_eq_getElem_cons hj, ← hz, lostGo_cons, hgd] at hgo
        rw [← hjd] at I6
        refine ⟨_, _, _, _, _, _, rfl, I6, tiAt_dl (tiAt_at t4 e5') hn5 s6, hL6, hnd6', ⟨?_, ?_, hnn⟩, hgo, hc0, hp0, hs0, hcs0⟩
        · show j + 1 = (d.files ++ [_]).length
          rw [List.length_append, List.length_singleton, ← hjd]
        · have := putN_len d.firm z j
          show (putN d.firm z j).length ≤ j + 1
          omega
      · rintro σ G2 ⟨a', d, o7, o8, o9, o10, rfl, I, ti, hL, hnd2, ⟨hjd, hfl, hnn⟩, hgo, hc0, hp0, hs0, hcs0⟩
        have hs2 := I.self
        have hn2 := I.nms
        repeat' wtm_at "st"
        rename_i q2 G3 n3' e3' q3 G4 s4' i4'
        rw [List.drop_eq_nil_of_le (by rw [List.length_map]; exact Nat.le_refl _)] at hgo
        have hgo : d = lostD s cs p ys := hgo
        obtain ⟨r1, r2, r3, r4⟩ := I.fin hc0 hp0 hs0 hcs0 n3' e3' q3 s4' i4' rfl
        rw [hgo] at r4
        exact hq.1 hg ys y _ G4 hS r1 r2 r3 r4
  · repeat' wtm_at "st"
    refine ⟨c, d, rfl, hd, hdl, fun H1 e1 => ?_⟩
    rw [hdc]
    repeat' wtm_at "st"
    exact hq _ (by wtm_at "sm")
end
section
variable {P : Program} {w : World} {K : PySem.W.Frag} {mg : Str → Option Value} {base : Heap} {f : Addr} {fd : FuncData}
theorem ok__law_dice (T : Txt P K mg) (F : FD K "_law_dice" s__law_dice f fd)    : FnOk P w K mg base (L2.CX P w) 1 f fd P__law_dice (sp__law_dice K) := by
  refine F.ok sc__law_dice (fun vs H Q E h => ?_) (fun cdv A outer s H vs Q E hr h => ?_)
  · obtain ⟨p, ns, i, rfl, _⟩ := h
    rfl
  obtain ⟨p, ns, i, rfl, hp, hq⟩ := h
  refine ⟨_, (pss_cons (ps_set (i := 2) sc__law_dice.nd rfl (Or.inl rfl) (pe_op Sm.op_addU (pe_op Sm.op_mulU pe_int (pv 1)) pe_int))
      (pss_cons (ps_if (pt_cmpR op_lt (pv 1) (pe_callB Sm.call_lenU rfl T.f_len (by decide +kernel) (pa_cons (pv 0) pa_nil)) (nomark _)) (pss_one (ps_set (i := 2) sc__law_dice.nd rfl (Or.inl rfl) (pe_ix ix_seq (pv 0) (pv 1) (fun _ _ => rfl)))) pss_nil)
      (pss_cons (ps_set (i := 3) sc__law_dice.nd rfl (Or.inl rfl) (pe_op op_modN (pe_callTy Sm.call_intU rfl T.f_int (by decide +kernel) (pa_cons (pe_callB Sm.call_absU rfl T.f_abs (by decide +kernel) (pa_cons (pv 2) pa_nil)) pa_nil)) (pe_op Sm.op_powW (pe_op Sm.op_powW pe_int pe_int) pe_int)))
      (pss_cons (ps_set (i := 4) sc__law_dice.nd rfl (Or.inl rfl) (pe_op Sm.op_fdivU (pv 3) (pe_op Sm.op_powW pe_int pe_int)))
      (pss_cons (ps_set (i := 5) sc__law_dice.nd rfl (Or.inl rfl) (pe_op Sm.op_addU (pe_op Sm.op_addU (pe_op Sm.op_addU (pe_op Sm.op_mulU (pe_op op_modN (pv 3) pe_int) pe_int) (pe_op Sm.op_mulU pe_int (pv 1))) (pe_op Sm.op_mulU pe_int (pe_callTy Sm.call_intU rfl T.f_int (by decide +kernel) (pa_cons (pe_cmpR op_lt (pv 2) pe_int (nomark _)) pa_nil)))) pe_int))
      (pss_one (ps_ret (pe_lst (pa_cons (pv 4) (pa_cons (pe_op op_modN (pv 5) pe_int) (pa_cons pe_int pa_nil))))))))))), ?_⟩
  rw [st__law_dice]
  have hpy : ∀ i : Int, Builtin.divisionGoesByPylong i (10 ^ 18) = false := fun i => Sm.pyB (b := 60) (by decide +kernel) (by decide) (by decide)
  by_cases hi : i < ns.length
  · have hat : atI (ns.map V.int) (i : Int) = some (.int ns[i]) := atI_nat (by rw [List.getElem?_map, List.getElem?_eq_getElem hi]; rfl)
    have hlt : (i : Int) < ((ns.map V.int).length : Nat) := by rw [List.length_map]; omega
    repeat' wtm_at "st"
    all_goals exact hq _ _ (by assumption) (by wtm_at "sm") ⟨_, _, _, by assumption⟩
  · have hlt : ¬ (i : Int) < ((ns.map V.int).length : Nat) := by rw [List.length_map]; omega
    repeat' wtm_at "st"
    all_goals exact hq _ _ (by assumption) (by wtm_at "sm") ⟨_, _, _, by assumption⟩
end
section
variable {P : Program} {w : World} {K : PySem.W.Frag} {mg : Str → Option Value} {base : Heap} {f : Addr} {fd : FuncData}
theorem ok__law_roll (T : Txt P K mg) (F : FD K "_law_roll" s__law_roll f fd)    : FnOk P w K mg base (L2.CX P w) 1 f fd P__law_roll (sp__law_roll K) := by
  refine F.ok sc__law_roll (fun vs H Q E h => ?_) (fun cdv A outer s H vs Q E hr h => ?_)
  · obtain ⟨p, n, rfl, _⟩ := h
    rfl
  obtain ⟨p, n, rfl, hd, h0, h1, hq⟩ := h
  refine ⟨_, (pss_cons (ps_set (i := 2) sc__law_roll.nd rfl (Or.inl rfl) (pe_callTy Sm.call_intU rfl T.f_int (by decide +kernel) (pa_cons (pv 1) pa_nil)))
      (pss_cons (ps_if (pt_cmpR op_gt (pe_ix ix_seq (pv 0) pe_int (fun _ _ => rfl)) pe_int (nomark _)) (pss_cons (ps_set (i := 3) sc__law_roll.nd rfl (Or.inl rfl) (pe_op op_modN (pe_ix ix_seq (pv 0) pe_int (fun _ _ => rfl)) (pv 2)))
      (pss_cons (ps_asg (pe_op Sm.op_fdivU (pe_ix ix_seq (pv 0) pe_int (fun _ _ => rfl)) (pv 2)) (pg_sub (pv 0) pe_int set_list))
      (pss_one (ps_ret (pe_callTy Sm.call_intU rfl T.f_int (by decide +kernel) (pa_cons (pv 3) pa_nil)))))) pss_nil)
      (pss_cons (ps_asg (pe_op Sm.op_addU (pe_ix ix_seq (pv 0) pe_int (fun _ _ => rfl)) pe_int) (pg_sub (pv 0) pe_int set_list))
      (pss_cons (ps_set (i := 4) sc__law_roll.nd rfl (Or.inl rfl) (pe_op op_modN (pe_op Sm.op_addU (pe_ix ix_seq (pv 0) pe_int (fun _ _ => rfl)) (pe_op Sm.op_mulU pe_int (pe_ix ix_seq (pv 0) pe_int (fun _ _ => rfl)))) pe_int))
      (pss_cons (ps_set (i := 5) sc__law_roll.nd rfl (Or.inl rfl) (pe_op Sm.op_addU (pe_op Sm.op_mulU (pe_op op_modN (pe_op Sm.op_mulU (pv 4) (pv 4)) pe_int) (pv 4)) (pe_op Sm.op_mulU pe_int (pe_ix ix_seq (pv 0) pe_int (fun _ _ => rfl)))))
      (pss_cons (ps_set (i := 5) sc__law_roll.nd rfl (Or.inl rfl) (pe_op op_modN (pv 5) pe_int))
      (pss_one (ps_ret (pe_callTy Sm.call_intU rfl T.f_int (by decide +kernel) (pa_cons (pe_op op_modN (pe_op Sm.op_fdivU (pv 5) pe_int) (pv 2)) pa_nil)))))))))), ?_⟩
  rw [st__law_roll]
  obtain ⟨a, b, c, hp⟩ := hd
  have en : ∀ x : Int, 0 ≤ x % n := fun x => Int.emod_nonneg x (by omega)
  have el : ∀ x : Int, x % n < n := fun x => Int.emod_lt_of_pos x h0
  have hn : n.natAbs < 2 ^ 64 := by
    have : (2 : Nat) ^ 64 = 18446744073709551616 := by decide
    omega
  have hpy : ∀ x, Builtin.divisionGoesByPylong x n = false := fun x => Sm.pyB hn (by decide) (by decide)
  repeat' wtm_at "st"
  all_goals exact hq _ (en _) (el _) _ (by wtm_at "sm") ⟨_, _, _, by assumption⟩
end
section
variable {P : Program} {w : World} {K : PySem.W.Frag} {mg : Str → Option Value} {base : Heap} {f : Addr} {fd : FuncData}
theorem ok__law_one_of (T : Txt P K mg) (F : FD K "_law_one_of" s__law_one_of f fd) (G__law_roll : Sm.Fn P w K mg base 1 "_law_roll" P__law_roll (sp__law_roll K))   : FnOk P w K mg base (L2.CX P w) 2 f fd P__law_one_of (sp__law_one_of K) := by
  refine F.ok sc__law_one_of (fun vs H Q E h => ?_) (fun cdv A outer s H vs Q E hr h => ?_)
  · obtain ⟨p, q, xs, rfl, _⟩ := h
    rfl
  obtain ⟨p, q, xs, rfl, hd, hx, h0, h1, hq⟩ := h
  refine ⟨_, (pss_one (ps_ret (pe_ix ix_seq (pv 1) (Sm.pe_fn G__law_roll hr (pa_cons (pv 0) (pa_cons (pe_callB Sm.call_lenU rfl T.f_len (by decide +kernel) (pa_cons (pv 1) pa_nil)) pa_nil))) (fun _ _ => rfl)))), ?_⟩
  rw [st__law_one_of]
  wtm_at "st"
  repeat' wtm_at "st"
  rename_i r H' r0 r1 hs hd'
  obtain ⟨i, rfl⟩ : ∃ i : Nat, r = i := ⟨r.toNat, by omega⟩
  have hi : i < xs.length := by omega
  have hat : atI xs (i : Int) = some xs[i] := atI_nat (List.getElem?_eq_getElem hi)
  repeat' wtm_at "st"
  exact hq i _ (List.getElem?_eq_getElem hi) _ (by wtm_at "sm") hd'
end
section
variable {P : Program} {w : World} {K : PySem.W.Frag} {mg : Str → Option Value} {base : Heap} {f : Addr} {fd : FuncData}
theorem ok__law_is_name (T : Txt P K mg) (F : FD K "_law_is_name" s__law_is_name f fd)    : FnOk P w K mg base (L2.CX P w) 1 f fd P__law_is_name (sp__law_is_name K) := by
  refine F.ok sc__law_is_name (fun vs H Q E h => ?_) (fun cdv A outer s H vs Q E hr h => ?_)
  · obtain ⟨k, rfl, _⟩ := h
    rfl
  obtain ⟨k, rfl, hz, hq⟩ := h
  refine ⟨_, (pss_cons (ps_if (PW.pt (pw_or (pt_not (pt_truth (pe_callB call_isi rfl T.f_isinstance (by decide +kernel) (pa_cons (pv 0) (pa_cons (Sm.pe_ty (n := "str") T.f_str (by decide +kernel)) pa_nil))) (by intro _; rfl))) (pw_or (pt_not (pt_chain op_le op_le pe_int (pe_callB Sm.call_lenU rfl T.f_len (by decide +kernel) (pa_cons (pv 0) pa_nil)) pe_int)) (pw_or1 (pt_cmpR Sm.op_niU (pe_ix ix_seq (pv 0) pe_int (fun _ _ => rfl)) pe_str (by rfl)))))) (pss_one (ps_ret pe_bl)) pss_nil)
      (pss_one (ps_ret (pe_cmpR (Sm.op_eqU hr) (pe_lc (own := [("_law_sign", 1)]) rfl sc__law_is_name.nd (pi_str (pv 0)) (blkOk_by (own := [("_law_sign", 1)]) (N := N__law_is_name) (sc := defScope s__law_is_name) (by decide +kernel)) (fun _ _ _ _ _ => (pg_name (i := 1) sc__law_is_name.nd rfl (Or.inl rfl))) (fun _ _ _ _ _ => (pts_one (pt_cmpR (Sm.op_niK (K := K) rfl) (pv 1) pe_str (by rfl)))) (fun _ _ _ _ _ => (pv 1))) (pe_lst pa_nil) (nomark _))))), ?_⟩
  rw [st__law_is_name]
  cases k with
  | inr z =>
    have hl : z.length ≤ 1000 := (hz z rfl).1
    have hlz : z.length ≤ sizeLine := Sm.len_le (by omega)
    have hl2 : z.length = z.cps.toList.length := TL.len_tl z
    have key : ∀ b : Bool, nameS z = b → ∀ H', Same H H' → Q (.bl b) H' := fun b e H' hs => by rw [← e]; exact hq H' hs
    show tSeq _ _ _ [some (V.str z), none] H
    by_cases h8 : 1 ≤ z.cps.toList.length ∧ z.cps.toList.length ≤ 8
    · obtain ⟨c, r, hc⟩ := List.exists_cons_of_length_pos (show 0 < z.cps.toList.length by omega)
      have h0 : atI z.cps.toList 0 = some c := by rw [hc]; exact atI_nat (j := 0) rfl
      have hN : nameS z = (letter c && z.cps.toList.all fun c => letter c || digit c) := by
        show (decide _ && _) = _
        rw [decide_eq_true h8, hc]
        rfl
      have hcl : decide (c ∈ (Str.ofString "abcdefghijklmnopqrstuvwxyz").cps.toList) = letter c := rfl
      repeat' wtm_at "st"
      · refine key false ?_ _ (by wtm_at "sm")
        rw [hN, ← hcl, decide_eq_false (by assumption), Bool.false_and]
      · rename_i hcm
        refine Sm.g_lc walk_str (fun R h => ⟨_, rfl, z, rfl, h⟩) (fun i => ((z.cps.toList.take i).filter fun c => !(letter c || digit c)).map fun c => V.str ⟨#[c]⟩) rfl (fun _ _ => trivial) ?_ ?_
        · rintro D i x H1 H2 hD hi hs hL ⟨rfl, c', hc', rfl⟩
          have hc2 : z.cps.toList[i]? = some c' := by
            rw [Array.getElem?_toList]
            exact hc'
          refine Sm.Stq.h (g := gName 1 (V.str ⟨#[c']⟩) [some (V.str z), none] _ _) ?_
          refine ⟨rfl, ?_⟩
          have hlen : (((z.cps.toList.take i).filter fun c => !(letter c || digit c)).map fun c => V.str ⟨#[c]⟩).length < sizeLine := by
            rw [List.length_map]
            exact Nat.lt_of_le_of_lt (Nat.le_trans (List.length_filter_le _ _) (by rw [List.length_take]; exact Nat.le_trans (Nat.min_le_right _ _) (by omega : z.cps.toList.length ≤ 1000))) (by decide)
          have hcn := ld_in c'
          cases hb : (letter c' || digit c') with
          | true =>
            have hm : c' ∈ (Str.ofString "abcdefghijklmnopqrstuvwxyz0123456789").cps.toList := hcn.mpr hb
            repeat' wtm_at "st"
            exact Sm.lc_keep hs hL (by rw [List.take_succ, hc2, Option.toList_some, List.filter_append, flt_yes hb, List.append_nil])
          | false =>
            have hm : ¬ c' ∈ (Str.ofString "abcdefghijklmnopqrstuvwxyz0123456789").cps.toList := fun q => by
              rw [hcn, hb] at q; cases q
            repeat' wtm_at "st"
            exact Sm.lc_add hD hs hL hlen (by rw [List.take_succ, hc2, Option.toList_some, List.filter_append, flt_no hb, List.map_append]; rfl)
        · rintro D H1 hD hs hL
          rw [List.take_of_length_le (show z.cps.toList.length ≤ z.cps.size from Nat.le_of_eq (Array.length_toList ..))] at hL
          repeat' wtm_at "st"
          refine Sm.g_eqD (.lst (.inl (.inl (obj_at hL (by assumption)))) (sgn_dps _)) (.lst (.inl (.inl (by assumption))) .nil) (sgn_shaped fun c hc => strOk_at (hz z rfl).2 c (List.mem_filter.mp hc |>.1)) rfl ?_
          rw [eqv_nil]
          refine key _ ?_ _ (by wtm_at "sm")
          rw [hN, ← hcl, decide_eq_true hcm, Bool.true_and, List.isEmpty_map, flt_all]
    · have hN : nameS z = false := by
        show (decide _ && _) = _
        rw [decide_eq_false h8, Bool.false_and]
      repeat' wtm_at "st"
      all_goals first
        | exact key false hN _ (by wtm_at "sm")
        | (exfalso; omega)
  | inl i =>
    show tSeq _ _ _ [some (V.int i), none] H
    repeat' wtm_at "st"
    all_goals exact hq _ (Same.refl _)
end
section
variable {P : Program} {w : World} {K : PySem.W.Frag} {mg : Str → Option Value} {base : Heap} {f : Addr} {fd : FuncData}
theorem ok__law_new (T : Txt P K mg) (F : FD K "_law_new" s__law_new f fd)    : FnOk P w K mg base (L2.CX P w) 1 f fd P__law_new (sp__law_new K) := by
  refine F.ok sc__law_new (fun vs H Q E h => ?_) (fun cdv A outer s H vs Q E hr h => ?_)
  · obtain ⟨p, rfl, _⟩ := h
    rfl
  obtain ⟨p, rfl, hq⟩ := h
  refine ⟨_, (pss_one (ps_ret (pe_lst (pa_cons pe_dnewK (pa_cons (pe_lst pa_nil) (pa_cons pe_dnewK (pa_cons pe_int (pa_cons (pv 0) pa_nil)))))))), ?_⟩
  rw [st__law_new]
  repeat' wtm_at "st"
  rename_i f H1 n1 e1 q1 c H2 n2 e2 q2 fs H3 n3 e3 q3 o H4 n4 e4 q4
  have m1 : H c = none := none_of e1 n2
  have m2 : H fs = none := none_of (e1.trans e2) n3
  have m3 : H o = none := none_of ((e1.trans e2).trans e3) n4
  refine hq o (newOf H H4) H4 (fun b hb => newOf_old hb) (((e1.trans e2).trans e3).trans e4) newOf_sub ⟨⟨f, c, fs, fun _ => 0, []⟩, ⟨⟨?_, ?_, ⟨rfl, fun i c h => by cases h⟩, ?_, (fun i t m h => by cases h), (fun i j h => by cases h), ?_, ?_⟩, by rw [newOf_at m3]; exact q4⟩⟩
  · rw [newOf_at n1]; exact e4 _ _ (e3 _ _ (e2 _ _ q1))
  · rw [newOf_at m1]; exact e4 _ _ (e3 _ _ q2)
  · rw [newOf_at m2]; exact e4 _ _ q3
  · intro z
    have z : f = fs := z
    rw [← z, e2 _ _ q1] at n3
    cases n3
  · intro z
    have z : o = c := z
    rw [z, e3 _ _ q2] at n4
    cases n4
end
section
variable {P : Program} {w : World} {K : PySem.W.Frag} {mg : Str → Option Value} {base : Heap} {f : Addr} {fd : FuncData}
theorem ok__law_names (T : Txt P K mg) (F : FD K "_law_names" s__law_names f fd)    : FnOk P w K mg base (L2.CX P w) 1 f fd P__law_names (sp__law_names K) := by
  refine F.ok sc__law_names (fun vs H Q E h => ?_) (fun cdv A outer s H vs Q E hr h => ?_)
  · obtain ⟨o, m, g, s, b, rfl, _⟩ := h
    rfl
  obtain ⟨o, m, g, s, b, rfl, hO, hg, hw, hb, hm, hq⟩ := h
  refine ⟨_, (pss_cons (ps_set (i := 2) sc__law_names.nd rfl (Or.inl rfl) (pe_callTy Sm.call_dictDk rfl T.f_dict (by decide +kernel) (pa_cons (pe_ix ix_seq (pv 0) pe_int (fun _ _ => rfl)) pa_nil)))
      (pss_cons (ps_for (passes_of rfl) rfl (pi_list (pe_slice Sm.sl_U (pe_ix ix_seq (pv 0) pe_int (fun _ _ => rfl)) po_none (po_some (pv 1)))) (pg_tup rfl (pgs_cons (pg_name (i := 3) sc__law_names.nd rfl (Or.inl rfl)) (pgs_cons (pg_name (i := 4) sc__law_names.nd rfl (Or.inl rfl)) (pgs_cons (pg_name (i := 5) sc__law_names.nd rfl (Or.inl rfl)) pgs_nil)))) (pss_one (ps_if (pt_cmpR (Sm.op_eqU hr) (pv 3) pe_str (nomark _)) (pss_one (ps_dput (hu_of hr) (pv 2) (pv 4) (pv 5) rfl)) (pss_one (ps_if (pt_cmpR (Sm.op_eqU hr) (pv 3) pe_str (nomark _)) (pss_one (ps_expr (pe_dpop1 (pv 2) (pv 4) ⟨rfl, rfl, rfl, rfl⟩))) (pss_one (ps_dput (hu_of hr) (pv 2) (pv 5) (pe_dpop1 (pv 2) (pv 4) ⟨rfl, rfl, rfl, rfl⟩) rfl)))))))
      (pss_one (ps_ret (pv 2))))), ?_⟩
  rw [st__law_names]
  obtain ⟨a, hO⟩ := hO
  have h0 := hg _ _ hO.self
  have h1 := hg _ _ hO.firm
  have h2 := hg _ _ hO.chgs
  have hml : m ≤ a.cs.length := by rw [hO.each.1]; exact hm
  repeat' wtm_at "st"
  rename_i q H1 n1 e1 q1
  have h3 := e1 _ _ h2
  refine Sm.for_open ?_
  repeat' wtm_at "st"
  refine Sm.g_slL2 (.inl (.inl h3)) fun L H2 n2 e2 q2 => ?_
  rw [cutV_to hml] at q2
  have hlk : (a.cs.take m).length = m := by rw [List.length_take]; omega
  have hLq : L ≠ q := fun z => by rw [z, q1] at n2; cases n2
  refine ⟨L, rfl, ⟨_, .inl (.inl q2)⟩, ?_⟩
  refine Sm.g_forA (walk_list (K := K) (a := L) (xs := a.cs.take m)) (fun i σ G => ∃ (o3 o4 o5 : Option V), σ = [some (.ref o), some (.int (m : Nat)), some (.ref q), o3, o4, o5] ∧ Same H G ∧ G L = some (.lst (a.cs.take m)) ∧ G q = some (.dK (nmE iE (replay s.firm (s.chg.take i))))) ⟨none, none, none, rfl, e1.trans e2, q2, e2 _ _ q1⟩ (fun i σ G _ z => by obtain ⟨_, _, _, _, _, e, _⟩ := z; exact .inl (.inl e)) ?_ ?_
  · rintro i v σ G G' hi ⟨o3, o4, o5, rfl, eG, hL, hqd⟩ ⟨rfl, hv⟩
    rw [hlk] at hi
    have hci : s.chg[i]? = some s.chg[i] := List.getElem?_eq_getElem (by omega)
    obtain ⟨w, hv2, hcl⟩ := hO.each.2 i _ hci
    rw [List.getElem?_take_of_lt hi, hv2] at hv
    cases hv
    have hok := okL_at hw.ok i
    have hoc := hok.2 _ hci
    obtain ⟨l, hl⟩ : ∃ l, l = replay s.firm (s.chg.take i) := ⟨_, rfl⟩
    rw [← hl] at hok hoc hqd
    have hll : (nmE iE l).length < sizeLine := by rw [nm_len]; exact Nat.lt_of_le_of_lt hok.1 (by decide)
    have fin : ∀ G2, Same (Sm.dl G' q) G2 → G2 q = some (.dK (nmE iE (beh l s.chg[i]))) → Same H G2 ∧ G2 L = some (.lst (a.cs.take m)) ∧ G2 q = some (.dK (nmE iE (replay s.firm (s.chg.take (i + 1))))) := fun G2 e z => ⟨fresh_mut n1 eG e, e _ _ ((Sm.dl_ne hLq).trans hL), by rw [List.take_succ, hci, Option.toList_some, replay_snoc, ← hl]; exact z⟩
    cases hc : s.chg[i] with
    | mk n j =>
      rw [hc] at hcl hoc fin
      obtain ⟨ad, rfl, had⟩ := hcl
      have hd := eG _ _ (hg _ _ had)
      repeat' wtm_at "st"
      rename_i G2 s2 p2
      refine ⟨_, _, _, rfl, fin _ s2 ?_⟩
      show _ = some (HO.dK (nmE iE (putN l n j)))
      rw [← putK_nm]
      exact p2
    | rm n =>
      rw [hc] at hcl hoc fin
      obtain ⟨ad, mm, rfl, had⟩ := hcl
      have hd := eG _ _ (hg _ _ had)
      obtain ⟨j, hj⟩ := Option.isSome_iff_exists.mp (show (getN l n).isSome = true from hoc)
      have hv : valV (nmE iE l) (.inr n) = some (iE j) := by rw [valV_nm, hj]; rfl
      repeat' wtm_at "st"
      rename_i G2 s2 p2
      refine ⟨_, _, _, rfl, fin _ s2 ?_⟩
      show _ = some (HO.dK (nmE iE (dropN l n)))
      rw [← dropK_nm]
      exact p2
    | rn o2 n =>
      rw [hc] at hcl hoc fin
      obtain ⟨ad, rfl, had⟩ := hcl
      have hd := eG _ _ (hg _ _ had)
      obtain ⟨j, hj⟩ := Option.isSome_iff_exists.mp (show (getN l o2).isSome = true from hoc)
      have hv : valV (nmE iE l) (.inr o2) = some (iE j) := by rw [valV_nm, hj]; rfl
      have hl2 : (dropK (nmE iE l) (.inr o2)).length < sizeLine := by rw [dropK_nm, nm_len]; exact Nat.lt_of_le_of_lt (Nat.le_trans (dropN_len _ _) hok.1) (by decide)
      repeat' wtm_at "st"
      rename_i G2 s2 p2 G3 s3 p3
      refine ⟨_, _, _, rfl, fin _ (mut_mut s2 s3) ?_⟩
      show _ = some (HO.dK (nmE iE (putN (dropN l o2) n ((getN l o2).getD 0))))
      rw [hj, ← putK_nm, ← dropK_nm]
      exact p3
  · rintro σ G ⟨o3, o4, o5, rfl, eG, hL, hqd⟩
    rw [hlk] at hqd
    repeat' wtm_at "st"
    exact hq q G n1 eG hqd
end
section
variable {P : Program} {w : World} {K : PySem.W.Frag} {mg : Str → Option Value} {base : Heap} {f : Addr} {fd : FuncData}
theorem ok__law_step (T : Txt P K mg) (F : FD K "_law_step" s__law_step f fd) (G__law_names : Sm.Fn P w K mg base 1 "_law_names" P__law_names (sp__law_names K)) (G__law_is_name : Sm.Fn P w K mg base 1 "_law_is_name" P__law_is_name (sp__law_is_name K))   : FnOk P w K mg base (L2.CX P w) 2 f fd P__law_step (sp__law_step K) := by
  refine F.ok sc__law_step (fun vs H Q E h => ?_) (fun cdv A outer s H vs Q E hr h => ?_)
  · obtain ⟨o, d, g, s, b, dd, rfl, _⟩ := h
    rfl
  obtain ⟨o, d, g, s, b, dd, rfl, hO, hg, hw, hb, hd, hdd, hq⟩ := h
  refine ⟨_, (pss_cons (ps_asg (pv 1) (pg_tup rfl (pgs_cons (pg_name (i := 2) sc__law_step.nd rfl (Or.inl rfl)) (pgs_cons (pg_name (i := 3) sc__law_step.nd rfl (Or.inl rfl)) (pgs_cons (pg_name (i := 4) sc__law_step.nd rfl (Or.inl rfl)) pgs_nil)))))
      (pss_cons (ps_set (i := 5) sc__law_step.nd rfl (Or.inl rfl) (Sm.pe_fn G__law_names hr (pa_cons (pv 0) (pa_cons (pe_callB Sm.call_lenU rfl T.f_len (by decide +kernel) (pa_cons (pe_ix ix_seq (pv 0) pe_int (fun _ _ => rfl)) pa_nil)) pa_nil))))
      (pss_cons (ps_if (PW.pt (pw_and (pt_cmpR (Sm.op_eqU hr) (pv 2) pe_str (nomark _)) (pw_and1 (pt_not (pt_truth (Sm.pe_fn G__law_is_name hr (pa_cons (pv 3) pa_nil)) (by intro _; rfl)))))) (pss_one (ps_ret (pe_tup (pa_cons pe_str pa_nil)))) pss_nil)
      (pss_cons (ps_if (PW.pt (pw_and (pt_cmpR Sm.op_inU (pv 2) (pe_tup (pa_cons pe_str (pa_cons pe_str (pa_cons pe_str pa_nil)))) (by rfl)) (pw_and1 (pt_cmp (pc_dnotin (hu_of hr) (pv 3) (pv 5)) (by rfl))))) (pss_one (ps_ret (pe_tup (pa_cons pe_str (pa_cons (pv 3) pa_nil))))) pss_nil)
      (pss_cons (ps_if (PW.pt (pw_and (pt_cmpR (Sm.op_eqU hr) (pv 2) pe_str (nomark _)) (pw_and1 (pt_not (pt_truth (pe_callB call_isi rfl T.f_isinstance (by decide +kernel) (pa_cons (pv 4) (pa_cons (Sm.pe_ty (n := "str") T.f_str (by decide +kernel)) pa_nil))) (by intro _; rfl)))))) (pss_one (ps_ret (pe_tup (pa_cons pe_str pa_nil)))) pss_nil)
      (pss_cons (ps_if (PW.pt (pw_and (pt_cmpR (Sm.op_eqU hr) (pv 2) pe_str (nomark _)) (pw_and (pt_cmp (pc_dnotin (hu_of hr) (pv 3) (pv 5)) (by rfl)) (pw_and1 (pt_cmpR (Sm.op_eqU hr) (pe_callB Sm.call_lenDk rfl T.f_len (by decide +kernel) (pa_cons (pv 5) pa_nil)) pe_int (nomark _)))))) (pss_one (ps_ret (pe_tup (pa_cons pe_str (pa_cons pe_int pa_nil))))) pss_nil)
      (pss_cons (ps_if (PW.pt (pw_and (pt_cmpR (Sm.op_eqU hr) (pv 2) pe_str (nomark _)) (pw_and1 (pt_not (pt_truth (Sm.pe_fn G__law_is_name hr (pa_cons (pv 4) pa_nil)) (by intro _; rfl)))))) (pss_one (ps_ret (pe_tup (pa_cons pe_str pa_nil)))) pss_nil)
      (pss_cons (ps_if (PW.pt (pw_and (pt_cmpR Sm.op_nisU (pe_ix ix_seq (pv 0) pe_int (fun _ _ => rfl)) pe_non (nomark _)) (pw_and1 (pt_cmpR op_ge (pe_ix ix_seq (pv 0) pe_int (fun _ _ => rfl)) (pe_ix ix_seq (pv 0) pe_int (fun _ _ => rfl)) (nomark _))))) (pss_one (ps_ret (pe_tup (pa_cons pe_str (pa_cons (pe_ix ix_seq (pv 0) pe_int (fun _ _ => rfl)) pa_nil))))) pss_nil)
      (pss_cons (ps_asg (pe_op Sm.op_addU (pe_ix ix_seq (pv 0) pe_int (fun _ _ => rfl)) pe_int) (pg_sub (pv 0) pe_int set_list))
      (pss_cons (ps_if (pt_cmpR (Sm.op_eqU hr) (pv 2) pe_str (nomark _)) (pss_cons (ps_if (pt_cmp (pc_dnotin (hu_of hr) (pv 3) (pv 5)) (by rfl)) (pss_cons (ps_dput (hu_of hr) (pe_ix ix_seq (pv 0) pe_int (fun _ _ => rfl)) (pe_callB Sm.call_lenDk rfl T.f_len (by decide +kernel) (pa_cons (pe_ix ix_seq (pv 0) pe_int (fun _ _ => rfl)) pa_nil)) (pe_lst (pa_cons pe_str (pa_cons pe_int pa_nil))) rfl)
      (pss_one (ps_expr (pe_bm PySem.F.plainAttrs_list PySem.F.slot_list_append PySem.F.type_list_append mt_append (pe_ix ix_seq (pv 0) pe_int (fun _ _ => rfl)) (pa_cons (pe_tup (pa_cons pe_str (pa_cons (pv 3) (pa_cons (pe_op op_sub (pe_callB Sm.call_lenDk rfl T.f_len (by decide +kernel) (pa_cons (pe_ix ix_seq (pv 0) pe_int (fun _ _ => rfl)) pa_nil)) pe_int) pa_nil)))) pa_nil))))) pss_nil)
      (pss_cons (ps_set (i := 6) sc__law_step.nd rfl (Or.inl rfl) (pe_dget (hu_of hr) (pe_ix ix_seq (pv 0) pe_int (fun _ _ => rfl)) (pe_dget (hu_of hr) (Sm.pe_fn G__law_names hr (pa_cons (pv 0) (pa_cons (pe_callB Sm.call_lenU rfl T.f_len (by decide +kernel) (pa_cons (pe_ix ix_seq (pv 0) pe_int (fun _ _ => rfl)) pa_nil)) pa_nil))) (pv 3) (fun _ _ => rfl)) (fun _ _ => rfl)))
      (pss_one (ps_asg (pe_op Sm.op_addU (pe_ix ix_seq (pv 6) pe_int (fun _ _ => rfl)) (pv 4)) (pg_sub (pv 6) pe_int set_list))))) (pss_one (ps_if (pt_cmpR (Sm.op_eqU hr) (pv 2) pe_str (nomark _)) (pss_one (ps_asg (pe_callB Sm.call_lenU rfl T.f_len (by decide +kernel) (pa_cons (pe_ix ix_seq (pe_dget (hu_of hr) (pe_ix ix_seq (pv 0) pe_int (fun _ _ => rfl)) (pe_dget (hu_of hr) (pv 5) (pv 3) (fun _ _ => rfl)) (fun _ _ => rfl)) pe_int (fun _ _ => rfl)) pa_nil)) (pg_sub (pe_dget (hu_of hr) (pe_ix ix_seq (pv 0) pe_int (fun _ _ => rfl)) (pe_dget (hu_of hr) (pv 5) (pv 3) (fun _ _ => rfl)) (fun _ _ => rfl)) pe_int set_list))) (pss_one (ps_if (pt_cmpR (Sm.op_eqU hr) (pv 2) pe_str (nomark _)) (pss_one (ps_asg (pe_tup (pa_cons (pv 5) (pa_cons (pe_lst pa_nil) pa_nil))) (pg_tup rfl (pgs_cons (pg_sub (pv 0) pe_int set_list) (pgs_cons (pg_sub (pv 0) pe_int set_list) pgs_nil))))) (pss_one (ps_expr (pe_bm PySem.F.plainAttrs_list PySem.F.slot_list_append PySem.F.type_list_append mt_append (pe_ix ix_seq (pv 0) pe_int (fun _ _ => rfl)) (pa_cons (pe_tup (pa_cons (pv 2) (pa_cons (pv 3) (pa_cons (pv 4) pa_nil)))) pa_nil)))))))))
      (pss_one (ps_ret (pe_tup (pa_cons pe_str (pa_cons pe_non pa_nil))))))))))))))), ?_⟩
  rw [st__law_step]
  obtain ⟨a, hO⟩ := hO
  have h0 := hg _ _ hO.self
  have h2 := hg _ _ hO.chgs
  have h3 := hg _ _ hO.fls
  have i1 : inV (.str "append") [.str "sync", .str "remove", .str "rename"] = false := by decide
  have i2 : inV (.str "sync") [.str "sync", .str "remove", .str "rename"] = true := by decide
  have i3 : inV (.str "remove") [.str "sync", .str "remove", .str "rename"] = true := by decide
  have i4 : inV (.str "rename") [.str "sync", .str "remove", .str "rename"] = true := by decide
  have i5 : inV (.str "names") [.str "sync", .str "remove", .str "rename"] = false := by decide
  have hz : a.cs.length < sizeLine := by rw [hO.each.1]; exact Nat.lt_of_le_of_lt hw.nc (Nat.lt_of_le_of_lt hb (by decide))
  have hfl : (flE a.la s.files.length).length < sizeLine := by rw [flE_len]; exact Nat.lt_of_le_of_lt hw.nf (Nat.lt_of_le_of_lt (show 8 + b ≤ 2000 by omega) (by decide))
  cases dd with
  | syn n t =>
    have hq : match doSyn s n with
      | Except.ok s' => ∀ (q : Addr) (g' H' : Hp), Sm.Step g H g' H' → OwnAt g' o s' → H' q = some (HO.tup toldT) → Q (V.ref q) H'
      | Except.error e => ∀ (q : Addr) (H' : Hp), Same H H' → H' q = some (HO.tup (erT e)) → Q (V.ref q) H' := hq
    unfold doSyn at hq
    cases n with
    | inl j =>
      have hv : (valV (nmE iE (now s)) (.inl j)).isSome = false := by rw [valV_nmI]; rfl
      have hd : SqT K H d [.str "sync", kV (.inl j), kV t] := hd
      repeat' wtm_at "st"
      refine ⟨o, a.cs.length, g, s, b, rfl, ⟨a, hO⟩, hg, hw, Nat.le_trans hb (by decide), Nat.le_of_eq hO.each.1, fun q0 H1 n1 e1 q1 => ?_⟩
      rw [hO.each.1, List.take_length] at q1
      have q1 : H1 q0 = some (.dK (nmE iE (now s))) := q1
      repeat' wtm_at "st"
      all_goals exact hq _ _ (by wtm_at "sm") (by assumption)
    | inr z =>
      have hd : SqT K H d [.str "sync", .str z, kV t] := hd
      cases g0 : getN (now s) z with
      | none =>
        have hv : (valV (nmE iE (now s)) (.inr z)).isSome = false := by rw [valV_nm, g0]; rfl
        have gk : getK s (.inr z) = none := g0
        rw [gk] at hq
        repeat' wtm_at "st"
        refine ⟨o, a.cs.length, g, s, b, rfl, ⟨a, hO⟩, hg, hw, Nat.le_trans hb (by decide), Nat.le_of_eq hO.each.1, fun q0 H1 n1 e1 q1 => ?_⟩
        rw [hO.each.1, List.take_length] at q1
        have q1 : H1 q0 = some (.dK (nmE iE (now s))) := q1
        repeat' wtm_at "st"
        all_goals exact hq _ _ (by wtm_at "sm") (by assumption)
      | some i =>
        have gk : getK s (.inr z) = some i := g0
        rw [gk] at hq
        have hvv : valV (nmE iE (now s)) (.inr z) = some (.int (i : Nat)) := by rw [valV_nm, g0]; rfl
        have hv : (valV (nmE iE (now s)) (.inr z)).isSome = true := by rw [hvv]; rfl
        have hil := hw.idAt g0
        obtain ⟨t1, m1, f1, f2, hl1⟩ := fileOf hw hil
        have fl1 := hO.file i t1 m1 f1
        have hfv : valV (flE a.la s.files.length) (.inl (i : Nat)) = some (.ref (a.la i)) := by rw [flE_val, if_pos hil]
        have htl : t1.length ≤ sizeLine := Sm.len_le (by omega)
        cases hp : s.power with
        | none =>
          have hpv : pwV s.power = .non := by rw [hp]; rfl
          rw [hpv] at h0
          have hs1 := step1_none hp
          rw [hs1] at hq
          repeat' wtm_at "st"
          refine ⟨o, a.cs.length, g, s, b, rfl, ⟨a, hO⟩, hg, hw, Nat.le_trans hb (by decide), Nat.le_of_eq hO.each.1, fun q0 H1 n1 e1 q1 => ?_⟩
          rw [hO.each.1, List.take_length] at q1
          have q1 : H1 q0 = some (.dK (nmE iE (now s))) := q1
          repeat' wtm_at "st"
          rename_i w0 Hx w1 w2 w3 H2 s0 p0
          have p0 : H2 o = some (.lst [.ref a.f, .ref a.c, .ref a.fs, .int ((s.steps + 1 : Nat) : Int), pwV s.power]) := by rw [hpv]; exact p0
          have q1x : Hx q0 = some (.dK (nmE iE (now s))) := obj_at q1 (by wtm_at "sm")
          have eHx : Same H Hx := by wtm_at "sm"
          have st1 := (Sm.Step.same hg eHx).mut (a := o) (by rw [hO.self]; exact fun z => nomatch z) s0 p0
          have O1 : OwnH (upd g o (.lst [.ref a.f, .ref a.c, .ref a.fs, .int ((s.steps + 1 : Nat) : Int), pwV s.power])) o a { s with steps := s.steps + 1 } := (hO.toOwnB.st (s' := { s with steps := s.steps + 1 }) rfl rfl rfl).put hO.self
          have q2 : H2 q0 = some (.dK (nmE iE (now s))) := s0 _ _ ((Sm.dl_ne (off q1x (eHx _ _ h0) (fun z => nomatch z))).trans q1x)
          have k3 := st1.1 _ _ O1.fls
          have k2 := st1.1 _ _ O1.chgs
          have k4 := st1.1 _ _ (O1.file i t1 m1 f1).1
          repeat' wtm_at "st"
          rename_i H3 s3 p3 q4 H4 n4 e4 r4
          have st2 := st1.mut (a := a.la i) (by rw [(O1.file i t1 m1 f1).1]; exact fun z => nomatch z) s3 p3
          have O2 := O1.file_put (t' := t1) (m' := t1.length) f1
          have eq : syncAt { s with steps := s.steps + 1 } i = { s with steps := s.steps + 1, files := s.files.set i (t1, t1.length) } := by
            unfold syncAt
            rw [f2]
          have hq : ∀ (q : Addr) (g' H' : Hp), Sm.Step g H g' H' → OwnAt g' o (syncAt { s with steps := s.steps + 1 } i) → H' q = some (HO.tup toldT) → Q (V.ref q) H' := hq
          rw [eq] at hq
          exact hq q4 _ H4 (st2.more e4) ⟨a, O2⟩ r4
        | some p =>
          have hpv : pwV s.power = .int p := by rw [hp]; rfl
          rw [hpv] at h0
          by_cases hle : p ≤ (s.steps : Int)
          · have hs1 := step1_ge hp hle
            rw [hs1] at hq
            repeat' wtm_at "st"
            refine ⟨o, a.cs.length, g, s, b, rfl, ⟨a, hO⟩, hg, hw, Nat.le_trans hb (by decide), Nat.le_of_eq hO.each.1, fun q0 H1 n1 e1 q1 => ?_⟩
            rw [hO.each.1, List.take_length] at q1
            have q1 : H1 q0 = some (.dK (nmE iE (now s))) := q1
            repeat' wtm_at "st"
            all_goals exact hq _ _ (by wtm_at "sm") (by assumption)
          · have hs1 := step1_lt hp hle
            rw [hs1] at hq
            repeat' wtm_at "st"
            refine ⟨o, a.cs.length, g, s, b, rfl, ⟨a, hO⟩, hg, hw, Nat.le_trans hb (by decide), Nat.le_of_eq hO.each.1, fun q0 H1 n1 e1 q1 => ?_⟩
            rw [hO.each.1, List.take_length] at q1
            have q1 : H1 q0 = some (.dK (nmE iE (now s))) := q1
            repeat' wtm_at "st"
            rename_i w0 Hx w1 w2 w3 H2 s0 p0
            have p0 : H2 o = some (.lst [.ref a.f, .ref a.c, .ref a.fs, .int ((s.steps + 1 : Nat) : Int), pwV s.power]) := by rw [hpv]; exact p0
            have q1x : Hx q0 = some (.dK (nmE iE (now s))) := obj_at q1 (by wtm_at "sm")
            have eHx : Same H Hx := by wtm_at "sm"
            have st1 := (Sm.Step.same hg eHx).mut (a := o) (by rw [hO.self]; exact fun z => nomatch z) s0 p0
            have O1 : OwnH (upd g o (.lst [.ref a.f, .ref a.c, .ref a.fs, .int ((s.steps + 1 : Nat) : Int), pwV s.power])) o a { s with steps := s.steps + 1 } := (hO.toOwnB.st (s' := { s with steps := s.steps + 1 }) rfl rfl rfl).put hO.self
            have q2 : H2 q0 = some (.dK (nmE iE (now s))) := s0 _ _ ((Sm.dl_ne (off q1x (eHx _ _ h0) (fun z => nomatch z))).trans q1x)
            have k3 := st1.1 _ _ O1.fls
            have k2 := st1.1 _ _ O1.chgs
            have k4 := st1.1 _ _ (O1.file i t1 m1 f1).1
            repeat' wtm_at "st"
            rename_i H3 s3 p3 q4 H4 n4 e4 r4
            have st2 := st1.mut (a := a.la i) (by rw [(O1.file i t1 m1 f1).1]; exact fun z => nomatch z) s3 p3
            have O2 := O1.file_put (t' := t1) (m' := t1.length) f1
            have eq : syncAt { s with steps := s.steps + 1 } i = { s with steps := s.steps + 1, files := s.files.set i (t1, t1.length) } := by
              unfold syncAt
              rw [f2]
            have hq : ∀ (q : Addr) (g' H' : Hp), Sm.Step g H g' H' → OwnAt g' o (syncAt { s with steps := s.steps + 1 } i) → H' q = some (HO.tup toldT) → Q (V.ref q) H' := hq
            rw [eq] at hq
            exact hq q4 _ H4 (st2.more e4) ⟨a, O2⟩ r4
  | rem n t =>
    have hq : match doRem s n with
      | Except.ok s' => ∀ (q : Addr) (g' H' : Hp), Sm.Step g H g' H' → OwnAt g' o s' → H' q = some (HO.tup toldT) → Q (V.ref q) H'
      | Except.error e => ∀ (q : Addr) (H' : Hp), Same H H' → H' q = some (HO.tup (erT e)) → Q (V.ref q) H' := hq
    unfold doRem at hq
    cases n with
    | inl j =>
      have hv : (valV (nmE iE (now s)) (.inl j)).isSome = false := by rw [valV_nmI]; rfl
      have hd : SqT K H d [.str "remove", kV (.inl j), kV t] := hd
      repeat' wtm_at "st"
      refine ⟨o, a.cs.length, g, s, b, rfl, ⟨a, hO⟩, hg, hw, Nat.le_trans hb (by decide), Nat.le_of_eq hO.each.1, fun q0 H1 n1 e1 q1 => ?_⟩
      rw [hO.each.1, List.take_length] at q1
      have q1 : H1 q0 = some (.dK (nmE iE (now s))) := q1
      repeat' wtm_at "st"
      all_goals exact hq _ _ (by wtm_at "sm") (by assumption)
    | inr z =>
      have hd : SqT K H d [.str "remove", .str z, kV t] := hd
      dsimp only at hq
      cases g0 : getN (now s) z with
      | none =>
        have hv : (valV (nmE iE (now s)) (.inr z)).isSome = false := by rw [valV_nm, g0]; rfl
        rw [g0] at hq
        repeat' wtm_at "st"
        refine ⟨o, a.cs.length, g, s, b, rfl, ⟨a, hO⟩, hg, hw, Nat.le_trans hb (by decide), Nat.le_of_eq hO.each.1, fun q0 H1 n1 e1 q1 => ?_⟩
        rw [hO.each.1, List.take_length] at q1
        have q1 : H1 q0 = some (.dK (nmE iE (now s))) := q1
        repeat' wtm_at "st"
        all_goals exact hq _ _ (by wtm_at "sm") (by assumption)
      | some i =>
        rw [g0] at hq
        have hv : (valV (nmE iE (now s)) (.inr z)).isSome = true := by rw [valV_nm, g0]; rfl
        cases hp : s.power with
        | none =>
          have hpv : pwV s.power = .non := by rw [hp]; rfl
          rw [hpv] at h0
          have hs1 := step1_none hp
          rw [hs1] at hq
          repeat' wtm_at "st"
          refine ⟨o, a.cs.length, g, s, b, rfl, ⟨a, hO⟩, hg, hw, Nat.le_trans hb (by decide), Nat.le_of_eq hO.each.1, fun q0 H1 n1 e1 q1 => ?_⟩
          rw [hO.each.1, List.take_length] at q1
          have q1 : H1 q0 = some (.dK (nmE iE (now s))) := q1
          repeat' wtm_at "st"
          rename_i w0 Hx w1 w2 w3 H2 s0 p0
          have p0 : H2 o = some (.lst [.ref a.f, .ref a.c, .ref a.fs, .int ((s.steps + 1 : Nat) : Int), pwV s.power]) := by rw [hpv]; exact p0
          have q1x : Hx q0 = some (.dK (nmE iE (now s))) := obj_at q1 (by wtm_at "sm")
          have eHx : Same H Hx := by wtm_at "sm"
          have st1 := (Sm.Step.same hg eHx).mut (a := o) (by rw [hO.self]; exact fun z => nomatch z) s0 p0
          have O1 : OwnH (upd g o (.lst [.ref a.f, .ref a.c, .ref a.fs, .int ((s.steps + 1 : Nat) : Int), pwV s.power])) o a { s with steps := s.steps + 1 } := (hO.toOwnB.st (s' := { s with steps := s.steps + 1 }) rfl rfl rfl).put hO.self
          have q2 : H2 q0 = some (.dK (nmE iE (now s))) := s0 _ _ ((Sm.dl_ne (off q1x (eHx _ _ h0) (fun z => nomatch z))).trans q1x)
          have k3 := st1.1 _ _ O1.fls
          have k2 := st1.1 _ _ O1.chgs
          repeat' wtm_at "st"
          rename_i c H3 n3 e3 r3 H4 s4 p4 q5 H5 n5 e5 r5
          have st2 := st1.new n3 e3 r3
          have O2 := O1.same (Sm.Same.new (o := .tup [.str "remove", .str z, kV t]) (none_of st1.1 n3))
          have st3 := st2.mut (a := a.c) (by rw [O2.chgs]; exact fun z => nomatch z) s4 p4
          have O3 := O2.chg_put (v := .ref c) (c := .rm z) ⟨c, kV t, rfl, upd_same⟩
          have hq : ∀ (q : Addr) (g' H' : Hp), Sm.Step g H g' H' → OwnAt g' o { s with steps := s.steps + 1, chg := s.chg ++ [.rm z] } → H' q = some (HO.tup toldT) → Q (V.ref q) H' := hq
          exact hq q5 _ H5 (st3.more e5) ⟨_, O3⟩ r5
        | some p =>
          have hpv : pwV s.power = .int p := by rw [hp]; rfl
          rw [hpv] at h0
          by_cases hle : p ≤ (s.steps : Int)
          · have hs1 := step1_ge hp hle
            rw [hs1] at hq
            repeat' wtm_at "st"
            refine ⟨o, a.cs.length, g, s, b, rfl, ⟨a, hO⟩, hg, hw, Nat.le_trans hb (by decide), Nat.le_of_eq hO.each.1, fun q0 H1 n1 e1 q1 => ?_⟩
            rw [hO.each.1, List.take_length] at q1
            have q1 : H1 q0 = some (.dK (nmE iE (now s))) := q1
            repeat' wtm_at "st"
            all_goals exact hq _ _ (by wtm_at "sm") (by assumption)
          · have hs1 := step1_lt hp hle
            rw [hs1] at hq
            repeat' wtm_at "st"
            refine ⟨o, a.cs.length, g, s, b, rfl, ⟨a, hO⟩, hg, hw, Nat.le_trans hb (by decide), Nat.le_of_eq hO.each.1, fun q0 H1 n1 e1 q1 => ?_⟩
            rw [hO.each.1, List.take_length] at q1
            have q1 : H1 q0 = some (.dK (nmE iE (now s))) := q1
            repeat' wtm_at "st"
            rename_i w0 Hx w1 w2 w3 H2 s0 p0
            have p0 : H2 o = some (.lst [.ref a.f, .ref a.c, .ref a.fs, .int ((s.steps + 1 : Nat) : Int), pwV s.power]) := by rw [hpv]; exact p0
            have q1x : Hx q0 = some (.dK (nmE iE (now s))) := obj_at q1 (by wtm_at "sm")
            have eHx : Same H Hx := by wtm_at "sm"
            have st1 := (Sm.Step.same hg eHx).mut (a := o) (by rw [hO.self]; exact fun z => nomatch z) s0 p0
            have O1 : OwnH (upd g o (.lst [.ref a.f, .ref a.c, .ref a.fs, .int ((s.steps + 1 : Nat) : Int), pwV s.power])) o a { s with steps := s.steps + 1 } := (hO.toOwnB.st (s' := { s with steps := s.steps + 1 }) rfl rfl rfl).put hO.self
            have q2 : H2 q0 = some (.dK (nmE iE (now s))) := s0 _ _ ((Sm.dl_ne (off q1x (eHx _ _ h0) (fun z => nomatch z))).trans q1x)
            have k3 := st1.1 _ _ O1.fls
            have k2 := st1.1 _ _ O1.chgs
            repeat' wtm_at "st"
            rename_i c H3 n3 e3 r3 H4 s4 p4 q5 H5 n5 e5 r5
            have st2 := st1.new n3 e3 r3
            have O2 := O1.same (Sm.Same.new (o := .tup [.str "remove", .str z, kV t]) (none_of st1.1 n3))
            have st3 := st2.mut (a := a.c) (by rw [O2.chgs]; exact fun z => nomatch z) s4 p4
            have O3 := O2.chg_put (v := .ref c) (c := .rm z) ⟨c, kV t, rfl, upd_same⟩
            have hq : ∀ (q : Addr) (g' H' : Hp), Sm.Step g H g' H' → OwnAt g' o { s with steps := s.steps + 1, chg := s.chg ++ [.rm z] } → H' q = some (HO.tup toldT) → Q (V.ref q) H' := hq
            exact hq q5 _ H5 (st3.more e5) ⟨_, O3⟩ r5
  | ren n t =>
    have hq : match doRen s n t with
      | Except.ok s' => ∀ (q : Addr) (g' H' : Hp), Sm.Step g H g' H' → OwnAt g' o s' → H' q = some (HO.tup toldT) → Q (V.ref q) H'
      | Except.error e => ∀ (q : Addr) (H' : Hp), Same H H' → H' q = some (HO.tup (erT e)) → Q (V.ref q) H' := hq
    unfold doRen at hq
    obtain ⟨hnn, hnt, hzz⟩ := hdd
    cases n with
    | inl j =>
      have hv : (valV (nmE iE (now s)) (.inl j)).isSome = false := by rw [valV_nmI]; rfl
      have hd : SqT K H d [.str "rename", kV (.inl j), kV t] := hd
      repeat' wtm_at "st"
      refine ⟨o, a.cs.length, g, s, b, rfl, ⟨a, hO⟩, hg, hw, Nat.le_trans hb (by decide), Nat.le_of_eq hO.each.1, fun q0 H1 n1 e1 q1 => ?_⟩
      rw [hO.each.1, List.take_length] at q1
      have q1 : H1 q0 = some (.dK (nmE iE (now s))) := q1
      repeat' wtm_at "st"
      all_goals exact hq _ _ (by wtm_at "sm") (by assumption)
    | inr z =>
      have hd : SqT K H d [.str "rename", .str z, kV t] := hd
      dsimp only at hq
      cases g0 : getN (now s) z with
      | none =>
        have hv : (valV (nmE iE (now s)) (.inr z)).isSome = false := by rw [valV_nm, g0]; rfl
        rw [g0] at hq
        repeat' wtm_at "st"
        refine ⟨o, a.cs.length, g, s, b, rfl, ⟨a, hO⟩, hg, hw, Nat.le_trans hb (by decide), Nat.le_of_eq hO.each.1, fun q0 H1 n1 e1 q1 => ?_⟩
        rw [hO.each.1, List.take_length] at q1
        have q1 : H1 q0 = some (.dK (nmE iE (now s))) := q1
        repeat' wtm_at "st"
        all_goals exact hq _ _ (by wtm_at "sm") (by assumption)
      | some i =>
        rw [g0] at hq
        have hv : (valV (nmE iE (now s)) (.inr z)).isSome = true := by rw [valV_nm, g0]; rfl
        cases t with
        | inl j =>
          have hk : nameK (.inl j) = false := rfl
          repeat' wtm_at "st"
          refine ⟨o, a.cs.length, g, s, b, rfl, ⟨a, hO⟩, hg, hw, Nat.le_trans hb (by decide), Nat.le_of_eq hO.each.1, fun q0 H1 n1 e1 q1 => ?_⟩
          rw [hO.each.1, List.take_length] at q1
          have q1 : H1 q0 = some (.dK (nmE iE (now s))) := q1
          repeat' wtm_at "st"
          all_goals exact hq _ _ (by wtm_at "sm") (by assumption)
        | inr y =>
          dsimp only at hq
          have hd : SqT K H d [.str "rename", .str z, .str y] := hd
          cases hk : nameK (.inr y) with
          | false =>
            have hk' : nameS y = false := hk
            rw [if_pos hk'] at hq
            repeat' wtm_at "st"
            refine ⟨o, a.cs.length, g, s, b, rfl, ⟨a, hO⟩, hg, hw, Nat.le_trans hb (by decide), Nat.le_of_eq hO.each.1, fun q0 H1 n1 e1 q1 => ?_⟩
            rw [hO.each.1, List.take_length] at q1
            have q1 : H1 q0 = some (.dK (nmE iE (now s))) := q1
            repeat' wtm_at "st"
            all_goals exact hq _ _ (by wtm_at "sm") (by assumption)
          | true =>
            have hk' : ¬ nameS y = false := fun q => by
              have hk : nameS y = true := hk
              rw [q] at hk; cases hk
            rw [if_neg hk'] at hq
            cases hp : s.power with
            | none =>
              have hpv : pwV s.power = .non := by rw [hp]; rfl
              rw [hpv] at h0
              have hs1 := step1_none hp
              rw [hs1] at hq
              repeat' wtm_at "st"
              refine ⟨o, a.cs.length, g, s, b, rfl, ⟨a, hO⟩, hg, hw, Nat.le_trans hb (by decide), Nat.le_of_eq hO.each.1, fun q0 H1 n1 e1 q1 => ?_⟩
              rw [hO.each.1, List.take_length] at q1
              have q1 : H1 q0 = some (.dK (nmE iE (now s))) := q1
              repeat' wtm_at "st"
              rename_i Hx w1 H2 s0 p0
              have p0 : H2 o = some (.lst [.ref a.f, .ref a.c, .ref a.fs, .int ((s.steps + 1 : Nat) : Int), pwV s.power]) := by rw [hpv]; exact p0
              have q1x : Hx q0 = some (.dK (nmE iE (now s))) := obj_at q1 (by wtm_at "sm")
              have eHx : Same H Hx := by wtm_at "sm"
              have st1 := (Sm.Step.same hg eHx).mut (a := o) (by rw [hO.self]; exact fun z => nomatch z) s0 p0
              have O1 : OwnH (upd g o (.lst [.ref a.f, .ref a.c, .ref a.fs, .int ((s.steps + 1 : Nat) : Int), pwV s.power])) o a { s with steps := s.steps + 1 } := (hO.toOwnB.st (s' := { s with steps := s.steps + 1 }) rfl rfl rfl).put hO.self
              have q2 : H2 q0 = some (.dK (nmE iE (now s))) := s0 _ _ ((Sm.dl_ne (off q1x (eHx _ _ h0) (fun z => nomatch z))).trans q1x)
              have k3 := st1.1 _ _ O1.fls
              have k2 := st1.1 _ _ O1.chgs
              repeat' wtm_at "st"
              rename_i c H3 n3 e3 r3 H4 s4 p4 q5 H5 n5 e5 r5
              have st2 := st1.new n3 e3 r3
              have O2 := O1.same (Sm.Same.new (o := .tup [.str "rename", .str z, .str y]) (none_of st1.1 n3))
              have st3 := st2.mut (a := a.c) (by rw [O2.chgs]; exact fun z => nomatch z) s4 p4
              have O3 := O2.chg_put (v := .ref c) (c := .rn z y) ⟨c, rfl, upd_same⟩
              have hq : ∀ (q : Addr) (g' H' : Hp), Sm.Step g H g' H' → OwnAt g' o { s with steps := s.steps + 1, chg := s.chg ++ [.rn z y] } → H' q = some (HO.tup toldT) → Q (V.ref q) H' := hq
              exact hq q5 _ H5 (st3.more e5) ⟨_, O3⟩ r5
            | some p =>
              have hpv : pwV s.power = .int p := by rw [hp]; rfl
              rw [hpv] at h0
              by_cases hle : p ≤ (s.steps : Int)
              · have hs1 := step1_ge hp hle
                rw [hs1] at hq
                repeat' wtm_at "st"
                refine ⟨o, a.cs.length, g, s, b, rfl, ⟨a, hO⟩, hg, hw, Nat.le_trans hb (by decide), Nat.le_of_eq hO.each.1, fun q0 H1 n1 e1 q1 => ?_⟩
                rw [hO.each.1, List.take_length] at q1
                have q1 : H1 q0 = some (.dK (nmE iE (now s))) := q1
                repeat' wtm_at "st"
                all_goals exact hq _ _ (by wtm_at "sm") (by assumption)
              · have hs1 := step1_lt hp hle
                rw [hs1] at hq
                repeat' wtm_at "st"
                refine ⟨o, a.cs.length, g, s, b, rfl, ⟨a, hO⟩, hg, hw, Nat.le_trans hb (by decide), Nat.le_of_eq hO.each.1, fun q0 H1 n1 e1 q1 => ?_⟩
                rw [hO.each.1, List.take_length] at q1
                have q1 : H1 q0 = some (.dK (nmE iE (now s))) := q1
                repeat' wtm_at "st"
                rename_i Hx w1 H2 s0 p0
                have p0 : H2 o = some (.lst [.ref a.f, .ref a.c, .ref a.fs, .int ((s.steps + 1 : Nat) : Int), pwV s.power]) := by rw [hpv]; exact p0
                have q1x : Hx q0 = some (.dK (nmE iE (now s))) := obj_at q1 (by wtm_at "sm")
                have eHx : Same H Hx := by wtm_at "sm"
                have st1 := (Sm.Step.same hg eHx).mut (a := o) (by rw [hO.self]; exact fun z => nomatch z) s0 p0
                have O1 : OwnH (upd g o (.lst [.ref a.f, .ref a.c, .ref a.fs, .int ((s.steps + 1 : Nat) : Int), pwV s.power])) o a { s with steps := s.steps + 1 } := (hO.toOwnB.st (s' := { s with steps := s.steps + 1 }) rfl rfl rfl).put hO.self
                have q2 : H2 q0 = some (.dK (nmE iE (now s))) := s0 _ _ ((Sm.dl_ne (off q1x (eHx _ _ h0) (fun z => nomatch z))).trans q1x)
                have k3 := st1.1 _ _ O1.fls
                have k2 := st1.1 _ _ O1.chgs
                repeat' wtm_at "st"
                rename_i c H3 n3 e3 r3 H4 s4 p4 q5 H5 n5 e5 r5
                have st2 := st1.new n3 e3 r3
                have O2 := O1.same (Sm.Same.new (o := .tup [.str "rename", .str z, .str y]) (none_of st1.1 n3))
                have st3 := st2.mut (a := a.c) (by rw [O2.chgs]; exact fun z => nomatch z) s4 p4
                have O3 := O2.chg_put (v := .ref c) (c := .rn z y) ⟨c, rfl, upd_same⟩
                have hq : ∀ (q : Addr) (g' H' : Hp), Sm.Step g H g' H' → OwnAt g' o { s with steps := s.steps + 1, chg := s.chg ++ [.rn z y] } → H' q = some (HO.tup toldT) → Q (V.ref q) H' := hq
                exact hq q5 _ H5 (st3.more e5) ⟨_, O3⟩ r5
  | nms n t =>
    have hq : match doNms s with
      | Except.ok s' => ∀ (q : Addr) (g' H' : Hp), Sm.Step g H g' H' → OwnAt g' o s' → H' q = some (HO.tup toldT) → Q (V.ref q) H'
      | Except.error e => ∀ (q : Addr) (H' : Hp), Same H H' → H' q = some (HO.tup (erT e)) → Q (V.ref q) H' := hq
    unfold doNms at hq
    have hd : SqT K H d [.str "names", kV n, kV t] := hd
    cases hp : s.power with
    | none =>
      have hpv : pwV s.power = .non := by rw [hp]; rfl
      rw [hpv] at h0
      have hs1 := step1_none hp
      rw [hs1] at hq
      repeat' wtm_at "st"
      refine ⟨o, a.cs.length, g, s, b, rfl, ⟨a, hO⟩, hg, hw, Nat.le_trans hb (by decide), Nat.le_of_eq hO.each.1, fun q0 H1 n1 e1 q1 => ?_⟩
      rw [hO.each.1, List.take_length] at q1
      have q1 : H1 q0 = some (.dK (nmE iE (now s))) := q1
      repeat' wtm_at "st"
      rename_i w0 Hx w1 w2 w3 H2 s0 p0 l H3 n3 e3 r3 tp H4 n4 e4 r4 H5 s5 p5 H6 s6 p6 q7 H7 n7 e7 r7
      have p0 : H2 o = some (.lst [.ref a.f, .ref a.c, .ref a.fs, .int ((s.steps + 1 : Nat) : Int), pwV s.power]) := by rw [hpv]; exact p0
      have q1x : Hx q0 = some (.dK (nmE iE (now s))) := obj_at q1 (by wtm_at "sm")
      have eHx : Same H Hx := by wtm_at "sm"
      have st1 := (Sm.Step.same hg eHx).mut (a := o) (by rw [hO.self]; exact fun z => nomatch z) s0 p0
      have O1 : OwnH (upd g o (.lst [.ref a.f, .ref a.c, .ref a.fs, .int ((s.steps + 1 : Nat) : Int), pwV s.power])) o a { s with steps := s.steps + 1 } := (hO.toOwnB.st (s' := { s with steps := s.steps + 1 }) rfl rfl rfl).put hO.self
      have q2 : H2 q0 = some (.dK (nmE iE (now s))) := s0 _ _ ((Sm.dl_ne (off q1x (eHx _ _ h0) (fun z => nomatch z))).trans q1x)
      have k3 := st1.1 _ _ O1.fls
      have k2 := st1.1 _ _ O1.chgs
      obtain ⟨G1, hG1⟩ : ∃ G1, G1 = upd g o (.lst [.ref a.f, .ref a.c, .ref a.fs, .int ((s.steps + 1 : Nat) : Int), pwV s.power]) := ⟨_, rfl⟩
      rw [← hG1] at st1 O1
      have gl : G1 l = none := none_of st1.1 n3
      have gq : G1 q0 = none := by
        rw [hG1, upd_ne (off q2 p0 (fun z => nomatch z))]
        exact none_of hg n1
      have nql : q0 ≠ l := fun z => by rw [← z, q2] at n3; cases n3
      have st2 := st1.new n3 e3 r3
      have st3 := st2.add n1 (e3 _ _ q2)
      have O2 := O1.same ((Sm.Same.new (o := .lst []) gl).trans (Sm.Same.new (o := .dK (nmE iE (now s))) (p := q0) (by rw [upd_ne nql]; exact gq)))
      have B2 : OwnB (upd (upd G1 l (.lst [])) q0 (.dK (nmE iE (now s)))) o { a with f := q0, c := l, cs := [] } { s with steps := s.steps + 1, firm := now s, chg := [] } :=
        ⟨upd_same, by show upd _ q0 _ l = _; rw [upd_ne nql.symm]; exact upd_same, ⟨rfl, fun i c h => by cases h⟩, O2.fls, fun i t m h => ⟨(O2.file i t m h).1, (O2.file i t m h).2.1, fun z => by
          have h1 := (O1.file i t m h).1
          have z : a.la i = l := z
          rw [z, gl] at h1; cases h1⟩, O2.inj, (fun z => by
          have z : q0 = a.fs := z
          have h1 := O1.fls
          rw [← z, gq] at h1; cases h1), (fun z => by
          have z : o = l := z
          have h1 := O1.self
          rw [z, gl] at h1; cases h1)⟩
      have p5' : H5 o = some (.lst [.ref q0, .ref a.c, .ref a.fs, .int ((s.steps + 1 : Nat) : Int), pwV s.power]) := by rw [hpv]; exact p5
      have p6' : H6 o = some (.lst [.ref q0, .ref l, .ref a.fs, .int ((s.steps + 1 : Nat) : Int), pwV s.power]) := by rw [hpv]; exact p6
      have st4 := (st3.more e4).mut (a := o) (by rw [O2.self]; exact fun z => nomatch z) s5 p5'
      have st5 := st4.mut (a := o) (by rw [upd_same]; exact fun z => nomatch z) s6 p6'
      have O3 := (B2.self_upd (u := .lst [.ref q0, .ref a.c, .ref a.fs, .int ((s.steps + 1 : Nat) : Int), pwV s.power]) O2.self).put upd_same
      have hq : ∀ (q : Addr) (g' H' : Hp), Sm.Step g H g' H' → OwnAt g' o { s with steps := s.steps + 1, firm := now s, chg := [] } → H' q = some (HO.tup toldT) → Q (V.ref q) H' := hq
      exact hq q7 _ H7 (st5.more e7) ⟨_, O3⟩ r7
    | some p =>
      have hpv : pwV s.power = .int p := by rw [hp]; rfl
      rw [hpv] at h0
      by_cases hle : p ≤ (s.steps : Int)
      · have hs1 := step1_ge hp hle
        rw [hs1] at hq
        repeat' wtm_at "st"
        refine ⟨o, a.cs.length, g, s, b, rfl, ⟨a, hO⟩, hg, hw, Nat.le_trans hb (by decide), Nat.le_of_eq hO.each.1, fun q0 H1 n1 e1 q1 => ?_⟩
        rw [hO.each.1, List.take_length] at q1
        have q1 : H1 q0 = some (.dK (nmE iE (now s))) := q1
        repeat' wtm_at "st"
        all_goals exact hq _ _ (by wtm_at "sm") (by assumption)
      · have hs1 := step1_lt hp hle
        rw [hs1] at hq
        repeat' wtm_at "st"
        refine ⟨o, a.cs.length, g, s, b, rfl, ⟨a, hO⟩, hg, hw, Nat.le_trans hb (by decide), Nat.le_of_eq hO.each.1, fun q0 H1 n1 e1 q1 => ?_⟩
        rw [hO.each.1, List.take_length] at q1
        have q1 : H1 q0 = some (.dK (nmE iE (now s))) := q1
        repeat' wtm_at "st"
        rename_i w0 Hx w1 w2 w3 H2 s0 p0 l H3 n3 e3 r3 tp H4 n4 e4 r4 H5 s5 p5 H6 s6 p6 q7 H7 n7 e7 r7
        have p0 : H2 o = some (.lst [.ref a.f, .ref a.c, .ref a.fs, .int ((s.steps + 1 : Nat) : Int), pwV s.power]) := by rw [hpv]; exact p0
        have q1x : Hx q0 = some (.dK (nmE iE (now s))) := obj_at q1 (by wtm_at "sm")
        have eHx : Same H Hx := by wtm_at "sm"
        have st1 := (Sm.Step.same hg eHx).mut (a := o) (by rw [hO.self]; exact fun z => nomatch z) s0 p0
        have O1 : OwnH (upd g o (.lst [.ref a.f, .ref a.c, .ref a.fs, .int ((s.steps + 1 : Nat) : Int), pwV s.power])) o a { s with steps := s.steps + 1 } := (hO.toOwnB.st (s' := { s with steps := s.steps + 1 }) rfl rfl rfl).put hO.self
        have q2 : H2 q0 = some (.dK (nmE iE (now s))) := s0 _ _ ((Sm.dl_ne (off q1x (eHx _ _ h0) (fun z => nomatch z))).trans q1x)
        have k3 := st1.1 _ _ O1.fls
        have k2 := st1.1 _ _ O1.chgs
        obtain ⟨G1, hG1⟩ : ∃ G1, G1 = upd g o (.lst [.ref a.f, .ref a.c, .ref a.fs, .int ((s.steps + 1 : Nat) : Int), pwV s.power]) := ⟨_, rfl⟩
        rw [← hG1] at st1 O1
        have gl : G1 l = none := none_of st1.1 n3
        have gq : G1 q0 = none := by
          rw [hG1, upd_ne (off q2 p0 (fun z => nomatch z))]
          exact none_of hg n1
        have nql : q0 ≠ l := fun z => by rw [← z, q2] at n3; cases n3
        have st2 := st1.new n3 e3 r3
        have st3 := st2.add n1 (e3 _ _ q2)
        have O2 := O1.same ((Sm.Same.new (o := .lst []) gl).trans (Sm.Same.new (o := .dK (nmE iE (now s))) (p := q0) (by rw [upd_ne nql]; exact gq)))
        have B2 : OwnB (upd (upd G1 l (.lst [])) q0 (.dK (nmE iE (now s)))) o { a with f := q0, c := l, cs := [] } { s with steps := s.steps + 1, firm := now s, chg := [] } :=
          ⟨upd_same, by show upd _ q0 _ l = _; rw [upd_ne nql.symm]; exact upd_same, ⟨rfl, fun i c h => by cases h⟩, O2.fls, fun i t m h => ⟨(O2.file i t m h).1, (O2.file i t m h).2.1, fun z => by
            have h1 := (O1.file i t m h).1
            have z : a.la i = l := z
            rw [z, gl] at h1; cases h1⟩, O2.inj, (fun z => by
            have z : q0 = a.fs := z
            have h1 := O1.fls
            rw [← z, gq] at h1; cases h1), (fun z => by
            have z : o = l := z
            have h1 := O1.self
            rw [z, gl] at h1; cases h1)⟩
        have p5' : H5 o = some (.lst [.ref q0, .ref a.c, .ref a.fs, .int ((s.steps + 1 : Nat) : Int), pwV s.power]) := by rw [hpv]; exact p5
        have p6' : H6 o = some (.lst [.ref q0, .ref l, .ref a.fs, .int ((s.steps + 1 : Nat) : Int), pwV s.power]) := by rw [hpv]; exact p6
        have st4 := (st3.more e4).mut (a := o) (by rw [O2.self]; exact fun z => nomatch z) s5 p5'
        have st5 := st4.mut (a := o) (by rw [upd_same]; exact fun z => nomatch z) s6 p6'
        have O3 := (B2.self_upd (u := .lst [.ref q0, .ref a.c, .ref a.fs, .int ((s.steps + 1 : Nat) : Int), pwV s.power]) O2.self).put upd_same
        have hq : ∀ (q : Addr) (g' H' : Hp), Sm.Step g H g' H' → OwnAt g' o { s with steps := s.steps + 1, firm := now s, chg := [] } → H' q = some (HO.tup toldT) → Q (V.ref q) H' := hq
        exact hq q7 _ H7 (st5.more e7) ⟨_, O3⟩ r7
  | app n t =>
    have hq : match doApp s n t with
      | Except.ok s' => ∀ (q : Addr) (g' H' : Hp), Sm.Step g H g' H' → OwnAt g' o s' → H' q = some (HO.tup toldT) → Q (V.ref q) H'
      | Except.error e => ∀ (q : Addr) (H' : Hp), Same H H' → H' q = some (HO.tup (erT e)) → Q (V.ref q) H' := hq
    unfold doApp at hq
    obtain ⟨hnn, htt, hpt, hzz⟩ := hdd
    cases n with
    | inl j =>
      have hk : nameK (.inl j) = false := rfl
      have hd : SqT K H d [.str "append", kV (.inl j), kV t] := hd
      rw [if_pos hk] at hq
      repeat' wtm_at "st"
      refine ⟨o, a.cs.length, g, s, b, rfl, ⟨a, hO⟩, hg, hw, Nat.le_trans hb (by decide), Nat.le_of_eq hO.each.1, fun q0 H1 n1 e1 q1 => ?_⟩
      rw [hO.each.1, List.take_length] at q1
      have q1 : H1 q0 = some (.dK (nmE iE (now s))) := q1
      repeat' wtm_at "st"
      all_goals exact hq _ _ (by wtm_at "sm") (by assumption)
    | inr z =>
      have hd : SqT K H d [.str "append", .str z, kV t] := hd
      cases hk : nameK (.inr z) with
      | false =>
        rw [if_pos hk] at hq
        repeat' wtm_at "st"
        refine ⟨o, a.cs.length, g, s, b, rfl, ⟨a, hO⟩, hg, hw, Nat.le_trans hb (by decide), Nat.le_of_eq hO.each.1, fun q0 H1 n1 e1 q1 => ?_⟩
        rw [hO.each.1, List.take_length] at q1
        have q1 : H1 q0 = some (.dK (nmE iE (now s))) := q1
        repeat' wtm_at "st"
        all_goals exact hq _ _ (by wtm_at "sm") (by assumption)
      | true =>
        have hk2 : ¬ nameK (.inr z) = false := by rw [hk]; exact fun q => nomatch q
        have hkz : nameS z = true := hk
        rw [if_neg hk2] at hq
        cases t with
        | inl j =>
          have hd : SqT K H d [.str "append", .str z, .int j] := hd
          rw [if_pos (show textK (.inl j) = false from rfl)] at hq
          repeat' wtm_at "st"
          refine ⟨o, a.cs.length, g, s, b, rfl, ⟨a, hO⟩, hg, hw, Nat.le_trans hb (by decide), Nat.le_of_eq hO.each.1, fun q0 H1 n1 e1 q1 => ?_⟩
          rw [hO.each.1, List.take_length] at q1
          have q1 : H1 q0 = some (.dK (nmE iE (now s))) := q1
          repeat' wtm_at "st"
          all_goals exact hq _ _ (by wtm_at "sm") (by assumption)
        | inr y =>
          have hd : SqT K H d [.str "append", .str z, .str y] := hd
          have hy : y.length ≤ 4 := (htt y rfl).1
          have hp2 : ¬ textK (.inr y) = false := by
            show ¬ prn y = false
            rw [hpt y rfl]; exact fun q => nomatch q
          rw [if_neg hp2] at hq
          dsimp only at hq
          have hz0 : (Str.ofString "").length = 0 := by decide
          cases g0 : getN (now s) z with
          | none =>
            have hv : (valV (nmE iE (now s)) (.inr z)).isSome = false := by rw [valV_nm, g0]; rfl
            by_cases h8 : 8 ≤ (now s).length
            · have h8' : (((nmE iE (now s)).length : Nat) : Int) = 8 := by rw [nm_len]; have := hw.now8; omega
              rw [if_pos ⟨g0, h8⟩] at hq
              repeat' wtm_at "st"
              refine ⟨o, a.cs.length, g, s, b, rfl, ⟨a, hO⟩, hg, hw, Nat.le_trans hb (by decide), Nat.le_of_eq hO.each.1, fun q0 H1 n1 e1 q1 => ?_⟩
              rw [hO.each.1, List.take_length] at q1
              have q1 : H1 q0 = some (.dK (nmE iE (now s))) := q1
              repeat' wtm_at "st"
              all_goals exact hq _ _ (by wtm_at "sm") (by assumption)
            · have h8' : ¬ (((nmE iE (now s)).length : Nat) : Int) = 8 := by rw [nm_len]; omega
              rw [if_neg (fun q => h8 q.2)] at hq
              cases hp : s.power with
              | none =>
                have hpv : pwV s.power = .non := by rw [hp]; rfl
                rw [hpv] at h0
                have hs1 := step1_none hp
                rw [hs1] at hq
                repeat' wtm_at "st"
                refine ⟨o, a.cs.length, g, s, b, rfl, ⟨a, hO⟩, hg, hw, Nat.le_trans hb (by decide), Nat.le_of_eq hO.each.1, fun q0 H1 n1 e1 q1 => ?_⟩
                rw [hO.each.1, List.take_length] at q1
                have q1 : H1 q0 = some (.dK (nmE iE (now s))) := q1
                repeat' wtm_at "st"
                rename_i w0 Hx w1 w2 w3 H2 s0 p0
                have p0 : H2 o = some (.lst [.ref a.f, .ref a.c, .ref a.fs, .int ((s.steps + 1 : Nat) : Int), pwV s.power]) := by rw [hpv]; exact p0
                have q1x : Hx q0 = some (.dK (nmE iE (now s))) := obj_at q1 (by wtm_at "sm")
                have eHx : Same H Hx := by wtm_at "sm"
                have st1 := (Sm.Step.same hg eHx).mut (a := o) (by rw [hO.self]; exact fun z => nomatch z) s0 p0
                have O1 : OwnH (upd g o (.lst [.ref a.f, .ref a.c, .ref a.fs, .int ((s.steps + 1 : Nat) : Int), pwV s.power])) o a { s with steps := s.steps + 1 } := (hO.toOwnB.st (s' := { s with steps := s.steps + 1 }) rfl rfl rfl).put hO.self
                have q2 : H2 q0 = some (.dK (nmE iE (now s))) := s0 _ _ ((Sm.dl_ne (off q1x (eHx _ _ h0) (fun z => nomatch z))).trans q1x)
                have k3 := st1.1 _ _ O1.fls
                have k2 := st1.1 _ _ O1.chgs
                repeat' wtm_at "st"
                rename_i p H3 n3 e3 r3 H4 s4 p4
                rw [flE_len, flE_put] at p4
                have gp := none_of st1.1 n3
                have O2 := O1.file_new (p := p) (t := Str.ofString "") (m := 0) (Sm.Same.new (o := .lst [.str "", .int ((0 : Nat) : Int)]) gp) gp upd_same
                have st2 := (st1.new n3 e3 r3).mut (a := a.fs) (nn (Sm.Same.new (o := .lst [.str "", .int ((0 : Nat) : Int)]) gp _ _ O1.fls)) s4 p4
                have self4 := st2.1 _ _ O2.self
                have c4 := st2.1 _ _ O2.chgs
                have fs4 := st2.1 _ _ O2.fls
                repeat' wtm_at "st"
                rename_i c H5 n5 e5 r5 H6 s6 p6
                rw [flE_len] at r5
                have r5 : H5 c = some (.tup [.str "make", .str z, .int (s.files.length : Nat)]) := by
                  rw [r5]
                  have : (((s.files ++ [((Str.ofString "", 0) : Str × Nat)]).length : Nat) : Int) - 1 = ((s.files.length : Nat) : Int) := by rw [List.length_append, List.length_singleton]; omega
                  show some (HO.tup [.str "make", .str z, .int ((((s.files ++ [((Str.ofString "", 0) : Str × Nat)]).length : Nat) : Int) - 1)]) = _
                  rw [this]
                have O3 := (O2.same (Sm.Same.new (o := .tup [.str "make", .str z, .int (s.files.length : Nat)]) (none_of st2.1 n5))).chg_put (v := .ref c) (c := .mk z s.files.length) ⟨c, rfl, upd_same⟩
                have st3 := (st2.new n5 e5 r5).mut (a := a.c) (nn (Sm.Same.new (o := .tup [.str "make", .str z, .int (s.files.length : Nat)]) (none_of st2.1 n5) _ _ O2.chgs)) s6 p6
                have self6 := st3.1 _ _ O3.self
                have c6 := st3.1 _ _ O3.chgs
                have fs6 := st3.1 _ _ O3.fls
                have hfn : (s.files ++ [((Str.ofString "", 0) : Str × Nat)])[s.files.length]? = some (Str.ofString "", 0) := by
                  rw [List.getElem?_append_right (Nat.le_refl _), Nat.sub_self]; rfl
                have w3' := wf_mk hw g0 (Nat.lt_of_not_le h8) ⟨hkz, fun q => hzz (by rw [q])⟩
                have row6 := st3.1 _ _ (O3.file s.files.length _ _ hfn).1
                have row6 : H6 p = some (.lst [.str (Str.ofString ""), .int ((0 : Nat) : Int)]) := by
                  rw [← row6]
                  exact congrArg H6 (la_new (a := a) (n := s.files.length)).symm
                repeat' wtm_at "st"
                refine ⟨o, (a.cs ++ [V.ref c]).length, _, _, b + 1, rfl, ⟨_, O3⟩, st3.1, w3', (by omega), Nat.le_of_eq O3.each.1, fun q8 H8 n8 e8 r8 => ?_⟩
                have r8 : H8 q8 = some (.dK (nmE iE (putN (now s) z s.files.length))) := by
                  rw [r8, show (a.cs ++ [V.ref c]).length = (s.chg ++ [Chg.mk z s.files.length]).length from O3.each.1]
                  show some (HO.dK (nmE iE (replay s.firm ((s.chg ++ [Chg.mk z s.files.length]).take (s.chg ++ [Chg.mk z s.files.length]).length)))) = _
                  rw [List.take_length, replay_snoc]
                  rfl
                have hvv : valV (nmE iE (putN (now s) z s.files.length)) (.inr z) = some (.int (s.files.length : Nat)) := by
                  rw [valV_nm, getN_put]; rfl
                have hfv : valV (flE (a.more s.files.length p).la (s.files ++ [((Str.ofString "", 0) : Str × Nat)]).length) (.inl (s.files.length : Nat)) = some (.ref p) := by
                  rw [flE_val, if_pos (by simp), la_new]
                have fs6 : H6 a.fs = some (.dK (flE (a.more s.files.length p).la (s.files ++ [((Str.ofString "", 0) : Str × Nat)]).length)) := fs6
                repeat' wtm_at "st"
                rename_i H9 s9 p9 q10 H10 n10 e10 r10
                have st4 := (st3.more e8).mut (a := (a.more s.files.length p).la s.files.length) (nn (O3.file s.files.length _ _ hfn).1) (by rw [la_new]; exact s9) (by rw [la_new]; exact p9)
                have O4 := O3.file_put (t' := Str.ofString "" ++ y) (m' := 0) hfn
                have eq : putText { s with steps := s.steps + 1 } z y = { s with steps := s.steps + 1, chg := s.chg ++ [.mk z s.files.length], files := (s.files ++ [(Str.ofString "", 0)]).set s.files.length (Str.ofString "" ++ y, 0) } := by
                  have g' : getN (now { s with steps := s.steps + 1 }) z = none := g0
                  unfold putText
                  rw [g', List.set_append_right _ _ (Nat.le_refl _), Nat.sub_self]
                  rfl
                have hq : ∀ (q : Addr) (g' H' : Hp), Sm.Step g H g' H' → OwnAt g' o (putText { s with steps := s.steps + 1 } z y) → H' q = some (HO.tup toldT) → Q (V.ref q) H' := hq
                rw [eq] at hq
                exact hq q10 _ H10 (st4.more e10) ⟨_, O4⟩ r10
              | some p =>
                have hpv : pwV s.power = .int p := by rw [hp]; rfl
                rw [hpv] at h0
                by_cases hle : p ≤ (s.steps : Int)
                · have hs1 := step1_ge hp hle
                  rw [hs1] at hq
                  repeat' wtm_at "st"
                  refine ⟨o, a.cs.length, g, s, b, rfl, ⟨a, hO⟩, hg, hw, Nat.le_trans hb (by decide), Nat.le_of_eq hO.each.1, fun q0 H1 n1 e1 q1 => ?_⟩
                  rw [hO.each.1, List.take_length] at q1
                  have q1 : H1 q0 = some (.dK (nmE iE (now s))) := q1
                  repeat' wtm_at "st"
                  all_goals exact hq _ _ (by wtm_at "sm") (by assumption)
                · have hs1 := step1_lt hp hle
                  rw [hs1] at hq
                  repeat' wtm_at "st"
                  refine ⟨o, a.cs.length, g, s, b, rfl, ⟨a, hO⟩, hg, hw, Nat.le_trans hb (by decide), Nat.le_of_eq hO.each.1, fun q0 H1 n1 e1 q1 => ?_⟩
                  rw [hO.each.1, List.take_length] at q1
                  have q1 : H1 q0 = some (.dK (nmE iE (now s))) := q1
                  repeat' wtm_at "st"
                  rename_i w0 Hx w1 w2 w3 H2 s0 p0
                  have p0 : H2 o = some (.lst [.ref a.f, .ref a.c, .ref a.fs, .int ((s.steps + 1 : Nat) : Int), pwV s.power]) := by rw [hpv]; exact p0
                  have q1x : Hx q0 = some (.dK (nmE iE (now s))) := obj_at q1 (by wtm_at "sm")
                  have eHx : Same H Hx := by wtm_at "sm"
                  have st1 := (Sm.Step.same hg eHx).mut (a := o) (by rw [hO.self]; exact fun z => nomatch z) s0 p0
                  have O1 : OwnH (upd g o (.lst [.ref a.f, .ref a.c, .ref a.fs, .int ((s.steps + 1 : Nat) : Int), pwV s.power])) o a { s with steps := s.steps + 1 } := (hO.toOwnB.st (s' := { s with steps := s.steps + 1 }) rfl rfl rfl).put hO.self
                  have q2 : H2 q0 = some (.dK (nmE iE (now s))) := s0 _ _ ((Sm.dl_ne (off q1x (eHx _ _ h0) (fun z => nomatch z))).trans q1x)
                  have k3 := st1.1 _ _ O1.fls
                  have k2 := st1.1 _ _ O1.chgs
                  repeat' wtm_at "st"
                  rename_i p H3 n3 e3 r3 H4 s4 p4
                  rw [flE_len, flE_put] at p4
                  have gp := none_of st1.1 n3
                  have O2 := O1.file_new (p := p) (t := Str.ofString "") (m := 0) (Sm.Same.new (o := .lst [.str "", .int ((0 : Nat) : Int)]) gp) gp upd_same
                  have st2 := (st1.new n3 e3 r3).mut (a := a.fs) (nn (Sm.Same.new (o := .lst [.str "", .int ((0 : Nat) : Int)]) gp _ _ O1.fls)) s4 p4
                  have self4 := st2.1 _ _ O2.self
                  have c4 := st2.1 _ _ O2.chgs
                  have fs4 := st2.1 _ _ O2.fls
                  repeat' wtm_at "st"
                  rename_i c H5 n5 e5 r5 H6 s6 p6
                  rw [flE_len] at r5
                  have r5 : H5 c = some (.tup [.str "make", .str z, .int (s.files.length : Nat)]) := by
                    rw [r5]
                    have : (((s.files ++ [((Str.ofString "", 0) : Str × Nat)]).length : Nat) : Int) - 1 = ((s.files.length : Nat) : Int) := by rw [List.length_append, List.length_singleton]; omega
                    show some (HO.tup [.str "make", .str z, .int ((((s.files ++ [((Str.ofString "", 0) : Str × Nat)]).length : Nat) : Int) - 1)]) = _
                    rw [this]
                  have O3 := (O2.same (Sm.Same.new (o := .tup [.str "make", .str z, .int (s.files.length : Nat)]) (none_of st2.1 n5))).chg_put (v := .ref c) (c := .mk z s.files.length) ⟨c, rfl, upd_same⟩
                  have st3 := (st2.new n5 e5 r5).mut (a := a.c) (nn (Sm.Same.new (o := .tup [.str "make", .str z, .int (s.files.length : Nat)]) (none_of st2.1 n5) _ _ O2.chgs)) s6 p6
                  have self6 := st3.1 _ _ O3.self
                  have c6 := st3.1 _ _ O3.chgs
                  have fs6 := st3.1 _ _ O3.fls
                  have hfn : (s.files ++ [((Str.ofString "", 0) : Str × Nat)])[s.files.length]? = some (Str.ofString "", 0) := by
                    rw [List.getElem?_append_right (Nat.le_refl _), Nat.sub_self]; rfl
                  have w3' := wf_mk hw g0 (Nat.lt_of_not_le h8) ⟨hkz, fun q => hzz (by rw [q])⟩
                  have row6 := st3.1 _ _ (O3.file s.files.length _ _ hfn).1
                  have row6 : H6 p = some (.lst [.str (Str.ofString ""), .int ((0 : Nat) : Int)]) := by
                    rw [← row6]
                    exact congrArg H6 (la_new (a := a) (n := s.files.length)).symm
                  repeat' wtm_at "st"
                  refine ⟨o, (a.cs ++ [V.ref c]).length, _, _, b + 1, rfl, ⟨_, O3⟩, st3.1, w3', (by omega), Nat.le_of_eq O3.each.1, fun q8 H8 n8 e8 r8 => ?_⟩
                  have r8 : H8 q8 = some (.dK (nmE iE (putN (now s) z s.files.length))) := by
                    rw [r8, show (a.cs ++ [V.ref c]).length = (s.chg ++ [Chg.mk z s.files.length]).length from O3.each.1]
                    show some (HO.dK (nmE iE (replay s.firm ((s.chg ++ [Chg.mk z s.files.length]).take (s.chg ++ [Chg.mk z s.files.length]).length)))) = _
                    rw [List.take_length, replay_snoc]
                    rfl
                  have hvv : valV (nmE iE (putN (now s) z s.files.length)) (.inr z) = some (.int (s.files.length : Nat)) := by
                    rw [valV_nm, getN_put]; rfl
                  have hfv : valV (flE (a.more s.files.length p).la (s.files ++ [((Str.ofString "", 0) : Str × Nat)]).length) (.inl (s.files.length : Nat)) = some (.ref p) := by
                    rw [flE_val, if_pos (by simp), la_new]
                  have fs6 : H6 a.fs = some (.dK (flE (a.more s.files.length p).la (s.files ++ [((Str.ofString "", 0) : Str × Nat)]).length)) := fs6
                  repeat' wtm_at "st"
                  rename_i H9 s9 p9 q10 H10 n10 e10 r10
                  have st4 := (st3.more e8).mut (a := (a.more s.files.length p).la s.files.length) (nn (O3.file s.files.length _ _ hfn).1) (by rw [la_new]; exact s9) (by rw [la_new]; exact p9)
                  have O4 := O3.file_put (t' := Str.ofString "" ++ y) (m' := 0) hfn
                  have eq : putText { s with steps := s.steps + 1 } z y = { s with steps := s.steps + 1, chg := s.chg ++ [.mk z s.files.length], files := (s.files ++ [(Str.ofString "", 0)]).set s.files.length (Str.ofString "" ++ y, 0) } := by
                    have g' : getN (now { s with steps := s.steps + 1 }) z = none := g0
                    unfold putText
                    rw [g', List.set_append_right _ _ (Nat.le_refl _), Nat.sub_self]
                    rfl
                  have hq : ∀ (q : Addr) (g' H' : Hp), Sm.Step g H g' H' → OwnAt g' o (putText { s with steps := s.steps + 1 } z y) → H' q = some (HO.tup toldT) → Q (V.ref q) H' := hq
                  rw [eq] at hq
                  exact hq q10 _ H10 (st4.more e10) ⟨_, O4⟩ r10
          | some i =>
            have gn : ¬ (getN (now s) z = none ∧ 8 ≤ (now s).length) := fun q => by rw [g0] at q; cases q.1
            have hvv : valV (nmE iE (now s)) (.inr z) = some (.int (i : Nat)) := by rw [valV_nm, g0]; rfl
            have hv : (valV (nmE iE (now s)) (.inr z)).isSome = true := by rw [hvv]; rfl
            have hil := hw.idAt g0
            obtain ⟨t1, m1, f1, f2, hl1⟩ := fileOf hw hil
            have hfv : valV (flE a.la s.files.length) (.inl (i : Nat)) = some (.ref (a.la i)) := by rw [flE_val, if_pos hil]
            have htl : t1.length ≤ sizeLine := Sm.len_le (by omega)
            rw [if_neg gn] at hq
            cases hp : s.power with
            | none =>
              have hpv : pwV s.power = .non := by rw [hp]; rfl
              rw [hpv] at h0
              have hs1 := step1_none hp
              rw [hs1] at hq
              repeat' wtm_at "st"
              refine ⟨o, a.cs.length, g, s, b, rfl, ⟨a, hO⟩, hg, hw, Nat.le_trans hb (by decide), Nat.le_of_eq hO.each.1, fun q0 H1 n1 e1 q1 => ?_⟩
              rw [hO.each.1, List.take_length] at q1
              have q1 : H1 q0 = some (.dK (nmE iE (now s))) := q1
              repeat' wtm_at "st"
              rename_i w0 Hx w1 w2 w3 H2 s0 p0
              have p0 : H2 o = some (.lst [.ref a.f, .ref a.c, .ref a.fs, .int ((s.steps + 1 : Nat) : Int), pwV s.power]) := by rw [hpv]; exact p0
              have q1x : Hx q0 = some (.dK (nmE iE (now s))) := obj_at q1 (by wtm_at "sm")
              have eHx : Same H Hx := by wtm_at "sm"
              have st1 := (Sm.Step.same hg eHx).mut (a := o) (by rw [hO.self]; exact fun z => nomatch z) s0 p0
              have O1 : OwnH (upd g o (.lst [.ref a.f, .ref a.c, .ref a.fs, .int ((s.steps + 1 : Nat) : Int), pwV s.power])) o a { s with steps := s.steps + 1 } := (hO.toOwnB.st (s' := { s with steps := s.steps + 1 }) rfl rfl rfl).put hO.self
              have q2 : H2 q0 = some (.dK (nmE iE (now s))) := s0 _ _ ((Sm.dl_ne (off q1x (eHx _ _ h0) (fun z => nomatch z))).trans q1x)
              have k3 := st1.1 _ _ O1.fls
              have k2 := st1.1 _ _ O1.chgs
              have k4 := st1.1 _ _ (O1.file i t1 m1 f1).1
              repeat' wtm_at "st"
              refine ⟨o, a.cs.length, _, { s with steps := s.steps + 1 }, b + 1, rfl, ⟨a, O1⟩, st1.1, wf_step hw, (by omega), Nat.le_of_eq O1.each.1, fun q8 H8 n8 e8 r8 => ?_⟩
              rw [O1.each.1, List.take_length] at r8
              have r8 : H8 q8 = some (.dK (nmE iE (now s))) := r8
              repeat' wtm_at "st"
              rename_i H9 s9 p9 q10 H10 n10 e10 r10
              have st4 := (st1.more e8).mut (a := a.la i) (by rw [(O1.file i t1 m1 f1).1]; exact fun z => nomatch z) s9 p9
              have O4 := O1.file_put (t' := t1 ++ y) (m' := m1) f1
              have eq : putText { s with steps := s.steps + 1 } z y = { s with steps := s.steps + 1, files := s.files.set i (t1 ++ y, m1) } := by
                have g' : getN (now { s with steps := s.steps + 1 }) z = some i := g0
                unfold putText
                simp only [g', f2]
              have hq : ∀ (q : Addr) (g' H' : Hp), Sm.Step g H g' H' → OwnAt g' o (putText { s with steps := s.steps + 1 } z y) → H' q = some (HO.tup toldT) → Q (V.ref q) H' := hq
              rw [eq] at hq
              exact hq q10 _ H10 (st4.more e10) ⟨a, O4⟩ r10
            | some p =>
              have hpv : pwV s.power = .int p := by rw [hp]; rfl
              rw [hpv] at h0
              by_cases hle : p ≤ (s.steps : Int)
              · have hs1 := step1_ge hp hle
                rw [hs1] at hq
                repeat' wtm_at "st"
                refine ⟨o, a.cs.length, g, s, b, rfl, ⟨a, hO⟩, hg, hw, Nat.le_trans hb (by decide), Nat.le_of_eq hO.each.1, fun q0 H1 n1 e1 q1 => ?_⟩
                rw [hO.each.1, List.take_length] at q1
                have q1 : H1 q0 = some (.dK (nmE iE (now s))) := q1
                repeat' wtm_at "st"
                all_goals exact hq _ _ (by wtm_at "sm") (by assumption)
              · have hs1 := step1_lt hp hle
                rw [hs1] at hq
                repeat' wtm_at "st"
                refine ⟨o, a.cs.length, g, s, b, rfl, ⟨a, hO⟩, hg, hw, Nat.le_trans hb (by decide), Nat.le_of_eq hO.each.1, fun q0 H1 n1 e1 q1 => ?_⟩
                rw [hO.each.1, List.take_length] at q1
                have q1 : H1 q0 = some (.dK (nmE iE (now s))) := q1
                repeat' wtm_at "st"
                rename_i w0 Hx w1 w2 w3 H2 s0 p0
                have p0 : H2 o = some (.lst [.ref a.f, .ref a.c, .ref a.fs, .int ((s.steps + 1 : Nat) : Int), pwV s.power]) := by rw [hpv]; exact p0
                have q1x : Hx q0 = some (.dK (nmE iE (now s))) := obj_at q1 (by wtm_at "sm")
                have eHx : Same H Hx := by wtm_at "sm"
                have st1 := (Sm.Step.same hg eHx).mut (a := o) (by rw [hO.self]; exact fun z => nomatch z) s0 p0
                have O1 : OwnH (upd g o (.lst [.ref a.f, .ref a.c, .ref a.fs, .int ((s.steps + 1 : Nat) : Int), pwV s.power])) o a { s with steps := s.steps + 1 } := (hO.toOwnB.st (s' := { s with steps := s.steps + 1 }) rfl rfl rfl).put hO.self
                have q2 : H2 q0 = some (.dK (nmE iE (now s))) := s0 _ _ ((Sm.dl_ne (off q1x (eHx _ _ h0) (fun z => nomatch z))).trans q1x)
                have k3 := st1.1 _ _ O1.fls
                have k2 := st1.1 _ _ O1.chgs
                have k4 := st1.1 _ _ (O1.file i t1 m1 f1).1
                repeat' wtm_at "st"
                refine ⟨o, a.cs.length, _, { s with steps := s.steps + 1 }, b + 1, rfl, ⟨a, O1⟩, st1.1, wf_step hw, (by omega), Nat.le_of_eq O1.each.1, fun q8 H8 n8 e8 r8 => ?_⟩
                rw [O1.each.1, List.take_length] at r8
                have r8 : H8 q8 = some (.dK (nmE iE (now s))) := r8
                repeat' wtm_at "st"
                rename_i H9 s9 p9 q10 H10 n10 e10 r10
                have st4 := (st1.more e8).mut (a := a.la i) (by rw [(O1.file i t1 m1 f1).1]; exact fun z => nomatch z) s9 p9
                have O4 := O1.file_put (t' := t1 ++ y) (m' := m1) f1
                have eq : putText { s with steps := s.steps + 1 } z y = { s with steps := s.steps + 1, files := s.files.set i (t1 ++ y, m1) } := by
                  have g' : getN (now { s with steps := s.steps + 1 }) z = some i := g0
                  unfold putText
                  simp only [g', f2]
                have hq : ∀ (q : Addr) (g' H' : Hp), Sm.Step g H g' H' → OwnAt g' o (putText { s with steps := s.steps + 1 } z y) → H' q = some (HO.tup toldT) → Q (V.ref q) H' := hq
                rw [eq] at hq
                exact hq q10 _ H10 (st4.more e10) ⟨a, O4⟩ r10
end
section
variable {P : Program} {w : World} {K : PySem.W.Frag} {mg : Str → Option Value} {base : Heap} {f : Addr} {fd : FuncData}
theorem ok__law_done (T : Txt P K mg) (F : FD K "_law_done" s__law_done (He.fAd K ("_law_done", none)) fd)  (TB : LamX.TabB base mg (He.cT K ("_law_done", none)).1 (He.cT K ("_law_done", none)).2) (hTn : ((TT K).map (·.1)).Nodup) (Cat : Sm.Catch P w K mg base "_law_word_of" "_law_call" N__law_word_of (defArgs s__law_word_of) (defBody s__law_word_of) (defScope s__law_word_of) (TMet K)) (G_Disk_append : Sm.Me P w K mg base 3 (He.ga K "Disk") "append" P_Disk_append (sp_Disk_append K)) (G_Disk_sync : Sm.Me P w K mg base 3 (He.ga K "Disk") "sync" P_Disk_sync (sp_Disk_sync K)) (G_Disk_remove : Sm.Me P w K mg base 3 (He.ga K "Disk") "remove" P_Disk_remove (sp_Disk_remove K)) (G_Disk_sync_names : Sm.Me P w K mg base 2 (He.ga K "Disk") "sync_names" P_Disk_sync_names (sp_Disk_sync_names K)) (G_Disk_rename : Sm.Me P w K mg base 3 (He.ga K "Disk") "rename" P_Disk_rename (sp_Disk_rename K))  : Sm.FnG P w K mg base 6 (He.fAd K ("_law_done", none)) fd P__law_done (sp__law_done K) := by
  refine Sm.FnG.mk1 F sc__law_done (fun vs H Q E h => ?_) (fun A outer s H vs Q E gd hr h => ?_)
  · obtain ⟨x, d, h, s, b, dd, rfl, _⟩ := h
    rfl
  obtain ⟨x, d, h, s, b, dd, rfl, hD, hh, hpu, hw, hb, hd, hdd, hT, hq⟩ := h
  refine ⟨_, (pss_cons (ps_asg (pv 1) (pg_tup rfl (pgs_cons (pg_name (i := 2) sc__law_done.nd rfl (Or.inr rfl)) (pgs_cons (pg_name (i := 3) sc__law_done.nd rfl (Or.inr rfl)) (pgs_cons (pg_name (i := 4) sc__law_done.nd rfl (Or.inr rfl)) pgs_nil)))))
      (pss_cons (ps_if (pt_cmpR (Sm.op_eqU hr) (pv 2) pe_str (nomark _)) (pss_one (ps_ret (Sm.pe_catch (k := 3) (T := TT K) Cat gd TB rfl (TTm__law_done K) (Sm.tab_uni hTn (TTm__law_done K)) hr (LamX.lamS_by (by kernel_rfl)) (by decide) (fun A outer s H E f c' hr => (Sm.pe_me T.l_Disk G_Disk_append hr (pv 0) (pa_cons (pv 3) (pa_cons (pv 4) pa_nil)) (Sm.passE rfl rfl rfl rfl)))))) pss_nil)
      (pss_cons (ps_if (pt_cmpR (Sm.op_eqU hr) (pv 2) pe_str (nomark _)) (pss_one (ps_ret (Sm.pe_catch (k := 3) (T := TT K) Cat gd TB rfl (TTm__law_done K) (Sm.tab_uni hTn (TTm__law_done K)) hr (LamX.lamS_by (by kernel_rfl)) (by decide) (fun A outer s H E f c' hr => (Sm.pe_me T.l_Disk G_Disk_sync hr (pv 0) (pa_cons (pv 3) pa_nil) (Sm.passE rfl rfl rfl rfl)))))) pss_nil)
      (pss_cons (ps_if (pt_cmpR (Sm.op_eqU hr) (pv 2) pe_str (nomark _)) (pss_one (ps_ret (Sm.pe_catch (k := 3) (T := TT K) Cat gd TB rfl (TTm__law_done K) (Sm.tab_uni hTn (TTm__law_done K)) hr (LamX.lamS_by (by kernel_rfl)) (by decide) (fun A outer s H E f c' hr => (Sm.pe_me T.l_Disk G_Disk_remove hr (pv 0) (pa_cons (pv 3) pa_nil) (Sm.passE rfl rfl rfl rfl)))))) pss_nil)
      (pss_one (ps_ret (Sm.pe_catch (k := 3) (T := TT K) Cat gd TB rfl (TTm__law_done K) (Sm.tab_uni hTn (TTm__law_done K)) hr (LamX.lamS_by (by kernel_rfl)) (by decide) (fun A outer s H E f c' hr => (pe_ifExp (pt_cmpR (Sm.op_eqK (K := K) rfl hr) (pv 2) pe_str (nomark _)) (Sm.pe_me0 T.l_Disk G_Disk_sync_names hr (pv 0) (Sm.passE rfl rfl rfl rfl)) (Sm.pe_me T.l_Disk G_Disk_rename hr (pv 0) (pa_cons (pv 3) (pa_cons (pv 4) pa_nil)) (Sm.passE rfl rfl rfl rfl))))))))))), ?_⟩
  rw [st__law_done]
  obtain ⟨a, hD0⟩ := id hD
  cases dd with
  | app n t =>
    have hd : SqT K H d [.str "append", kV n, kV t] := hd
    repeat' wtm_at "st"
    refine g_lam hT fun H1 he1 ht1 => ?_
    have hh1 := pure_exN hpu hh he1
    have hs1 := hD0.self.at hh1
    repeat' wtm_at "st"
    exact ⟨x, n, t, h, s, b, rfl, hD, hh1, hw, hb, hdd.1, hdd.2.1, done_out T hpu hh he1 ht1 hq⟩
  | syn n t =>
    have hd : SqT K H d [.str "sync", kV n, kV t] := hd
    repeat' wtm_at "st"
    refine g_lam hT fun H1 he1 ht1 => ?_
    have hh1 := pure_exN hpu hh he1
    have hs1 := hD0.self.at hh1
    repeat' wtm_at "st"
    exact ⟨x, n, h, s, b, rfl, hD, hh1, hw, hb, done_out T hpu hh he1 ht1 hq⟩
  | rem n t =>
    have hd : SqT K H d [.str "remove", kV n, kV t] := hd
    repeat' wtm_at "st"
    refine g_lam hT fun H1 he1 ht1 => ?_
    have hh1 := pure_exN hpu hh he1
    have hs1 := hD0.self.at hh1
    repeat' wtm_at "st"
    exact ⟨x, n, h, s, b, rfl, hD, hh1, hw, hb, done_out T hpu hh he1 ht1 hq⟩
  | ren n t =>
    have hd : SqT K H d [.str "rename", kV n, kV t] := hd
    repeat' wtm_at "st"
    refine g_lam hT fun H1 he1 ht1 => ?_
    have hh1 := pure_exN hpu hh he1
    have hs1 := hD0.self.at hh1
    repeat' wtm_at "st"
    exact ⟨x, n, t, h, s, b, rfl, hD, hh1, hw, hb, hdd.2.1, done_out T hpu hh he1 ht1 hq⟩
  | nms n t =>
    have hd : SqT K H d [.str "names", kV n, kV t] := hd
    repeat' wtm_at "st"
    refine g_lam hT fun H1 he1 ht1 => ?_
    have hh1 := pure_exN hpu hh he1
    have hs1 := hD0.self.at hh1
    repeat' wtm_at "st"
    exact ⟨x, h, s, b, rfl, hD, hh1, hw, hb, done_out T hpu hh he1 ht1 hq⟩
end
section
variable {P : Program} {w : World} {K : PySem.W.Frag} {mg : Str → Option Value} {base : Heap} {f : Addr} {fd : FuncData}
theorem ok__law_lost (T : Txt P K mg) (F : FD K "_law_lost" s__law_lost f fd) (G__law_names : Sm.Fn P w K mg base 1 "_law_names" P__law_names (sp__law_names K)) (G__law_new : Sm.Fn P w K mg base 1 "_law_new" P__law_new (sp__law_new K))   : FnOk P w K mg base (L2.CX P w) 2 f fd P__law_lost (sp__law_lost K) := by
  refine F.ok sc__law_lost (fun vs H Q E h => ?_) (fun cdv A outer s H vs Q E hr h => ?_)
  · obtain ⟨o, c, p, g, s, b, cs, rfl, _⟩ := h
    rfl
  obtain ⟨o, c, p, g, s, b, cs, rfl, hO, hg, hw, hb, hc, hco, hq⟩ := h
  refine ⟨_, (pss_cons (ps_set (i := 3) sc__law_lost.nd rfl (Or.inl rfl) (pe_op op_cat (pe_callTy Sm.call_listO rfl T.f_list (by decide +kernel) (pa_cons (pv 1) pa_nil)) (pe_op op_rep (pe_lst (pa_cons pe_int pa_nil)) pe_int)))
      (pss_cons (ps_par (i := 4) (j := 5) rfl sc__law_lost.nd rfl rfl (by decide) rfl rfl (pa_cons (Sm.pe_fn G__law_names hr (pa_cons (pv 0) (pa_cons (pe_op op_modN (pe_ix ix_seq (pv 3) pe_int (fun _ _ => rfl)) (pe_op Sm.op_addU (pe_callB Sm.call_lenU rfl T.f_len (by decide +kernel) (pa_cons (pe_ix ix_seq (pv 0) pe_int (fun _ _ => rfl)) pa_nil)) pe_int)) pa_nil))) (pa_cons (Sm.pe_fn G__law_new hr (pa_cons (pv 2) pa_nil)) pa_nil)) (by rfl))
      (pss_cons (ps_for (passes_of rfl) rfl (pi_enum rfl T.f_enumerate (pa_cons (pe_callB (Sm.call_sortDk rfl) rfl T.f_sorted (by decide +kernel) (pa_cons (pv 4) pa_nil)) pa_nil)) (pg_tup rfl (pgs_cons (pg_name (i := 6) sc__law_lost.nd rfl (Or.inl rfl)) (pgs_cons (pg_name (i := 7) sc__law_lost.nd rfl (Or.inl rfl)) pgs_nil))) (pss_cons (ps_asg (pe_dget (hu_of hr) (pe_ix ix_seq (pv 0) pe_int (fun _ _ => rfl)) (pe_dget (hu_of hr) (pv 4) (pv 7) (fun _ _ => rfl)) (fun _ _ => rfl)) (pg_lst rfl (pgs_cons (pg_name (i := 8) sc__law_lost.nd rfl (Or.inl rfl)) (pgs_cons (pg_name (i := 9) sc__law_lost.nd rfl (Or.inl rfl)) pgs_nil))))
      (pss_cons (ps_set (i := 8) sc__law_lost.nd rfl (Or.inl rfl) (pe_slice Sm.sl_U (pv 8) po_none (po_some (pe_op Sm.op_addU (pv 9) (pe_op op_modN (pe_ix ix_seq (pv 3) (pe_op Sm.op_addU (pv 6) pe_int) (fun _ _ => rfl)) (pe_op Sm.op_addU (pe_op op_sub (pe_callB Sm.call_lenU rfl T.f_len (by decide +kernel) (pa_cons (pv 8) pa_nil)) (pv 9)) pe_int))))))
      (pss_cons (ps_dput (hu_of hr) (pe_ix ix_seq (pv 5) pe_int (fun _ _ => rfl)) (pv 6) (pe_lst (pa_cons (pv 8) (pa_cons (pe_callB Sm.call_lenU rfl T.f_len (by decide +kernel) (pa_cons (pv 8) pa_nil)) pa_nil))) rfl)
      (pss_one (ps_dput (hu_of hr) (pe_ix ix_seq (pv 5) pe_int (fun _ _ => rfl)) (pv 7) (pv 6) rfl))))))
      (pss_one (ps_ret (pv 5)))))), ?_⟩
  rw [st__law_lost]
  obtain ⟨a, hO⟩ := hO
  have h0 := hg _ _ hO.self
  have h2 := hg _ _ hO.chgs
  have h3 := hg _ _ hO.fls
  repeat' wtm_at "st"
  refine Sm.g_lsT hc fun l H1 n1 e1 q1 => ?_
  repeat' wtm_at "st"
  rename_i l2 H2 n2 e2 q2
  refine Sm.g_rep q2 (by decide) (by decide) (by decide) fun l3 H3 n3 e3 q3 => ?_
  have lc : (chV cs).length = cs.length := List.length_map ..
  refine Sm.g_catL (e3 _ _ (e2 _ _ q1)) q3 (by rw [lc]; exact Nat.le_trans (Nat.add_le_add_right hco.1 _) (by decide)) fun L H4 n4 e4 q4 => ?_
  have hat0 := left_at cs 0 (by decide)
  have hat0 : atI (chV cs ++ (List.replicate (20 : Int).toNat [V.int 0]).flatten) 0 = some (.int ((cs.getD 0 0 : Nat) : Int)) := hat0
  have e04 : Same H H4 := ((e1.trans e2).trans e3).trans e4
  repeat' wtm_at "st"
  obtain ⟨k, hk⟩ : ∃ k, k = cs.getD 0 0 % (s.chg.length + 1) := ⟨_, rfl⟩
  have hkl : k ≤ s.chg.length := by rw [hk]; exact Nat.le_of_lt_succ (Nat.mod_lt _ (Nat.succ_pos _))
  rw [show ((cs.getD 0 0 : Nat) : Int) % ((a.cs.length : Nat) + 1) = ((k : Nat) : Int) by rw [hk, hO.each.1]; exact (Int.natCast_emod ..).symm]
  refine ⟨o, k, g, s, b, rfl, ⟨a, hO⟩, hg.trans e04, hw, Nat.le_trans hb (by decide), hkl, fun q0 H5 n5 e5 q5 => ?_⟩
  rw [hk] at q5
  have q5 : H5 q0 = some (.dK (nmE iE (atLoss s cs))) := q5
  have e05 := e04.trans e5
  repeat' wtm_at "st"
  refine ⟨p, rfl, fun o2 g2 H6 old6 e6 sub6 O2 => ?_⟩
  have e06 := e05.trans e6
  have q6 := e6 _ _ q5
  have hk8 := hw.loss8 cs
  repeat' wtm_at "st"
  refine Sm.for_open ?_
  repeat' wtm_at "st"
  refine Sm.g_sortD q6 (nm_keys _ _) (by rw [show (keysN (atLoss s cs)).length = (atLoss s cs).length from List.length_map ..]; omega) fun ys L2 H7 hS n7 e7 q7 => ?_
  repeat' wtm_at "st"
  refine ⟨L2, _, rfl, .inl (.inl q7), ?_⟩
  have q0n : g2 q0 = none := old6 q0 (nn q5)
  have Ln : g2 L = none := old6 L (nn (e5 _ _ q4))
  have L2n : g2 L2 = none := none_of sub6 n7
  have on : g2 o = none := old6 o (nn (e05 _ _ h0))
  have fsn : g2 a.fs = none := old6 a.fs (nn (e05 _ _ h3))
  have q7' := e7 _ _ q6
  have L7 := e7 _ _ (e6 _ _ (e5 _ _ q4))
  have o7 := e7 _ _ (e06 _ _ h0)
  have fs7 := e7 _ _ (e06 _ _ h3)
  obtain ⟨a2, O2⟩ := O2
  refine Sm.g_forA (walk_enum (K := K) (a := L2) (xs := ys.map V.str)) (fun j σ G => ∃ (a' : LA) (d : DSt) (g' : Hp) (o6 o7 o8 o9 : Option V), σ = [some (.ref o), some (.ref c), some (pwV p), some (.ref L), some (.ref q0), some (.ref o2), o6, o7, o8, o9] ∧ Sm.Step g2 H7 g' G ∧ OwnH g' o2 a' d ∧ (j = d.files.length ∧ d.firm.length ≤ j) ∧ lostGo s (atLoss s cs) cs j (ys.drop j) d = lostD s cs p ys ∧ d.chg = [] ∧ d.power = p ∧ d.steps = 0)
    ⟨a2, newD p, g2, none, none, none, none, rfl, Sm.Step.refl (sub6.trans e7), O2, ⟨rfl, Nat.le_refl _⟩, rfl, rfl, rfl, rfl⟩ (fun i σ G _ z => by obtain ⟨_, _, _, _, _, _, _, _, st, _⟩ := z; exact .inl (.inl (st.2 _ _ L2n q7).1)) ?_ ?_
  · rintro j v σ G G3 hj ⟨a', d, g', o6, o7', o8, o9, rfl, st, O', ⟨hjd, hfl⟩, hgo, hc0, hp0, hs0⟩ ⟨T, x, y, rfl, hTn, hG3, hx, hy⟩
    rw [List.length_map] at hj
    have hy : (ys.map V.str)[j]? = some y := hy
    have hx : some (V.int (j : Nat)) = some x := hx
    rw [List.getElem?_map, List.getElem?_eq_getElem hj] at hy
    cases hx
    cases hy
    have eT : Same G G3 := by rw [hG3]; exact Sm.Same.new hTn
    have hT3 : G3 T = some (.tup [V.int (j : Nat), V.str ys[j]]) := by rw [hG3]; exact upd_same
    obtain ⟨z, hz⟩ : ∃ z, z = ys[j] := ⟨_, rfl⟩
    rw [← hz] at hT3
    have hzk : z ∈ keysN (atLoss s cs) := hS.1.subset (by rw [hz]; exact List.getElem_mem hj)
    obtain ⟨i, hi⟩ := Option.isSome_iff_exists.mp (getN_of hzk)
    have hil := hw.lossIds cs _ (getN_mem hi)
    have hvv : valV (nmE iE (atLoss s cs)) (.inr z) = some (.int (i : Nat)) := by rw [valV_nm, hi]; rfl
    obtain ⟨t, m, hfi, hgd, htb⟩ := fileOf hw hil
    have hml : m ≤ t.length := (hw.fl _ (List.mem_of_getElem? hfi)).1
    have htl : t.length ≤ sizeLine := Sm.len_le (by omega)
    have hfv : valV (flE a.la s.files.length) (.inl (i : Nat)) = some (.ref (a.la i)) := by rw [flE_val, if_pos hil]
    have lan : H7 (a.la i) = some (.lst [.str t, .int (m : Nat)]) := e7 _ _ (e06 _ _ (hg _ _ (hO.file i t m hfi).1))
    have gO := (st.2 _ _ on o7).1
    have gFs := (st.2 _ _ fsn fs7).1
    have gQ := (st.2 _ _ q0n q7').1
    have gL := (st.2 _ _ Ln L7).1
    have gLa := (st.2 _ _ (old6 _ (nn (e05 _ _ (hg _ _ (hO.file i t m hfi).1)))) lan).1
    have hy8 : ys.length ≤ 8 := by
      have h1 := hS.1.length_eq
      have h2 : (keysN (atLoss s cs)).length = (atLoss s cs).length := List.length_map ..
      omega
    have hat : atI (chV cs ++ (List.replicate (20 : Int).toNat [V.int 0]).flatten) ((j : Nat) + 1) = some (.int ((cs.getD (j + 1) 0 : Nat) : Int)) := left_at cs (j + 1) (by omega)
    have hlt : (0 : Int) < ((t.length : Nat) : Int) - ((m : Nat) : Int) + 1 := by omega
    repeat' wtm_at "st"
    rw [size_int hml]
    obtain ⟨sz, hsz⟩ : ∃ sz, sz = sizeAt (t, m) (cs.getD (j + 1) 0) := ⟨_, rfl⟩
    obtain ⟨t', ht'⟩ : ∃ t', t' = cutS t none (some ((sizeAt (t, m) (cs.getD (j + 1) 0) : Nat) : Int)) := ⟨_, rfl⟩
    rw [← ht']
    have hlen : t'.length = sz := by rw [ht', hsz]; exact cut_len (size_le (t, m) _ hml)
    have hszl : sz ≤ t.length := by rw [hsz]; exact size_le (t, m) _ hml
    have htz : t'.length ≤ sizeLine := by rw [hlen]; exact Nat.le_trans hszl htl
    have gS := eT _ _ (st.1 _ _ O'.self)
    have gF2 := eT _ _ (st.1 _ _ O'.fls)
    have hfl2 : (flE a'.la d.files.length).length < sizeLine := by rw [flE_len, ← hjd]; exact Nat.lt_of_lt_of_le hj (Nat.le_trans hy8 (by decide))
    have hnm2 : (nmE iE d.firm).length < sizeLine := by rw [nm_len]; exact Nat.lt_of_le_of_lt (show d.firm.length ≤ 8 by omega) (by decide)
    repeat' wtm_at "st"
    rename_i p5 H8 n8 e8 q8 H9 s9 q9
    rw [hlen] at q8
    rw [hjd, flE_put] at q9
    have stT := st.more eT
    have gp := none_of stT.1 n8
    have O1 := O'.file_new (p := p5) (t := t') (m := sz) (Sm.Same.new (o := .lst [.str t', .int (sz : Nat)]) gp) gp upd_same
    have st2 := (stT.new n8 e8 q8).mut (a := a'.fs) (nn (Sm.Same.new (o := .lst [.str t', .int (sz : Nat)]) gp _ _ O'.fls)) s9 q9
    have gS9 := st2.1 _ _ O1.self
    have gF9 := st2.1 _ _ O1.firm
    repeat' wtm_at "st"
    rename_i H10 s10 q10
    have q10 : H10 a'.f = some (.dK (nmE iE (putN d.firm z j))) := by rw [← putK_nm]; exact q10
    have O3 := O1.firm_put z j hc0
    have st3 := st2.mut (a := a'.f) (nn O1.firm) s10 q10
    have hgd' : s.files.getD ((getN (atLoss s cs) z).getD 0) (Str.ofString "", 0) = (t, m) := by rw [hi]; exact hgd
    rw [List.drop_eq_getElem_cons hj, ← hz, lostGo_cons, hgd', ← ht', ← hsz] at hgo
    refine ⟨_, _, _, _, _, _, _, rfl, st3, O3, ⟨?_, ?_⟩, hgo, hc0, hp0, hs0⟩
    · show j + 1 = (d.files ++ [_]).length
      rw [List.length_append, List.length_singleton, ← hjd]
    · have := putN_len d.firm z j
      show (putN d.firm z j).length ≤ j + 1
      omega
  · rintro σ G ⟨a', d, g', o6, o7', o8, o9, rfl, st, O', ⟨hjd, hfl⟩, hgo, hc0, hp0, hs0⟩
    rw [List.drop_eq_nil_of_le (by rw [List.length_map]; exact Nat.le_refl _)] at hgo
    have hgo : d = lostD s cs p ys := hgo
    have key : ∀ b u, H b = some u → G b = some u ∧ g' b = none := fun b u e => st.2 b u (old6 b (nn (e05 _ _ e))) (e7 _ _ (e06 _ _ e))
    repeat' wtm_at "st"
    refine hq ys o2 g' G hS (fun b hb => ?_) (fun b u e => (key b u e).1) st.1 (hgo ▸ ⟨a', O'⟩)
    cases e : H b with
    | none => exact absurd e hb
    | some u => exact (key b u e).2
end
section
variable {P : Program} {w : World} {K : PySem.W.Frag} {mg : Str → Option Value} {base : Heap} {f : Addr} {fd : FuncData}
theorem ok__law_is_like (T : Txt P K mg) (F : FD K "_law_is_like" s__law_is_like f fd) (G__law_names : Sm.Fn P w K mg base 1 "_law_names" P__law_names (sp__law_names K)) (G_Disk___contains__ : Sm.Me P w K mg base 1 (He.ga K "Disk") "__contains__" P_Disk___contains__ (sp_Disk___contains__ K)) (G_Disk___str__ : Sm.Me P w K mg base 1 (He.ga K "Disk") "__str__" P_Disk___str__ (sp_Disk___str__ K)) (G_Disk_names : Sm.Prp P w K mg base 1 (He.ga K "Disk") "names" (sp_Disk_names K)) (G_Disk_steps : Sm.Prp P w K mg base 1 (He.ga K "Disk") "steps" (sp_Disk_steps K)) (G_Disk___len__ : Sm.Me P w K mg base 1 (He.ga K "Disk") "__len__" P_Disk___len__ (sp_Disk___len__ K)) (G_Disk_read : Sm.Me P w K mg base 3 (He.ga K "Disk") "read" P_Disk_read (sp_Disk_read K))  : FnOk P w K mg base (L2.CX P w) 4 f fd P__law_is_like (sp__law_is_like K) := by
  refine F.ok sc__law_is_like (fun vs H Q E h => ?_) (fun cdv A outer s H vs Q E hr h => ?_)
  · obtain ⟨x, o, h, g, s, b, rfl, _⟩ := h
    rfl
  obtain ⟨x, o, h, g, s, b, rfl, hD, hO, hh, hg, hw, hb, hq⟩ := h
  refine ⟨_, (pss_cons (ps_set (i := 2) sc__law_is_like.nd rfl (Or.inr rfl) (Sm.pe_fn G__law_names hr (pa_cons (pv 1) (pa_cons (pe_callB Sm.call_lenU rfl T.f_len (by decide +kernel) (pa_cons (pe_ix ix_seq (pv 1) pe_int (fun _ _ => rfl)) pa_nil)) pa_nil))))
      (pss_cons (ps_if (PW.pt (pw_or (pt_cmpR (Sm.op_neU hr) (Sm.pe_prp T.l_Disk G_Disk_names hr (pv 0)) (pe_callTy call_tuple_of rfl T.f_tuple (by decide +kernel) (pa_cons (pe_callB (Sm.call_sortDk rfl) rfl T.f_sorted (by decide +kernel) (pa_cons (pv 2) pa_nil)) pa_nil)) (nomark _)) (pw_or (pt_cmpR (Sm.op_neU hr) (Sm.pe_prp T.l_Disk G_Disk_steps hr (pv 0)) (pe_ix ix_seq (pv 1) pe_int (fun _ _ => rfl)) (nomark _)) (pw_or1 (pt_cmpR (Sm.op_neU hr) (pe_callB (Sm.call_lenMe G_Disk___len__ hr) rfl T.f_len (by decide +kernel) (pa_cons (pv 0) pa_nil)) (pe_callB Sm.call_lenDk rfl T.f_len (by decide +kernel) (pa_cons (pv 2) pa_nil)) (nomark _)))))) (pss_one (ps_ret pe_bl)) pss_nil)
      (pss_cons (ps_if (pt_cmpR (Sm.op_neU hr) (pe_lock (pe_lc (own := [("_law_name", 3)]) rfl sc__law_is_like.nd (pi_keys (pv 2)) (blkOk_by (own := [("_law_name", 3)]) (N := N__law_is_like) (sc := defScope s__law_is_like) (by decide +kernel)) (fun _ _ _ _ _ => (pg_name (i := 3) sc__law_is_like.nd rfl (Or.inl rfl))) (fun _ _ _ _ _ => (pts_one (pt_cmpR (Sm.op_neK (K := K) rfl hr) (Sm.pe_me T.l_Disk G_Disk_read hr (pv 0) (pa_cons (pv 3) pa_nil) passL) (pe_ix (Sm.ix_K (K := K) rfl) (pe_dget (hu_of hr) (pe_ix (Sm.ix_K (K := K) rfl) (pv 1) pe_int (fun _ _ => rfl)) (pe_dget (hu_of hr) (pv 2) (pv 3) (fun _ _ => rfl)) (fun _ _ => rfl)) pe_int (fun _ _ => rfl)) (nomark _)))) (fun _ _ _ _ _ => (pv 3)))) (pe_lst pa_nil) (nomark _)) (pss_one (ps_ret pe_bl)) pss_nil)
      (pss_cons (ps_if (PW.pt (pw_or (pt_cmpR (Sm.op_inMe G_Disk___contains__ hr) pe_str (pv 0) (by rfl)) (pw_or1 (pt_cmpR (Sm.op_neU hr) (pe_lock (pe_lc (own := [("_law_name", 3)]) rfl sc__law_is_like.nd (pi_keys (pv 2)) (blkOk_by (own := [("_law_name", 3)]) (N := N__law_is_like) (sc := defScope s__law_is_like) (by decide +kernel)) (fun _ _ _ _ _ => (pg_name (i := 3) sc__law_is_like.nd rfl (Or.inl rfl))) (fun _ _ _ _ _ => (pts_one (pt_cmpR (Sm.op_niMe G_Disk___contains__ hr) (pv 3) (pv 0) (by rfl)))) (fun _ _ _ _ _ => (pv 3)))) (pe_lst pa_nil) (nomark _))))) (pss_one (ps_ret pe_bl)) pss_nil)
      (pss_one (ps_ret (pe_cmpR (Sm.op_eqU hr) (pe_callTy (Sm.call_strMe G_Disk___str__ hr) rfl T.f_str (by decide +kernel) (pa_cons (pv 0) pa_nil)) (pe_op Sm.op_addU (pe_op Sm.op_addU (pe_op Sm.op_addU (pe_op Sm.op_addU pe_str (pe_callTy Sm.call_strU rfl T.f_str (by decide +kernel) (pa_cons (pe_callB Sm.call_lenDk rfl T.f_len (by decide +kernel) (pa_cons (pv 2) pa_nil)) pa_nil))) pe_str) (pe_callTy Sm.call_strU rfl T.f_str (by decide +kernel) (pa_cons (pe_ix ix_seq (pv 1) pe_int (fun _ _ => rfl)) pa_nil))) pe_str) (nomark _)))))))), ?_⟩
  rw [st__law_is_like]
  obtain ⟨a, hD0⟩ := id hD
  obtain ⟨a2, hO0⟩ := id hO
  have hs := hD0.self.at hh
  have h0 := hg _ _ hO0.self
  have h2 := hg _ _ hO0.chgs
  have h3 := hg _ _ hO0.fls
  have hw8 := hw.now8
  repeat' wtm_at "st"
  refine ⟨o, a2.cs.length, g, s, b, rfl, hO, hg, hw, Nat.le_trans hb (by decide), Nat.le_of_eq hO0.each.1, fun q0 H1 n1 e1 q1 => ?_⟩
  rw [hO0.each.1, List.take_length] at q1
  have q1 : H1 q0 = some (.dK (nmE iE (now s))) := q1
  repeat' wtm_at "st"
  refine ⟨x, h, s, rfl, hD, hh.trans e1, hw8, fun ys q2 H2 hS n2 e2 r2 => ?_⟩
  repeat' wtm_at "st"
  refine Sm.g_sortD (e2 _ _ q1) (nm_keys _ _) (by rw [show (keysN (now s)).length = (now s).length from List.length_map ..]; omega) fun zs L H3 hS2 n3 e3 q3 => ?_
  have hyz := hS.uniq hS2
  subst hyz
  repeat' wtm_at "st"
  refine ⟨L, _, rfl, .inl ⟨.inl (.inl q3), fun q4 n4 => ?_⟩⟩
  have e4 : Same H3 (upd H3 q4 (.tup (ys.map V.str))) := Sm.Same.new n4
  have r4 : (upd H3 q4 (.tup (ys.map V.str))) q4 = some (.tup (ys.map V.str)) := upd_same
  generalize upd H3 q4 (.tup (ys.map V.str)) = H4 at e4 r4 ⊢
  have hdp : ∀ H : Hp, DpAll K H (ys.map V.str) (ys.map PyData.str) := fun H => str_dps ys
  have hsh := names_shaped (ys := ys) fun y hy => by
    obtain ⟨p, hp, rfl⟩ := List.mem_map.mp (hS.1.subset hy)
    exact (hw.nowN p hp).1
  refine Sm.g_neD (.tup (.inl (.inl (e4 _ _ (e3 _ _ r2)))) (hdp _)) (.tup (.inl (.inl r4)) (hdp _)) hsh hsh ?_
  rw [eqv_refl_names]
  repeat' wtm_at "st"
  have e14 : Same H1 H4 := (e2.trans e3).trans e4
  refine ⟨x, h, s, rfl, hD, (hh.trans e1).trans e14, fun H5 e5 => ?_⟩
  repeat' wtm_at "st"
  refine Sm.g_lenOwn (hs.at ((e1.trans e14).trans e5)) ?_
  have hln := nm_len iE (now s)
  refine ⟨x, h, s, rfl, hD, ((hh.trans e1).trans e14).trans e5, fun H6 e6 => ⟨_, rfl, by omega, by omega, ?_⟩⟩
  repeat' wtm_at "st"
  have e16 := (e14.trans e5).trans e6
  have q6 := e16 _ _ q1
  have e06 := e1.trans e16
  have hq0 : ∀ b u, H b = some u → b ≠ q0 := fun b u e z => by rw [z, n1] at e; cases e
  refine Sm.g_lockE q6 fun od G hG hGo => ?_
  have eG : Same H G := fun b u e => by rw [hGo b (hq0 b u e)]; exact e06 b u e
  refine Sm.g_lc (walk_keys (d := q0) (o := od) (kvs := nmE iE (now s))) (fun R hR => ⟨.ref q0, rfl, q0, od, rfl, .inl ⟨_, hG, hR⟩⟩) (fun _ => []) rfl (fun H' hs => hs _ _ hG) ?_ ?_
  · rintro D i v H7 H8 hDn hi hs7 hL ⟨rfl, k, w, hkv, rfl⟩
    obtain ⟨z, j, hz, rfl, rfl, hsm⟩ := nm_at hkv
    obtain ⟨j2, hj2⟩ := Option.isSome_iff_exists.mp hsm
    have e7 := eG.trans hs7
    have hvv : valV (nmE iE (now s)) (.inr z) = some (.int (j2 : Nat)) := by rw [valV_nm, hj2]; rfl
    have hil := hw.idAt hj2
    obtain ⟨t, m, f1, f2, hl1⟩ := fileOf hw hil
    have hfv : valV (flE a2.la s.files.length) (.inl (j2 : Nat)) = some (.ref (a2.la j2)) := by rw [flE_val, if_pos hil]
    have hla := e7 _ _ (hg _ _ (hO0.file j2 t m f1).1)
    have hG7 := hs7 _ _ hG
    refine Sm.Stq.h (g := gName 3 (V.str z) [some (.ref x), some (.ref o), some (.ref q0), none] _ _) ?_
    refine ⟨rfl, ?_⟩
    repeat' wtm_at "st"
    refine ⟨x, .inr z, h, s, b, rfl, hD, hh.trans e7, hw, fun i2 hi2 H9 e9 => ?_, fun hn => ?_⟩
    · have hi2 : getN (now s) z = some i2 := hi2
      rw [hj2] at hi2
      cases hi2
      rw [f2]
      repeat' wtm_at "st"
      exact Sm.lc_keep (hs7.trans e9) (e9 _ _ hL) rfl
    · have hn : getN (now s) z = none := hn
      rw [hj2] at hn
      cases hn
  · rintro D H7 hDn hs7 hL
    refine ⟨hs7 _ _ hG, fun H8 hq8 ho8 => ?_⟩
    have hDq : D ≠ q0 := fun z => by rw [z, hG] at hDn; cases hDn
    have e68 : Same H6 H8 := fun b u e => by
      by_cases hb : b = q0
      · rw [hb, hq8, ← e, hb, q6]
      · rw [ho8 b hb]
        exact hs7 _ _ (by rw [hGo b hb]; exact e)
    have hD8 : H8 D = some (.lst []) := by rw [ho8 D hDq]; exact hL
    repeat' wtm_at "st"
    rename_i p9 H9 n9 e9 r9
    refine Sm.g_neD (.lst (.inl (.inl (e9 _ _ hD8))) .nil) (.lst (.inl (.inl r9)) .nil) rfl rfl ?_
    rw [eqv_nil, List.isEmpty_nil]
    have e09 : Same H H9 := (e06.trans e68).trans e9
    have hzz : getN (now s) (Str.ofString "zz") = none := by
      cases q : getN (now s) (Str.ofString "zz") with
      | none => rfl
      | some i => exact absurd rfl (hw.nowN _ (getN_mem q)).2
    repeat' wtm_at "st"
    refine Sm.g_inOwn (hs.at e09) ?_
    refine ⟨x, .inr (Str.ofString "zz"), h, s, rfl, hD, hh.trans e09, fun H10 e10 => ⟨_, rfl, ?_⟩⟩
    have hgz : (getK s (.inr (Str.ofString "zz"))).isSome = false := by
      show (getN (now s) (Str.ofString "zz")).isSome = false
      rw [hzz]; rfl
    rw [hgz, show (false != false) = false from rfl]
    repeat' wtm_at "st"
    refine Sm.g_lockE (e10 _ _ (e9 _ _ hq8)) fun od2 G2 hG2 hGo2 => ?_
    have eG2 : Same H G2 := fun b u e => by rw [hGo2 b (hq0 b u e)]; exact e10 _ _ (e09 b u e)
    refine Sm.g_lc (walk_keys (d := q0) (o := od2) (kvs := nmE iE (now s))) (fun R hR => ⟨.ref q0, rfl, q0, od2, rfl, .inl ⟨_, hG2, hR⟩⟩) (fun _ => []) rfl (fun H' hs => hs _ _ hG2) ?_ ?_
    · rintro D2 i v H11 H12 hDn2 hi2 hs11 hL2 ⟨rfl, k, w, hkv, rfl⟩
      obtain ⟨z, j, hz, rfl, rfl, hsm⟩ := nm_at hkv
      have e11 := eG2.trans hs11
      refine Sm.Stq.h (g := gName 3 (V.str z) [some (.ref x), some (.ref o), some (.ref q0), none] _ _) ?_
      refine ⟨rfl, ?_⟩
      repeat' wtm_at "st"
      refine Sm.g_inOwn (hs.at e11) ?_
      refine ⟨x, .inr z, h, s, rfl, hD, hh.trans e11, fun H13 e13 => ⟨_, rfl, ?_⟩⟩
      rw [show (getK s (.inr z)).isSome = true from hsm, show (true != true) = false from rfl]
      repeat' wtm_at "st"
      exact Sm.lc_keep (hs11.trans e13) (e13 _ _ hL2) rfl
    · rintro D2 H11 hDn2 hs11 hL2
      refine ⟨hs11 _ _ hG2, fun H12 hq12 ho12 => ?_⟩
      have hDq2 : D2 ≠ q0 := fun z => by rw [z, hG2] at hDn2; cases hDn2
      have e1012 : Same H10 H12 := fun b u e => by
        by_cases hb : b = q0
        · rw [hb, hq12, ← e, hb, e10 _ _ (e9 _ _ hq8)]
        · rw [ho12 b hb]
          exact hs11 _ _ (by rw [hGo2 b hb]; exact e)
      have hD12 : H12 D2 = some (.lst []) := by rw [ho12 D2 hDq2]; exact hL2
      repeat' wtm_at "st"
      rename_i p13 H13 n13 e13 r13
      refine Sm.g_neD (.lst (.inl (.inl (e13 _ _ hD12))) .nil) (.lst (.inl (.inl r13)) .nil) rfl rfl ?_
      rw [eqv_nil, List.isEmpty_nil]
      have e013 : Same H H13 := ((e09.trans e10).trans e1012).trans e13
      have q13 := e13 _ _ hq12
      have h013 := e013 _ _ h0
      have hsl : s.steps ≤ 1000 := Nat.le_trans hw.ns hb
      repeat' wtm_at "st"
      refine Sm.g_strOwn (hs.at e013) ?_
      refine ⟨x, h, s, rfl, hD, hh.trans e013, hw8, hsl, fun H14 e14 => ⟨_, rfl, ?_⟩⟩
      have q14 := e14 _ _ q13
      have h014 := e14 _ _ h013
      have p20 : (2 : Nat) ^ 20 = 1048576 := by decide
      have f1 : ((((now s).length : Nat) : Int)).natAbs.log2 < 1920 := Sm.log_of (a := 20) (by omega) (by decide) (by decide)
      have f2 : (((s.steps : Nat) : Int)).natAbs.log2 < 1920 := Sm.log_of (a := 20) (by omega) (by decide) (by decide)
      have l1 := Sm.len_num f1
      have l2 := Sm.len_num f2
      have c1 : (Str.ofString "disk of ").length = 8 := by decide
      have c2 : (Str.ofString " files, ").length = 8 := by decide
      have c3 : (Str.ofString " steps").length = 6 := by decide
      repeat' wtm_at "st"
      rw [hln]
      refine Sm.g_strI f1 ?_
      refine Sm.g_addS (Sm.len_le (by omega)) ?_
      with_reducible refine Sm.Stq.h ?_
      refine Sm.g_addS (Sm.len_le (by rw [len_ap]; omega)) ?_
      with_reducible refine Sm.Stq.h ?_
      wtm_at "st"
      with_reducible refine Sm.Stq.h ?_
      refine Sm.g_strI f2 ?_
      refine Sm.g_addS (Sm.len_le (by rw [len_ap, len_ap]; omega)) ?_
      with_reducible refine Sm.Stq.h ?_
      refine Sm.g_addS (Sm.len_le (by rw [len_ap, len_ap, len_ap]; omega)) ?_
      with_reducible refine Sm.Stq.h ?_
      refine Sm.fin (hq _ (e013.trans e14)) (congrArg V.bl ?_)
      exact (decide_eq_true (by unfold strD; rfl)).symm
end
section
variable {P : Program} {w : World} {K : PySem.W.Frag} {mg : Str → Option Value} {base : Heap} {f : Addr} {fd : FuncData}
theorem ok__law_disks_right (T : Txt P K mg) (F : FD K "_law_disks_right" s__law_disks_right (He.fAd K ("_law_disks_right", none)) fd) (G__law_one_of : Sm.Fn P w K mg base 2 "_law_one_of" P__law_one_of (sp__law_one_of K)) (G__law_roll : Sm.Fn P w K mg base 1 "_law_roll" P__law_roll (sp__law_roll K)) (G__law_new : Sm.Fn P w K mg base 1 "_law_new" P__law_new (sp__law_new K)) (G__law_is_like : Sm.Fn P w K mg base 4 "_law_is_like" P__law_is_like (sp__law_is_like K)) (G__law_lost : Sm.Fn P w K mg base 2 "_law_lost" P__law_lost (sp__law_lost K)) (G__law_done : Sm.FnH P w K mg base 6 "_law_done" P__law_done (sp__law_done K)) (G__law_step : Sm.Fn P w K mg base 2 "_law_step" P__law_step (sp__law_step K)) (TB : LamX.TabB base mg (He.cT K ("_law_disks_right", none)).1 (He.cT K ("_law_disks_right", none)).2) (hTn : ((TT K).map (·.1)).Nodup) (Cat : Sm.Catch P w K mg base "_law_word_of" "_law_call" N__law_word_of (defArgs s__law_word_of) (defBody s__law_word_of) (defScope s__law_word_of) (TMet K)) (G_Disk___init___K1 : Sm.MakK P w K mg base 4 "Disk" P_Disk___init__ (sp_Disk___init__ K) 1 ["power"] (fun vs zs => vs ++ zs)) (G_Disk_lost_K2 : Sm.MeK P w K mg base 6 (He.ga K "Disk") "lost" P_Disk_lost (sp_Disk_lost K) 2 ["power"] (fun vs zs => vs ++ zs)) (G_Disk_lost_K1 : Sm.MeK P w K mg base 6 (He.ga K "Disk") "lost" P_Disk_lost (sp_Disk_lost K) 1 ["power"] (fun vs zs => vs ++ [.ref (He.dflAt ("Disk", some "lost") 0 K)] ++ zs)) (G_Disk_read : Sm.Me P w K mg base 3 (He.ga K "Disk") "read" P_Disk_read (sp_Disk_read K))  : Sm.FnG P w K mg base 9 (He.fAd K ("_law_disks_right", none)) fd P__law_disks_right (sp__law_disks_right K) := by
  refine Sm.FnG.mk1 F sc__law_disks_right (fun vs H Q E h => ?_) (fun A outer s H vs Q E gd hr h => ?_)
  · obtain ⟨p, rfl, _⟩ := h
    rfl
  obtain ⟨p, rfl, hD, hT, hq⟩ := h
  refine ⟨_, (pss_cons (ps_set (i := 1) sc__law_disks_right.nd rfl (Or.inl rfl) (pe_cutX (pe_ifExp (pt_cmpR (Sm.op_eqU hr) (Sm.pe_fn G__law_roll hr (pa_cons (pv 0) (pa_cons pe_int pa_nil))) pe_int (nomark _)) pe_non (Sm.pe_fn G__law_roll hr (pa_cons (pv 0) (pa_cons pe_int pa_nil))))))
      (pss_cons (ps_asg (pe_tup (pa_cons (Sm.pe_makK0 K rfl G_Disk___init___K1 hr (pk_cons (pv 1) pk_nil) passL) (pa_cons (Sm.pe_fn G__law_new hr (pa_cons (pv 1) pa_nil)) pa_nil))) (pg_tup rfl (pgs_cons (pg_name (i := 2) sc__law_disks_right.nd rfl (Or.inr rfl)) (pgs_cons (pg_name (i := 3) sc__law_disks_right.nd rfl (Or.inl rfl)) pgs_nil))))
      (pss_cons (ps_set (i := 4) sc__law_disks_right.nd rfl (Or.inl rfl) (pe_lst (pa_cons pe_str (pa_cons pe_str (pa_cons pe_str (pa_cons pe_str (pa_cons pe_str (pa_cons pe_str (pa_cons pe_str (pa_cons pe_str (pa_cons pe_str pa_nil)))))))))))
      (pss_cons (ps_for (passes_of rfl) rfl (pi_range1 rfl T.f_range (pa_cons (pe_op Sm.op_addU pe_int (Sm.pe_fn G__law_roll hr (pa_cons (pv 0) (pa_cons pe_int pa_nil)))) pa_nil)) (pg_name (i := 5) sc__law_disks_right.nd rfl (Or.inl rfl)) (pss_cons (ps_par (i := 6) (j := 7) rfl sc__law_disks_right.nd rfl rfl (by decide) rfl rfl (pa_cons (Sm.pe_fn G__law_one_of hr (pa_cons (pv 0) (pa_cons (pv 4) pa_nil))) (pa_cons (pe_op Sm.op_addU pe_str (pe_callTy Sm.call_strU rfl T.f_str (by decide +kernel) (pa_cons (Sm.pe_fn G__law_roll hr (pa_cons (pv 0) (pa_cons pe_int pa_nil))) pa_nil))) pa_nil)) (by rfl))
      (pss_cons (ps_if (pt_cmpR (Sm.op_eqU hr) (pv 6) pe_str (nomark _)) (pss_cons (ps_set (i := 8) sc__law_disks_right.nd rfl (Or.inl rfl) (pe_callTy call_tuple_of rfl T.f_tuple (by decide +kernel) (pa_cons (pe_lc (own := [("_law_at", 14)]) rfl sc__law_disks_right.nd (pi_range1 rfl T.f_range (pa_cons (Sm.pe_fn G__law_roll hr (pa_cons (pv 0) (pa_cons pe_int pa_nil))) pa_nil)) (blkOk_by (own := [("_law_at", 14)]) (N := N__law_disks_right) (sc := defScope s__law_disks_right) (by decide +kernel)) (fun _ _ _ _ _ => (pg_name (i := 14) sc__law_disks_right.nd rfl (Or.inl rfl))) (fun _ _ _ _ _ => pts_nil) (fun _ _ _ _ _ => (Sm.pe_fn G__law_roll hr (pa_cons (pv 0) (pa_cons pe_int pa_nil))))) pa_nil)))
      (pss_cons (ps_set (i := 1) sc__law_disks_right.nd rfl (Or.inl rfl) (pe_cutX (pe_ifExp (pt_cmpR (Sm.op_eqU hr) (Sm.pe_fn G__law_roll hr (pa_cons (pv 0) (pa_cons pe_int pa_nil))) pe_int (nomark _)) pe_non (Sm.pe_fn G__law_roll hr (pa_cons (pv 0) (pa_cons pe_int pa_nil))))))
      (pss_one (ps_asg (pe_tup (pa_cons (Sm.pe_meK T.l_Disk G_Disk_lost_K2 hr (pv 2) (pa_cons (pv 8) pa_nil) (pk_cons (pv 1) pk_nil) passL) (pa_cons (Sm.pe_fn G__law_lost hr (pa_cons (pv 3) (pa_cons (pv 8) (pa_cons (pv 1) pa_nil)))) pa_nil))) (pg_tup rfl (pgs_cons (pg_name (i := 2) sc__law_disks_right.nd rfl (Or.inr rfl)) (pgs_cons (pg_name (i := 3) sc__law_disks_right.nd rfl (Or.inl rfl)) pgs_nil))))))) (pss_cons (ps_set (i := 7) sc__law_disks_right.nd rfl (Or.inl rfl) (pe_cutX (pe_ifExp (pt_cmpR (Sm.op_eqU hr) (Sm.pe_fn G__law_roll hr (pa_cons (pv 0) (pa_cons pe_int pa_nil))) pe_int (nomark _)) (Sm.pe_fn G__law_one_of hr (pa_cons (pv 0) (pa_cons (pe_lst (pa_cons pe_str (pa_cons pe_int (pa_cons pe_str (pa_cons pe_str pa_nil))))) pa_nil))) (pv 7))))
      (pss_cons (ps_set (i := 9) sc__law_disks_right.nd rfl (Or.inl rfl) (pe_cutX (pe_ifExp (pt_cmpR op_gt (Sm.pe_fn G__law_roll hr (pa_cons (pv 0) (pa_cons pe_int pa_nil))) pe_int (nomark _)) (Sm.pe_fn G__law_one_of hr (pa_cons (pv 0) (pa_cons (pe_lst (pa_cons pe_str (pa_cons pe_str (pa_cons pe_str (pa_cons pe_str pa_nil))))) pa_nil))) pe_int)))
      (pss_cut1 (ps_if (pt_cmpR (Sm.op_eqU hr) (pv 6) pe_str (nomark _)) (pss_cons (ps_set (i := 10) sc__law_disks_right.nd rfl (Or.inl rfl) (pe_op Sm.op_addU pe_str (pe_callTy Sm.call_strU rfl T.f_str (by decide +kernel) (pa_cons (Sm.pe_fn G__law_roll hr (pa_cons (pv 0) (pa_cons pe_int pa_nil))) pa_nil))))
      (pss_one (ps_set (i := 9) sc__law_disks_right.nd rfl (Or.inl rfl) (pe_cutX (pe_ifExp (pt_cmpR (Sm.op_eqU hr) (pv 10) (pv 7) (nomark _)) pe_str (pe_ifExp (pt_cmpR (Sm.op_neU hr) (pv 9) pe_int (nomark _)) (pv 10) pe_str)))))) pss_nil)
      (pss_cons (ps_par (i := 11) (j := 12) rfl sc__law_disks_right.nd rfl rfl (by decide) rfl rfl (pa_cons (Sm.pe_fnG G__law_done gd hr (pa_cons (pv 2) (pa_cons (pe_tup (pa_cons (pv 6) (pa_cons (pv 7) (pa_cons (pv 9) pa_nil)))) pa_nil))) (pa_cons (Sm.pe_fn G__law_step hr (pa_cons (pv 3) (pa_cons (pe_tup (pa_cons (pv 6) (pa_cons (pv 7) (pa_cons (pv 9) pa_nil)))) pa_nil))) pa_nil)) (by rfl))
      (pss_one (ps_if (PW.pt (pw_or (pt_cmpR (Sm.op_neU hr) (pe_ix ix_seq (pv 11) pe_int (fun _ _ => rfl)) (pe_ix ix_seq (pv 12) pe_int (fun _ _ => rfl)) (nomark _)) (pw_or1 (PW.pt (pw_and (pt_cmpR (Sm.op_neU hr) (pe_ix ix_seq (pv 12) pe_int (fun _ _ => rfl)) pe_str (nomark _)) (pw_and1 (pt_cmpR (Sm.op_neU hr) (pv 11) (pv 12) (nomark _)))))))) (pss_one (ps_ret pe_bl)) pss_nil)))))))
      (pss_one (ps_if (pt_not (pt_truth (Sm.pe_fn G__law_is_like hr (pa_cons (pv 2) (pa_cons (pv 3) pa_nil))) (by intro _; rfl))) (pss_one (ps_ret pe_bl)) pss_nil)))))
      (pss_cons (ps_set (i := 13) sc__law_disks_right.nd rfl (Or.inr rfl) (Sm.pe_fn G__law_one_of hr (pa_cons (pv 0) (pa_cons (pe_lst (pa_cons (pe_tup (pa_cons (pe_un un_neg pe_int) pa_nil)) (pa_cons pe_int (pa_cons (pe_tup (pa_cons pe_str pa_nil)) (pa_cons (pe_tup (pa_cons pe_bl pa_nil)) (pa_cons pe_non pa_nil)))))) pa_nil))))
      (pss_cons (ps_if (pt_cmpR (Sm.op_neU hr) (Sm.pe_catch (k := 6) (T := TT K) Cat gd TB rfl (TTm__law_disks_right K) (Sm.tab_uni hTn (TTm__law_disks_right K)) hr (LamX.lamS_by (by kernel_rfl)) (by decide) (fun A outer s H E f c' hr => (Sm.pe_meK T.l_Disk G_Disk_lost_K2 hr (pv 2) (pa_cons (pv 13) pa_nil) (pk_cons (pe_un un_neg pe_int) pk_nil) (Sm.passE rfl rfl rfl rfl)))) (pe_tup (pa_cons pe_str pa_nil)) (nomark _)) (pss_one (ps_ret pe_bl)) pss_nil)
      (pss_cons (ps_if (pt_cmpR (Sm.op_neU hr) (Sm.pe_catch (k := 6) (T := TT K) Cat gd TB rfl (TTm__law_disks_right K) (Sm.tab_uni hTn (TTm__law_disks_right K)) hr (LamX.lamS_by (by kernel_rfl)) (by decide) (fun A outer s H E f c' hr => (Sm.pe_meK0 T.l_Disk G_Disk_lost_K1 hr (pv 2) (pk_cons pe_int pk_nil) (Sm.passE rfl rfl rfl rfl)))) (pe_tup (pa_cons pe_str (pa_cons pe_int pa_nil))) (nomark _)) (pss_one (ps_ret pe_bl)) pss_nil)
      (pss_cons (ps_if (pt_cmpR (Sm.op_neU hr) (Sm.pe_catch (k := 6) (T := TT K) Cat gd TB rfl (TTm__law_disks_right K) (Sm.tab_uni hTn (TTm__law_disks_right K)) hr (LamX.lamS_by (by kernel_rfl)) (by decide) (fun A outer s H E f c' hr => (Sm.pe_makK0 K rfl G_Disk___init___K1 hr (pk_cons (pe_un un_neg pe_int) pk_nil) (Sm.passE rfl rfl rfl rfl)))) (pe_tup (pa_cons pe_str (pa_cons (pe_un un_neg pe_int) pa_nil))) (nomark _)) (pss_one (ps_ret pe_bl)) pss_nil)
      (pss_one (ps_ret (pe_cmpR (Sm.op_eqU hr) (Sm.pe_catch (k := 6) (T := TT K) Cat gd TB rfl (TTm__law_disks_right K) (Sm.tab_uni hTn (TTm__law_disks_right K)) hr (LamX.lamS_by (by kernel_rfl)) (by decide) (fun A outer s H E f c' hr => (Sm.pe_me T.l_Disk G_Disk_read hr (pv 2) (pa_cons pe_str pa_nil) (Sm.passE rfl rfl rfl rfl)))) (pe_tup (pa_cons pe_str (pa_cons pe_str pa_nil))) (nomark _)))))))))))), ?_⟩
  rw [st__law_disks_right]
  with_reducible refine Sm.Stq.h ?_
  refine ⟨fun v H' => ∃ pw, v = pwV pw ∧ PwOk pw ∧ Same (Sm.dl H p) H' ∧ Dice H' p, ?_, ?_⟩
  · repeat' wtm_at "st"
    · rename_i r H1 _ _ _ _ _
      exact ⟨none, rfl, (fun i e => nomatch e), by assumption, by assumption⟩
    · rename_i r H1 h0 h1 s1 d1 hc r2 H2 h2 h3 s2 d2
      exact ⟨some r2, rfl, (fun i e => by cases e; omega), (Sm.dl_both s1).trans s2, d2⟩
  rintro v H1 ⟨pw, rfl, hpw, s1, d1⟩
  have T1 := tabs_dice hT hD s1
  repeat' wtm_at "st"
  refine ⟨rfl, rfl, fun x dx nx nd ne => ?_⟩
  refine ⟨x, dx, pw, rfl, upd_same, (upd_ne ne).trans upd_same, ne, pw_small hpw, fun _ h H2 st hd2 => ⟨rfl, ?_⟩, fun i hi hb => absurd (pw_good hpw i hi) hb⟩
  obtain ⟨e12, n2⟩ := init_new nx nd st
  repeat' wtm_at "st"
  refine ⟨pw, rfl, fun o g H3 n3 e23 g3 w3 => ?_⟩
  repeat' wtm_at "st"
  rename_i q4 H4 n4 e34 hq4 W H5 nW e5 hW
  have hW : H5 W = some (.lst (wds.map V.str)) := hW
  have e14 := (e12.trans e23).trans e34
  have hpW : p ≠ W := fun z => dice_nn (dice_mv d1 e14) (z ▸ nW)
  have D0 := duo_new (K := K) d1 T1 n2 (fun b hb => n3 b (by
      cases q : H1 b with
      | none => exact absurd q hb
      | some u => exact nn (e12 _ _ q))) (fun b u q => n3 b (nn (st.1 _ _ q))) e14 (st.1.trans (e23.trans e34)) (g3.trans e34) hd2 w3 nW e5 hW hpW
  have hO : ∀ G, Same (rest H1 p W (wds.map V.str)) G → LamX.ExtN (Sm.dl H p) G := fun G hG b u e n => by
    obtain ⟨hbp, _⟩ := dl_at e
    have e1 := s1 _ _ e
    exact hG _ _ (rest_of e1 hbp (fun z => nn (e14 _ _ e1) (z ▸ nW)) n)
  have hOW : rest H1 p W (wds.map V.str) W = some (.lst (wds.map V.str)) := upd_same
  generalize rest H1 p W (wds.map V.str) = O at D0 hO hOW
  have wf0 := wf_new hpw 0
  have hD5 := D0.dice
  refine Sm.for_open ?_
  repeat' wtm_at "st"
  rename_i r H6 h60 h61 s6 d6
  have D6 := D0.roll s6 d6
  refine Sm.g_rng1i (by omega) (by omega) ?_
  refine Sm.g_forA (walk_range (lo := 0) (n := (10 + r).toNat)) (fun i σ G => ∃ (x o : Addr) (pv : V) (h g : Hp) (s : DSt) (b : Nat) (o5 o6 o7 o8 o9 o10 o11 o12 : Option V), σ = [some (.ref p), some pv, some (.ref x), some (.ref o), some (.ref W), o5, o6, o7, o8, o9, o10, o11, o12, none, none] ∧ Duo K O h g p x o s s G ∧ WF b s ∧ b ≤ i)
    ⟨x, o, _, _, _, _, 0, _, _, _, _, _, _, _, _, rfl, D6, wf0, Nat.le_refl _⟩ (fun _ _ _ _ _ => trivial) ?_ ?_
  · clear D0 D6 hD5 d6 s6 hd2 w3 hW st n2 n3 e12 e23 g3 e34 hq4 n4 nW e5 e14 s1 d1 T1 nx nd ne wf0
    rintro i v σ G G1 hi ⟨x, o, pv, h, g, s, b, o5, o6, o7, o8, o9, o10, o11, o12, rfl, D, hw, hb⟩ ⟨rfl, rfl⟩
    have hDG := D.dice
    have hWq : SqL K (Sm.dl G1 p) W (wds.map V.str) := .inl (.inl ((Sm.dl_ne (Ne.symm hpW)).trans (D.oG _ _ hOW)))
    repeat' wtm_at "st"
    rename_i i1 v1 G2 hx s2 d2 r1 G3 h30 h31 s3 d3
    have p4 : (2 : Nat) ^ 4 = 16 := by decide
    have f1 : r1.natAbs.log2 < 1920 := Sm.log_of (a := 4) (by omega) (by decide) (by decide)
    have l1 := Sm.len_num f1
    have c1 : (Str.ofString "n").length = 1 := by decide
    refine Sm.g_strI f1 ?_
    refine Sm.g_addS (Sm.len_le (by omega)) ?_
    have D3 := (D.roll s2 d2).roll s3 d3
    have hn0 := nmG_n h30 h31
    generalize Str.ofString "n" ++ Str.ofString (toString r1) = nz at hn0 ⊢
    obtain ⟨w, rfl, hw'⟩ := wds_at hx
    clear l1 f1 h30 h31 s3 s2 d2 d3 D hDG hWq hx
    have hD3 := D3.dice
    rcases hw' with hdw | rfl
    · have hnl := decide_eq_false (deed_not_lost hdw)
      repeat' wtm_at "st"
      refine ⟨fun v H' => ∃ n, v = kV n ∧ NmG n ∧ Duo K O h g p x o s s H', ?_, ?_⟩
      · repeat' wtm_at "st"
        · rename_i r4 G4 h40 h41 s4 d4 hc4 L G5 n5 e5 q5
          have D4 := D3.roll s4 d4
          have D5 := D4.same e5
          refine ⟨p, L, _, rfl, D5.dice, .inl (.inl ((Sm.dl_ne (D4.free n5).2.2.2).trans q5)), by decide, by decide, fun i v hv G6 s6 d6 => ?_⟩
          have D6 := D5.roll s6 d6
          rcases i with _ | _ | _ | _ | i <;> cases hv
          · exact ⟨.inr _, rfl, nmG_of (by decide +kernel), D6⟩
          · exact ⟨.inl _, rfl, nmG_int _, D6⟩
          · exact ⟨.inr _, rfl, nmG_of (by decide +kernel), D6⟩
          · exact ⟨.inr _, rfl, nmG_of (by decide +kernel), D6⟩
        · rename_i r4 G4 h40 h41 s4 d4 hc4
          exact ⟨.inr nz, rfl, hn0, D3.roll s4 d4⟩
      rintro _ G4 ⟨n, rfl, hn, D4⟩
      have hD4 := D4.dice
      repeat' wtm_at "st"
      refine ⟨fun v H' => ∃ t, v = kV t ∧ TxG t ∧ Duo K O h g p x o s s H', ?_, ?_⟩
      · repeat' wtm_at "st"
        · rename_i r4 G5 h40 h41 s4 d4 hc4 L G6 n5 e5 q5
          have D5 := D4.roll s4 d4
          have D6 := D5.same e5
          refine ⟨p, L, _, rfl, D6.dice, .inl (.inl ((Sm.dl_ne (D5.free n5).2.2.2).trans q5)), by decide, by decide, fun i v hv G7 s6 d6 => ?_⟩
          have D7 := D6.roll s6 d6
          rcases i with _ | _ | _ | _ | i <;> cases hv
          · exact ⟨.inr _, rfl, txG_of (by decide +kernel), D7⟩
          · exact ⟨.inr _, rfl, txG_of (by decide +kernel), D7⟩
          · exact ⟨.inr _, rfl, txG_of (by decide +kernel), D7⟩
          · exact ⟨.inr _, rfl, txG_of (by decide +kernel), D7⟩
        · rename_i r4 G5 h40 h41 s4 d4 hc4
          exact ⟨.inl 5, rfl, txG_int 5, D4.roll s4 d4⟩
      rintro _ G5 ⟨t, rfl, ht, D5⟩
      have hD5 := D5.dice
      clear D3 hD3 D4 hD4
      repeat' wtm_at "st"
      refine ⟨fun σ H' => ∃ (t : Key) (o10 : Option V), σ = [some (.ref p), some pv, some (.ref x), some (.ref o), some (.ref W), some (.int (0 + (i : Int))), some (.str w), some (kV n), o8, some (kV t), o10, o11, o12, none, none] ∧ (∃ dd, deedT dd = [.str w, kV n, kV t] ∧ DdOk dd) ∧ Duo K O h g p x o s s H', ?_, ?_⟩
      · by_cases hr : w = Str.ofString "rename"
        · have hrd := decide_eq_true hr
          repeat' wtm_at "st"
          rename_i r6 G6 h60 h61 s6 d6
          have f6 : r6.natAbs.log2 < 1920 := Sm.log_of (a := 4) (by omega) (by decide) (by decide)
          have l6 := Sm.len_num f6
          refine Sm.g_strI f6 ?_
          refine Sm.g_addS (Sm.len_le (by omega)) ?_
          have D6 := D5.roll s6 d6
          have hn2 := nmG_n h60 h61
          generalize Str.ofString "n" ++ Str.ofString (toString r6) = nz2 at hn2 ⊢
          repeat' wtm_at "st"
          refine ⟨fun v H' => ∃ t, v = kV t ∧ NmG t ∧ Duo K O h g p x o s s H', ?_, ?_⟩
          · repeat' wtm_at "st"
            refine Sm.g_eqD (d := kD (.inr nz2)) (e := kD n) (kD_at (.inr nz2)) (kD_at n) (sh_k hn2.1) (sh_k hn.1) ?_
            generalize PyData.eqv (kD (.inr nz2)) (kD n) = be
            repeat' wtm_at "st"
            · exact ⟨.inr _, rfl, nmG_of (by decide +kernel), D6⟩
            · refine Sm.g_neD (d := kD t) (e := kD (.inl 5)) (kD_at t) (kD_at (.inl 5)) (sh_k (tx_nm ht)) (sh_k (nmG_int 5).1) ?_
              generalize PyData.eqv (kD t) (kD (.inl 5)) = be2
              repeat' wtm_at "st"
              · exact ⟨.inr _, rfl, hn2, D6⟩
              · exact ⟨.inr _, rfl, nmG_of (by decide +kernel), D6⟩
          rintro _ G7 ⟨t2, rfl, ht2, D7⟩
          repeat' wtm_at "st"
          exact ⟨t2, _, rfl, deed_of hdw hn (fun z => absurd hr z) (fun _ => ht2), D7⟩
        · have hrd := decide_eq_false hr
          repeat' wtm_at "st"
          exact ⟨t, _, rfl, deed_of hdw hn (fun _ => ht) (fun z => absurd z hr), D5⟩
      rintro _ G6 ⟨t, o10, rfl, ⟨dd, hdd, hdo⟩, D6⟩
      clear D5 hD5
      repeat' wtm_at "st"
      rename_i q7 G7 n7 e7 h7
      have D7 := D6.same e7
      rw [← hdd] at h7
      refine ⟨x, q7, h, s, b, dd, rfl, D7.d, D7.hG, D7.ph, hw, Nat.le_trans hb (by omega), .inl (.inl h7), hdo, D7.T, ?_⟩
      cases hds : deed s dd with
      | error e =>
        intro q8 G8 e8 T8 h8
        have D8 := D7.ext e8 T8
        repeat' wtm_at "st"
        rename_i q9 G9 n9 e9 h9
        have D9 := D8.same e9
        rw [← hdd] at h9
        refine ⟨o, q9, g, s, b, dd, rfl, D9.w, D9.gG, hw, Nat.le_trans hb (by omega), .inl (.inl h9), hdo, ?_⟩
        rw [hds]
        intro q10 G10 e10 h10
        have D10 := D9.same e10
        have h8 := e10 _ _ (e9 _ _ h8)
        obtain ⟨z, rr, her, hz⟩ := er_head e
        have h8z : G10 q8 = some (.tup (.str z :: rr)) := by rw [← her]; exact h8
        have h10z : G10 q10 = some (.tup (.str z :: rr)) := by rw [← her]; exact h10
        have hsh := er_shaped (e := e) fun k hk => deed_unk hdo (by rw [hds, hk])
        have hat : atI (V.str z :: rr) 0 = some (.str z) := atI_nat (j := 0) rfl
        have hzz : (!decide (z = z)) = false := by simp
        have hz2 : (!decide (z = Str.ofString "told")) = true := by simp [hz]
        repeat' wtm_at "st"
        refine Sm.g_neD (.tup (.inl (.inl h8)) (erD_at e)) (.tup (.inl (.inl h10)) (erD_at e)) hsh hsh ?_
        rw [eqv_er]
        repeat' wtm_at "st"
        refine ⟨x, o, h, g, s, b, rfl, D10.d, D10.w, D10.hG, D10.gG, hw, (Nat.le_trans hb (by omega)), fun G11 e11 => ?_⟩
        repeat' wtm_at "st"
        exact ⟨x, o, _, h, g, s, b, _, _, _, _, _, _, _, _, rfl, D10.same e11, hw, (by omega)⟩
      | ok s' =>
        intro q8 h' G7b G8 st8 T8 hd8 n8 e78 h8
        have D7b := D7.deed st8 T8 hd8
        have hg8 := (D7b.free n8).2.1
        have D8 := D7b.same e78
        repeat' wtm_at "st"
        rename_i q9 G9 n9 e9 h9
        have D9 := D8.same e9
        rw [← hdd] at h9
        refine ⟨o, q9, g, s, b, dd, rfl, D9.w, D9.gG, hw, Nat.le_trans hb (by omega), .inl (.inl h9), hdo, ?_⟩
        rw [hds]
        intro q10 g' G10 st10 w10 h10
        have D10 := D9.own st10 w10
        have h8 := (st10.2 q8 _ hg8 (e9 _ _ h8)).1
        have hw' := deed_wf hw hdo hds
        have h8 : G10 q8 = some (.tup [.str (Str.ofString "told"), .non]) := h8
        have h10 : G10 q10 = some (.tup [.str (Str.ofString "told"), .non]) := h10
        repeat' wtm_at "st"
        refine ⟨x, o, _, _, s', (b + 1), rfl, D10.d, D10.w, D10.hG, D10.gG, hw', (by omega), fun G11 e11 => ?_⟩
        repeat' wtm_at "st"
        exact ⟨x, o, _, _, _, s', (b + 1), _, _, _, _, _, _, _, _, rfl, D10.same e11, hw', (by omega)⟩
    · repeat' wtm_at "st"
      refine Sm.lc_open ?_
      repeat' wtm_at "st"
      rename_i r4 G4 h40 h41 s4 d4
      have D4 := D3.roll s4 d4
      refine Sm.g_rng1i (by omega) (by omega) ?_
      refine Sm.g_lcA (walk_range (lo := 0) (n := r4.toNat)) (fun L i G' => h L = none ∧ g L = none ∧ O L = none ∧ L ≠ p ∧ ∃ cs : List Nat, cs.length = i ∧ (∀ c ∈ cs, c ≤ 8) ∧ G' L = some (.lst (chV cs)) ∧ Duo K O h g p x o s s G') (fun L G' hL e hl => ?_) (fun _ _ _ _ _ => trivial) ?_ ?_
      · obtain ⟨f1, f2, f3, f4⟩ := D4.free hL
        exact ⟨f1, f2, f3, f4, [], rfl, (fun c hc => nomatch hc), hl, D4.same e⟩
      · rintro L i y G5 G6 hi ⟨f1, f2, f3, f4, cs, hc, hcl, hl, D5⟩ ⟨rfl, rfl⟩
        have hD5 := D5.dice
        refine Sm.Stq.h (g := gName 14 (V.int (0 + (i : Int))) [some (.ref p), some pv, some (.ref x), some (.ref o), some (.ref W), some (.int (0 + (_ : Int))), some (.str (Str.ofString "lost")), some (.str nz), o8, o9, o10, o11, o12, none, none] _ _) ?_
        refine ⟨rfl, ?_⟩
        repeat' wtm_at "st"
        rename_i r5 G7 h50 h51 s5 d5
        have D7 := D5.roll s5 d5
        have hl7 := s5 _ _ ((Sm.dl_ne f4).trans hl)
        refine ⟨_, hl7, by rw [show (chV cs).length = cs.length from List.length_map ..]; exact Nat.lt_of_lt_of_le (show cs.length < 100 by omega) (by decide), f1, f2, f3, f4, cs ++ [r5.toNat], by rw [List.length_append, List.length_singleton, hc], ?_, ?_, D7.put hl7 f1 f2 f3 f4⟩
        · intro c hcm
          rcases List.mem_append.mp hcm with hcm | hcm
          · exact hcl c hcm
          · rw [List.mem_singleton.mp hcm]; omega
        · have e5 : ((r5.toNat : Nat) : Int) = r5 := Int.toNat_of_nonneg h50
          rw [upd_same]
          unfold chV
          rw [List.map_append, List.map_singleton, e5]
      · rintro L G5 ⟨f1, f2, f3, f4, cs, hc, hcl, hl, D5⟩
        have hco : ChOk cs := ⟨by omega, fun c hcm => Nat.le_trans (hcl c hcm) (by decide)⟩
        repeat' wtm_at "st"
        refine ⟨L, _, rfl, .inl ⟨.inl (.inl hl), fun q n6 => ?_⟩⟩
        have e6 : Same G5 (upd G5 q (.tup (chV cs))) := Sm.Same.new n6
        have h6 : (upd G5 q (.tup (chV cs))) q = some (.tup (chV cs)) := upd_same
        generalize upd G5 q (.tup (chV cs)) = G6 at e6 h6 ⊢
        have D6 := D5.same e6
        have hqp := (D5.free n6).2.2.2
        have hD6 := D6.dice
        repeat' wtm_at "st"
        refine ⟨fun v H' => ∃ pw, v = pwV pw ∧ PwOk pw ∧ H' q = some (.tup (chV cs)) ∧ Duo K O h g p x o s s H', ?_, ?_⟩
        · repeat' wtm_at "st"
          · rename_i r7 G7 h70 h71 s7 d7 hc7
            exact ⟨none, rfl, (fun i e => nomatch e), s7 _ _ ((Sm.dl_ne hqp).trans h6), D6.roll s7 d7⟩
          · rename_i r7 G7 h70 h71 s7 d7 hc7 r8 G8 h80 h81 s8 d8
            exact ⟨some r8, rfl, (fun i e => by cases e; omega), s8 _ _ ((Sm.dl_ne hqp).trans (s7 _ _ ((Sm.dl_ne hqp).trans h6))), (D6.roll s7 d7).roll s8 d8⟩
        rintro _ G7 ⟨pw, rfl, hpw, hq7, D7⟩
        obtain ⟨da, hda⟩ := id D7.d
        have hself := hda.self.at D7.hG
        wtm_at "st"
        refine ⟨x, _, _, rfl, hself.slt, ?_⟩
        repeat' wtm_at "st"
        refine ⟨rfl, rfl, ?_⟩
        refine ⟨x, .ref q, pw, h, s, b, rfl, D7.d, D7.hG, hw, Nat.le_trans hb (by omega), pw_small hpw, .inl ⟨q, cs, rfl, .inl (.inl hq7), hco, fun _ => ?_, fun i hi hb => absurd (pw_good hpw i hi) hb⟩⟩
        intro ys y h8 G8 hS n8 e8 e8' d8
        have D8 := D7.lost n8 e8 e8' d8
        repeat' wtm_at "st"
        refine ⟨o, q, pw, g, s, b, cs, rfl, D8.w, D8.gG, hw, Nat.le_trans hb (by omega), .inl (.inl (e8 _ _ hq7)), hco, fun ys2 o2 g9 G9 hS2 n9 e9 e9' w9 => ?_⟩
        have hyy := hS.uniq hS2
        subst hyy
        have D9 := D8.lostO n9 e9 e9' w9
        have hw9 := lost_wf hw hpw hS
        repeat' wtm_at "st"
        rename_i q10 G10 n10 e10 h10
        have D10 := D9.same e10
        refine ⟨y, o2, _, _, _, b, rfl, D10.d, D10.w, D10.hG, D10.gG, hw9, (Nat.le_trans hb (by omega)), fun G11 e11 => ?_⟩
        repeat' wtm_at "st"
        exact ⟨y, o2, _, _, _, _, b, _, _, _, _, _, _, _, _, rfl, D10.same e11, hw9, (Nat.le_succ_of_le hb)⟩
  · rintro σ G ⟨x, o, pv, h, g, s, b, o5, o6, o7, o8, o9, o10, o11, o12, rfl, D, hw, hb⟩
    have hDG := D.dice
    clear D0 D6 hD5 d6 s6 hd2 w3 hW st n2 n3 e12 e23 g3 e34 hq4 n4 nW e5 e14 s1 d1 T1 nx nd ne wf0
    have hb41 : b ≤ 1000 := by omega
    repeat' wtm_at "st"
    rename_i t1 G1 n1 e1 h1 t2 G2 n2 e2 h2 t3 G3 n3 e3 h3 L G4 n4 e4 h4
    have D1 := D.same e1
    have D2 := D1.same e2
    have D3 := D2.same e3
    have D4 := D3.same e4
    have np1 := (D.free n1).2.2.2
    have np2 := (D1.free n2).2.2.2
    have np3 := (D2.free n3).2.2.2
    refine ⟨p, L, _, rfl, D4.dice, .inl (.inl ((Sm.dl_ne (D3.free n4).2.2.2).trans h4)), Nat.succ_pos _, Nat.le_of_ble_eq_true rfl, fun i v hv G5 s5 d5 => ?_⟩
    have D5 := D4.roll s5 d5
    obtain ⟨dw, hdw, hch, hlw⟩ : ∃ d, Dp K G5 v d ∧ isCh d = false ∧ ∀ ds, d = .tuple ds → ds.length ≤ 100 := by
      have k1 := s5 _ _ ((Sm.dl_ne np1).trans (e4 _ _ (e3 _ _ (e2 _ _ h1))))
      have k2 := s5 _ _ ((Sm.dl_ne np2).trans (e4 _ _ (e3 _ _ h2)))
      have k3 := s5 _ _ ((Sm.dl_ne np3).trans (e4 _ _ h3))
      rcases i with _ | _ | _ | _ | _ | i <;> cases hv
      · exact ⟨.tuple [.int (-1)], .tup (.inl (.inl k1)) (.cons (.int _) .nil), by
          have : isNat (.int (-1)) = false := by
            show (decide _ && decide ((0 : Int) ≤ -1)) = false
            rw [decide_eq_false (p := (0 : Int) ≤ -1) (by decide), Bool.and_false]
          show (isNat (.int (-1)) && _) = false
          rw [this]; rfl, fun ds e => by cases e; decide⟩
      · exact ⟨.int 5, .int _, rfl, fun ds e => nomatch e⟩
      · exact ⟨.tuple [.str _], .tup (.inl (.inl k2)) (.cons (.str _) .nil), rfl, fun ds e => by cases e; decide⟩
      · exact ⟨.tuple [.bool true], .tup (.inl (.inl k3)) (.cons (.bl _) .nil), rfl, fun ds e => by cases e; decide⟩
      · exact ⟨.none, .non, rfl, fun ds e => nomatch e⟩
    clear hv D1 D2 D3 D4 h1 h2 h3 h4 e1 e2 e3 e4 n1 n2 n3 n4 np1 np2 np3 s5 d5
    repeat' wtm_at "st"
    refine g_lam D5.T fun G6 e6 T6 => ?_
    have D6 := D5.ext e6 T6
    have hdw := Sm.exN_dp e6 hdw
    obtain ⟨da, hda⟩ := id D6.d
    have hself := hda.self.at D6.hG
    wtm_at "st"
    refine ⟨x, _, _, rfl, hself.slt, ?_⟩
    repeat' wtm_at "st"
    refine ⟨rfl, rfl, ?_⟩
    refine ⟨x, v, some (-1), h, s, b, rfl, D6.d, D6.hG, hw, hb41, (fun i e => by cases e; decide), .inr ⟨dw, hdw, hlw, hch, met_er T (e := .op) fun q7 G7 n7 e7 h7 => ?_⟩⟩
    have D7 := D6.same e7
    clear D6 hself hdw
    repeat' wtm_at "st"
    rename_i q8 G8 n8 e8 h8
    have D8 := D7.same e8
    refine Sm.g_neD (.tup (.inl (.inl (e8 _ _ h7))) (erD_at .op)) (.tup (.inl (.inl h8)) (erD_at .op)) (er_shaped fun k e => nomatch e) (er_shaped fun k e => nomatch e) ?_
    rw [eqv_er]
    repeat' wtm_at "st"
    refine g_lam D8.T fun G9 e9 T9 => ?_
    have D9 := D8.ext e9 T9
    obtain ⟨da, hda⟩ := id D9.d
    have hself := hda.self.at D9.hG
    wtm_at "st"
    refine ⟨x, _, _, rfl, hself.slt, ?_⟩
    repeat' wtm_at "st"
    refine ⟨rfl, rfl, ?_⟩
    refine ⟨x, .ref (He.dflAt ("Disk", some "lost") 0 K), some 1000001, h, s, b, rfl, D9.d, D9.hG, hw, hb41, (fun i e => by cases e; decide), .inl ⟨_, [], rfl, T.d_lost _, ⟨Nat.zero_le _, fun c hc => nomatch hc⟩, (fun hg => absurd (hg _ rfl).2 (by decide)), fun i hi hb hs => ?_⟩⟩
    cases hi
    refine met_num T fun q10 G10 n10 e10 h10 => ?_
    have D10 := D9.same e10
    clear D7 D8 D9 hself h7 h8
    repeat' wtm_at "st"
    rename_i q11 G11 n11 e11 h11
    have D11 := D10.same e11
    refine Sm.g_neD (.tup (.inl (.inl (e11 _ _ h10))) nm1_at) (.tup (.inl (.inl h11)) nm1_at) nm_sh nm_sh ?_
    rw [nm_eqv]
    repeat' wtm_at "st"
    refine g_lam D11.T fun G12 e12 T12 => ?_
    have D12 := D11.ext e12 T12
    repeat' wtm_at "st"
    refine ⟨rfl, rfl, fun x2 dx nx nd ne => ?_⟩
    refine ⟨x2, dx, some (-1), rfl, upd_same, (upd_ne ne).trans upd_same, ne, (fun i e => by cases e; decide), (fun hg => absurd (hg _ rfl).1 (by decide)), fun i hi hb hs => ?_⟩
    cases hi
    refine met_num T fun q13 G13 n13 e13 h13 => ?_
    have e1213 : Same G12 G13 := ((Sm.Same.new nd).trans (Sm.Same.new (by rw [upd_ne (Ne.symm ne)]; exact nx))).trans e13
    have D13 := D12.same e1213
    clear D10 D11 D12 h10 h11
    repeat' wtm_at "st"
    rename_i q14 G14 n14 e14 h14
    have D14 := D13.same e14
    refine Sm.g_neD (.tup (.inl (.inl (e14 _ _ h13))) nm1_at) (.tup (.inl (.inl h14)) nm1_at) nm_sh nm_sh ?_
    rw [nm_eqv]
    repeat' wtm_at "st"
    refine g_lam D14.T fun G15 e15 T15 => ?_
    have D15 := D14.ext e15 T15
    obtain ⟨da, hda⟩ := id D15.d
    have hself := hda.self.at D15.hG
    wtm_at "st"
    refine ⟨x, _, _, rfl, hself.slt, ?_⟩
    repeat' wtm_at "st"
    have hzz : getN (now s) (Str.ofString "zz") = none := by
      cases q : getN (now s) (Str.ofString "zz") with
      | none => rfl
      | some i => exact absurd rfl (hw.nowN _ (getN_mem q)).2
    refine ⟨x, .inr (Str.ofString "zz"), h, s, b, rfl, D15.d, D15.hG, hw, fun i hi => ?_, fun _ => met_er T (e := .unk (.inr (Str.ofString "zz"))) fun q16 G16 n16 e16 h16 => ?_⟩
    · have hi : getN (now s) (Str.ofString "zz") = some i := hi
      rw [hzz] at hi
      cases hi
    have D16 := D15.same e16
    clear D13 D14 D15 h13 h14 hself
    repeat' wtm_at "st"
    rename_i q17 G17 n17 e17 h17
    have D17 := D16.same e17
    have hku : ∀ k, Er.unk (.inr (Str.ofString "zz")) = .unk k → NmOk k := fun k e => by
      cases e
      exact fun z e => by cases e; exact ⟨by decide, by decide +kernel⟩
    refine Sm.g_eqD (.tup (.inl (.inl (e17 _ _ h16))) (erD_at (.unk (.inr (Str.ofString "zz"))))) (.tup (.inl (.inl h17)) (erD_at (.unk (.inr (Str.ofString "zz"))))) (er_shaped hku) (er_shaped hku) ?_
    rw [eqv_er]
    exact hq _ (hO _ D17.oG) D17.T
end
section
variable {P : Program} {w : World} {K : PySem.W.Frag} {mg : Str → Option Value} {base : Heap} {f : Addr} {fd : FuncData}
theorem ok_law (T : Txt P K mg) (F : FD K "law" s_law (He.fAd K ("law", none)) fd) (G__law_disks_right : Sm.FnH P w K mg base 9 "_law_disks_right" P__law_disks_right (sp__law_disks_right K)) (G__law_dice : Sm.Fn P w K mg base 1 "_law_dice" P__law_dice (sp__law_dice K))   : Sm.FnG P w K mg base 10 (He.fAd K ("law", none)) fd P_law (sp_law K) := by
  refine Sm.FnG.mk1 F sc_law (fun vs H Q E h => ?_) (fun A outer s H vs Q E gd hr h => ?_)
  · obtain ⟨p, ns, rfl, _⟩ := h
    rfl
  obtain ⟨p, ns, rfl, hns, hn, hT, hq⟩ := h
  refine ⟨_, (pss_cons (ps_for (passes_of rfl) rfl (pi_range1 rfl T.f_range (pa_cons (pe_callB (Sm.call_minU rfl) rfl T.f_min (by decide +kernel) (pa_cons pe_int (pa_cons (pe_callB (Sm.call_maxU rfl) rfl T.f_max (by decide +kernel) (pa_cons pe_int (pa_cons (pe_callB Sm.call_lenU rfl T.f_len (by decide +kernel) (pa_cons (pv 0) pa_nil)) pa_nil))) pa_nil))) pa_nil)) (pg_name (i := 1) sc_law.nd rfl (Or.inl rfl)) (pss_one (ps_if (pt_not (pt_truth (Sm.pe_fnG G__law_disks_right gd hr (pa_cons (Sm.pe_fn G__law_dice hr (pa_cons (pv 0) (pa_cons (pv 1) pa_nil))) pa_nil)) (by intro _; rfl))) (pss_one (ps_ret pe_bl)) pss_nil)))
      (pss_one (ps_ret pe_bl))), ?_⟩
  rw [st_law]
  refine Sm.for_open ?_
  repeat' wtm_at "st"
  refine Sm.g_rng1i (by split <;> split <;> omega) (by split <;> split <;> omega) ?_
  refine Sm.g_forA (walk_range (lo := 0)) (fun i σ H' => (∃ o1, σ = [some (.ref p), o1]) ∧ LamX.ExtN H H' ∧ LamX.Tabs (TT K) H') ⟨⟨_, rfl⟩, LamX.ExtN.refl _, hT⟩ (fun _ _ _ _ _ => trivial) ?_ ?_
  · rintro i x σ H1 H2 hi ⟨⟨o1, rfl⟩, hs, hT2⟩ ⟨rfl, rfl⟩
    have hsp := Sm.exN_seqL hs hns
    repeat' wtm_at "st"
    refine ⟨p, ns, i, by show [V.ref p, V.int (0 + (i : Int))] = _; rw [Int.zero_add], hsp, fun d H3 hn3 hs3 hd3 => ?_⟩
    have hT3 := hT2.ext hs3
    have x3 : LamX.ExtN H (Sm.dl H3 d) := Sm.exN_same hs (fun b o hb => by
      rw [Sm.dl_ne (fun z => by rw [z, hn3] at hb; cases hb)]
      exact hs3 _ _ hb)
    repeat' wtm_at "st"
    refine ⟨d, rfl, hd3, hT3, fun H4 e4 t4 => ?_⟩
    repeat' wtm_at "st"
    exact ⟨⟨_, rfl⟩, LamX.ExtN.trans x3 e4, t4⟩
  · rintro σ H1 ⟨⟨o1, rfl⟩, hs, hT1⟩
    repeat' wtm_at "st"
    exact hq _
end
end K59
set_option maxHeartbeats 0
namespace K59
open PySem PySem.Spec PyProof.Rows L2
section
variable {K : PySem.W.Frag} {h : Heap} {mg : Str → Option Value}
theorem txt_ok (X : K.In h) (G : h.Ns mainGlobals mg) (c : Sm.SaysZ fa fn xs ps tf tu clss prps exB prog.main.file h K) : Txt prog K mg where
  f_abs := He.free_ok X G (c.s.d.fact 0 (f := .free "abs") rfl)
  f_all := He.free_ok X G (c.s.d.fact 1 (f := .free "all") rfl)
  f_bool := He.free_ok X G (c.s.d.fact 2 (f := .free "bool") rfl)
  f_dict := He.free_ok X G (c.s.d.fact 3 (f := .free "dict") rfl)
  f_enumerate := He.free_ok X G (c.s.d.fact 4 (f := .free "enumerate") rfl)
  f_int := He.free_ok X G (c.s.d.fact 5 (f := .free "int") rfl)
  f_isinstance := He.free_ok X G (c.s.d.fact 6 (f := .free "isinstance") rfl)
  f_iter := He.free_ok X G (c.s.d.fact 7 (f := .free "iter") rfl)
  f_len := He.free_ok X G (c.s.d.fact 8 (f := .free "len") rfl)
  f_list := He.free_ok X G (c.s.d.fact 9 (f := .free "list") rfl)
  f_max := He.free_ok X G (c.s.d.fact 10 (f := .free "max") rfl)
  f_min := He.free_ok X G (c.s.d.fact 11 (f := .free "min") rfl)
  f_next := He.free_ok X G (c.s.d.fact 12 (f := .free "next") rfl)
  f_range := He.free_ok X G (c.s.d.fact 13 (f := .free "range") rfl)
  f_sorted := He.free_ok X G (c.s.d.fact 14 (f := .free "sorted") rfl)
  f_str := He.free_ok X G (c.s.d.fact 15 (f := .free "str") rfl)
  f_tuple := He.free_ok X G (c.s.d.fact 16 (f := .free "tuple") rfl)
  c_BEYOND_INTEGERS := He.int_ok X G (c.s.d.fact 17 (f := .int "BEYOND_INTEGERS" (BI)) rfl)
  c_DIGITS := He.str_ok X G (c.s.d.fact 18 (f := .str "DIGITS" "0123456789") rfl)
  c_LETTERS := He.str_ok X G (c.s.d.fact 19 (f := .str "LETTERS" "abcdefghijklmnopqrstuvwxyz") rfl)
  c_MADE := He.str_ok X G (c.s.d.fact 20 (f := .str "MADE" "made") rfl)
  c_MAX_FILES := He.int_ok X G (c.s.d.fact 21 (f := .int "MAX_FILES" (8)) rfl)
  c_MAX_POWER := He.int_ok X G (c.s.d.fact 22 (f := .int "MAX_POWER" (1000000)) rfl)
  c_MAX_TEXT := He.int_ok X G (c.s.d.fact 23 (f := .int "MAX_TEXT" (200000)) rfl)
  c_MOST_NAME := He.int_ok X G (c.s.d.fact 24 (f := .int "MOST_NAME" (8)) rfl)
  c_REMOVED := He.str_ok X G (c.s.d.fact 25 (f := .str "REMOVED" "removed") rfl)
  c_RENAMED := He.str_ok X G (c.s.d.fact 26 (f := .str "RENAMED" "renamed") rfl)
  x_InvalidName := Sm.pl_ok (d := e_InvalidName) X G PySem.F.excBase_ValueError (c.s.p _ (List.mem_of_getElem? (i := 0) rfl))
  x_InvalidNumber := Sm.xs_ok (d := e_InvalidNumber) X G (Sm.xf_of PySem.F.excBase_IndexError) PySem.W.kxs_IndexError PySem.F.store_IndexError rfl (fun _ _ _ _ _ _ _ _ _ => rfl) (by kernel_rfl) ⟨by decide, by decide, by decide, by decide⟩ (c.s.x _ (List.mem_of_getElem? (i := 0) rfl)).2 (c.s.x _ (List.mem_of_getElem? (i := 0) rfl)).1
  x_InvalidOperation := Sm.pl_ok (d := e_InvalidOperation) X G PySem.F.excBase_ValueError (c.s.p _ (List.mem_of_getElem? (i := 1) rfl))
  x_PowerLost := Sm.xs_ok (d := e_PowerLost) X G (Sm.xf_of PySem.F.excBase_RuntimeError) PySem.W.kxs_RuntimeError PySem.F.store_RuntimeError rfl (fun _ _ _ _ _ _ _ _ _ => rfl) (by kernel_rfl) ⟨by decide, by decide, by decide, by decide⟩ (c.s.x _ (List.mem_of_getElem? (i := 1) rfl)).2 (c.s.x _ (List.mem_of_getElem? (i := 1) rfl)).1
  x_TooMany := Sm.xs_ok (d := e_TooMany) X G (Sm.xf_of PySem.F.excBase_OverflowError) PySem.W.kxs_OverflowError PySem.F.store_OverflowError rfl (fun _ _ _ _ _ _ _ _ _ => rfl) (by kernel_rfl) ⟨by decide, by decide, by decide, by decide⟩ (c.s.x _ (List.mem_of_getElem? (i := 2) rfl)).2 (c.s.x _ (List.mem_of_getElem? (i := 2) rfl)).1
  x_UnknownName := Sm.xs_ok (d := e_UnknownName) X G Sm.xf_key Sm.kxs_KeyError Sm.store_KeyError rfl (fun _ _ _ _ _ _ _ _ _ => rfl) (by kernel_rfl) ⟨by decide, by decide, by decide, by decide⟩ (c.s.x _ (List.mem_of_getElem? (i := 3) rfl)).2 (c.s.x _ (List.mem_of_getElem? (i := 3) rfl)).1
  l_Disk := Sm.cl_ok (d := c_Disk) (c.cl _ (List.mem_of_getElem? (i := 0) rfl))
  l_DiskFile := Sm.cl_ok (d := c_DiskFile) (c.cl _ (List.mem_of_getElem? (i := 1) rfl))
  m_NN := He.exm_ok (c.s.d.fact 27 (f := .exm "InvalidName" "InvalidName" true) rfl)
  m_IN := He.exm_ok (c.s.d.fact 28 (f := .exm "InvalidNumber" "InvalidName" false) rfl)
  m_II := He.exm_ok (c.s.d.fact 29 (f := .exm "InvalidNumber" "InvalidNumber" true) rfl)
  m_ON := He.exm_ok (c.s.d.fact 30 (f := .exm "InvalidOperation" "InvalidName" false) rfl)
  m_OI := He.exm_ok (c.s.d.fact 31 (f := .exm "InvalidOperation" "InvalidNumber" false) rfl)
  m_OO := He.exm_ok (c.s.d.fact 32 (f := .exm "InvalidOperation" "InvalidOperation" true) rfl)
  m_UN := He.exm_ok (c.s.d.fact 33 (f := .exm "UnknownName" "InvalidName" false) rfl)
  m_UI := He.exm_ok (c.s.d.fact 34 (f := .exm "UnknownName" "InvalidNumber" false) rfl)
  m_UO := He.exm_ok (c.s.d.fact 35 (f := .exm "UnknownName" "InvalidOperation" false) rfl)
  m_UU := He.exm_ok (c.s.d.fact 36 (f := .exm "UnknownName" "UnknownName" true) rfl)
  m_MN := He.exm_ok (c.s.d.fact 37 (f := .exm "TooMany" "InvalidName" false) rfl)
  m_MI := He.exm_ok (c.s.d.fact 38 (f := .exm "TooMany" "InvalidNumber" false) rfl)
  m_MO := He.exm_ok (c.s.d.fact 39 (f := .exm "TooMany" "InvalidOperation" false) rfl)
  m_MU := He.exm_ok (c.s.d.fact 40 (f := .exm "TooMany" "UnknownName" false) rfl)
  m_MM := He.exm_ok (c.s.d.fact 41 (f := .exm "TooMany" "TooMany" true) rfl)
  m_LN := He.exm_ok (c.s.d.fact 42 (f := .exm "PowerLost" "InvalidName" false) rfl)
  m_LI := He.exm_ok (c.s.d.fact 43 (f := .exm "PowerLost" "InvalidNumber" false) rfl)
  m_LO := He.exm_ok (c.s.d.fact 44 (f := .exm "PowerLost" "InvalidOperation" false) rfl)
  m_LU := He.exm_ok (c.s.d.fact 45 (f := .exm "PowerLost" "UnknownName" false) rfl)
  m_LM := He.exm_ok (c.s.d.fact 46 (f := .exm "PowerLost" "TooMany" false) rfl)
  m_LL := He.exm_ok (c.s.d.fact 47 (f := .exm "PowerLost" "PowerLost" true) rfl)
  d_lost := Sm.adr_ok (He.ba c.ex).1
theorem law_ok {w : World} (X : K.In h) (G : h.Ns mainGlobals mg) (c : Sm.SaysZ fa fn xs ps tf tu clss prps exB prog.main.file h K) : ∃ fd, FD K "law" s_law (He.ga K "law") fd ∧ ∀ base, (∀ p ∈ tf, LamX.TabB base mg (He.cT K p).1 (He.cT K p).2) → Sm.FnG prog w K mg base 10 (He.ga K "law") fd P_law (sp_law K) := by
  have T := txt_ok X G c
  obtain ⟨fd_Disk_names, F_Disk_names⟩ := Sm.pr_fun (d := p_Disk_names) (c.pr _ (List.mem_of_getElem? (i := 0) rfl)).2 (c.pr _ (List.mem_of_getElem? (i := 0) rfl)).1
  obtain ⟨fd_Disk_steps, F_Disk_steps⟩ := Sm.pr_fun (d := p_Disk_steps) (c.pr _ (List.mem_of_getElem? (i := 1) rfl)).2 (c.pr _ (List.mem_of_getElem? (i := 1) rfl)).1
  obtain ⟨fd_is_whole, F_is_whole⟩ := c.s.d.def_ 0 (d := t_is_whole) rfl
  obtain ⟨fd_is_integer, F_is_integer⟩ := c.s.d.def_ 1 (d := t_is_integer) rfl
  obtain ⟨fd_is_name, F_is_name⟩ := c.s.d.def_ 2 (d := t_is_name) rfl
  obtain ⟨fd_is_disk_text, F_is_disk_text⟩ := c.s.d.def_ 3 (d := t_is_disk_text) rfl
  obtain ⟨fd_require_power, F_require_power⟩ := c.s.d.def_ 4 (d := t_require_power) rfl
  obtain ⟨fd_are_choices, F_are_choices⟩ := c.s.d.def_ 5 (d := t_are_choices) rfl
  obtain ⟨fd_DiskFile___init__, F_DiskFile___init__⟩ := c.s.d.def_ 6 (d := t_DiskFile___init__) rfl
  obtain ⟨fd_names_behind, F_names_behind⟩ := c.s.d.def_ 7 (d := t_names_behind) rfl
  obtain ⟨fd_Disk___init__, F_Disk___init__⟩ := c.s.d.def_ 8 (d := t_Disk___init__) rfl
  obtain ⟨fd_Disk_require_file, F_Disk_require_file⟩ := c.s.d.def_ 9 (d := t_Disk_require_file) rfl
  obtain ⟨fd_Disk_do_step, F_Disk_do_step⟩ := c.s.d.def_ 10 (d := t_Disk_do_step) rfl
  obtain ⟨fd_Disk_change_names, F_Disk_change_names⟩ := c.s.d.def_ 11 (d := t_Disk_change_names) rfl
  obtain ⟨fd_Disk_append, F_Disk_append⟩ := c.s.d.def_ 12 (d := t_Disk_append) rfl
  obtain ⟨fd_Disk_sync, F_Disk_sync⟩ := c.s.d.def_ 13 (d := t_Disk_sync) rfl
  obtain ⟨fd_Disk_remove, F_Disk_remove⟩ := c.s.d.def_ 14 (d := t_Disk_remove) rfl
  obtain ⟨fd_Disk_rename, F_Disk_rename⟩ := c.s.d.def_ 15 (d := t_Disk_rename) rfl
  obtain ⟨fd_Disk_sync_names, F_Disk_sync_names⟩ := c.s.d.def_ 16 (d := t_Disk_sync_names) rfl
  obtain ⟨fd_Disk_read, F_Disk_read⟩ := c.s.d.def_ 17 (d := t_Disk_read) rfl
  obtain ⟨fd_Disk_lost, F_Disk_lost⟩ := c.s.d.def_ 18 (d := t_Disk_lost) rfl
  obtain ⟨fd_Disk___contains__, F_Disk___contains__⟩ := c.s.d.def_ 19 (d := t_Disk___contains__) rfl
  obtain ⟨fd_Disk___len__, F_Disk___len__⟩ := c.s.d.def_ 20 (d := t_Disk___len__) rfl
  obtain ⟨fd_Disk___str__, F_Disk___str__⟩ := c.s.d.def_ 21 (d := t_Disk___str__) rfl
  obtain ⟨fd__law_dice, F__law_dice⟩ := c.s.d.def_ 22 (d := t__law_dice) rfl
  obtain ⟨fd__law_roll, F__law_roll⟩ := c.s.d.def_ 23 (d := t__law_roll) rfl
  obtain ⟨fd__law_one_of, F__law_one_of⟩ := c.s.d.def_ 24 (d := t__law_one_of) rfl
  obtain ⟨fd__law_word_of, F__law_word_of⟩ := c.s.d.def_ 25 (d := t__law_word_of) rfl
  obtain ⟨fd__law_new, F__law_new⟩ := c.s.d.def_ 26 (d := t__law_new) rfl
  obtain ⟨fd__law_names, F__law_names⟩ := c.s.d.def_ 27 (d := t__law_names) rfl
  obtain ⟨fd__law_step, F__law_step⟩ := c.s.d.def_ 28 (d := t__law_step) rfl
  obtain ⟨fd__law_is_name, F__law_is_name⟩ := c.s.d.def_ 29 (d := t__law_is_name) rfl
  obtain ⟨fd__law_lost, F__law_lost⟩ := c.s.d.def_ 30 (d := t__law_lost) rfl
  obtain ⟨fd__law_done, F__law_done⟩ := c.s.d.def_ 31 (d := t__law_done) rfl
  obtain ⟨fd__law_is_like, F__law_is_like⟩ := c.s.d.def_ 32 (d := t__law_is_like) rfl
  obtain ⟨fd__law_disks_right, F__law_disks_right⟩ := c.s.d.def_ 33 (d := t__law_disks_right) rfl
  obtain ⟨fd_law, F_law⟩ := c.s.d.def_ 34 (d := t_law) rfl
  have G_is_whole : ∀ base, Sm.Fn prog w K mg base 1 "is_whole" P_is_whole (sp_is_whole K) := fun base => ⟨_, fd_is_whole, ok_is_whole T F_is_whole , He.glo_ok X G (c.s.d.fact 48 (f := .glo "is_whole") rfl), F_is_whole.kp, FunD.bindsN F_is_whole fun _ _ _ _ _ _ us hl => match us, hl with | [_], _ => rfl⟩
  have G_is_name : ∀ base, Sm.Fn prog w K mg base 1 "is_name" P_is_name (sp_is_name K) := fun base => ⟨_, fd_is_name, ok_is_name T F_is_name , He.glo_ok X G (c.s.d.fact 50 (f := .glo "is_name") rfl), F_is_name.kp, FunD.bindsN F_is_name fun _ _ _ _ _ _ us hl => match us, hl with | [_], _ => rfl⟩
  have G_is_disk_text : ∀ base, Sm.Fn prog w K mg base 1 "is_disk_text" P_is_disk_text (sp_is_disk_text K) := fun base => ⟨_, fd_is_disk_text, ok_is_disk_text T F_is_disk_text , He.glo_ok X G (c.s.d.fact 51 (f := .glo "is_disk_text") rfl), F_is_disk_text.kp, FunD.bindsN F_is_disk_text fun _ _ _ _ _ _ us hl => match us, hl with | [_], _ => rfl⟩
  have O_DiskFile___init__ : ∀ base, L2.FnOk prog w K mg base (L2.CX prog w) 1 _ fd_DiskFile___init__ P_DiskFile___init__ (sp_DiskFile___init__ K) := fun base => ok_DiskFile___init__ T F_DiskFile___init__ 
  have G_DiskFile___init__ : ∀ base, Sm.Mak prog w K mg base 1 "DiskFile" P_DiskFile___init__ (sp_DiskFile___init__ K) := fun base => Sm.mak_ok (c.s.d.fact 82 (f := .mkr "DiskFile") rfl) (He.glo_ok X G (c.s.d.fact 84 (f := .glo "DiskFile") rfl)) (O_DiskFile___init__ base) (FunD.bindsN F_DiskFile___init__ fun _ _ _ _ _ _ us hl => match us, hl with | [_, _, _], _ => rfl)
  have G_names_behind : ∀ base, Sm.Fn prog w K mg base 1 "names_behind" P_names_behind (sp_names_behind K) := fun base => ⟨_, fd_names_behind, ok_names_behind T F_names_behind , He.glo_ok X G (c.s.d.fact 54 (f := .glo "names_behind") rfl), F_names_behind.kp, FunD.bindsN F_names_behind fun _ _ _ _ _ _ us hl => match us, hl with | [_, _], _ => rfl⟩
  have O_Disk_names : ∀ base, L2.FnOk prog w K mg base (L2.CX prog w) 1 _ fd_Disk_names P_Disk_names (sp_Disk_names K) := fun base => ok_Disk_names T F_Disk_names 
  have G_Disk_names : ∀ base, Sm.Prp prog w K mg base 1 (He.ga K "Disk") "names" (sp_Disk_names K) := fun base => Sm.prp_ok (d := p_Disk_names) (c.pr _ (List.mem_of_getElem? (i := 0) rfl)).1 (O_Disk_names base) (FunD.bindsN F_Disk_names fun _ _ _ _ _ _ us hl => match us, hl with | [_], _ => rfl)
  have O_Disk_steps : ∀ base, L2.FnOk prog w K mg base (L2.CX prog w) 1 _ fd_Disk_steps P_Disk_steps (sp_Disk_steps K) := fun base => ok_Disk_steps T F_Disk_steps 
  have G_Disk_steps : ∀ base, Sm.Prp prog w K mg base 1 (He.ga K "Disk") "steps" (sp_Disk_steps K) := fun base => Sm.prp_ok (d := p_Disk_steps) (c.pr _ (List.mem_of_getElem? (i := 1) rfl)).1 (O_Disk_steps base) (FunD.bindsN F_Disk_steps fun _ _ _ _ _ _ us hl => match us, hl with | [_], _ => rfl)
  have O_Disk_do_step : ∀ base, L2.FnOk prog w K mg base (L2.CX prog w) 1 _ fd_Disk_do_step P_Disk_do_step (sp_Disk_do_step K) := fun base => ok_Disk_do_step T F_Disk_do_step 
  have G_Disk_do_step : ∀ base, Sm.Me prog w K mg base 1 (He.ga K "Disk") "do_step" P_Disk_do_step (sp_Disk_do_step K) := fun base => Sm.me_ok (c.s.d.fact 69 (f := .meth "Disk" "do_step") rfl) (O_Disk_do_step base) (FunD.bindsN F_Disk_do_step fun _ _ _ _ _ _ us hl => match us, hl with | [_], _ => rfl)
  have O_Disk___contains__ : ∀ base, L2.FnOk prog w K mg base (L2.CX prog w) 1 _ fd_Disk___contains__ P_Disk___contains__ (sp_Disk___contains__ K) := fun base => ok_Disk___contains__ T F_Disk___contains__ 
  have G_Disk___contains__ : ∀ base, Sm.Me prog w K mg base 1 (He.ga K "Disk") "__contains__" P_Disk___contains__ (sp_Disk___contains__ K) := fun base => Sm.me_ok (c.s.d.fact 78 (f := .meth "Disk" "__contains__") rfl) (O_Disk___contains__ base) (FunD.bindsN F_Disk___contains__ fun _ _ _ _ _ _ us hl => match us, hl with | [_, _], _ => rfl)
  have O_Disk___len__ : ∀ base, L2.FnOk prog w K mg base (L2.CX prog w) 1 _ fd_Disk___len__ P_Disk___len__ (sp_Disk___len__ K) := fun base => ok_Disk___len__ T F_Disk___len__ 
  have G_Disk___len__ : ∀ base, Sm.Me prog w K mg base 1 (He.ga K "Disk") "__len__" P_Disk___len__ (sp_Disk___len__ K) := fun base => Sm.me_ok (c.s.d.fact 79 (f := .meth "Disk" "__len__") rfl) (O_Disk___len__ base) (FunD.bindsN F_Disk___len__ fun _ _ _ _ _ _ us hl => match us, hl with | [_], _ => rfl)
  have O_Disk___str__ : ∀ base, L2.FnOk prog w K mg base (L2.CX prog w) 1 _ fd_Disk___str__ P_Disk___str__ (sp_Disk___str__ K) := fun base => ok_Disk___str__ T F_Disk___str__ 
  have G_Disk___str__ : ∀ base, Sm.Me prog w K mg base 1 (He.ga K "Disk") "__str__" P_Disk___str__ (sp_Disk___str__ K) := fun base => Sm.me_ok (c.s.d.fact 80 (f := .meth "Disk" "__str__") rfl) (O_Disk___str__ base) (FunD.bindsN F_Disk___str__ fun _ _ _ _ _ _ us hl => match us, hl with | [_], _ => rfl)
  have G__law_dice : ∀ base, Sm.Fn prog w K mg base 1 "_law_dice" P__law_dice (sp__law_dice K) := fun base => ⟨_, fd__law_dice, ok__law_dice T F__law_dice , He.glo_ok X G (c.s.d.fact 55 (f := .glo "_law_dice") rfl), F__law_dice.kp, FunD.bindsN F__law_dice fun _ _ _ _ _ _ us hl => match us, hl with | [_, _], _ => rfl⟩
  have G__law_roll : ∀ base, Sm.Fn prog w K mg base 1 "_law_roll" P__law_roll (sp__law_roll K) := fun base => ⟨_, fd__law_roll, ok__law_roll T F__law_roll , He.glo_ok X G (c.s.d.fact 56 (f := .glo "_law_roll") rfl), F__law_roll.kp, FunD.bindsN F__law_roll fun _ _ _ _ _ _ us hl => match us, hl with | [_, _], _ => rfl⟩
  have G__law_new : ∀ base, Sm.Fn prog w K mg base 1 "_law_new" P__law_new (sp__law_new K) := fun base => ⟨_, fd__law_new, ok__law_new T F__law_new , He.glo_ok X G (c.s.d.fact 59 (f := .glo "_law_new") rfl), F__law_new.kp, FunD.bindsN F__law_new fun _ _ _ _ _ _ us hl => match us, hl with | [_], _ => rfl⟩
  have G__law_names : ∀ base, Sm.Fn prog w K mg base 1 "_law_names" P__law_names (sp__law_names K) := fun base => ⟨_, fd__law_names, ok__law_names T F__law_names , He.glo_ok X G (c.s.d.fact 60 (f := .glo "_law_names") rfl), F__law_names.kp, FunD.bindsN F__law_names fun _ _ _ _ _ _ us hl => match us, hl with | [_, _], _ => rfl⟩
  have G__law_is_name : ∀ base, Sm.Fn prog w K mg base 1 "_law_is_name" P__law_is_name (sp__law_is_name K) := fun base => ⟨_, fd__law_is_name, ok__law_is_name T F__law_is_name , He.glo_ok X G (c.s.d.fact 62 (f := .glo "_law_is_name") rfl), F__law_is_name.kp, FunD.bindsN F__law_is_name fun _ _ _ _ _ _ us hl => match us, hl with | [_], _ => rfl⟩
  have G_is_integer : ∀ base, Sm.Fn prog w K mg base 2 "is_integer" P_is_integer (sp_is_integer K) := fun base => ⟨_, fd_is_integer, ok_is_integer T F_is_integer (G_is_whole base), He.glo_ok X G (c.s.d.fact 49 (f := .glo "is_integer") rfl), F_is_integer.kp, FunD.bindsN F_is_integer fun _ _ _ _ _ _ us hl => match us, hl with | [_], _ => rfl⟩
  have O_Disk_require_file : ∀ base, L2.FnOk prog w K mg base (L2.CX prog w) 2 _ fd_Disk_require_file P_Disk_require_file (sp_Disk_require_file K) := fun base => ok_Disk_require_file T F_Disk_require_file (G_Disk___contains__ base)
  have G_Disk_require_file : ∀ base, Sm.Me prog w K mg base 2 (He.ga K "Disk") "require_file" P_Disk_require_file (sp_Disk_require_file K) := fun base => Sm.me_ok (c.s.d.fact 68 (f := .meth "Disk" "require_file") rfl) (O_Disk_require_file base) (FunD.bindsN F_Disk_require_file fun _ _ _ _ _ _ us hl => match us, hl with | [_, _], _ => rfl)
  have O_Disk_change_names : ∀ base, L2.FnOk prog w K mg base (L2.CX prog w) 2 _ fd_Disk_change_names P_Disk_change_names (sp_Disk_change_names K) := fun base => ok_Disk_change_names T F_Disk_change_names (G_names_behind base)
  have G_Disk_change_names : ∀ base, Sm.Me prog w K mg base 2 (He.ga K "Disk") "change_names" P_Disk_change_names (sp_Disk_change_names K) := fun base => Sm.me_ok (c.s.d.fact 70 (f := .meth "Disk" "change_names") rfl) (O_Disk_change_names base) (FunD.bindsN F_Disk_change_names fun _ _ _ _ _ _ us hl => match us, hl with | [_, _], _ => rfl)
  have O_Disk_sync_names : ∀ base, L2.FnOk prog w K mg base (L2.CX prog w) 2 _ fd_Disk_sync_names P_Disk_sync_names (sp_Disk_sync_names K) := fun base => ok_Disk_sync_names T F_Disk_sync_names (G_Disk_do_step base)
  have G_Disk_sync_names : ∀ base, Sm.Me prog w K mg base 2 (He.ga K "Disk") "sync_names" P_Disk_sync_names (sp_Disk_sync_names K) := fun base => Sm.me_ok (c.s.d.fact 75 (f := .meth "Disk" "sync_names") rfl) (O_Disk_sync_names base) (FunD.bindsN F_Disk_sync_names fun _ _ _ _ _ _ us hl => match us, hl with | [_], _ => rfl)
  have G__law_one_of : ∀ base, Sm.Fn prog w K mg base 2 "_law_one_of" P__law_one_of (sp__law_one_of K) := fun base => ⟨_, fd__law_one_of, ok__law_one_of T F__law_one_of (G__law_roll base), He.glo_ok X G (c.s.d.fact 57 (f := .glo "_law_one_of") rfl), F__law_one_of.kp, FunD.bindsN F__law_one_of fun _ _ _ _ _ _ us hl => match us, hl with | [_, _], _ => rfl⟩
  have G__law_step : ∀ base, Sm.Fn prog w K mg base 2 "_law_step" P__law_step (sp__law_step K) := fun base => ⟨_, fd__law_step, ok__law_step T F__law_step (G__law_names base) (G__law_is_name base), He.glo_ok X G (c.s.d.fact 61 (f := .glo "_law_step") rfl), F__law_step.kp, FunD.bindsN F__law_step fun _ _ _ _ _ _ us hl => match us, hl with | [_, _], _ => rfl⟩
  have G__law_lost : ∀ base, Sm.Fn prog w K mg base 2 "_law_lost" P__law_lost (sp__law_lost K) := fun base => ⟨_, fd__law_lost, ok__law_lost T F__law_lost (G__law_names base) (G__law_new base), He.glo_ok X G (c.s.d.fact 63 (f := .glo "_law_lost") rfl), F__law_lost.kp, FunD.bindsN F__law_lost fun _ _ _ _ _ _ us hl => match us, hl with | [_, _, _], _ => rfl⟩
  have G_require_power : ∀ base, Sm.Fn prog w K mg base 3 "require_power" P_require_power (sp_require_power K) := fun base => ⟨_, fd_require_power, ok_require_power T F_require_power (G_is_integer base), He.glo_ok X G (c.s.d.fact 52 (f := .glo "require_power") rfl), F_require_power.kp, FunD.bindsN F_require_power fun _ _ _ _ _ _ us hl => match us, hl with | [_], _ => rfl⟩
  have G_are_choices : ∀ base, Sm.Fn prog w K mg base 3 "are_choices" P_are_choices (sp_are_choices K) := fun base => ⟨_, fd_are_choices, ok_are_choices T F_are_choices (G_is_integer base), He.glo_ok X G (c.s.d.fact 53 (f := .glo "are_choices") rfl), F_are_choices.kp, FunD.bindsN F_are_choices fun _ _ _ _ _ _ us hl => match us, hl with | [_], _ => rfl⟩
  have O_Disk_append : ∀ base, L2.FnOk prog w K mg base (L2.CX prog w) 3 _ fd_Disk_append P_Disk_append (sp_Disk_append K) := fun base => ok_Disk_append T F_Disk_append (G_is_name base) (G_is_disk_text base) (G_Disk_do_step base) (G_Disk_change_names base) (G_DiskFile___init__ base)
  have G_Disk_append : ∀ base, Sm.Me prog w K mg base 3 (He.ga K "Disk") "append" P_Disk_append (sp_Disk_append K) := fun base => Sm.me_ok (c.s.d.fact 71 (f := .meth "Disk" "append") rfl) (O_Disk_append base) (FunD.bindsN F_Disk_append fun _ _ _ _ _ _ us hl => match us, hl with | [_, _, _], _ => rfl)
  have O_Disk_sync : ∀ base, L2.FnOk prog w K mg base (L2.CX prog w) 3 _ fd_Disk_sync P_Disk_sync (sp_Disk_sync K) := fun base => ok_Disk_sync T F_Disk_sync (G_Disk_require_file base) (G_Disk_do_step base)
  have G_Disk_sync : ∀ base, Sm.Me prog w K mg base 3 (He.ga K "Disk") "sync" P_Disk_sync (sp_Disk_sync K) := fun base => Sm.me_ok (c.s.d.fact 72 (f := .meth "Disk" "sync") rfl) (O_Disk_sync base) (FunD.bindsN F_Disk_sync fun _ _ _ _ _ _ us hl => match us, hl with | [_, _], _ => rfl)
  have O_Disk_remove : ∀ base, L2.FnOk prog w K mg base (L2.CX prog w) 3 _ fd_Disk_remove P_Disk_remove (sp_Disk_remove K) := fun base => ok_Disk_remove T F_Disk_remove (G_Disk_require_file base) (G_Disk_do_step base) (G_Disk_change_names base)
  have G_Disk_remove : ∀ base, Sm.Me prog w K mg base 3 (He.ga K "Disk") "remove" P_Disk_remove (sp_Disk_remove K) := fun base => Sm.me_ok (c.s.d.fact 73 (f := .meth "Disk" "remove") rfl) (O_Disk_remove base) (FunD.bindsN F_Disk_remove fun _ _ _ _ _ _ us hl => match us, hl with | [_, _], _ => rfl)
  have O_Disk_rename : ∀ base, L2.FnOk prog w K mg base (L2.CX prog w) 3 _ fd_Disk_rename P_Disk_rename (sp_Disk_rename K) := fun base => ok_Disk_rename T F_Disk_rename (G_is_name base) (G_Disk_require_file base) (G_Disk_do_step base) (G_Disk_change_names base)
  have G_Disk_rename : ∀ base, Sm.Me prog w K mg base 3 (He.ga K "Disk") "rename" P_Disk_rename (sp_Disk_rename K) := fun base => Sm.me_ok (c.s.d.fact 74 (f := .meth "Disk" "rename") rfl) (O_Disk_rename base) (FunD.bindsN F_Disk_rename fun _ _ _ _ _ _ us hl => match us, hl with | [_, _, _], _ => rfl)
  have O_Disk_read : ∀ base, L2.FnOk prog w K mg base (L2.CX prog w) 3 _ fd_Disk_read P_Disk_read (sp_Disk_read K) := fun base => ok_Disk_read T F_Disk_read (G_Disk_require_file base)
  have G_Disk_read : ∀ base, Sm.Me prog w K mg base 3 (He.ga K "Disk") "read" P_Disk_read (sp_Disk_read K) := fun base => Sm.me_ok (c.s.d.fact 76 (f := .meth "Disk" "read") rfl) (O_Disk_read base) (FunD.bindsN F_Disk_read fun _ _ _ _ _ _ us hl => match us, hl with | [_, _], _ => rfl)
  have O_Disk___init__ : ∀ base, L2.FnOk prog w K mg base (L2.CX prog w) 4 _ fd_Disk___init__ P_Disk___init__ (sp_Disk___init__ K) := fun base => ok_Disk___init__ T F_Disk___init__ (G_require_power base)
  obtain ⟨_, B_G_Disk___init___K1⟩ := FunD.kbinds0 F_Disk___init__ (ps := P_Disk___init__) 1 ["power"] [] (fun us mv ws => us ++ ws) (by simp [He.DefD.kws, t_Disk___init__]) (fun q hq => nomatch hq) (fun r1 r2 r3 => r1.append r3) (fun D doc pm an cdv ct us mv ws h1 h2 h3 => match us, h1, mv, h2, ws, h3 with | [_], _, [], _, [_], _ => rfl)
  have G_Disk___init___K1 : ∀ base, Sm.MakK prog w K mg base 4 "Disk" P_Disk___init__ (sp_Disk___init__ K) 1 ["power"] (fun vs zs => vs ++ zs) := fun base => Sm.makK_ok (c.s.d.fact 81 (f := .mkr "Disk") rfl) (He.glo_ok X G (c.s.d.fact 83 (f := .glo "Disk") rfl)) (O_Disk___init__ base) B_G_Disk___init___K1
  have G__law_is_like : ∀ base, Sm.Fn prog w K mg base 4 "_law_is_like" P__law_is_like (sp__law_is_like K) := fun base => ⟨_, fd__law_is_like, ok__law_is_like T F__law_is_like (G__law_names base) (G_Disk___contains__ base) (G_Disk___str__ base) (G_Disk_names base) (G_Disk_steps base) (G_Disk___len__ base) (G_Disk_read base), He.glo_ok X G (c.s.d.fact 65 (f := .glo "_law_is_like") rfl), F__law_is_like.kp, FunD.bindsN F__law_is_like fun _ _ _ _ _ _ us hl => match us, hl with | [_, _], _ => rfl⟩
  have O_Disk_lost : ∀ base, L2.FnOk prog w K mg base (L2.CX prog w) 6 _ fd_Disk_lost P_Disk_lost (sp_Disk_lost K) := fun base => ok_Disk_lost T F_Disk_lost (G_require_power base) (G_are_choices base) (G_names_behind base) (G_Disk___init___K1 base) (G_DiskFile___init__ base)
  obtain ⟨_, _, B_G_Disk_lost_K2⟩ := FunD.kbinds F_Disk_lost (ps := P_Disk_lost) 2 ["power"] [] (fun us its mv ws => us ++ ws) (by simp [He.DefD.dvs, t_Disk_lost]) (by simp [He.DefD.kws, t_Disk_lost]) (fun q hq => nomatch hq) (fun r1 r2 r3 r4 => r1.append r4) (fun T D doc pm an cdv ct us its mv ws h1 h2 h3 h4 => match us, h1, its, h2, mv, h3, ws, h4 with | [_, _], _, [_], _, [], _, [_], _ => ⟨_, rfl, rfl⟩)
  have G_Disk_lost_K2 : ∀ base, Sm.MeK prog w K mg base 6 (He.ga K "Disk") "lost" P_Disk_lost (sp_Disk_lost K) 2 ["power"] (fun vs zs => vs ++ zs) := fun base => Sm.meK_ok (c.s.d.fact 77 (f := .meth "Disk" "lost") rfl) (O_Disk_lost base) B_G_Disk_lost_K2
  obtain ⟨_, _, B_G_Disk_lost_K1⟩ := FunD.kbinds F_Disk_lost (ps := P_Disk_lost) 1 ["power"] [] (fun us its mv ws => us ++ its ++ ws) (by simp [He.DefD.dvs, t_Disk_lost]) (by simp [He.DefD.kws, t_Disk_lost]) (fun q hq => nomatch hq) (fun r1 r2 r3 r4 => (r1.append r2).append r4) (fun T D doc pm an cdv ct us its mv ws h1 h2 h3 h4 => match us, h1, its, h2, mv, h3, ws, h4 with | [_], _, [_], _, [], _, [_], _ => ⟨_, rfl, rfl⟩)
  have G_Disk_lost_K1 : ∀ base, Sm.MeK prog w K mg base 6 (He.ga K "Disk") "lost" P_Disk_lost (sp_Disk_lost K) 1 ["power"] (fun vs zs => vs ++ [.ref (He.dflAt ("Disk", some "lost") 0 K)] ++ zs) := fun base => Sm.meK_ok (c.s.d.fact 77 (f := .meth "Disk" "lost") rfl) (O_Disk_lost base) B_G_Disk_lost_K1
  have G__law_done : ∀ base, (∀ p ∈ tf, LamX.TabB base mg (He.cT K p).1 (He.cT K p).2) → Sm.FnH prog w K mg base 6 "_law_done" P__law_done (sp__law_done K) := fun base hTB => ⟨_, fd__law_done, ok__law_done T F__law_done (hTB _ (List.mem_of_getElem? (i := 0) rfl)) c.nod (catch_ok T (He.glo_ok X G (c.s.d.fact 58 (f := .glo "_law_word_of") rfl)) F__law_word_of (FunD.bindsN F__law_word_of fun _ _ _ _ _ _ us hl => match us, hl with | [_], _ => rfl)) (G_Disk_append base) (G_Disk_sync base) (G_Disk_remove base) (G_Disk_sync_names base) (G_Disk_rename base), He.glo_ok X G (c.s.d.fact 64 (f := .glo "_law_done") rfl), F__law_done.kp, FunD.bindsN F__law_done fun _ _ _ _ _ _ us hl => match us, hl with | [_, _], _ => rfl⟩
  have G__law_disks_right : ∀ base, (∀ p ∈ tf, LamX.TabB base mg (He.cT K p).1 (He.cT K p).2) → Sm.FnH prog w K mg base 9 "_law_disks_right" P__law_disks_right (sp__law_disks_right K) := fun base hTB => ⟨_, fd__law_disks_right, ok__law_disks_right T F__law_disks_right (G__law_one_of base) (G__law_roll base) (G__law_new base) (G__law_is_like base) (G__law_lost base) (G__law_done base hTB) (G__law_step base) (hTB _ (List.mem_of_getElem? (i := 1) rfl)) c.nod (catch_ok T (He.glo_ok X G (c.s.d.fact 58 (f := .glo "_law_word_of") rfl)) F__law_word_of (FunD.bindsN F__law_word_of fun _ _ _ _ _ _ us hl => match us, hl with | [_], _ => rfl)) (G_Disk___init___K1 base) (G_Disk_lost_K2 base) (G_Disk_lost_K1 base) (G_Disk_read base), He.glo_ok X G (c.s.d.fact 66 (f := .glo "_law_disks_right") rfl), F__law_disks_right.kp, FunD.bindsN F__law_disks_right fun _ _ _ _ _ _ us hl => match us, hl with | [_], _ => rfl⟩
  exact ⟨fd_law, F_law, fun base hTB => ok_law T F_law (G__law_disks_right base hTB) (G__law_dice base)⟩
end
theorem tabs_in {K : PySem.W.Frag} {H : L2.Hp} (h : ∀ p ∈ tf.map (He.cT K), H p.2 = some (.tbl #[])) : LamX.Tabs (TT K) H := by
  intro p hp
  rcases List.mem_cons.mp hp with rfl | hp
  · exact LamX.TabS.nil (h _ (List.mem_map.mpr ⟨("_law_done", none), List.mem_of_getElem? (i := 0) rfl, rfl⟩))
  rcases List.mem_cons.mp hp with rfl | hp
  · exact LamX.TabS.nil (h _ (List.mem_map.mpr ⟨("_law_disks_right", none), List.mem_of_getElem? (i := 1) rfl, rfl⟩))
  cases hp
end K59
open PySem PySem.W PySem.Calls PyProof.Rows
theorem PySem.Challenge.cw_sumstead_k59_whole_disks_behind_losses_o_holds : PySem.Challenge.rw_sumstead_k59_whole_disks_behind_losses_o.Holds := by
  w_on; o_law
  refine HandSHeadRun.head_any (r := OpenLaw.row PySem.Challenge.rw_sumstead_k59_whole_disks_behind_losses_o) (q := view (OpenLaw.row PySem.Challenge.rw_sumstead_k59_whole_disks_behind_losses_o).prog [42]) (H := K59.hk) (ob := K59.ob) (M := 4000) (loose := K59.loose) (d := HandSHeadRun.topDef (OpenLaw.row PySem.Challenge.rw_sumstead_k59_whole_disks_behind_losses_o).prog 42) (kwd := []) K59.ob_eq
    (by kernel_rfl) (fun s => by kernel_rfl) K59.run (by kernel_rfl) (by kernel_rfl) (by kernel_rfl) (by rfl) (by first | assumption | decide +kernel) (by decide +kernel) ⟨rfl, rfl, rfl, rfl, rfl, by decide +kernel⟩ ?hw ?hc
  case hw => w_witness2
  case hc =>
    refine Sm.walk_G (l := PySem.Challenge.rw_sumstead_k59_whole_disks_behind_losses_o) (n := 63) (k := 10) (x := "_law_script") rfl (by decide) (by kernel_rfl) ⟨rfl, by decide, by decide⟩ ?F
    intro w mg fa h Y G hmg0
    obtain ⟨K, X, c⟩ := Y
    have hmg : mg ("law" : PySem.Str) = some (.ref fa) := by
      have e : (HandSHeadRun.topDef (OpenLaw.row PySem.Challenge.rw_sumstead_k59_whole_disks_behind_losses_o).prog 42).name = ("law" : PySem.Str) := by kernel_rfl
      rw [← e]
      exact hmg0
    obtain ⟨fd, F, hF⟩ := K59.law_ok (w := w) X G c
    have e := hmg.symm.trans (He.glo_ok X G (c.s.d.fact 67 (f := .glo "law") rfl))
    cases e
    have b := L2.FunD.bindsA (ps := ["_law_script"]) F fun _ _ _ _ _ _ us hl => match us, hl with | [_], _ => rfl
    refine ⟨K, X, fd, K59.tf.map (He.cT K), K59.sp_law K, fun p hp => ?_, fun p hp => ?_, fun p hp => ?_, fun s v => b s [v] rfl, fun H a ns hl hT hS => ⟨a, ns, rfl, hS, hl, K59.tabs_in hT, fun _ => rfl⟩, fun base _ _ hTB => hF base fun q hq => hTB _ (List.mem_map.mpr ⟨q, hq, rfl⟩)⟩
    · obtain ⟨q, hq, rfl⟩ := List.mem_map.mp hp
      exact c.empty q hq
    · obtain ⟨q, hq, rfl⟩ := List.mem_map.mp hp
      exact c.out q hq
    · obtain ⟨q, hq, rfl⟩ := List.mem_map.mp hp
      exact PySem.W.codeHd_of_K X (c.hd q hq)
