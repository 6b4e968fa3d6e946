import PyProof.Rows.All
import Wide.All
import OpenK.AllK
import Wide.FinOn
import KE.KStateDown
import HandS.ForMost
import HandS.ForExc
import HandS.Defaults
import HandS.Wide
import HandS.IsInst
import HandS.Head0
import HandS.Head1
import HandS.Head2
import HandS.HeadEnd
import HandS.HeadHook1
import HandS.HeadHook2
import HandS.Property
import HandS.ClsMeth
import HandS.IterVal
import HandS.OwnEq
import HandS.DictSub
import HandS.HeadNt
import HandS.DictComp
import HandS.OwnIter
import HandS.Star
import KE.DataEq
import KE.KOpsOwn
import PySem.Challenge.RW_roundminutes_k09_timetable_is_told_back
set_option Elab.async false
set_option linter.all false
set_option maxRecDepth 100000
set_option maxHeartbeats 4000000
/-! RB: the base of this workplace's proofs: facts of the head by a Hook, steps of readings, heaps, the pool. -/
namespace Rm
open PySem PySem.Spec L2
abbrev St := L2.St
/-! ### the head's facts -/
/-- a def of the text: where its object stands, its own words -/
structure DD where
  adr : PySem.W.Frag → Addr
  name : Str
  qual : Str
  st : Stmt
  dfl : List He.Dv := []
  kwd : List (Str × He.Dv) := []
def fnX (K : PySem.W.Frag) (a : Addr) : He.FnW := match K.lookup a with
  | some ⟨_, _, .func fd, _⟩ => some (fd.name, fd.qualname, fd.params, fd.body, fd.scope, fd.globals, fd.closure, fd.builtins)
  | _ => none
def DD.val (d : DD) : He.FnW := some (d.name, d.qual, defArgs d.st, .stmts (defBody d.st), defScope d.st, mainGlobals, [], builtinsNs)
def DD.dvs (K : PySem.W.Frag) (d : DD) : List V := d.dfl.map (He.Dv.v K)
def DD.kws (K : PySem.W.Frag) (d : DD) : List (Str × V) := d.kwd.map fun q => (q.1, q.2.v K)
def DD.ok (K : PySem.W.Frag) (d : DD) : Bool := PySem.W.keepIn K (.ref (d.adr K)) && (match K.lookup (d.adr K) with
  | some ⟨_, _, .func fd, _⟩ => PySem.W.codeIn K fd.code d.qual && (He.dflB K fd.defaults (d.dvs K) && He.kwdB K fd.kwdefaults (d.kws K))
  | _ => false)
/-- the function object at an address -/
def fdA (K : PySem.W.Frag) (a : Addr) : FuncData := match K.lookup a with
  | some ⟨_, _, .func fd, _⟩ => fd
  | _ => PySem.W.fnOf "" "" (defArgs (.Pass ⟨0, 0, 0, 0⟩)) [] (defScope (.Pass ⟨0, 0, 0, 0⟩)) .none .none .none .none none .none .none
abbrev FunAt (K : PySem.W.Frag) (d : DD) : Prop := FunD K d.name d.qual (defArgs d.st) (defBody d.st) (defScope d.st) (d.dvs K) (d.kws K) (d.adr K) (fdA K (d.adr K))
theorem DD.funD {K : PySem.W.Frag} {d : DD} (e : fnX K (d.adr K) = d.val) (c : d.ok K = true) : FunAt K d := by
  obtain ⟨kp, c2⟩ := He.ba c
  unfold fnX at e
  cases q : K.lookup (d.adr K) with
  | none =>
    rw [q] at c2
    cases c2
  | some o =>
    obtain ⟨oc, od, dt, osl⟩ := o
    rw [q] at c2 e
    cases dt with
    | func fd =>
      have ef : fdA K (d.adr K) = fd := by
        unfold fdA
        rw [q]
      show FunD K d.name d.qual (defArgs d.st) (defBody d.st) (defScope d.st) (d.dvs K) (d.kws K) (d.adr K) (fdA K (d.adr K))
      rw [ef]
      obtain ⟨n1, n2, n3, n4, n5, n6, n7, n8, n9, n10, n11, n12, n13, n14, n15⟩ := fd
      have e2 : (some (n1, n2, n3, n4, n5, n6, n7, n15) : He.FnW) = some (d.name, d.qual, defArgs d.st, .stmts (defBody d.st), defScope d.st, mainGlobals, [], builtinsNs) := e
      simp only [Option.some.injEq, Prod.mk.injEq] at e2
      obtain ⟨h1, h2, h3, h4, h5, h6, h7, h8⟩ := e2
      subst h1 h2 h3 h4 h5 h6 h7 h8
      have c3 : (PySem.W.codeIn K n13 d.qual && (He.dflB K n8 (d.dvs K) && He.kwdB K n9 (d.kws K))) = true := c2
      obtain ⟨k1, k2⟩ := He.ba c3
      obtain ⟨k3, k4⟩ := He.ba k2
      exact ⟨⟨oc, od, n8, n9, n10, n11, n12, n13, n14, osl, rfl, q, k1, He.dflB_ok k3, He.kwdB_ok k4⟩, kp⟩
    | _ => cases c2
abbrev Fc := PySem.W.Frag → Bool
def obsX (fa : List Fc) (fn : List DD) (K : PySem.W.Frag) : He.AlD := ((fa.all fun f => f K) && fn.all fun d => d.ok K, fn.map fun d => fnX K (d.adr K))
def valX (fn : List DD) : He.AlD := (true, fn.map DD.val)
def SaysX (fa : List Fc) (fn : List DD) (K : PySem.W.Frag) : Prop := obsX fa fn K = valX fn
def obsXG (n : Nat) (fa : List Fc) (fn : List DD) (g : Addr → Option Obj) : He.AlD := obsX fa fn (He.frG g (He.asD g n ++ [PySem.cStatics]))
def hookX (n : Nat) (fa : List Fc) (fn : List DD) : PySem.W.Hook where
  α := He.AlD
  obs := fun s => obsXG n fa fn s.heap.get?
  val := fun _ => valX fn
  says := fun _ h => ∃ K : PySem.W.Frag, K.In h ∧ SaysX fa fn K
  of := fun _ _ e => ⟨_, He.frG_in, e⟩
  keeps := fun _ _ _ ⟨K, hK, c⟩ k => ⟨K, PySem.W.Frag.In.keeps hK k, c⟩
theorem obsXG_eq {n : Nat} {fa : List Fc} {fn : List DD} {g : Addr → Option Obj} {s : Shared} (h : ∀ a, g a = s.heap.get? a) : obsXG n fa fn g = (hookX n fa fn).obs s := by
  have e : g = s.heap.get? := funext h
  rw [e] <;> rfl
section
variable {fa : List Fc} {fn : List DD} {K : PySem.W.Frag}
theorem SaysX.fact (c : SaysX fa fn K) (i : Nat) {f : Fc} (h : fa[i]? = some f := by rfl) : f K = true := by
  have c1 := (He.ba (show ((fa.all fun f => f K) && fn.all fun d => d.ok K) = true from congrArg (fun z : He.AlD => z.1) c)).1
  exact List.all_eq_true.mp c1 f (List.mem_of_getElem? h)
theorem SaysX.def_ (c : SaysX fa fn K) (i : Nat) {d : DD} (h : fn[i]? = some d := by rfl) : FunAt K d := by
  have c2 := (He.ba (show ((fa.all fun f => f K) && fn.all fun d => d.ok K) = true from congrArg (fun z : He.AlD => z.1) c)).2
  have e : fn.map (fun d => fnX K (d.adr K)) = fn.map DD.val := congrArg (fun z : He.AlD => z.2) c
  have e2 : (fn.map fun d => fnX K (d.adr K))[i]? = (fn.map DD.val)[i]? := by rw [e]
  rw [List.getElem?_map, List.getElem?_map, h] at e2
  exact DD.funD (Option.some.inj e2) (List.all_eq_true.mp c2 d (List.mem_of_getElem? h))
end
/-- what every def of a law may lean on -/
structure Tx (fa : List Fc) (fn : List DD) (K : PySem.W.Frag) (mg : Str → Option Value) : Prop where
  h : ∃ hp : Heap, K.In hp ∧ hp.Ns mainGlobals mg
  c : SaysX fa fn K
section
variable {fa : List Fc} {fn : List DD} {K : PySem.W.Frag} {mg : Str → Option Value}
theorem Tx.glo (T : Tx fa fn K mg) {x : Str} (c : (He.Fa.glo x).ok K = true) : mg x = some (.ref (He.ga K x)) := let ⟨_, X, G⟩ := T.h; He.glo_ok X G c
theorem Tx.free (T : Tx fa fn K mg) {x : Str} (c : (He.Fa.free x).ok K = true) : mg x = none := let ⟨_, X, G⟩ := T.h; He.free_ok X G c
theorem Tx.int (T : Tx fa fn K mg) {x : Str} {i : Int} (c : (He.Fa.int x i).ok K = true) : ∃ t, mg x = some (.int i t) := let ⟨_, X, G⟩ := T.h; He.int_ok X G c
theorem Tx.str (T : Tx fa fn K mg) {x z : Str} (c : (He.Fa.str x z).ok K = true) : ∃ t, mg x = some (.str z t) := let ⟨_, X, G⟩ := T.h; He.str_ok X G c
end
theorem pe_globT {X : Cx} {x : Str} {v : V} {pos : Pos} (hg : Gl X x) (h : ∃ u, X.mg x = some u ∧ RelV v u) (hd : (x == ("__debug__" : Str)) = false := by decide) : PE X (.Name x pos) (tC v) :=
  let ⟨_, hm, r⟩ := h; pe_glob hg hm r hd
theorem str_rel {mg : Str → Option Value} {x z : Str} (h : ∃ t, mg x = some (.str z t)) : ∃ u, mg x = some u ∧ RelV (V.str z) u := let ⟨t, e⟩ := h; ⟨_, e, t, rfl⟩
theorem int_rel {mg : Str → Option Value} {x : Str} {z : Int} (h : ∃ t, mg x = some (.int z t)) : ∃ u, mg x = some u ∧ RelV (V.int z) u := let ⟨t, e⟩ := h; ⟨_, e, t, rfl⟩
/-! ### operators by short names -/
abbrev rAddI : R2 := rI0 fun i j => .int (i + j)
abbrev rSubI : R2 := rI0 fun i j => .int (i - j)
abbrev rMulI : R2 := rI CMul fun i j => .int (i * j)
abbrev rModI : R2 := rI (fun _ j => 0 < j) fun i j => .int (i % j)
abbrev rDivI : R2 := rI CDivW fun i j => .int (i / j)
abbrev rPowI : R2 := rI CPow fun i j => .int (i ^ j.toNat)
abbrev rLtI : R2 := rI0 fun i j => .bl (decide (i < j))
abbrev rLeI : R2 := rI0 fun i j => .bl (decide (i ≤ j))
abbrev rGtI : R2 := rI0 fun i j => .bl (decide (j < i))
abbrev rGeI : R2 := rI0 fun i j => .bl (decide (j ≤ i))
abbrev rAddS : R2 := fun x y H Q => ∃ i j, x = .str i ∧ y = .str j ∧ i.length + j.length ≤ sizeLine ∧ Q (.str (i ++ j)) H
abbrev rIsN : R2 := fun x y H Q => y = .non ∧ Q (.bl (decide (x = .non))) H
abbrev rNotN : R2 := fun x y H Q => y = .non ∧ Q (.bl (!decide (x = .non))) H
abbrev rInC : R2 := fun x y H Q => ∃ (c : Nat) (z : Str), x = .str ⟨#[c]⟩ ∧ y = .str z ∧ Q (.bl (decide (c ∈ z.cps.toList))) H
abbrev rNotInC : R2 := fun x y H Q => ∃ (c : Nat) (z : Str), x = .str ⟨#[c]⟩ ∧ y = .str z ∧ Q (.bl (!decide (c ∈ z.cps.toList))) H
abbrev rNegI : V → Hp → VK → Prop := rU fun i => .int (-i)
abbrev RC := List V → Hp → VK → Prop
abbrev rLenQ (K : PySem.W.Frag) : RC := fun xs H Q => ∃ p ys, xs = [.ref p] ∧ (SqL K H p ys ∨ SqT K H p ys) ∧ Q (.int ys.length) H
abbrev rLenS : RC := fun xs H Q => ∃ z, xs = [.str z] ∧ z.length ≤ sizeLine ∧ Q (.int z.length) H
abbrev rIntI : RC := fun xs H Q => (∃ i, xs = [.int i] ∧ Q (.int i) H) ∨ ∃ k, xs = [.bl k] ∧ Q (.int (if k then 1 else 0)) H
abbrev rStrI : RC := fun xs H Q => ∃ i, xs = [.int i] ∧ i.natAbs.log2 < 1920 ∧ Q (.str (toString i)) H
abbrev rListQ (K : PySem.W.Frag) : RC := fun xs H Q => ∃ p ys, xs = [.ref p] ∧ (SqL K H p ys ∨ SqT K H p ys) ∧ ∀ l, H l = none → Q (.ref l) (upd H l (.lst ys))
abbrev rAbsI : RC := fun xs H Q => ∃ i, xs = [.int i] ∧ Q (.int (if i < 0 then -i else i)) H
abbrev rMax2 : RC := fun xs H Q => ∃ i j, xs = [.int i, .int j] ∧ Q (.int (if j > i then j else i)) H
abbrev rMin2 : RC := fun xs H Q => ∃ i j, xs = [.int i, .int j] ∧ Q (.int (if j < i then j else i)) H
abbrev RM := V → List V → Hp → VK → Prop
abbrev rFind : RM := fun x xs H Q => ∃ a b, x = .str a ∧ xs = [.str b] ∧ Q (.int (Txt.find a b)) H
abbrev rCount : RM := fun x xs H Q => ∃ a b, x = .str a ∧ xs = [.str b] ∧ Q (.int (Txt.count a b)) H
abbrev rSplit : RM := fun x xs H Q => ∃ a b, x = .str a ∧ xs = [.str b] ∧ (b.length == 0) = false ∧ a.length + 2 ≤ sizeLine ∧ rNewStrs (Txt.split a b) H Q
/-! ### steps: statements -/
section
variable {σ σ' : St} {H : Hp} {nx bk ct : St → Hp → Prop} {rt Q : VK} {t u tb : TS} {te ta tc : TE} {tt tu : TT} {ts : TA} {g : TG} {v x y : V} {i : Nat} {b : Bool} {QT : Bool → Hp → Prop} {QA : List V → Hp → Prop} {r r' : R2} {N : List Str} {vs : List V}
theorem c_seq (h : t ⟨u ⟨nx, rt, bk, ct⟩, rt, bk, ct⟩ σ H) : tSeq t u ⟨nx, rt, bk, ct⟩ σ H := h
theorem c_next (h : nx σ H) : tNext ⟨nx, rt, bk, ct⟩ σ H := h
theorem c_break (h : bk σ H) : tBreak ⟨nx, rt, bk, ct⟩ σ H := h
theorem c_cont (h : ct σ H) : tCont ⟨nx, rt, bk, ct⟩ σ H := h
theorem c_drop (h : te σ H fun _ H1 => nx σ H1) : tDrop te ⟨nx, rt, bk, ct⟩ σ H := h
theorem c_ret (h : te σ H rt) : tRet te ⟨nx, rt, bk, ct⟩ σ H := h
theorem c_retN (h : rt .non H) : tRetN ⟨nx, rt, bk, ct⟩ σ H := h
theorem c_ifS (h : tt σ H fun b H1 => if b = true then t ⟨nx, rt, bk, ct⟩ σ H1 else u ⟨nx, rt, bk, ct⟩ σ H1) : tIfS tt t u ⟨nx, rt, bk, ct⟩ σ H := h
/-- the ways of t meet in R -/
theorem c_join (R : St → Hp → Prop) (h1 : ∀ nx' : St → Hp → Prop, (∀ σ' H', R σ' H' → nx' σ' H') → t ⟨nx', rt, bk, ct⟩ σ H) (h2 : ∀ σ' H', R σ' H' → nx σ' H') : t ⟨nx, rt, bk, ct⟩ σ H := h1 nx h2
theorem c_asg (h : te σ H fun x H1 => g x σ H1 nx) : tAsg te g ⟨nx, rt, bk, ct⟩ σ H := h
theorem c_name {Q : St → Hp → Prop} (e : σ.set i (some v) = σ') (h : Q σ' H) : gName i v σ H Q := by subst e; exact h
theorem c_for {wi : TI} (h : wi σ H fun J H1 => ∃ W : Nat → Nat → St → Hp → Prop, (∃ m, W 0 m σ H1) ∧ ∀ i m σ H, W i m σ H →
  (J.stop i H ∧ nx σ H) ∨ (J.go i H ∧ ∃ N : St → Hp → Prop, (∀ σ' H', N σ' H' → ∃ m', m' < m ∧ W (i + 1) m' σ' H') ∧ ∀ x H', J.yld i H x H' → g x σ H' fun σ2 H2 => tb ⟨N, rt, nx, N⟩ σ2 H2)) : tFor wi g tb ⟨nx, rt, bk, ct⟩ σ H := h
/-! ### steps: expressions -/
theorem c_var (e : σ[i]? = some (some v)) (h : Q v H) : tVar i σ H Q := ⟨v, e, h⟩
theorem c_c (h : Q v H) : tC v σ H Q := h
theorem c_op (h : ta σ H fun x H1 => tc σ H1 fun y H2 => r x y H2 Q) : tOp r ta tc σ H Q := h
theorem c_un {r : V → Hp → VK → Prop} (h : ta σ H fun x H1 => r x H1 Q) : tUn r ta σ H Q := h
theorem c_if (h : tt σ H fun c H1 => if c = true then ta σ H1 Q else tc σ H1 Q) : tIf tt ta tc σ H Q := h
theorem c_test (h : te σ H fun x H' => ∃ k, x = .bl k ∧ QT k H') : tTest te σ H QT := h
theorem c_tB (h : te σ H fun x H' => ∃ k, x = .bl k ∧ QT k H') : tB te σ H QT := h
theorem c_bl {P : Bool → Prop} (h : P b) : ∃ k, V.bl b = .bl k ∧ P k := ⟨b, rfl, h⟩
theorem c_and (h : tt σ H fun c H1 => if c = true then tu σ H1 QT else QT false H1) : tAnd tt tu σ H QT := h
theorem c_or (h : tt σ H fun c H1 => if c = true then QT true H1 else tu σ H1 QT) : tOr tt tu σ H QT := h
theorem c_not (h : tt σ H fun c H1 => QT (!c) H1) : tNot tt σ H QT := h
theorem c_andV (h : ta σ H fun x H1 => ∃ c, x = .bl c ∧ if c = true then tc σ H1 Q else Q (.bl false) H1) : tAndV ta tc σ H Q := h
theorem c_orV (h : ta σ H fun x H1 => ∃ c, x = .bl c ∧ if c = true then Q (.bl true) H1 else tc σ H1 Q) : tOrV ta tc σ H Q := h
theorem c_notV (h : ta σ H fun x H1 => ∃ c, x = .bl c ∧ Q (.bl (!c)) H1) : tNotV ta σ H Q := h
theorem c_nil (h : QA [] H) : tNil σ H QA := h
theorem c_cons (h : te σ H fun x H1 => ts σ H1 fun xs H2 => QA (x :: xs) H2) : tCons te ts σ H QA := h
theorem c_call {sp : Sp} {dvs : List V} {E : XK} (h : ts σ H fun vs H1 => sp (vs ++ dvs) H1 Q E) : tCall sp dvs E ts σ H Q := h
theorem c_cb {r : RC} (h : ts σ H fun vs H1 => r vs H1 Q) : tCB r ts σ H Q := h
theorem c_tup (h : ts σ H fun xs H1 => xs.length ≤ sizeLine ∧ ∀ p, H1 p = none → Q (.ref p) (upd H1 p (.tup xs))) : tTup ts σ H Q := h
theorem c_lst (h : ts σ H fun xs H1 => xs.length ≤ sizeLine ∧ ∀ p, H1 p = none → Q (.ref p) (upd H1 p (.lst xs))) : tLst ts σ H Q := h
theorem c_chain {te' : TE} (h : ta σ H fun x H1 => tc σ H1 fun y H2 => r x y H2 fun z H3 => ∃ k, z = .bl k ∧ (if k = true then te' σ H3 fun w' H4 => r' y w' H4 Q else Q (.bl false) H3)) : tChain r r' ta tc te' σ H Q := h
theorem c_start : start N vs = start N vs := rfl
/-! ### steps: values -/
theorem v_addI {a b : Int} (h : Q (.int (a + b)) H) : rAddI (.int a) (.int b) H Q := ⟨a, b, rfl, rfl, h⟩
theorem v_subI {a b : Int} (h : Q (.int (a - b)) H) : rSubI (.int a) (.int b) H Q := ⟨a, b, rfl, rfl, h⟩
theorem v_mulI {a b : Int} (hc : CMul a b) (h : Q (.int (a * b)) H) : rMulI (.int a) (.int b) H Q := ⟨a, b, rfl, rfl, hc, h⟩
theorem v_modI {a b : Int} (hc : 0 < b) (h : Q (.int (a % b)) H) : rModI (.int a) (.int b) H Q := ⟨a, b, rfl, rfl, hc, h⟩
theorem v_divI {a b : Int} (hc : 0 < b ∧ b < 4611686018427387904) (h : Q (.int (a / b)) H) : rDivI (.int a) (.int b) H Q := ⟨a, b, rfl, rfl, wide_div (b := 62) hc.1 (by omega) (by decide) (by decide), h⟩
theorem v_powI {a b : Int} (hc : CPow a b) (h : Q (.int (a ^ b.toNat)) H) : rPowI (.int a) (.int b) H Q := ⟨a, b, rfl, rfl, hc, h⟩
theorem v_ltI {a b : Int} (h : Q (.bl (decide (a < b))) H) : rLtI (.int a) (.int b) H Q := ⟨a, b, rfl, rfl, h⟩
theorem v_leI {a b : Int} (h : Q (.bl (decide (a ≤ b))) H) : rLeI (.int a) (.int b) H Q := ⟨a, b, rfl, rfl, h⟩
theorem v_gtI {a b : Int} (h : Q (.bl (decide (b < a))) H) : rGtI (.int a) (.int b) H Q := ⟨a, b, rfl, rfl, h⟩
theorem v_geI {a b : Int} (h : Q (.bl (decide (b ≤ a))) H) : rGeI (.int a) (.int b) H Q := ⟨a, b, rfl, rfl, h⟩
theorem v_negI {a : Int} (h : Q (.int (-a)) H) : rNegI (.int a) H Q := ⟨a, rfl, h⟩
theorem v_addS {a b : Str} (hc : a.length + b.length ≤ sizeLine) (h : Q (.str (a ++ b)) H) : rAddS (.str a) (.str b) H Q := ⟨a, b, rfl, rfl, hc, h⟩
theorem v_eqI {a b : Int} (h : Q (.bl (decide (a = b))) H) : rEq (.int a) (.int b) H Q := ⟨rfl, by rw [show (decide (V.int a = V.int b)) = decide (a = b) by simp]; exact h⟩
theorem v_neI {a b : Int} (h : Q (.bl (!decide (a = b))) H) : rNe (.int a) (.int b) H Q := ⟨rfl, by rw [show (decide (V.int a = V.int b)) = decide (a = b) by simp]; exact h⟩
theorem v_eqS {a b : Str} (h : Q (.bl (decide (a = b))) H) : rEq (.str a) (.str b) H Q := ⟨rfl, by rw [show (decide (V.str a = V.str b)) = decide (a = b) by simp]; exact h⟩
theorem v_neS {a b : Str} (h : Q (.bl (!decide (a = b))) H) : rNe (.str a) (.str b) H Q := ⟨rfl, by rw [show (decide (V.str a = V.str b)) = decide (a = b) by simp]; exact h⟩
theorem v_eqB {a b : Bool} (h : Q (.bl (decide (a = b))) H) : rEq (.bl a) (.bl b) H Q := ⟨rfl, by rw [show (decide (V.bl a = V.bl b)) = decide (a = b) by simp]; exact h⟩
theorem v_isN (h : Q (.bl (decide (x = .non))) H) : rIsN x .non H Q := ⟨rfl, h⟩
theorem v_notN (h : Q (.bl (!decide (x = .non))) H) : rNotN x .non H Q := ⟨rfl, h⟩
theorem v_ixS {z : Str} {i : Int} {c : Nat} (hz : z.length ≤ sizeLine) (hc : atI z.cps.toList i = some c) (h : Q (.str ⟨#[c]⟩) H) : rIxS (.str z) (.int i) H Q := ⟨z, i, c, rfl, rfl, hz, hc, h⟩
theorem v_ixL {K : PySem.W.Frag} {p : Addr} {xs : List V} {i : Int} (hp : SqL K H p xs) (hc : atI xs i = some v) (h : Q v H) : rIxL K (.ref p) (.int i) H Q := ⟨p, xs, i, v, rfl, rfl, hp, hc, h⟩
theorem v_ixT {K : PySem.W.Frag} {p : Addr} {xs : List V} {i : Int} (hp : SqT K H p xs) (hc : atI xs i = some v) (h : Q v H) : rIxT K (.ref p) (.int i) H Q := ⟨p, xs, i, v, rfl, rfl, hp, hc, h⟩
theorem v_lenS {z : Str} (hz : z.length ≤ sizeLine) (h : Q (.int z.length) H) : rLenS [.str z] H Q := ⟨z, rfl, hz, h⟩
theorem v_lenL {K : PySem.W.Frag} {p : Addr} {xs : List V} (hp : SqL K H p xs) (h : Q (.int xs.length) H) : rLenQ K [.ref p] H Q := ⟨p, xs, rfl, .inl hp, h⟩
theorem v_lenT {K : PySem.W.Frag} {p : Addr} {xs : List V} (hp : SqT K H p xs) (h : Q (.int xs.length) H) : rLenQ K [.ref p] H Q := ⟨p, xs, rfl, .inr hp, h⟩
theorem v_intI {a : Int} (h : Q (.int a) H) : rIntI [.int a] H Q := .inl ⟨a, rfl, h⟩
theorem v_strI {a : Int} (hz : a.natAbs.log2 < 1920) (h : Q (.str (toString a)) H) : rStrI [.int a] H Q := ⟨a, rfl, hz, h⟩
theorem v_max2 {a b : Int} (h : Q (.int (if b > a then b else a)) H) : rMax2 [.int a, .int b] H Q := ⟨a, b, rfl, h⟩
theorem v_min2 {a b : Int} (h : Q (.int (if b < a then b else a)) H) : rMin2 [.int a, .int b] H Q := ⟨a, b, rfl, h⟩
theorem v_absI {a : Int} (h : Q (.int (if a < 0 then -a else a)) H) : rAbsI [.int a] H Q := ⟨a, rfl, h⟩
theorem v_inC {c : Nat} {z : Str} (h : Q (.bl (decide (c ∈ z.cps.toList))) H) : rInC (.str ⟨#[c]⟩) (.str z) H Q := ⟨c, z, rfl, rfl, h⟩
theorem v_notInC {c : Nat} {z : Str} (h : Q (.bl (!decide (c ∈ z.cps.toList))) H) : rNotInC (.str ⟨#[c]⟩) (.str z) H Q := ⟨c, z, rfl, rfl, h⟩
end
section
variable {σ : St} {H : Hp} {v : V} {Qh : Hp → Prop} {Qs : St → Hp → Prop}
theorem c_gsub {to ti : TE} {ts : TSet} (h : to σ H fun o H1 => ti σ H1 fun i H2 => ts o i v H2 fun H3 => Qs σ H3) : gSub to ti ts v σ H Qs := h
theorem v_setL {p : Addr} {xs : List V} {k : Int} {j : Nat} (hp : H p = some (.lst xs)) (hj : ixN xs.length k = some j) (h : Qh (upd H p (.lst (xs.set j v)))) : rSetL (.ref p) (.int k) v H Qh := ⟨p, xs, k, j, rfl, rfl, hp, hj, h⟩
end
/-! ### tests -/
theorem ifd {c A B : Prop} [Decidable c] (h1 : c → A) (h2 : ¬ c → B) : if decide c = true then A else B := by
  by_cases h : c
  · rw [decide_eq_true h, if_pos rfl]; exact h1 h
  · rw [decide_eq_false h, if_neg Bool.false_ne_true]; exact h2 h
theorem ifn {c A B : Prop} [Decidable c] (h1 : ¬ c → A) (h2 : c → B) : if (!decide c) = true then A else B := by
  by_cases h : c
  · rw [decide_eq_true h]; exact h2 h
  · rw [decide_eq_false h]; exact h1 h
theorem ifNF {A B : Prop} (h : A) : if (!false) = true then A else B := h
theorem ifNT {A B : Prop} (h : B) : if (!true) = true then A else B := h
theorem ifb {b : Bool} {A B : Prop} (h1 : b = true → A) (h2 : b = false → B) : if b = true then A else B := by
  cases b
  · exact h2 rfl
  · exact h1 rfl
/-! ### texts by their codes -/
abbrev tl (x : Str) : List Nat := x.cps.toList
theorem len_tl (x : Str) : x.length = (tl x).length := by simp [tl, Str.length]
theorem tl_app (a b : Str) : tl (a ++ b) = tl a ++ tl b := by
  show (a.cps ++ b.cps).toList = _
  rw [Array.toList_append]
theorem len_app (a b : Str) : (a ++ b).length = a.length + b.length := by rw [len_tl, tl_app, List.length_append, ← len_tl, ← len_tl]
theorem len_sgl (c : Nat) : (⟨#[c]⟩ : Str).length = 1 := rfl
theorem len_of (s : String) : (Str.ofString s).length = (Str.ofString s).length := rfl
theorem tl_sgl (c : Nat) : tl ⟨#[c]⟩ = [c] := rfl
theorem str_ext {a b : Str} (h : tl a = tl b) : a = b := by
  obtain ⟨⟨x⟩⟩ := a
  obtain ⟨⟨y⟩⟩ := b
  have h' : x = y := h
  rw [h']
/-- an item of a list of ints -/
theorem ixI_map {α : Type} {f : α → V} {xs : List α} {i : Int} {n : Nat} (e : i = (n : Int)) (h : n < xs.length) : atI (xs.map f) i = some (f xs[n]) := by
  subst e
  exact atI_nat (by simp [h])
/-! ### the pool -/
/-- F: what is frozen; H: the heap; the pool at pp -/
structure Pl (K : PySem.W.Frag) (F H : Hp) (pp : Addr) : Prop where
  ex : Same F H
  fr : F pp = none
  po : ∃ (n c : Int) (ca : Addr) (ns : List Int), H pp = some (.lst [.int n, .int c, .ref ca]) ∧ SqL K F ca (ns.map V.int)
/-- all but the pool stands -/
def Gw (pp : Addr) (H H' : Hp) : Prop := ∀ a o, a ≠ pp → H a = some o → H' a = some o
theorem Gw.refl {pp : Addr} (H : Hp) : Gw pp H H := fun _ _ _ h => h
theorem Gw.trans {pp : Addr} {H H1 H2 : Hp} (a : Gw pp H H1) (b : Gw pp H1 H2) : Gw pp H H2 := fun x o h e => b x o h (a x o h e)
theorem same_gw {pp : Addr} {H H1 : Hp} (a : Same H H1) : Gw pp H H1 := fun x o _ e => a x o e
theorem same_new {H : Hp} {p : Addr} {o : HO} (h : H p = none) : Same H (upd H p o) := fun a u e => by
  rw [upd_ne (ne_of_none e h)]; exact e
theorem Gw.new {pp : Addr} {H : Hp} {p : Addr} {o : HO} (h : H p = none) : Gw pp H (upd H p o) := same_gw (same_new h)
theorem Gw.same {pp : Addr} {F H H' : Hp} (g : Gw pp H H') (e : Same F H) (f : F pp = none) : Same F H' := fun a o h => g a o (ne_of_none h f) (e a o h)
theorem Pl.ne {K : PySem.W.Frag} {F H : Hp} {pp : Addr} (P : Pl K F H pp) : ∃ o, H pp = some o := let ⟨_, _, _, _, h, _⟩ := P.po; ⟨_, h⟩
theorem Pl.same {K : PySem.W.Frag} {F H H' : Hp} {pp : Addr} (P : Pl K F H pp) (e : Same H H') : Pl K F H' pp :=
  ⟨P.ex.trans e, P.fr, let ⟨n, c, ca, ns, h, q⟩ := P.po; ⟨n, c, ca, ns, e _ _ h, q⟩⟩
/-- an object that is not frozen, and is not the pool, is changed -/
theorem Pl.mut {K : PySem.W.Frag} {F H : Hp} {pp p : Addr} {o : HO} (P : Pl K F H pp) (hp : p ≠ pp) (hf : F p = none) : Pl K F (upd H p o) pp :=
  ⟨fun a u e => by rw [upd_ne (ne_of_none e hf)]; exact P.ex a u e, P.fr, let ⟨n, c, ca, ns, h, q⟩ := P.po; ⟨n, c, ca, ns, by rw [upd_ne hp.symm]; exact h, q⟩⟩
/-- the pool's own list is written -/
theorem Pl.put {K : PySem.W.Frag} {F H : Hp} {pp ca : Addr} {n c : Int} {ns : List Int} (P : Pl K F H pp) (q : SqL K F ca (ns.map V.int)) : Pl K F (upd H pp (.lst [.int n, .int c, .ref ca])) pp :=
  ⟨fun a u e => by rw [upd_ne (ne_of_none e P.fr)]; exact P.ex a u e, P.fr, n, c, ca, ns, upd_same, q⟩
theorem gw_put {H : Hp} {pp : Addr} {o : HO} : Gw pp H (upd H pp o) := fun a u e h => by rw [upd_ne e]; exact h
theorem gw_mut {pp : Addr} {H0 H : Hp} {p : Addr} {o : HO} (g : Gw pp H0 H) (h : H0 p = none) : Gw pp H0 (upd H p o) := fun a u e q => by
  rw [upd_ne (ne_of_none q h)]; exact g a u e q
theorem Pl.off {K : PySem.W.Frag} {F H : Hp} {pp p : Addr} (P : Pl K F H pp) (h : H p = none) : p ≠ pp ∧ F p = none := by
  obtain ⟨o, ho⟩ := P.ne
  refine ⟨fun e => ?_, Same.free P.ex h⟩
  rw [e, ho] at h
  cases h
theorem seq_same {K : PySem.W.Frag} {F H : Hp} {a : Addr} {xs : List V} (e : Same F H) (h : SqL K F a xs) : SqL K H a xs := e.seq h
theorem seqT_same {K : PySem.W.Frag} {H H' : Hp} {a : Addr} {xs : List V} (e : Same H H') (h : SqT K H a xs) : SqT K H' a xs := by
  rcases h with (h | ⟨o, h⟩) | h
  · exact .inl (.inl (e _ _ h))
  · exact .inl (.inr ⟨o, e _ _ h⟩)
  · exact .inr h
theorem sqL_of {K : PySem.W.Frag} {H : Hp} {a : Addr} {xs : List V} (h : H a = some (.lst xs)) : SqL K H a xs := .inl (.inl h)
theorem sqT_of {K : PySem.W.Frag} {H : Hp} {a : Addr} {xs : List V} (h : H a = some (.tup xs)) : SqT K H a xs := .inl (.inl h)

/-! ### what is walked -/
/-- J takes n turns while Ok stands; Y what it gives -/
structure Wlk (J : It) (n : Nat) (Ok : Hp → Prop) (Y : Nat → Hp → V → Hp → Prop) : Prop where
  go : ∀ i H, Ok H → i < n → J.go i H
  stop : ∀ i H, Ok H → n ≤ i → J.stop i H
  yld : ∀ i H x H', Ok H → J.yld i H x H' → Y i H x H'
theorem wlk_list {K : PySem.W.Frag} {a : Addr} {xs : List V} : Wlk (Itl K a) xs.length (fun H => SqL K H a xs) (fun i H x H' => H' = H ∧ xs[i]? = some x) :=
  ⟨fun i H h hi => ⟨xs, xs[i], h, by simp [hi]⟩, fun i H h hi => ⟨xs, h, hi⟩, fun i H x H' h y => ⟨y.1, y.2 xs h⟩⟩
theorem wlk_tup {K : PySem.W.Frag} {a : Addr} {xs : List V} : Wlk (Itt K a) xs.length (fun H => SqT K H a xs) (fun i H x H' => H' = H ∧ xs[i]? = some x) :=
  ⟨fun i H h hi => ⟨xs, xs[i], h, by simp [hi]⟩, fun i H h hi => ⟨xs, h, hi⟩, fun i H x H' h y => ⟨y.1, y.2 xs h⟩⟩
theorem wlk_rng {lo : Int} {n : Nat} : Wlk (Itr lo n) n (fun _ => True) (fun i H x H' => H' = H ∧ x = .int (lo + (i : Int))) :=
  ⟨fun i H _ hi => hi, fun i H _ hi => hi, fun i H x H' _ y => y⟩
theorem wlk_str {z : Str} : Wlk (Its z) z.length (fun _ => True) (fun i H x H' => H' = H ∧ ∃ c, (tl z)[i]? = some c ∧ x = .str ⟨#[c]⟩) :=
  ⟨fun i H _ hi => hi, fun i H _ hi => hi, fun i H x H' _ ⟨e, c, h1, h2⟩ => ⟨e, c, by simpa [tl] using h1, h2⟩⟩
theorem wlk_enum {K : PySem.W.Frag} {a : Addr} {xs : List V} : Wlk (Ite K a) xs.length (fun H => SqL K H a xs) (fun i H x H' => ∃ T y, x = .ref T ∧ H T = none ∧ H' = upd H T (.tup [.int (i : Nat), y]) ∧ xs[i]? = some y) :=
  ⟨fun i H h hi => ⟨xs, xs[i], h, by simp [hi]⟩, fun i H h hi => ⟨xs, h, hi⟩, fun i H x H' h ⟨T, y, e1, e2, e3, e4⟩ => ⟨T, y, e1, e2, e3, e4 xs h⟩⟩
section
variable {J : It} {n : Nat} {Ok : Hp → Prop} {Y : Nat → Hp → V → Hp → Prop} {g : TG} {tb : TS} {nx : St → Hp → Prop} {rt : VK} {σ : St} {H : Hp}
theorem for_w (w : Wlk J n Ok Y) (Pv : Nat → St → Hp → Prop) (h0 : Pv 0 σ H) (hk : ∀ i σ H, Pv i σ H → Ok H)
    (hs : ∀ i x σ H H', i < n → Pv i σ H → Y i H x H' → g x σ H' fun σ2 H2 => tb ⟨Pv (i + 1), rt, nx, Pv (i + 1)⟩ σ2 H2) (hd : ∀ σ H, Pv n σ H → nx σ H) :
    ∃ W : Nat → Nat → St → Hp → Prop, (∃ m, W 0 m σ H) ∧ ∀ i m σ H, W i m σ H →
      (J.stop i H ∧ nx σ H) ∨ (J.go i H ∧ ∃ N : St → Hp → Prop, (∀ σ' H', N σ' H' → ∃ m', m' < m ∧ W (i + 1) m' σ' H') ∧ ∀ x H', J.yld i H x H' → g x σ H' fun σ2 H2 => tb ⟨N, rt, nx, N⟩ σ2 H2) := by
  refine ⟨fun i m σ H => m = n - i ∧ i ≤ n ∧ Pv i σ H, ⟨n, by simp, Nat.zero_le _, h0⟩, ?_⟩
  rintro i m σ H ⟨rfl, hi, p⟩
  have q := hk i σ H p
  by_cases hlt : i < n
  · exact .inr ⟨w.go _ _ q hlt, Pv (i + 1), fun σ' H' p' => ⟨n - (i + 1), by omega, rfl, hlt, p'⟩, fun x H' y => hs i x σ H H' hlt p (w.yld _ _ _ _ q y)⟩
  · have e : i = n := by omega
    subst e
    exact .inl ⟨w.stop _ _ q (Nat.le_refl _), hd σ H p⟩
/-- a loop with an exit by break: B what holds there -/
theorem lc_w {tt : TT} {te : TE} {vs : List Nat} {D : Addr} {Qd : Hp → Prop} (w : Wlk J n Ok Y) (Pv : Nat → Hp → Prop) (h0 : Pv 0 (upd H D (.lst []))) (hk : ∀ i H, Pv i H → Ok H)
    (hs : ∀ i x H H', i < n → Pv i H → Y i H x H' → g x (wipe σ vs) H' fun σ2 H2 => wipe σ2 vs = wipe σ vs ∧ tt σ2 H2 fun b H3 =>
      if b = true then te σ2 H3 fun y H4 => ∃ acc, H4 D = some (.lst acc) ∧ acc.length < sizeLine ∧ Pv (i + 1) (upd H4 D (.lst (acc ++ [y]))) else Pv (i + 1) H3) (hd : ∀ H, Pv n H → Qd H) :
    ∃ W : Nat → Nat → Hp → Prop, (∃ m, W 0 m (upd H D (.lst []))) ∧ ∀ i m H, W i m H →
      (J.stop i H ∧ Qd H) ∨ (J.go i H ∧ ∃ Nx : Hp → Prop, (∀ H', Nx H' → ∃ m', m' < m ∧ W (i + 1) m' H') ∧ ∀ x H', J.yld i H x H' → g x (wipe σ vs) H' fun σ2 H2 => wipe σ2 vs = wipe σ vs ∧ tt σ2 H2 fun b H3 =>
        if b = true then te σ2 H3 fun y H4 => ∃ acc, H4 D = some (.lst acc) ∧ acc.length < sizeLine ∧ Nx (upd H4 D (.lst (acc ++ [y]))) else Nx H3) := by
  refine ⟨fun i m H => m = n - i ∧ i ≤ n ∧ Pv i H, ⟨n, by simp, Nat.zero_le _, h0⟩, ?_⟩
  rintro i m H ⟨rfl, hi, p⟩
  have q := hk i H p
  by_cases hlt : i < n
  · exact .inr ⟨w.go _ _ q hlt, Pv (i + 1), fun H' p' => ⟨n - (i + 1), by omega, rfl, hlt, p'⟩, fun x H' y => hs i x H H' hlt p (w.yld _ _ _ _ q y)⟩
  · have e : i = n := by omega
    subst e
    exact .inl ⟨w.stop _ _ q (Nat.le_refl _), hd H p⟩
end
section
variable {σ : St} {H : Hp} {ts : TA} {te : TE} {R : It → Hp → Prop} {K : PySem.W.Frag} {Q : VK}
theorem c_rng1 (h : ts σ H fun vs H1 => ∃ j : Int, vs = [.int j] ∧ -(2 ^ 62) ≤ j ∧ j < 2 ^ 62 ∧ R (Itr 0 j.toNat) H1) : iRng1 ts σ H R := h
theorem c_rng2 (h : ts σ H fun vs H1 => ∃ i j : Int, vs = [.int i, .int j] ∧ (-(2 ^ 62) ≤ i ∧ i < 2 ^ 62 ∧ -(2 ^ 62) ≤ j ∧ j < 2 ^ 62) ∧ R (Itr i (j - i).toNat) H1) : iRng2 ts σ H R := h
theorem c_iList (h : te σ H fun x H1 => ∃ a, x = .ref a ∧ (∃ xs, SqL K H1 a xs) ∧ R (Itl K a) H1) : iList K te σ H R := h
theorem c_iTup (h : te σ H fun x H1 => ∃ a, x = .ref a ∧ (∃ xs, SqT K H1 a xs) ∧ R (Itt K a) H1) : iTup K te σ H R := h
theorem c_iStr (h : te σ H fun v H1 => ∃ x, v = .str x ∧ R (Its x) H1) : iStr te σ H R := h
theorem c_iEnum (h : ts σ H fun vs H1 => ∃ a xs, vs = [.ref a] ∧ SqL K H1 a xs ∧ R (Ite K a) H1) : iEnum K ts σ H R := h
theorem c_lc {wi : TI} {g : TG} {tt : TT} {vs : List Nat} (h : wi σ H fun J H1 => ∀ D, H1 D = none → ∃ W : Nat → Nat → Hp → Prop, (∃ m, W 0 m (upd H1 D (.lst []))) ∧ ∀ i m H, W i m H →
  (J.stop i H ∧ Q (.ref D) H) ∨ (J.go i H ∧ ∃ Nx : Hp → Prop, (∀ H', Nx H' → ∃ m', m' < m ∧ W (i + 1) m' H') ∧ ∀ x H', J.yld i H x H' → g x (wipe σ vs) H' fun σ2 H2 => wipe σ2 vs = wipe σ vs ∧ tt σ2 H2 fun b H3 =>
    if b = true then te σ2 H3 fun y H4 => ∃ acc, H4 D = some (.lst acc) ∧ acc.length < sizeLine ∧ Nx (upd H4 D (.lst (acc ++ [y]))) else Nx H3)) : tLc wi g tt te vs σ H Q := h
theorem c_tYes {Q : Bool → Hp → Prop} (h : Q true H) : tYes σ H Q := h
theorem c_bm {T : String} {r : RM} (h : te σ H fun x H1 => tyV K T x H1 ∧ ts σ H1 fun xs H2 => r x xs H2 Q) : tBM K T r te ts σ H Q := h
theorem c_bm0 {T : String} {r : RM} (h : te σ H fun x H1 => tyV K T x H1 ∧ r x [] H1 Q) : tBM0 K T r te σ H Q := h
theorem ty_str {z : Str} : tyV K "str" (.str z) H := rfl
theorem ty_list {p : Addr} {xs : List V} (h : SqL K H p xs) : tyV K "list" (.ref p) H := .inl ⟨rfl, xs, h⟩
theorem v_append {p : Addr} {xs : List V} {y : V} (hp : H p = some (.lst xs)) (hl : xs.length < sizeLine) (h : Q .non (upd H p (.lst (xs ++ [y])))) : rAppend (.ref p) [y] H Q := ⟨p, xs, y, rfl, rfl, hp, hl, h⟩
theorem v_find {a b : Str} (h : Q (.int (Txt.find a b)) H) : rFind (.str a) [.str b] H Q := ⟨a, b, rfl, rfl, h⟩
theorem c_sl {r : V → Option Int → Option Int → Hp → VK → Prop} {tl th : TO} (h : te σ H fun x H1 => tl σ H1 fun l H2 => th σ H2 fun u H3 => r x l u H3 Q) : tSl r te tl th σ H Q := h
theorem c_noPart {Q : Option Int → Hp → Prop} (h : Q none H) : tNoPart σ H Q := h
theorem c_part {Q : Option Int → Hp → Prop} (h : te σ H fun x H1 => ∃ i, x = .int i ∧ Q (some i) H1) : tPart te σ H Q := h
theorem j_int {P : Int → Prop} {j : Int} (h : P j) : ∃ i : Int, V.int j = .int i ∧ P i := ⟨j, rfl, h⟩
theorem v_slS {z : Str} {lo hi : Option Int} (hz : z.length ≤ sizeLine) (h : Q (.str (cutS z lo hi)) H) : rSlS (.str z) lo hi H Q := ⟨z, rfl, hz, h⟩
theorem v_slL {p : Addr} {xs : List V} {lo hi : Option Int} (hp : SqL K H p xs) (h : ∀ l, H l = none → Q (.ref l) (upd H l (.lst (cutV xs lo hi)))) : rSlL K (.ref p) lo hi H Q := ⟨p, xs, rfl, hp, h⟩
theorem j_rng {P : Int → Prop} {j : Int} (h1 : -(2 ^ 62) ≤ j) (h2 : j < 2 ^ 62) (h : P j) : ∃ i : Int, [V.int j] = [.int i] ∧ -(2 ^ 62) ≤ i ∧ i < 2 ^ 62 ∧ P i := ⟨j, rfl, h1, h2, h⟩
theorem j_list {P : Addr → Prop} {a : Addr} {xs : List V} (h : SqL K H a xs) (q : P a) : ∃ b, V.ref a = .ref b ∧ (∃ xs, SqL K H b xs) ∧ P b := ⟨a, rfl, ⟨xs, h⟩, q⟩
theorem j_tup {P : Addr → Prop} {a : Addr} {xs : List V} (h : SqT K H a xs) (q : P a) : ∃ b, V.ref a = .ref b ∧ (∃ xs, SqT K H b xs) ∧ P b := ⟨a, rfl, ⟨xs, h⟩, q⟩
theorem j_str {P : Str → Prop} {z : Str} (q : P z) : ∃ x, V.str z = .str x ∧ P x := ⟨z, rfl, q⟩
end
/-! ### in a list of texts or ints -/
theorem eqV_str (a b : Str) : eqV (.str a) (.str b) = decide (a = b) := by
  unfold eqV
  by_cases h : a = b <;> simp [h]
theorem inV_str (a : Str) (ns : List Str) : inV (.str a) (ns.map V.str) = decide (a ∈ ns) := by
  unfold inV
  rw [List.any_map]
  induction ns with
  | nil => rfl
  | cons n r ih =>
    rw [List.any_cons, ih]
    show (eqV (.str n) (.str a) || decide (a ∈ r)) = _
    rw [eqV_str]
    by_cases h : n = a
    · subst h; simp
    · have h' : ¬ a = n := fun e => h e.symm
      simp [h, h']
theorem flat_strs (ns : List Str) : (ns.map V.str).all flatV = true := by
  rw [List.all_map, List.all_eq_true]; intro x _; rfl
theorem flat_ints (ns : List Int) : (ns.map V.int).all flatV = true := by
  rw [List.all_map, List.all_eq_true]; intro x _; rfl
section
variable {K : PySem.W.Frag} {H : Hp} {Q : VK}
theorem v_inS {p : Addr} {a : Str} {ns : List Str} (hp : SqL K H p (ns.map V.str)) (h : Q (.bl (decide (a ∈ ns))) H) : rIn K false (.str a) (.ref p) H Q :=
  ⟨p, _, rfl, .inl hp, rfl, flat_strs ns, by rw [inV_str]; exact h⟩
theorem v_notInS {p : Addr} {a : Str} {ns : List Str} (hp : SqL K H p (ns.map V.str)) (h : Q (.bl (!decide (a ∈ ns))) H) : rIn K true (.str a) (.ref p) H Q :=
  ⟨p, _, rfl, .inl hp, rfl, flat_strs ns, by rw [inV_str]; exact h⟩
end
/-! ### drawers -/
theorem len_erase {α : Type} [DecidableEq α] {a : α} : ∀ {l : List α}, a ∈ l → (l.erase a).length + 1 = l.length := fun {l} h => by
  have := List.length_erase_of_mem h
  have := List.length_pos_of_mem h
  omega
/-- different things of a list are no more than the list is long -/
theorem nodup_le {α : Type} [DecidableEq α] : ∀ (zs ns : List α), zs.Nodup → (∀ z ∈ zs, z ∈ ns) → zs.length ≤ ns.length
  | [], _, _, _ => Nat.zero_le _
  | z :: zs, ns, hd, hs => by
    have hz := hs z (List.mem_cons_self ..)
    have hd' := List.nodup_cons.mp hd
    have ih := nodup_le zs (ns.erase z) hd'.2 fun y hy => (List.mem_erase_of_ne (fun (e : y = z) => hd'.1 (by rw [← e]; exact hy))).mpr (hs y (List.mem_cons_of_mem _ hy))
    have := len_erase hz
    rw [List.length_cons]
    omega
/-- the end of a law's row over a head by facts: CX by the world -/
theorem walk_ofX {l : PySem.W.OpenLaw} {n k : Nat} {q : Program} {loose : List Str} {XP : (Str → Option Value) → Heap → Prop} {YP : World → Heap → Prop} {d : DefRec} {x : Str}
    (hn : l.most = some n) (hn2 : n ≤ sizeLine) (hdf : d.params.defaults = []) (hr : Room k callerA)
    (F : ∀ (w : World) (mg : Str → Option Value) (fa : Addr) (h : Heap), YP w h → h.Ns mainGlobals mg → mg d.name = some (.ref fa) →
      ∃ (K : PySem.W.Frag) (fd : FuncData) (sp : Sp), K.In h ∧ (∀ (s : Shared) (u : Value), BindsTo s fd ⟨[u], []⟩ [(x, u)]) ∧
        (∀ (H : Hp) (a : Addr) (ns : List Int), ns.length ≤ n → Only H → SqL K H a (ns.map V.int) → sp [.ref a] H (fun v _ => v = .bl true) fun _ _ _ => False) ∧
        ∀ base : Heap, K.In base → base.Ns mainGlobals mg → FnOk l.prog w K mg base (L2.CX l.prog w) k fa fd [x] sp) :
    PySem.W.WalkO q loose XP YP l.row.toRowW d [] (fun f vs => PySem.call f vs) := by
  refine Att.attach_call hn hdf fun w s₀ s₁ mg mb fa o pm cd doc a vs ns G Y ho hd hcd hmg hobj hints hlen hg => ?_
  obtain ⟨K, fd, sp, KX, hb, hsp, hF⟩ := F w mg fa _ Y G.T.g hmg
  exact law_call KX G.T.g G.T.b G.T.builtins G.T.nolimit hg hobj hints (Nat.le_trans hlen hn2) hr hF hb (fun H hO hS => hsp H a ns hlen hO hS) fun H e s' h => by
    obtain ⟨_, _, _, _, _, _, _, _, _, _, _, _, z⟩ := h
    exact z.elim
theorem passD {P : Program} {w : World} {K : PySem.W.Frag} {mg : Str → Option Value} {base : Heap} {N : List Str} {qual : Str} {sc : Scope} {f : Addr} {cd : Value} {A : Around} {outer : List Env} {s : Shared} {H : Hp} {E : XK} :
    Passes (L2.CX P w) (cxOf (L2.CX P w) P w K mg base N qual sc f cd A outer s H E) E := passes_call (takes_of rfl rfl rfl rfl) fun _ _ _ _ h => h
end Rm

/-! RO: own classes: subscripts, len, operators, walks, in, == by own methods. -/
namespace Rm
open PySem PySem.Spec L2
section
variable {X : Cx} {pins : List (Addr × Obj)} {σ : St} {H : Hp} {s : Shared} {C a dx f : Addr} {fs : List (Str × V)}
theorem insAt (I : Inv X pins σ H s) (h : H a = some (.ins C dx fs)) : ∃ od, PySem.W.InstAt s.heap a (PySem.W.instObj C dx) C (some od) := by
  obtain ⟨mA, O, _, _, _, _⟩ := ins_get I.hok h
  obtain ⟨od, J, _⟩ := O.look
  exact ⟨od, J⟩
variable {CX : CXT} {k : Nat} {fd : FuncData} {ps : List Str} {sp : Sp} {dvs : List V} {ds : List Value} {E : XK}
/-- a callee runs one level in -/
theorem run_in1 {Q : VK} {us : List Value} {vs : List V} (F : FnOk X.prog X.w X.K X.mg X.base CX k f fd ps sp) (hr : Room (k + 1) X.A) (hb : Binds X.K fd ps ds) (hd : Vals dvs ds) (hx : Passes CX X E)
    (I : Inv X pins σ H s) (r : Vals vs us) (h : sp (vs ++ dvs) H Q E) : wpAny (model X.prog X.w) X.A.in1 (call (.ref f) us) (EP X pins σ Q) X.xe s := by
  have r2 : Vals (vs ++ dvs) (us ++ ds) := r.append hd
  have hl : (us ++ ds).length = ps.length := by rw [← r2.length]; exact F.len _ _ _ _ h
  refine wpAny_call (codeAny_mono (F.run X.A.in1 X.stack s H ⟨us, []⟩ (us ++ ds) (vs ++ dvs) Q E hr.in1 I.env0.in1 (hb s us I.kIn hl) r2 h) fun r s' hq => ?_)
  cases r with
  | error e => exact hx pins σ H s e s' I hq
  | ok fl =>
    cases fl with
    | ret u => exact I.after hq
    | next => exact False.elim hq
    | brk => exact False.elim hq
    | cont => exact False.elim hq
end
/-- how a class's def of that name is found -/
structure OwnM (K : PySem.W.Frag) (C : Addr) (m : Str) (f : Addr) : Prop where
  at_ : PySem.W.findIn K (.ref C) m = some (some (.ref f))
  fn : PySem.W.isFn K (.ref f) = true
  fi : PySem.W.fnIn K f = true
def ownB (K : PySem.W.Frag) (C : Addr) (m : Str) : Bool := He.eqO (PySem.W.findIn K (.ref C) m) (some (some (.ref (He.ma K C m)))) && (PySem.W.isFn K (.ref (He.ma K C m)) && PySem.W.fnIn K (He.ma K C m))
theorem ownB_ok {K : PySem.W.Frag} {C : Addr} {m : Str} (h : ownB K C m = true) : OwnM K C m (He.ma K C m) := by
  obtain ⟨h1, h2⟩ := He.ba h
  obtain ⟨h3, h4⟩ := He.ba h2
  exact ⟨He.eqO_ok h1, h3, h4⟩
/-! ### o[i] -/
def tGetO (C : Addr) (sp : Sp) (E : XK) (ta tb : TE) : TE := fun σ H Q => ta σ H fun x H1 => tb σ H1 fun y H2 => ∃ a dx fs, x = .ref a ∧ H2 a = some (.ins C dx fs) ∧ sp ([.ref a, y] ++ []) H2 Q E
theorem pe_getO {X : Cx} {CX : CXT} {k : Nat} {C f : Addr} {fd : FuncData} {ps : List Str} {sp : Sp} {E : XK} {a b : Expr} {ta tb : TE} {pos : Pos} (ha : PE X a ta) (hb : PE X b tb) (m : OwnM X.K C "__getitem__" f)
    (F : FnOk X.prog X.w X.K X.mg X.base CX k f fd ps sp) (hr : Room (k + 1) X.A) (bi : Binds X.K fd ps []) (hx : Passes CX X E)
    (hs : ∀ o i, subscripted b true o i = runValue (.builtin "lifetime.subscript" ⟨[o, i], []⟩) := by intro _ _; with_unfolding_all rfl) : PE X (.Subscript a b pos) (tGetO C sp E ta tb) := by
  refine ⟨fun pins s σ H Q I h => ?_⟩
  refine PyProof.Rows.Subscript_ (binT ha hb I h fun v u s2 x y H2 I2 rx ry q => ?_)
  obtain ⟨p, dx, fs, rfl, hp, q⟩ := q
  obtain rfl : v = Value.ref p := rx
  obtain ⟨m0, hF⟩ := I2.fr
  obtain ⟨od, J⟩ := insAt I2 hp
  exact PySem.W.sub_K hF I2.ok.mod.kin J m.at_ m.fi m.fn (run_in1 (vs := [V.ref p, y]) F hr bi .nil hx I2 (.cons rfl (.cons ry .nil)) q) (hs _ _)
/-! ### len(o) -/
def rLenO (C : Addr) (sp : Sp) (E : XK) : RC := fun xs H Q => ∃ a dx fs, xs = [.ref a] ∧ H a = some (.ins C dx fs) ∧ sp ([.ref a] ++ []) H (fun v H' => ∃ n : Int, v = .int n ∧ 0 ≤ n ∧ n < 2 ^ 63 ∧ Q (.int n) H') E
theorem call_lenO {X : Cx} {CX : CXT} {k : Nat} {C f : Addr} {fd : FuncData} {ps : List Str} {sp : Sp} {E : XK} (m : OwnM X.K C "__len__" f)
    (F : FnOk X.prog X.w X.K X.mg X.base CX k f fd ps sp) (hr : Room (k + 1) X.A) (bi : Binds X.K fd ps []) (hx : Passes CX X E) : CallR X (.builtin "len") (rLenO C sp E) := by
  intro pins s σ H xs us Q I r h
  obtain ⟨a, dx, fs, rfl, hp, q⟩ := h
  obtain ⟨u, rfl, ru⟩ := vals1 r
  cases ru
  obtain ⟨m0, hF⟩ := I.fr
  obtain ⟨od, J⟩ := insAt I hp
  refine PySem.W.len_K hF I.ok.mod.kin J m.at_ m.fn (wpAny_mono (run_in1 (vs := [V.ref a]) F hr bi .nil hx I (.cons rfl .nil) q) (fun u s' z => ?_) fun _ _ z => z)
  obtain ⟨v, H', I', rv, n, rfl, h0, h1, q'⟩ := z
  obtain ⟨t, rfl⟩ := rv
  exact ⟨⟨h0, h1⟩, .int n, H', I'.tok _, ⟨_, rfl⟩, q'⟩
/-! ### -o -/
def rNegO (C : Addr) (sp : Sp) (E : XK) : V → Hp → VK → Prop := fun x H Q => ∃ a dx fs, x = .ref a ∧ H a = some (.ins C dx fs) ∧ sp ([.ref a] ++ []) H Q E
theorem un_negO {X : Cx} {CX : CXT} {k : Nat} {C f : Addr} {fd : FuncData} {ps : List Str} {sp : Sp} {E : XK} (m : OwnM X.K C "__neg__" f)
    (F : FnOk X.prog X.w X.K X.mg X.base CX k f fd ps sp) (hr : Room k X.A) (bi : Binds X.K fd ps []) (hx : Passes CX X E) : UnR X (unaryOp .USub) (rNegO C sp E) := by
  intro pins s σ H x u Q I rx h
  obtain ⟨a, dx, fs, rfl, hp, q⟩ := h
  cases rx
  obtain ⟨od, J⟩ := insAt I hp
  unfold unaryOp
  refine wpAny_holding ?_
  show wpAny _ _ (if (UnaryOp.USub == UnaryOp.Not) = true then _ else _) _ _ _
  rw [if_neg (by decide)]
  refine wpAny_bind (PySem.W.special_fn I.kIn J m.at_ (beq_iff_eq.mp m.fn) (wpAny_mono (run_fn (vs := [V.ref a]) F hr bi .nil hx I (.cons rfl .nil) q) (fun u s' z => ?_) fun _ _ z => z))
  exact wpAny_pure z

/-! ### abs(o) -/
def rAbsO (C : Addr) (sp : Sp) (E : XK) : RC := fun xs H Q => ∃ a dx fs, xs = [.ref a] ∧ H a = some (.ins C dx fs) ∧ sp ([.ref a] ++ []) H Q E
/-! ### o + p, both of one class -/
/-- what comes back is no NotImplemented: a value -/
theorem cmpBack_of {Q : VK} {X : Cx} {pins : List (Addr × Obj)} {σ : St} {v : Value} {s' : Shared} (h : EP X pins σ Q v s') : PySem.W.CmpBack (EP X pins σ Q) v s' := by
  obtain ⟨x, H', I', r, q⟩ := h
  cases x with
  | non => cases r; exact ⟨.non, H', I', rfl, q⟩
  | bl b => cases r; exact ⟨.bl b, H', I', rfl, q⟩
  | int i => obtain ⟨t, rfl⟩ := r; exact ⟨.int i, H', I', ⟨t, rfl⟩, q⟩
  | str z => obtain ⟨t, rfl⟩ := r; exact ⟨.str z, H', I', ⟨t, rfl⟩, q⟩
  | byt b => obtain ⟨t, rfl⟩ := r; exact ⟨.byt b, H', I', ⟨t, rfl⟩, q⟩
  | flt b => obtain ⟨t, rfl⟩ := r; exact ⟨.flt b, H', I', ⟨t, rfl⟩, q⟩
  | ref a => cases r; exact ⟨.ref a, H', I', rfl, q⟩
  | ty n => cases r; exact ⟨.ty n, H', I', rfl, q⟩
def rOpO (C : Addr) (sp : Sp) (E : XK) : R2 := fun x y H Q => ∃ a dx fs b dy gs, x = .ref a ∧ y = .ref b ∧ H a = some (.ins C dx fs) ∧ H b = some (.ins C dy gs) ∧ sp ([.ref a, .ref b] ++ []) H Q E
theorem op_own {X : Cx} {CX : CXT} {k : Nat} {C f : Addr} {fd : FuncData} {ps : List Str} {sp : Sp} {E : XK} {op : Operator} (hc : PySem.W.selfFirst X.K C = true) (m : OwnM X.K C (PySem.dunder op.info.2) f)
    (F : FnOk X.prog X.w X.K X.mg X.base CX k f fd ps sp) (hr : Room k X.A) (bi : Binds X.K fd ps []) (hx : Passes CX X E) : OpR X (binaryOp op) (rOpO C sp E) := by
  intro pins s σ H x y v u Q I rx ry h
  obtain ⟨a, dx, fs, b, dy, gs, rfl, rfl, ha, hb, q⟩ := h
  cases rx
  cases ry
  obtain ⟨m0, hF⟩ := I.fr
  obtain ⟨od, J⟩ := insAt I ha
  obtain ⟨od', J'⟩ := insAt I hb
  exact PySem.W.binop_K hF I.ok.mod.kin J J'.type hc m.at_ m.fn (wpAny_mono (run_fn (vs := [V.ref a, V.ref b]) F hr bi .nil hx I (.cons rfl (.cons rfl .nil)) q) (fun u s' z => cmpBack_of z) fun _ _ z => z)
/-! ### o == p, both of one class -/
theorem op_eqO {X : Cx} {CX : CXT} {k : Nat} {C f : Addr} {fd : FuncData} {ps : List Str} {sp : Sp} {E : XK} (m : OwnM X.K C "__eq__" f)
    (F : FnOk X.prog X.w X.K X.mg X.base CX k f fd ps sp) (hr : Room k X.A) (bi : Binds X.K fd ps []) (hx : Passes CX X E) : OpR X (compareOp .Eq) (rOpO C sp E) := by
  intro pins s σ H x y v u Q I rx ry h
  obtain ⟨a, dx, fs, b, dy, gs, rfl, rfl, ha, hb, q⟩ := h
  cases rx
  cases ry
  obtain ⟨m0, hF⟩ := I.fr
  obtain ⟨od, J⟩ := insAt I ha
  obtain ⟨od', J'⟩ := insAt I hb
  show wpAny (model X.prog X.w) X.A (richCompare .Eq (.ref a) (.ref b)) (EP X pins σ Q) X.xe s
  exact PySem.W.cmp_K (op := .Eq) (tb := .ref C) hr.units0 hF I.ok.mod.kin J J'.type (by simp [PySem.W.notFirst]) m.at_ m.fn
    (wpAny_mono (run_fn (vs := [V.ref a, V.ref b]) F hr bi .nil hx I (.cons rfl (.cons rfl .nil)) q) (fun u s' z => cmpBack_of z) fun _ _ z => z)

/-! ### a def run at one state: its promise may speak of the state's size -/
theorem fn_runN {CX : CXT} {P : Program} {w : World} {K : PySem.W.Frag} {mg : Str → Option Value} {base : Heap} {k : Nat} {f : Addr} {name qual : Str} {params : Arguments} {body : List Stmt} {scope : Scope} {dV kV doc pm cdv ct oc : Value} {an od : Option Addr}
    {osl : Array (Option Value)} {N ps : List Str} (lk : K.lookup f = some ⟨oc, od, .func (PySem.W.fnOf name qual params body scope dV kV doc pm an cdv ct), osl⟩) (hcd : PySem.W.codeIn K cdv qual = true) (S : FnScope N ps scope)
    {A : Around} {outer : List Env} {s : Shared} {H : Hp} {args : Args} {us : List Value} {vs : List V} {Q : VK} {E : XK} {t : TS} (hr : Room (k + 1) A) (e0 : Env0 P w K mg base A outer s H)
    (hb : BindsTo s (PySem.W.fnOf name qual params body scope dV kV doc pm an cdv ct) args (ps.zip us)) (r : Vals vs us) (hl : vs.length = ps.length)
    (ht : PSs (cxOf CX P w K mg base N qual scope f cdv A outer s H E) body t) (hq : t { nx := fun _ H' => Q .non H', rt := Q } (start N vs) H) :
    codeAny (model P w) A (.call (.ref f) args) (CR CX outer P w H s Q E) s := by
  have KX : K.In s.heap := e0.mod.kin.keeps fun b o e => (e0.bs b o e).1
  have lim : s.heap.NoLimit := e0.mod.nolimit.keeps fun b o e => (e0.bs b o e).1
  have hkind : ∀ y ∈ ps.zip us, scope.names.lookup y.1 = some .local ∨ (scope.names.lookup y.1 = some .cell ∧ ((cellsFrom (s.heap.objs.size + 1) scope.names []).lookup y.1).isSome = true) := fun ⟨n, v⟩ hy => by
    rcases S.par n (List.of_mem_zip hy).1 with q | q
    · exact .inl q
    · exact .inr ⟨q, PySem.W.cellsFrom_some _ _ _ (.inl q)⟩
  refine codeAny_call_function hr.depth (KX _ _ lk) rfl S.co S.gen rfl (PySem.W.codeRec_of KX hcd) (hb _ _ _ _ ?_)
  refine wpAny_newFunctionEnv_cells S.kind hkind fun env he s1 x => ?_
  subst he
  refine ⟨lim.keeps x.toInCall.keep, codeAny_func ?_⟩
  have I : Inv (cxOf CX P w K mg base N qual scope f cdv A outer s H E) [] (start N vs) H s1 := inv_start S hr.hd e0 hl r x
  refine wpAny_mono (ht.run [] s1 (start N vs) H _ I hq) (fun fl s' hs => ?_) fun e s' hs => hs
  have fin : ∀ {σ' : St} {H' : Hp} {v : V} {u : Value}, Inv (cxOf CX P w K mg base N qual scope f cdv A outer s H E) [] σ' H' s' → RelV v u → Q v H' → CE outer P w H s Q u s' :=
    fun {σ' H' v u} J rv q => ⟨v, H', J.os, J.bare, J.base, J.hok, rv, q⟩
  cases fl with
  | ret u =>
    obtain ⟨v, σ', H', J, rv, q⟩ := hs
    exact fin J rv q
  | next =>
    obtain ⟨σ', H', J, q⟩ := hs
    exact fin (v := V.non) (u := Value.none) J rfl q
  | brk =>
    obtain ⟨_, _, _, q⟩ := hs
    exact False.elim q
  | cont =>
    obtain ⟨_, _, _, q⟩ := hs
    exact False.elim q
/-- a class whose __iter__ says: return iter(self.F) -/
structure IterC (K : PySem.W.Frag) (mg : Str → Option Value) (C f : Addr) (F : Str) : Prop where
  m : OwnM K C "__iter__" f
  cl : Cls K C
  no : NoAttr K C F
  it : mg "iter" = none
  fd : ∃ (name qual : Str) (params : Arguments) (scope : Scope) (dV kV doc pm cdv ct oc : Value) (an od : Option Addr) (osl : Array (Option Value)) (p p1 p2 p3 p4 : Pos),
    K.lookup f = some ⟨oc, od, .func (PySem.W.fnOf name qual params [.Return (some (.Call (.Name "iter" p) [.Attribute (.Name "self" p1) F p2] [] p3)) p4] scope dV kV doc pm an cdv ct), osl⟩ ∧
    PySem.W.codeIn K cdv qual = true ∧ FnScope ["self"] ["self"] scope ∧ (∀ q n g cd, (PyProof.Rows.envOfC q scope n g cd).kindOf (Str.ofString "iter") = some .globalImplicit) ∧ Binds K (PySem.W.fnOf name qual params [.Return (some (.Call (.Name "iter" p) [.Attribute (.Name "self" p1) F p2] [] p3)) p4] scope dV kV doc pm an cdv ct) ["self"] []
section
variable {X : Cx} {pins : List (Addr × Obj)} {σ : St} {H : Hp} {s : Shared} {C a dx f l : Addr} {fs : List (Str × V)} {F : Str} {zs : List V}
theorem run_iter {E : Value → Shared → Prop} (I : Inv X pins σ H s) (c : IterC X.K X.mg C f F) (hr : Room 1 X.A) (ha : H a = some (.ins C dx fs)) (hl : fs.lookup F = some (.ref l)) (hz : SqL X.K H l zs) :
    wpAny (model X.prog X.w) X.A (call (.ref f) [.ref a]) (fun u s' => ∃ it, u = .ref it ∧ s.heap.objs.size ≤ it ∧ H it = none ∧ Inv X pins σ (upd H it (ItO l it 0)) s') E s := by
  obtain ⟨name, qual, params, scope, dV, kV, doc, pm, cdv, ct, oc, an, od, osl, p, p1, p2, p3, p4, lk, hcd, S, hg, hb⟩ := c.fd
  have hself : Vis scope ("self" : Str) := (S.par "self" (List.Mem.head _)).elim .inl (fun z => .inr (.inl z))
  have body : PSs (cxOf CX0 X.prog X.w X.K X.mg X.base ["self"] qual scope f cdv X.A X.stack s H E0) [.Return (some (.Call (.Name "iter" p) [.Attribute (.Name "self" p1) F p2] [] p3)) p4]
      (tRet (tCB (ItX.rIterN X.K s.heap.objs.size) (tCons (tFld X.K (tVar 0) F) tNil))) :=
    pss_one (ps_ret (pe_callB ItX.call_iterN (hg _ _ _ _) c.it (by decide +kernel) (pa_cons (pe_fld (pe_var (i := 0) rfl hself) rfl) pa_nil)))
  have q : (tRet (tCB (ItX.rIterN X.K s.heap.objs.size) (tCons (tFld X.K (tVar 0) F) tNil))) { nx := fun _ _ => False, rt := fun v H' => ∃ it, v = .ref it ∧ s.heap.objs.size ≤ it ∧ H it = none ∧ H' = upd H it (ItO l it 0) } (start ["self"] [.ref a]) H :=
    ⟨.ref a, rfl, a, C, dx, fs, .ref l, rfl, ha, c.cl, c.no, hl, l, zs, rfl, hz, fun it n h => ⟨it, rfl, h, n, rfl⟩⟩
  have run := fn_runN (CX := CX0) (k := 0) (Q := fun v H' => ∃ it, v = .ref it ∧ s.heap.objs.size ≤ it ∧ H it = none ∧ H' = upd H it (ItO l it 0)) (E := E0) (vs := [V.ref a]) (us := [Value.ref a]) lk hcd S hr I.env0 (args := ⟨[.ref a], []⟩) (hb s [.ref a] I.kIn rfl) (.cons rfl .nil) rfl body q
  refine wpAny_call (codeAny_mono run fun r s' hq => ?_)
  cases r with
  | error e => exact False.elim hq
  | ok fl =>
    cases fl with
    | ret u =>
      obtain ⟨v, H', I', rv, it, rfl, h1, h2, rfl⟩ := I.after hq
      cases rv
      exact ⟨it, rfl, h1, h2, I'⟩
    | next => exact False.elim hq
    | brk => exact False.elim hq
    | cont => exact False.elim hq
end

/-! ### for x in o -/
def iOwn (K : PySem.W.Frag) (C : Addr) (F : Str) (te : TE) : TI := fun σ H R => te σ H fun x H1 => ∃ a dx fs l zs, x = .ref a ∧ H1 a = some (.ins C dx fs) ∧ fs.lookup F = some (.ref l) ∧ SqL K H1 l zs ∧ R (Itl K l) H1
theorem next_listiter {s : Shared} {M : Model} {A : Around} {it l : Addr} {i : Nat} {Q : Value → Shared → Prop} {E : Value → Shared → Prop} (h : s.heap.get? it = some (GNX.itObj l i)) (q : Q (.ref it) s) : PySem.W.OwitIt M A Q E (.ref it) s := by
  unfold PySem.W.OwitIt
  exact wpAny_specialOf (name := Str.ofString "__next__") (T := "list_iterator") ⟨_, h, rfl⟩ slot_listiter_next.lookup q
theorem pi_own {X : Cx} {tg e : Expr} {te : TE} {C f : Addr} {F : Str} (he : PE X e te) (c : IterC X.K X.mg C f F) (hr : Room 1 X.A) : PI X tg e (iOwn X.K C F te) := by
  refine ⟨fun pins s σ H R I h => ?_⟩
  refine thn (he.run pins s σ H _ I h) fun u s1 ⟨x, H1, I1, rx, a, dx, fs, l, zs, ex, ha, hl, hz, q⟩ => ?_
  subst ex
  cases rx
  obtain ⟨m0, hF⟩ := I1.fr
  obtain ⟨od, J⟩ := insAt I1 ha
  refine PySem.W.owit_iter hF I1.ok.mod.kin J c.m.at_ c.m.fn (wpAny_mono (run_iter I1 c hr ha hl hz) (fun u s2 ⟨it, e1, h1, h2, I2⟩ => ?_) fun _ _ z => z)
  subst e1
  have hi : upd H1 it (ItO l it 0) it = some (ItO l it 0) := upd_same
  have eo := itO_get I2 hi
  refine next_listiter eo ?_
  have hi' := hi
  unfold ItO at hi'
  have hn : X.s_0.heap.objs.size ≤ it := Nat.le_trans I1.sz h1
  have I3 := ItX.inv_drop I2 hi'
  rw [ItX.dropH_upd h2] at I3
  have fp := ItX.inv_fp I2 hi hn
  rw [ItX.dropH_upd h2] at fp
  refine ⟨it, [it], _, _, H1, rfl, I3, turn_list l it, ⟨_, eo, rfl, rfl⟩, fun b hb => ?_, q⟩
  have e : b = it := by simpa using hb
  rw [e]
  exact fp
/-! ### x in o, by iteration -/
theorem plain_ci : plainId "proto.contains_iter" = true := by decide +kernel
theorem entry_ci : entryFor table "proto.contains_iter" = some Builtin.«proto.contains_iter» := entryFor_of_fast (by kernel_rfl)
theorem inv_ne {zs : List V} {x : V} (h : ∀ (j : Nat) (z : V), zs[j]? = some z → eqV z x = false) : inV x zs = false := by
  unfold inV
  rw [List.any_eq_false]
  intro z hz
  obtain ⟨j, hj, e⟩ := List.mem_iff_getElem.mp hz
  rw [h j z (by rw [List.getElem?_eq_getElem hj, e])]
  exact Bool.false_ne_true
theorem inv_yes {zs : List V} {x z : V} {j : Nat} (h : zs[j]? = some z) (e : eqV z x = true) : inV x zs = true := by
  unfold inV
  rw [List.any_eq_true]
  exact ⟨z, List.mem_of_getElem? h, e⟩
theorem ci_loop {X : Cx} {pins : List (Addr × Obj)} {σ : St} {H : Hp} {A : Around} {it l : Addr} {zs : List V} {x : V} {u : Value} {Q : Value → Shared → Prop} {E : Value → Shared → Prop} (hh : A.handled = none) (hz : SqL X.K H l zs) (fp : FpOk X pins H it) (rx : RelV x u) (fx : flatV x = true) (fz : zs.all flatV = true)
    (fin : ∀ s', Inv X pins σ H s' → Q (.bool (inV x zs)) s') (k : Nat) : ∀ (i : Nat) (s : Shared), zs.length - i = k → i ≤ zs.length → (∀ (j : Nat) (z : V), j < i → zs[j]? = some z → eqV z x = false) → s.heap.get? it = some (GNX.itObj l i) → Inv X pins σ H s →
      codeAny (model X.prog X.w) A (.builtin "proto.contains_iter" ⟨[.ref it, u], []⟩) (fun r s' => match r with | .ok (.ret v) => Q v s' | .ok _ => False | .error e => E e s') s := by
  obtain ⟨f0, f1, f2, f3, f4, f5⟩ := fp
  induction k with
  | zero =>
    intro i s hk hi hne eo I
    have hi' : i = zs.length := by omega
    obtain ⟨its, rv, pl, hsz⟩ := I.list hz
    refine codeAny_builtin entry_ci ?_
    rw [Around.under_plainId plain_ci _]
    show wpAny _ _ (pyNext (.ref it) >>= _) _ _ _
    have hln := rv.length
    refine wpAny_bind (wpAny_pyNext_list_end hh ⟨_, eo, rfl, rfl⟩ pl.isList (by simp; omega) fun h' eb => ?_)
    have I4 := I.turned (t' := s.toks) (fun b o hb e => eb b o hb e) f0 f1 f3 f4 f5
    have e : inV x zs = false := inv_ne fun j z e => hne j z (by have := (List.getElem?_eq_some_iff.mp e).1; omega) e
    refine wpAny_bind (wpAny_rule (wpAny_pure ?_))
    show Q (.bool false) _
    rw [← e]
    exact fin _ I4
  | succ k ih =>
    intro i s hk hi hne eo I
    obtain ⟨its, rv, pl, hsz⟩ := I.list hz
    have hlt : i < zs.length := by omega
    have ez : zs[i]? = some zs[i] := List.getElem?_eq_getElem hlt
    obtain ⟨y, hy, ry⟩ := rv.get ez
    have fy : flatV zs[i] = true := List.all_eq_true.mp fz _ (List.getElem_mem hlt)
    refine codeAny_builtin entry_ci ?_
    rw [Around.under_plainId plain_ci _]
    show wpAny _ _ (pyNext (.ref it) >>= _) _ _ _
    refine wpAny_bind (DSub.py_item eo pl.isList (by simpa using hy) fun h' e2 sb => ?_)
    have I4 := I.turned (t' := s.toks) (fun b o hb e => (sb.2 b hb).trans e) f0 f1 f3 f4 f5
    refine wpAny_bind (eqAt_V ry rx fy fx _ _ _ _ ?_)
    cases hb : eqV zs[i] x with
    | true =>
      refine wpAny_bind (wpAny_rule (wpAny_pure ?_))
      show Q (.bool true) _
      rw [← inv_yes ez hb]
      exact fin _ I4
    | false =>
      refine wpAny_pure ⟨plainId_quiet plain_ci _, ih (i + 1) _ (by omega) (by omega) (fun j z hj e => ?_) e2 I4⟩
      rcases Nat.lt_or_ge j i with h | h
      · exact hne j z h e
      · have : j = i := by omega
        subst this
        rw [ez] at e
        cases e
        exact hb
/-- x in o, where o's class says __iter__ alone -/
def rInO (K : PySem.W.Frag) (C : Addr) (F : Str) (neg : Bool) : R2 := fun x y H Q => ∃ a dx fs l zs, y = .ref a ∧ H a = some (.ins C dx fs) ∧ fs.lookup F = some (.ref l) ∧ SqL K H l zs ∧ flatV x = true ∧ zs.all flatV = true ∧ Q (.bl (if neg then !inV x zs else inV x zs)) H
theorem contains_own {X : Cx} {pins : List (Addr × Obj)} {σ : St} {H : Hp} {s : Shared} {C f a dx l : Addr} {F : Str} {fs : List (Str × V)} {zs : List V} {x : V} {u : Value} {Q : Bool → Shared → Prop} (hh : X.A.handled = none) (hr : Room 1 X.A) (c : IterC X.K X.mg C f F) (nc : PySem.W.findIn X.K (.ref C) "__contains__" = some none) (I : Inv X pins σ H s)
    (ha : H a = some (.ins C dx fs)) (hl : fs.lookup F = some (.ref l)) (hz : SqL X.K H l zs) (rx : RelV x u) (fx : flatV x = true) (fz : zs.all flatV = true) (fin : ∀ s', Inv X pins σ H s' → Q (inV x zs) s') : wpAny (model X.prog X.w) X.A (contains (.ref a) u) Q X.xe s := by
  obtain ⟨m0, hF⟩ := I.fr
  obtain ⟨od, J⟩ := insAt I ha
  unfold contains
  refine wpAny_holding ?_
  have e0 : stdlibNamesSay? (.ref a) u = none := rfl
  simp only [e0]
  refine wpAny_bind ?_
  unfold specialOf
  refine wpAny_bind (J.type.here ((PySem.W.looks_findIn I.kIn nc).here ?_))
  rw [if_neg (by decide)]
  unfold callSpecialUnlessNone? specialOf
  refine wpAny_bind (wpAny_bind (wpAny_bind (J.type.here ((PySem.W.looks_findIn I.kIn nc).here (wpAny_pure ?_)))))
  refine wpAny_bind (wpAny_rule ?_)
  refine wpAny_bind (wpAny_tryCatch ?_)
  refine PySem.W.owit_iter hF I.ok.mod.kin J c.m.at_ c.m.fn (wpAny_mono (run_iter I c hr ha hl hz) (fun v s2 ⟨it, e1, h1, h2, I2⟩ => ?_) fun _ _ z => z)
  subst e1
  have hi : upd H it (ItO l it 0) it = some (ItO l it 0) := upd_same
  have eo := itO_get I2 hi
  refine next_listiter eo ?_
  have hi' := hi
  unfold ItO at hi'
  have I3 := ItX.inv_drop I2 hi'
  rw [ItX.dropH_upd h2] at I3
  have fp := ItX.inv_fp I2 hi (Nat.le_trans I.sz h1)
  rw [ItX.dropH_upd h2] at fp
  refine wpAny_bind (wpAny_runValue ?_)
  refine codeAny_mono (ci_loop (E := X.xe) (Q := fun v s' => ∃ b, v = .bool b ∧ Q b s') hh hz fp rx fx fz (fun s' I' => ⟨_, rfl, fin s' I'⟩) _ 0 s2 rfl (Nat.zero_le _) (fun j z hj => absurd hj (Nat.not_lt_zero _)) eo I3) (fun r s' hq => ?_)
  cases r with
  | error e => exact hq
  | ok fl =>
    cases fl with
    | ret v => obtain ⟨b, rfl, q⟩ := hq; exact wpAny_pure q
    | next => exact False.elim hq
    | brk => exact False.elim hq
    | cont => exact False.elim hq
theorem op_inO {X : Cx} {C f : Addr} {F : Str} (hr : Room 1 X.A) (c : IterC X.K X.mg C f F) (nc : PySem.W.findIn X.K (.ref C) "__contains__" = some none) : OpR X (compareOp .In) (rInO X.K C F false) := by
  intro pins s σ H x y v u Q I rx ry h
  obtain ⟨a, dx, fs, l, zs, rfl, ha, hl, hz, fx, fz, q⟩ := h
  cases ry
  show wpAny (model X.prog X.w) X.A (contains (.ref a) v >>= fun b => pure (Value.bool b)) _ _ _
  exact wpAny_bind (contains_own hr.hd hr c nc I ha hl hz rx fx fz fun s' I' => wpAny_pure ⟨V.bl _, H, I', rfl, q⟩)
theorem op_ninO {X : Cx} {C f : Addr} {F : Str} (hr : Room 1 X.A) (c : IterC X.K X.mg C f F) (nc : PySem.W.findIn X.K (.ref C) "__contains__" = some none) : OpR X (compareOp .NotIn) (rInO X.K C F true) := by
  intro pins s σ H x y v u Q I rx ry h
  obtain ⟨a, dx, fs, l, zs, rfl, ha, hl, hz, fx, fz, q⟩ := h
  cases ry
  show wpAny (model X.prog X.w) X.A (contains (.ref a) v >>= fun b => pure (Value.bool (!b))) _ _ _
  exact wpAny_bind (contains_own hr.hd hr c nc I ha hl hz rx fx fz fun s' I' => wpAny_pure ⟨V.bl _, H, I', rfl, q⟩)
/-! ### class facts as checks -/
theorem PE.weak {X : Cx} {e : Expr} {t t' : TE} (h : PE X e t) (w : ∀ σ H Q, t' σ H Q → t σ H Q) : PE X e t' := ⟨fun pins s σ H Q I q => h.run pins s σ H Q I (w σ H Q q)⟩
def propB (K : PySem.W.Frag) (C : Addr) (f : Str) : Bool := He.eqO (PySem.W.findIn K (.ref C) f) (some (some (.ref (He.ma K C f)))) && (He.eqO (PySem.W.specialIn K (.ref (He.ma K C f)) "__get__") (some (some (.builtin "property.__get__"))) &&
  (decide (PySem.W.takesIn K (.ref (He.ma K C f)) = some true) && (match PySem.W.recIn K (He.ma K C f) "property" with
    | some (.ref _ :: _) => true
    | _ => false)))
theorem propB_ok {K : PySem.W.Frag} {C : Addr} {f : Str} (h : propB K C f = true) : PropOf K C f (He.ma K C f) (He5.wf K C "property" f) := by
  obtain ⟨h1, h⟩ := He.ba h
  obtain ⟨h2, h⟩ := He.ba h
  obtain ⟨h3, h4⟩ := He.ba h
  refine ⟨He.eqO_ok h1, He.eqO_ok h2, of_decide_eq_true h3, ?_⟩
  unfold He5.wf
  split at h4
  · rename_i g r e
    exact ⟨r, by rw [e]⟩
  · cases h4
def creadB (K : PySem.W.Frag) (C : Addr) : Bool := PySem.W.readsIn K C (.type "type") && He.eqO (PySem.W.specialIn K (.ref C) "__getattribute__") (some (some (.builtin "type.__getattribute__")))
theorem creadB_ok {K : PySem.W.Frag} {C : Addr} (h : creadB K C = true) : ClX.CRead K C (.type "type") := let ⟨h1, h2⟩ := He.ba h; ⟨h1, He.eqO_ok h2⟩
def cvalB (K : PySem.W.Frag) (C : Addr) (f : Str) (i : Int) : Bool := match PySem.W.findCls K (.ref C) (.type "type") f with
  | some (.val (.int j _)) => decide (j = i)
  | _ => false
theorem cvalB_ok {K : PySem.W.Frag} {C : Addr} {f : Str} {i : Int} (h : cvalB K C f i = true) : ∃ u, ClX.CVal K C (.type "type") f (.int i) u := by
  unfold cvalB at h
  split at h
  · rename_i j t e
    cases of_decide_eq_true h
    exact ⟨_, e, t, rfl⟩
  · cases h
def cmetB (K : PySem.W.Frag) (C : Addr) (m : Str) : Bool := He5.wrapB K C "classmethod" "classmethod.__get__" m && PySem.W.fnIn K (He5.wf K C "classmethod" m)
theorem cmetB_ok {K : PySem.W.Frag} {C : Addr} {m : Str} (h : cmetB K C m = true) : ClX.CMet K C (.type "type") m (He.ma K C m) (He5.wf K C "classmethod" m) :=
  let ⟨h1, h2⟩ := He.ba h; ⟨(He5.wrapB_ok h1).1, (He5.wrapB_ok h1).2, h2⟩
theorem iterC_of {K : PySem.W.Frag} {mg : Str → Option Value} {C : Addr} {d : DD} {F : Str} {p p1 p2 p3 p4 : Pos} (hf : FunAt K d) (m : OwnM K C "__iter__" (d.adr K)) (cl : Cls K C) (no : NoAttr K C F) (it : mg "iter" = none)
    (hb : defBody d.st = [.Return (some (.Call (.Name "iter" p) [.Attribute (.Name "self" p1) F p2] [] p3)) p4]) (S : FnScope ["self"] ["self"] (defScope d.st))
    (hg : ∀ q n g cd, (PyProof.Rows.envOfC q (defScope d.st) n g cd).kindOf (Str.ofString "iter") = some .globalImplicit) (b : Binds K (fdA K (d.adr K)) ["self"] []) : IterC K mg C (d.adr K) F := by
  obtain ⟨⟨oc, od, dV, kV, doc, pm, an, cdv, ct, osl, e, lk, hc, _, _⟩, kp⟩ := hf
  rw [hb] at e
  refine ⟨m, cl, no, it, ⟨d.name, d.qual, defArgs d.st, defScope d.st, dV, kV, doc, pm, cdv, ct, oc, an, od, osl, p, p1, p2, p3, p4, ?_, hc, S, hg, ?_⟩⟩
  · rw [← e]; exact lk
  · rw [← e]; exact b
theorem passN {P : Program} {w : World} {X : Cx} : Passes (L2.CX P w) X E0 := fun pins σ H s e s' I h => by
  obtain ⟨_, _, _, _, _, _, _, _, _, _, _, _, z⟩ := h
  exact z.elim
/-! ### attributes of a known class -/
def tFldC (C : Addr) (ta : TE) (f : Str) : TE := fun σ H Q => ta σ H fun x H1 => ∃ a dx fs v, x = .ref a ∧ H1 a = some (.ins C dx fs) ∧ fs.lookup f = some v ∧ Q v H1
def sFldC (C : Addr) (ta tv : TE) (f : Str) : TS := fun D σ H => tv σ H fun y H1 => ta σ H1 fun x H2 => ∃ a dx fs, x = .ref a ∧ H2 a = some (.ins C dx fs) ∧ fs.length < 1000 ∧ D.nx σ (upd H2 a (.ins C dx (putF f y fs)))
section
variable {X : Cx} {C : Addr} {o e value : Expr} {f : Str} {pos pos' tpos p : Pos} {ta tv : TE}
theorem pe_fldC (he : PE X e ta) (c : Cls X.K C) (n : NoAttr X.K C f) (hb : attributeBase e f X.env (eval e X.env) = eval e X.env := by rfl) : PE X (.Attribute e f pos) (tFldC C ta f) := by
  refine ⟨fun pins s σ H Q I h => ?_⟩
  refine attr_of hb (thn (he.run pins s σ H _ I h) fun u s1 ⟨x, H1, I1, rx, a, dx, fs, v, ex, ea, l, q⟩ => ?_)
  subst ex
  obtain rfl : u = Value.ref a := rx
  exact getattr_ok I1 ea c n l fun u' s2 I2 ru => ⟨v, H1, I2, ru, q⟩
theorem ps_fldC (ha : PE X o ta) (hv : PE X value tv) (c : Cls X.K C) (n : NoAttr X.K C f) (hs : swapsWith value (some (.Attribute o f pos')) pos.line X.env = pure false := by rfl) : PS X (.Assign [.Attribute o f pos'] value pos) (sFldC C ta tv f) := by
  refine ⟨fun pins s σ H D I h => ?_⟩
  refine plainObj_wpAny_Assign_Attribute (thn (hv.run pins s σ H _ I h) fun u s1 ⟨y, H1, I1, ry, q⟩ => thn (ha.run pins s1 σ H1 _ I1 q) fun ov s2 ⟨x, H2, I2, rx, a, dx, fs, ex, ea, l, q2⟩ => ?_) hs
  subst ex
  obtain rfl : ov = Value.ref a := rx
  exact setattr_ok I2 ea c n l ry fun s3 I3 => ⟨σ, _, I3, q2⟩
theorem pe_cvalC {x : Str} {v : V} (hg : Gl X x) (hm : X.mg x = some (.ref C)) (r : ClX.CRead X.K C (.type "type")) (hv : ∃ u, ClX.CVal X.K C (.type "type") f v u) (hb : attributeBase (.Name x p) f X.env (eval (.Name x p) X.env) = eval (.Name x p) X.env := by rfl) (hd : (x == ("__debug__" : Str)) = false := by decide) : PE X (.Attribute (.Name x p) f pos) (tC v) :=
  let ⟨u, c⟩ := hv
  PE.weak (ClX.pe_cval (pe_glob (v := .ref C) hg hm rfl hd) hb) fun σ H Q h => ⟨C, _, v, u, rfl, r, c, h⟩
end
/-! ### isinstance(o, C) of C's own instances -/
structure IsiF (K : PySem.W.Frag) (C : Addr) : Prop where
  ha : PySem.W.findIn K (.ref C) "__class__" = some (some (.builtin "object.__class__"))
  hn : PySem.W.specialIn K (.builtin "object.__class__") "__get__" = some (some (.builtin "getset_descriptor.__get__"))
  htk : PySem.W.takesIn K (.builtin "object.__class__") = some true
  hm : PySem.W.mroIn K C (.type "object") = some true
def isiB (K : PySem.W.Frag) (C : Addr) : Bool := He.eqO (PySem.W.findIn K (.ref C) "__class__") (some (some (.builtin "object.__class__"))) && (He.eqO (PySem.W.specialIn K (.builtin "object.__class__") "__get__") (some (some (.builtin "getset_descriptor.__get__"))) &&
  (decide (PySem.W.takesIn K (.builtin "object.__class__") = some true) && decide (PySem.W.mroIn K C (.type "object") = some true)))
theorem isiB_ok {K : PySem.W.Frag} {C : Addr} (h : isiB K C = true) : IsiF K C := by
  obtain ⟨h1, h⟩ := He.ba h
  obtain ⟨h2, h⟩ := He.ba h
  obtain ⟨h3, h4⟩ := He.ba h
  exact ⟨He.eqO_ok h1, He.eqO_ok h2, of_decide_eq_true h3, of_decide_eq_true h4⟩
def rIsiC (C : Addr) : RC := fun xs H Q => ∃ a dx fs, xs = [.ref a, .ref C] ∧ H a = some (.ins C dx fs) ∧ Q (.bl true) H
theorem call_isiC {X : Cx} {C : Addr} (cl : Cls X.K C) (i : IsiF X.K C) : CallR X (.builtin "isinstance") (rIsiC C) := by
  intro pins s σ H xs us Q I r h
  obtain ⟨a, dx, fs, rfl, ha, q⟩ := h
  exact call_isi pins s σ H _ us Q I r ⟨_, _, _, _, true, rfl, .own C, .base (.ins ha cl i.ha i.hn i.htk i.hm), by unfold PySem.W.kitOne; rw [if_pos (beq_self_eq_true _)], q⟩
abbrev rDictD : RC := fun xs H Q => ∃ (a : Addr) (kvs : List (Key × V)), xs = [.ref a] ∧ Rd H a (.dK kvs) ∧ ∀ p, H p = none → Q (.ref p) (upd H p (.dK kvs))
abbrev rListD : RC := fun xs H Q => ∃ (a : Addr) (kvs : List (Key × V)), xs = [.ref a] ∧ Rd H a (.dK kvs) ∧ ∀ p, H p = none → Q (.ref p) (upd H p (.lst (kvs.map fun kv => kV kv.1)))
abbrev rLenD : RC := fun xs H Q => ∃ a kvs, xs = [V.ref a] ∧ H a = some (.dK kvs) ∧ Q (.int kvs.length) H
end Rm

/-! LI: list(o) of an own class with __iter__ and __len__ -/
namespace Rm
open PySem PySem.Spec L2
section
variable {X : Cx} {pins : List (Addr × Obj)} {σ : St} {H : Hp} {s : Shared} {C a dx f l : Addr} {fs : List (Str × V)} {F : Str} {zs : List V}
variable {k : Nat} {fd : FuncData} {ps : List Str} {sp : Sp} {dvs : List V} {ds : List Value} {E : XK}
theorem env0A {n : Nat} {A : Around} (sb : Sub X n A) (I : Inv X pins σ H s) : Env0 X.prog X.w X.K X.mg X.base A X.stack s H := by
  have e := I.env0
  exact ⟨by rw [sb.fr]; exact e.frames, e.mod, e.bs, e.bsz, e.funs, e.frf, e.hok, e.bare⟩
theorem run_inA {A : Around} {Q : VK} {us : List Value} {vs : List V} {Ex : Value → Shared → Prop} (sb : Sub X k A) (F : FnOk X.prog X.w X.K X.mg X.base (L2.CX X.prog X.w) k f fd ps sp) (hb : Binds X.K fd ps ds) (hd : Vals dvs ds)
    (I : Inv X pins σ H s) (r : Vals vs us) (h : sp (vs ++ dvs) H Q E0) : wpAny (model X.prog X.w) A (call (.ref f) us) (EP X pins σ Q) Ex s := by
  have r2 : Vals (vs ++ dvs) (us ++ ds) := r.append hd
  have hl : (us ++ ds).length = ps.length := by rw [← r2.length]; exact F.len _ _ _ _ h
  refine wpAny_call (codeAny_mono (F.run A X.stack s H ⟨us, []⟩ (us ++ ds) (vs ++ dvs) Q E0 sb.room (env0A sb I) (hb s us I.kIn hl) r2 h) fun r s' hq => ?_)
  cases r with
  | error e =>
    obtain ⟨_, _, _, _, _, _, _, _, _, _, _, _, z⟩ := hq
    exact z.elim
  | ok fl =>
    cases fl with
    | ret u => exact I.after hq
    | next => exact False.elim hq
    | brk => exact False.elim hq
    | cont => exact False.elim hq
theorem run_iterA {A : Around} {E : Value → Shared → Prop} (sb : Sub X 1 A) (I : Inv X pins σ H s) (c : IterC X.K X.mg C f F) (ha : H a = some (.ins C dx fs)) (hl : fs.lookup F = some (.ref l)) (hz : SqL X.K H l zs) :
    wpAny (model X.prog X.w) A (call (.ref f) [.ref a]) (fun u s' => ∃ it, u = .ref it ∧ s.heap.objs.size ≤ it ∧ H it = none ∧ Inv X pins σ (upd H it (ItO l it 0)) s') E s := by
  obtain ⟨name, qual, params, scope, dV, kV, doc, pm, cdv, ct, oc, an, od, osl, p, p1, p2, p3, p4, lk, hcd, S, hg, hb⟩ := c.fd
  have hself : Vis scope ("self" : Str) := (S.par "self" (List.Mem.head _)).elim .inl (fun z => .inr (.inl z))
  have body : PSs (cxOf CX0 X.prog X.w X.K X.mg X.base ["self"] qual scope f cdv A X.stack s H E0) [.Return (some (.Call (.Name "iter" p) [.Attribute (.Name "self" p1) F p2] [] p3)) p4]
      (tRet (tCB (ItX.rIterN X.K s.heap.objs.size) (tCons (tFld X.K (tVar 0) F) tNil))) :=
    pss_one (ps_ret (pe_callB ItX.call_iterN (hg _ _ _ _) c.it (by decide +kernel) (pa_cons (pe_fld (pe_var (i := 0) rfl hself) rfl) pa_nil)))
  have q : (tRet (tCB (ItX.rIterN X.K s.heap.objs.size) (tCons (tFld X.K (tVar 0) F) tNil))) { nx := fun _ _ => False, rt := fun v H' => ∃ it, v = .ref it ∧ s.heap.objs.size ≤ it ∧ H it = none ∧ H' = upd H it (ItO l it 0) } (start ["self"] [.ref a]) H :=
    ⟨.ref a, rfl, a, C, dx, fs, .ref l, rfl, ha, c.cl, c.no, hl, l, zs, rfl, hz, fun it n h => ⟨it, rfl, h, n, rfl⟩⟩
  have run := fn_runN (CX := CX0) (k := 0) (Q := fun v H' => ∃ it, v = .ref it ∧ s.heap.objs.size ≤ it ∧ H it = none ∧ H' = upd H it (ItO l it 0)) (E := E0) (vs := [V.ref a]) (us := [Value.ref a]) lk hcd S sb.room (env0A sb I) (args := ⟨[.ref a], []⟩) (hb s [.ref a] I.kIn rfl) (.cons rfl .nil) rfl body q
  refine wpAny_call (codeAny_mono run fun r s' hq => ?_)
  cases r with
  | error e => exact False.elim hq
  | ok fl =>
    cases fl with
    | ret u =>
      obtain ⟨v, H', I', rv, it, rfl, h1, h2, rfl⟩ := I.after hq
      cases rv
      exact ⟨it, rfl, h1, h2, I'⟩
    | next => exact False.elim hq
    | brk => exact False.elim hq
    | cont => exact False.elim hq
/-- the length hint asks len -/
theorem hint_len {A : Around} {R : Hp → Prop} {Ex : Value → Shared → Prop} (sb : Sub X (k + 1) A) (m : OwnM X.K C "__len__" f) (FL : FnOk X.prog X.w X.K X.mg X.base (L2.CX X.prog X.w) k f fd ps sp) (bi : Binds X.K fd ps [])
    (I : Inv X pins σ H s) (hp : H a = some (.ins C dx fs)) (q : sp ([.ref a] ++ []) H (fun v H' => ∃ n : Int, v = .int n ∧ 0 ≤ n ∧ n ≤ (sizeLine : Int) ∧ R H') E0) :
    wpAny (model X.prog X.w) A (Builtin.List.listLengthHint (.ref a)) (fun b s' => ∃ H', Inv X pins σ H' s' ∧ R H') Ex s := by
  obtain ⟨m0, hF⟩ := I.fr
  obtain ⟨od, J⟩ := insAt I hp
  unfold Builtin.List.listLengthHint
  refine wpAny_bind (wpAny_bind (J.type.here ((PySem.W.looks_findIn I.kIn m.at_).here ?_)))
  refine PySem.W.KFB.if_not rfl ?_
  refine PySem.W.KFB.if_so rfl ?_
  refine wpAny_bind (wpAny_rule ?_)
  refine wpAny_bind (wpAny_attempt ?_)
  refine PySem.W.len_K hF I.ok.mod.kin J m.at_ m.fn (wpAny_mono (run_inA (vs := [V.ref a]) sb.in1 FL bi .nil I (.cons rfl .nil) q) (fun u s' z => ?_) fun _ _ z => z)
  obtain ⟨v, H', I', rv, n, rfl, h0, h1, q'⟩ := z
  obtain ⟨t, rfl⟩ := rv
  have hz : (sizeLine : Int) < 2 ^ 63 := by rw [sizeLine_eq]; decide
  refine ⟨⟨h0, by omega⟩, ?_⟩
  show wpAny _ _ (asInt? _ >>= _) _ _ _
  refine wpAny_bind (wpAny_pure ?_)
  refine PySem.W.KFB.if_not (notLongL (by omega)) ?_
  exact wpAny_pure ⟨H', I'.tok _, q'⟩
/-- the rest of an iterator over a list goes into the list at q -/
theorem fill_loop {A1 : Around} {q it : Addr} {Rs : Result → Shared → Prop} (hh : A1.handled = none) (hd : A1.in1.handled = none) (hne : q ≠ it) (fp : ∀ ys, FpOk X pins (upd H q (.lst ys)) it) (hz : ∀ ys, SqL X.K (upd H q (.lst ys)) l zs)
    (hdone : ∀ s, Inv X pins σ (upd H q (.lst zs)) s → Rs (.ok (.ret .none)) s) (k : Nat) : ∀ (i : Nat) (s : Shared), zs.length - i = k → i ≤ zs.length → s.heap.get? it = some (GNX.itObj l i) → Inv X pins σ (upd H q (.lst (zs.take i))) s →
      codeAny (model X.prog X.w) A1 (.builtin "list.extend.loop" ⟨[.ref q, .ref it, .none], []⟩) Rs s := by
  induction k with
  | zero =>
    intro i s hk hi eo I
    have hi' : i = zs.length := by omega
    obtain ⟨its, rv, pl, hsz⟩ := I.list (hz _)
    have hln := rv.length
    refine codeAny_builtin PySem.F.entry_extend_loop ?_
    rw [Around.under_plainId PySem.F.plain_extend_loop _]
    show wpAny _ A1.in1 (pyNext (.ref it) >>= _) _ _ s
    refine wpAny_bind (wpAny_pyNext_list_end hd ⟨_, eo, rfl, rfl⟩ pl.isList (by simp; omega) fun h' eb => ?_)
    obtain ⟨f0, f1, f2, f3, f4, f5⟩ := fp (zs.take i)
    have I4 := I.turned (t' := s.toks) (fun b o hb e => eb b o hb e) f0 f1 f3 f4 f5
    refine wpAny_pure ?_
    rw [hi', List.take_length] at I4
    exact hdone _ I4
  | succ k ih =>
    intro i s hk hi eo I
    obtain ⟨its, rv, pl, hsz⟩ := I.list (hz _)
    have hlt : i < zs.length := by omega
    have ez : zs[i]? = some zs[i] := List.getElem?_eq_getElem hlt
    obtain ⟨y, hy, ry⟩ := rv.get ez
    refine codeAny_builtin PySem.F.entry_extend_loop ?_
    rw [Around.under_plainId PySem.F.plain_extend_loop _]
    show wpAny _ A1.in1 (pyNext (.ref it) >>= _) _ _ s
    refine wpAny_bind (DSub.py_item eo pl.isList (by simpa using hy) fun h' e2 sb => ?_)
    obtain ⟨f0, f1, f2, f3, f4, f5⟩ := fp (zs.take i)
    have I4 := I.turned (t' := s.toks) (fun b o hb e => (sb.2 b hb).trans e) f0 f1 f3 f4 f5
    show wpAny _ A1.in1 (updateSeq q (·.push y) >>= _) _ _ _
    obtain ⟨z, its2, n2, r2, hl2, e3⟩ := I4.lstM (upd_same)
    have hlen : (zs.take i).length = i := by rw [List.length_take]; omega
    refine wpAny_bind (wpAny_updateSeq e3 rfl (wpAny_pure ⟨plainId_quiet PySem.F.plain_extend_loop _, ?_⟩) (by rw [List.size_toArray]; omega) (by show (its2.toArray.push y).size ≤ sizeLine + 1; rw [Array.size_push, List.size_toArray]; omega))
    have hsz2 : zs.length ≤ sizeLine := by omega
    have I5 := I4.lset (its' := its2 ++ [y]) (t' := s.toks) upd_same e3 (f := (·.push y)) (by simp) (r2.append (.cons ry .nil)) (by rw [List.length_append, List.length_singleton]; omega)
    rw [upd_upd] at I5
    have et : zs.take i ++ [zs[i]] = zs.take (i + 1) := by rw [List.take_succ, ez]; rfl
    rw [et] at I5
    refine ih (i + 1) _ (by omega) (by omega) ?_ I5
    show (Heap.update _ q _).get? it = _
    rw [Heap.get?_update_other _ _ hne]
    exact e2
theorem own_ext {A1 : Around} {q fl : Addr} {R : Hp → Prop} {Rs : Result → Shared → Prop} {fi : Addr} (sb : Sub X (k + 2) A1.in1) (hA : A1.handled = none) (hA2 : A1.in1.handled = none) (c : IterC X.K X.mg C fi F) (m : OwnM X.K C "__len__" fl)
    (FL : FnOk X.prog X.w X.K X.mg X.base (L2.CX X.prog X.w) k fl fd ps sp) (bi : Binds X.K fd ps [])
    (hdone : ∀ H s, Inv X pins σ H s → R H → Rs (.ok (.ret .none)) s)
    (I : Inv X pins σ H s) (ha : H a = some (.ins C dx fs)) (hl : fs.lookup F = some (.ref l)) (hz : H l = some (.lst zs)) (hq : H q = some (.lst [])) (hlq : l ≠ q) (hyoung : X.s_0.heap.objs.size ≤ s.heap.objs.size)
    (hsp : ∀ it, H it = none → sp ([.ref a] ++ []) (upd H it (ItO l it 0)) (fun v H' => ∃ n : Int, v = .int n ∧ 0 ≤ n ∧ n ≤ (sizeLine : Int) ∧ H' q = some (.lst []) ∧ H' it = some (ItO l it 0) ∧ H' l = some (.lst zs) ∧ R (upd (ItX.dropH H' it) q (.lst zs))) E0) :
    wpAny (model X.prog X.w) A1.in1 (Builtin.List.listExtendWith (.ref q) (.ref a) .none)
      (fun fin s' => match fin with | .done f => Rs (.ok f) s' | .again c' => c'.quiet = true ∧ codeAny (model X.prog X.w) A1 c' Rs s') (fun e s' => Rs (.error e) s') s := by
  have hne : q ≠ a := ne_of hq ha (fun z => nomatch z)
  obtain ⟨mA, J, _⟩ := ins_get I.hok ha
  obtain ⟨od, J, _⟩ := J.look
  obtain ⟨m0, hF⟩ := I.fr
  unfold Builtin.List.listExtendWith
  refine wpAny_bind (J.type.here ?_)
  have h1 : Builtin.List.listSameRef (.ref q) (.ref a) = false := by simp [Builtin.List.listSameRef, hne]
  have h2 : (Value.ref C == Value.type "list") = false := rfl
  have h3 : (Value.ref C == Value.type "tuple") = false := rfl
  simp only [h1, h2, h3, Bool.or_false, Bool.false_eq_true, if_false]
  refine wpAny_bind (PySem.W.owit_iter hF I.ok.mod.kin J c.m.at_ c.m.fn (wpAny_mono (run_iterA (sb.mono (by omega)) I c ha hl (sqL_of hz)) (fun v s2 ⟨it, e1, h1, h2, I2⟩ => ?_) fun _ _ z => z))
  subst e1
  have hi : upd H it (ItO l it 0) it = some (ItO l it 0) := upd_same
  have eo := itO_get I2 hi
  refine next_listiter eo ?_
  have hqi : q ≠ it := ne_of_none hq h2
  have hai : a ≠ it := ne_of_none ha h2
  have ha2 : upd H it (ItO l it 0) a = some (.ins C dx fs) := by rw [upd_ne hai]; exact ha
  refine wpAny_bind (wpAny_holding (wpAny_mono (hint_len (R := fun H' => H' q = some (.lst []) ∧ H' it = some (ItO l it 0) ∧ H' l = some (.lst zs) ∧ R (upd (ItX.dropH H' it) q (.lst zs))) (sb.mono (by omega)) m FL bi I2 ha2 (hsp it h2)) (fun b s' ⟨H', I', k1, k2, k3, k4⟩ => ?_) fun _ _ z => z))
  have hi' := k2
  unfold ItO at hi'
  have eo' := itO_get I' k2
  have I3 := ItX.inv_drop I' hi'
  have fp := ItX.inv_fp I' k2 (Nat.le_trans hyoung h1)
  have hq3 : ItX.dropH H' it q = some (.lst []) := by rw [ItX.dropH_ne hqi]; exact k1
  have hl3 : ItX.dropH H' it l = some (.lst zs) := by rw [ItX.dropH_ne (ne_of_none hz h2)]; exact k3
  have hself : upd (ItX.dropH H' it) q (.lst []) = ItX.dropH H' it := by
    funext b
    by_cases hb : b = q
    · rw [hb, upd_same, hq3]
    · rw [upd_ne hb]
  have loop : ∀ s4, s4.heap.get? it = some (GNX.itObj l 0) → Inv X pins σ (ItX.dropH H' it) s4 → codeAny (model X.prog X.w) A1 (.builtin "list.extend.loop" ⟨[.ref q, .ref it, .none], []⟩) Rs s4 := fun s4 e4 I4 => by
    refine fill_loop (H := ItX.dropH H' it) (l := l) (zs := zs) hA hA2 hqi (fun ys => ?_) (fun ys => ?_) (fun s5 I5 => hdone _ _ I5 k4) zs.length 0 s4 rfl (Nat.zero_le _) e4 ?_
    · obtain ⟨f0, f1⟩ := fp
      exact ⟨by rw [upd_ne hqi.symm]; exact f0, f1⟩
    · exact sqL_of (by rw [upd_ne hlq]; exact hl3)
    · rw [List.take_zero, hself]; exact I4
  obtain ⟨z, its, n3, r3, hl4, e3⟩ := I3.lstM hq3
  cases r3
  refine wpAny_ite_split (fun _ => ?_) (fun _ => wpAny_pure ⟨plainId_quiet PySem.F.plain_extend_loop _, loop s' eo' I3⟩)
  refine wpAny_bind (wpAny_rule ?_)
  refine wpAny_bind ?_
  show wpAny _ _ (updateSeq q (·.push .none) >>= fun _ => updateSeq q (·.pop)) _ _ _
  refine wpAny_bind (wpAny_updateSeq e3 rfl ?_)
  have I5 := I3.lset (f := (·.push Value.none)) (its' := [Value.none]) (ys := [.non]) (t' := s'.toks) hq3 e3 (by simp) (.cons rfl .nil) (by rw [List.length_singleton, sizeLine_eq]; decide)
  obtain ⟨z4, its4, k5, r4, hl5, e5⟩ := I5.lstM upd_same
  obtain ⟨u4, rfl, ru4⟩ := r4.one
  refine wpAny_updateSeq e5 rfl ?_ (by show 1 ≤ sizeLine; rw [sizeLine_eq]; decide) (by show 0 ≤ sizeLine + 1; exact Nat.zero_le _)
  refine wpAny_pure ⟨plainId_quiet PySem.F.plain_extend_loop _, loop _ ?_ ?_⟩
  · show (Heap.update (Heap.update _ q _) q _).get? it = _
    rw [Heap.get?_update_other _ _ hqi, Heap.get?_update_other _ _ hqi]
    exact eo'
  · have I6 := I5.lset (f := (·.pop)) (its := [u4]) (its' := []) (ys := []) (t' := s'.toks) upd_same e5 (by rfl) .nil (Nat.zero_le _)
    rw [upd_upd, hself] at I6
    exact I6
end
/-- list(o) -/
def rListO (C : Addr) (F : Str) (sp : Sp) : RC := fun xs H Q => ∃ a dx fs l zs, xs = [.ref a] ∧ H a = some (.ins C dx fs) ∧ fs.lookup F = some (.ref l) ∧ H l = some (.lst zs) ∧
  ∀ q it, H q = none → H it = none → q ≠ it → sp ([.ref a] ++ []) (upd (upd H q (.lst [])) it (ItO l it 0)) (fun v H' => ∃ n : Int, v = .int n ∧ 0 ≤ n ∧ n ≤ (sizeLine : Int) ∧ H' q = some (.lst []) ∧ H' it = some (ItO l it 0) ∧ H' l = some (.lst zs) ∧ Q (.ref q) (upd (ItX.dropH H' it) q (.lst zs))) E0
theorem call_listO {X : Cx} {C fi fl : Addr} {F : Str} {k : Nat} {fd : FuncData} {ps : List Str} {sp : Sp} (c : IterC X.K X.mg C fi F) (m : OwnM X.K C "__len__" fl)
    (FL : FnOk X.prog X.w X.K X.mg X.base (L2.CX X.prog X.w) k fl fd ps sp) (bi : Binds X.K fd ps []) (hr : Room (k + 5) X.A) : CallR X (.type "list") (rListO C F sp) := by
  intro pins s σ H xs us Q I rv h
  obtain ⟨a, dx, fs, l, zs, rfl, ha, hl, hz, hq⟩ := h
  obtain ⟨u, rfl, ru⟩ := rv.one
  cases ru
  have sb : Sub X (k + 3) X.A.in1.in1 := (Sub.in1 (Sub.in1 (⟨hr, rfl⟩ : Sub X (k + 5) X.A)))
  refine callType_codes (Q₁ := fun obj s₁ => obj = .ref s.heap.objs.size ∧ s₁ = { s with heap := s.heap.push { cls := .type "list", data := .seq #[] } }) PySem.F.called_list (PySem.F.typeCall_list_1 _) PySem.F.entry_list_init
    (code_list_new _ ⟨rfl, rfl⟩) fun obj s₁ h₁ => ?_
  obtain ⟨rfl, rfl⟩ := h₁
  have hS : (s.heap.push { cls := .type "list", data := .seq #[] }).get? s.heap.objs.size = some { cls := .type "list", data := .seq #[] } := Heap.get?_push_size _ rfl
  refine ⟨⟨_, hS, rfl⟩, PySem.F.args_list_init_2 _ _, ?_⟩
  have fr : H s.heap.objs.size = none := I.hok.fresh (Nat.le_refl _)
  have I1 : Inv X pins σ (upd H s.heap.objs.size (.lst [])) { s with heap := s.heap.push { cls := .type "list", data := .seq #[] } } := I.lnew (its := []) (t' := s.toks) .nil (Nat.zero_le _)
  show wpAny _ _ (do let old ← Builtin.List.listItems (.ref s.heap.objs.size); Builtin.List.listUpdate (.ref s.heap.objs.size) (fun _ => #[]); letGo old.toList.reverse; Builtin.List.listExtendWith (.ref s.heap.objs.size) (.ref a) .none) _ _ _
  refine wpAny_bind ?_
  unfold Builtin.List.listItems
  refine wpAny_bind (wpAny_seqItems hS rfl (wpAny_pure ?_))
  show wpAny _ _ (updateSeq s.heap.objs.size (fun _ => #[]) >>= fun _ => letGo (#[] : Array Value).toList.reverse >>= fun _ => Builtin.List.listExtendWith (.ref s.heap.objs.size) (.ref a) .none) _ _ _
  refine wpAny_bind (wpAny_updateSeq hS rfl ?_)
  have I2 := I1.lset (f := fun _ => #[]) (its := []) (its' := []) (ys := []) (t' := s.toks) upd_same hS rfl .nil (Nat.zero_le _)
  rw [upd_upd] at I2
  refine wpAny_bind (wpAny_letGo ?_)
  have ha2 : upd H s.heap.objs.size (.lst []) a = some (.ins C dx fs) := by rw [upd_ne (ne_of_none ha fr)]; exact ha
  have hz2 : upd H s.heap.objs.size (.lst []) l = some (.lst zs) := by rw [upd_ne (ne_of_none hz fr)]; exact hz
  refine own_ext (A1 := X.A.in1) (R := fun H' => Q (.ref s.heap.objs.size) H') (Rs := wants (fun r s₂ => r = .none ∧ EP X pins σ Q (.ref s.heap.objs.size) s₂) X.xe) (sb.mono (by omega)) sb.room.hd sb.room.hd c m FL bi
    (fun H' s' I' hR => ⟨rfl, .ref s.heap.objs.size, H', I', rfl, hR⟩) I2 ha2 hl hz2 upd_same (ne_of_none hz fr) I2.sz (fun it hn => ?_)
  have hq1 : s.heap.objs.size ≠ it := ne_of_none (upd_same (H := H) (o := HO.lst [])) hn
  exact hq _ it fr (by rw [upd_ne hq1.symm] at hn; exact hn) hq1
end Rm

/-! KW: methods with keyword-only parameters and with a star parameter -/
namespace Rm
open PySem PySem.Spec L2
/-- o.m(e, .., k = v, ..) -/
def tMethN (C : Addr) (m : Str) (n j : Nat) (sp : Sp) (gV : List V → List V → List V) (E : XK) (ta : TE) (t tk : TA) : TE := fun σ H Q => ta σ H fun x H1 => ∃ a dx fs, x = .ref a ∧ H1 a = some (.ins C dx fs) ∧ fs.lookup m = none ∧ t σ H1 fun vs H2 => tk σ H2 fun zs H3 => vs.length + 1 = n ∧ zs.length = j ∧ sp (gV (x :: vs) zs) H3 Q E
section
variable {X : Cx} {CX : CXT} {k n : Nat} {f C : Addr} {fd : FuncData} {ps ks : List Str} {sp : Sp} {E : XK} {m : Str} {apos pos : Pos} {o e : Expr} {es : List Expr} {kws : List Keyword} {ta : TE} {t tk : TA} {g : List Value → List Value → List Value} {gV : List V → List V → List V} {pl : Sem Bool}
theorem pe_methN (he : PE X o ta) (c : Cls X.K C) (hm : Meth X.K C m f) (F : FnOk X.prog X.w X.K X.mg X.base CX k f fd ps sp) (hr : Room k X.A) (hb : KBn X.K fd ps n ks g gV) (hx : Passes CX X E)
    (ha : PA X (e :: es) t) (hkw : PK X kws tk) (hall : (backToKw pos (keywordEach kws X.env)).all (·.1.isSome) = true := by rfl) (hks : (backToKw pos (keywordEach kws X.env)).filterMap (·.1) = ks := by rfl)
    (hst : starEach (e :: es) X.env = (false, eval e X.env) :: starEach es X.env := by rfl)
    (hpl : ((backTo pos (starEach (e :: es) X.env)).any (·.1) || (backToKw pos (keywordEach kws X.env)).any (·.1.isNone)) = false := by rfl)
    (ht : eval (.Call (.Attribute o m apos) (e :: es) kws pos) X.env = (do
      let ov ← eval o X.env
      standAt apos.atName
      let (f, first) ← holding [ov] (getMethod ov m pl)
      callWith pos f first (backTo pos (starEach (e :: es) X.env)) (backToKw pos (keywordEach kws X.env))) := by rfl) :
    PE X (.Call (.Attribute o m apos) (e :: es) kws pos) (tMethN C m n ks.length sp gV E ta t tk) := by
  refine ⟨fun pins s σ H Q I h => ?_⟩
  refine PySem.W.methodCall_KW (pl := pl) (thn (he.run pins s σ H _ I h) fun u s1 ⟨x, H1, I1, rx, a, dx, fs, ex, ea, l, q⟩ => ?_) ht
  subst ex
  obtain rfl : u = Value.ref a := rx
  refine getmeth_ok I1 ea c hm l ?_
  refine PySem.W.callWith_KW (first := [.ref a]) (h₀ := X.base) I.ok.mod.kin hm.kp hall (thn (ha.run pos pins s1 σ H1 _ I1 q) fun us s2 ⟨vs, H2, I2, r, q2⟩ => ?_) hpl hst
  refine thn (hkw.run pos pins s2 σ H2 _ I2 q2) fun ws s3 ⟨zs, H3, I3, rz, l1, l2, q3⟩ => ⟨I3.kIn, ?_⟩
  rw [hks]
  exact run_fnN (us := .ref a :: us) (vs := .ref a :: vs) F hr hb hx I3 (.cons rfl r) rz (by rw [List.length_cons]; exact l1) l2 q3
/-- o.m() by a positional promise -/
theorem pe_methR0 {sp : Sp} (he : PE X o ta) (c : Cls X.K C) (hm : Meth X.K C m f) (F : FnR X.prog X.w X.K X.mg X.base CX k f sp) (hr : Room k X.A) (hx : Passes CX X E)
    (ht : eval (.Call (.Attribute o m apos) [] [] pos) X.env = (do
      let ov ← eval o X.env
      standAt apos.atName
      let (f, first) ← holding [ov] (getMethod ov m pl)
      callWith pos f first (backTo pos (starEach [] X.env)) (backToKw pos (keywordEach [] X.env))) := by rfl) :
    PE X (.Call (.Attribute o m apos) [] [] pos) (tMethR C m sp E ta tNil) := by
  refine ⟨fun pins s σ H Q I h => ?_⟩
  refine PySem.W.methodCall_KW (pl := pl) (thn (he.run pins s σ H _ I h) fun u s1 ⟨x, H1, I1, rx, a, dx, fs, ex, ea, l, q⟩ => ?_) ht
  subst ex
  obtain rfl : u = Value.ref a := rx
  refine getmeth_ok I1 ea c hm l ?_
  refine PySem.W.callWith_K0 (first := [.ref a]) I1.kIn hm.kp ?_
  exact wpAny_call (run_fnR (us := [.ref a]) (vs := [.ref a]) F hr hx I1 (.cons rfl .nil) q)
end
/-- no defaults asked: keywords fill what is left -/
theorem kbn_all {K : PySem.W.Frag} {x qual : Str} {params : Arguments} {body : List Stmt} {scope : Scope} {kws : List (Str × V)} {f : Addr} {fd : FuncData} {ps ks : List Str} {n : Nat} (F : FunD K x qual params body scope [] kws f fd)
    (h : ∀ (kV doc pm : Value) (an : Option Addr) (cdv ct : Value) (us ws : List Value), us.length = n → ws.length = ks.length → bindArgs (PySem.W.fnOf x qual params body scope .none kV doc pm an cdv ct) ⟨us, ks.zip ws⟩ = pure (ps.zip (us ++ ws))) : KBn K fd ps n ks (· ++ ·) (· ++ ·) := by
  obtain ⟨oc, od, dV, kV, doc, pm, an, cdv, ct, osl, rfl, lk, hcd, hD, hK⟩ := F.ex
  rcases hD with ⟨_, rfl⟩ | ⟨e, _⟩
  · exact ⟨fun s us ws _ l1 l2 => .of_eq (h kV doc pm an cdv ct us ws l1 l2), fun r1 r2 => r1.append r2⟩
  · exact absurd rfl e
/-- a def with a star parameter -/
def starSp (n : Nat) (sp : Sp) : Sp := fun vs H Q E => ∃ ws rest, vs = ws ++ rest ∧ ws.length = n ∧ rest.length ≤ sizeLine ∧ ∀ p, H p = none → sp (ws ++ [V.ref p]) (upd H p (.tup rest)) Q E
theorem fn_starD {P : Program} {w : World} {K : PySem.W.Frag} {mg : Str → Option Value} {base : Heap} {x qual pv : Str} {params : Arguments} {body : List Stmt} {scope : Scope} {kws : List (Str × V)} {f : Addr} {fd : FuncData} {N ps : List Str} {k : Nat} {sp : Sp} (F : FunD K x qual params body scope [] kws f fd) (S : FnScope N (ps ++ [pv]) scope)
    (hb : ∀ (kV doc pm : Value) (an : Option Addr) (cdv ct : Value) (us rest : List Value), us.length = ps.length → bindArgs (PySem.W.fnOf x qual params body scope .none kV doc pm an cdv ct) ⟨us ++ rest, []⟩ = (newTuple rest >>= fun t => pure (ps.zip us ++ [(pv, t)])))
    (hbody : ∀ (cdv : Value) (A : Around) (outer : List Env) (s : Shared) (H : Hp) (vs : List V) (Q : VK) (E : XK), Room k (A.deeper (PyProof.Rows.envOfC qual scope s.heap.objs.size f cdv)) → sp vs H Q E →
      ∃ t, PSs (cxOf (L2.CX P w) P w K mg base N qual scope f cdv A outer s H E) body t ∧ t { nx := fun _ H' => Q .non H', rt := Q } (start N vs) H) :
    FnR P w K mg base (L2.CX P w) (k + 1) f (starSp ps.length sp) := by
  obtain ⟨oc, od, dV, kV, doc, pm, an, cdv, ct, osl, rfl, lk, hcd, hD, hK⟩ := F.ex
  rcases hD with ⟨_, rfl⟩ | ⟨e, _⟩
  · exact StX.fn_star lk hcd S StX.cxUp (hb kV doc pm an cdv ct) (hbody cdv)
  · exact absurd rfl e
end Rm

/-! PD: pure models: what a def may do, told over Lean's own values; values in the heap; steps that walk model and reading at once. -/
namespace Rm
open PySem PySem.Spec L2
/-! ### the monad -/
inductive Ex where
  | BadName (n : Str) | BadNumber (i : Int) | UnknownEvent (n : Str) | DoubleEvent (n : Str) | SameEvent (n : Str) | WrongNames (n : Str) | HeldEvent (n : Str)
  | UnknownSpan (i : Int) | BrokenSpan (i : Int) | TooMany (c l : Int) | WrongCount (c w : Int)
structure D (α : Type) where
  run' : (α → Prop) → (Ex → Prop) → Prop
  mono' : ∀ {Q Q' : α → Prop} {E E' : Ex → Prop}, (∀ a, Q a → Q' a) → (∀ e, E e → E' e) → run' Q E → run' Q' E'
/-- (a def of its own: the kernel compares its arguments first) -/
def D.run {α : Type} (m : D α) (Q : α → Prop) (E : Ex → Prop) : Prop := m.run' Q E
theorem D.mono {α : Type} (m : D α) {Q Q' : α → Prop} {E E' : Ex → Prop} (h : ∀ a, Q a → Q' a) (he : ∀ e, E e → E' e) (q : m.run Q E) : m.run Q' E' := m.mono' h he q
namespace D
variable {α β ρ : Type}
protected def pure (a : α) : D α := ⟨fun Q _ => Q a, fun h _ => h a⟩
protected def bind (m : D α) (k : α → D β) : D β := ⟨fun Q E => m.run (fun a => (k a).run Q E) E, fun h he => m.mono (fun a => (k a).mono h he) he⟩
/-- an error is raised -/
def raise (e : Ex) : D α := ⟨fun _ E => E e, fun _ h => h e⟩
/-- c is due, then on -/
def asr (c : Prop) (m : D α) : D α := ⟨fun Q E => c ∧ m.run Q E, fun h he q => ⟨q.1, m.mono h he q.2⟩⟩
/-- any of these -/
def any (p : α → Prop) : D α := ⟨fun Q _ => ∀ a, p a → Q a, fun h _ q a pa => h a (q a pa)⟩
/-- the one that there is -/
def the (p : α → Prop) : D α := ⟨fun Q _ => ∃ a, p a ∧ Q a, fun h _ ⟨a, pa, q⟩ => ⟨a, pa, h a q⟩⟩
def ite (b : Bool) (m n : D α) : D α := ⟨fun Q E => if b = true then m.run Q E else n.run Q E, fun {Q Q' E E'} h he q => by
  cases b
  · exact n.mono h he q
  · exact m.mono h he q⟩
/-- rest stands once -/
def jn {κ : Type} (rest : κ) (A : κ → D ρ) : D ρ := A rest
/-- a walk: body gets what goes on to the next turn, and what leaves -/
def loop {ι S : Type} (body : ι → S → (S → D ρ) → (S → D ρ) → D ρ) (k : S → D ρ) : List ι → S → D ρ
  | [], s => k s
  | x :: l, s => body x s (loop body k l) k
/-- a list made item by item -/
def lc {ι : Type} (f : ι → D (Option β)) : List ι → List β → D (List β)
  | [], acc => D.pure acc
  | x :: l, acc => D.bind (f x) fun o => match o with
    | some b => D.asr (acc.length < sizeLine) (lc f l (acc ++ [b]))
    | none => lc f l acc
theorem bindE {m : D α} {k : α → D β} {Q : β → Prop} {E : Ex → Prop} (h : (D.bind m k).run Q E) : m.run (fun a => (k a).run Q E) E := h
theorem call {m : D α} {k : α → D β} {Q : β → Prop} {E E1 : Ex → Prop} {Q1 : α → Prop} (h : (D.bind m k).run Q E) (g : ∀ r, (k r).run Q E → Q1 r) (ge : ∀ e, E e → E1 e) : m.run Q1 E1 := m.mono g ge h
theorem tail {m : D α} {Q Q1 : α → Prop} {E E1 : Ex → Prop} (h : m.run Q E) (g : ∀ r, Q r → Q1 r) (ge : ∀ e, E e → E1 e) : m.run Q1 E1 := m.mono g ge h
end D
/-! ### partial steps of the language -/
def draw (n : Int) : D Int := D.asr (0 < n ∧ n < 4611686018427387904) (D.any fun r => 0 ≤ r ∧ r < n)
def ixL {α : Type} (l : List α) (i : Int) : D α := D.the fun a => atI l i = some a
def ixS (z : Str) (i : Int) : D Str := D.the fun a => z.length ≤ sizeLine ∧ ∃ c, atI (tl z) i = some c ∧ a = ⟨#[c]⟩
def lenS (z : Str) : D Int := D.asr (z.length ≤ sizeLine) (D.pure (z.length : Int))
def addS (a b : Str) : D Str := D.asr (a.length + b.length ≤ sizeLine) (D.pure (a ++ b))
def mulI (a b : Int) : D Int := D.asr (CMul a b) (D.pure (a * b))
def modI (a b : Int) : D Int := D.asr (0 < b) (D.pure (a % b))
def divI (a b : Int) : D Int := D.asr (0 < b ∧ b < 4611686018427387904) (D.pure (a / b))
def strI (a : Int) : D Str := D.asr (a.natAbs.log2 < 1920) (D.pure (toString a))
/-- the ints from a on, below b -/
def rngL (a b : Int) : List Int := (List.range (b - a).toNat).map fun (i : Nat) => a + (i : Int)
def rng (a b : Int) : D (List Int) := D.asr (-(2 ^ 62) ≤ a ∧ a < 2 ^ 62 ∧ -(2 ^ 62) ≤ b ∧ b < 2 ^ 62) (D.pure (rngL a b))
def app {α : Type} (l : List α) (a : α) : D (List α) := D.asr (l.length < sizeLine) (D.pure (l ++ [a]))
def some! {α : Type} (o : Option α) : D α := D.the fun a => o = some a
def chars (z : Str) : List Str := (tl z).map fun c => ⟨#[c]⟩
/-! ### values -/
/-- what is read in F is read in F', be it locked there or not -/
structure Sees (F F' : Hp) : Prop where
  rd : ∀ b u, (∀ w v, u ≠ .frz w v) → Rd F b u → Rd F' b u
  ins : ∀ b C dx fs, F b = some (.ins C dx fs) → F' b = some (.ins C dx fs)
  ls : ∀ b xs, F b = some (.lst xs) → F' b = some (.lst xs)
theorem Same.sees {F F' : Hp} (e : Same F F') : Sees F F' := ⟨fun b u _ h => h.elim (fun h => .inl (e _ _ h)) fun ⟨o, h⟩ => .inr ⟨o, e _ _ h⟩, fun b C dx fs h => e _ _ h, fun b xs h => e _ _ h⟩
theorem Sees.trans {F F' F'' : Hp} (a : Sees F F') (b : Sees F' F'') : Sees F F'' := ⟨fun c u z h => b.rd c u z (a.rd c u z h), fun c C dx fs h => b.ins c C dx fs (a.ins c C dx fs h), fun c xs h => b.ls c xs (a.ls c xs h)⟩
theorem Sees.sqL {K : PySem.W.Frag} {F F' : Hp} {p : Addr} {xs : List V} (e : Sees F F') (h : SqL K F p xs) : SqL K F' p xs := h.elim (fun h => .inl (e.rd _ _ (fun _ _ h => by cases h) h)) .inr
theorem Sees.sqT {K : PySem.W.Frag} {F F' : Hp} {p : Addr} {xs : List V} (e : Sees F F') (h : SqT K F p xs) : SqT K F' p xs := h.elim (fun h => .inl (e.rd _ _ (fun _ _ h => by cases h) h)) .inr
class Rp (α : Type) where
  rep : PySem.W.Frag → Hp → V → α → Prop
  see : ∀ {K : PySem.W.Frag} {F F' : Hp} {x : V} {a : α}, Sees F F' → rep K F x a → rep K F' x a
theorem Rp.mono {α : Type} [Rp α] {K : PySem.W.Frag} {F F' : Hp} {x : V} {a : α} (e : Same F F') (h : Rp.rep K F x a) : Rp.rep K F' x a := Rp.see (Same.sees e) h
instance : Rp Int := ⟨fun _ _ x a => x = .int a, fun _ h => h⟩
instance : Rp Bool := ⟨fun _ _ x a => x = .bl a, fun _ h => h⟩
instance : Rp Str := ⟨fun _ _ x a => x = .str a, fun _ h => h⟩
instance : Rp Unit := ⟨fun _ _ x _ => x = .non, fun _ h => h⟩
inductive F2 {A B : Type} (R : A → B → Prop) : List A → List B → Prop
  | nil : F2 R [] []
  | cons {a b l m} : R a b → F2 R l m → F2 R (a :: l) (b :: m)
abbrev Reps {α : Type} [Rp α] (K : PySem.W.Frag) (F : Hp) : List V → List α → Prop := F2 (Rp.rep K F)
theorem F2.imp {A B : Type} {R S : A → B → Prop} (f : ∀ a b, R a b → S a b) {l : List A} {m : List B} (h : F2 R l m) : F2 S l m := by
  induction h with
  | nil => exact .nil
  | cons q _ ih => exact .cons (f _ _ q) ih
theorem F2.len {A B : Type} {R : A → B → Prop} {l : List A} {m : List B} (h : F2 R l m) : l.length = m.length := by
  induction h with
  | nil => rfl
  | cons q _ ih => rw [List.length_cons, List.length_cons, ih]
section
variable {α β γ δ ε : Type} [Rp α] [Rp β] [Rp γ] [Rp δ] [Rp ε] {K : PySem.W.Frag} {F F' H H' : Hp}
theorem Reps.see {xs : List V} {l : List α} (e : Sees F F') (h : Reps K F xs l) : Reps K F' xs l := F2.imp (fun _ _ q => Rp.see e q) h
theorem Reps.mono {xs : List V} {l : List α} (e : Same F F') (h : Reps K F xs l) : Reps K F' xs l := Reps.see (Same.sees e) h
theorem Reps.len {xs : List V} {l : List α} (h : Reps K F xs l) : xs.length = l.length := F2.len h
theorem Reps.get {xs : List V} {l : List α} (h : Reps K F xs l) : ∀ {n : Nat} {a : α}, l[n]? = some a → ∃ x, xs[n]? = some x ∧ Rp.rep K F x a := by
  induction h with
  | nil => intro n a h; cases h
  | cons q _ ih => intro n a h; cases n with
    | zero => cases h; exact ⟨_, rfl, q⟩
    | succ n => exact ih (n := n) h
theorem Reps.get' {xs : List V} {l : List α} (h : Reps K F xs l) : ∀ {n : Nat} {x : V}, xs[n]? = some x → ∃ a, l[n]? = some a ∧ Rp.rep K F x a := by
  induction h with
  | nil => intro n a h; cases h
  | cons q _ ih => intro n a h; cases n with
    | zero => cases h; exact ⟨_, rfl, q⟩
    | succ n => exact ih (n := n) h
theorem Reps.app {xs ys : List V} {l m : List α} (h : Reps K F xs l) (q : Reps K F ys m) : Reps K F (xs ++ ys) (l ++ m) := by
  induction h with
  | nil => exact q
  | cons p _ ih => exact .cons p ih
theorem Reps.snoc {xs : List V} {l : List α} {x : V} {a : α} (h : Reps K F xs l) (q : Rp.rep K F x a) : Reps K F (xs ++ [x]) (l ++ [a]) := h.app (.cons q .nil)
theorem Reps.set {xs : List V} {l : List α} {x : V} {a : α} (h : Reps K F xs l) (q : Rp.rep K F x a) : ∀ n, Reps K F (xs.set n x) (l.set n a) := by
  induction h with
  | nil => exact fun _ => .nil
  | cons p r ih => exact fun n => match n with
    | 0 => .cons q r
    | n + 1 => .cons p (ih n)
theorem atI_get {xs : List V} {l : List α} {i : Int} {a : α} (h : Reps K F xs l) (e : atI l i = some a) : ∃ x, atI xs i = some x ∧ Rp.rep K F x a := by
  unfold atI at *
  rw [h.len]
  cases q : ixN l.length i with
  | none => rw [q] at e; cases e
  | some n => rw [q] at e; exact h.get e
theorem Reps.int {xs : List V} {l : List Int} (h : Reps K F xs l) : xs = l.map V.int := by
  induction h with
  | nil => rfl
  | cons q _ ih => rw [List.map_cons, ← ih]; exact congrArg (· :: _) q
theorem Reps.str {xs : List V} {l : List Str} (h : Reps K F xs l) : xs = l.map V.str := by
  induction h with
  | nil => rfl
  | cons q _ ih => rw [List.map_cons, ← ih]; exact congrArg (· :: _) q
theorem reps_int (l : List Int) : Reps K F (l.map V.int) l := by
  induction l with
  | nil => exact .nil
  | cons a l ih => exact .cons rfl ih
theorem reps_str (l : List Str) : Reps K F (l.map V.str) l := by
  induction l with
  | nil => exact .nil
  | cons a l ih => exact .cons rfl ih
instance : Rp (List α) := ⟨fun K F x l => ∃ p xs, x = .ref p ∧ F p = some (.lst xs) ∧ Reps K F xs l, fun e ⟨p, xs, h, q, r⟩ => ⟨p, xs, h, e.ls _ _ q, r.see e⟩⟩
instance : Rp (Option α) := ⟨fun K F x o => match o with
  | none => x = .non
  | some a => x ≠ .non ∧ Rp.rep K F x a, fun {K F F' x o} e h => match o, h with
  | none, h => h
  | some _, h => ⟨h.1, Rp.see e h.2⟩⟩
/-- python's tuples of a fixed length -/
structure T1 (α : Type) where (a : α)
structure T2 (α β : Type) where (a : α) (b : β)
structure T3 (α β γ : Type) where (a : α) (b : β) (c : γ)
structure T4 (α β γ δ : Type) where (a : α) (b : β) (c : γ) (d : δ)
structure T5 (α β γ δ ε : Type) where (a : α) (b : β) (c : γ) (d : δ) (e : ε)
instance : Rp (T2 α β) := ⟨fun K F x t => ∃ p x1 x2, x = .ref p ∧ SqT K F p [x1, x2] ∧ Rp.rep K F x1 t.a ∧ Rp.rep K F x2 t.b,
  fun e ⟨p, x1, x2, h, q, r1, r2⟩ => ⟨p, x1, x2, h, e.sqT q, Rp.see e r1, Rp.see e r2⟩⟩
instance : Rp (T3 α β γ) := ⟨fun K F x t => ∃ p x1 x2 x3, x = .ref p ∧ SqT K F p [x1, x2, x3] ∧ Rp.rep K F x1 t.a ∧ Rp.rep K F x2 t.b ∧ Rp.rep K F x3 t.c,
  fun e ⟨p, x1, x2, x3, h, q, r1, r2, r3⟩ => ⟨p, x1, x2, x3, h, e.sqT q, Rp.see e r1, Rp.see e r2, Rp.see e r3⟩⟩
instance : Rp (T4 α β γ δ) := ⟨fun K F x t => ∃ p x1 x2 x3 x4, x = .ref p ∧ SqT K F p [x1, x2, x3, x4] ∧ Rp.rep K F x1 t.a ∧ Rp.rep K F x2 t.b ∧ Rp.rep K F x3 t.c ∧ Rp.rep K F x4 t.d,
  fun e ⟨p, x1, x2, x3, x4, h, q, r1, r2, r3, r4⟩ => ⟨p, x1, x2, x3, x4, h, e.sqT q, Rp.see e r1, Rp.see e r2, Rp.see e r3, Rp.see e r4⟩⟩
instance : Rp (T5 α β γ δ ε) := ⟨fun K F x t => ∃ p x1 x2 x3 x4 x5, x = .ref p ∧ SqT K F p [x1, x2, x3, x4, x5] ∧ Rp.rep K F x1 t.a ∧ Rp.rep K F x2 t.b ∧ Rp.rep K F x3 t.c ∧ Rp.rep K F x4 t.d ∧ Rp.rep K F x5 t.e,
  fun e ⟨p, x1, x2, x3, x4, x5, h, q, r1, r2, r3, r4, r5⟩ => ⟨p, x1, x2, x3, x4, x5, h, e.sqT q, Rp.see e r1, Rp.see e r2, Rp.see e r3, Rp.see e r4, Rp.see e r5⟩⟩
/-- python's lists of a fixed length whose items differ in kind -/
structure R2 (α β : Type) where (a : α) (b : β)
structure R3 (α β γ : Type) where (a : α) (b : β) (c : γ)
instance : Rp (Rm.R2 α β) := ⟨fun K F x t => ∃ p x1 x2, x = .ref p ∧ F p = some (.lst [x1, x2]) ∧ Rp.rep K F x1 t.a ∧ Rp.rep K F x2 t.b,
  fun e ⟨p, x1, x2, h, q, r1, r2⟩ => ⟨p, x1, x2, h, e.ls _ _ q, Rp.see e r1, Rp.see e r2⟩⟩
instance : Rp (Rm.R3 α β γ) := ⟨fun K F x t => ∃ p x1 x2 x3, x = .ref p ∧ F p = some (.lst [x1, x2, x3]) ∧ Rp.rep K F x1 t.a ∧ Rp.rep K F x2 t.b ∧ Rp.rep K F x3 t.c,
  fun e ⟨p, x1, x2, x3, h, q, r1, r2, r3⟩ => ⟨p, x1, x2, x3, h, e.ls _ _ q, Rp.see e r1, Rp.see e r2, Rp.see e r3⟩⟩
/-- dicts: their items in order -/
class Ky (κ : Type) where
  key : κ → Key
  inj : ∀ {a b : κ}, key a = key b → a = b
instance : Ky Str := ⟨.inr, fun h => by cases h; rfl⟩
instance : Ky Int := ⟨.inl, fun h => by cases h; rfl⟩
structure Dc (α β : Type) where (l : List (α × β))
abbrev KReps {κ β : Type} [Ky κ] [Rp β] (K : PySem.W.Frag) (F : Hp) : List (Key × V) → List (κ × β) → Prop := F2 (fun kv ab => kv.1 = Ky.key ab.1 ∧ Rp.rep K F kv.2 ab.2)
theorem KReps.see {κ : Type} [Ky κ] {kvs : List (Key × V)} {l : List (κ × β)} (e : Sees F F') (h : KReps K F kvs l) : KReps K F' kvs l := F2.imp (fun _ _ q => ⟨q.1, Rp.see e q.2⟩) h
theorem KReps.mono {κ : Type} [Ky κ] {kvs : List (Key × V)} {l : List (κ × β)} (e : Same F F') (h : KReps K F kvs l) : KReps K F' kvs l := KReps.see (Same.sees e) h
instance {κ : Type} [Ky κ] : Rp (Dc κ β) := ⟨fun K F x d => ∃ p kvs, x = .ref p ∧ Rd F p (.dK kvs) ∧ KReps K F kvs d.l, fun e ⟨p, kvs, h, q, r⟩ => ⟨p, kvs, h, e.rd _ _ (fun _ _ h => by cases h) q, KReps.see e r⟩⟩
/-- what stands at a key -/
def getD {κ β : Type} [DecidableEq κ] (l : List (κ × β)) (k : κ) : Option β := (l.find? fun p => decide (p.1 = k)).map (·.2)
/-- .. written there, or behind -/
def putD {κ β : Type} [DecidableEq κ] (l : List (κ × β)) (k : κ) (v : β) : List (κ × β) := if (l.any fun p => decide (p.1 = k)) = true then l.map (fun p => if p.1 = k then (p.1, v) else p) else l ++ [(k, v)]
theorem KReps.get {κ : Type} [DecidableEq κ] [Ky κ] {k : κ} {kvs : List (Key × V)} {l : List (κ × β)} (h : KReps K F kvs l) : (∃ v x, getD l k = some v ∧ valV kvs (Ky.key k) = some x ∧ Rp.rep K F x v) ∨ (getD l k = none ∧ valV kvs (Ky.key k) = none) := by
  induction h with
  | nil => exact .inr ⟨rfl, rfl⟩
  | @cons kv ab kvs l q _ ih =>
    by_cases e : ab.1 = k
    · refine .inl ⟨ab.2, kv.2, by simp [getD, e], ?_, q.2⟩
      rw [valV_pos (by rw [q.1, e])]
    · have e2 : ¬ kv.1 = Ky.key k := fun z => e (Ky.inj (q.1.symm.trans z))
      rw [valV_neg e2, show getD (ab :: l) k = getD l k by simp [getD, List.find?_cons, e]]
      exact ih
theorem KReps.any {κ : Type} [DecidableEq κ] [Ky κ] {k : κ} {kvs : List (Key × V)} {l : List (κ × β)} (h : KReps K F kvs l) : (kvs.any fun p => decide (p.1 = Ky.key k)) = l.any fun p => decide (p.1 = k) := by
  induction h with
  | nil => rfl
  | @cons kv ab kvs l q _ ih =>
    rw [List.any_cons, List.any_cons, ih]
    congr 1
    rw [q.1]
    exact decide_eq_decide.mpr ⟨fun z => Ky.inj z, fun z => by rw [z]⟩
theorem KReps.put {κ : Type} [DecidableEq κ] [Ky κ] {k : κ} {x : V} {v : β} {kvs : List (Key × V)} {l : List (κ × β)} (h : KReps K F kvs l) (r : Rp.rep K F x v) : KReps K F (putK kvs (Ky.key k) x) (putD l k v) := by
  unfold putK putD
  rw [h.any (k := k)]
  by_cases c : (l.any fun p => decide (p.1 = k)) = true
  · rw [if_pos c, if_pos c]
    clear c
    induction h with
    | nil => exact .nil
    | @cons kv ab kvs l q _ ih =>
      rw [List.map_cons, List.map_cons]
      refine .cons ?_ ih
      by_cases e : ab.1 = k
      · rw [if_pos (by rw [q.1, e]), if_pos e]; exact ⟨q.1, r⟩
      · rw [if_neg (fun z => e (Ky.inj (q.1.symm.trans z))), if_neg e]; exact q
  · rw [if_neg c, if_neg c]
    clear c
    induction h with
    | nil => exact .cons ⟨rfl, r⟩ .nil
    | cons q _ ih => exact .cons q ih
theorem KReps.at_ {κ : Type} [Ky κ] {kvs : List (Key × V)} {l : List (κ × β)} (h : KReps K F kvs l) : ∀ {n : Nat} {k : Key} {x : V}, kvs[n]? = some (k, x) → ∃ a v, l[n]? = some (a, v) ∧ k = Ky.key a ∧ Rp.rep K F x v := by
  induction h with
  | nil => intro n k x h; cases h
  | @cons kv ab kvs l q _ ih =>
    intro n k x h
    cases n with
    | zero => cases h; exact ⟨ab.1, ab.2, rfl, q.1, q.2⟩
    | succ n => exact ih (n := n) h
theorem KReps.keysS {kvs : List (Key × V)} {l : List (Str × β)} (h : KReps K F kvs l) : kvs.map (fun kv => kV kv.1) = (l.map (·.1)).map V.str := by
  induction h with
  | nil => rfl
  | cons q _ ih => rw [List.map_cons, List.map_cons, List.map_cons, ih, q.1]; rfl
theorem KReps.keysI {kvs : List (Key × V)} {l : List (Int × β)} (h : KReps K F kvs l) : kvs.map (fun kv => kV kv.1) = (l.map (·.1)).map V.int := by
  induction h with
  | nil => rfl
  | cons q _ ih => rw [List.map_cons, List.map_cons, List.map_cons, ih, q.1]; rfl
end
/-! ### owned things -/
abbrev Os := List (Addr × HO)
/-- pl: the pool; lk: the dict that a walk has locked -/
structure Md where
  pl : Option Addr
  lk : Option Addr
structure Own (K : PySem.W.Frag) (F H : Hp) (pp : Md) (os : Os) : Prop where
  ex : Same F H
  nl : ∀ (a : Addr) (w : Obj) (u : List (Key × V)), F a = some (.frz w (.dK u)) → pp.lk = some a
  pl : ∀ a : Addr, pp.pl = some a → F a = none ∧ (∀ (i : Nat) (b : Addr) (o : HO), os[i]? = some (b, o) → b ≠ a) ∧ ∃ (n c : Int) (ca : Addr) (ns : List Int), H a = some (.lst [.int n, .int c, .ref ca]) ∧ SqL K F ca (ns.map V.int)
  own : ∀ (i : Nat) (a : Addr) (o : HO), os[i]? = some (a, o) → F a = none ∧ H a = some o
  dj : ∀ (i j : Nat) (a : Addr) (o o' : HO), os[i]? = some (a, o) → os[j]? = some (a, o') → i = j
section
variable {K : PySem.W.Frag} {F F' H H' : Hp} {pp : Md} {os : Os} {p : Addr} {o o' : HO} {i : Nat}
theorem Own.start {H : Hp} (hz : ∀ (a : Addr) (w : Obj) (u : List (Key × V)), H a ≠ some (.frz w (.dK u))) : Own K H H ⟨none, none⟩ [] := ⟨Same.refl H, fun a w u h => absurd h (hz a w u), fun _ h => (by cases h), fun i _ _ h => by simp at h, fun i _ _ _ _ h => by simp at h⟩
theorem Own.tl {q : Addr × HO} (I : Own K F H pp (q :: os)) : Own K F H pp os :=
  ⟨I.ex, I.nl, fun a h => ⟨(I.pl a h).1, fun i b o e => (I.pl a h).2.1 (i + 1) b o e, (I.pl a h).2.2⟩, fun i a o h => I.own (i + 1) a o h, fun i j a o o' h h' => by
    have := I.dj (i + 1) (j + 1) a o o' h h'; omega⟩
theorem Own.free (I : Own K F H pp os) (h : H p = none) : F p = none := Same.free I.ex h
/-- a new frozen thing -/
theorem Own.new (I : Own K F H pp os) (h : H p = none) (ho : ∀ w u, o ≠ .frz w u) : Own K (upd F p o) (upd H p o) pp os := by
  refine ⟨fun b u e => ?_, fun b w u e => ?_, fun a q => ?_, fun i a u e => ?_, I.dj⟩
  · by_cases hb : b = p
    · subst hb; rw [upd_same] at e ⊢; exact e
    · rw [upd_ne hb] at e ⊢; exact I.ex b u e
  · by_cases hb : b = p
    · subst hb; rw [upd_same] at e; cases e; exact absurd rfl (ho _ _)
    · rw [upd_ne hb] at e; exact I.nl b w u e
  · obtain ⟨h1, h2, n, c, ca, ns, h3, h4⟩ := I.pl a q
    have ha : a ≠ p := ne_of_none h3 h
    refine ⟨by rw [upd_ne ha]; exact h1, h2, n, c, ca, ns, by rw [upd_ne ha]; exact h3, (same_new (Same.free I.ex h)).seq h4⟩
  · obtain ⟨h1, h2⟩ := I.own i a u e
    have ha : a ≠ p := ne_of_none h2 h
    rw [upd_ne ha, upd_ne ha]
    exact ⟨h1, h2⟩
/-- a new owned thing -/
theorem Own.take (I : Own K F H pp os) (h : H p = none) : Own K F (upd H p o) pp ((p, o) :: os) := by
  have hne : ∀ (i : Nat) (a : Addr) (u : HO), os[i]? = some (a, u) → a ≠ p := fun i a u e => ne_of_none (I.own i a u e).2 h
  refine ⟨I.ex.trans (same_new h), I.nl, fun a q => ?_, fun i a u e => ?_, fun i j a u u' e e' => ?_⟩
  · obtain ⟨h1, h2, n, c, ca, ns, h3, h4⟩ := I.pl a q
    have ha : a ≠ p := ne_of_none h3 h
    refine ⟨h1, fun i b u e => ?_, n, c, ca, ns, by rw [upd_ne ha]; exact h3, h4⟩
    cases i with
    | zero => cases e; exact ha.symm
    | succ i => exact h2 i b u e
  · cases i with
    | zero => cases e; exact ⟨Same.free I.ex h, upd_same⟩
    | succ i =>
      have e : os[i]? = some (a, u) := e
      rw [upd_ne (hne i a u e)]
      exact I.own i a u e
  · cases i with
    | zero =>
      cases e
      cases j with
      | zero => rfl
      | succ j => exact absurd rfl (hne j p u' e')
    | succ i =>
      cases j with
      | zero => cases e'; exact absurd rfl (hne i p u e)
      | succ j => rw [I.dj i j a u u' e e']
/-- an owned thing is changed -/
theorem Own.put (I : Own K F H pp os) (i : Nat) (e : os[i]? = some (p, o)) : Own K F (upd H p o') pp (os.set i (p, o')) := by
  have hi := (List.getElem?_eq_some_iff.mp e).1
  obtain ⟨hF, hH⟩ := I.own i p o e
  have key : ∀ (j : Nat) (a : Addr) (u : HO), (os.set i (p, o'))[j]? = some (a, u) → (j = i ∧ a = p ∧ u = o') ∨ (j ≠ i ∧ a ≠ p ∧ os[j]? = some (a, u)) := fun j a u q => by
    by_cases hj : j = i
    · subst hj
      rw [List.getElem?_set_self hi] at q
      cases q
      exact .inl ⟨rfl, rfl, rfl⟩
    · rw [List.getElem?_set_ne (fun h => hj h.symm)] at q
      refine .inr ⟨hj, fun ha => ?_, q⟩
      subst ha
      exact hj (I.dj _ _ _ _ _ q e)
  refine ⟨fun b u q => ?_, I.nl, fun a q => ?_, fun j a u q => ?_, fun j k a u u' q q' => ?_⟩
  · rw [upd_ne (ne_of_none q hF)]; exact I.ex b u q
  · obtain ⟨h1, h2, n, c, ca, ns, h3, h4⟩ := I.pl a q
    have ha := h2 i p o e
    refine ⟨h1, fun j b u q => ?_, n, c, ca, ns, by rw [upd_ne (Ne.symm ha)]; exact h3, h4⟩
    rcases key j b u q with ⟨_, rfl, _⟩ | ⟨_, _, q⟩
    · exact ha
    · exact h2 j b u q
  · rcases key j a u q with ⟨_, rfl, rfl⟩ | ⟨_, hp, q⟩
    · exact ⟨hF, upd_same⟩
    · rw [upd_ne hp]; exact I.own j a u q
  · rcases key j a u q with ⟨rfl, rfl, _⟩ | ⟨_, hp, q⟩
    · rcases key k _ _ q' with ⟨rfl, _, _⟩ | ⟨_, hp', _⟩
      · rfl
      · exact absurd rfl hp'
    · rcases key k _ _ q' with ⟨_, hp', _⟩ | ⟨_, _, q'⟩
      · exact absurd hp' hp
      · exact I.dj j k a u u' q q'
/-- an owned thing is frozen: it is the top one -/
theorem Own.frz (I : Own K F H pp ((p, o) :: os)) (ho : ∀ w u, o ≠ .frz w u) : Own K (upd F p o) H pp os := by
  obtain ⟨hF, hH⟩ := I.own 0 p o rfl
  have I' := I.tl
  refine ⟨fun b u q => ?_, fun b w u q => ?_, fun a q => ?_, fun j a u q => ?_, I'.dj⟩
  · by_cases hb : b = p
    · subst hb; rw [upd_same] at q; cases q; exact hH
    · rw [upd_ne hb] at q; exact I.ex b u q
  · by_cases hb : b = p
    · subst hb; rw [upd_same] at q; cases q; exact absurd rfl (ho _ _)
    · rw [upd_ne hb] at q; exact I.nl b w u q
  · obtain ⟨h1, h2, n, c, ca, ns, h3, h4⟩ := I.pl a q
    have ha : p ≠ a := h2 0 p o rfl
    exact ⟨by rw [upd_ne ha.symm]; exact h1, (I'.pl a q).2.1, n, c, ca, ns, h3, (same_new hF).seq h4⟩
  · obtain ⟨h1, h2⟩ := I'.own j a u q
    have ha : a ≠ p := fun ha => by subst ha; have := I.dj 0 (j + 1) a o u rfl q; omega
    rw [upd_ne ha]
    exact ⟨h1, h2⟩
theorem Own.frzS (I : Own K F H pp ((p, o) :: os)) : Same F (upd F p o) := same_new (I.own 0 p o rfl).1
/-- the top two change places -/
theorem Own.swap {q r : Addr × HO} (I : Own K F H pp (q :: r :: os)) : Own K F H pp (r :: q :: os) := by
  have key : ∀ (i : Nat) (x : Addr × HO), (r :: q :: os)[i]? = some x → ∃ j, (q :: r :: os)[j]? = some x ∧ ((i = 0 ∧ j = 1) ∨ (i = 1 ∧ j = 0) ∨ (2 ≤ i ∧ j = i)) := fun i x h => match i, h with
    | 0, h => ⟨1, h, .inl ⟨rfl, rfl⟩⟩
    | 1, h => ⟨0, h, .inr (.inl ⟨rfl, rfl⟩)⟩
    | i + 2, h => ⟨i + 2, h, .inr (.inr ⟨by omega, rfl⟩)⟩
  refine ⟨I.ex, I.nl, fun a h => ⟨(I.pl a h).1, fun i b o e => ?_, (I.pl a h).2.2⟩, fun i a o h => ?_, fun i j a o o' h h' => ?_⟩
  · obtain ⟨j, e', _⟩ := key i _ e; exact (I.pl a h).2.1 j b o e'
  · obtain ⟨j, e', _⟩ := key i _ h; exact I.own j a o e'
  · obtain ⟨k, e, c⟩ := key i _ h
    obtain ⟨l, e', c'⟩ := key j _ h'
    have := I.dj k l a o o' e e'
    omega
theorem Own.sqL {xs : List V} (I : Own K F H pp os) (h : F p = some (.lst xs)) : SqL K H p xs := sqL_of (I.ex _ _ h)
theorem Own.sqT {xs : List V} (I : Own K F H pp os) (h : SqT K F p xs) : SqT K H p xs := seqT_same I.ex h
end
theorem nofrzL {xs : List V} (w : Obj) (u : HO) : HO.lst xs ≠ .frz w u := fun h => by cases h
/-! ### steps of model and reading at once -/
section
variable {α β ρ : Type} [Rp α] [Rp β] {K : PySem.W.Frag} {F F' H H' : Hp} {pp : Md} {os : Os} {σ : St} {Q : VK} {QQ : ρ → Prop} {EE : Ex → Prop} {x y : V} {a b : Int}
theorem x_if {b : Bool} {m n : D ρ} {G1 G2 : Prop} (h : (D.ite b m n).run QQ EE) (h1 : b = true → m.run QQ EE → G1) (h2 : b = false → n.run QQ EE → G2) : if b = true then G1 else G2 := by
  cases b
  · exact h2 rfl h
  · exact h1 rfl h
theorem x_jn {κ : Type} {rest : κ} {A : κ → D ρ} (h : (D.jn rest A).run QQ EE) : ∃ jp, jp = rest ∧ (A jp).run QQ EE := ⟨rest, rfl, h⟩
theorem x_and {tu : TT} {QT : Bool → Hp → Prop} {b1 b2 : Bool} (st : b1 = true → QT b2 H → tu σ H QT) (k : QT (b1 && b2) H) : if b1 = true then tu σ H QT else QT false H := by
  cases b1
  · exact k
  · exact st rfl k
theorem x_or {tu : TT} {QT : Bool → Hp → Prop} {b1 b2 : Bool} (st : b1 = false → QT b2 H → tu σ H QT) (k : QT (b1 || b2) H) : if b1 = true then QT true H else tu σ H QT := by
  cases b1
  · exact st rfl k
  · exact k
theorem x_andV {tu : TE} {b1 b2 : Bool} (st : b1 = true → Q (.bl b2) H → tu σ H Q) (k : Q (.bl (b1 && b2)) H) : if b1 = true then tu σ H Q else Q (.bl false) H := by
  cases b1
  · exact k
  · exact st rfl k
theorem x_orV {tu : TE} {b1 b2 : Bool} (st : b1 = false → Q (.bl b2) H → tu σ H Q) (k : Q (.bl (b1 || b2)) H) : if b1 = true then Q (.bl true) H else tu σ H Q := by
  cases b1
  · exact st rfl k
  · exact k
theorem x_chain {tc : TE} {r' : L2.R2} {b1 b2 : Bool} (st : b1 = true → Q (.bl b2) H → tc σ H fun w H4 => r' y w H4 Q) (k : Q (.bl (b1 && b2)) H) : if b1 = true then tc σ H (fun w H4 => r' y w H4 Q) else Q (.bl false) H := by
  cases b1
  · exact k
  · exact st rfl k
/-- the right side of an and takes steps of its own -/
theorem x_andD {tu : TT} {QT : Bool → Hp → Prop} {b1 : Bool} {m : D Bool} {k : Bool → D ρ} (I : Own K F H pp os) (h : (D.bind (D.ite b1 m (D.pure false)) k).run QQ EE)
    (st : m.run (fun b => (k b).run QQ EE) EE → (∀ b F' H', Same F F' → Own K F' H' pp os → (k b).run QQ EE → QT b H') → tu σ H QT) (rest : ∀ b F' H', Same F F' → Own K F' H' pp os → (k b).run QQ EE → QT b H') : if b1 = true then tu σ H QT else QT false H := by
  cases b1
  · exact rest _ _ _ (Same.refl F) I h
  · exact st h rest
theorem x_orD {tu : TT} {QT : Bool → Hp → Prop} {b1 : Bool} {m : D Bool} {k : Bool → D ρ} (I : Own K F H pp os) (h : (D.bind (D.ite b1 (D.pure true) m) k).run QQ EE)
    (st : m.run (fun b => (k b).run QQ EE) EE → (∀ b F' H', Same F F' → Own K F' H' pp os → (k b).run QQ EE → QT b H') → tu σ H QT) (rest : ∀ b F' H', Same F F' → Own K F' H' pp os → (k b).run QQ EE → QT b H') : if b1 = true then QT true H else tu σ H QT := by
  cases b1
  · exact st h rest
  · exact rest _ _ _ (Same.refl F) I h
theorem x_andVD {tu : TE} {b1 : Bool} {m : D Bool} {k : Bool → D ρ} (I : Own K F H pp os) (h : (D.bind (D.ite b1 m (D.pure false)) k).run QQ EE)
    (st : m.run (fun b => (k b).run QQ EE) EE → (∀ b F' H', Same F F' → Own K F' H' pp os → (k b).run QQ EE → Q (.bl b) H') → tu σ H Q) (rest : ∀ b F' H', Same F F' → Own K F' H' pp os → (k b).run QQ EE → Q (.bl b) H') : if b1 = true then tu σ H Q else Q (.bl false) H := by
  cases b1
  · exact rest _ _ _ (Same.refl F) I h
  · exact st h rest
theorem x_orVD {tu : TE} {b1 : Bool} {m : D Bool} {k : Bool → D ρ} (I : Own K F H pp os) (h : (D.bind (D.ite b1 (D.pure true) m) k).run QQ EE)
    (st : m.run (fun b => (k b).run QQ EE) EE → (∀ b F' H', Same F F' → Own K F' H' pp os → (k b).run QQ EE → Q (.bl b) H') → tu σ H Q) (rest : ∀ b F' H', Same F F' → Own K F' H' pp os → (k b).run QQ EE → Q (.bl b) H') : if b1 = true then Q (.bl true) H else tu σ H Q := by
  cases b1
  · exact st h rest
  · exact rest _ _ _ (Same.refl F) I h
/-- a conditional expression that takes steps of its own -/
theorem x_ifE {γ : Type} [Rp γ] {b1 : Bool} {m n : D γ} {k : γ → D ρ} {G1 G2 : Prop} (h : (D.bind (D.ite b1 m n) k).run QQ EE)
    (h1 : b1 = true → m.run (fun b => (k b).run QQ EE) EE → G1) (h2 : b1 = false → n.run (fun b => (k b).run QQ EE) EE → G2) : if b1 = true then G1 else G2 := by
  cases b1
  · exact h2 rfl h
  · exact h1 rfl h
theorem e_join {t : TE} (R : V → Hp → Prop) (h1 : ∀ Q' : VK, (∀ v H', R v H' → Q' v H') → t σ H Q') (h2 : ∀ v H', R v H' → Q v H') : t σ H Q := h1 Q h2
/-! partial steps -/
theorem x_mulI {k : Int → D ρ} (h : (D.bind (mulI a b) k).run QQ EE) (g : (k (a * b)).run QQ EE → Q (.int (a * b)) H) : rMulI (.int a) (.int b) H Q := v_mulI h.1 (g h.2)
theorem x_modI {k : Int → D ρ} (h : (D.bind (modI a b) k).run QQ EE) (g : (k (a % b)).run QQ EE → Q (.int (a % b)) H) : rModI (.int a) (.int b) H Q := v_modI h.1 (g h.2)
theorem x_divI {k : Int → D ρ} (h : (D.bind (divI a b) k).run QQ EE) (g : (k (a / b)).run QQ EE → Q (.int (a / b)) H) : rDivI (.int a) (.int b) H Q := v_divI h.1 (g h.2)
theorem x_addS {a b : Str} {k : Str → D ρ} (h : (D.bind (addS a b) k).run QQ EE) (g : (k (a ++ b)).run QQ EE → Q (.str (a ++ b)) H) : rAddS (.str a) (.str b) H Q := v_addS h.1 (g h.2)
theorem x_lenS {z : Str} {k : Int → D ρ} (h : (D.bind (lenS z) k).run QQ EE) (g : (k (z.length : Int)).run QQ EE → Q (.int (z.length : Int)) H) : rLenS [.str z] H Q := v_lenS h.1 (g h.2)
theorem x_strI {k : Str → D ρ} (h : (D.bind (strI a) k).run QQ EE) (g : (k (toString a)).run QQ EE → Q (.str (toString a)) H) : rStrI [.int a] H Q := v_strI h.1 (g h.2)
theorem x_ixS {z : Str} {k : Str → D ρ} (h : (D.bind (ixS z a) k).run QQ EE) (g : ∀ c : Nat, (k ⟨#[c]⟩).run QQ EE → Q (.str ⟨#[c]⟩) H) : rIxS (.str z) (.int a) H Q := by
  obtain ⟨_, ⟨hz, c, hc, rfl⟩, q⟩ := h
  exact v_ixS hz hc (g c q)
theorem x_ixL {l : List α} {k : α → D ρ} (I : Own K F H pp os) (r : Rp.rep K F x l) (h : (D.bind (ixL l a) k).run QQ EE) (g : ∀ u v, Rp.rep K F v u → (k u).run QQ EE → Q v H) : rIxL K x (.int a) H Q := by
  obtain ⟨p, xs, rfl, q, rs⟩ := r
  obtain ⟨u, hu, h⟩ := h
  obtain ⟨v, hv, rv⟩ := atI_get rs hu
  exact v_ixL (I.sqL q) hv (g u v rv h)
/-- the same of an owned list -/
theorem x_ixLo {l : List α} {k : α → D ρ} {p : Addr} {xs : List V} (I : Own K F H pp os) (i : Nat) (e : os[i]? = some (p, .lst xs)) (rs : Reps K F xs l) (h : (D.bind (ixL l a) k).run QQ EE) (g : ∀ u v, Rp.rep K F v u → (k u).run QQ EE → Q v H) : rIxL K (.ref p) (.int a) H Q := by
  obtain ⟨u, hu, h⟩ := h
  obtain ⟨v, hv, rv⟩ := atI_get rs hu
  exact v_ixL (sqL_of (I.own i _ _ e).2) hv (g u v rv h)
theorem x_lenL {l : List α} (I : Own K F H pp os) (r : Rp.rep K F x l) (g : Q (.int (l.length : Int)) H) : rLenQ K [x] H Q := by
  obtain ⟨p, xs, rfl, q, rs⟩ := r
  exact v_lenL (I.sqL q) (by rw [rs.len]; exact g)
theorem x_lenLo {l : List α} {p : Addr} {xs : List V} (I : Own K F H pp os) (i : Nat) (e : os[i]? = some (p, .lst xs)) (rs : Reps K F xs l) (g : Q (.int (l.length : Int)) H) : rLenQ K [.ref p] H Q := v_lenL (sqL_of (I.own i _ _ e).2) (by rw [rs.len]; exact g)
/-! in -/
theorem x_inS {l : List Str} {z : Str} (I : Own K F H pp os) (r : Rp.rep K F x l) (g : Q (.bl (decide (z ∈ l))) H) : rIn K false (.str z) x H Q := by
  obtain ⟨p, xs, rfl, q, rs⟩ := r
  rw [rs.str] at q
  exact v_inS (I.sqL q) g
theorem x_ninS {l : List Str} {z : Str} (I : Own K F H pp os) (r : Rp.rep K F x l) (g : Q (.bl (!decide (z ∈ l))) H) : rIn K true (.str z) x H Q := by
  obtain ⟨p, xs, rfl, q, rs⟩ := r
  rw [rs.str] at q
  exact v_notInS (I.sqL q) g
theorem x_inSo {l : List Str} {z : Str} {p : Addr} {xs : List V} (I : Own K F H pp os) (i : Nat) (e : os[i]? = some (p, .lst xs)) (rs : Reps K F xs l) (g : Q (.bl (decide (z ∈ l))) H) : rIn K false (.str z) (.ref p) H Q := by
  rw [rs.str] at e
  exact v_inS (sqL_of (I.own i _ _ e).2) g
theorem x_ninSo {l : List Str} {z : Str} {p : Addr} {xs : List V} (I : Own K F H pp os) (i : Nat) (e : os[i]? = some (p, .lst xs)) (rs : Reps K F xs l) (g : Q (.bl (!decide (z ∈ l))) H) : rIn K true (.str z) (.ref p) H Q := by
  rw [rs.str] at e
  exact v_notInS (sqL_of (I.own i _ _ e).2) g
/-! new things -/
theorem x_lst {xs : List V} {l : List α} (I : Own K F H pp os) (rs : Reps K F xs l) (hn : xs.length ≤ sizeLine) {P : Addr → Prop} (g : ∀ p F', Same F F' → Own K F' (upd H p (.lst xs)) pp os → Rp.rep K F' (.ref p) l → P p) : xs.length ≤ sizeLine ∧ ∀ p, H p = none → P p :=
  ⟨hn, fun p np => g p _ (same_new (I.free np)) (I.new np (fun _ _ h => by cases h)) ⟨p, xs, rfl, upd_same, rs.mono (same_new (I.free np))⟩⟩
theorem x_lstO {xs : List V} (I : Own K F H pp os) (hn : xs.length ≤ sizeLine) {P : Addr → Prop} (g : ∀ p, Own K F (upd H p (.lst xs)) pp ((p, .lst xs) :: os) → P p) : xs.length ≤ sizeLine ∧ ∀ p, H p = none → P p :=
  ⟨hn, fun p np => g p (I.take np)⟩
/-- any tuple or list whose kind is told by R -/
theorem x_tup {xs : List V} (I : Own K F H pp os) (hn : xs.length ≤ sizeLine) {P : Hp → V → Prop} {P' : Addr → Prop} (hp : ∀ p F', Same F F' → SqT K F' p xs → P F' (.ref p)) (g : ∀ p F', Same F F' → Own K F' (upd H p (.tup xs)) pp os → P F' (.ref p) → P' p) : xs.length ≤ sizeLine ∧ ∀ p, H p = none → P' p :=
  ⟨hn, fun p np => g p _ (same_new (I.free np)) (I.new np (fun _ _ h => by cases h)) (hp p _ (same_new (I.free np)) (sqT_of upd_same))⟩
theorem x_row {xs : List V} (I : Own K F H pp os) (hn : xs.length ≤ sizeLine) {P : Hp → V → Prop} {P' : Addr → Prop} (hp : ∀ p F', Same F F' → F' p = some (.lst xs) → P F' (.ref p)) (g : ∀ p F', Same F F' → Own K F' (upd H p (.lst xs)) pp os → P F' (.ref p) → P' p) : xs.length ≤ sizeLine ∧ ∀ p, H p = none → P' p :=
  ⟨hn, fun p np => g p _ (same_new (I.free np)) (I.new np (fun _ _ h => by cases h)) (hp p _ (same_new (I.free np)) (upd_same))⟩
/-! owned lists -/
theorem x_app {l : List α} {u : α} {k : List α → D ρ} {p : Addr} {xs : List V} (I : Own K F H pp os) (i : Nat) (e : os[i]? = some (p, .lst xs)) (rs : Reps K F xs l) (r : Rp.rep K F y u) (h : (D.bind (app l u) k).run QQ EE)
    (g : ∀ xs' H', Own K F H' pp (os.set i (p, .lst xs')) → Reps K F xs' (l ++ [u]) → (k (l ++ [u])).run QQ EE → Q .non H') : rAppend (.ref p) [y] H Q :=
  v_append (I.own i _ _ e).2 (by rw [rs.len]; exact h.1) (g _ _ (I.put i e) (rs.snoc r) h.2)
theorem x_frz {l : List α} {p : Addr} {xs : List V} (I : Own K F H pp ((p, .lst xs) :: os)) (rs : Reps K F xs l) : ∃ F', Same F F' ∧ Own K F' H pp os ∧ Rp.rep K F' (.ref p) l :=
  ⟨_, I.frzS, I.frz (fun _ _ h => by cases h), p, xs, rfl, upd_same, rs.mono I.frzS⟩
end
/-! ### walks -/
structure TW (K : PySem.W.Frag) {α : Type} [Rp α] (J : It) (l : List α) (F0 : Hp) (B : Os → Prop) : Prop where
  go : ∀ i F H pp os, Same F0 F → B os → Own K F H pp os → i < l.length → J.go i H
  stop : ∀ i F H pp os, Same F0 F → B os → Own K F H pp os → l.length ≤ i → J.stop i H
  yld : ∀ i F H pp os x H', Same F0 F → B os → Own K F H pp os → J.yld i H x H' → i < l.length → ∃ a F', l[i]? = some a ∧ Same F F' ∧ Own K F' H' pp os ∧ Rp.rep K F' x a
abbrev yes (_ : Os) : Prop := True
section
variable {α β ρ : Type} [Rp α] [Rp β] {K : PySem.W.Frag} {F F0 F' H H' : Hp} {pp : Md} {os : Os} {σ : St} {Q : VK} {QQ : ρ → Prop} {EE : Ex → Prop} {x y : V} {a b : Int} {B : Os → Prop}
theorem tw_list {l : List α} {p : Addr} {xs : List V} (q : F0 p = some (.lst xs)) (rs : Reps K F0 xs l) : TW K (Itl K p) l F0 yes := by
  refine ⟨fun i F H pp os s _ I hi => ?_, fun i F H pp os s _ I hi => ?_, fun i F H pp os x H' s _ I ⟨e, hx⟩ hi => ?_⟩
  · rw [← rs.len] at hi
    exact ⟨xs, xs[i], sqL_of ((s.trans I.ex) _ _ q), by simp [hi]⟩
  · exact ⟨xs, sqL_of ((s.trans I.ex) _ _ q), by rw [rs.len]; exact hi⟩
  · subst e
    obtain ⟨a, ha, r⟩ := rs.get' (hx _ (sqL_of ((s.trans I.ex) _ _ q)))
    exact ⟨a, F, ha, Same.refl F, I, Rp.mono s r⟩
theorem tw_own {l : List α} {p : Addr} {xs : List V} (rs : Reps K F0 xs l) : TW K (Itl K p) l F0 (fun os => ∃ j : Nat, os[j]? = some (p, .lst xs)) := by
  refine ⟨fun i F H pp os s ⟨j, e⟩ I hi => ?_, fun i F H pp os s ⟨j, e⟩ I hi => ?_, fun i F H pp os x H' s ⟨j, e⟩ I ⟨e2, hx⟩ hi => ?_⟩
  · rw [← rs.len] at hi
    exact ⟨xs, xs[i], sqL_of (I.own j _ _ e).2, by simp [hi]⟩
  · exact ⟨xs, sqL_of (I.own j _ _ e).2, by rw [rs.len]; exact hi⟩
  · subst e2
    obtain ⟨a, ha, r⟩ := rs.get' (hx _ (sqL_of (I.own j _ _ e).2))
    exact ⟨a, F, ha, Same.refl F, I, Rp.mono s r⟩
theorem tw_rng {lo hi : Int} : TW K (Itr lo (hi - lo).toNat) (rngL lo hi) F0 yes := by
  have hl : (rngL lo hi).length = (hi - lo).toNat := by unfold rngL; rw [List.length_map, List.length_range]
  refine ⟨fun i F H pp os s _ I h => ?_, fun i F H pp os s _ I h => ?_, fun i F H pp os x H' s _ I ⟨e, hx⟩ h => ?_⟩
  · rw [hl] at h; exact h
  · rw [hl] at h; exact h
  · subst e hx
    rw [hl] at h
    refine ⟨lo + (i : Int), F, ?_, Same.refl F, I, rfl⟩
    unfold rngL
    rw [List.getElem?_map, List.getElem?_range h]
    rfl
theorem tw_str {z : Str} : TW K (Its z) (chars z) F0 yes := by
  have hl : (chars z).length = z.length := by unfold chars; rw [List.length_map, ← len_tl]
  refine ⟨fun i F H pp os s _ I h => ?_, fun i F H pp os s _ I h => ?_, fun i F H pp os x H' s _ I hy h => ?_⟩
  · rw [hl] at h; exact h
  · rw [hl] at h; exact h
  · obtain ⟨rfl, c, h1, rfl⟩ := wlk_str.yld i H x H' trivial hy
    refine ⟨⟨#[c]⟩, F, ?_, Same.refl F, I, rfl⟩
    unfold chars
    rw [List.getElem?_map, h1]
    rfl
/-- what enumerate gives -/
def enumL : Int → List α → List (T2 Int α)
  | _, [] => []
  | n, a :: l => ⟨n, a⟩ :: enumL (n + 1) l
theorem enumL_get (l : List α) : ∀ (n : Int) (i : Nat), (enumL n l)[i]? = l[i]?.map fun a => ⟨n + (i : Int), a⟩ := by
  induction l with
  | nil => intro n i; rfl
  | cons b l ih => intro n i; cases i with
    | zero => show some (⟨n, b⟩ : T2 Int α) = some ⟨n + ((0 : Nat) : Int), b⟩; simp
    | succ i =>
      show (enumL (n + 1) l)[i]? = _
      rw [ih]
      show _ = (l[i]?).map _
      congr 1
      funext c
      congr 1
      omega
theorem enumL_len (l : List α) : ∀ n : Int, (enumL n l).length = l.length := by
  induction l with
  | nil => intro n; rfl
  | cons b l ih => intro n; rw [enumL, List.length_cons, List.length_cons, ih]
theorem tw_enum {l : List α} {p : Addr} {xs : List V} (q : F0 p = some (.lst xs)) (rs : Reps K F0 xs l) : TW K (Ite K p) (enumL 0 l) F0 yes := by
  have w := wlk_enum (K := K) (a := p) (xs := xs)
  refine ⟨fun i F H pp os s _ I hi => ?_, fun i F H pp os s _ I hi => ?_, fun i F H pp os x H' s _ I hy hi => ?_⟩
  · rw [enumL_len, ← rs.len] at hi
    exact w.go i H (sqL_of ((s.trans I.ex) _ _ q)) hi
  · rw [enumL_len, ← rs.len] at hi
    exact w.stop i H (sqL_of ((s.trans I.ex) _ _ q)) hi
  · obtain ⟨T, y, rfl, nT, rfl, hy2⟩ := w.yld i H x H' (sqL_of ((s.trans I.ex) _ _ q)) hy
    obtain ⟨a, ha, r⟩ := rs.get' hy2
    have s1 := same_new (o := HO.tup [.int (i : Nat), y]) (I.free nT)
    refine ⟨⟨0 + (i : Int), a⟩, _, by rw [enumL_get, ha]; rfl, s1, I.new nT (fun _ _ h => by cases h), T, _, _, rfl, sqT_of upd_same, ?_, Rp.mono (s.trans s1) r⟩
    show V.int _ = V.int _
    simp
theorem x_iList {l : List α} {P : Addr → Prop} (I : Own K F H pp os) (r : Rp.rep K F x l) (g : ∀ p, TW K (Itl K p) l F yes → P p) : ∃ a, x = .ref a ∧ (∃ xs, SqL K H a xs) ∧ P a := by
  obtain ⟨p, xs, rfl, q, rs⟩ := r
  exact ⟨p, rfl, ⟨xs, I.sqL q⟩, g _ (tw_list q rs)⟩
theorem x_iListO {l : List α} {P : Addr → Prop} {p : Addr} {xs : List V} (I : Own K F H pp os) (i : Nat) (e : os[i]? = some (p, .lst xs)) (rs : Reps K F xs l) (g : TW K (Itl K p) l F (fun os => ∃ j : Nat, os[j]? = some (p, .lst xs)) → P p) : ∃ a, V.ref p = .ref a ∧ (∃ xs, SqL K H a xs) ∧ P a :=
  ⟨p, rfl, ⟨xs, sqL_of (I.own i _ _ e).2⟩, g (tw_own rs)⟩
theorem x_iEnum {l : List α} {P : Addr → Prop} (I : Own K F H pp os) (r : Rp.rep K F x l) (g : ∀ p, TW K (Ite K p) (enumL 0 l) F yes → P p) : ∃ a xs, [x] = [.ref a] ∧ SqL K H a xs ∧ P a := by
  obtain ⟨p, xs, rfl, q, rs⟩ := r
  exact ⟨p, xs, rfl, I.sqL q, g _ (tw_enum q rs)⟩
theorem x_iRng1 {k : List Int → D ρ} {P : Int → Prop} (h : (D.bind (rng 0 b) k).run QQ EE) (g : TW K (Itr 0 b.toNat) (rngL 0 b) F yes → (k (rngL 0 b)).run QQ EE → P b) : ∃ j : Int, [V.int b] = [.int j] ∧ -(2 ^ 62) ≤ j ∧ j < 2 ^ 62 ∧ P j :=
  ⟨b, rfl, h.1.2.2.1, h.1.2.2.2, g (by have := tw_rng (K := K) (F0 := F) (lo := 0) (hi := b); rw [show b - 0 = b by omega] at this; exact this) h.2⟩
theorem x_iRng2 {k : List Int → D ρ} {P : Int → Int → Prop} (h : (D.bind (rng a b) k).run QQ EE) (g : TW K (Itr a (b - a).toNat) (rngL a b) F yes → (k (rngL a b)).run QQ EE → P a b) : ∃ i j : Int, [V.int a, V.int b] = [.int i, .int j] ∧ (-(2 ^ 62) ≤ i ∧ i < 2 ^ 62 ∧ -(2 ^ 62) ≤ j ∧ j < 2 ^ 62) ∧ P i j :=
  ⟨a, b, rfl, h.1, g tw_rng h.2⟩
theorem x_iStr {z : Str} {P : Str → Prop} (g : TW K (Its z) (chars z) F yes → P z) : ∃ x, V.str z = .str x ∧ P x := ⟨z, rfl, g tw_str⟩
theorem x_for {ι S : Type} [Rp ι] {J : It} {l : List ι} {g : TG} {tb : TS} {nx : St → Hp → Prop} {rt : VK} {body : ι → S → (S → D ρ) → (S → D ρ) → D ρ} {k : S → D ρ} {s0 : S} (tw : TW K J l F0 B) (Rs : S → St → Hp → Hp → Prop)
    (h : (D.loop body k l s0).run QQ EE) (r0 : Rs s0 σ F H)
    (hO : ∀ s σ F H, Rs s σ F H → Same F0 F ∧ ∃ os, B os ∧ Own K F H pp os ∧ ∀ F' H', Same F F' → Own K F' H' pp os → Rs s σ F' H')
    (hd : ∀ s σ F H, Rs s σ F H → (k s).run QQ EE → nx σ H)
    (hs : ∀ a s x σ F H (N : St → Hp → Prop) nx', Rs s σ F H → Rp.rep K F x a → (body a s nx' k).run QQ EE → (∀ s' σ' F' H', Rs s' σ' F' H' → (nx' s').run QQ EE → N σ' H') → (∀ s' σ' F' H', Rs s' σ' F' H' → (k s').run QQ EE → nx σ' H') → g x σ H fun σ2 H2 => tb ⟨N, rt, nx, N⟩ σ2 H2) :
    ∃ W : Nat → Nat → St → Hp → Prop, (∃ m, W 0 m σ H) ∧ ∀ i m σ H, W i m σ H →
      (J.stop i H ∧ nx σ H) ∨ (J.go i H ∧ ∃ N : St → Hp → Prop, (∀ σ' H', N σ' H' → ∃ m', m' < m ∧ W (i + 1) m' σ' H') ∧ ∀ x H', J.yld i H x H' → g x σ H' fun σ2 H2 => tb ⟨N, rt, nx, N⟩ σ2 H2) := by
  refine ⟨fun i m σ H => m = l.length - i ∧ i ≤ l.length ∧ ∃ s F, Rs s σ F H ∧ (D.loop body k (l.drop i) s).run QQ EE, ⟨l.length, by simp, Nat.zero_le _, s0, F, r0, h⟩, ?_⟩
  rintro i m σ H ⟨rfl, hi, s, F, r, h⟩
  obtain ⟨sF, os, hB, I, st⟩ := hO s σ F H r
  by_cases hlt : i < l.length
  · have ed : l.drop i = l[i] :: l.drop (i + 1) := List.drop_eq_getElem_cons hlt
    rw [ed] at h
    refine .inr ⟨tw.go i F H pp os sF hB I hlt, fun σ' H' => i + 1 ≤ l.length ∧ ∃ s' F', Rs s' σ' F' H' ∧ (D.loop body k (l.drop (i + 1)) s').run QQ EE, fun σ' H' ⟨_, q⟩ => ⟨l.length - (i + 1), by omega, rfl, hlt, q⟩, fun x H' hy => ?_⟩
    obtain ⟨a, F', ha, s1, I', ra⟩ := tw.yld i F H pp os x H' sF hB I hy hlt
    rw [List.getElem?_eq_getElem hlt] at ha
    cases ha
    exact hs _ s x σ F' H' _ _ (st F' H' s1 I') ra h (fun s' σ' F' H' r' h' => ⟨hlt, s', F', r', h'⟩) hd
  · have e : i = l.length := by omega
    subst e
    rw [List.drop_length] at h
    exact .inl ⟨tw.stop _ F H pp os sF hB I (Nat.le_refl _), hd s σ F H r h⟩
theorem x_lc {ι : Type} [Rp ι] {J : It} {l : List ι} {g : TG} {tt : TT} {te : TE} {vs : List Nat} {D0 : Addr} {Qd : Hp → Prop} {f : ι → D (Option β)} {kk : List β → D ρ} (tw : TW K J l F0 B) (I : Own K F H pp os) (sF : Same F0 F) (hB : ∀ q, B (q :: os)) (nD : H D0 = none)
    (h : (D.bind (D.lc f l []) kk).run QQ EE)
    (hs : ∀ a x F1 H1 (acc : List V) (Nx : Hp → Prop) (Q1 : Option β → Prop), Same F F1 → Own K F1 H1 pp ((D0, .lst acc) :: os) → Rp.rep K F1 x a → (f a).run Q1 EE →
      (∀ F3 H3 y b, Same F1 F3 → Own K F3 H3 pp ((D0, .lst acc) :: os) → Rp.rep K F3 y b → Q1 (some b) → ∃ acc, H3 D0 = some (.lst acc) ∧ acc.length < sizeLine ∧ Nx (upd H3 D0 (.lst (acc ++ [y])))) →
      (∀ F3 H3, Same F1 F3 → Own K F3 H3 pp ((D0, .lst acc) :: os) → Q1 none → Nx H3) →
      g x (wipe σ vs) H1 fun σ2 H2 => wipe σ2 vs = wipe σ vs ∧ tt σ2 H2 fun b H3 => if b = true then te σ2 H3 fun y H4 => ∃ acc, H4 D0 = some (.lst acc) ∧ acc.length < sizeLine ∧ Nx (upd H4 D0 (.lst (acc ++ [y]))) else Nx H3)
    (hd : ∀ F' H' ys l', Same F F' → Own K F' H' pp ((D0, .lst ys) :: os) → Reps K F' ys l' → (kk l').run QQ EE → Qd H') :
    ∃ W : Nat → Nat → Hp → Prop, (∃ m, W 0 m (upd H D0 (.lst []))) ∧ ∀ i m H, W i m H →
      (J.stop i H ∧ Qd H) ∨ (J.go i H ∧ ∃ Nx : Hp → Prop, (∀ H', Nx H' → ∃ m', m' < m ∧ W (i + 1) m' H') ∧ ∀ x H', J.yld i H x H' → g x (wipe σ vs) H' fun σ2 H2 => wipe σ2 vs = wipe σ vs ∧ tt σ2 H2 fun b H3 =>
        if b = true then te σ2 H3 fun y H4 => ∃ acc, H4 D0 = some (.lst acc) ∧ acc.length < sizeLine ∧ Nx (upd H4 D0 (.lst (acc ++ [y]))) else Nx H3) := by
  refine ⟨fun i m H' => m = l.length - i ∧ i ≤ l.length ∧ ∃ F' ys l', Same F F' ∧ Own K F' H' pp ((D0, .lst ys) :: os) ∧ Reps K F' ys l' ∧ (D.bind (D.lc f (l.drop i) l') kk).run QQ EE, ⟨l.length, by simp, Nat.zero_le _, F, [], [], Same.refl F, I.take nD, .nil, h⟩, ?_⟩
  rintro i m H' ⟨rfl, hi, F', ys, l', s, I', rs, h⟩
  by_cases hlt : i < l.length
  · have ed : l.drop i = l[i] :: l.drop (i + 1) := List.drop_eq_getElem_cons hlt
    rw [ed] at h
    refine .inr ⟨tw.go i F' H' pp _ (sF.trans s) (hB _) I' hlt, fun H2 => i + 1 ≤ l.length ∧ ∃ F2 ys l', Same F F2 ∧ Own K F2 H2 pp ((D0, .lst ys) :: os) ∧ Reps K F2 ys l' ∧ (D.bind (D.lc f (l.drop (i + 1)) l') kk).run QQ EE, fun H2 ⟨_, q⟩ => ⟨l.length - (i + 1), by omega, rfl, hlt, q⟩, fun x H2 hy => ?_⟩
    obtain ⟨a, F2, ha, s1, I2, ra⟩ := tw.yld i F' H' pp _ x H2 (sF.trans s) (hB _) I' hy hlt
    rw [List.getElem?_eq_getElem hlt] at ha
    cases ha
    refine hs _ x F2 H2 ys _ _ (s.trans s1) I2 ra (D.bindE h) (fun F3 H3 y b s3 I3 ry q => ?_) (fun F3 H3 s3 I3 q => ?_)
    · have q2 := q.1
      refine ⟨ys, (I3.own 0 _ _ rfl).2, by rw [rs.len]; exact q2, hlt, F3, _, _, (s.trans s1).trans s3, I3.put 0 rfl, (rs.mono (s1.trans s3)).snoc ry, q.2⟩
    · exact ⟨hlt, F3, _, _, (s.trans s1).trans s3, I3, rs.mono (s1.trans s3), q⟩
  · have e : i = l.length := by omega
    subst e
    rw [List.drop_length] at h
    exact .inl ⟨tw.stop _ F' H' pp _ (sF.trans s) (hB _) I' (Nat.le_refl _), hd F' H' ys l' s I' rs h⟩
end
/-! ### signs, targets, sets -/
def sgl (a : Str) : Prop := ∃ c : Nat, a = ⟨#[c]⟩
def inC (a b : Str) : Bool := decide (a.cps.getD 0 0 ∈ tl b)
class Nn (α : Type) [Rp α] : Prop where
  nn : ∀ {K : PySem.W.Frag} {F : Hp} {x : V} {a : α}, Rp.rep K F x a → x ≠ .non
theorem nn_of {α : Type} [Rp α] [Nn α] {K : PySem.W.Frag} {F : Hp} {x : V} {a : α} (h : Rp.rep K F x a) : x ≠ .non := Nn.nn h
def setL {α : Type} (l : List α) (i : Int) (a : α) : D (List α) := D.the fun m => ∃ j, ixN l.length i = some j ∧ m = l.set j a
section
variable {α β γ δ ε ρ : Type} [Rp α] [Rp β] [Rp γ] [Rp δ] [Rp ε] {K : PySem.W.Frag} {F F0 F' H H' : Hp} {pp : Md} {os : Os} {σ : St} {Q : VK} {QQ : ρ → Prop} {EE : Ex → Prop} {x y : V} {a b : Int}
instance : Nn (List α) := ⟨fun ⟨p, _, h, _⟩ z => by rw [h] at z; cases z⟩
instance : Nn (T2 α β) := ⟨fun ⟨p, _, _, h, _⟩ z => by rw [h] at z; cases z⟩
instance : Nn (T3 α β γ) := ⟨fun ⟨p, _, _, _, h, _⟩ z => by rw [h] at z; cases z⟩
instance : Nn (T4 α β γ δ) := ⟨fun ⟨p, _, _, _, _, h, _⟩ z => by rw [h] at z; cases z⟩
instance : Nn (T5 α β γ δ ε) := ⟨fun ⟨p, _, _, _, _, _, h, _⟩ z => by rw [h] at z; cases z⟩
instance : Nn (Rm.R2 α β) := ⟨fun ⟨p, _, _, h, _⟩ z => by rw [h] at z; cases z⟩
instance : Nn (Rm.R3 α β γ) := ⟨fun ⟨p, _, _, _, h, _⟩ z => by rw [h] at z; cases z⟩
theorem x_inC {a b : Str} (hs : sgl a) (g : Q (.bl (inC a b)) H) : rInC (.str a) (.str b) H Q := by
  obtain ⟨c, rfl⟩ := hs
  exact v_inC g
theorem x_ninC {a b : Str} (hs : sgl a) (g : Q (.bl (!inC a b)) H) : rNotInC (.str a) (.str b) H Q := by
  obtain ⟨c, rfl⟩ := hs
  exact v_notInC g
theorem c_gTup {n : Nat} {t : TGs} {p : Addr} {xs : List V} {Qs : St → Hp → Prop} (q : SqT K H p xs) (hn : xs.length = n) (h : t xs σ H Qs) : gTup K n t (.ref p) σ H Qs := ⟨p, xs, rfl, q, hn, h⟩
theorem c_gCons {t : TG} {u : TGs} {v : V} {r : List V} {Qs : St → Hp → Prop} (h : t v σ H fun σ' H' => u r σ' H' Qs) : gCons t u (v :: r) σ H Qs := ⟨v, r, rfl, h⟩
theorem c_gNil {Qs : St → Hp → Prop} (h : Qs σ H) : gNil [] σ H Qs := ⟨rfl, h⟩
theorem x_setL {l : List α} {u : α} {k : List α → D ρ} {p : Addr} {xs : List V} {Qh : Hp → Prop} (I : Own K F H pp os) (i : Nat) (e : os[i]? = some (p, .lst xs)) (rs : Reps K F xs l) (r : Rp.rep K F y u) (h : (D.bind (setL l a u) k).run QQ EE)
    (g : ∀ xs' m H', Own K F H' pp (os.set i (p, .lst xs')) → Reps K F xs' m → (k m).run QQ EE → Qh H') : rSetL (.ref p) (.int a) y H Qh := by
  obtain ⟨_, ⟨j, hj, rfl⟩, h⟩ := h
  exact v_setL (I.own i _ _ e).2 (by rw [rs.len]; exact hj) (g _ _ _ (I.put i e) (rs.set r j) h)
end
/-! ### the models' runs, for the laws -/
section
variable {α β ρ : Type} {Q : α → Prop} {E : Ex → Prop}
theorem run_pure {a : α} : (D.pure a).run Q E = Q a := rfl
theorem run_bind {m : D β} {k : β → D α} : (D.bind m k).run Q E = m.run (fun b => (k b).run Q E) E := rfl
theorem run_asr {c : Prop} {m : D α} : (D.asr c m).run Q E = (c ∧ m.run Q E) := rfl
theorem run_raise {e : Ex} : (D.raise e : D α).run Q E = E e := rfl
theorem run_ite {b : Bool} {m n : D α} : (D.ite b m n).run Q E = if b = true then m.run Q E else n.run Q E := rfl
theorem run_jn {κ : Type} {rest : κ} {A : κ → D α} : (D.jn rest A).run Q E = (A rest).run Q E := rfl
theorem run_draw {n : Int} {Q : Int → Prop} : (draw n).run Q E = ((0 < n ∧ n < 4611686018427387904) ∧ ∀ r, (0 ≤ r ∧ r < n) → Q r) := rfl
theorem run_addS {a b : Str} {Q : Str → Prop} : (addS a b).run Q E = (a.length + b.length ≤ sizeLine ∧ Q (a ++ b)) := rfl
theorem run_lenS {a : Str} {Q : Int → Prop} : (lenS a).run Q E = (a.length ≤ sizeLine ∧ Q (a.length : Int)) := rfl
theorem run_mulI {a b : Int} {Q : Int → Prop} : (mulI a b).run Q E = (CMul a b ∧ Q (a * b)) := rfl
theorem run_modI {a b : Int} {Q : Int → Prop} : (modI a b).run Q E = (0 < b ∧ Q (a % b)) := rfl
theorem run_divI {a b : Int} {Q : Int → Prop} : (divI a b).run Q E = ((0 < b ∧ b < 4611686018427387904) ∧ Q (a / b)) := rfl
theorem run_strI {a : Int} {Q : Str → Prop} : (strI a).run Q E = (a.natAbs.log2 < 1920 ∧ Q (toString a)) := rfl
theorem run_rng {a b : Int} {Q : List Int → Prop} : (rng a b).run Q E = ((-(2 ^ 62) ≤ a ∧ a < 2 ^ 62 ∧ -(2 ^ 62) ≤ b ∧ b < 2 ^ 62) ∧ Q (rngL a b)) := rfl
theorem run_app {l : List β} {a : β} {Q : List β → Prop} : (app l a).run Q E = (l.length < sizeLine ∧ Q (l ++ [a])) := rfl
theorem run_ixL {l : List β} {i : Int} {Q : β → Prop} : (ixL l i).run Q E = ∃ a, atI l i = some a ∧ Q a := rfl
theorem d_if {b : Bool} {m n : D α} (h1 : b = true → m.run Q E) (h2 : b = false → n.run Q E) : (D.ite b m n).run Q E := by
  cases b
  · exact h2 rfl
  · exact h1 rfl
theorem d_ifd {c : Prop} [Decidable c] {m n : D α} (h1 : c → m.run Q E) (h2 : ¬ c → n.run Q E) : (D.ite (decide c) m n).run Q E := d_if (fun h => h1 (of_decide_eq_true h)) (fun h => h2 (of_decide_eq_false h))
theorem d_ifn {c : Prop} [Decidable c] {m n : D α} (h1 : ¬ c → m.run Q E) (h2 : c → n.run Q E) : (D.ite (!decide c) m n).run Q E := by
  by_cases h : c
  · rw [decide_eq_true h]; exact h2 h
  · rw [decide_eq_false h]; exact h1 h
/-- the ways of A meet in R -/
theorem d_jn {κ : Type} {rest : κ → D α} {A : (κ → D α) → D α} (R : κ → Prop) (h1 : ∀ jp : κ → D α, (∀ v, R v → (jp v).run Q E) → (A jp).run Q E) (h2 : ∀ v, R v → (rest v).run Q E) : (D.jn rest A).run Q E := h1 rest h2
theorem d_jn2 {κ μ : Type} {rest : κ → μ → D α} {A : (κ → μ → D α) → D α} (R : κ → μ → Prop) (h1 : ∀ jp : κ → μ → D α, (∀ v w, R v w → (jp v w).run Q E) → (A jp).run Q E) (h2 : ∀ v w, R v w → (rest v w).run Q E) : (D.jn rest A).run Q E := h1 rest h2
theorem d_loop {ι S : Type} {body : ι → S → (S → D α) → (S → D α) → D α} {k : S → D α} {l : List ι} {s0 : S} (Pv : Nat → S → Prop) (h0 : Pv 0 s0)
    (hs : ∀ i a s (nx : S → D α), l[i]? = some a → Pv i s → (∀ s', Pv (i + 1) s' → (nx s').run Q E) → (body a s nx k).run Q E) (hd : ∀ s, Pv l.length s → (k s).run Q E) : (D.loop body k l s0).run Q E := by
  have key : ∀ (m : List ι) (i : Nat) (s : S), l.drop i = m → i ≤ l.length → Pv i s → (D.loop body k m s).run Q E := by
    intro m
    induction m with
    | nil =>
      intro i s e hi p
      have : l.length ≤ i := by
        have := congrArg List.length e
        rw [List.length_drop, List.length_nil] at this
        omega
      have ei : i = l.length := by omega
      rw [ei] at p
      exact hd s p
    | cons a m ih =>
      intro i s e hi p
      have hlt : i < l.length := by
        have := congrArg List.length e
        rw [List.length_drop, List.length_cons] at this
        omega
      rw [List.drop_eq_getElem_cons hlt] at e
      have ha := (List.cons.inj e).1
      have hm := (List.cons.inj e).2
      subst ha
      exact hs i _ s _ (List.getElem?_eq_getElem hlt) p fun s' p' => ih (i + 1) s' hm hlt p'
  exact key l 0 s0 rfl (Nat.zero_le _) h0
/-- a list made item by item -/
theorem d_lc {ι : Type} {f : ι → D (Option β)} {l : List ι} {Q : List β → Prop} (hl : l.length ≤ sizeLine) (Pv : Nat → List β → Prop) (h0 : Pv 0 [])
    (hs : ∀ i a acc (Q1 : Option β → Prop), l[i]? = some a → acc.length ≤ i → Pv i acc → (∀ b, Pv (i + 1) (acc ++ [b]) → Q1 (some b)) → (Pv (i + 1) acc → Q1 none) → (f a).run Q1 E) (hd : ∀ r, Pv l.length r → Q r) : (D.lc f l []).run Q E := by
  have key : ∀ (m : List ι) (i : Nat) (acc : List β), l.drop i = m → i ≤ l.length → acc.length ≤ i → Pv i acc → (D.lc f m acc).run Q E := by
    intro m
    induction m with
    | nil =>
      intro i s e hi _ p
      have : l.length ≤ i := by
        have := congrArg List.length e
        rw [List.length_drop, List.length_nil] at this
        omega
      have ei : i = l.length := by omega
      rw [ei] at p
      exact hd s p
    | cons a m ih =>
      intro i s e hi ha p
      have hlt : i < l.length := by
        have := congrArg List.length e
        rw [List.length_drop, List.length_cons] at this
        omega
      rw [List.drop_eq_getElem_cons hlt] at e
      have ha2 := (List.cons.inj e).1
      have hm := (List.cons.inj e).2
      subst ha2
      refine hs i _ s _ (List.getElem?_eq_getElem hlt) ha p (fun b p' => ?_) (fun p' => ?_)
      · exact ⟨by omega, ih (i + 1) _ hm hlt (by rw [List.length_append]; exact Nat.add_le_add_right ha 1) p'⟩
      · exact ih (i + 1) _ hm hlt (by omega) p'
  exact key l 0 [] rfl (Nat.zero_le _) (Nat.le_refl _) h0
end
/-! ### objects -/
def never {α : Type} : D α := ⟨fun _ _ => False, fun _ _ h => h⟩
theorem run_never {α : Type} {Q : α → Prop} {E : Ex → Prop} : (never : D α).run Q E = False := rfl
section
variable {α β ρ : Type} [Rp α] [Rp β] {K : PySem.W.Frag} {F F0 F' H H' : Hp} {pp : Md} {os : Os} {σ : St} {Q : VK} {QQ : ρ → Prop} {EE : Ex → Prop} {x y : V} {C a dx : Addr} {fs fs' : List (Str × V)} {f : Str} {v : V}
theorem x_ifF {A B : Prop} {b : Bool} (e : b = false) (h : B) : if b = true then A else B := by rw [e]; exact h
theorem c_fldC {ta : TE} (h : ta σ H fun x H1 => ∃ a dx fs v, x = .ref a ∧ H1 a = some (.ins C dx fs) ∧ fs.lookup f = some v ∧ Q v H1) : tFldC C ta f σ H Q := h
theorem c_prop {sp : Sp} {E : XK} {ta : TE} (h : ta σ H fun x H1 => ∃ a dx fs, x = .ref a ∧ H1 a = some (.ins C dx fs) ∧ sp [.ref a] H1 Q E) : tProp C sp [] E ta σ H Q := h
theorem c_meth {m : Str} {sp : Sp} {E : XK} {ta : TE} {t : TA} (h : ta σ H fun x H1 => ∃ a dx fs, x = .ref a ∧ H1 a = some (.ins C dx fs) ∧ fs.lookup m = none ∧ t σ H1 fun vs H2 => sp (x :: (vs ++ [])) H2 Q E) : tMeth C m sp [] E ta t σ H Q := h
theorem c_make {sp : Sp} {E : XK} {t : TA} (h : t σ H fun vs H1 => ∀ x dx, H1 x = none → H1 dx = none → dx ≠ x → sp (.ref x :: (vs ++ [])) (upd (upd H1 dx (.own x)) x (.ins C dx [])) (fun v H2 => v = .non ∧ Q (.ref x) H2) E) : tMake C sp [] E t σ H Q := h
theorem c_sfldC {ta tv : TE} {nx bk ct : St → Hp → Prop} {rt : VK} (h : tv σ H fun y H1 => ta σ H1 fun x H2 => ∃ a dx fs, x = .ref a ∧ H2 a = some (.ins C dx fs) ∧ fs.length < 1000 ∧ nx σ (upd H2 a (.ins C dx (putF f y fs)))) : sFldC C ta tv f ⟨nx, rt, bk, ct⟩ σ H := h
theorem c_getO {sp : Sp} {E : XK} {ta tb : TE} (h : ta σ H fun x H1 => tb σ H1 fun y H2 => ∃ a dx fs, x = .ref a ∧ H2 a = some (.ins C dx fs) ∧ sp ([.ref a, y] ++ []) H2 Q E) : tGetO C sp E ta tb σ H Q := h
theorem c_iOwn {Fd : Str} {te : TE} {R : It → Hp → Prop} (h : te σ H fun x H1 => ∃ a dx fs l zs, x = .ref a ∧ H1 a = some (.ins C dx fs) ∧ fs.lookup Fd = some (.ref l) ∧ SqL K H1 l zs ∧ R (Itl K l) H1) : iOwn K C Fd te σ H R := h
theorem x_sfld {P : Hp → Prop} (I : Own K F H pp os) (i : Nat) (e : os[i]? = some (a, .ins C dx fs)) (hl : fs.length < 1000) (hp : putF f y fs = fs') (g : Own K F (upd H a (.ins C dx fs')) pp (os.set i (a, .ins C dx fs')) → P (upd H a (.ins C dx fs'))) :
    ∃ a' dx' fs'', V.ref a = .ref a' ∧ H a' = some (.ins C dx' fs'') ∧ fs''.length < 1000 ∧ P (upd H a' (.ins C dx' (putF f y fs''))) :=
  ⟨a, dx, fs, rfl, (I.own i _ _ e).2, hl, by rw [hp]; exact g (I.put i e)⟩
/-- an object of that class -/
structure ObR (C : Addr) (α : Type) [Rp α] (FsR : PySem.W.Frag → Hp → List (Str × V) → α → Prop) (K : PySem.W.Frag) : Prop where
  ob : ∀ {F : Hp} {a dx : Addr} {fs : List (Str × V)} {r : α}, F a = some (.ins C dx fs) → FsR K F fs r → Rp.rep K F (.ref a) r
  see : ∀ {F F' : Hp} {fs : List (Str × V)} {r : α}, Sees F F' → FsR K F fs r → FsR K F' fs r
theorem x_make {FsR : PySem.W.Frag → Hp → List (Str × V) → α → Prop} (O : ObR C α FsR K) {m : D α} {k : α → D ρ} {sp : Sp} {vs : List V} {E : XK} {P : Addr → Hp → Prop} (I : Own K F H pp os) (h : (D.bind m k).run QQ EE)
    (c : ∀ x dx F1, Same F F1 → Own K F1 (upd (upd H dx (.own x)) x (.ins C dx [])) pp ((x, .ins C dx []) :: os) →
      m.run (fun r => ∀ F2 H2 fs, Same F1 F2 → Own K F2 H2 pp ((x, .ins C dx fs) :: os) → FsR K F2 fs r → V.non = V.non ∧ P x H2) EE → sp (.ref x :: vs) (upd (upd H dx (.own x)) x (.ins C dx [])) (fun v H2 => v = .non ∧ P x H2) E)
    (g : ∀ r F2 H2 x, Same F F2 → Own K F2 H2 pp os → Rp.rep K F2 (.ref x) r → (k r).run QQ EE → P x H2) :
    ∀ x dx, H x = none → H dx = none → dx ≠ x → sp (.ref x :: vs) (upd (upd H dx (.own x)) x (.ins C dx [])) (fun v H2 => v = .non ∧ P x H2) E := by
  intro x dx hx hdx hne
  have I1 := I.new (o := .own x) hdx (fun _ _ h => by cases h)
  have hx1 : upd H dx (.own x) x = none := by rw [upd_ne hne.symm]; exact hx
  refine c x dx _ (same_new (I.free hdx)) (I1.take hx1) (m.mono (fun r h => ?_) (fun e he => he) (D.bindE h))
  intro F2 H2 fs s2 I2 rf
  have s3 := I2.frzS
  exact ⟨rfl, g r _ _ _ ((same_new (I.free hdx)).trans (s2.trans s3)) (I2.frz (fun _ _ h => by cases h)) (O.ob upd_same (O.see (Same.sees s3) rf)) h⟩
end
/-! ### dicts -/
/-- a key as a value -/
class KyV (κ : Type) [Ky κ] [Rp κ] : Prop where
  rep : ∀ {K : PySem.W.Frag} {F : Hp} {x : V} {k : κ}, Rp.rep K F x k ↔ x = kV (Ky.key k)
instance : KyV Str := ⟨Iff.rfl⟩
instance : KyV Int := ⟨Iff.rfl⟩
def dget {κ β : Type} [DecidableEq κ] (d : Dc κ β) (k : κ) : D β := D.the fun v => getD d.l k = some v
def din {κ β : Type} [DecidableEq κ] (d : Dc κ β) (k : κ) : Bool := (getD d.l k).isSome
def dput {κ β : Type} [DecidableEq κ] (d : Dc κ β) (k : κ) (v : β) : D (Dc κ β) := D.asr (d.l.length < sizeLine) (D.pure ⟨putD d.l k v⟩)
def dkeys {κ β : Type} (d : Dc κ β) : List κ := d.l.map (·.1)
def ditems {κ β : Type} (d : Dc κ β) : List (T2 κ β) := d.l.map fun p => ⟨p.1, p.2⟩
def ddel (k : Nat) : Nat := k
/-- a dict made item by item -/
def D.dc {ι κ β : Type} [DecidableEq κ] (f : ι → D (Option (T2 κ β))) : List ι → List (κ × β) → D (Dc κ β)
  | [], acc => D.pure ⟨acc⟩
  | x :: l, acc => D.bind (f x) fun o => match o with
    | some b => D.asr (acc.length < sizeLine) (D.dc f l (putD acc b.a b.b))
    | none => D.dc f l acc
section
variable {α β κ ρ : Type} [Rp α] [Rp β] [Rp κ] [Ky κ] [KyV κ] [DecidableEq κ] {K : PySem.W.Frag} {F F0 F' H H' : Hp} {pp : Md} {os : Os} {σ : St} {Q : VK} {QQ : ρ → Prop} {EE : Ex → Prop} {x y : V} {B : Os → Prop}
theorem rd_same {p : Addr} {u : HO} (e : Same F H) (h : Rd F p u) : Rd H p u := h.elim (fun h => .inl (e _ _ h)) fun ⟨o, h⟩ => .inr ⟨o, e _ _ h⟩
theorem c_dget {td ty : TE} (h : td σ H fun x H1 => ty σ H1 fun y H2 => ∃ a v, x = .ref a ∧ DGet H2 a y (some v) ∧ Q v H2) : tDGet td ty σ H Q := h
theorem c_din {td ty : TE} (h : ty σ H fun y H1 => td σ H1 fun x H2 => ∃ a o, x = .ref a ∧ DGet H2 a y o ∧ Q (.bl o.isSome) H2) : tDIn ty td σ H Q := h
theorem c_dnin {td ty : TE} (h : ty σ H fun y H1 => td σ H1 fun x H2 => ∃ a o, x = .ref a ∧ DGet H2 a y o ∧ Q (.bl (!o.isSome)) H2) : tDNotIn ty td σ H Q := h
theorem c_dput {td ty tv : TE} {nx bk ct : St → Hp → Prop} {rt : VK} (h : tv σ H fun v H1 => td σ H1 fun x H2 => ty σ H2 fun y H3 => ∃ a H4, x = .ref a ∧ DPut H3 a y v H4 ∧ nx σ H4) : sDPut td ty tv ⟨nx, rt, bk, ct⟩ σ H := h
theorem x_dget {d : Dc κ β} {k : κ} {kk : β → D ρ} (I : Own K F H pp os) (r : Rp.rep K F x d) (rk : Rp.rep K F y k) (h : (D.bind (dget d k) kk).run QQ EE) {P : V → Prop} (g : ∀ u v, Rp.rep K F v u → (kk u).run QQ EE → P v) : ∃ a v, x = .ref a ∧ DGet H a y (some v) ∧ P v := by
  obtain ⟨p, kvs, rfl, q, rs⟩ := r
  obtain ⟨u, hu, h⟩ := h
  rw [KyV.rep] at rk
  subst rk
  rcases rs.get (k := k) with ⟨v, x, e1, e2, r⟩ | ⟨e1, _⟩
  · rw [hu] at e1; cases e1
    exact ⟨p, x, rfl, .inl ⟨kvs, _, rd_same I.ex q, rfl, e2.symm⟩, g u x r h⟩
  · rw [hu] at e1; cases e1
theorem x_din {d : Dc κ β} {k : κ} {P : Option V → Prop} (I : Own K F H pp os) (r : Rp.rep K F x d) (rk : Rp.rep K F y k) (g : ∀ o : Option V, o.isSome = din d k → P o) : ∃ a o, x = .ref a ∧ DGet H a y o ∧ P o := by
  obtain ⟨p, kvs, rfl, q, rs⟩ := r
  rw [KyV.rep] at rk
  subst rk
  refine ⟨p, valV kvs (Ky.key k), rfl, .inl ⟨kvs, _, rd_same I.ex q, rfl, rfl⟩, g _ ?_⟩
  unfold din
  rcases rs.get (k := k) with ⟨v, x, e1, e2, r⟩ | ⟨e1, e2⟩ <;> rw [e2, e1] <;> rfl
/-- an owned dict -/
theorem x_dgetO {d : Dc κ β} {k : κ} {kk : β → D ρ} {p : Addr} {kvs : List (Key × V)} (I : Own K F H pp os) (i : Nat) (e : os[i]? = some (p, .dK kvs)) (rs : KReps K F kvs d.l) (rk : Rp.rep K F y k) (h : (D.bind (dget d k) kk).run QQ EE) {P : V → Prop} (g : ∀ u v, Rp.rep K F v u → (kk u).run QQ EE → P v) : ∃ a v, V.ref p = .ref a ∧ DGet H a y (some v) ∧ P v := by
  obtain ⟨u, hu, h⟩ := h
  rw [KyV.rep] at rk
  subst rk
  rcases rs.get (k := k) with ⟨v, x, e1, e2, r⟩ | ⟨e1, _⟩
  · rw [hu] at e1; cases e1
    exact ⟨p, x, rfl, .inl ⟨kvs, _, .inl (I.own i _ _ e).2, rfl, e2.symm⟩, g u x r h⟩
  · rw [hu] at e1; cases e1
theorem x_dinO {d : Dc κ β} {k : κ} {p : Addr} {kvs : List (Key × V)} {P : Option V → Prop} (I : Own K F H pp os) (i : Nat) (e : os[i]? = some (p, .dK kvs)) (rs : KReps K F kvs d.l) (rk : Rp.rep K F y k) (g : ∀ o : Option V, o.isSome = din d k → P o) : ∃ a o, V.ref p = .ref a ∧ DGet H a y o ∧ P o := by
  rw [KyV.rep] at rk
  subst rk
  refine ⟨p, valV kvs (Ky.key k), rfl, .inl ⟨kvs, _, .inl (I.own i _ _ e).2, rfl, rfl⟩, g _ ?_⟩
  unfold din
  rcases rs.get (k := k) with ⟨v, x, e1, e2, r⟩ | ⟨e1, e2⟩ <;> rw [e2, e1] <;> rfl
theorem x_dput {d : Dc κ β} {k : κ} {u : β} {v : V} {kk : Dc κ β → D ρ} {p : Addr} {kvs : List (Key × V)} {P : Hp → Prop} (I : Own K F H pp os) (i : Nat) (e : os[i]? = some (p, .dK kvs)) (rs : KReps K F kvs d.l) (rk : Rp.rep K F y k) (rv : Rp.rep K F v u) (h : (D.bind (dput d k u) kk).run QQ EE)
    (g : ∀ kvs' m H', Own K F H' pp (os.set i (p, .dK kvs')) → KReps K F kvs' m.l → (kk m).run QQ EE → P H') : ∃ a H4, V.ref p = .ref a ∧ DPut H a y v H4 ∧ P H4 := by
  rw [KyV.rep] at rk
  subst rk
  exact ⟨p, _, rfl, .inl ⟨kvs, _, (I.own i _ _ e).2, rfl, by rw [rs.len]; exact h.1, rfl⟩, g _ _ _ (I.put i e) (rs.put rv) h.2⟩
theorem x_frzD {d : Dc κ β} {p : Addr} {kvs : List (Key × V)} (I : Own K F H pp ((p, .dK kvs) :: os)) (rs : KReps K F kvs d.l) : ∃ F', Same F F' ∧ Own K F' H pp os ∧ Rp.rep K F' (.ref p) d :=
  ⟨_, I.frzS, I.frz (fun _ _ h => by cases h), p, kvs, rfl, .inl upd_same, rs.mono I.frzS⟩
theorem sees_lock {dd : Addr} {u : HO} {od : Obj} (hF : F dd = some u) (hu : ∀ C dx fs, u ≠ .ins C dx fs) (hl : ∀ xs, u ≠ .lst xs) (hz : ∀ w v, u ≠ .frz w v) : Sees F (upd F dd (.frz od u)) := by
  refine ⟨fun b v _ h => ?_, fun b C dx fs h => ?_, fun b xs h => ?_⟩
  · by_cases hb : b = dd
    · subst hb
      rcases h with h | ⟨o, h⟩
      · rw [hF] at h; cases h; exact .inr ⟨od, upd_same⟩
      · rw [hF] at h; exact absurd (Option.some.inj h) (hz _ _)
    · rcases h with h | ⟨o, h⟩
      · exact .inl (by rw [upd_ne hb]; exact h)
      · exact .inr ⟨o, by rw [upd_ne hb]; exact h⟩
  · have hb : b ≠ dd := fun hb => by subst hb; rw [hF] at h; exact hu _ _ _ (Option.some.inj h)
    rw [upd_ne hb]; exact h
  · have hb : b ≠ dd := fun hb => by subst hb; rw [hF] at h; exact hl _ (Option.some.inj h)
    rw [upd_ne hb]; exact h
theorem sees_unlock {dd : Addr} {u : HO} {od : Obj} (hF : F dd = some (.frz od u)) : Sees F (upd F dd u) := by
  refine ⟨fun b v hv h => ?_, fun b C dx fs h => ?_, fun b xs h => ?_⟩
  · by_cases hb : b = dd
    · subst hb
      rcases h with h | ⟨o, h⟩
      · rw [hF] at h; exact absurd (Option.some.inj h).symm (hv _ _)
      · rw [hF] at h; cases h; exact .inl upd_same
    · rcases h with h | ⟨o, h⟩
      · exact .inl (by rw [upd_ne hb]; exact h)
      · exact .inr ⟨o, by rw [upd_ne hb]; exact h⟩
  · have hb : b ≠ dd := fun hb => by subst hb; rw [hF] at h; cases h
    rw [upd_ne hb]; exact h
  · have hb : b ≠ dd := fun hb => by subst hb; rw [hF] at h; cases h
    rw [upd_ne hb]; exact h
theorem Own.lock {q : Option Addr} {dd : Addr} {kvs : List (Key × V)} {od : Obj} (I : Own K F H ⟨q, none⟩ os) (hF : F dd = some (.dK kvs)) : Own K (upd F dd (.frz od (.dK kvs))) (upd H dd (.frz od (.dK kvs))) ⟨q, some dd⟩ os := by
  have ne : ∀ a, F a = none → a ≠ dd := fun a h z => by subst z; rw [hF] at h; cases h
  refine ⟨fun b u e => ?_, fun b w u e => ?_, fun a e => ?_, fun i a u e => ?_, I.dj⟩
  · by_cases hb : b = dd
    · subst hb; rw [upd_same] at e ⊢; exact e
    · rw [upd_ne hb] at e ⊢; exact I.ex b u e
  · by_cases hb : b = dd
    · subst hb; rfl
    · rw [upd_ne hb] at e; have := I.nl b w u e; cases this
  · obtain ⟨h1, h2, n, c, ca, ns, h3, h4⟩ := I.pl a e
    exact ⟨by rw [upd_ne (ne a h1)]; exact h1, h2, n, c, ca, ns, by rw [upd_ne (ne a h1)]; exact h3, (sees_lock hF (fun _ _ _ h => by cases h) (fun _ h => by cases h) (fun _ _ h => by cases h)).sqL h4⟩
  · obtain ⟨h1, h2⟩ := I.own i a u e
    rw [upd_ne (ne a h1), upd_ne (ne a h1)]
    exact ⟨h1, h2⟩
theorem Own.unlock {q : Option Addr} {dd : Addr} {kvs : List (Key × V)} {od : Obj} (I : Own K F H ⟨q, some dd⟩ os) (hF : F dd = some (.frz od (.dK kvs))) : Own K (upd F dd (.dK kvs)) (upd H dd (.dK kvs)) ⟨q, none⟩ os := by
  have ne : ∀ a, F a = none → a ≠ dd := fun a h z => by subst z; rw [hF] at h; cases h
  refine ⟨fun b u e => ?_, fun b w u e => ?_, fun a e => ?_, fun i a u e => ?_, I.dj⟩
  · by_cases hb : b = dd
    · subst hb; rw [upd_same] at e ⊢; exact e
    · rw [upd_ne hb] at e ⊢; exact I.ex b u e
  · by_cases hb : b = dd
    · subst hb; rw [upd_same] at e; cases e
    · rw [upd_ne hb] at e; have := I.nl b w u e; cases this; exact absurd rfl hb
  · obtain ⟨h1, h2, n, c, ca, ns, h3, h4⟩ := I.pl a e
    exact ⟨by rw [upd_ne (ne a h1)]; exact h1, h2, n, c, ca, ns, by rw [upd_ne (ne a h1)]; exact h3, (sees_unlock hF).sqL h4⟩
  · obtain ⟨h1, h2⟩ := I.own i a u e
    rw [upd_ne (ne a h1), upd_ne (ne a h1)]
    exact ⟨h1, h2⟩
theorem x_unlock {q : Option Addr} {dd : Addr} {kvs : List (Key × V)} {od : Obj} {G : Hp → Prop} (I : Own K F' H' ⟨q, some dd⟩ os) (s : Same (upd F dd (.frz od (.dK kvs))) F') (hF : F dd = some (.dK kvs))
    (g : ∀ F2, Sees F' F2 → Same F F2 → Own K F2 (upd H' dd (.dK kvs)) ⟨q, none⟩ os → G (upd H' dd (.dK kvs))) : H' dd = some (.frz od (.dK kvs)) ∧ G (upd H' dd (.dK kvs)) := by
  have h1 : F' dd = some (.frz od (.dK kvs)) := s _ _ upd_same
  refine ⟨I.ex _ _ h1, g _ (sees_unlock h1) (fun b u e => ?_) (I.unlock h1)⟩
  by_cases hb : b = dd
  · subst hb; rw [hF] at e; rw [upd_same]; exact e
  · rw [upd_ne hb]; exact s b u (by rw [upd_ne hb]; exact e)
/-- the walk over a dict that is not locked yet -/
theorem x_lock {t : TS} {d : Dc κ β} {nx bk ct : St → Hp → Prop} {rt : VK} {q : Option Addr} (I : Own K F H ⟨q, none⟩ os) (r : Rp.rep K F x d)
    (h : ∀ dd kvs od, x = .ref dd → F dd = some (.dK kvs) → KReps K (upd F dd (.frz od (.dK kvs))) kvs d.l → Sees F (upd F dd (.frz od (.dK kvs))) → Own K (upd F dd (.frz od (.dK kvs))) (upd H dd (.frz od (.dK kvs))) ⟨q, some dd⟩ os →
      t ⟨fun σ' H' => H' dd = some (.frz od (.dK kvs)) ∧ nx σ' (upd H' dd (.dK kvs)), fun v H' => H' dd = some (.frz od (.dK kvs)) ∧ rt v (upd H' dd (.dK kvs)), fun σ' H' => H' dd = some (.frz od (.dK kvs)) ∧ bk σ' (upd H' dd (.dK kvs)), fun σ' H' => H' dd = some (.frz od (.dK kvs)) ∧ ct σ' (upd H' dd (.dK kvs))⟩ σ (upd H dd (.frz od (.dK kvs)))) : tLock t ⟨nx, rt, bk, ct⟩ σ H := by
  obtain ⟨dd, kvs, rfl, hd, rs⟩ := r
  have hF : F dd = some (.dK kvs) := by
    rcases hd with hd | ⟨o, hd⟩
    · exact hd
    · have := I.nl dd o kvs hd; cases this
  have se : ∀ od, Sees F (upd F dd (.frz od (.dK kvs))) := fun od => sees_lock hF (fun _ _ _ h => by cases h) (fun _ h => by cases h) (fun _ _ h => by cases h)
  exact ⟨dd, .dK kvs, I.ex _ _ hF, trivial, fun od => h dd kvs od rfl hF (rs.see (se od)) (se od) (I.lock hF)⟩
theorem x_lockE {t : TE} {d : Dc κ β} {q : Option Addr} (I : Own K F H ⟨q, none⟩ os) (r : Rp.rep K F x d)
    (h : ∀ dd kvs od, x = .ref dd → F dd = some (.dK kvs) → KReps K (upd F dd (.frz od (.dK kvs))) kvs d.l → Sees F (upd F dd (.frz od (.dK kvs))) → Own K (upd F dd (.frz od (.dK kvs))) (upd H dd (.frz od (.dK kvs))) ⟨q, some dd⟩ os →
      t σ (upd H dd (.frz od (.dK kvs))) fun v H' => H' dd = some (.frz od (.dK kvs)) ∧ Q v (upd H' dd (.dK kvs))) : tLockE t σ H Q := by
  obtain ⟨dd, kvs, rfl, hd, rs⟩ := r
  have hF : F dd = some (.dK kvs) := by
    rcases hd with hd | ⟨o, hd⟩
    · exact hd
    · have := I.nl dd o kvs hd; cases this
  have se : ∀ od, Sees F (upd F dd (.frz od (.dK kvs))) := fun od => sees_lock hF (fun _ _ _ h => by cases h) (fun _ h => by cases h) (fun _ _ h => by cases h)
  exact ⟨dd, .dK kvs, I.ex _ _ hF, trivial, fun od => h dd kvs od rfl hF (rs.see (se od)) (se od) (I.lock hF)⟩
theorem tw_keys {d : Dc κ β} {dd : Addr} {od : Obj} {kvs : List (Key × V)} (hd : F0 dd = some (.frz od (.dK kvs))) (rs : KReps K F0 kvs d.l) : TW K (Itk dd od kvs) (dkeys d) F0 yes := by
  have hl : (dkeys d).length = kvs.length := by unfold dkeys; rw [List.length_map, rs.len]
  refine ⟨fun i F H pp os s _ I h => ⟨(s.trans I.ex) _ _ hd, by omega⟩, fun i F H pp os s _ I h => ⟨(s.trans I.ex) _ _ hd, by omega⟩, fun i F H pp os x H' s _ I ⟨e, k, v, hk, hx⟩ h => ?_⟩
  subst e hx
  obtain ⟨a, b, h1, h2, _⟩ := rs.at_ hk
  refine ⟨a, F, ?_, Same.refl F, I, ?_⟩
  · unfold dkeys; rw [List.getElem?_map, h1]; rfl
  · rw [KyV.rep, h2]
theorem tw_items {d : Dc κ β} {dd : Addr} {od : Obj} {kvs : List (Key × V)} (hd : F0 dd = some (.frz od (.dK kvs))) (rs : KReps K F0 kvs d.l) : TW K (Iti dd od kvs) (ditems d) F0 yes := by
  have hl : (ditems d).length = kvs.length := by unfold ditems; rw [List.length_map, rs.len]
  refine ⟨fun i F H pp os s _ I h => ⟨(s.trans I.ex) _ _ hd, by omega⟩, fun i F H pp os s _ I h => ⟨(s.trans I.ex) _ _ hd, by omega⟩, fun i F H pp os x H' s _ I ⟨T, k, v, hk, hx, nT, e⟩ h => ?_⟩
  subst e hx
  obtain ⟨a, b, h1, h2, r⟩ := rs.at_ hk
  have s1 := same_new (o := HO.tup [kV k, v]) (I.free nT)
  refine ⟨⟨a, b⟩, _, ?_, s1, I.new nT (fun _ _ h => by cases h), T, _, _, rfl, sqT_of upd_same, ?_, Rp.mono (s.trans s1) r⟩
  · unfold ditems; rw [List.getElem?_map, h1]; rfl
  · rw [KyV.rep, h2]
theorem x_iKeys {d : Dc κ β} {dd : Addr} {od : Obj} {kvs : List (Key × V)} {P : Addr → Obj → List (Key × V) → Prop} {P' : Addr → Obj → List (List Key × V) → Prop} (I : Own K F H pp os) (ex : x = .ref dd) (hd : F dd = some (.frz od (.dK kvs))) (rs : KReps K F kvs d.l) (g : TW K (Itk dd od kvs) (dkeys d) F yes → P dd od kvs) :
    ∃ d o, x = .ref d ∧ ((∃ kvs, H d = some (.frz o (.dK kvs)) ∧ P d o kvs) ∨ ∃ kvs, H d = some (.frz o (.dT kvs)) ∧ P' d o kvs) := ⟨dd, od, ex, .inl ⟨kvs, I.ex _ _ hd, g (tw_keys hd rs)⟩⟩
theorem x_iItems {d : Dc κ β} {dd : Addr} {od : Obj} {kvs : List (Key × V)} {P : Addr → Obj → List (Key × V) → Prop} (I : Own K F H pp os) (ex : x = .ref dd) (hd : F dd = some (.frz od (.dK kvs))) (rs : KReps K F kvs d.l) (g : TW K (Iti dd od kvs) (ditems d) F yes → P dd od kvs) :
    ∃ d o kvs, x = .ref d ∧ H d = some (.frz o (.dK kvs)) ∧ P d o kvs := ⟨dd, od, kvs, ex, I.ex _ _ hd, g (tw_items hd rs)⟩
theorem x_dc {ι : Type} [Rp ι] {J : It} {l : List ι} {g : TG} {tt : TT} {tk tv : TE} {vs : List Nat} {D0 : Addr} {Qd : Hp → Prop} {f : ι → D (Option (T2 κ β))} {kk : Dc κ β → D ρ} (tw : TW K J l F0 B) (I : Own K F H pp os) (sF : Same F0 F) (hB : ∀ q, B (q :: os)) (nD : H D0 = none)
    (h : (D.bind (D.dc f l []) kk).run QQ EE)
    (hs : ∀ a x F1 H1 (acc : List (Key × V)) (Nx : Hp → Prop) (Q1 : Option (T2 κ β) → Prop), Same F F1 → Own K F1 H1 pp ((D0, .dK acc) :: os) → Rp.rep K F1 x a → (f a).run Q1 EE →
      (∀ F3 H3 z z2 b, Same F1 F3 → Own K F3 H3 pp ((D0, .dK acc) :: os) → Rp.rep K F3 z b.a → Rp.rep K F3 z2 b.b → Q1 (some b) → ∃ kvs k, z = kV k ∧ H3 D0 = some (.dK kvs) ∧ kvs.length < sizeLine ∧ Nx (upd H3 D0 (.dK (putK kvs k z2)))) →
      (∀ F3 H3, Same F1 F3 → Own K F3 H3 pp ((D0, .dK acc) :: os) → Q1 none → Nx H3) →
      g x (wipe σ vs) H1 fun σ2 H2 => wipe σ2 vs = wipe σ vs ∧ tt σ2 H2 fun b H3 => if b = true then tk σ2 H3 fun z H4 => tv σ2 H4 fun z2 H5 => ∃ kvs k, z = kV k ∧ H5 D0 = some (.dK kvs) ∧ kvs.length < sizeLine ∧ Nx (upd H5 D0 (.dK (putK kvs k z2))) else Nx H3)
    (hd : ∀ F' H' kvs (d : Dc κ β), Same F F' → Own K F' H' pp ((D0, .dK kvs) :: os) → KReps K F' kvs d.l → (kk d).run QQ EE → Qd H') :
    ∃ W : Nat → Nat → Hp → Prop, (∃ m, W 0 m (upd H D0 (.dK []))) ∧ ∀ i m H, W i m H →
      (J.stop i H ∧ Qd H) ∨ (J.go i H ∧ ∃ Nx : Hp → Prop, (∀ H', Nx H' → ∃ m', m' < m ∧ W (i + 1) m' H') ∧ ∀ x H', J.yld i H x H' → g x (wipe σ vs) H' fun σ2 H2 => wipe σ2 vs = wipe σ vs ∧ tt σ2 H2 fun b H3 =>
        if b = true then tk σ2 H3 fun z H4 => tv σ2 H4 fun z2 H5 => ∃ kvs k, z = kV k ∧ H5 D0 = some (.dK kvs) ∧ kvs.length < sizeLine ∧ Nx (upd H5 D0 (.dK (putK kvs k z2))) else Nx H3) := by
  refine ⟨fun i m H' => m = l.length - i ∧ i ≤ l.length ∧ ∃ F' kvs l', Same F F' ∧ Own K F' H' pp ((D0, .dK kvs) :: os) ∧ KReps K F' kvs l' ∧ (D.bind (D.dc f (l.drop i) l') kk).run QQ EE, ⟨l.length, by simp, Nat.zero_le _, F, [], [], Same.refl F, I.take nD, .nil, h⟩, ?_⟩
  rintro i m H' ⟨rfl, hi, F', kvs, l', s, I', rs, h⟩
  by_cases hlt : i < l.length
  · have ed : l.drop i = l[i] :: l.drop (i + 1) := List.drop_eq_getElem_cons hlt
    rw [ed] at h
    refine .inr ⟨tw.go i F' H' pp _ (sF.trans s) (hB _) I' hlt, fun H2 => i + 1 ≤ l.length ∧ ∃ F2 kvs l', Same F F2 ∧ Own K F2 H2 pp ((D0, .dK kvs) :: os) ∧ KReps K F2 kvs l' ∧ (D.bind (D.dc f (l.drop (i + 1)) l') kk).run QQ EE, fun H2 ⟨_, q⟩ => ⟨l.length - (i + 1), by omega, rfl, hlt, q⟩, fun x H2 hy => ?_⟩
    obtain ⟨a, F2, ha, s1, I2, ra⟩ := tw.yld i F' H' pp _ x H2 (sF.trans s) (hB _) I' hy hlt
    rw [List.getElem?_eq_getElem hlt] at ha
    cases ha
    refine hs _ x F2 H2 kvs _ _ (s.trans s1) I2 ra (D.bindE h) (fun F3 H3 z z2 b s3 I3 rz rz2 q => ?_) (fun F3 H3 s3 I3 q => ?_)
    · have q2 := q.1
      rw [KyV.rep] at rz
      exact ⟨kvs, _, rz, (I3.own 0 _ _ rfl).2, by rw [rs.len]; exact q2, hlt, F3, _, _, (s.trans s1).trans s3, I3.put 0 rfl, (rs.mono (s1.trans s3)).put rz2, q.2⟩
    · exact ⟨hlt, F3, _, _, (s.trans s1).trans s3, I3, rs.mono (s1.trans s3), q⟩
  · have e : i = l.length := by omega
    subst e
    rw [List.drop_length] at h
    exact .inl ⟨tw.stop _ F' H' pp _ (sF.trans s) (hB _) I' (Nat.le_refl _), hd F' H' kvs ⟨l'⟩ s I' rs h⟩
end
/-! ### lists and dicts copied; own iterables -/
/-- a key as an item of a list -/
class KyL (κ : Type) [Ky κ] [Rp κ] : Prop where
  keys : ∀ {β : Type} [Rp β] {K : PySem.W.Frag} {F : Hp} {kvs : List (Key × V)} {l : List (κ × β)}, KReps K F kvs l → Reps K F (kvs.map fun kv => kV kv.1) (l.map (·.1))
theorem keysR {κ β : Type} [Rp β] [Rp κ] [Ky κ] [KyV κ] {K : PySem.W.Frag} {F : Hp} {kvs : List (Key × V)} {l : List (κ × β)} (h : KReps K F kvs l) : Reps K F (kvs.map fun kv => kV kv.1) (l.map (·.1)) := by
  induction h with
  | nil => exact .nil
  | cons q _ ih => exact .cons (KyV.rep.mpr (congrArg kV q.1)) ih
section
variable {α β κ ρ : Type} [Rp α] [Rp β] [Rp κ] [Ky κ] [KyV κ] [DecidableEq κ] {K : PySem.W.Frag} {F F0 F' H H' : Hp} {pp : Md} {os : Os} {σ : St} {Q : VK} {QQ : ρ → Prop} {EE : Ex → Prop} {x y v : V} {B : Os → Prop} {C a dx : Addr} {fs : List (Str × V)} {Fd : Str}
theorem x_listF {l : List α} (I : Own K F H pp os) (r : Rp.rep K F x l) (g : ∀ p F' H', Same F F' → Own K F' H' pp os → Rp.rep K F' (.ref p) l → Q (.ref p) H') : rListQ K [x] H Q := by
  obtain ⟨p, xs, rfl, q, rs⟩ := r
  exact ⟨p, xs, rfl, .inl (I.sqL q), fun l nl => g l _ _ (same_new (I.free nl)) (I.new nl (fun _ _ h => by cases h)) ⟨l, xs, rfl, upd_same, rs.mono (same_new (I.free nl))⟩⟩
theorem x_listO {l : List α} (I : Own K F H pp os) (r : Rp.rep K F x l) (g : ∀ p xs H', Own K F H' pp ((p, .lst xs) :: os) → Reps K F xs l → Q (.ref p) H') : rListQ K [x] H Q := by
  obtain ⟨p, xs, rfl, q, rs⟩ := r
  exact ⟨p, xs, rfl, .inl (I.sqL q), fun l nl => g l xs _ (I.take nl) rs⟩
theorem x_dictF {d : Dc κ β} (I : Own K F H pp os) (r : Rp.rep K F x d) (g : ∀ p F' H', Same F F' → Own K F' H' pp os → Rp.rep K F' (.ref p) d → Q (.ref p) H') : rDictD [x] H Q := by
  obtain ⟨p, kvs, rfl, q, rs⟩ := r
  exact ⟨p, kvs, rfl, rd_same I.ex q, fun l nl => g l _ _ (same_new (I.free nl)) (I.new nl (fun _ _ h => by cases h)) ⟨l, kvs, rfl, .inl upd_same, rs.mono (same_new (I.free nl))⟩⟩
theorem x_dictO {d : Dc κ β} (I : Own K F H pp os) (r : Rp.rep K F x d) (g : ∀ p kvs H', Own K F H' pp ((p, .dK kvs) :: os) → KReps K F kvs d.l → Q (.ref p) H') : rDictD [x] H Q := by
  obtain ⟨p, kvs, rfl, q, rs⟩ := r
  exact ⟨p, kvs, rfl, rd_same I.ex q, fun l nl => g l kvs _ (I.take nl) rs⟩
theorem x_listDF {d : Dc κ β} (I : Own K F H pp os) (r : Rp.rep K F x d) (g : ∀ p F' H', Same F F' → Own K F' H' pp os → Rp.rep K F' (.ref p) (dkeys d) → Q (.ref p) H') : rListD [x] H Q := by
  obtain ⟨p, kvs, rfl, q, rs⟩ := r
  exact ⟨p, kvs, rfl, rd_same I.ex q, fun l nl => g l _ _ (same_new (I.free nl)) (I.new nl (fun _ _ h => by cases h)) ⟨l, _, rfl, upd_same, keysR (rs.mono (same_new (I.free nl)))⟩⟩
theorem x_listDO {d : Dc κ β} (I : Own K F H pp os) (r : Rp.rep K F x d) (g : ∀ p xs H', Own K F H' pp ((p, .lst xs) :: os) → Reps K F xs (dkeys d) → Q (.ref p) H') : rListD [x] H Q := by
  obtain ⟨p, kvs, rfl, q, rs⟩ := r
  exact ⟨p, kvs, rfl, rd_same I.ex q, fun l nl => g l _ _ (I.take nl) (keysR rs)⟩
theorem x_iOwn {l : List α} {P : Addr → Prop} (I : Own K F H pp os) (ex : x = .ref a) (q : F a = some (.ins C dx fs)) (lk : fs.lookup Fd = some v) (rv : Rp.rep K F v l) (g : ∀ p, TW K (Itl K p) l F yes → P p) :
    ∃ a dx fs l zs, x = .ref a ∧ H a = some (.ins C dx fs) ∧ fs.lookup Fd = some (.ref l) ∧ SqL K H l zs ∧ P l := by
  obtain ⟨p, xs, rfl, q2, rs⟩ := rv
  exact ⟨a, dx, fs, p, xs, ex, I.ex _ _ q, lk, I.sqL q2, g p (tw_list q2 rs)⟩
theorem x_inOS {l : List Str} {z : Str} {n : Bool} (I : Own K F H pp os) (ex : x = .ref a) (q : F a = some (.ins C dx fs)) (lk : fs.lookup Fd = some v) (rv : Rp.rep K F v l) (g : Q (.bl (if n then !decide (z ∈ l) else decide (z ∈ l))) H) : rInO K C Fd n (.str z) x H Q := by
  obtain ⟨p, xs, rfl, q2, rs⟩ := rv
  have e := rs.str
  subst e
  exact ⟨a, dx, fs, p, _, ex, I.ex _ _ q, lk, I.sqL q2, rfl, flat_strs l, by rw [inV_str]; exact g⟩
theorem x_isiC (I : Own K F H pp os) (ex : x = .ref a) (q : F a = some (.ins C dx fs)) (g : Q (.bl true) H) : rIsiC C [x, .ref C] H Q := ⟨a, dx, fs, by rw [ex], I.ex _ _ q, g⟩
theorem x_ixT {p : Addr} {xs : List V} {i : Int} (I : Own K F H pp os) (ex : x = .ref p) (q : SqT K F p xs) (hc : atI xs i = some v) (h : Q v H) : rIxT K x (.int i) H Q := by
  subst ex; exact v_ixT (I.sqT q) hc h
theorem x_ixR {p : Addr} {xs : List V} {i : Int} (I : Own K F H pp os) (ex : x = .ref p) (q : F p = some (.lst xs)) (hc : atI xs i = some v) (h : Q v H) : rIxL K x (.int i) H Q := by
  subst ex; exact v_ixL (I.sqL q) hc h
theorem x_gTup {n : Nat} {t : TGs} {p : Addr} {xs : List V} {Qs : St → Hp → Prop} (I : Own K F H pp os) (ex : x = .ref p) (q : SqT K F p xs) (hn : xs.length = n) (h : t xs σ H Qs) : gTup K n t x σ H Qs := ⟨p, xs, ex, I.sqT q, hn, h⟩
theorem c_dnew (h : ∀ p, H p = none → Q (.ref p) (upd H p (.dK []))) : tDNewK σ H Q := h
theorem c_disp {trs : List (TE × TE)} (h : ∀ p, H p = none → tPairs trs σ (upd H p (.dK [])) fun ps H2 => H2 p = some (.dK []) ∧ ∃ kvs : List (Key × V), ps = kvs.map (fun kv => (kV kv.1, kv.2)) ∧ kvs.length ≤ 15 ∧ Q (.ref p) (upd H2 p (.dK (mergeK [] kvs)))) : tDisp trs σ H Q := h
theorem c_pnil {Qp : List (V × V) → Hp → Prop} (h : Qp [] H) : tPairs [] σ H Qp := h
theorem c_pcons {tk tv : TE} {r : List (TE × TE)} {Qp : List (V × V) → Hp → Prop} (h : tk σ H fun x H1 => tv σ H1 fun y H2 => tPairs r σ H2 fun ps H3 => Qp ((x, y) :: ps) H3) : tPairs ((tk, tv) :: r) σ H Qp := h
/-- pairs as the model has them -/
def mkD {κ β : Type} [DecidableEq κ] (l : List (κ × β)) : Dc κ β := ⟨l.foldl (fun acc p => putD acc p.1 p.2) []⟩
theorem KReps.merge {kvs more : List (Key × V)} {l m : List (κ × β)} (h : KReps K F kvs l) (q : KReps K F more m) : KReps K F (mergeK kvs more) (m.foldl (fun acc p => putD acc p.1 p.2) l) := by
  induction q generalizing kvs l with
  | nil => exact h
  | @cons kv ab more m e _ ih =>
    show KReps K F (mergeK (putK kvs kv.1 kv.2) more) (List.foldl _ (putD l ab.1 ab.2) m)
    refine ih ?_
    rw [e.1]
    exact h.put e.2
theorem x_dispEnd {ps : List (V × V)} {kvs : List (Key × V)} {l : List (κ × β)} {p : Addr} (I : Own K F H pp ((p, .dK []) :: os)) (e : ps = kvs.map (fun kv => (kV kv.1, kv.2))) (hl : kvs.length ≤ 15) (rs : KReps K F kvs l)
    (g : ∀ F' H', Same F F' → Own K F' H' pp os → Rp.rep K F' (.ref p) (mkD l) → Q (.ref p) H') : H p = some (.dK []) ∧ ∃ kvs : List (Key × V), ps = kvs.map (fun kv => (kV kv.1, kv.2)) ∧ kvs.length ≤ 15 ∧ Q (.ref p) (upd H p (.dK (mergeK [] kvs))) := by
  have I2 := I.put (o' := .dK (mergeK [] kvs)) 0 rfl
  have s1 : Same F (upd F p (.dK (mergeK [] kvs))) := Own.frzS I2
  exact ⟨(I.own 0 _ _ rfl).2, kvs, e, hl, g _ _ s1 (Own.frz I2 (fun _ _ h => by cases h)) ⟨p, _, rfl, .inl upd_same, (KReps.merge .nil rs).mono s1⟩⟩
theorem c_dc {wi : TI} {g : TG} {tt : TT} {tk tv : TE} {vs : List Nat} (h : wi σ H fun J H1 => ∀ D, H1 D = none → ∃ W : Nat → Nat → Hp → Prop, (∃ m, W 0 m (upd H1 D (.dK []))) ∧ ∀ i m H, W i m H →
  (J.stop i H ∧ Q (.ref D) H) ∨ (J.go i H ∧ ∃ Nx : Hp → Prop, (∀ H', Nx H' → ∃ m', m' < m ∧ W (i + 1) m' H') ∧ ∀ x H', J.yld i H x H' → g x (wipe σ vs) H' fun σ2 H2 => wipe σ2 vs = wipe σ vs ∧ tt σ2 H2 fun b H3 =>
    if b = true then tk σ2 H3 fun y H4 => tv σ2 H4 fun z H5 => ∃ kvs k, y = kV k ∧ H5 D = some (.dK kvs) ∧ kvs.length < sizeLine ∧ Nx (upd H5 D (.dK (putK kvs k z))) else Nx H3)) : tDc wi g tt tk tv vs σ H Q := h
theorem c_iKeys {td : TE} {R : It → Hp → Prop} (h : td σ H fun x H1 => ∃ d o, x = .ref d ∧ ((∃ kvs, H1 d = some (.frz o (.dK kvs)) ∧ R (Itk d o kvs) H1) ∨ ∃ kvs, H1 d = some (.frz o (.dT kvs)) ∧ R (Itkt d o kvs) H1)) : iKeys td σ H R := h
theorem c_iItems {td : TE} {R : It → Hp → Prop} (h : td σ H fun x H1 => ∃ d o kvs, x = .ref d ∧ H1 d = some (.frz o (.dK kvs)) ∧ R (Iti d o kvs) H1) : iItems td σ H R := h
end
theorem lookup_none {m : Str} : ∀ {fs : List (Str × V)} {ns : List Str}, ns.contains m = false → fs.map (·.1) = ns → fs.lookup m = none
  | [], _, _, _ => rfl
  | (n, v) :: fs, _, h, rfl => by
    rw [List.map_cons, List.contains_cons, Bool.or_eq_false_iff] at h
    rw [List.lookup_cons, h.1]
    exact lookup_none h.2 rfl
/-! ### lists that a callee only reads -/
def RepB {α : Type} [Rp α] (K : PySem.W.Frag) (F : Hp) (os : Os) (x : V) (l : List α) : Prop := ∃ p xs, x = .ref p ∧ (F p = some (.lst xs) ∨ (p, HO.lst xs) ∈ os) ∧ Reps K F xs l
theorem RepB.of {α : Type} [Rp α] {K : PySem.W.Frag} {F : Hp} {os : Os} {x : V} {l : List α} (r : Rp.rep K F x l) : RepB K F os x l := let ⟨p, xs, e, q, rs⟩ := r; ⟨p, xs, e, .inl q, rs⟩
theorem RepB.push {α : Type} [Rp α] {K : PySem.W.Frag} {F : Hp} {os : Os} {q : Addr × HO} {x : V} {l : List α} (r : RepB K F os x l) : RepB K F (q :: os) x l := let ⟨p, xs, e, h, rs⟩ := r; ⟨p, xs, e, h.imp id (List.mem_cons_of_mem _), rs⟩
theorem RepB.own {α : Type} [Rp α] {K : PySem.W.Frag} {F : Hp} {os : Os} {p : Addr} {xs : List V} {l : List α} (i : Nat) (e : os[i]? = some (p, .lst xs)) (rs : Reps K F xs l) : RepB K F os (.ref p) l := ⟨p, xs, rfl, .inr (List.mem_of_getElem? e), rs⟩
theorem RepB.see {α : Type} [Rp α] {K : PySem.W.Frag} {F F' : Hp} {os : Os} {x : V} {l : List α} (e : Sees F F') (r : RepB K F os x l) : RepB K F' os x l := let ⟨p, xs, h, q, rs⟩ := r; ⟨p, xs, h, q.imp (fun h => e.ls _ _ h) id, rs.see e⟩
theorem RepB.mono {α : Type} [Rp α] {K : PySem.W.Frag} {F F' : Hp} {os : Os} {x : V} {l : List α} (e : Same F F') (r : RepB K F os x l) : RepB K F' os x l := RepB.see (Same.sees e) r
theorem rep_some {α : Type} [Rp α] {K : PySem.W.Frag} {F : Hp} {x : V} {a : α} (h : Rp.rep K F x a) (hn : x ≠ .non) : Rp.rep K F x (some a) := ⟨hn, h⟩
theorem rep_none {α : Type} [Rp α] {K : PySem.W.Frag} {F : Hp} : Rp.rep K F .non (none : Option α) := rfl
section
variable {α ρ : Type} [Rp α] {K : PySem.W.Frag} {F F0 H : Hp} {pp : Md} {os : Os} {σ : St} {Q : VK} {QQ : ρ → Prop} {EE : Ex → Prop} {x y : V} {a : Int} {l : List α}
theorem Own.mem {p : Addr} {o : HO} (I : Own K F H pp os) (h : (p, o) ∈ os) : H p = some o := let ⟨i, e⟩ := List.getElem?_of_mem h; (I.own i _ _ e).2
theorem Own.rb {p : Addr} {xs : List V} (I : Own K F H pp os) (h : F p = some (.lst xs) ∨ (p, HO.lst xs) ∈ os) : SqL K H p xs := h.elim (fun h => I.sqL h) fun h => sqL_of (I.mem h)
theorem b_ixL {k : α → D ρ} (I : Own K F H pp os) (r : RepB K F os x l) (h : (D.bind (ixL l a) k).run QQ EE) (g : ∀ u v, Rp.rep K F v u → (k u).run QQ EE → Q v H) : rIxL K x (.int a) H Q := by
  obtain ⟨p, xs, rfl, q, rs⟩ := r
  obtain ⟨u, hu, h⟩ := h
  obtain ⟨v, hv, rv⟩ := atI_get rs hu
  exact v_ixL (I.rb q) hv (g u v rv h)
theorem b_lenL (I : Own K F H pp os) (r : RepB K F os x l) (g : Q (.int (l.length : Int)) H) : rLenQ K [x] H Q := by
  obtain ⟨p, xs, rfl, q, rs⟩ := r
  exact v_lenL (I.rb q) (by rw [rs.len]; exact g)
theorem b_inS {l : List Str} {z : Str} (I : Own K F H pp os) (r : RepB K F os x l) (g : Q (.bl (decide (z ∈ l))) H) : rIn K false (.str z) x H Q := by
  obtain ⟨p, xs, rfl, q, rs⟩ := r
  rw [rs.str] at q
  exact v_inS (I.rb q) g
theorem b_ninS {l : List Str} {z : Str} (I : Own K F H pp os) (r : RepB K F os x l) (g : Q (.bl (!decide (z ∈ l))) H) : rIn K true (.str z) x H Q := by
  obtain ⟨p, xs, rfl, q, rs⟩ := r
  rw [rs.str] at q
  exact v_notInS (I.rb q) g
theorem b_listF (I : Own K F H pp os) {os' : Os} (I' : Own K F H pp os') (r : RepB K F os x l) (g : ∀ p F' H', Same F F' → Own K F' H' pp os' → Rp.rep K F' (.ref p) l → Q (.ref p) H') : rListQ K [x] H Q := by
  obtain ⟨p, xs, rfl, q, rs⟩ := r
  exact ⟨p, xs, rfl, .inl (I.rb q), fun l nl => g l _ _ (same_new (I.free nl)) (I'.new nl (fun _ _ h => by cases h)) ⟨l, xs, rfl, upd_same, rs.mono (same_new (I.free nl))⟩⟩
theorem b_listO (I : Own K F H pp os) {os' : Os} (I' : Own K F H pp os') (r : RepB K F os x l) (g : ∀ p xs H', Own K F H' pp ((p, .lst xs) :: os') → Reps K F xs l → Q (.ref p) H') : rListQ K [x] H Q := by
  obtain ⟨p, xs, rfl, q, rs⟩ := r
  exact ⟨p, xs, rfl, .inl (I.rb q), fun l nl => g l xs _ (I'.take nl) rs⟩
abbrev Sub (os os' : Os) : Prop := ∀ q ∈ os, q ∈ os'
theorem tw_b {p : Addr} {xs : List V} (q : F0 p = some (.lst xs) ∨ (p, HO.lst xs) ∈ os) (rs : Reps K F0 xs l) : TW K (Itl K p) l F0 (Sub os) := by
  have at_ : ∀ {F H pp os'}, Same F0 F → Sub os os' → Own K F H pp os' → SqL K H p xs := fun s b I => I.rb (q.imp (fun h => s _ _ h) (b _))
  refine ⟨fun i F H pp os s b I hi => ?_, fun i F H pp os s b I hi => ?_, fun i F H pp os x H' s b I ⟨e, hx⟩ hi => ?_⟩
  · rw [← rs.len] at hi
    exact ⟨xs, xs[i], at_ s b I, by simp [hi]⟩
  · exact ⟨xs, at_ s b I, by rw [rs.len]; exact hi⟩
  · subst e
    obtain ⟨a, ha, r⟩ := rs.get' (hx _ (at_ s b I))
    exact ⟨a, F, ha, Same.refl F, I, Rp.mono s r⟩
theorem tw_enumB {p : Addr} {xs : List V} (q : F0 p = some (.lst xs) ∨ (p, HO.lst xs) ∈ os) (rs : Reps K F0 xs l) : TW K (Ite K p) (enumL 0 l) F0 (Sub os) := by
  have at_ : ∀ {F H pp os'}, Same F0 F → Sub os os' → Own K F H pp os' → SqL K H p xs := fun s b I => I.rb (q.imp (fun h => s _ _ h) (b _))
  have w := wlk_enum (K := K) (a := p) (xs := xs)
  refine ⟨fun i F H pp os s b I hi => ?_, fun i F H pp os s b I hi => ?_, fun i F H pp os x H' s b I hy hi => ?_⟩
  · rw [enumL_len, ← rs.len] at hi
    exact w.go i H (at_ s b I) hi
  · rw [enumL_len, ← rs.len] at hi
    exact w.stop i H (at_ s b I) hi
  · obtain ⟨T, y, rfl, nT, rfl, hy2⟩ := w.yld i H x H' (at_ s b I) hy
    obtain ⟨a, ha, r⟩ := rs.get' hy2
    have s1 := same_new (o := HO.tup [.int (i : Nat), y]) (I.free nT)
    refine ⟨⟨0 + (i : Int), a⟩, _, by rw [enumL_get, ha]; rfl, s1, I.new nT (fun _ _ h => by cases h), T, _, _, rfl, sqT_of upd_same, ?_, Rp.mono (s.trans s1) r⟩
    show V.int _ = V.int _
    simp
theorem b_iList {P : Addr → Prop} (I : Own K F H pp os) (r : RepB K F os x l) (g : ∀ p, TW K (Itl K p) l F (Sub os) → P p) : ∃ a, x = .ref a ∧ (∃ xs, SqL K H a xs) ∧ P a := by
  obtain ⟨p, xs, rfl, q, rs⟩ := r
  exact ⟨p, rfl, ⟨xs, I.rb q⟩, g _ (tw_b q rs)⟩
theorem b_iEnum {P : Addr → Prop} (I : Own K F H pp os) (r : RepB K F os x l) (g : ∀ p, TW K (Ite K p) (enumL 0 l) F (Sub os) → P p) : ∃ a xs, [x] = [.ref a] ∧ SqL K H a xs ∧ P a := by
  obtain ⟨p, xs, rfl, q, rs⟩ := r
  exact ⟨p, xs, rfl, I.rb q, g _ (tw_enumB q rs)⟩
end
/-! ### None or a number -/
section
variable {K : PySem.W.Frag} {F H : Hp} {Q : VK} {x y : V}
theorem optI {a : Option Int} (r : Rp.rep K F x a) : (a = none ∧ x = .non) ∨ ∃ i : Int, a = some i ∧ x = .int i := by
  cases a with
  | none => exact .inl ⟨rfl, r⟩
  | some i => exact .inr ⟨i, rfl, r.2⟩
theorem x_eqOI {a b : Option Int} (ra : Rp.rep K F x a) (rb : Rp.rep K F y b) (g : Q (.bl (decide (a = b))) H) : rEq x y H Q := by
  rcases optI ra with ⟨rfl, rfl⟩ | ⟨i, rfl, rfl⟩ <;> rcases optI rb with ⟨rfl, rfl⟩ | ⟨j, rfl, rfl⟩
  · exact ⟨rfl, by simpa using g⟩
  · exact ⟨rfl, by simpa using g⟩
  · exact ⟨rfl, by simpa using g⟩
  · exact ⟨rfl, by simpa using g⟩
theorem x_isiInt_int {a : Option Int} (r : Rp.rep K F x a) (g : Q (.bl a.isSome) H) : rIsi K [x, .ty "int"] H Q := by
  rcases optI r with ⟨rfl, rfl⟩ | ⟨i, rfl, rfl⟩
  · exact ⟨_, _, _, _, false, rfl, .ty _, .base .non, kit_ty (by decide +kernel), g⟩
  · exact ⟨_, _, _, _, true, rfl, .ty _, .base (.int _), kit_ty (by decide +kernel), g⟩
theorem x_isiInt_bool {a : Option Int} (r : Rp.rep K F x a) (g : Q (.bl false) H) : rIsi K [x, .ty "bool"] H Q := by
  rcases optI r with ⟨rfl, rfl⟩ | ⟨i, rfl, rfl⟩
  · exact ⟨_, _, _, _, false, rfl, .ty _, .base .non, kit_ty (by decide +kernel), g⟩
  · exact ⟨_, _, _, _, false, rfl, .ty _, .base (.int _), kit_ty (by decide +kernel), g⟩
theorem isN_of {α : Type} [Rp α] {a : Option α} (r : Rp.rep K F x a) : decide (x = .non) = a.isNone := by
  cases a with
  | none => rw [show x = .non from r]; rfl
  | some i => simp [show x ≠ .non from r.1]
theorem x_isN {α : Type} [Rp α] {a : Option α} (r : Rp.rep K F x a) (g : Q (.bl a.isNone) H) : rIsN x .non H Q := ⟨rfl, by rw [isN_of r]; exact g⟩
theorem x_notN {α : Type} [Rp α] {a : Option α} (r : Rp.rep K F x a) (g : Q (.bl (!a.isNone)) H) : rNotN x .non H Q := ⟨rfl, by rw [isN_of r]; exact g⟩
end
end Rm

local macro_rules | `(tactic| walk_at "s") => `(tactic| first
  | with_reducible refine Rm.c_seq ?_
  | with_reducible refine Rm.c_asg ?_
  | ((with_reducible show L2.tVar _ _ _ _); refine Rm.c_var (by exact rfl) ?_)
  | with_reducible refine Rm.c_c ?_
  | with_reducible refine Rm.c_op ?_
  | with_reducible refine Rm.c_cons ?_
  | with_reducible refine Rm.c_nil ?_
  | ((with_reducible show L2.gName _ _ _ _ _); refine Rm.c_name (by (simp only [List.set_cons_zero, List.set_cons_succ]; exact rfl)) ?_)
  | with_reducible refine Rm.c_call ?_
  | with_reducible refine Rm.c_cb ?_
  | with_reducible refine Rm.c_test ?_
  | with_reducible refine Rm.c_tB ?_
  | with_reducible refine Rm.c_bl ?_
  | with_reducible refine L2.iteT ?_
  | with_reducible refine L2.iteF ?_
  | with_reducible refine Rm.ifNF ?_
  | with_reducible refine Rm.ifNT ?_
  | with_reducible refine Rm.c_and ?_
  | with_reducible refine Rm.c_or ?_
  | with_reducible refine Rm.c_not ?_
  | with_reducible refine Rm.c_andV ?_
  | with_reducible refine Rm.c_orV ?_
  | with_reducible refine Rm.c_notV ?_
  | with_reducible refine Rm.c_ret ?_
  | with_reducible refine Rm.c_retN ?_
  | with_reducible refine Rm.c_drop ?_
  | with_reducible refine Rm.c_next ?_
  | with_reducible refine Rm.c_break ?_
  | with_reducible refine Rm.c_cont ?_
  | with_reducible refine Rm.c_un ?_
  | with_reducible refine Rm.c_if ?_
  | with_reducible refine Rm.c_tup ?_
  | with_reducible refine Rm.c_lst ?_
  | with_reducible refine Rm.c_chain ?_
  | with_reducible refine Rm.c_for ?_
  | with_reducible refine Rm.c_rng1 ?_
  | with_reducible refine Rm.c_rng2 ?_
  | with_reducible refine Rm.c_iList ?_
  | with_reducible refine Rm.c_iTup ?_
  | with_reducible refine Rm.c_iStr ?_
  | with_reducible refine Rm.c_iEnum ?_
  | with_reducible refine Rm.c_lc ?_
  | with_reducible refine Rm.c_tYes ?_
  | with_reducible refine Rm.c_bm ?_
  | with_reducible refine Rm.c_bm0 ?_
  | with_reducible refine Rm.v_find ?_
  | with_reducible refine Rm.j_str ?_
  | with_reducible refine Rm.c_sl ?_
  | with_reducible refine Rm.c_noPart ?_
  | with_reducible refine Rm.c_part ?_
  | with_reducible refine Rm.j_int ?_
  | with_reducible refine Rm.v_addI ?_
  | with_reducible refine Rm.v_subI ?_
  | with_reducible refine Rm.v_ltI ?_
  | with_reducible refine Rm.v_leI ?_
  | with_reducible refine Rm.v_gtI ?_
  | with_reducible refine Rm.v_geI ?_
  | with_reducible refine Rm.v_eqI ?_
  | with_reducible refine Rm.v_neI ?_
  | with_reducible refine Rm.v_eqS ?_
  | with_reducible refine Rm.v_neS ?_
  | with_reducible refine Rm.v_eqB ?_
  | with_reducible refine Rm.v_negI ?_
  | with_reducible refine Rm.v_isN ?_
  | with_reducible refine Rm.v_notN ?_
  | with_reducible refine Rm.v_inC ?_
  | with_reducible refine Rm.v_notInC ?_
  | with_reducible refine Rm.v_intI ?_
  | with_reducible refine Rm.v_absI ?_
  | with_reducible refine Rm.v_max2 ?_
  | with_reducible refine Rm.v_min2 ?_
  | with_reducible refine Rm.c_gsub ?_
  | ((with_reducible show L2.rSetL (L2.V.ref _) (L2.V.int _) _ _ _); refine Rm.v_setL (by assumption) (by exact rfl) ?_)
  | ((with_reducible refine Rm.v_mulI ?c ?_); (case c => first | (exact Or.inr ⟨by decide, by decide⟩) | (exact Or.inl ⟨by decide, by decide⟩) | (right; omega) | (left; omega)))
  | ((with_reducible refine Rm.v_modI ?c ?_); (case c => first | decide | omega | assumption))
  | ((with_reducible refine Rm.v_divI ?c ?_); (case c => first | decide | omega | assumption))
  | ((with_reducible refine Rm.v_addS ?c ?_); (case c => walk_at "len"))
  | ((with_reducible refine Rm.v_lenS ?c ?_); (case c => walk_at "len"))
  | ((with_reducible show L2.rIxL _ (L2.V.ref _) (L2.V.int _) _ _); refine Rm.v_ixL (by walk_at "sq") (by exact rfl) ?_)
  | ((with_reducible show Rm.rLenQ _ [L2.V.ref _] _ _); refine Rm.v_lenL (by walk_at "sq") ?_)
  | ((with_reducible refine Rm.v_strI ?c ?_); (case c => first | decide | assumption)))
local macro_rules | `(tactic| walk_at "ss") => `(tactic| repeat walk_at "s")
local macro_rules | `(tactic| walk_at "len") => `(tactic| first | assumption | decide +kernel | (simp only [Rm.len_app, Rm.len_sgl, Rm.len_of] at *; omega) | omega)
local macro_rules | `(tactic| walk_at "sq") => `(tactic| first | assumption | exact Rm.sqL_of (by assumption) | exact Rm.seq_same (by assumption) (by assumption))
local macro_rules | `(tactic| walk_at "si") => `(tactic| ((with_reducible refine Rm.c_ifS ?_); walk_at "ss"))


namespace Rm
open PySem PySem.Spec L2
def sp_l_draw (K : PySem.W.Frag) : Sp := fun vs H Q _ => ∃ F pp n, vs = [.ref pp, .int n] ∧ 0 < n ∧ n < 4611686018427387904 ∧ Pl K F H pp ∧
  ∀ r H', 0 ≤ r → r < n → Pl K F H' pp → Gw pp H H' → Q (.int r) H'
theorem len_l_draw {K : PySem.W.Frag} : ∀ vs H Q E, sp_l_draw K vs H Q E → vs.length = 2 := by
  rintro vs H Q E ⟨F, pp, n, rfl, _⟩; rfl
abbrev N_l_draw : List Str := [(Str.ofString "_law_pool_here"), (Str.ofString "_law_many"), (Str.ofString "_law_found"), (Str.ofString "_law_cells"), (Str.ofString "_law_near"), (Str.ofString "_law_head"), (Str.ofString "_law_mixed")]
theorem st_l_draw (v0 v1 : V) : start N_l_draw [v0, v1] = [some v0, some v1, none, none, none, none, none] := rfl
def t_l_draw (K : PySem.W.Frag) (E : XK) : TS := (tSeq (tIfS (tTest (tOp rGtI (tOp (rIxL K) (tVar 0) (tC (.int 0))) (tC (.int 1)))) (tSeq (tAsg (tOp rModI (tCB rIntI (tCons (tOp (rIxL K) (tVar 0) (tC (.int 0))) tNil)) (tVar 1)) (gName 2))
  (tSeq (tAsg (tOp rDivI (tOp (rIxL K) (tVar 0) (tC (.int 0))) (tVar 1)) (gSub (tVar 0) (tC (.int 0)) rSetL))
  (tRet (tVar 2)))) tNext)
  (tSeq (tAsg (tOp rAddI (tOp (rIxL K) (tVar 0) (tC (.int 1))) (tC (.int 1))) (gSub (tVar 0) (tC (.int 1)) rSetL))
  (tSeq (tAsg (tOp (rIxL K) (tVar 0) (tC (.int 2))) (gName 3))
  (tSeq (tAsg (tC (.int 0)) (gName 4))
  (tSeq (tAsg (tC (.int 0)) (gName 5))
  (tSeq (tIfS (tTest (tOp rGtI (tCB (rLenQ K) (tCons (tVar 3) tNil)) (tC (.int 0)))) (tSeq (tAsg (tOp (rIxL K) (tVar 3) (tOp rModI (tCB rIntI (tCons (tOp (rIxL K) (tVar 0) (tC (.int 1))) tNil)) (tCB (rLenQ K) (tCons (tVar 3) tNil)))) (gName 4))
  (tAsg (tOp (rIxL K) (tVar 3) (tC (.int 0))) (gName 5))) tNext)
  (tSeq (tAsg (tOp rModI (tCB rIntI (tCons (tOp rAddI (tOp rAddI (tOp rAddI (tOp rMulI (tVar 4) (tC (.int 48271))) (tOp rMulI (tVar 5) (tC (.int 16807)))) (tOp rMulI (tOp (rIxL K) (tVar 0) (tC (.int 1))) (tC (.int 69621)))) (tC (.int 7))) tNil)) (tC (.int 2147483647))) (gName 6))
  (tSeq (tAsg (tOp rModI (tCB rIntI (tCons (tOp rAddI (tOp rAddI (tOp rMulI (tVar 6) (tVar 6)) (tOp rMulI (tVar 6) (tC (.int 40692)))) (tOp rMulI (tOp (rIxL K) (tVar 0) (tC (.int 1))) (tC (.int 7919)))) tNil)) (tC (.int 1000000007))) (gName 6))
  (tRet (tOp rModI (tCB rIntI (tCons (tOp rDivI (tVar 6) (tC (.int 11))) tNil)) (tVar 1)))))))))))
theorem rd_l_draw {K : PySem.W.Frag} {vs : List V} {H : Hp} {Q : VK} {E : XK} (h : sp_l_draw K vs H Q E) : t_l_draw K E { nx := fun _ H' => Q .non H', rt := Q } (start N_l_draw vs) H := by
  obtain ⟨F, pp, n, rfl, h0, hn, P, k⟩ := h
  obtain ⟨ex, fr, m, c, ca, ns, hp, hc⟩ := id P
  unfold t_l_draw
  rw [st_l_draw]
  walk_at "ss"
  walk_at "si"
  refine ifd (fun h1 => ?_) (fun h1 => ?_)
  · walk_at "ss"
    have hr := Int.emod_nonneg m (show n ≠ 0 by omega)
    have hr2 := Int.emod_lt_of_pos m h0
    exact k _ _ hr hr2 (P.put hc) gw_put
  · walk_at "ss"
    have P1 : Pl K F (upd H pp (HO.lst [V.int m, V.int (c + 1), V.ref ca])) pp := P.put hc
    have hp1 : upd H pp (HO.lst [V.int m, V.int (c + 1), V.ref ca]) pp = some (HO.lst [V.int m, V.int (c + 1), V.ref ca]) := upd_same
    have g1 : Gw pp H (upd H pp (HO.lst [V.int m, V.int (c + 1), V.ref ca])) := gw_put
    have eX : (upd H pp (HO.lst ([V.int m, V.int c, V.ref ca].set (Int.toNat 1) (V.int (c + 1))))) = upd H pp (HO.lst [V.int m, V.int (c + 1), V.ref ca]) := rfl
    rw [eX]
    generalize upd H pp (HO.lst [V.int m, V.int (c + 1), V.ref ca]) = H1 at P1 hp1 g1
    have ex1 := P1.ex
    walk_at "ss"
    refine c_join (fun σ' H' => ∃ a b : Int, σ' = [some (.ref pp), some (.int n), none, some (.ref ca), some (.int a), some (.int b), none] ∧ H' = H1) (fun nx' hn => ?_) ?_
    · walk_at "si"
      refine ifd (fun h2 => ?_) (fun h2 => ?_)
      · walk_at "ss"
        have l0 : 0 < ns.length := by rw [List.length_map] at h2; omega
        have b1 := Int.emod_nonneg (c + 1) (show ((ns.length : Nat) : Int) ≠ 0 by omega)
        have b2 := Int.emod_lt_of_pos (c + 1) (show 0 < ((ns.length : Nat) : Int) by omega)
        rw [List.length_map]
        refine v_ixL (seq_same ex1 hc) (ixI_map (n := ((c + 1) % ((ns.length : Nat) : Int)).toNat) (by omega) (by omega)) ?_
        walk_at "ss"
        refine v_ixL (seq_same ex1 hc) (ixI_map (n := 0) (by omega) (by omega)) ?_
        walk_at "ss"
        exact hn _ _ ⟨_, _, rfl, rfl⟩
      · walk_at "ss"
        exact hn _ _ ⟨_, _, rfl, rfl⟩
    · rintro σ' H' ⟨a, b, rfl, rfl⟩
      walk_at "ss"
      refine k _ _ ?_ ?_ P1 g1
      · exact Int.emod_nonneg _ (by omega)
      · exact Int.emod_lt_of_pos _ h0

theorem cl_draw {K : PySem.W.Frag} {F H : Hp} {pp : Addr} {n : Int} {Q : VK} {E : XK} (P : Pl K F H pp) (h0 : 0 < n) (hn : n < 4611686018427387904)
    (k : ∀ r H', 0 ≤ r → r < n → Pl K F H' pp → Gw pp H H' → Q (.int r) H') : sp_l_draw K ([.ref pp, .int n] ++ []) H Q E := ⟨F, pp, n, rfl, h0, hn, P, k⟩
/-! ### the pool is made -/
def sp_l_pool (K : PySem.W.Frag) : Sp := fun vs H Q _ => ∃ (a : Addr) (ns : List Int), vs = [.ref a] ∧ SqL K H a (ns.map V.int) ∧ ns.length ≤ 63 ∧ ∀ F pp H', Same H F → (∀ (a : Addr) (w : Obj) (u : List (Key × V)), F a = some (.frz w (.dK u)) → H a = some (.frz w (.dK u))) → Pl K F H' pp → Q (.ref pp) H'
theorem len_l_pool {K : PySem.W.Frag} : ∀ vs H Q E, sp_l_pool K vs H Q E → vs.length = 1 := by
  rintro vs H Q E ⟨z, ns, rfl, _⟩; rfl
theorem cl_pool {K : PySem.W.Frag} {H : Hp} {a : Addr} {ns : List Int} {Q : VK} {E : XK} (h : SqL K H a (ns.map V.int)) (hl : ns.length ≤ 63) (k : ∀ F pp H', Same H F → (∀ (a : Addr) (w : Obj) (u : List (Key × V)), F a = some (.frz w (.dK u)) → H a = some (.frz w (.dK u))) → Pl K F H' pp → Q (.ref pp) H') : sp_l_pool K ([.ref a] ++ []) H Q E := ⟨a, ns, rfl, h, hl, k⟩
abbrev N_l_pool : List Str := [(Str.ofString "_law_script"), (Str.ofString "_law_cells"), (Str.ofString "_law_cell"), (Str.ofString "_law_number")]
theorem st_l_pool (v0 : V) : start N_l_pool [v0] = [some v0, none, none, none] := rfl
def t_l_pool (K : PySem.W.Frag) (E : XK) : TS := (tSeq (tAsg (tLc (iList K (tVar 0)) (gName 2) tYes (tCB rIntI (tCons (tVar 2) tNil)) [2]) (gName 1))
  (tSeq (tAsg (tC (.int 0)) (gName 3))
  (tSeq (tIfS (tAnd (tTest (tOp rGtI (tCB (rLenQ K) (tCons (tVar 1) tNil)) (tC (.int 0)))) (tTest (tOp rGeI (tOp (rIxL K) (tVar 1) (tC (.int 0))) (tOp rPowI (tC (.int 10)) (tC (.int 18)))))) (tAsg (tOp (rIxL K) (tVar 1) (tC (.int 0))) (gName 3)) tNext)
  (tRet (tLst (tCons (tVar 3) (tCons (tC (.int 0)) (tCons (tVar 1) tNil))))))))
theorem rd_l_pool {K : PySem.W.Frag} {vs : List V} {H : Hp} {Q : VK} {E : XK} (h : sp_l_pool K vs H Q E) : t_l_pool K E { nx := fun _ H' => Q .non H', rt := Q } (start N_l_pool vs) H := by
  obtain ⟨a, ns, rfl, hs, hl, k⟩ := h
  unfold t_l_pool
  rw [st_l_pool]
  walk_at "ss"
  refine j_list hs fun D nD => ?_
  refine lc_w wlk_list (fun i H' => Same H H' ∧ H' D = some (.lst ((ns.take i).map V.int))) ⟨same_new nD, upd_same⟩ (fun i H' h => h.1.seq hs) ?_ ?_
  · rintro i x H1 H2 hi ⟨e, hD⟩ ⟨rfl, hx⟩
    rw [List.getElem?_map] at hx
    obtain ⟨m, hm, rfl⟩ := Option.map_eq_some_iff.mp hx
    rw [List.length_map] at hi
    have hm' := (List.getElem?_eq_some_iff.mp hm).2
    show gName 2 _ [some (V.ref a), none, none, none] _ _
    walk_at "ss"
    refine ⟨rfl, ?_⟩
    walk_at "ss"
    refine ⟨_, hD, by rw [List.length_map, List.length_take, sizeLine_eq]; omega, fun b o hb => ?_, ?_⟩
    · rw [upd_ne (ne_of_none hb nD)]; exact e b o hb
    · rw [upd_same, List.take_succ, hm, List.map_append]; rfl
  · rintro H1 ⟨e, hD⟩
    rw [List.length_map, List.take_length] at hD
    walk_at "ss"
    refine c_join (fun σ' H' => H' = H1 ∧ ∃ m : Int, σ' = [some (.ref a), some (.ref D), none, some (.int m)]) (fun nx' hn => ?_) ?_
    · walk_at "si"
      refine ifd (fun h1 => ?_) (fun h1 => ?_)
      · walk_at "ss"
        rw [List.length_map] at h1
        refine v_ixL (sqL_of hD) (ixI_map (n := 0) rfl (by omega)) ?_
        walk_at "ss"
        refine v_powI ⟨by decide, by decide, by decide⟩ ?_
        walk_at "ss"
        refine ifb (fun _ => ?_) (fun _ => ?_)
        · walk_at "ss"
          refine v_ixL (sqL_of hD) (ixI_map (n := 0) rfl (by omega)) ?_
          walk_at "ss"
          exact hn _ _ ⟨rfl, _, rfl⟩
        · walk_at "ss"
          exact hn _ _ ⟨rfl, _, rfl⟩
      · walk_at "ss"
        exact hn _ _ ⟨rfl, _, rfl⟩
    · rintro σ' H2 ⟨rfl, m, rfl⟩
      walk_at "ss"
      refine ⟨by show 3 ≤ sizeLine; decide, fun p np => ?_⟩
      refine k (upd H D (.lst (ns.map V.int))) p _ (same_new nD) (fun a w u e => by
        by_cases ha : a = D
        · subst ha; rw [upd_same] at e; cases e
        · rw [upd_ne ha] at e; exact e) ⟨fun b o hb => ?_, ?_, m, 0, D, ns, upd_same, sqL_of upd_same⟩
      · have hbp : b ≠ p := by
          rintro rfl
          by_cases hbD : b = D
          · rw [hbD, hD] at np; cases np
          · rw [upd_ne hbD] at hb; rw [e b o hb] at np; cases np
        rw [upd_ne hbp]
        by_cases hbD : b = D
        · subst hbD; rw [upd_same] at hb; cases hb; exact hD
        · rw [upd_ne hbD] at hb; exact e b o hb
      · have hpD : p ≠ D := by rintro rfl; rw [hD] at np; cases np
        rw [upd_ne hpD]
        exact e.free np
theorem cx_draw {ρ : Type} {K : PySem.W.Frag} {F H : Hp} {pp : Addr} {lk : Option Addr} {os : Os} {n : Int} {Q : VK} {E : XK} {k : Int → D ρ} {QQ : ρ → Prop} {EE : Ex → Prop} (I : Own K F H ⟨some pp, lk⟩ os) (h : (D.bind (draw n) k).run QQ EE)
    (g : ∀ r F' H', Same F F' → Own K F' H' ⟨some pp, lk⟩ os → (k r).run QQ EE → Q (.int r) H') : sp_l_draw K ([.ref pp, .int n] ++ []) H Q E := by
  obtain ⟨p1, p2, m, c, ca, ns, p3, p4⟩ := I.pl pp rfl
  refine cl_draw (F := F) ⟨I.ex, p1, m, c, ca, ns, p3, p4⟩ h.1.1 h.1.2 fun r H' r0 r1 P' g' => ?_
  refine g r F H' (Same.refl F) ⟨P'.ex, I.nl, fun a e => ?_, fun i a o e => ?_, I.dj⟩ (h.2 r ⟨r0, r1⟩)
  · cases e
    exact ⟨P'.fr, p2, P'.po⟩
  · exact ⟨(I.own i a o e).1, g' a o (p2 i a o e) (I.own i a o e).2⟩
theorem cx_pool {K : PySem.W.Frag} {F H : Hp} {x : V} {ns : List Int} {Q : VK} {E : XK} (I : Own K F H ⟨none, none⟩ []) (r : ∃ p, x = .ref p ∧ SqL K F p (ns.map V.int)) (hz : ∀ (a : Addr) (w : Obj) (u : List (Key × V)), H a ≠ some (.frz w (.dK u))) (hl : ns.length ≤ 63) (g : ∀ pp F' H', Same F F' → Own K F' H' ⟨some pp, none⟩ [] → Q (.ref pp) H') : sp_l_pool K ([x] ++ []) H Q E := by
  obtain ⟨p, rfl, q⟩ := r
  refine cl_pool (I.ex.seq q) hl fun F' pp H' s hf P => ?_
  exact g pp F' H' (I.ex.trans s) ⟨P.ex, fun a w u e => absurd (hf a w u e) (hz a w u), fun a e => by cases e; exact ⟨P.fr, fun i b o h => by simp at h, P.po⟩, fun i a o h => by simp at h, fun i j a o o' h => by simp at h⟩
end Rm

/-! PE: data trees, == of lists, slices, sums of lists -/
namespace Rm
open PySem PySem.Spec L2
theorem Own.grow {K : PySem.W.Frag} {F H H' : Hp} {pp : Md} {os : Os} (I : Own K F H pp os) (s : Same H H') : Own K F H' pp os :=
  ⟨I.ex.trans s, I.nl, fun a h => let ⟨h1, h2, n, c, ca, ns, h3, h4⟩ := I.pl a h; ⟨h1, h2, n, c, ca, ns, s _ _ h3, h4⟩, fun i a o e => ⟨(I.own i a o e).1, s _ _ (I.own i a o e).2⟩, I.dj⟩
theorem Own.pull {K : PySem.W.Frag} {F H : Hp} {pp : Md} {os : Os} {q : Addr × HO} (I : Own K F H pp os) (i : Nat) (e : os[i]? = some q) : Own K F H pp (q :: os.eraseIdx i) := by
  have key : ∀ (j : Nat) (x : Addr × HO), (q :: os.eraseIdx i)[j]? = some x → ∃ k, os[k]? = some x ∧ ((j = 0 ∧ k = i) ∨ (1 ≤ j ∧ j ≤ i ∧ k + 1 = j) ∨ (i < j ∧ k = j)) := fun j x h => by
    cases j with
    | zero => exact ⟨i, by rw [e]; exact h, .inl ⟨rfl, rfl⟩⟩
    | succ j =>
      have h : (os.eraseIdx i)[j]? = some x := h
      rw [List.getElem?_eraseIdx] at h
      by_cases hj : j < i
      · rw [if_pos hj] at h; exact ⟨j, h, .inr (.inl ⟨by omega, by omega, rfl⟩)⟩
      · rw [if_neg hj] at h; exact ⟨j + 1, h, .inr (.inr ⟨by omega, rfl⟩)⟩
  refine ⟨I.ex, I.nl, fun a h => ⟨(I.pl a h).1, fun i b o e => ?_, (I.pl a h).2.2⟩, fun i a o h => ?_, fun i j a o o' h h' => ?_⟩
  · obtain ⟨j, e', _⟩ := key i _ e; exact (I.pl a h).2.1 j b o e'
  · obtain ⟨j, e', _⟩ := key i _ h; exact I.own j a o e'
  · obtain ⟨k, e, c⟩ := key i _ h
    obtain ⟨l, e', c'⟩ := key j _ h'
    have := I.dj k l a o o' e e'
    omega
/-- what x stands for as a whole, owned things included -/
def Rpv {α : Type} [Rp α] (K : PySem.W.Frag) (H : Hp) (lk : Option Addr) (x : V) (a : α) : Prop := ∃ G, Same G H ∧ (∀ (b : Addr) (w : Obj) (u : List (Key × V)), G b = some (.frz w (.dK u)) → lk = some b) ∧ Rp.rep K G x a
section
variable {α β κ : Type} [Rp α] [Rp β] [Ky κ] {K : PySem.W.Frag} {F H : Hp} {pp : Md} {os : Os} {x : V} {p : Addr} {xs : List V} {l : List α} {a : α}
theorem Rpv.f (I : Own K F H pp os) (r : Rp.rep K F x a) : Rpv K H pp.lk x a := ⟨F, I.ex, fun b w u h => I.nl b w u h, r⟩
theorem Rpv.up {o : HO} (I : Own K F H pp os) (i : Nat) (e : os[i]? = some (p, o)) (ho : ∀ w u, o ≠ .frz w u) : Same (upd F p o) H ∧ ∀ (b : Addr) (w : Obj) (u : List (Key × V)), upd F p o b = some (.frz w (.dK u)) → pp.lk = some b := by
  obtain ⟨hF, hH⟩ := I.own i p o e
  refine ⟨fun b u q => ?_, fun b w u q => ?_⟩
  · by_cases hb : b = p
    · subst hb; rw [upd_same] at q; cases q; exact hH
    · rw [upd_ne hb] at q; exact I.ex b u q
  · by_cases hb : b = p
    · subst hb; rw [upd_same] at q; cases q; exact absurd rfl (ho _ _)
    · rw [upd_ne hb] at q; exact I.nl b w u q
theorem Rpv.o (I : Own K F H pp os) (i : Nat) (e : os[i]? = some (p, .lst xs)) (rs : Reps K F xs l) : Rpv K H pp.lk (.ref p) l :=
  let ⟨h1, h2⟩ := Rpv.up I i e (fun _ _ h => by cases h)
  ⟨_, h1, h2, p, xs, rfl, upd_same, rs.mono (same_new (I.own i _ _ e).1)⟩
theorem Rpv.d {kvs : List (Key × V)} {d : Dc κ β} (I : Own K F H pp os) (i : Nat) (e : os[i]? = some (p, .dK kvs)) (rs : KReps K F kvs d.l) : Rpv K H pp.lk (.ref p) d :=
  let ⟨h1, h2⟩ := Rpv.up I i e (fun _ _ h => by cases h)
  ⟨_, h1, h2, p, kvs, rfl, .inl upd_same, rs.mono (same_new (I.own i _ _ e).1)⟩
theorem Rpv.b (I : Own K F H pp os) (r : RepB K F os x l) : Rpv K H pp.lk x l := by
  obtain ⟨p, xs, rfl, q, rs⟩ := r
  rcases q with q | q
  · exact Rpv.f I ⟨p, xs, rfl, q, rs⟩
  · obtain ⟨i, e⟩ := List.getElem?_of_mem q
    exact Rpv.o I i e rs
end
/-! ### == of plain data -/
def rEqP (K : PySem.W.Frag) : L2.R2 := fun x y H Q => ∃ d e, Dp K H x d ∧ Dp K H y e ∧ d.plain = true ∧ e.plain = true ∧ d.depth ≤ 64 ∧ Q (.bl (PyData.eqv d e)) H
def rNeP (K : PySem.W.Frag) : L2.R2 := fun x y H Q => ∃ d e, Dp K H x d ∧ Dp K H y e ∧ d.plain = true ∧ e.plain = true ∧ d.depth ≤ 64 ∧ Q (.bl (!PyData.eqv d e)) H
theorem op_eqP {X : Cx} (hu : X.A.units + 64 < cLine) : OpR X (compareOp .Eq) (rEqP X.K) := by
  intro pins s σ H x y v u Q I rx ry h
  obtain ⟨d, e, hd, he, sd, se, hn, q⟩ := h
  obtain ⟨as, r1⟩ := Dp.reads I d x v hd rx
  obtain ⟨bs, r2⟩ := Dp.reads I e y u he ry
  exact SeqAt.eq_plain r1 r2 sd se (by have : min d.depth e.depth ≤ d.depth := Nat.min_le_left _ _; omega) ⟨.bl _, H, I, rfl, q⟩
theorem op_neP {X : Cx} (hu : X.A.units + 64 < cLine) : OpR X (compareOp .NotEq) (rNeP X.K) := by
  intro pins s σ H x y v u Q I rx ry h
  obtain ⟨d, e, hd, he, sd, se, hn, q⟩ := h
  obtain ⟨as, r1⟩ := Dp.reads I d x v hd rx
  obtain ⟨bs, r2⟩ := Dp.reads I e y u he ry
  exact SeqAt.ne_plain r1 r2 sd se (by have : min d.depth e.depth ≤ d.depth := Nat.min_le_left _ _; omega) ⟨.bl _, H, I, rfl, q⟩
mutual
theorem Dp.mono {K : PySem.W.Frag} {F H : Hp} (s : Same F H) : ∀ {d : PyData} {x : V}, Dp K F x d → Dp K H x d
  | _, _, .non => .non
  | _, _, .bl b => .bl b
  | _, _, .int i => .int i
  | _, _, .str z => .str z
  | _, _, .lst h q => .lst (s.seq h) (DpAll.mono s q)
  | _, _, .tup h q => .tup (seqT_same s h) (DpAll.mono s q)
theorem DpAll.mono {K : PySem.W.Frag} {F H : Hp} (s : Same F H) : ∀ {d : List PyData} {x : List V}, DpAll K F x d → DpAll K H x d
  | _, _, .nil => .nil
  | _, _, .cons h q => .cons (Dp.mono s h) (DpAll.mono s q)
end
class Pt (α : Type) [Rp α] [DecidableEq α] where
  pd : α → PyData
  dep : Nat
  plain : ∀ a, (pd a).plain = true
  deep : ∀ a, (pd a).depth ≤ dep
  eqv : ∀ a b, PyData.eqv (pd a) (pd b) = decide (a = b)
  dp : ∀ {K : PySem.W.Frag} {F : Hp} {x : V} {a : α}, Rp.rep K F x a → Dp K F x (pd a)
instance : Pt Int := ⟨.int, 0, fun _ => rfl, fun _ => Nat.le_refl _, fun a b => by simp only [PyData.eqv]; rfl, fun h => by subst h; exact .int _⟩
instance : Pt Bool := ⟨.bool, 0, fun _ => rfl, fun _ => Nat.le_refl _, fun a b => by simp only [PyData.eqv]; rfl, fun h => by subst h; exact .bl _⟩
instance : Pt Str := ⟨.str, 0, fun _ => rfl, fun _ => Nat.le_refl _, fun a b => by simp only [PyData.eqv]; rfl, fun h => by subst h; exact .str _⟩
section
variable {α : Type} [Rp α] [DecidableEq α] [Pt α]
theorem pt_plain (l : List α) : PyData.plainAll (l.map Pt.pd) = true := by
  induction l with
  | nil => rfl
  | cons a l ih => simp only [List.map_cons, PyData.plainAll, Pt.plain, ih, Bool.and_self]
theorem pt_deep (l : List α) : PyData.depthAll (l.map Pt.pd) ≤ Pt.dep α := by
  induction l with
  | nil => exact Nat.zero_le _
  | cons a l ih =>
    have := Pt.deep a
    simp only [List.map_cons, PyData.depthAll]
    omega
theorem pt_eqv (l m : List α) : PyData.eqvAll (l.map Pt.pd) (m.map Pt.pd) = decide (l = m) := by
  induction l generalizing m with
  | nil => cases m with
    | nil => rfl
    | cons b m => rfl
  | cons a l ih => cases m with
    | nil => rfl
    | cons b m =>
      simp only [List.map_cons, PyData.eqvAll, Pt.eqv, ih]
      rw [← Bool.decide_and]
      exact decide_eq_decide.mpr (by rw [List.cons.injEq])
theorem pt_dp {K : PySem.W.Frag} {F : Hp} {xs : List V} {l : List α} (h : Reps K F xs l) : DpAll K F xs (l.map Pt.pd) := by
  induction h with
  | nil => exact .nil
  | cons q _ ih => exact .cons (Pt.dp q) ih
end
instance {α : Type} [Rp α] [DecidableEq α] [Pt α] : Pt (List α) := ⟨fun l => .list (l.map Pt.pd), Pt.dep α + 1, fun l => pt_plain l, fun l => by
  have := pt_deep l
  show PyData.depthAll _ + 1 ≤ _
  omega, fun l m => by simp only [PyData.eqv]; exact pt_eqv l m, fun h => by
  obtain ⟨p, xs, rfl, q, rs⟩ := h
  exact .lst (.inl (.inl q)) (pt_dp rs)⟩
instance {α β : Type} [DecidableEq α] [DecidableEq β] : DecidableEq (T2 α β) := fun x y => if h : x.a = y.a ∧ x.b = y.b then .isTrue (by cases x; cases y; simp only at h; obtain ⟨rfl, rfl⟩ := h; rfl) else .isFalse (fun e => h (by rw [e]; exact ⟨rfl, rfl⟩))
instance {α β γ : Type} [DecidableEq α] [DecidableEq β] [DecidableEq γ] : DecidableEq (T3 α β γ) := fun x y => if h : x.a = y.a ∧ x.b = y.b ∧ x.c = y.c then .isTrue (by cases x; cases y; simp only at h; obtain ⟨rfl, rfl, rfl⟩ := h; rfl) else .isFalse (fun e => h (by rw [e]; exact ⟨rfl, rfl, rfl⟩))
instance {α β γ δ : Type} [DecidableEq α] [DecidableEq β] [DecidableEq γ] [DecidableEq δ] : DecidableEq (T4 α β γ δ) := fun x y => if h : x.a = y.a ∧ x.b = y.b ∧ x.c = y.c ∧ x.d = y.d then .isTrue (by cases x; cases y; simp only at h; obtain ⟨rfl, rfl, rfl, rfl⟩ := h; rfl) else .isFalse (fun e => h (by rw [e]; exact ⟨rfl, rfl, rfl, rfl⟩))
instance {α β γ δ ε : Type} [DecidableEq α] [DecidableEq β] [DecidableEq γ] [DecidableEq δ] [DecidableEq ε] : DecidableEq (T5 α β γ δ ε) := fun x y => if h : x.a = y.a ∧ x.b = y.b ∧ x.c = y.c ∧ x.d = y.d ∧ x.e = y.e then .isTrue (by cases x; cases y; simp only at h; obtain ⟨rfl, rfl, rfl, rfl, rfl⟩ := h; rfl) else .isFalse (fun e => h (by rw [e]; exact ⟨rfl, rfl, rfl, rfl, rfl⟩))
instance {α β : Type} [DecidableEq α] [DecidableEq β] : DecidableEq (Rm.R2 α β) := fun x y => if h : x.a = y.a ∧ x.b = y.b then .isTrue (by cases x; cases y; simp only at h; obtain ⟨rfl, rfl⟩ := h; rfl) else .isFalse (fun e => h (by rw [e]; exact ⟨rfl, rfl⟩))
instance {α β γ : Type} [DecidableEq α] [DecidableEq β] [DecidableEq γ] : DecidableEq (Rm.R3 α β γ) := fun x y => if h : x.a = y.a ∧ x.b = y.b ∧ x.c = y.c then .isTrue (by cases x; cases y; simp only at h; obtain ⟨rfl, rfl, rfl⟩ := h; rfl) else .isFalse (fun e => h (by rw [e]; exact ⟨rfl, rfl, rfl⟩))
instance {α β : Type} [DecidableEq α] [DecidableEq β] : DecidableEq (Dc α β) := fun x y => if h : x.l = y.l then .isTrue (by cases x; cases y; simp only at h; subst h; rfl) else .isFalse (fun e => h (by rw [e]))
section
variable {α β γ δ ε : Type} [Rp α] [Rp β] [Rp γ] [Rp δ] [Rp ε] [DecidableEq α] [DecidableEq β] [DecidableEq γ] [DecidableEq δ] [DecidableEq ε] [Pt α] [Pt β] [Pt γ] [Pt δ] [Pt ε]
instance : Pt (T2 α β) := ⟨fun t => .tuple [Pt.pd t.a, Pt.pd t.b], max (Pt.dep α) (Pt.dep β) + 1, fun t => by simp [PyData.plain, PyData.plainAll, Pt.plain], fun t => by
  have h1 := Pt.deep t.a
  have h2 := Pt.deep t.b
  simp only [PyData.depth, PyData.depthAll]
  omega, fun t u => by
  simp only [PyData.eqv, PyData.eqvAll, Pt.eqv, Bool.and_true, ← Bool.decide_and]
  exact decide_eq_decide.mpr (by cases t; cases u; simp), fun h => by
  obtain ⟨p, x1, x2, rfl, q, r1, r2⟩ := h
  exact .tup q (.cons (Pt.dp r1) (.cons (Pt.dp r2) .nil))⟩
instance : Pt (T5 α β γ δ ε) := ⟨fun t => .tuple [Pt.pd t.a, Pt.pd t.b, Pt.pd t.c, Pt.pd t.d, Pt.pd t.e], max (Pt.dep α) (max (Pt.dep β) (max (Pt.dep γ) (max (Pt.dep δ) (Pt.dep ε)))) + 1, fun t => by simp [PyData.plain, PyData.plainAll, Pt.plain], fun t => by
  have h1 := Pt.deep t.a
  have h2 := Pt.deep t.b
  have h3 := Pt.deep t.c
  have h4 := Pt.deep t.d
  have h5 := Pt.deep t.e
  simp only [PyData.depth, PyData.depthAll]
  omega, fun t u => by
  simp only [PyData.eqv, PyData.eqvAll, Pt.eqv, Bool.and_true, ← Bool.decide_and]
  exact decide_eq_decide.mpr (by cases t; cases u; simp), fun h => by
  obtain ⟨p, x1, x2, x3, x4, x5, rfl, q, r1, r2, r3, r4, r5⟩ := h
  exact .tup q (.cons (Pt.dp r1) (.cons (Pt.dp r2) (.cons (Pt.dp r3) (.cons (Pt.dp r4) (.cons (Pt.dp r5) .nil)))))⟩
end
section
variable {α : Type} [Rp α] [DecidableEq α] [Pt α] {K : PySem.W.Frag} {H : Hp} {lk : Option Addr} {x y : V} {a b : α} {Q : VK}
theorem x_eqP (rx : Rpv K H lk x a) (ry : Rpv K H lk y b) (hd : Pt.dep α ≤ 64) (g : Q (.bl (decide (a = b))) H) : rEqP K x y H Q := by
  obtain ⟨G, s, _, r⟩ := rx
  obtain ⟨G', s', _, r'⟩ := ry
  exact ⟨_, _, Dp.mono s (Pt.dp r), Dp.mono s' (Pt.dp r'), Pt.plain _, Pt.plain _, Nat.le_trans (Pt.deep a) hd, by rw [Pt.eqv]; exact g⟩
theorem x_neP (rx : Rpv K H lk x a) (ry : Rpv K H lk y b) (hd : Pt.dep α ≤ 64) (g : Q (.bl (!decide (a = b))) H) : rNeP K x y H Q := by
  obtain ⟨G, s, _, r⟩ := rx
  obtain ⟨G', s', _, r'⟩ := ry
  exact ⟨_, _, Dp.mono s (Pt.dp r), Dp.mono s' (Pt.dp r'), Pt.plain _, Pt.plain _, Nat.le_trans (Pt.deep a) hd, by rw [Pt.eqv]; exact g⟩
end
/-! ### lists as they stand in H -/
def RL {α : Type} [Rp α] (K : PySem.W.Frag) (F H : Hp) (x : V) (l : List α) : Prop := ∃ p xs, x = .ref p ∧ H p = some (.lst xs) ∧ Reps K F xs l
section
variable {α ρ : Type} [Rp α] {K : PySem.W.Frag} {F H : Hp} {pp : Md} {os : Os} {x y : V} {p : Addr} {xs : List V} {l m : List α} {Q : VK} {QQ : ρ → Prop} {EE : Ex → Prop}
theorem RL.f (I : Own K F H pp os) (r : Rp.rep K F x l) : RL K F H x l := let ⟨p, xs, e, q, rs⟩ := r; ⟨p, xs, e, I.ex _ _ q, rs⟩
theorem RL.o (I : Own K F H pp os) (i : Nat) (e : os[i]? = some (p, .lst xs)) (rs : Reps K F xs l) : RL K F H (.ref p) l := ⟨p, xs, rfl, (I.own i _ _ e).2, rs⟩
theorem RL.b (I : Own K F H pp os) (r : RepB K F os x l) : RL K F H x l := let ⟨p, xs, e, q, rs⟩ := r; ⟨p, xs, e, q.elim (fun q => I.ex _ _ q) (fun q => I.mem q), rs⟩
def cutL {β : Type} (xs : List β) (lo hi : Option Int) : List β := (xs.drop (HT.sIx xs.length 0 lo)).take (HT.sIx xs.length xs.length hi - HT.sIx xs.length 0 lo)
theorem Reps.drop (h : Reps K F xs l) : ∀ n, Reps K F (xs.drop n) (l.drop n) := by
  induction h with
  | nil => intro n; cases n <;> exact .nil
  | cons q r ih => intro n; cases n with
    | zero => exact .cons q r
    | succ n => exact ih n
theorem Reps.take (h : Reps K F xs l) : ∀ n, Reps K F (xs.take n) (l.take n) := by
  induction h with
  | nil => intro n; cases n <;> exact .nil
  | cons q r ih => intro n; cases n with
    | zero => exact .nil
    | succ n => exact .cons q (ih n)
theorem Reps.cut {lo hi : Option Int} (h : Reps K F xs l) : Reps K F (cutV xs lo hi) (cutL l lo hi) := by
  unfold cutV cutL
  rw [h.len]
  exact (h.drop _).take _
theorem x_slF {lo hi : Option Int} (I : Own K F H pp os) (r : RL K F H x l) (g : ∀ p F' H', Same F F' → Own K F' H' pp os → Rp.rep K F' (.ref p) (cutL l lo hi) → Q (.ref p) H') : rSlL K x lo hi H Q := by
  obtain ⟨p, xs, rfl, q, rs⟩ := r
  exact ⟨p, xs, rfl, sqL_of q, fun l nl => g l _ _ (same_new (I.free nl)) (I.new nl (fun _ _ h => by cases h)) ⟨l, _, rfl, upd_same, (rs.mono (same_new (I.free nl))).cut⟩⟩
theorem x_slO {lo hi : Option Int} (I : Own K F H pp os) (r : RL K F H x l) (g : ∀ p xs H', Own K F H' pp ((p, .lst xs) :: os) → Reps K F xs (cutL l lo hi) → Q (.ref p) H') : rSlL K x lo hi H Q := by
  obtain ⟨p, xs, rfl, q, rs⟩ := r
  exact ⟨p, xs, rfl, sqL_of q, fun l nl => g l _ _ (I.take nl) rs.cut⟩
end
def catL {α : Type} (a b : List α) : D (List α) := D.asr (a.length + b.length ≤ sizeLine) (D.pure (a ++ b))
def slS (z : Str) (lo hi : Option Int) : D Str := D.asr (z.length ≤ sizeLine) (D.pure (cutS z lo hi))
section
variable {α ρ : Type} [Rp α] {K : PySem.W.Frag} {F H : Hp} {pp : Md} {os : Os} {x y : V} {p : Addr} {xs : List V} {l m : List α} {Q : VK} {QQ : ρ → Prop} {EE : Ex → Prop} {k : List α → D ρ}
theorem x_catF (I : Own K F H pp os) (r : RL K F H x l) (r' : RL K F H y m) (h : (D.bind (catL l m) k).run QQ EE) (g : ∀ v p F' H', Same F F' → Own K F' H' pp os → Rp.rep K F' (.ref p) v → (k v).run QQ EE → Q (.ref p) H') : rCat x y H Q := by
  obtain ⟨p, xs, rfl, q, rs⟩ := r
  obtain ⟨p', xs', rfl, q', rs'⟩ := r'
  exact ⟨p, p', xs, xs', rfl, rfl, q, q', by rw [rs.len, rs'.len]; exact h.1, fun c nl => g _ c _ _ (same_new (I.free nl)) (I.new nl (fun _ _ h => by cases h)) ⟨c, _, rfl, upd_same, (rs.app rs').mono (same_new (I.free nl))⟩ h.2⟩
theorem x_catO (I : Own K F H pp os) (r : RL K F H x l) (r' : RL K F H y m) (h : (D.bind (catL l m) k).run QQ EE) (g : ∀ v p xs H', Own K F H' pp ((p, .lst xs) :: os) → Reps K F xs v → (k v).run QQ EE → Q (.ref p) H') : rCat x y H Q := by
  obtain ⟨p, xs, rfl, q, rs⟩ := r
  obtain ⟨p', xs', rfl, q', rs'⟩ := r'
  exact ⟨p, p', xs, xs', rfl, rfl, q, q', by rw [rs.len, rs'.len]; exact h.1, fun c nl => g _ c _ _ (I.take nl) (rs.app rs') h.2⟩
theorem x_slS {z : Str} {lo hi : Option Int} {k : Str → D ρ} (h : (D.bind (slS z lo hi) k).run QQ EE) (g : (k (cutS z lo hi)).run QQ EE → Q (.str (cutS z lo hi)) H) : rSlS (.str z) lo hi H Q := v_slS h.1 (g h.2)
end
/-! ### tuples of any length; numbers in lists -/
structure Tl (α : Type) where (l : List α)
instance {α : Type} [Rp α] : Rp (Tl α) := ⟨fun K F x t => ∃ p xs, x = .ref p ∧ SqT K F p xs ∧ Reps K F xs t.l, fun e ⟨p, xs, h, q, r⟩ => ⟨p, xs, h, e.sqT q, r.see e⟩⟩
theorem eqV_int (a b : Int) : eqV (.int a) (.int b) = decide (a = b) := rfl
theorem inV_int (a : Int) (ns : List Int) : inV (.int a) (ns.map V.int) = decide (a ∈ ns) := by
  unfold inV
  rw [List.any_map]
  induction ns with
  | nil => rfl
  | cons n r ih =>
    rw [List.any_cons, ih]
    show (eqV (.int n) (.int a) || decide (a ∈ r)) = _
    rw [eqV_int, ← Bool.decide_or]
    exact decide_eq_decide.mpr (by rw [List.mem_cons]; exact or_congr_left eq_comm)
section
variable {α ρ : Type} [Rp α] {K : PySem.W.Frag} {F F0 H : Hp} {pp : Md} {os : Os} {x y : V} {Q : VK}
theorem x_inIT {t : Tl Int} {a : Int} (I : Own K F H pp os) (r : Rp.rep K F y t) (g : Q (.bl (decide (a ∈ t.l))) H) : rIn K false (.int a) y H Q := by
  obtain ⟨p, xs, rfl, q, rs⟩ := r
  have e := rs.int
  subst e
  exact ⟨p, _, rfl, .inr (I.sqT q), rfl, flat_ints _, by rw [inV_int]; exact g⟩
theorem x_ninIT {t : Tl Int} {a : Int} (I : Own K F H pp os) (r : Rp.rep K F y t) (g : Q (.bl (!decide (a ∈ t.l))) H) : rIn K true (.int a) y H Q := by
  obtain ⟨p, xs, rfl, q, rs⟩ := r
  have e := rs.int
  subst e
  exact ⟨p, _, rfl, .inr (I.sqT q), rfl, flat_ints _, by rw [inV_int]; exact g⟩
theorem x_inIL {l : List Int} {a : Int} (r : RL K F H y l) (g : Q (.bl (decide (a ∈ l))) H) : rIn K false (.int a) y H Q := by
  obtain ⟨p, xs, rfl, q, rs⟩ := r
  have e := rs.int
  subst e
  exact ⟨p, _, rfl, .inl (sqL_of q), rfl, flat_ints _, by rw [inV_int]; exact g⟩
theorem x_ninIL {l : List Int} {a : Int} (r : RL K F H y l) (g : Q (.bl (!decide (a ∈ l))) H) : rIn K true (.int a) y H Q := by
  obtain ⟨p, xs, rfl, q, rs⟩ := r
  have e := rs.int
  subst e
  exact ⟨p, _, rfl, .inl (sqL_of q), rfl, flat_ints _, by rw [inV_int]; exact g⟩
theorem tw_tup {l : List α} {p : Addr} {xs : List V} (q : SqT K F0 p xs) (rs : Reps K F0 xs l) : TW K (Itt K p) l F0 yes := by
  refine ⟨fun i F H pp os s _ I hi => ?_, fun i F H pp os s _ I hi => ?_, fun i F H pp os x H' s _ I ⟨e, hx⟩ hi => ?_⟩
  · rw [← rs.len] at hi
    exact ⟨xs, xs[i], seqT_same (s.trans I.ex) q, by simp [hi]⟩
  · exact ⟨xs, seqT_same (s.trans I.ex) q, by rw [rs.len]; exact hi⟩
  · subst e
    obtain ⟨a, ha, r⟩ := rs.get' (hx _ (seqT_same (s.trans I.ex) q))
    exact ⟨a, F, ha, Same.refl F, I, Rp.mono s r⟩
theorem x_iTup {t : Tl α} {P : Addr → Prop} (I : Own K F H pp os) (r : Rp.rep K F x t) (g : ∀ p, TW K (Itt K p) t.l F yes → P p) : ∃ a, x = .ref a ∧ (∃ xs, SqT K H a xs) ∧ P a := by
  obtain ⟨p, xs, rfl, q, rs⟩ := r
  exact ⟨p, rfl, ⟨xs, I.sqT q⟩, g _ (tw_tup q rs)⟩
theorem c_methD {C : Addr} {m : Str} {sp : Sp} {dvs : List V} {E : XK} {ta : TE} {t : TA} {σ : St} (h : ta σ H fun x H1 => ∃ a dx fs, x = .ref a ∧ H1 a = some (.ins C dx fs) ∧ fs.lookup m = none ∧ t σ H1 fun vs H2 => sp (x :: (vs ++ dvs)) H2 Q E) : tMeth C m sp dvs E ta t σ H Q := h
theorem c_methR {C : Addr} {m : Str} {sp : Sp} {E : XK} {ta : TE} {t : TA} {σ : St} (h : ta σ H fun x H1 => ∃ a dx fs, x = .ref a ∧ H1 a = some (.ins C dx fs) ∧ fs.lookup m = none ∧ t σ H1 fun vs H2 => sp (x :: vs) H2 Q E) : tMethR C m sp E ta t σ H Q := h
theorem c_methN {C : Addr} {m : Str} {n j : Nat} {sp : Sp} {gV : List V → List V → List V} {E : XK} {ta : TE} {t tk : TA} {σ : St} (h : ta σ H fun x H1 => ∃ a dx fs, x = .ref a ∧ H1 a = some (.ins C dx fs) ∧ fs.lookup m = none ∧ t σ H1 fun vs H2 => tk σ H2 fun zs H3 => vs.length + 1 = n ∧ zs.length = j ∧ sp (gV (x :: vs) zs) H3 Q E) : tMethN C m n j sp gV E ta t tk σ H Q := h
theorem c_star {te : TE} {t : TA} {σ : St} {QA : List V → Hp → Prop} (h : te σ H fun x H1 => ∃ p xs, x = V.ref p ∧ (SqT K H1 p xs ∨ SqL K H1 p xs) ∧ t σ H1 fun ys H2 => QA (xs ++ ys) H2) : StX.tStar K te t σ H QA := h
/-- [*a, ..] -/
theorem x_lstS {l m : List α} {k : List α → D ρ} {xs ys : List V} {QQ : ρ → Prop} {EE : Ex → Prop} (I : Own K F H pp os) (rs : Reps K F xs l) (rs' : Reps K F ys m) (h : (D.bind (catL l m) k).run QQ EE) {P : Addr → Prop}
    (g : ∀ v p F', Same F F' → Own K F' (upd H p (.lst (xs ++ ys))) pp os → Rp.rep K F' (.ref p) v → (k v).run QQ EE → P p) : (xs ++ ys).length ≤ sizeLine ∧ ∀ p, H p = none → P p :=
  ⟨by rw [List.length_append, rs.len, rs'.len]; exact h.1, fun p np => g _ p _ (same_new (I.free np)) (I.new np (fun _ _ h => by cases h)) ⟨p, _, rfl, upd_same, (rs.app rs').mono (same_new (I.free np))⟩ h.2⟩
end
end Rm

/-! DE: == of dicts, operators with an int or another class on the right, len of dicts, static methods -/
namespace Rm
open PySem PySem.Spec L2
/-! ### == of dicts whose values are flat -/
def eqDv (ls : List (Key × V)) : List (Key × V) → Bool
  | [] => true
  | p :: r => match valV ls p.1 with
    | none => false
    | some y => eqV p.2 y && eqDv ls r
theorem valV_mem {k : Key} {y : V} {ls : List (Key × V)} (e : valV ls k = some y) : ∃ p' ∈ ls, p'.2 = y := by
  induction ls with
  | nil => cases e
  | cons a r ih =>
    by_cases c : a.1 = k
    · rw [valV_pos c] at e; cases e; exact ⟨a, List.mem_cons_self, rfl⟩
    · rw [valV_neg c] at e
      obtain ⟨p', hm, hy⟩ := ih e
      exact ⟨p', List.mem_cons_of_mem _ hm, hy⟩
theorem hits_of {A : Around} {s : Shared} {ls : List (Key × V)} {vb : List (Key × Value)} (rb : KV ls vb) (fb : ls.all (fun p => flatV p.2) = true) {ks : List (Key × V)} {va : List (Key × Value)} (ra : KV ks va) :
    ks.all (fun p => flatV p.2) = true → PySem.W.KeqHits A s vb va (eqDv ls ks) := by
  unfold KV at ra
  induction ra with
  | nil => intro _; exact .nil
  | @cons p q ps qs h t ih =>
    intro hp
    obtain ⟨h1, h2⟩ := h
    rw [List.all_cons, Bool.and_eq_true] at hp
    obtain ⟨k, v⟩ := q
    have h1' : p.1 = k := h1
    have rr : RelO (valV ls p.1) (valueAt vb p.1) := rb.val p.1
    show PySem.W.KeqHits A s vb ((k, v) :: qs) _
    unfold eqDv
    cases e : valV ls p.1 with
    | none => rw [e] at rr; exact .miss (by rw [← h1']; exact rr.none_of)
    | some y =>
      rw [e] at rr
      obtain ⟨z, hz, rz⟩ := rr.some_of
      have fy : flatV y = true := by
        obtain ⟨p', hm, hy⟩ : ∃ p' ∈ ls, p'.2 = y := by
          exact valV_mem e
        rw [← hy]
        exact List.all_eq_true.mp fb p' hm
      exact .hit (by rw [← h1']; exact hz) (eqAt_V h2 rz hp.1 fy) (ih hp.2)
def rEqDf : L2.R2 := fun x y H Q => ∃ a b ks ls, x = .ref a ∧ y = .ref b ∧ H a = some (.dK ks) ∧ H b = some (.dK ls) ∧ ks.all (fun p => flatV p.2) = true ∧ ls.all (fun p => flatV p.2) = true ∧ Q (.bl (ks.length == ls.length && eqDv ls ks)) H
def rNeDf : L2.R2 := fun x y H Q => ∃ a b ks ls, x = .ref a ∧ y = .ref b ∧ H a = some (.dK ks) ∧ H b = some (.dK ls) ∧ ks.all (fun p => flatV p.2) = true ∧ ls.all (fun p => flatV p.2) = true ∧ Q (.bl (!(ks.length == ls.length && eqDv ls ks))) H
section
variable {X : Cx}
theorem op_eqDf (hu : X.A.units < cLine) : OpR X (compareOp .Eq) rEqDf := by
  intro pins s σ H x y v u Q I rx ry h
  obtain ⟨a, b, ks, ls, rfl, rfl, ea, eb, fa, fb, q⟩ := h
  obtain rfl : v = Value.ref a := rx
  obtain rfl : u = Value.ref b := ry
  obtain ⟨_, ya, va, ra, da⟩ := (show ObjOk X.prog X.w H s.heap a (.dK ks) from I.hok a _ ea)
  obtain ⟨_, yb, vb, rb, db⟩ := (show ObjOk X.prog X.w H s.heap b (.dK ls) from I.hok b _ eb)
  exact PySem.W.keq_eq (knd := mixKind X.prog X.w) (r := eqDv ls ks) ya yb da db hu (fun _ => hits_of rb fb ra fa) (fin_bl I q (by rw [ra.length, rb.length]))
theorem op_neDf (hu : X.A.units < cLine) : OpR X (compareOp .NotEq) rNeDf := by
  intro pins s σ H x y v u Q I rx ry h
  obtain ⟨a, b, ks, ls, rfl, rfl, ea, eb, fa, fb, q⟩ := h
  obtain rfl : v = Value.ref a := rx
  obtain rfl : u = Value.ref b := ry
  obtain ⟨_, ya, va, ra, da⟩ := (show ObjOk X.prog X.w H s.heap a (.dK ks) from I.hok a _ ea)
  obtain ⟨_, yb, vb, rb, db⟩ := (show ObjOk X.prog X.w H s.heap b (.dK ls) from I.hok b _ eb)
  exact PySem.W.keq_ne (knd := mixKind X.prog X.w) (r := eqDv ls ks) ya yb da db hu (fun _ => hits_of rb fb ra fa) (fin_bl I q (by rw [ra.length, rb.length]))
end
theorem F2len {α β : Type} {R : α → β → Prop} {l : List α} {m : List β} (h : F2 R l m) : l.length = m.length := by
  induction h with
  | nil => rfl
  | cons _ _ ih => simp [ih]
/-- dicts alike, whatever their order -/
def eqD {κ β : Type} [DecidableEq κ] [DecidableEq β] (a b : Dc κ β) : Bool := a.l.length == b.l.length && a.l.all fun p => decide (getD b.l p.1 = some p.2)
section
variable {κ : Type} [Ky κ] [DecidableEq κ] {K : PySem.W.Frag} {F H : Hp} {lk : Option Addr} {x y : V} {Q : VK}
theorem flat_di {kvs : List (Key × V)} {l : List (κ × Int)} (h : KReps K F kvs l) : kvs.all (fun p => flatV p.2) = true := by
  induction h with
  | nil => rfl
  | cons q _ ih => rw [List.all_cons, ih, show _ = V.int _ from q.2]; rfl
theorem eqDv_eq {G : Hp} {kvs ls : List (Key × V)} {l m : List (κ × Int)} (h : KReps K F kvs l) (h' : KReps K G ls m) : eqDv ls kvs = l.all fun p => decide (getD m p.1 = some p.2) := by
  induction h with
  | nil => rfl
  | @cons kv ab kvs l q _ ih =>
    unfold eqDv
    rw [List.all_cons, ← ih, q.1]
    have hi : kv.2 = V.int ab.2 := q.2
    rcases h'.get (k := ab.1) with ⟨v, x, e1, e2, r⟩ | ⟨e1, e2⟩
    · have hx : x = V.int v := r
      rw [e1, e2, hi, hx]
      show (eqV (.int ab.2) (.int v) && _) = _
      rw [eqV_int]
      congr 1
      exact decide_eq_decide.mpr ⟨fun z => by rw [z], fun z => by injection z with z; exact z.symm⟩
    · rw [e1, e2]
      rfl
theorem dk_at {d : Dc κ Int} (r : Rpv K H none x d) : ∃ (a : Addr) (kvs : List (Key × V)) (G : Hp), x = V.ref a ∧ H a = some (.dK kvs) ∧ KReps K G kvs d.l := by
  obtain ⟨G, s, nl, p, kvs, e, q, rs⟩ := r
  rcases q with q | ⟨w, q⟩
  · exact ⟨p, kvs, G, e, s _ _ q, rs⟩
  · exact absurd (nl _ _ _ q) (by simp)
theorem x_eqD {a b : Dc κ Int} (rx : Rpv K H none x a) (ry : Rpv K H none y b) (g : Q (.bl (eqD a b)) H) : rEqDf x y H Q := by
  obtain ⟨p, ks, G, ex, hp, rs⟩ := dk_at rx
  obtain ⟨p', ls, G', ey, hp', rs'⟩ := dk_at ry
  refine ⟨p, p', ks, ls, ex, ey, hp, hp', flat_di rs, flat_di rs', ?_⟩
  rw [eqDv_eq rs rs', F2len rs, F2len rs']
  exact g
theorem x_neD {a b : Dc κ Int} (rx : Rpv K H none x a) (ry : Rpv K H none y b) (g : Q (.bl (!eqD a b)) H) : rNeDf x y H Q := by
  obtain ⟨p, ks, G, ex, hp, rs⟩ := dk_at rx
  obtain ⟨p', ls, G', ey, hp', rs'⟩ := dk_at ry
  refine ⟨p, p', ks, ls, ex, ey, hp, hp', flat_di rs, flat_di rs', ?_⟩
  rw [eqDv_eq rs rs', F2len rs, F2len rs']
  exact g
end
/-! ### len(d) -/
section
variable {κ β : Type} [Ky κ] [Rp β] {K : PySem.W.Frag} {F H : Hp} {pp : Md} {os : Os} {x : V} {Q : VK}
def rLenDD : RC := fun xs H Q => ∃ a kvs, xs = [V.ref a] ∧ H a = some (.dK kvs) ∧ Q (.int kvs.length) H
theorem x_lenD {d : Dc κ β} (r : Rpv K H none x d) (g : Q (.int (d.l.length : Int)) H) : rLenDD [x] H Q := by
  obtain ⟨G, s, nl, p, kvs, e, q, rs⟩ := r
  rcases q with q | ⟨w, q⟩
  · exact ⟨p, kvs, by rw [e], s _ _ q, by rw [F2len rs]; exact g⟩
  · exact absurd (nl _ _ _ q) (by simp)
end
/-! ### o op i -/
structure IntOp (K : PySem.W.Frag) (C : Addr) (op : Operator) : Prop where
  sf : PySem.W.selfFirst K C = true
  r : ∃ rc, PySem.W.findIn K (.ref C) (dunderR op.info.2) = some rc ∧ (rc = none ∨ ∃ g : Addr, rc = some (.ref g))
  a : ∃ fo, PySem.W.findIn K (.type "int") (PySem.dunder op.info.2) = some fo
  b : ∃ ro, PySem.W.findIn K (.type "int") (dunderR op.info.2) = some ro
  sub : PySem.W.subIn K (.type "int") (.ref C) = some false
def intOpB (K : PySem.W.Frag) (C : Addr) (op : Operator) : Bool := PySem.W.selfFirst K C && ((match PySem.W.findIn K (.ref C) (dunderR op.info.2) with
    | some none => true
    | some (some (.ref _)) => true
    | _ => false) && ((PySem.W.findIn K (.type "int") (PySem.dunder op.info.2)).isSome && ((PySem.W.findIn K (.type "int") (dunderR op.info.2)).isSome && (match PySem.W.subIn K (.type "int") (.ref C) with
    | some false => true
    | _ => false))))
theorem intOpB_ok {K : PySem.W.Frag} {C : Addr} {op : Operator} (h : intOpB K C op = true) : IntOp K C op := by
  obtain ⟨h1, h⟩ := He.ba h
  obtain ⟨h2, h⟩ := He.ba h
  obtain ⟨h3, h⟩ := He.ba h
  obtain ⟨h4, h5⟩ := He.ba h
  refine ⟨h1, ?_, Option.isSome_iff_exists.mp h3, Option.isSome_iff_exists.mp h4, ?_⟩
  · split at h2
    · rename_i e; exact ⟨_, e, .inl rfl⟩
    · rename_i g e; exact ⟨_, e, .inr ⟨g, rfl⟩⟩
    · cases h2
  · split at h5
    · rename_i e; exact e
    · cases h5
def rOpI (C : Addr) (sp : Sp) (E : XK) : L2.R2 := fun x y H Q => ∃ a dx fs i, x = .ref a ∧ y = .int i ∧ H a = some (.ins C dx fs) ∧ sp ([.ref a, .int i] ++ []) H Q E
theorem op_int {X : Cx} {CX : CXT} {k : Nat} {C f : Addr} {fd : FuncData} {ps : List Str} {sp : Sp} {E : XK} {op : Operator} (m : OwnM X.K C (PySem.dunder op.info.2) f) (c : IntOp X.K C op)
    (F : FnOk X.prog X.w X.K X.mg X.base CX k f fd ps sp) (hr : Room k X.A) (bi : Binds X.K fd ps []) (hx : Passes CX X E) : OpR X (binaryOp op) (rOpI C sp E) := by
  intro pins s σ H x y v u Q I rx ry h
  obtain ⟨a, dx, fs, i, rfl, rfl, ha, q⟩ := h
  cases rx
  obtain ⟨t, rfl⟩ := ry
  obtain ⟨m0, hF⟩ := I.fr
  obtain ⟨od, J⟩ := insAt I ha
  obtain ⟨rc, h1, h2⟩ := c.r
  obtain ⟨fo, h3⟩ := c.a
  obtain ⟨ro, h4⟩ := c.b
  exact PySem.W.ksp_binT (T := "int") hF I.ok.mod.kin J rfl c.sf m.at_ m.fn h1 h2 h3 h4 c.sub (wpAny_mono (run_fn (vs := [V.ref a, V.int i]) F hr bi .nil hx I (.cons rfl (.cons ⟨t, rfl⟩ .nil)) q) (fun u s' z => cmpBack_of z) fun _ _ z => z)
/-! ### C.m(..), m a staticmethod -/
structure CSta (K : PySem.W.Frag) (C : Addr) (m : Str) (p g : Addr) : Prop where
  at_ : PySem.W.findCls K (.ref C) (.type "type") m = some (.get (.builtin "staticmethod.__get__") (.ref p) .none (.ref C))
  rc : ∃ rest, PySem.W.recIn K p "staticmethod" = some (.ref g :: rest)
  fi : PySem.W.keepIn K (.ref g) = true
def cstaB (K : PySem.W.Frag) (C : Addr) (m : Str) : Bool := He5.wrapB K C "staticmethod" "staticmethod.__get__" m && PySem.W.keepIn K (.ref (He5.wf K C "staticmethod" m))
theorem cstaB_ok {K : PySem.W.Frag} {C : Addr} {m : Str} (h : cstaB K C m = true) : CSta K C m (He.ma K C m) (He5.wf K C "staticmethod" m) := by
  obtain ⟨h1, h2⟩ := He.ba h
  obtain ⟨k1, k2⟩ := He5.wrapB_ok h1
  exact ⟨k1, k2, h2⟩
def tSMeth (C : Addr) (sp : Sp) (E : XK) (ta : TE) (t : TA) : TE := fun σ H Q => ta σ H fun x H1 => x = .ref C ∧ t σ H1 fun vs H2 => sp vs H2 Q E
theorem pe_smeth {X : Cx} {CX : CXT} {k : Nat} {C p g : Addr} {sp : Sp} {E : XK} {o e : Expr} {es : List Expr} {m : Str} {pos apos : Pos} {ta : TE} {t : TA} {pl : Sem Bool} (he : PE X o ta) (r : ClX.CRead X.K C (.type "type")) (c : CSta X.K C m p g) (F : FnR X.prog X.w X.K X.mg X.base CX k g sp) (hr : Room k X.A) (hx : Passes CX X E) (ha : PA X (e :: es) t)
    (hst : starEach (e :: es) X.env = (false, eval e X.env) :: starEach es X.env := by rfl) (hpl : (backTo pos (starEach es X.env)).any (·.1) = false := by rfl)
    (ht : eval (.Call (.Attribute o m apos) (e :: es) [] pos) X.env = (do
      let ov ← eval o X.env
      standAt apos.atName
      let (f, first) ← holding [ov] (getMethod ov m pl)
      callWith pos f first (backTo pos (starEach (e :: es) X.env)) (backToKw pos (keywordEach [] X.env))) := by rfl) :
    PE X (.Call (.Attribute o m apos) (e :: es) [] pos) (tSMeth C sp E ta t) := by
  refine ⟨fun pins s σ H Q I h => ?_⟩
  refine PySem.W.methodCall_KW (pl := pl) (thn (he.run pins s σ H _ I h) fun u s1 ⟨x, H1, I1, rx, ex, q⟩ => ?_) ht
  subst ex
  obtain rfl : u = Value.ref C := rx
  obtain ⟨rest, hp⟩ := c.rc
  refine PySem.W.method_cls I1.kIn r.ga (PySem.W.cls_bind I1.kIn r.rd c.at_ (wpAny_call (PySem.W.sm_get (s := { s1 with toks := s1.toks + 1 }) I1.kIn hp (PySem.W.handed_on rfl ?_))))
  have I2 : Inv X pins σ H1 { s1 with toks := s1.toks + 1 } := I1.tok _
  refine PySem.W.callWith_K (first := []) (h₀ := X.base) I2.ok.mod.kin c.fi (thn (ha.run pos pins _ σ H1 _ I2 q) fun us s2 ⟨vs, H2, I3, r, q2⟩ => ⟨I3.kIn, ?_⟩) hst hpl
  exact wpAny_call (run_fnR (us := us) (vs := vs) F hr hx I3 r q2)
theorem c_smeth {C : Addr} {sp : Sp} {E : XK} {ta : TE} {t : TA} {σ : St} {H : Hp} {Q : VK} (h : ta σ H fun x H1 => x = .ref C ∧ t σ H1 fun vs H2 => sp vs H2 Q E) : tSMeth C sp E ta t σ H Q := h
theorem call_lenDD {X : Cx} : CallR X (.builtin "len") rLenDD := call_lenD
end Rm

/-! DO: owned dicts walked, copied, lent to a maker -/
namespace Rm
open PySem PySem.Spec L2
theorem Own.unpull {K : PySem.W.Frag} {F H : Hp} {pp : Md} {os : Os} {q : Addr × HO} (i : Nat) (e : os[i]? = some q) (I : Own K F H pp (q :: os.eraseIdx i)) : Own K F H pp os := by
  have key : ∀ (j : Nat) (x : Addr × HO), os[j]? = some x → (j = i ∧ (q :: os.eraseIdx i)[0]? = some x) ∨ (j < i ∧ (q :: os.eraseIdx i)[j + 1]? = some x) ∨ (i < j ∧ (q :: os.eraseIdx i)[j]? = some x) := fun j x h => by
    by_cases c : j = i
    · subst c; rw [e] at h; exact .inl ⟨rfl, h⟩
    · by_cases d : j < i
      · refine .inr (.inl ⟨d, ?_⟩)
        show (os.eraseIdx i)[j]? = _
        rw [List.getElem?_eraseIdx, if_pos d]; exact h
      · refine .inr (.inr ⟨by omega, ?_⟩)
        obtain ⟨k, rfl⟩ : ∃ k, j = k + 1 := ⟨j - 1, by omega⟩
        show (os.eraseIdx i)[k]? = _
        rw [List.getElem?_eraseIdx, if_neg (by omega)]; exact h
  refine ⟨I.ex, I.nl, fun a h => ⟨(I.pl a h).1, fun j b o z => ?_, (I.pl a h).2.2⟩, fun j a o h => ?_, fun j l a o o' h h' => ?_⟩
  · rcases key j _ z with ⟨_, z⟩ | ⟨_, z⟩ | ⟨_, z⟩ <;> exact (I.pl a h).2.1 _ b o z
  · rcases key j _ h with ⟨_, z⟩ | ⟨_, z⟩ | ⟨_, z⟩ <;> exact I.own _ a o z
  · rcases key j _ h with ⟨c, z⟩ | ⟨c, z⟩ | ⟨c, z⟩ <;> rcases key l _ h' with ⟨c', z'⟩ | ⟨c', z'⟩ | ⟨c', z'⟩ <;> have := I.dj _ _ a o o' z z' <;> omega
section
variable {κ β ρ : Type} [Ky κ] [Rp β] [Rp κ] [KyV κ] {K : PySem.W.Frag} {F F0 H : Hp} {pp : Md} {os : Os} {p : Addr} {kvs : List (Key × V)} {σ : St} {Q : VK} {q : Option Addr}
theorem x_lockO {t : TS} {nx bk ct : St → Hp → Prop} {rt : VK} (I : Own K F H pp os) (i : Nat) (e : os[i]? = some (p, .dK kvs))
    (h : ∀ od, Own K F (upd H p (.frz od (.dK kvs))) pp (os.set i (p, .frz od (.dK kvs))) →
      t ⟨fun σ' H' => H' p = some (.frz od (.dK kvs)) ∧ nx σ' (upd H' p (.dK kvs)), fun v H' => H' p = some (.frz od (.dK kvs)) ∧ rt v (upd H' p (.dK kvs)), fun σ' H' => H' p = some (.frz od (.dK kvs)) ∧ bk σ' (upd H' p (.dK kvs)), fun σ' H' => H' p = some (.frz od (.dK kvs)) ∧ ct σ' (upd H' p (.dK kvs))⟩ σ (upd H p (.frz od (.dK kvs)))) : tLock t ⟨nx, rt, bk, ct⟩ σ H :=
  ⟨p, .dK kvs, (I.own i _ _ e).2, trivial, fun od => h od (I.put i e)⟩
theorem x_lockEO {t : TE} (I : Own K F H pp os) (i : Nat) (e : os[i]? = some (p, .dK kvs))
    (h : ∀ od, Own K F (upd H p (.frz od (.dK kvs))) pp (os.set i (p, .frz od (.dK kvs))) →
      t σ (upd H p (.frz od (.dK kvs))) fun v H' => H' p = some (.frz od (.dK kvs)) ∧ Q v (upd H' p (.dK kvs))) : tLockE t σ H Q :=
  ⟨p, .dK kvs, (I.own i _ _ e).2, trivial, fun od => h od (I.put i e)⟩
theorem x_unlockO {od : Obj} {G : Hp → Prop} (I : Own K F H pp os) (i : Nat) (e : os[i]? = some (p, .frz od (.dK kvs))) (g : Own K F (upd H p (.dK kvs)) pp (os.set i (p, .dK kvs)) → G (upd H p (.dK kvs))) : H p = some (.frz od (.dK kvs)) ∧ G (upd H p (.dK kvs)) :=
  ⟨(I.own i _ _ e).2, g (I.put i e)⟩
abbrev LkB (p : Addr) (od : Obj) (kvs : List (Key × V)) (os : Os) : Prop := ∃ j : Nat, os[j]? = some (p, .frz od (.dK kvs))
theorem tw_itemsO {d : Dc κ β} {od : Obj} (rs : KReps K F0 kvs d.l) : TW K (Iti p od kvs) (ditems d) F0 (LkB p od kvs) := by
  have hl : (ditems d).length = kvs.length := by unfold ditems; rw [List.length_map, rs.len]
  refine ⟨fun i F H pp os s ⟨j, b⟩ I h => ⟨(I.own j _ _ b).2, by omega⟩, fun i F H pp os s ⟨j, b⟩ I h => ⟨(I.own j _ _ b).2, by omega⟩, fun i F H pp os x H' s _ I ⟨T, k, v, hk, hx, nT, e⟩ h => ?_⟩
  subst e hx
  obtain ⟨a, b, h1, h2, r⟩ := rs.at_ hk
  have s1 := same_new (o := HO.tup [kV k, v]) (I.free nT)
  refine ⟨⟨a, b⟩, _, ?_, s1, I.new nT (fun _ _ h => by cases h), T, _, _, rfl, sqT_of upd_same, ?_, Rp.mono (s.trans s1) r⟩
  · unfold ditems; rw [List.getElem?_map, h1]; rfl
  · rw [KyV.rep, h2]
theorem tw_keysO {d : Dc κ β} {od : Obj} (rs : KReps K F0 kvs d.l) : TW K (Itk p od kvs) (dkeys d) F0 (LkB p od kvs) := by
  have hl : (dkeys d).length = kvs.length := by unfold dkeys; rw [List.length_map, rs.len]
  refine ⟨fun i F H pp os s ⟨j, b⟩ I h => ⟨(I.own j _ _ b).2, by omega⟩, fun i F H pp os s ⟨j, b⟩ I h => ⟨(I.own j _ _ b).2, by omega⟩, fun i F H pp os x H' s _ I ⟨e, k, v, hk, hx⟩ h => ?_⟩
  subst e hx
  obtain ⟨a, b, h1, h2, _⟩ := rs.at_ hk
  refine ⟨a, F, ?_, Same.refl F, I, ?_⟩
  · unfold dkeys; rw [List.getElem?_map, h1]; rfl
  · rw [KyV.rep, h2]
theorem x_iItemsO {d : Dc κ β} {od : Obj} {P : Addr → Obj → List (Key × V) → Prop} (I : Own K F H pp os) (i : Nat) (e : os[i]? = some (p, .frz od (.dK kvs))) (rs : KReps K F kvs d.l) (g : TW K (Iti p od kvs) (ditems d) F (LkB p od kvs) → P p od kvs) :
    ∃ d o kvs, V.ref p = .ref d ∧ H d = some (.frz o (.dK kvs)) ∧ P d o kvs := ⟨p, od, kvs, rfl, (I.own i _ _ e).2, g (tw_itemsO rs)⟩
theorem x_iKeysO {d : Dc κ β} {od : Obj} {P : Addr → Obj → List (Key × V) → Prop} {P' : Addr → Obj → List (List Key × V) → Prop} (I : Own K F H pp os) (i : Nat) (e : os[i]? = some (p, .frz od (.dK kvs))) (rs : KReps K F kvs d.l) (g : TW K (Itk p od kvs) (dkeys d) F (LkB p od kvs) → P p od kvs) :
    ∃ d o, V.ref p = .ref d ∧ ((∃ kvs, H d = some (.frz o (.dK kvs)) ∧ P d o kvs) ∨ ∃ kvs, H d = some (.frz o (.dT kvs)) ∧ P' d o kvs) := ⟨p, od, rfl, .inl ⟨kvs, (I.own i _ _ e).2, g (tw_keysO rs)⟩⟩
theorem x_dictFo {d : Dc κ β} (I : Own K F H pp os) (i : Nat) (e : os[i]? = some (p, .dK kvs)) (rs : KReps K F kvs d.l) (g : ∀ p F' H', Same F F' → Own K F' H' pp os → Rp.rep K F' (.ref p) d → Q (.ref p) H') : rDictD [.ref p] H Q :=
  ⟨p, kvs, rfl, .inl (I.own i _ _ e).2, fun l nl => g l _ _ (same_new (I.free nl)) (I.new nl (fun _ _ h => by cases h)) ⟨l, kvs, rfl, .inl upd_same, rs.mono (same_new (I.free nl))⟩⟩
theorem x_listDFo {d : Dc κ β} (I : Own K F H pp os) (i : Nat) (e : os[i]? = some (p, .dK kvs)) (rs : KReps K F kvs d.l) (g : ∀ p F' H', Same F F' → Own K F' H' pp os → Rp.rep K F' (.ref p) (dkeys d) → Q (.ref p) H') : rListD [.ref p] H Q :=
  ⟨p, kvs, rfl, .inl (I.own i _ _ e).2, fun l nl => g l _ _ (same_new (I.free nl)) (I.new nl (fun _ _ h => by cases h)) ⟨l, _, rfl, upd_same, keysR (rs.mono (same_new (I.free nl)))⟩⟩
end
end Rm

/-! SM: the laws' own comparison of data -/
namespace Rm
open PySem PySem.Spec L2
inductive PV where
  | non | bl (b : Bool) | int (i : Int) | str (z : Str) | lst (l : List PV) | tup (l : List PV) | dic (ks : List Str) (vs : List PV)
def PRn (K : PySem.W.Frag) (H : Hp) : Nat → Bool → V → PV → Prop
  | _, _, x, .non => x = .non
  | _, _, x, .bl b => x = .bl b
  | _, _, x, .int i => x = .int i
  | _, _, x, .str z => x = .str z
  | 0, _, _, .lst _ => False
  | 0, _, _, .tup _ => False
  | 0, _, _, .dic _ _ => False
  | n + 1, b, x, .lst l => l.length ≤ 1000 ∧ ∃ p xs, x = .ref p ∧ H p = some (.lst xs) ∧ F2 (PRn K H n b) xs l
  | n + 1, b, x, .tup l => l.length ≤ 1000 ∧ ∃ p xs, x = .ref p ∧ SqT K H p xs ∧ F2 (PRn K H n b) xs l
  | n + 1, b, x, .dic ks l => b = true ∧ ks.Nodup ∧ ∃ p kvs, x = .ref p ∧ H p = some (.dK kvs) ∧ kvs.map (·.1) = ks.map Sum.inr ∧ F2 (PRn K H n false) (kvs.map (·.2)) l
def PV.kind : PV → String
  | .non => "NoneType" | .bl _ => "bool" | .int _ => "int" | .str _ => "str" | .lst _ => "list" | .tup _ => "tuple" | .dic _ _ => "dict"
section
variable {K : PySem.W.Frag} {H H' : Hp} {n : Nat} {b : Bool} {x y : V} {p : PV} {Q : VK} {QT : Bool → Hp → Prop} {σ : St}
theorem PRn.mono (s : Same H H') : ∀ {n : Nat} {b : Bool} {x : V} {p : PV}, PRn K H n b x p → PRn K H' n b x p
  | _, _, _, .non, h => by unfold PRn at *; exact h
  | _, _, _, .bl _, h => by unfold PRn at *; exact h
  | _, _, _, .int _, h => by unfold PRn at *; exact h
  | _, _, _, .str _, h => by unfold PRn at *; exact h
  | 0, _, _, .lst _, h => by unfold PRn at h; exact h.elim
  | 0, _, _, .tup _, h => by unfold PRn at h; exact h.elim
  | 0, _, _, .dic _ _, h => by unfold PRn at h; exact h.elim
  | n + 1, b, x, .lst l, h => by
    unfold PRn at *
    obtain ⟨h1, q, xs, e, h2, h3⟩ := h
    exact ⟨h1, q, xs, e, s _ _ h2, h3.imp fun _ _ z => PRn.mono s z⟩
  | n + 1, b, x, .tup l, h => by
    unfold PRn at *
    obtain ⟨h1, q, xs, e, h2, h3⟩ := h
    exact ⟨h1, q, xs, e, seqT_same s h2, h3.imp fun _ _ z => PRn.mono s z⟩
  | n + 1, b, x, .dic ks l, h => by
    unfold PRn at *
    obtain ⟨h1, h0, q, xs, e, h2, h4, h3⟩ := h
    exact ⟨h1, h0, q, xs, e, s _ _ h2, h4, h3.imp fun _ _ z => PRn.mono s z⟩
theorem PRn.see (s : Sees H H') : ∀ {n : Nat} {x : V} {p : PV}, PRn K H n false x p → PRn K H' n false x p
  | _, _, .non, h => by unfold PRn at *; exact h
  | _, _, .bl _, h => by unfold PRn at *; exact h
  | _, _, .int _, h => by unfold PRn at *; exact h
  | _, _, .str _, h => by unfold PRn at *; exact h
  | 0, _, .lst _, h => by unfold PRn at h; exact h.elim
  | 0, _, .tup _, h => by unfold PRn at h; exact h.elim
  | 0, _, .dic _ _, h => by unfold PRn at h; exact h.elim
  | n + 1, x, .lst l, h => by
    unfold PRn at *
    obtain ⟨h1, q, xs, e, h2, h3⟩ := h
    exact ⟨h1, q, xs, e, s.ls _ _ h2, h3.imp fun _ _ z => PRn.see s z⟩
  | n + 1, x, .tup l, h => by
    unfold PRn at *
    obtain ⟨h1, q, xs, e, h2, h3⟩ := h
    exact ⟨h1, q, xs, e, s.sqT h2, h3.imp fun _ _ z => PRn.see s z⟩
  | n + 1, x, .dic ks l, h => by
    unfold PRn at h
    cases h.1
theorem PRn.tyx (h : PRn K H n b x p) : TyX K H x (.type p.kind) := by
  cases p with
  | non => unfold PRn at h; subst h; exact .base .non
  | bl c => unfold PRn at h; subst h; exact .base (.bl _)
  | int i => unfold PRn at h; subst h; exact .base (.int _)
  | str z => unfold PRn at h; subst h; exact .base (.str _)
  | lst l =>
    cases n with
    | zero => unfold PRn at h; exact h.elim
    | succ n =>
      unfold PRn at h
      obtain ⟨_, q, xs, rfl, h2, _⟩ := h
      exact .base (.lst h2)
  | tup l =>
    cases n with
    | zero => unfold PRn at h; exact h.elim
    | succ n =>
      unfold PRn at h
      obtain ⟨_, q, xs, rfl, h2, _⟩ := h
      rcases h2 with (h2 | ⟨o, h2⟩) | ⟨o, _, _, h2, h3, _⟩
      · exact .base (.tup h2)
      · exact .fTuple h2
      · exact .kTuple h2 h3
  | dic ks l =>
    cases n with
    | zero => unfold PRn at h; exact h.elim
    | succ n =>
      unfold PRn at h
      obtain ⟨_, _, q, xs, rfl, h2, _⟩ := h
      exact .base (.dK h2)
theorem x_isiP {T : String} {r : Bool} (h : PRn K H n b x p) (e : kitB p.kind T = some r) (g : Q (.bl r) H) : rIsi K [x, .ty T] H Q := ⟨x, .ty T, _, _, r, rfl, .ty _, h.tyx, kit_ty e, g⟩
theorem s_isi {i : Nat} {T : String} {r : Bool} (ex : σ[i]? = some (some x)) (h : PRn K H n b x p) (e : kitB p.kind T = some r) (g : QT r H) : tB (tCB (rIsi K) (tCons (tVar i) (tCons (tC (.ty T)) tNil))) σ H QT := by
  refine c_tB ?_
  refine c_cb ?_
  refine c_cons ?_
  refine c_var ex ?_
  refine c_cons ?_
  refine c_c ?_
  refine c_nil ?_
  exact x_isiP h e ⟨_, rfl, g⟩
theorem v_isi {i : Nat} {T : String} {r : Bool} (ex : σ[i]? = some (some x)) (h : PRn K H n b x p) (e : kitB p.kind T = some r) (g : Q (.bl r) H) : tCB (rIsi K) (tCons (tVar i) (tCons (tC (.ty T)) tNil)) σ H Q := by
  refine c_cb ?_
  refine c_cons ?_
  refine c_var ex ?_
  refine c_cons ?_
  refine c_c ?_
  refine c_nil ?_
  exact x_isiP h e g
theorem x_ifT {A B : Prop} {b : Bool} (e : b = true) (h : A) : if b = true then A else B := by rw [e]; exact h
theorem v_eqV {a c : V} (hf : flatV a = true ∨ flatV c = true ∨ True) (h : Q (.bl (decide (a = c))) H) : True := trivial
theorem valV_at {kvs : List (Key × V)} {ks : List Str} (h : kvs.map (·.1) = ks.map Sum.inr) (hn : ks.Nodup) : ∀ {i : Nat} {k : Key} {v : V}, kvs[i]? = some (k, v) → valV kvs k = some v := by
  induction kvs generalizing ks with
  | nil => intro i k v e; cases e
  | cons kv kvs ih =>
    cases ks with
    | nil => cases h
    | cons z ks =>
      rw [List.map_cons, List.map_cons, List.cons.injEq] at h
      obtain ⟨n1, n2⟩ := List.nodup_cons.mp hn
      intro i k v e
      cases i with
      | zero => cases e; exact valV_pos rfl
      | succ i =>
        have e : kvs[i]? = some (k, v) := e
        have hm : k ∈ kvs.map (·.1) := List.mem_map.mpr ⟨_, List.mem_of_getElem? e, rfl⟩
        rw [h.2] at hm
        obtain ⟨w, hw, rfl⟩ := List.mem_map.mp hm
        rw [valV_neg (fun q => by rw [h.1] at q; cases q; exact n1 hw)]
        exact ih h.2 n2 e
theorem F2.at_ {A B : Type} {R : A → B → Prop} {l : List A} {m : List B} (h : F2 R l m) : ∀ {i : Nat} {b : B}, m[i]? = some b → ∃ a, l[i]? = some a ∧ R a b := by
  induction h with
  | nil => intro i b e; cases e
  | cons q _ ih => intro i b e; cases i with
    | zero => cases e; exact ⟨_, rfl, q⟩
    | succ i => exact ih (i := i) e
theorem keys_dp {kvs : List (Key × V)} {ks : List Str} (h : kvs.map (·.1) = ks.map Sum.inr) {q : Addr} (hq : H q = some (.lst (kvs.map fun kv => kV kv.1))) : Dp K H (.ref q) (.list (ks.map PyData.str)) := by
  refine .lst (.inl (.inl hq)) ?_
  have e : (kvs.map fun kv => kV kv.1) = ks.map V.str := by
    have : (kvs.map fun kv => kV kv.1) = (kvs.map (·.1)).map kV := by rw [List.map_map]; rfl
    rw [this, h, List.map_map]; rfl
  rw [e]
  clear h hq e
  induction ks with
  | nil => exact .nil
  | cons z ks ih => exact .cons (.str _) ih
end
/-- isinstance(x, int) and not isinstance(x, bool), of an int -/
def sp_l_is_int (K : PySem.W.Frag) : Sp := fun vs H Q _ => ∃ i : Int, vs = [.int i] ∧ Q (.bl true) H
theorem len_l_is_int {K : PySem.W.Frag} : ∀ vs H Q E, sp_l_is_int K vs H Q E → vs.length = 1 := by
  rintro vs H Q E ⟨i, rfl, _⟩; rfl
def spn_l_same (K : PySem.W.Frag) : Nat → Sp
  | 0 => fun _ _ _ _ => False
  | n + 1 => fun vs H Q _ => ∃ x y p b, vs = [x, y] ∧ PRn K H n b x p ∧ PRn K H n b y p ∧ ∀ H', Same H H' → Q (.bl true) H'
abbrev sp_l_same (K : PySem.W.Frag) : Sp := spn_l_same K 6
theorem len_l_same {K : PySem.W.Frag} {n : Nat} : ∀ vs H Q E, spn_l_same K n vs H Q E → vs.length = 2 := by
  intro vs H Q E h
  cases n with
  | zero => exact h.elim
  | succ n => obtain ⟨x, y, p, b, rfl, _⟩ := h; rfl
def t_l_is_int (K : PySem.W.Frag) (E : XK) : TS := (tRet (tAndV (tCB (rIsi K) (tCons (tVar 0) (tCons (tC (.ty "int")) tNil))) (tNotV (tCB (rIsi K) (tCons (tVar 0) (tCons (tC (.ty "bool")) tNil))))))
def t_l_same (sp : Sp) (K : PySem.W.Frag) (E : XK) : TS := (tSeq (tIfS (tTest (tOp rIsN (tVar 1) (tC .non))) (tRet (tOp rIsN (tVar 0) (tC .non))) tNext)
  (tSeq (tIfS (tB (tCB (rIsi K) (tCons (tVar 1) (tCons (tC (.ty "bool")) tNil)))) (tRet (tAndV (tCB (rIsi K) (tCons (tVar 0) (tCons (tC (.ty "bool")) tNil))) (tOp rEq (tVar 0) (tVar 1)))) tNext)
  (tSeq (tIfS (tB (tCB (rIsi K) (tCons (tVar 1) (tCons (tC (.ty "int")) tNil)))) (tRet (tAndV (tCall (sp_l_is_int K) [] E (tCons (tVar 0) tNil)) (tOp rEq (tVar 0) (tVar 1)))) tNext)
  (tSeq (tIfS (tB (tCB (rIsi K) (tCons (tVar 1) (tCons (tC (.ty "str")) tNil)))) (tRet (tAndV (tCB (rIsi K) (tCons (tVar 0) (tCons (tC (.ty "str")) tNil))) (tOp rEq (tVar 0) (tVar 1)))) tNext)
  (tSeq (tIfS (tB (tCB (rIsi K) (tCons (tVar 1) (tCons (tC (.ty "dict")) tNil)))) (tSeq (tIfS (tOr (tNot (tB (tCB (rIsi K) (tCons (tVar 0) (tCons (tC (.ty "dict")) tNil))))) (tTest (tOp (rNeP K) (tCB rListD (tCons (tVar 0) tNil)) (tCB rListD (tCons (tVar 1) tNil))))) (tRet (tC (.bl false))) tNext)
  (tSeq (tLock (tFor (iKeys (tVar 1)) (gName 2) (tIfS (tNot (tB (tCall sp [] E (tCons (tDGet (tVar 0) (tVar 2)) (tCons (tDGet (tVar 1) (tVar 2)) tNil))))) (tRet (tC (.bl false))) tNext)))
  (tRet (tC (.bl true))))) tNext)
  (tSeq (tIfS (tAnd (tB (tCB (rIsi K) (tCons (tVar 1) (tCons (tC (.ty "list")) tNil)))) (tNot (tB (tCB (rIsi K) (tCons (tVar 0) (tCons (tC (.ty "list")) tNil)))))) (tRet (tC (.bl false))) tNext)
  (tSeq (tIfS (tAnd (tB (tCB (rIsi K) (tCons (tVar 1) (tCons (tC (.ty "tuple")) tNil)))) (tNot (tB (tCB (rIsi K) (tCons (tVar 0) (tCons (tC (.ty "tuple")) tNil)))))) (tRet (tC (.bl false))) tNext)
  (tSeq (tIfS (tTest (tOp rNe (tCB (rLenQ K) (tCons (tVar 0) tNil)) (tCB (rLenQ K) (tCons (tVar 1) tNil)))) (tRet (tC (.bl false))) tNext)
  (tSeq (tFor (iRng1 (tCons (tCB (rLenQ K) (tCons (tVar 1) tNil)) tNil)) (gName 3) (tIfS (tNot (tB (tCall sp [] E (tCons (tOp (rIx K) (tVar 0) (tVar 3)) (tCons (tOp (rIx K) (tVar 1) (tVar 3)) tNil))))) (tRet (tC (.bl false))) tNext))
  (tRet (tC (.bl true))))))))))))
theorem rd0_l_is_int {K : PySem.W.Frag} {i : Int} {H : Hp} {Q : VK} {E : XK} (h : Q (.bl true) H) : t_l_is_int K E { nx := fun _ H' => Q .non H', rt := Q } [some (.int i)] H := by
  unfold t_l_is_int
  refine c_ret ?_
  refine c_andV ?_
  have hp : PRn K H 0 true (.int i) (.int i) := by unfold PRn; rfl
  refine v_isi (by rfl) hp (r := true) (by show kitB "int" _ = some true; decide +kernel) ?_
  refine ⟨_, rfl, ?_⟩
  refine L2.iteT ?_
  refine c_notV ?_
  refine v_isi (by rfl) hp (r := false) (by show kitB "int" _ = some false; decide +kernel) ?_
  exact ⟨_, rfl, h⟩
theorem rd0_l_same {K : PySem.W.Frag} {n : Nat} {x y : V} {p : PV} {b : Bool} {H : Hp} {Q : VK} {E : XK} (hx : PRn K H n b x p) (hy : PRn K H n b y p) (g : ∀ H', Same H H' → Q (.bl true) H') :
    t_l_same (spn_l_same K n) K E { nx := fun _ H' => Q .non H', rt := Q } [some x, some y, none, none] H := by
  unfold t_l_same
  refine c_seq ?_
  refine c_ifS ?_
  refine c_test ?_
  refine c_op ?_
  refine c_var (by rfl) ?_
  refine c_c ?_
  refine v_isN ?_
  refine c_bl ?_
  cases p with
  | non =>
    unfold PRn at hx hy
    subst hx hy
    refine x_ifT (by decide) ?_
    refine c_ret ?_
    refine c_op ?_
    refine c_var (by rfl) ?_
    refine c_c ?_
    exact v_isN (g H (Same.refl H))
  | bl c =>
    have ex : x = .bl c := by unfold PRn at hx; exact hx
    have ey : y = .bl c := by unfold PRn at hy; exact hy
    refine x_ifF (by rw [ey]; rfl) ?_
    refine c_next ?_
    refine c_seq ?_
    refine c_ifS ?_
    refine s_isi (by rfl) hy (r := true) (by show kitB "bool" _ = some true; decide +kernel) ?_
    refine L2.iteT ?_
    refine c_ret ?_
    refine c_andV ?_
    refine v_isi (by rfl) hx (r := true) (by show kitB "bool" _ = some true; decide +kernel) ?_
    refine ⟨_, rfl, ?_⟩
    refine L2.iteT ?_
    refine c_op ?_
    refine c_var (by rfl) ?_
    refine c_var (by rfl) ?_
    rw [ex, ey]
    refine v_eqB ?_
    simpa using g H (Same.refl H)
  | int c =>
    have ex : x = .int c := by unfold PRn at hx; exact hx
    have ey : y = .int c := by unfold PRn at hy; exact hy
    refine x_ifF (by rw [ey]; rfl) ?_
    refine c_next ?_
    refine c_seq ?_
    refine c_ifS ?_
    refine s_isi (by rfl) hy (r := false) (by show kitB "int" _ = some false; decide +kernel) ?_
    refine L2.iteF ?_
    refine c_next ?_
    refine c_seq ?_
    refine c_ifS ?_
    refine s_isi (by rfl) hy (r := true) (by show kitB "int" _ = some true; decide +kernel) ?_
    refine L2.iteT ?_
    refine c_ret ?_
    refine c_andV ?_
    refine c_call ?_
    refine c_cons ?_
    refine c_var (by rfl) ?_
    refine c_nil ?_
    rw [ex, ey]
    refine ⟨c, rfl, ?_⟩
    refine ⟨_, rfl, ?_⟩
    refine L2.iteT ?_
    refine c_op ?_
    refine c_var (by rfl) ?_
    refine c_var (by rfl) ?_
    refine v_eqI ?_
    simpa using g H (Same.refl H)
  | str c =>
    have ex : x = .str c := by unfold PRn at hx; exact hx
    have ey : y = .str c := by unfold PRn at hy; exact hy
    refine x_ifF (by rw [ey]; rfl) ?_
    refine c_next ?_
    refine c_seq ?_
    refine c_ifS ?_
    refine s_isi (by rfl) hy (r := false) (by show kitB "str" _ = some false; decide +kernel) ?_
    refine L2.iteF ?_
    refine c_next ?_
    refine c_seq ?_
    refine c_ifS ?_
    refine s_isi (by rfl) hy (r := false) (by show kitB "str" _ = some false; decide +kernel) ?_
    refine L2.iteF ?_
    refine c_next ?_
    refine c_seq ?_
    refine c_ifS ?_
    refine s_isi (by rfl) hy (r := true) (by show kitB "str" _ = some true; decide +kernel) ?_
    refine L2.iteT ?_
    refine c_ret ?_
    refine c_andV ?_
    refine v_isi (by rfl) hx (r := true) (by show kitB "str" _ = some true; decide +kernel) ?_
    refine ⟨_, rfl, ?_⟩
    refine L2.iteT ?_
    refine c_op ?_
    refine c_var (by rfl) ?_
    refine c_var (by rfl) ?_
    rw [ex, ey]
    refine v_eqS ?_
    simpa using g H (Same.refl H)
  | dic ks l =>
    cases n with
    | zero => unfold PRn at hx; exact hx.elim
    | succ n =>
    have hx0 := hx
    have hy0 := hy
    unfold PRn at hx hy
    obtain ⟨_, hnd, a, kvx, rfl, hax, kx, vx⟩ := hx
    obtain ⟨_, _, d, kvy, rfl, hdy, ky, vy⟩ := hy
    refine x_ifF (by simp) ?_
    refine c_next ?_
    refine c_seq ?_
    refine c_ifS ?_
    refine s_isi (by rfl) hy0 (r := false) (by show kitB "dict" _ = some false; decide +kernel) ?_
    refine L2.iteF ?_
    refine c_next ?_
    refine c_seq ?_
    refine c_ifS ?_
    refine s_isi (by rfl) hy0 (r := false) (by show kitB "dict" _ = some false; decide +kernel) ?_
    refine L2.iteF ?_
    refine c_next ?_
    refine c_seq ?_
    refine c_ifS ?_
    refine s_isi (by rfl) hy0 (r := false) (by show kitB "dict" _ = some false; decide +kernel) ?_
    refine L2.iteF ?_
    refine c_next ?_
    refine c_seq ?_
    refine c_ifS ?_
    refine s_isi (by rfl) hy0 (r := true) (by show kitB "dict" _ = some true; decide +kernel) ?_
    refine L2.iteT ?_
    refine c_seq ?_
    refine c_ifS ?_
    refine c_or ?_
    refine c_not ?_
    refine s_isi (by rfl) hx0 (r := true) (by show kitB "dict" _ = some true; decide +kernel) ?_
    refine x_ifF rfl ?_
    refine c_test ?_
    refine c_op ?_
    refine c_cb ?_
    refine c_cons ?_
    refine c_var (by rfl) ?_
    refine c_nil ?_
    refine ⟨a, kvx, rfl, .inl hax, fun q1 nq1 => ?_⟩
    have s1 := same_new (o := HO.lst (kvx.map fun kv => kV kv.1)) nq1
    refine c_cb ?_
    refine c_cons ?_
    refine c_var (by rfl) ?_
    refine c_nil ?_
    refine ⟨d, kvy, rfl, .inl (s1 _ _ hdy), fun q2 nq2 => ?_⟩
    have s2 := same_new (o := HO.lst (kvy.map fun kv => kV kv.1)) nq2
    have s3 := s1.trans s2
    have hq1 := s2 _ _ (upd_same (H := H) (a := q1) (o := HO.lst (kvx.map fun kv => kV kv.1)))
    refine ⟨_, _, keys_dp kx hq1, keys_dp ky upd_same, ?_, ?_, ?_, ?_⟩
    · exact Pt.plain (α := List Str) ks
    · exact Pt.plain (α := List Str) ks
    · exact Nat.le_trans (Pt.deep (α := List Str) ks) (by decide)
    refine ⟨false, by rw [show PyData.eqv (.list (ks.map PyData.str)) (.list (ks.map PyData.str)) = true from SeqAt.eqv_refl_plain _ (Pt.plain (α := List Str) ks)]; rfl, ?_⟩
    refine x_ifF rfl ?_
    refine c_next ?_
    generalize (upd (upd H q1 (.lst (kvx.map fun kv => kV kv.1))) q2 (.lst (kvy.map fun kv => kV kv.1))) = H2 at s3 ⊢
    clear hq1 s2 s1 nq1 nq2
    refine c_seq ?_
    have hd2 := s3 _ _ hdy
    have ha2 := s3 _ _ hax
    refine ⟨d, .dK kvy, hd2, trivial, fun od => ?_⟩
    have se : Sees H2 (upd H2 d (.frz od (.dK kvy))) := sees_lock hd2 (fun _ _ _ h => by cases h) (fun _ h => by cases h) (fun _ _ h => by cases h)
    have ra : Rd (upd H2 d (.frz od (.dK kvy))) a (.dK kvx) := by
      by_cases e : a = d
      · subst e
        rw [hd2] at ha2; cases ha2
        exact .inr ⟨od, upd_same⟩
      · exact .inl (by rw [upd_ne e]; exact ha2)
    have hlx : kvx.length = ks.length := by have := congrArg List.length kx; simpa using this
    have hly : kvy.length = ks.length := by have := congrArg List.length ky; simpa using this
    refine c_for ?_
    refine c_iKeys ?_
    refine c_var (by rfl) ?_
    refine ⟨d, od, rfl, .inl ⟨kvy, upd_same, ?_⟩⟩
    refine for_w (n := kvy.length) (Ok := fun H' => H' d = some (.frz od (.dK kvy))) (Y := fun i H x H' => H' = H ∧ ∃ k v, kvy[i]? = some (k, v) ∧ x = kV k) ⟨fun i H h hi => ⟨h, hi⟩, fun i H h hi => ⟨h, hi⟩, fun i H x H' h z => z⟩
      (fun i σ H' => (∃ s2 : Option V, σ = [some (.ref a), some (.ref d), s2, none]) ∧ Same (upd H2 d (.frz od (.dK kvy))) H') ⟨⟨none, rfl⟩, Same.refl _⟩ (fun i σ H' h => h.2 _ _ upd_same) ?_ ?_
    · rintro i x σ H3 H4 hi ⟨⟨s2, rfl⟩, s4⟩ ⟨rfl, k, v, hk, rfl⟩
      refine c_name rfl ?_
      refine c_ifS ?_
      refine c_not ?_
      refine c_tB ?_
      refine c_call ?_
      refine c_cons ?_
      refine c_dget ?_
      refine c_var (by rfl) ?_
      refine c_var (by rfl) ?_
      have hi2 : i < l.length := by have := vy.len; rw [List.length_map] at this; omega
      obtain ⟨w, hw, rw_⟩ := vx.at_ (List.getElem?_eq_getElem hi2)
      obtain ⟨w', hw', rw'⟩ := vy.at_ (List.getElem?_eq_getElem hi2)
      rw [List.getElem?_map] at hw hw'
      rw [hk] at hw'
      cases hw'
      obtain ⟨kv, hkv, rfl⟩ := Option.map_eq_some_iff.mp hw
      have ek : kv.1 = k := by
        have h1 : (kvx.map (·.1))[i]? = some kv.1 := by rw [List.getElem?_map, hkv]; rfl
        have h2 : (kvy.map (·.1))[i]? = some k := by rw [List.getElem?_map, hk]; rfl
        rw [kx, ← ky, h2] at h1
        exact (Option.some.inj h1).symm
      have hxv : valV kvx k = some kv.2 := valV_at kx hnd (i := i) (by rw [hkv, ← ek])
      have hyv : valV kvy k = some v := valV_at ky hnd hk
      refine ⟨a, kv.2, rfl, .inl ⟨kvx, k, rd_same s4 ra, rfl, hxv.symm⟩, ?_⟩
      refine c_cons ?_
      refine c_dget ?_
      refine c_var (by rfl) ?_
      refine c_var (by rfl) ?_
      refine ⟨d, v, rfl, .inl ⟨kvy, k, rd_same s4 (.inr ⟨od, upd_same⟩), rfl, hyv.symm⟩, ?_⟩
      refine c_nil ?_
      refine ⟨_, _, l[i], false, rfl, PRn.mono s4 (PRn.see se (PRn.mono s3 rw_)), PRn.mono s4 (PRn.see se (PRn.mono s3 rw')), fun H5 s5 => ?_⟩
      refine ⟨_, rfl, ?_⟩
      refine x_ifF rfl ?_
      refine c_next ?_
      exact ⟨⟨_, rfl⟩, s4.trans s5⟩
    · rintro σ H3 ⟨⟨s2, rfl⟩, s4⟩
      refine ⟨s4 _ _ upd_same, ?_⟩
      dsimp only
      refine c_ret ?_
      refine c_c ?_
      refine g _ (fun b u e => ?_)
      by_cases hb : b = d
      · subst hb; rw [hdy] at e; rw [upd_same]; exact e
      · rw [upd_ne hb]; exact s4 _ _ (by rw [upd_ne hb]; exact s3 _ _ e)
  | lst l =>
    cases n with
    | zero => unfold PRn at hx; exact hx.elim
    | succ n =>
    have hx0 := hx
    have hy0 := hy
    unfold PRn at hx hy
    obtain ⟨hl, a, xs, rfl, hax, vx⟩ := hx
    obtain ⟨_, d, ys, rfl, hdy, vy⟩ := hy
    have lx := vx.len
    have ly := vy.len
    refine x_ifF (by simp) ?_
    refine c_next ?_
    refine c_seq ?_
    refine c_ifS ?_
    refine s_isi (by rfl) hy0 (r := false) (by show kitB "list" _ = some false; decide +kernel) ?_
    refine L2.iteF ?_
    refine c_next ?_
    refine c_seq ?_
    refine c_ifS ?_
    refine s_isi (by rfl) hy0 (r := false) (by show kitB "list" _ = some false; decide +kernel) ?_
    refine L2.iteF ?_
    refine c_next ?_
    refine c_seq ?_
    refine c_ifS ?_
    refine s_isi (by rfl) hy0 (r := false) (by show kitB "list" _ = some false; decide +kernel) ?_
    refine L2.iteF ?_
    refine c_next ?_
    refine c_seq ?_
    refine c_ifS ?_
    refine s_isi (by rfl) hy0 (r := false) (by show kitB "list" _ = some false; decide +kernel) ?_
    refine L2.iteF ?_
    refine c_next ?_
    refine c_seq ?_
    refine c_ifS ?_
    refine c_and ?_
    refine s_isi (by rfl) hy0 (r := true) (by show kitB "list" _ = some true; decide +kernel) ?_
    refine L2.iteT ?_
    refine c_not ?_
    refine s_isi (by rfl) hx0 (r := true) (by show kitB "list" _ = some true; decide +kernel) ?_
    refine x_ifF rfl ?_
    refine c_next ?_
    refine c_seq ?_
    refine c_ifS ?_
    refine c_and ?_
    refine s_isi (by rfl) hy0 (r := false) (by show kitB "list" _ = some false; decide +kernel) ?_
    refine L2.iteF ?_
    refine x_ifF rfl ?_
    refine c_next ?_
    refine c_seq ?_
    refine c_ifS ?_
    refine c_test ?_
    refine c_op ?_
    refine c_cb ?_
    refine c_cons ?_
    refine c_var (by rfl) ?_
    refine c_nil ?_
    refine v_lenL (sqL_of hax) ?_
    refine c_cb ?_
    refine c_cons ?_
    refine c_var (by rfl) ?_
    refine c_nil ?_
    refine v_lenL (sqL_of hdy) ?_
    refine v_neI ?_
    refine c_bl ?_
    refine x_ifF (by rw [lx, ly]; simp) ?_
    refine c_next ?_
    refine c_seq ?_
    refine c_for ?_
    refine c_rng1 ?_
    refine c_cons ?_
    refine c_cb ?_
    refine c_cons ?_
    refine c_var (by rfl) ?_
    refine c_nil ?_
    refine v_lenL (sqL_of hdy) ?_
    refine c_nil ?_
    refine ⟨_, rfl, by omega, by omega, ?_⟩
    refine for_w wlk_rng (fun i σ H' => (∃ s3 : Option V, σ = [some (.ref a), some (.ref d), none, s3]) ∧ Same H H') ⟨⟨none, rfl⟩, Same.refl _⟩ (fun i σ H' h => trivial) ?_ ?_
    · rintro i x σ H3 H4 hi ⟨⟨s3, rfl⟩, s4⟩ ⟨rfl, rfl⟩
      rw [Int.toNat_natCast] at hi
      have hi2 : i < l.length := by omega
      obtain ⟨w, hw, rw_⟩ := vx.at_ (List.getElem?_eq_getElem hi2)
      obtain ⟨w', hw', rw'⟩ := vy.at_ (List.getElem?_eq_getElem hi2)
      rw [Int.zero_add]
      refine c_name rfl ?_
      refine c_ifS ?_
      refine c_not ?_
      refine c_tB ?_
      refine c_call ?_
      refine c_cons ?_
      refine c_op ?_
      refine c_var (by rfl) ?_
      refine c_var (by rfl) ?_
      refine .inl (v_ixL (sqL_of (s4 _ _ hax)) (atI_nat hw) ?_)
      refine c_cons ?_
      refine c_op ?_
      refine c_var (by rfl) ?_
      refine c_var (by rfl) ?_
      refine .inl (v_ixL (sqL_of (s4 _ _ hdy)) (atI_nat hw') ?_)
      refine c_nil ?_
      refine ⟨_, _, l[i], b, rfl, PRn.mono s4 rw_, PRn.mono s4 rw', fun H5 s5 => ?_⟩
      refine ⟨_, rfl, ?_⟩
      refine x_ifF rfl ?_
      refine c_next ?_
      exact ⟨⟨_, rfl⟩, s4.trans s5⟩
    · rintro σ H3 ⟨⟨s3, rfl⟩, s4⟩
      refine c_ret ?_
      refine c_c ?_
      exact g _ s4
  | tup l =>
    cases n with
    | zero => unfold PRn at hx; exact hx.elim
    | succ n =>
    have hx0 := hx
    have hy0 := hy
    unfold PRn at hx hy
    obtain ⟨hl, a, xs, rfl, hax, vx⟩ := hx
    obtain ⟨_, d, ys, rfl, hdy, vy⟩ := hy
    have lx := vx.len
    have ly := vy.len
    refine x_ifF (by simp) ?_
    refine c_next ?_
    refine c_seq ?_
    refine c_ifS ?_
    refine s_isi (by rfl) hy0 (r := false) (by show kitB "tuple" _ = some false; decide +kernel) ?_
    refine L2.iteF ?_
    refine c_next ?_
    refine c_seq ?_
    refine c_ifS ?_
    refine s_isi (by rfl) hy0 (r := false) (by show kitB "tuple" _ = some false; decide +kernel) ?_
    refine L2.iteF ?_
    refine c_next ?_
    refine c_seq ?_
    refine c_ifS ?_
    refine s_isi (by rfl) hy0 (r := false) (by show kitB "tuple" _ = some false; decide +kernel) ?_
    refine L2.iteF ?_
    refine c_next ?_
    refine c_seq ?_
    refine c_ifS ?_
    refine s_isi (by rfl) hy0 (r := false) (by show kitB "tuple" _ = some false; decide +kernel) ?_
    refine L2.iteF ?_
    refine c_next ?_
    refine c_seq ?_
    refine c_ifS ?_
    refine c_and ?_
    refine s_isi (by rfl) hy0 (r := false) (by show kitB "tuple" _ = some false; decide +kernel) ?_
    refine L2.iteF ?_
    refine x_ifF rfl ?_
    refine c_next ?_
    refine c_seq ?_
    refine c_ifS ?_
    refine c_and ?_
    refine s_isi (by rfl) hy0 (r := true) (by show kitB "tuple" _ = some true; decide +kernel) ?_
    refine L2.iteT ?_
    refine c_not ?_
    refine s_isi (by rfl) hx0 (r := true) (by show kitB "tuple" _ = some true; decide +kernel) ?_
    refine x_ifF rfl ?_
    refine c_next ?_
    refine c_seq ?_
    refine c_ifS ?_
    refine c_test ?_
    refine c_op ?_
    refine c_cb ?_
    refine c_cons ?_
    refine c_var (by rfl) ?_
    refine c_nil ?_
    refine v_lenT hax ?_
    refine c_cb ?_
    refine c_cons ?_
    refine c_var (by rfl) ?_
    refine c_nil ?_
    refine v_lenT hdy ?_
    refine v_neI ?_
    refine c_bl ?_
    refine x_ifF (by rw [lx, ly]; simp) ?_
    refine c_next ?_
    refine c_seq ?_
    refine c_for ?_
    refine c_rng1 ?_
    refine c_cons ?_
    refine c_cb ?_
    refine c_cons ?_
    refine c_var (by rfl) ?_
    refine c_nil ?_
    refine v_lenT hdy ?_
    refine c_nil ?_
    refine ⟨_, rfl, by omega, by omega, ?_⟩
    refine for_w wlk_rng (fun i σ H' => (∃ s3 : Option V, σ = [some (.ref a), some (.ref d), none, s3]) ∧ Same H H') ⟨⟨none, rfl⟩, Same.refl _⟩ (fun i σ H' h => trivial) ?_ ?_
    · rintro i x σ H3 H4 hi ⟨⟨s3, rfl⟩, s4⟩ ⟨rfl, rfl⟩
      rw [Int.toNat_natCast] at hi
      have hi2 : i < l.length := by omega
      obtain ⟨w, hw, rw_⟩ := vx.at_ (List.getElem?_eq_getElem hi2)
      obtain ⟨w', hw', rw'⟩ := vy.at_ (List.getElem?_eq_getElem hi2)
      rw [Int.zero_add]
      refine c_name rfl ?_
      refine c_ifS ?_
      refine c_not ?_
      refine c_tB ?_
      refine c_call ?_
      refine c_cons ?_
      refine c_op ?_
      refine c_var (by rfl) ?_
      refine c_var (by rfl) ?_
      refine .inr (.inl (v_ixT ((seqT_same s4 hax)) (atI_nat hw) ?_))
      refine c_cons ?_
      refine c_op ?_
      refine c_var (by rfl) ?_
      refine c_var (by rfl) ?_
      refine .inr (.inl (v_ixT ((seqT_same s4 hdy)) (atI_nat hw') ?_))
      refine c_nil ?_
      refine ⟨_, _, l[i], b, rfl, PRn.mono s4 rw_, PRn.mono s4 rw', fun H5 s5 => ?_⟩
      refine ⟨_, rfl, ?_⟩
      refine x_ifF rfl ?_
      refine c_next ?_
      exact ⟨⟨_, rfl⟩, s4.trans s5⟩
    · rintro σ H3 ⟨⟨s3, rfl⟩, s4⟩
      refine c_ret ?_
      refine c_c ?_
      exact g _ s4
/-! ### Lean's values as data -/
class Pv (α : Type) [Rp α] where
  pv : α → PV
  sm : α → Prop
  dp : Nat
  fl : Bool
  ok : ∀ {K : PySem.W.Frag} {H : Hp} {n : Nat} {b : Bool} {x : V} {a : α}, dp ≤ n → (fl = true → b = true ∧ ∀ (c : Addr) (w : Obj) (u : List (Key × V)), H c ≠ some (.frz w (.dK u))) → Rp.rep K H x a → sm a → PRn K H n b x (pv a)
instance : Pv Int := ⟨.int, fun _ => True, 0, false, fun _ _ h _ => by unfold PRn; exact h⟩
instance : Pv Bool := ⟨.bl, fun _ => True, 0, false, fun _ _ h _ => by unfold PRn; exact h⟩
instance : Pv Str := ⟨.str, fun _ => True, 0, false, fun _ _ h _ => by unfold PRn; exact h⟩
instance : Pv Unit := ⟨fun _ => .non, fun _ => True, 0, false, fun _ _ h _ => by unfold PRn; exact h⟩
section
variable {α β γ δ ε : Type} [Rp α] [Rp β] [Rp γ] [Rp δ] [Rp ε] [Pv α] [Pv β] [Pv γ] [Pv δ] [Pv ε]
theorem pv_all {K : PySem.W.Frag} {H : Hp} {n : Nat} {b : Bool} {xs : List V} {l : List α} (hn : Pv.dp α ≤ n) (hf : Pv.fl α = true → b = true ∧ ∀ (c : Addr) (w : Obj) (u : List (Key × V)), H c ≠ some (.frz w (.dK u))) (h : Reps K H xs l) (hs : ∀ a ∈ l, Pv.sm a) :
    F2 (PRn K H n b) xs (l.map Pv.pv) := by
  induction h with
  | nil => exact .nil
  | cons q _ ih => exact .cons (Pv.ok hn hf q (hs _ (List.mem_cons_self ..))) (ih fun a ha => hs a (List.mem_cons_of_mem _ ha))
instance : Pv (List α) := ⟨fun l => .lst (l.map Pv.pv), fun l => l.length ≤ 1000 ∧ ∀ a ∈ l, Pv.sm a, Pv.dp α + 1, Pv.fl α, fun {K H n b x l} hn hf h hs => by
  cases n with
  | zero => omega
  | succ n =>
    unfold PRn
    obtain ⟨p, xs, rfl, q, rs⟩ := h
    exact ⟨by rw [List.length_map]; exact hs.1, p, xs, rfl, q, pv_all (by omega) hf rs hs.2⟩⟩
instance : Pv (Option α) := ⟨fun o => match o with | none => .non | some a => Pv.pv a, fun o => match o with | none => True | some a => Pv.sm a, Pv.dp α, Pv.fl α, fun {K H n b x o} hn hf h hs => by
  cases o with
  | none => show PRn K H n b x .non; unfold PRn; exact h
  | some a => exact Pv.ok hn hf h.2 hs⟩
instance : Pv (T2 α β) := ⟨fun t => .tup [Pv.pv t.a, Pv.pv t.b], fun t => Pv.sm t.a ∧ Pv.sm t.b, max (Pv.dp α) (Pv.dp β) + 1, Pv.fl α || Pv.fl β, fun {K H n b x t} hn hf h hs => by
  cases n with
  | zero => omega
  | succ n =>
    unfold PRn
    obtain ⟨p, x1, x2, rfl, q, r1, r2⟩ := h
    exact ⟨by simp, p, _, rfl, q, .cons (Pv.ok (by omega) (fun e => hf (by rw [e]; rfl)) r1 hs.1) (.cons (Pv.ok (by omega) (fun e => hf (by rw [e, Bool.or_true])) r2 hs.2) .nil)⟩⟩
instance : Pv (T3 α β γ) := ⟨fun t => .tup [Pv.pv t.a, Pv.pv t.b, Pv.pv t.c], fun t => Pv.sm t.a ∧ Pv.sm t.b ∧ Pv.sm t.c, max (Pv.dp α) (max (Pv.dp β) (Pv.dp γ)) + 1, Pv.fl α || (Pv.fl β || Pv.fl γ), fun {K H n b x t} hn hf h hs => by
  cases n with
  | zero => omega
  | succ n =>
    unfold PRn
    obtain ⟨p, x1, x2, x3, rfl, q, r1, r2, r3⟩ := h
    exact ⟨by simp, p, _, rfl, q, .cons (Pv.ok (by omega) (fun e => hf (by simp [e])) r1 hs.1) (.cons (Pv.ok (by omega) (fun e => hf (by simp [e])) r2 hs.2.1) (.cons (Pv.ok (by omega) (fun e => hf (by simp [e])) r3 hs.2.2) .nil))⟩⟩
instance : Pv (T5 α β γ δ ε) := ⟨fun t => .tup [Pv.pv t.a, Pv.pv t.b, Pv.pv t.c, Pv.pv t.d, Pv.pv t.e], fun t => Pv.sm t.a ∧ Pv.sm t.b ∧ Pv.sm t.c ∧ Pv.sm t.d ∧ Pv.sm t.e, max (Pv.dp α) (max (Pv.dp β) (max (Pv.dp γ) (max (Pv.dp δ) (Pv.dp ε)))) + 1, Pv.fl α || (Pv.fl β || (Pv.fl γ || (Pv.fl δ || Pv.fl ε))), fun {K H n b x t} hn hf h hs => by
  cases n with
  | zero => omega
  | succ n =>
    unfold PRn
    obtain ⟨p, x1, x2, x3, x4, x5, rfl, q, r1, r2, r3, r4, r5⟩ := h
    exact ⟨by simp, p, _, rfl, q, .cons (Pv.ok (by omega) (fun e => hf (by simp [e])) r1 hs.1) (.cons (Pv.ok (by omega) (fun e => hf (by simp [e])) r2 hs.2.1) (.cons (Pv.ok (by omega) (fun e => hf (by simp [e])) r3 hs.2.2.1) (.cons (Pv.ok (by omega) (fun e => hf (by simp [e])) r4 hs.2.2.2.1) (.cons (Pv.ok (by omega) (fun e => hf (by simp [e])) r5 hs.2.2.2.2) .nil))))⟩⟩
instance : Pv (Dc Str β) := ⟨fun d => .dic (d.l.map (·.1)) (d.l.map fun p => Pv.pv p.2), fun d => Pv.fl β = false ∧ (d.l.map (·.1)).Nodup ∧ ∀ p ∈ d.l, Pv.sm p.2, Pv.dp β + 1, true, fun {K H n b x d} hn hf h hs => by
  cases n with
  | zero => omega
  | succ n =>
    unfold PRn
    obtain ⟨p, kvs, rfl, q, rs⟩ := h
    obtain ⟨h1, h2, h3⟩ := hs
    obtain ⟨dl⟩ := d
    change KReps K H kvs dl at rs
    have q2 : H p = some (.dK kvs) := q.elim id fun ⟨o, q⟩ => absurd q ((hf rfl).2 _ _ _)
    refine ⟨(hf rfl).1, h2, p, kvs, rfl, q2, ?_, ?_⟩
    · clear h2 h3 q q2
      induction rs with
      | nil => rfl
      | cons e _ ih => rw [List.map_cons, List.map_cons, List.map_cons, ih, e.1]; rfl
    · clear h2 q q2
      induction rs with
      | nil => exact .nil
      | cons e _ ih => exact .cons (Pv.ok (by omega) (fun z => by rw [h1] at z; cases z) e.2 (h3 _ (List.mem_cons_self ..))) (ih fun p hp => h3 p (List.mem_cons_of_mem _ hp))⟩
end
def sameD {α β : Type} [Rp α] [Rp β] [Pv α] [Pv β] (a : α) (b : β) : D Bool := D.asr (Pv.pv a = Pv.pv b ∧ Pv.sm a ∧ Pv.sm b) (D.pure true)
theorem d_same {α : Type} [Rp α] [Pv α] {a b : α} {Q : Bool → Prop} {E : Ex → Prop} (h : a = b) (hs : Pv.sm a) (k : Q true) : (sameD a b).run Q E := by
  subst h
  exact ⟨⟨rfl, hs, hs⟩, k⟩
section
variable {α β ρ : Type} [Rp α] [Rp β] [Pv α] [Pv β] {K : PySem.W.Frag} {F H : Hp} {pp : Md} {os : Os} {x y : V} {a : α} {b : β} {Q : VK} {QQ : ρ → Prop} {EE : Ex → Prop} {E : XK} {k : Bool → D ρ}
theorem same_call (rx : Rpv K H pp.lk x a) (ry : Rpv K H pp.lk y b) (hd : max (Pv.dp α) (Pv.dp β) ≤ 5) (hf : (Pv.fl α || Pv.fl β) = true → pp.lk = none) (h : (D.bind (sameD a b) k).run QQ EE) (g : ∀ H', Same H H' → (k true).run QQ EE → Q (.bl true) H') : sp_l_same K ([x, y] ++ []) H Q E := by
  obtain ⟨G, s, z, r⟩ := rx
  obtain ⟨G', s', z', r'⟩ := ry
  obtain ⟨⟨e, m1, m2⟩, h⟩ := h
  refine ⟨x, y, Pv.pv a, true, rfl, ?_, ?_, fun H' s2 => g H' s2 h⟩
  · exact PRn.mono s (Pv.ok (n := 5) (Nat.le_trans (Nat.le_max_left _ _) hd) (fun q => ⟨rfl, fun c w u e => by have := z c w u e; rw [hf (by rw [q]; rfl)] at this; cases this⟩) r m1)
  · rw [e]
    exact PRn.mono s' (Pv.ok (n := 5) (Nat.le_trans (Nat.le_max_right _ _) hd) (fun q => ⟨rfl, fun c w u e => by have := z' c w u e; rw [hf (by rw [q, Bool.or_true])] at this; cases this⟩) r' m2)
theorem Own.drop {p : Addr} {o : HO} (I : Own K F H pp ((p, o) :: os)) : Own K F (ItX.dropH H p) pp os := by
  have ne : ∀ (i : Nat) (c : Addr) (u : HO), os[i]? = some (c, u) → c ≠ p := fun i c u e z => by
    subst z
    have := I.dj 0 (i + 1) c o u rfl e
    omega
  refine ⟨fun b u e => ?_, I.nl, fun c e => ?_, fun i c u e => ?_, I.tl.dj⟩
  · rw [ItX.dropH_ne (ne_of_none e (I.own 0 _ _ rfl).1)]; exact I.ex b u e
  · obtain ⟨h1, h2, n, d, ca, ns, h3, h4⟩ := I.pl c e
    have hc : p ≠ c := h2 0 p o rfl
    exact ⟨h1, fun i b u q => h2 (i + 1) b u q, n, d, ca, ns, by rw [ItX.dropH_ne hc.symm]; exact h3, h4⟩
  · obtain ⟨h1, h2⟩ := I.tl.own i c u e
    exact ⟨h1, by rw [ItX.dropH_ne (ne i c u e)]; exact h2⟩
end
end Rm

/-! PN: plain laws: steps of models, valid names -/
namespace Rm
open PySem PySem.Spec L2
/-! ### signs -/
def isL (c : Nat) : Bool := decide (97 ≤ c) && decide (c ≤ 122)
def isLD (c : Nat) : Bool := (decide (97 ≤ c) && decide (c ≤ 122)) || (decide (48 ≤ c) && decide (c ≤ 57))
def alnum (w : Str) : Bool := (tl w).all isLD
/-- is_name -/
def nameB (z : Str) : Bool := (decide (1 ≤ z.length) && decide (z.length ≤ 8)) && ((tl z).head?.any isL && (tl z).all isLD)
theorem alnum_app {a b : Str} (ha : alnum a = true) (hb : alnum b = true) : alnum (a ++ b) = true := by
  unfold alnum at *
  rw [tl_app, List.all_append, ha, hb]; rfl
theorem alnum_sgl {c : Nat} (h : isLD c = true) : alnum ⟨#[c]⟩ = true := by
  unfold alnum; rw [tl_sgl]; simp [h]
theorem ix_all {z : Str} {p : Nat → Bool} {r : Int} {n : Nat} (ha : (tl z).all p = true) (hn : z.length = n) (h0 : 0 ≤ r) (h1 : r < (n : Int)) : ∃ c, atI (tl z) r = some c ∧ p c = true := by
  have e : r = ((r.toNat : Nat) : Int) := by omega
  have hl : r.toNat < (tl z).length := by rw [← len_tl, hn]; omega
  obtain ⟨k, hk⟩ : ∃ k : Nat, r = (k : Int) := ⟨_, e⟩
  subst hk
  rw [Int.toNat_natCast] at hl
  exact ⟨(tl z)[k], atI_nat (by simp [hl]), List.all_eq_true.mp ha _ (List.getElem_mem _)⟩
abbrev zAl : Str := Str.ofString "abcdefghijklmnopqrstuvwxyz0123456789"
abbrev zLe : Str := Str.ofString "abcdefghijklmnopqrstuvwxyz"
abbrev zDi : Str := Str.ofString "0123456789"
theorem zAl_len : zAl.length = 36 := by decide +kernel
theorem zLe_len : zLe.length = 26 := by decide +kernel
theorem zAl_all : (tl zAl).all isLD = true := by decide +kernel
theorem zLe_all : (tl zLe).all isL = true := by decide +kernel
theorem isLD_of {c : Nat} (h : isL c = true) : isLD c = true := by unfold isL at h; unfold isLD; rw [h]; rfl

/-! ### names -/
/-- "z" and a number -/
def zn (j : Nat) : Str := Str.ofString "z" ++ Str.ofString (toString (j : Int))
theorem zn_names : ∀ j, j < 13 → nameB (zn j) = true := by decide +kernel
theorem zn_len : ∀ j, j < 13 → (zn j).length ≤ 3 := by decide +kernel
theorem zn_nd : ((List.range 13).map zn).Nodup := by decide +kernel
theorem nameB_len {z : Str} (h : nameB z = true) : 1 ≤ z.length ∧ z.length ≤ 8 := by
  unfold nameB at h
  simp only [Bool.and_eq_true, decide_eq_true_eq] at h
  exact h.1
theorem nameB_app {c : Nat} {w : Str} (hc : isL c = true) (hw : w.length ≤ 7) (ha : alnum w = true) : nameB (⟨#[c]⟩ ++ w) = true := by
  unfold nameB
  rw [len_app, len_sgl, tl_app, tl_sgl]
  unfold alnum at ha
  have h1 : (decide (1 ≤ 1 + w.length) && decide (1 + w.length ≤ 8)) = true := by simp; omega
  rw [h1]
  simp [hc, ha, isLD_of hc]
theorem app_assoc (a b c : Str) : (a ++ b) ++ c = a ++ (b ++ c) := str_ext (by rw [tl_app, tl_app, tl_app, tl_app, List.append_assoc])

theorem tl_zLe : tl zLe = [97, 98, 99, 100, 101, 102, 103, 104, 105, 106, 107, 108, 109, 110, 111, 112, 113, 114, 115, 116, 117, 118, 119, 120, 121, 122] := by decide +kernel
theorem tl_zDi : tl zDi = [48, 49, 50, 51, 52, 53, 54, 55, 56, 57] := by decide +kernel
theorem in_zLe (c : Nat) : decide (c ∈ zLe.cps.toList) = isL c := by
  have e : zLe.cps.toList = _ := tl_zLe
  rw [e]
  unfold isL
  rw [← Bool.decide_and]
  apply decide_eq_decide.mpr
  simp only [List.mem_cons, List.not_mem_nil, or_false]
  omega
theorem in_zDi (c : Nat) : decide (c ∈ zDi.cps.toList) = (decide (48 ≤ c) && decide (c ≤ 57)) := by
  have e : zDi.cps.toList = _ := tl_zDi
  rw [e, ← Bool.decide_and]
  apply decide_eq_decide.mpr
  simp only [List.mem_cons, List.not_mem_nil, or_false]
  omega
theorem isLD_or (c : Nat) : isLD c = (decide (c ∈ zLe.cps.toList) || decide (c ∈ zDi.cps.toList)) := by
  rw [in_zLe, in_zDi]; rfl
/-! ### steps of a model -/
section
variable {α β : Type} {Q : α → Prop} {E : Ex → Prop}
/-- what is due behind -/
def D.kont (k : β → D α) (Q : α → Prop) (E : Ex → Prop) : β → Prop := fun b => (k b).run Q E
theorem D.bindI {m : D β} {k : β → D α} (h : m.run (D.kont k Q E) E) : (D.bind m k).run Q E := h
theorem D.kontI {k : β → D α} {b : β} (h : (k b).run Q E) : D.kont k Q E b := h
theorem D.pureI {a : α} (h : Q a) : (D.pure a).run Q E := h
theorem D.asrI {c : Prop} {m : D α} (hc : c) (h : m.run Q E) : (D.asr c m).run Q E := ⟨hc, h⟩
theorem D.raiseI {e : Ex} (h : E e) : (D.raise e : D α).run Q E := h
theorem d_draw {n : Int} {Q : Int → Prop} (h0 : 0 < n) (h1 : n < 4611686018427387904) (k : ∀ r, 0 ≤ r → r < n → Q r) : (draw n).run Q E := ⟨⟨h0, h1⟩, fun r h => k r h.1 h.2⟩
theorem d_addS {a b : Str} {Q : Str → Prop} (h : a.length + b.length ≤ 1000) (k : Q (a ++ b)) : (addS a b).run Q E := ⟨by rw [sizeLine_eq]; omega, k⟩
theorem d_lenS {a : Str} {Q : Int → Prop} (h : a.length ≤ sizeLine) (k : Q (a.length : Int)) : (lenS a).run Q E := ⟨h, k⟩
theorem d_strI {a : Int} {Q : Str → Prop} (h : a.natAbs.log2 < 1920) (k : Q (toString a)) : (strI a).run Q E := ⟨h, k⟩
theorem d_modI {a b : Int} {Q : Int → Prop} (h : 0 < b) (k : Q (a % b)) : (modI a b).run Q E := ⟨h, k⟩
theorem d_rng {a b : Int} {Q : List Int → Prop} (h : -1000000 ≤ a ∧ a < 1000000 ∧ -1000000 ≤ b ∧ b < 1000000) (k : Q (rngL a b)) : (rng a b).run Q E := ⟨by omega, k⟩
theorem d_app {l : List β} {a : β} {Q : List β → Prop} (h : l.length < 1000) (k : Q (l ++ [a])) : (app l a).run Q E := ⟨by rw [sizeLine_eq]; omega, k⟩
theorem d_ixL {l : List β} {i : Int} {Q : β → Prop} {n : Nat} (e : i = (n : Int)) (h : n < l.length) (k : Q l[n]) : (ixL l i).run Q E := by
  subst e
  exact ⟨_, atI_nat (List.getElem?_eq_getElem h), k⟩
theorem d_ixL' {l : List β} {i : Int} {Q : β → Prop} (h0 : 0 ≤ i) (h : i < (l.length : Int)) (k : ∀ a, a ∈ l → l[i.toNat]? = some a → Q a) : (ixL l i).run Q E := by
  obtain ⟨n, rfl⟩ : ∃ n : Nat, i = (n : Int) := ⟨i.toNat, by omega⟩
  have hn : n < l.length := by omega
  exact d_ixL rfl hn (k _ (List.getElem_mem hn) (by rw [Int.toNat_natCast]; exact List.getElem?_eq_getElem hn))
theorem d_ixS {z : Str} {i : Int} {p : Nat → Bool} {n : Nat} {Q : Str → Prop} (ha : (tl z).all p = true) (hn : z.length = n) (hz : n ≤ 1000) (h0 : 0 ≤ i) (h1 : i < (n : Int)) (k : ∀ c, p c = true → Q ⟨#[c]⟩) : (ixS z i).run Q E := by
  obtain ⟨c, hc, hp⟩ := ix_all ha hn h0 h1
  exact ⟨_, ⟨by rw [hn, sizeLine_eq]; omega, c, hc, rfl⟩, k c hp⟩
theorem d_dget {κ : Type} [DecidableEq κ] {d : Dc κ β} {k : κ} {v : β} {Q : β → Prop} (h : getD d.l k = some v) (q : Q v) : (dget d k).run Q E := ⟨v, h, q⟩
theorem d_dput {κ : Type} [DecidableEq κ] {d : Dc κ β} {k : κ} {v : β} {Q : Dc κ β → Prop} (h : d.l.length < 1000) (q : Q ⟨putD d.l k v⟩) : (dput d k v).run Q E := ⟨by rw [sizeLine_eq]; omega, q⟩
theorem len_rngL {a b : Int} : (rngL a b).length = (b - a).toNat := by unfold rngL; rw [List.length_map, List.length_range]
theorem rngL_get {a b : Int} {i : Nat} {x : Int} (h : (rngL a b)[i]? = some x) : x = a + (i : Int) ∧ (i : Int) < b - a := by
  have hi : i < (b - a).toNat := by rw [← len_rngL]; exact (List.getElem?_eq_some_iff.mp h).1
  unfold rngL at h
  rw [List.getElem?_map, List.getElem?_range hi] at h
  cases h
  exact ⟨rfl, by omega⟩
theorem d_fold {ι S : Type} {body : ι → S → (S → D α) → (S → D α) → D α} {k : S → D α} {l : List ι} {s0 : S} (Pv : S → Prop) (h0 : Pv s0)
    (hs : ∀ a s (nx : S → D α), a ∈ l → Pv s → (∀ s', Pv s' → (nx s').run Q E) → (body a s nx k).run Q E) (hd : ∀ s, Pv s → (k s).run Q E) : (D.loop body k l s0).run Q E :=
  d_loop (fun _ s => Pv s) h0 (fun i a s nx ha p hn => hs a s nx (List.mem_of_getElem? ha) p hn) hd
/-- a list made of all items by a plain function -/
theorem d_map {ι : Type} {g : ι → β} {l : List ι} {Q : List β → Prop} (hl : l.length ≤ 1000) (h : Q (l.map g)) : (D.lc (fun a => D.pure (some (g a))) l []).run Q E := by
  refine d_lc (by rw [sizeLine_eq]; omega) (fun i r => r = (l.take i).map g) rfl (fun i a acc Q1 ha _ p h1 _ => ?_) (fun r p => ?_)
  · refine h1 _ ?_
    rw [p, List.take_succ, ha, List.map_append]; rfl
  · rw [p, List.take_length]; exact h
end
/-! ### dicts in models -/
section
variable {κ β : Type} [DecidableEq κ]
theorem getD_nil {k : κ} : getD ([] : List (κ × β)) k = none := rfl
theorem getD_cons {p : κ × β} {l : List (κ × β)} {k : κ} : getD (p :: l) k = if p.1 = k then some p.2 else getD l k := by
  unfold getD
  rw [List.find?_cons]
  by_cases e : p.1 = k
  · simp [e]
  · simp [e]
theorem getD_map {k j : κ} {v : β} (l : List (κ × β)) : getD (l.map fun p => if p.1 = k then (p.1, v) else p) j = (getD l j).map fun x => if j = k then v else x := by
  induction l with
  | nil => rfl
  | cons p l ih =>
    rw [List.map_cons, getD_cons, getD_cons, ih]
    by_cases h : p.1 = k
    · rw [if_pos h]
      by_cases e : p.1 = j
      · rw [if_pos e, if_pos e]; rw [Option.map_some, if_pos (e.symm.trans h)]
      · rw [if_neg e, if_neg e]
    · rw [if_neg h]
      by_cases e : p.1 = j
      · rw [if_pos e, if_pos e, Option.map_some, if_neg (fun z => h (e.trans z))]
      · rw [if_neg e, if_neg e]
theorem getD_app {l m : List (κ × β)} {k : κ} : getD (l ++ m) k = (getD l k).or (getD m k) := by
  induction l with
  | nil => rfl
  | cons p l ih =>
    rw [List.cons_append, getD_cons, getD_cons, ih]
    by_cases e : p.1 = k
    · rw [if_pos e, if_pos e]; rfl
    · rw [if_neg e, if_neg e]
theorem getD_any {l : List (κ × β)} {k : κ} : (l.any fun p => decide (p.1 = k)) = (getD l k).isSome := by
  induction l with
  | nil => rfl
  | cons p l ih =>
    rw [List.any_cons, getD_cons, ih]
    by_cases e : p.1 = k
    · simp [e]
    · simp [e]
theorem getD_putD {l : List (κ × β)} {k j : κ} {v : β} : getD (putD l k v) j = if j = k then some v else getD l j := by
  unfold putD
  by_cases c : (l.any fun p => decide (p.1 = k)) = true
  · rw [if_pos c, getD_map]
    by_cases e : j = k
    · subst e
      rw [getD_any] at c
      obtain ⟨x, hx⟩ := Option.isSome_iff_exists.mp c
      rw [hx, if_pos rfl]; simp
    · rw [if_neg e]; simp [e]
  · rw [if_neg c, getD_app, getD_cons, getD_nil]
    by_cases e : j = k
    · subst e
      rw [getD_any] at c
      have : getD l j = none := by simpa using c
      simp [this]
    · rw [if_neg e, if_neg (fun z => e z.symm)]; simp
theorem len_putD {l : List (κ × β)} {k : κ} {v : β} : (putD l k v).length ≤ l.length + 1 := by
  unfold putD
  split
  · rw [List.length_map]; omega
  · rw [List.length_append]; simp
theorem len_putD_of {l : List (κ × β)} {k : κ} {v : β} (h : (getD l k).isSome = true) : (putD l k v).length = l.length := by
  unfold putD
  rw [getD_any, if_pos h, List.length_map]
theorem keys_putD_of {l : List (κ × β)} {k : κ} {v : β} (h : (getD l k).isSome = true) : (putD l k v).map (·.1) = l.map (·.1) := by
  unfold putD
  rw [getD_any, if_pos h, List.map_map]
  congr 1
  funext p
  show (if p.1 = k then (p.1, v) else p).1 = p.1
  split <;> rfl
theorem putD_new {l : List (κ × β)} {k : κ} {v : β} (h : getD l k = none) : putD l k v = l ++ [(k, v)] := by
  unfold putD
  rw [getD_any, h]; rfl
theorem getD_none {l : List (κ × β)} {k : κ} : getD l k = none ↔ k ∉ l.map (·.1) := by
  induction l with
  | nil => simp [getD_nil]
  | cons p l ih =>
    rw [getD_cons, List.map_cons, List.mem_cons]
    by_cases e : p.1 = k
    · rw [if_pos e]; simp [e]
    · rw [if_neg e, ih]
      exact ⟨fun h z => z.elim (fun z => e z.symm) h, fun h z => h (.inr z)⟩
theorem getD_some {l : List (κ × β)} {k : κ} : (getD l k).isSome = true ↔ k ∈ l.map (·.1) := by
  cases h : getD l k with
  | none => exact ⟨fun z => (by cases z), fun z => absurd z (getD_none.mp h)⟩
  | some v => exact ⟨fun _ => Classical.byContradiction fun z => (by rw [getD_none.mpr z] at h; cases h), fun _ => rfl⟩
theorem getD_mem {l : List (κ × β)} {k : κ} {v : β} (h : getD l k = some v) : (k, v) ∈ l := by
  induction l with
  | nil => cases h
  | cons p l ih =>
    rw [getD_cons] at h
    by_cases e : p.1 = k
    · rw [if_pos e] at h; cases h; rw [← e]; exact List.mem_cons_self ..
    · rw [if_neg e] at h; exact List.mem_cons_of_mem _ (ih h)
theorem getD_of {l : List (κ × β)} (hn : (l.map (·.1)).Nodup) {k : κ} {v : β} (h : (k, v) ∈ l) : getD l k = some v := by
  induction l with
  | nil => cases h
  | cons p l ih =>
    rw [List.map_cons, List.nodup_cons] at hn
    rw [getD_cons]
    rcases List.mem_cons.mp h with h | h
    · rw [← h, if_pos rfl]
    · rw [if_neg (fun e => hn.1 (by rw [e]; exact List.mem_map.mpr ⟨_, h, rfl⟩)), ih hn.2 h]
theorem mkD_fold (m l : List (κ × β)) (hn : (l.map (·.1) ++ m.map (·.1)).Nodup) : m.foldl (fun acc p => putD acc p.1 p.2) l = l ++ m := by
  induction m generalizing l with
  | nil => simp
  | cons p m ih =>
    have h1 : getD l p.1 = none := by
      rw [getD_none]
      intro z
      rw [List.nodup_append] at hn
      exact hn.2.2 _ z _ (by rw [List.map_cons]; exact List.mem_cons_self ..) rfl
    rw [List.foldl_cons, putD_new h1, ih]
    · simp
    · simpa using hn
theorem mkD_eq {l : List (κ × β)} (hn : (l.map (·.1)).Nodup) : mkD l = ⟨l⟩ := by
  unfold mkD
  rw [mkD_fold l [] (by simpa using hn)]; rfl
theorem d_dc {ι : Type} {f : ι → D (Option (T2 κ β))} {l : List ι} {Q : Dc κ β → Prop} {E : Ex → Prop} (hl : l.length ≤ 1000) (Pv : Nat → List (κ × β) → Prop) (h0 : Pv 0 [])
    (hs : ∀ i a acc (Q1 : Option (T2 κ β) → Prop), l[i]? = some a → acc.length ≤ i → Pv i acc → (∀ b, Pv (i + 1) (putD acc b.a b.b) → Q1 (some b)) → (Pv (i + 1) acc → Q1 none) → (f a).run Q1 E) (hd : ∀ r, Pv l.length r → Q ⟨r⟩) : (D.dc f l []).run Q E := by
  have key : ∀ (m : List ι) (i : Nat) (acc : List (κ × β)), l.drop i = m → i ≤ l.length → acc.length ≤ i → Pv i acc → (D.dc f m acc).run Q E := by
    intro m
    induction m with
    | nil =>
      intro i s e hi _ p
      have : l.length ≤ i := by
        have := congrArg List.length e
        rw [List.length_drop, List.length_nil] at this
        omega
      have ei : i = l.length := by omega
      rw [ei] at p
      exact hd s p
    | cons a m ih =>
      intro i s e hi ha p
      have hlt : i < l.length := by
        have := congrArg List.length e
        rw [List.length_drop, List.length_cons] at this
        omega
      rw [List.drop_eq_getElem_cons hlt] at e
      have ha2 := (List.cons.inj e).1
      have hm := (List.cons.inj e).2
      subst ha2
      refine hs i _ s _ (List.getElem?_eq_getElem hlt) ha p (fun b p' => ?_) (fun p' => ?_)
      · exact ⟨by rw [sizeLine_eq]; omega, ih (i + 1) _ hm hlt (Nat.le_trans len_putD (Nat.add_le_add_right ha 1)) p'⟩
      · exact ih (i + 1) _ hm hlt (by omega) p'
  exact key l 0 [] rfl (Nat.zero_le _) (Nat.le_refl _) h0
/-- {k(a): v(a) for a in l}, the keys differ -/
theorem d_dmap {ι : Type} {k : ι → κ} {v : ι → β} {l : List ι} {Q : Dc κ β → Prop} {E : Ex → Prop} (hl : l.length ≤ 1000) (hn : (l.map k).Nodup) (h : Q ⟨l.map fun a => (k a, v a)⟩) : (D.dc (fun a => D.pure (some ⟨k a, v a⟩)) l []).run Q E := by
  refine d_dc hl (fun i r => r = (l.take i).map fun a => (k a, v a)) rfl (fun i a acc Q1 ha _ p h1 _ => ?_) (fun r p => ?_)
  · refine h1 _ ?_
    have hnone : getD acc (k a) = none := by
      rw [getD_none, p, List.map_map]
      intro z
      obtain ⟨b, hb, e⟩ := List.mem_map.mp z
      have e : k b = k a := e
      obtain ⟨j, hj, hj2⟩ := List.mem_take_iff_getElem.mp hb
      have hi : i < l.length := (List.getElem?_eq_some_iff.mp ha).1
      have hai : l[i] = a := (List.getElem?_eq_some_iff.mp ha).2
      have := (List.pairwise_iff_getElem.mp hn) j i (by rw [List.length_map]; omega) (by rw [List.length_map]; exact hi) (by omega)
      rw [List.getElem_map, List.getElem_map, hj2, hai] at this
      exact this e
    rw [putD_new hnone, p, List.take_succ, ha, List.map_append]; rfl
  · rw [p, List.take_length]; exact h
end
end Rm

namespace Rm
open PySem PySem.Spec L2
structure O_Times where
  f_round : Int
  f_minutes : (Dc Str Int)
  f_names : (List Str)
/-! l_length -/
def p_l_length (a_limit : Int) : D Int :=
  D.bind (draw (8 : Int)) fun v1 =>
  D.ite (decide (v1 < (4 : Int))) (
    D.bind (draw (6 : Int)) fun v2 =>
    D.pure ((3 : Int) + v2)
  ) (
    D.ite (decide (v1 < (7 : Int))) (
      D.bind (draw (22 : Int)) fun v3 =>
      D.pure (if ((9 : Int) + v3) < a_limit then ((9 : Int) + v3) else a_limit)
    ) (
      D.bind (draw a_limit) fun v4 =>
      D.pure (if (a_limit - v4) > (3 : Int) then (a_limit - v4) else (3 : Int))
    )
  )
/-! l_minutes -/
def p_l_minutes (a_names_here : (List Str)) (a_minutes_here : (List Int)) (a_first : Int) : D (Dc Str Int) :=
  D.bind (rng 0 (a_names_here.length : Int)) fun l2 =>
  D.loop (fun (e7 : Int) (st3 : (Dc Str Int)) nx8 bk8 =>
    D.bind (modI (e7 + a_first) (a_names_here.length : Int)) fun v10 =>
    D.bind (ixL a_minutes_here v10) fun v11 =>
    D.bind (ixL a_names_here v10) fun v12 =>
    D.bind (dput st3 v12 v11) fun kv13p =>
    nx8 (kv13p)
  ) (fun (st3 : (Dc Str Int)) =>
    D.pure st3
  ) l2 ((⟨[]⟩ : (Dc Str Int)))
/-! l_word -/
def p_l_word (a_size_here : Int) : D Str :=
  D.bind (rng 0 a_size_here) fun l1 =>
  D.loop (fun (e4 : Int) (st2 : Str) nx5 bk5 =>
    D.bind (draw (36 : Int)) fun v7 =>
    D.bind (ixS (Str.ofString "abcdefghijklmnopqrstuvwxyz0123456789") v7) fun v8 =>
    D.bind (addS st2 v8) fun v10 =>
    nx5 (v10)
  ) (fun (st2 : Str) =>
    D.pure st2
  ) l1 ((Str.ofString ""))
/-! l_names -/
def p_l_names (a_many : Int) : D (List Str) :=
  D.bind (draw (3 : Int)) fun v1 =>
  D.bind (draw (26 : Int)) fun v2 =>
  D.bind (ixS (Str.ofString "abcdefghijklmnopqrstuvwxyz") v2) fun v3 =>
  D.bind (draw (4 : Int)) fun v5 =>
  D.bind (p_l_word v5) fun v6 =>
  D.bind (addS v3 v6) fun v7 =>
  D.bind (draw (4 : Int)) fun v8 =>
  D.bind (p_l_word v8) fun v9 =>
  D.bind (draw (36 : Int)) fun v10 =>
  D.bind (rng 0 a_many) fun l12 =>
  D.loop (fun (e19 : Int) (st13 : (List Str)) nx20 bk20 =>
    D.bind (ixS (Str.ofString "abcdefghijklmnopqrstuvwxyz0123456789") ((v10 + ((5 : Int) * e19)) % (36 : Int))) fun v22 =>
    D.bind (addS v7 v22) fun v24 =>
    D.bind (addS v24 v9) fun v25 =>
    D.jn (fun (v33 : Str) =>
      D.jn (fun (v42 : Str) =>
        D.bind (rng 0 (13 : Int)) fun l43 =>
        D.loop (fun (e47 : Int) (st44 : Str) nx48 bk48 =>
          D.bind (D.ite (decide (st44 ∈ st13)) (
            D.bind (strI e47) fun v51 =>
            D.bind (addS (Str.ofString "z") v51) fun v52 =>
            D.pure (!decide (v52 ∈ st13))
          ) (D.pure false)) fun b53 =>
          D.ite b53 (
            D.bind (strI e47) fun v54 =>
            D.bind (addS (Str.ofString "z") v54) fun v55 =>
            nx48 (v55)
          ) (
            nx48 (st44)
          )
        ) (fun (st44 : Str) =>
          D.bind (app st13 st44) fun xs46p =>
          nx20 (xs46p)
        ) l43 (v42)
      ) fun jp34 =>
      D.ite (decide (v1 = (2 : Int))) (
        D.bind (draw (26 : Int)) fun v36 =>
        D.bind (ixS (Str.ofString "abcdefghijklmnopqrstuvwxyz") v36) fun v37 =>
        D.bind (draw (8 : Int)) fun v39 =>
        D.bind (p_l_word v39) fun v40 =>
        D.bind (addS v37 v40) fun v41 =>
        jp34 v41
      ) (
        jp34 v33
      )
    ) fun jp26 =>
    D.ite (decide (v1 = (1 : Int))) (
      D.bind (ixS (Str.ofString "abcdefghijklmnopqrstuvwxyz") ((v10 + ((5 : Int) * e19)) % (26 : Int))) fun v28 =>
      D.bind (draw (8 : Int)) fun v30 =>
      D.bind (p_l_word v30) fun v31 =>
      D.bind (addS v28 v31) fun v32 =>
      jp26 v32
    ) (
      jp26 v25
    )
  ) (fun (st13 : (List Str)) =>
    D.pure st13
  ) l12 (([] : (List Str)))
/-! l_others -/
def p_l_others (a_length_here : Int) (a_names_here : (List Str)) (a_minutes_here : (List Int)) (a_stranger_here : Str) : D (List (Rm.R2 Int (Dc Str Int))) :=
  D.bind (catL a_names_here [a_stranger_here]) fun v2 =>
  D.bind (catL a_minutes_here [(0 : Int)]) fun v5 =>
  D.bind (p_l_minutes v2 v5 (0 : Int)) fun v7 =>
  D.jn (fun (v25 : (List (Rm.R2 Int (Dc Str Int)))) =>
    D.jn (fun (v50 : (List (Rm.R2 Int (Dc Str Int)))) =>
      D.pure v50
    ) fun jp27 =>
    D.ite (decide ((0 : Int) < (a_names_here.length : Int))) (
      D.bind (p_l_minutes (cutL a_names_here none (some (-(1 : Int)))) (cutL a_minutes_here none (some (-(1 : Int)))) (0 : Int)) fun v31 =>
      D.bind (app v25 (⟨a_length_here, v31⟩ : (Rm.R2 Int (Dc Str Int)))) fun xs34p =>
      D.bind (draw (a_names_here.length : Int)) fun v35 =>
      D.bind (ixL a_minutes_here v35) fun v36 =>
      D.bind (draw (a_length_here - (1 : Int))) fun v37 =>
      D.bind (modI ((v36 + (1 : Int)) + v37) a_length_here) fun v38 =>
      D.bind (catL (cutL a_minutes_here none (some v35)) [v38]) fun v41 =>
      D.bind (catL v41 (cutL a_minutes_here (some (v35 + (1 : Int))) none)) fun v44 =>
      D.bind (p_l_minutes a_names_here v44 (0 : Int)) fun v46 =>
      D.bind (app xs34p (⟨a_length_here, v46⟩ : (Rm.R2 Int (Dc Str Int)))) fun xs49p =>
      jp27 xs49p
    ) (
      jp27 v25
    )
  ) fun jp11 =>
  D.ite (decide (a_length_here < (120 : Int))) (
    D.bind (p_l_minutes a_names_here a_minutes_here (0 : Int)) fun v13 =>
    D.bind (app [(⟨a_length_here, v7⟩ : (Rm.R2 Int (Dc Str Int)))] (⟨(a_length_here + (1 : Int)), v13⟩ : (Rm.R2 Int (Dc Str Int)))) fun xs16p =>
    jp11 xs16p
  ) (
    D.bind (D.lc (fun (e17 : Int) =>
      D.ite (decide ((118 : Int) < e17)) (
        D.pure (some e17)
      ) (D.pure none)
    ) a_minutes_here []) fun v20 =>
    D.ite (decide ((v20.length : Int) = (0 : Int))) (
      D.bind (p_l_minutes a_names_here a_minutes_here (0 : Int)) fun v21 =>
      D.bind (app [(⟨a_length_here, v7⟩ : (Rm.R2 Int (Dc Str Int)))] (⟨(119 : Int), v21⟩ : (Rm.R2 Int (Dc Str Int)))) fun xs24p =>
      jp11 xs24p
    ) (
      jp11 [(⟨a_length_here, v7⟩ : (Rm.R2 Int (Dc Str Int)))]
    )
  )
/-! l_size -/
def p_l_size (a_limit : Int) : D Int :=
  D.bind (draw (8 : Int)) fun v1 =>
  D.ite (decide (v1 = (0 : Int))) (
    D.pure a_limit
  ) (
    D.ite (decide (v1 = (1 : Int))) (
      D.bind (draw (4 : Int)) fun v2 =>
      D.pure (if v2 < a_limit then v2 else a_limit)
    ) (
      D.bind (draw (a_limit + (1 : Int))) fun v3 =>
      D.pure v3
    )
  )
/-! l_some -/
def p_l_some (a_limit : Int) : D Int :=
  D.bind (draw (4 : Int)) fun v1 =>
  D.ite (decide (v1 = (0 : Int))) (
    D.pure a_limit
  ) (
    D.ite (decide (v1 = (1 : Int))) (
      D.bind (draw (a_limit + (1 : Int))) fun v2 =>
      D.pure v2
    ) (
      D.bind (draw ((if (2 : Int) < a_limit then (2 : Int) else a_limit) + (1 : Int))) fun v3 =>
      D.pure v3
    )
  )
/-! l_stranger -/
def p_l_stranger (a_names_here : (List Str)) : D Str :=
  D.bind (draw (8 : Int)) fun v1 =>
  D.bind (p_l_word v1) fun v2 =>
  D.bind (addS (Str.ofString "y") v2) fun v3 =>
  D.jn (fun (v13 : Str) =>
    D.bind (rng 0 (13 : Int)) fun l14 =>
    D.loop (fun (e17 : Int) (st15 : Str) nx18 bk18 =>
      D.bind (D.ite (decide (st15 ∈ a_names_here)) (
        D.bind (strI e17) fun v21 =>
        D.bind (addS (Str.ofString "y") v21) fun v22 =>
        D.pure (!decide (v22 ∈ a_names_here))
      ) (D.pure false)) fun b23 =>
      D.ite b23 (
        D.bind (strI e17) fun v24 =>
        D.bind (addS (Str.ofString "y") v24) fun v25 =>
        nx18 (v25)
      ) (
        nx18 (st15)
      )
    ) (fun (st15 : Str) =>
      D.pure st15
    ) l14 (v13)
  ) fun jp4 =>
  D.bind (D.ite (decide ((0 : Int) < (a_names_here.length : Int))) (
    D.bind (draw (2 : Int)) fun v7 =>
    D.pure (decide (v7 = (1 : Int)))
  ) (D.pure false)) fun b8 =>
  D.ite b8 (
    D.bind (draw (a_names_here.length : Int)) fun v9 =>
    D.bind (ixL a_names_here v9) fun v10 =>
    D.bind (slS v10 none (some (7 : Int))) fun v11 =>
    D.bind (addS v11 (Str.ofString "x")) fun v12 =>
    jp4 v12
  ) (
    jp4 v3
  )
/-! Times_getitem_ -/
def p_Times_getitem_ (a_self : O_Times) (a_at : Str) : D Int :=
  D.ite (!din a_self.f_minutes a_at) (
    D.raise (.UnknownEvent a_at)
  ) (
    D.bind (dget a_self.f_minutes a_at) fun v3 =>
    D.pure v3
  )
/-! Times_len_ -/
def p_Times_len_ (a_self : O_Times) : D Int :=
  D.pure (a_self.f_names.length : Int)
/-! Times_minutes -/
def p_Times_minutes (a_self : O_Times) : D (Dc Str Int) :=
  D.pure a_self.f_minutes
/-! Times_round_length -/
def p_Times_round_length (a_self : O_Times) : D Int :=
  D.pure a_self.f_round
/-! l_told -/
def p_l_told (a_times : O_Times) (a_length_here : Int) (a_due : (Dc Str Int)) (a_stranger_here : Str) : D Bool :=
  D.bind (p_Times_round_length a_times) fun v2 =>
  D.bind (sameD v2 a_length_here) fun _ =>
  D.bind (p_Times_minutes a_times) fun v4 =>
  D.bind (sameD v4 a_due) fun _ =>
  D.bind (p_Times_len_ a_times) fun v7 =>
  D.asr (0 ≤ v7 ∧ v7 < 2 ^ 63) <|
  D.bind (sameD v7 (a_due.l.length : Int)) fun _ =>
  D.bind (p_Times_len_ a_times) fun v9 =>
  D.asr (0 ≤ v9 ∧ v9 ≤ (sizeLine : Int)) <|
  D.bind (sameD a_times.f_names (dkeys a_due)) fun _ =>
  D.ite (decide (a_stranger_here ∈ a_times.f_names)) (
    D.pure false
  ) (
    D.loop (fun (e16 : Str) (st14 : Unit) nx17 bk17 =>
      D.bind (D.ite (!decide (e16 ∈ a_times.f_names)) (D.pure true) (
        D.bind (p_Times_getitem_ a_times e16) fun v22 =>
        D.bind (dget a_due e16) fun v23 =>
        D.bind (sameD v22 v23) fun _ =>
        D.pure (!true)
      )) fun b24 =>
      D.ite b24 (
        D.pure false
      ) (
        nx17 ()
      )
    ) (fun (st14 : Unit) =>
      D.pure true
    ) (dkeys a_due) ()
  )
/-! l_turned -/
def p_l_turned (a_due : (Dc Str Int)) (a_sign : Int) (a_k : Int) (a_length_here : Int) : D (Dc Str Int) :=
  D.loop (fun (e7 : Str) (st3 : (Dc Str Int)) nx8 bk8 =>
    D.bind (dget a_due e7) fun v10 =>
    D.bind (mulI a_sign v10) fun v11 =>
    D.bind (modI (v11 + a_k) a_length_here) fun v12 =>
    D.bind (dput st3 e7 v12) fun kv13p =>
    nx8 (kv13p)
  ) (fun (st3 : (Dc Str Int)) =>
    D.pure st3
  ) (dkeys a_due) ((⟨[]⟩ : (Dc Str Int)))
/-! is_name -/
def p_is_name (a_text : Str) : D Bool :=
  D.bind (lenS a_text) fun v1 =>
  D.bind (D.ite (!((decide ((1 : Int) ≤ v1)) && (decide (v1 ≤ (8 : Int))))) (D.pure true) (
    D.bind (ixS a_text (0 : Int)) fun v3 =>
    D.asr (sgl v3) <|
    D.pure (!inC v3 (Str.ofString "abcdefghijklmnopqrstuvwxyz"))
  )) fun b5 =>
  D.ite b5 (
    D.pure false
  ) (
    D.loop (fun (e8 : Str) (st6 : Unit) nx9 bk9 =>
      D.asr (sgl e8) <|
      D.bind (D.ite (!inC e8 (Str.ofString "abcdefghijklmnopqrstuvwxyz")) (
        D.asr (sgl e8) <|
        D.pure (!inC e8 (Str.ofString "0123456789"))
      ) (D.pure false)) fun b12 =>
      D.ite b12 (
        D.pure false
      ) (
        nx9 ()
      )
    ) (fun (st6 : Unit) =>
      D.pure true
    ) (chars a_text) ()
  )
/-! check_name -/
def p_check_name (a_name : Str) : D Unit :=
  D.bind (p_is_name a_name) fun v1 =>
  D.ite (!v1) (
    D.raise (.BadName a_name)
  ) (
    D.pure ()
  )
/-! check_number -/
def p_check_number (a_number : Int) (a_low : Int) (a_high : Int) : D Unit :=
  D.ite (!((decide (a_low ≤ a_number)) && (decide (a_number ≤ a_high)))) (
    D.raise (.BadNumber a_number)
  ) (
    D.pure ()
  )
/-! Times_init_ -/
def p_Times_init_ (a_round_length : Int) (a_minutes : (Dc Str Int)) : D O_Times :=
  D.bind (p_check_number a_round_length (3 : Int) (120 : Int)) fun v1 =>
  D.loop (fun (e8 : (T2 Str Int)) (st3 : Unit) nx9 bk9 =>
    D.bind (p_check_name e8.a) fun v15 =>
    D.bind (p_check_number e8.b (0 : Int) (a_round_length - (1 : Int))) fun v16 =>
    nx9 ()
  ) (fun (st3 : Unit) =>
    D.pure ⟨a_round_length, a_minutes, (dkeys a_minutes)⟩
  ) (ditems a_minutes) ()
/-! Times_zero -/
def p_Times_zero (a_round_length : Int) (a_names : (Tl Str)) : D O_Times :=
  D.bind (D.dc (fun (e1 : Str) =>
    D.pure (some ⟨e1, (0 : Int)⟩)
  ) a_names.l []) fun v4 =>
  D.bind (p_Times_init_ a_round_length v4) fun v5 =>
  D.pure v5
/-! l_zero -/
def p_l_zero (a_length_here : Int) (a_names_here : (List Str)) (a_many : Int) : D O_Times :=
  D.ite (decide (a_many = (0 : Int))) (
    D.bind (p_Times_zero a_length_here (⟨[]⟩ : Tl Str)) fun v2 =>
    D.pure v2
  ) (
    D.ite (decide (a_many = (1 : Int))) (
      D.bind (ixL a_names_here (0 : Int)) fun v3 =>
      D.bind (p_Times_zero a_length_here (⟨[v3]⟩ : Tl Str)) fun v5 =>
      D.pure v5
    ) (
      D.ite (decide (a_many = (2 : Int))) (
        D.bind (ixL a_names_here (0 : Int)) fun v6 =>
        D.bind (ixL a_names_here (1 : Int)) fun v7 =>
        D.bind (p_Times_zero a_length_here (⟨[v6, v7]⟩ : Tl Str)) fun v9 =>
        D.pure v9
      ) (
        D.ite (decide (a_many = (3 : Int))) (
          D.bind (ixL a_names_here (0 : Int)) fun v10 =>
          D.bind (ixL a_names_here (1 : Int)) fun v11 =>
          D.bind (ixL a_names_here (2 : Int)) fun v12 =>
          D.bind (p_Times_zero a_length_here (⟨[v10, v11, v12]⟩ : Tl Str)) fun v14 =>
          D.pure v14
        ) (
          D.ite (decide (a_many = (4 : Int))) (
            D.bind (ixL a_names_here (0 : Int)) fun v15 =>
            D.bind (ixL a_names_here (1 : Int)) fun v16 =>
            D.bind (ixL a_names_here (2 : Int)) fun v17 =>
            D.bind (ixL a_names_here (3 : Int)) fun v18 =>
            D.bind (p_Times_zero a_length_here (⟨[v15, v16, v17, v18]⟩ : Tl Str)) fun v20 =>
            D.pure v20
          ) (
            D.bind (ixL a_names_here (0 : Int)) fun v21 =>
            D.bind (ixL a_names_here (1 : Int)) fun v22 =>
            D.bind (ixL a_names_here (2 : Int)) fun v23 =>
            D.bind (ixL a_names_here (3 : Int)) fun v24 =>
            D.bind (ixL a_names_here (4 : Int)) fun v25 =>
            D.bind (p_Times_zero a_length_here (⟨[v21, v22, v23, v24, v25]⟩ : Tl Str)) fun v27 =>
            D.pure v27
          )
        )
      )
    )
  )
/-! Times_eq_ -/
def p_Times_eq_ (a_self : O_Times) (a_other : O_Times) : D Bool :=
  D.pure ((decide (a_self.f_round = a_other.f_round)) && (eqD a_self.f_minutes a_other.f_minutes))
/-! Times_lshift_ -/
def p_Times_lshift_ (a_self : O_Times) (a_other : Int) : D O_Times :=
  D.bind (D.dc (fun (e3 : Str) =>
    D.bind (dget a_self.f_minutes e3) fun v7 =>
    D.bind (modI (v7 - a_other) a_self.f_round) fun v9 =>
    D.pure (some ⟨e3, v9⟩)
  ) a_self.f_names []) fun v10 =>
  D.bind (p_Times_init_ a_self.f_round v10) fun v11 =>
  D.pure v11
/-! Times_rshift_ -/
def p_Times_rshift_ (a_self : O_Times) (a_other : Int) : D O_Times :=
  D.bind (D.dc (fun (e3 : Str) =>
    D.bind (dget a_self.f_minutes e3) fun v7 =>
    D.bind (modI (v7 + a_other) a_self.f_round) fun v9 =>
    D.pure (some ⟨e3, v9⟩)
  ) a_self.f_names []) fun v10 =>
  D.bind (p_Times_init_ a_self.f_round v10) fun v11 =>
  D.pure v11
/-! Times_mirrored -/
def p_Times_mirrored (a_self : O_Times) : D O_Times :=
  D.bind (D.dc (fun (e3 : Str) =>
    D.bind (dget a_self.f_minutes e3) fun v7 =>
    D.bind (modI (-v7) a_self.f_round) fun v9 =>
    D.pure (some ⟨e3, v9⟩)
  ) a_self.f_names []) fun v10 =>
  D.bind (p_Times_init_ a_self.f_round v10) fun v11 =>
  D.pure v11
/-! law -/
def p_law (a_script : (List Int)) : D Bool :=
  D.bind (p_l_length (120 : Int)) fun v1 =>
  D.bind (p_l_size (12 : Int)) fun v2 =>
  D.bind (p_l_names v2) fun v3 =>
  D.bind (D.lc (fun (e4 : Str) =>
    D.bind (p_l_some (v1 - (1 : Int))) fun v7 =>
    D.pure (some v7)
  ) v3 []) fun v8 =>
  D.bind (p_l_stranger v3) fun v9 =>
  D.bind (draw (2 : Int)) fun v10 =>
  D.jn (fun (v15 : Int) =>
    D.bind (p_l_minutes v3 v8 (0 : Int)) fun v16 =>
    D.bind (p_l_minutes v3 v8 (0 : Int)) fun v18 =>
    D.bind (p_Times_init_ v1 v18) fun v19 =>
    D.bind (p_l_told v19 v1 v16 v9) fun v20 =>
    D.bind (D.ite (!v20) (D.pure true) (
      D.bind (sameD v18 v16) fun _ =>
      D.pure (!true)
    )) fun b22 =>
    D.ite b22 (
      D.pure false
    ) (
      D.loop (fun (e90 : Str) (st24 : (Dc Str Int)) nx91 bk91 =>
        D.bind (dget v16 e90) fun v93 =>
        D.bind (modI (v93 + (1 : Int)) v1) fun v94 =>
        D.bind (dput st24 e90 v94) fun kv95p =>
        nx91 (kv95p)
      ) (fun (st24 : (Dc Str Int)) =>
        D.bind (dput st24 v9 (0 : Int)) fun kv27p =>
        D.bind (p_Times_minutes v19) fun v29 =>
        D.bind (dput v29 v9 (1 : Int)) fun kv30p =>
        D.bind (p_l_told v19 v1 v16 v9) fun v31 =>
        D.ite (!v31) (
          D.pure false
        ) (
          D.bind (draw (if (v3.length : Int) > (1 : Int) then (v3.length : Int) else (1 : Int))) fun v32 =>
          D.bind (p_l_minutes v3 v8 v32) fun v33 =>
          D.bind (p_Times_init_ v1 v33) fun v35 =>
          D.bind (p_Times_eq_ v19 v35) fun v38 =>
          D.bind (sameD v38 true) fun _ =>
          D.bind (p_l_others v1 v3 v8 v9) fun v39 =>
          D.loop (fun (e73 : (Rm.R2 Int (Dc Str Int))) (st40 : Unit) nx74 bk74 =>
            D.bind (p_Times_init_ e73.a e73.b) fun v86 =>
            D.bind (p_Times_eq_ v19 v86) fun v89 =>
            D.bind (sameD v89 false) fun _ =>
            nx74 ()
          ) (fun (st40 : Unit) =>
            D.bind (p_Times_rshift_ v19 v15) fun v43 =>
            D.bind (p_l_turned v16 (1 : Int) v15 v1) fun v44 =>
            D.bind (p_l_told v43 v1 v44 v9) fun v45 =>
            D.ite (!v45) (
              D.pure false
            ) (
              D.bind (p_Times_lshift_ v19 v15) fun v47 =>
              D.bind (p_l_turned v16 (1 : Int) (-v15) v1) fun v48 =>
              D.bind (p_l_told v47 v1 v48 v9) fun v49 =>
              D.ite (!v49) (
                D.pure false
              ) (
                D.bind (p_Times_mirrored v19) fun v51 =>
                D.bind (p_l_turned v16 (-(1 : Int)) (0 : Int) v1) fun v52 =>
                D.bind (p_l_told v51 v1 v52 v9) fun v53 =>
                D.ite (!v53) (
                  D.pure false
                ) (
                  D.bind (p_Times_mirrored v51) fun v55 =>
                  D.bind (p_Times_eq_ v55 v19) fun v58 =>
                  D.bind (sameD v58 true) fun _ =>
                  D.bind (rng 0 ((if (v3.length : Int) < (5 : Int) then (v3.length : Int) else (5 : Int)) + (1 : Int))) fun l59 =>
                  D.loop (fun (e64 : Int) (st60 : Unit) nx65 bk65 =>
                    D.bind (p_l_minutes (cutL v3 none (some e64)) [(0 : Int), (0 : Int), (0 : Int), (0 : Int), (0 : Int)] (0 : Int)) fun v69 =>
                    D.bind (p_l_zero v1 v3 e64) fun v71 =>
                    D.bind (p_l_told v71 v1 v69 v9) fun v72 =>
                    D.ite (!v72) (
                      D.pure false
                    ) (
                      nx65 ()
                    )
                  ) (fun (st60 : Unit) =>
                    D.bind (p_l_told v19 v1 v16 v9) fun v63 =>
                    D.pure v63
                  ) l59 ()
                )
              )
            )
          ) v39 ()
        )
      ) (cutL v3 none (some (1 : Int))) (v18)
    )
  ) fun jp11 =>
  D.ite (decide (v10 = (0 : Int))) (
    D.bind (draw (((4 : Int) * v1) + (1 : Int))) fun v13 =>
    jp11 (v13 - ((2 : Int) * v1))
  ) (
    D.bind (draw (((2 : Int) * ((10 : Int) ^ ((9 : Int) : Int).toNat)) + (1 : Int))) fun v14 =>
    jp11 (v14 - ((10 : Int) ^ ((9 : Int) : Int).toNat))
  )
end Rm

namespace Rm
open PySem PySem.Spec L2
--NEEDS l_word
theorem s_l_word {n : Int} {Q : Str → Prop} {E : Ex → Prop} (h0 : 0 ≤ n) (hn : n ≤ 100) (k : ∀ w, w.length = n.toNat → alnum w = true → Q w) : (p_l_word n).run Q E := by
  unfold p_l_word
  (repeat (first | with_reducible refine D.bindI ?_ | with_reducible refine D.kontI ?_ | with_reducible refine D.pureI ?_))
  refine d_rng (by omega) ?_
  refine d_loop (fun i w => w.length = i ∧ alnum w = true) ⟨rfl, rfl⟩ ?_ ?_
  · rintro i a w nx ha ⟨hw, hal⟩ hnx
    have hi := (rngL_get ha).2
    (repeat (first | with_reducible refine D.bindI ?_ | with_reducible refine D.kontI ?_ | with_reducible refine D.pureI ?_))
    refine d_draw (by decide) (by decide) fun r r0 r1 => ?_
    (repeat (first | with_reducible refine D.bindI ?_ | with_reducible refine D.kontI ?_ | with_reducible refine D.pureI ?_))
    refine d_ixS zAl_all zAl_len (by decide) r0 r1 fun c hc => ?_
    (repeat (first | with_reducible refine D.bindI ?_ | with_reducible refine D.kontI ?_ | with_reducible refine D.pureI ?_))
    refine d_addS (by rw [len_sgl]; omega) ?_
    exact hnx _ ⟨by rw [len_app, len_sgl, hw], alnum_app hal (alnum_sgl hc)⟩
  · rintro w ⟨hw, hal⟩
    (repeat (first | with_reducible refine D.bindI ?_ | with_reducible refine D.kontI ?_ | with_reducible refine D.pureI ?_))
    refine k w ?_ hal
    rw [hw, len_rngL]
    congr 1; omega

--NEEDS l_names l_word
theorem s_l_names {n : Int} {Q : List Str → Prop} {E : Ex → Prop} (h0 : 0 ≤ n) (hn : n ≤ 13) (k : ∀ ns : List Str, ns.length = n.toNat → ns.Nodup → (∀ x ∈ ns, nameB x = true) → Q ns) : (p_l_names n).run Q E := by
  unfold p_l_names
  (repeat (first | with_reducible refine D.bindI ?_ | with_reducible refine D.kontI ?_ | with_reducible refine D.pureI ?_))
  refine d_draw (by decide) (by decide) fun way _ _ => ?_
  (repeat (first | with_reducible refine D.bindI ?_ | with_reducible refine D.kontI ?_ | with_reducible refine D.pureI ?_))
  refine d_draw (by decide) (by decide) fun r r0 r1 => ?_
  (repeat (first | with_reducible refine D.bindI ?_ | with_reducible refine D.kontI ?_ | with_reducible refine D.pureI ?_))
  refine d_ixS zLe_all zLe_len (by decide) r0 r1 fun c1 hc1 => ?_
  (repeat (first | with_reducible refine D.bindI ?_ | with_reducible refine D.kontI ?_ | with_reducible refine D.pureI ?_))
  refine d_draw (by decide) (by decide) fun q q0 q1 => ?_
  (repeat (first | with_reducible refine D.bindI ?_ | with_reducible refine D.kontI ?_ | with_reducible refine D.pureI ?_))
  refine s_l_word (by omega) (by omega) fun w1 hw1 ha1 => ?_
  (repeat (first | with_reducible refine D.bindI ?_ | with_reducible refine D.kontI ?_ | with_reducible refine D.pureI ?_))
  refine d_addS (by rw [len_sgl]; omega) ?_
  (repeat (first | with_reducible refine D.bindI ?_ | with_reducible refine D.kontI ?_ | with_reducible refine D.pureI ?_))
  refine d_draw (by decide) (by decide) fun q' q0' q1' => ?_
  (repeat (first | with_reducible refine D.bindI ?_ | with_reducible refine D.kontI ?_ | with_reducible refine D.pureI ?_))
  refine s_l_word (by omega) (by omega) fun w2 hw2 ha2 => ?_
  (repeat (first | with_reducible refine D.bindI ?_ | with_reducible refine D.kontI ?_ | with_reducible refine D.pureI ?_))
  refine d_draw (by decide) (by decide) fun fi f0 f1 => ?_
  (repeat (first | with_reducible refine D.bindI ?_ | with_reducible refine D.kontI ?_ | with_reducible refine D.pureI ?_))
  refine d_rng (by omega) ?_
  refine d_loop (fun i (ns : List Str) => ns.length = i ∧ ns.Nodup ∧ ∀ x ∈ ns, nameB x = true) ⟨rfl, List.nodup_nil, fun x h => (by cases h)⟩ ?_ ?_
  · rintro i e ns nx he ⟨hl, hd, hv⟩ hnx
    obtain ⟨rfl, hi⟩ := rngL_get he
    (repeat (first | with_reducible refine D.bindI ?_ | with_reducible refine D.kontI ?_ | with_reducible refine D.pureI ?_))
    have x0 := Int.emod_nonneg (fi + 5 * (0 + (i : Int))) (show (36 : Int) ≠ 0 by decide)
    have x1 := Int.emod_lt_of_pos (fi + 5 * (0 + (i : Int))) (show 0 < (36 : Int) by decide)
    refine d_ixS zAl_all zAl_len (by decide) x0 x1 fun c2 hc2 => ?_
    (repeat (first | with_reducible refine D.bindI ?_ | with_reducible refine D.kontI ?_ | with_reducible refine D.pureI ?_))
    refine d_addS (by rw [len_app, len_sgl, len_sgl]; omega) ?_
    (repeat (first | with_reducible refine D.bindI ?_ | with_reducible refine D.kontI ?_ | with_reducible refine D.pureI ?_))
    refine d_addS (by rw [len_app, len_app, len_sgl, len_sgl]; omega) ?_
    (repeat (first | with_reducible refine D.bindI ?_ | with_reducible refine D.kontI ?_ | with_reducible refine D.pureI ?_))
    have hN0 : nameB (⟨#[c1]⟩ ++ w1 ++ ⟨#[c2]⟩ ++ w2) = true := by
      rw [app_assoc, app_assoc]
      refine nameB_app hc1 ?_ (alnum_app ha1 (alnum_app (alnum_sgl hc2) ha2))
      rw [len_app, len_app, len_sgl]; omega
    refine d_jn (fun z => nameB z = true) (fun jp hj => ?_) (fun z hz => ?_)
    · refine d_ifd (fun _ => ?_) (fun _ => hj _ hN0)
      (repeat (first | with_reducible refine D.bindI ?_ | with_reducible refine D.kontI ?_ | with_reducible refine D.pureI ?_))
      have y0 := Int.emod_nonneg (fi + 5 * (0 + (i : Int))) (show (26 : Int) ≠ 0 by decide)
      have y1 := Int.emod_lt_of_pos (fi + 5 * (0 + (i : Int))) (show 0 < (26 : Int) by decide)
      refine d_ixS zLe_all zLe_len (by decide) y0 y1 fun c3 hc3 => ?_
      (repeat (first | with_reducible refine D.bindI ?_ | with_reducible refine D.kontI ?_ | with_reducible refine D.pureI ?_))
      refine d_draw (by decide) (by decide) fun q2 q20 q21 => ?_
      (repeat (first | with_reducible refine D.bindI ?_ | with_reducible refine D.kontI ?_ | with_reducible refine D.pureI ?_))
      refine s_l_word (by omega) (by omega) fun w3 hw3 ha3 => ?_
      (repeat (first | with_reducible refine D.bindI ?_ | with_reducible refine D.kontI ?_ | with_reducible refine D.pureI ?_))
      refine d_addS (by rw [len_sgl]; omega) ?_
      exact hj _ (nameB_app hc3 (by omega) ha3)
    refine d_jn (fun z => nameB z = true) (fun jp hj => ?_) (fun z hz => ?_)
    · refine d_ifd (fun _ => ?_) (fun _ => hj _ hz)
      (repeat (first | with_reducible refine D.bindI ?_ | with_reducible refine D.kontI ?_ | with_reducible refine D.pureI ?_))
      refine d_draw (by decide) (by decide) fun q2 q20 q21 => ?_
      (repeat (first | with_reducible refine D.bindI ?_ | with_reducible refine D.kontI ?_ | with_reducible refine D.pureI ?_))
      refine d_ixS zLe_all zLe_len (by decide) q20 q21 fun c3 hc3 => ?_
      (repeat (first | with_reducible refine D.bindI ?_ | with_reducible refine D.kontI ?_ | with_reducible refine D.pureI ?_))
      refine d_draw (by decide) (by decide) fun q2 q20 q21 => ?_
      (repeat (first | with_reducible refine D.bindI ?_ | with_reducible refine D.kontI ?_ | with_reducible refine D.pureI ?_))
      refine s_l_word (by omega) (by omega) fun w3 hw3 ha3 => ?_
      (repeat (first | with_reducible refine D.bindI ?_ | with_reducible refine D.kontI ?_ | with_reducible refine D.pureI ?_))
      refine d_addS (by rw [len_sgl]; omega) ?_
      exact hj _ (nameB_app hc3 (by omega) ha3)
    (repeat (first | with_reducible refine D.bindI ?_ | with_reducible refine D.kontI ?_ | with_reducible refine D.pureI ?_))
    refine d_rng (by omega) ?_
    refine d_loop (fun j (z : Str) => nameB z = true ∧ (z ∉ ns ∨ ∀ t, t < j → zn t ∈ ns)) ⟨hz, .inr fun t h => absurd h (Nat.not_lt_zero t)⟩ ?_ ?_
    · rintro j e z nx2 he ⟨hz, hor⟩ hnx2
      obtain ⟨rfl, hj⟩ := rngL_get he
      have hj' : j < 13 := by omega
      have hzl := zn_len j hj'
      have ezn : Str.ofString "z" ++ Str.ofString (toString (0 + (j : Int))) = zn j := by rw [Int.zero_add]; rfl
      have ezn2 : Str.ofString "z" ++ (toString (0 + (j : Int)) : Str) = zn j := ezn
      have hlen : (Str.ofString "z").length + (Str.ofString (toString (0 + (j : Int)))).length ≤ 1000 := by
        rw [← len_app, ezn]; omega
      have hlog : (0 + (j : Int)).natAbs.log2 < 1920 := by
        have h1 : (0 + (j : Int)).natAbs = j := by omega
        have : j.log2 ≤ j := Nat.log2_le_self j
        rw [h1]; omega
      (repeat (first | with_reducible refine D.bindI ?_ | with_reducible refine D.kontI ?_ | with_reducible refine D.pureI ?_))
      refine d_ifd (fun hin => ?_) (fun hin => ?_)
      · (repeat (first | with_reducible refine D.bindI ?_ | with_reducible refine D.kontI ?_ | with_reducible refine D.pureI ?_))
        refine d_strI hlog ?_
        (repeat (first | with_reducible refine D.bindI ?_ | with_reducible refine D.kontI ?_ | with_reducible refine D.pureI ?_))
        refine d_addS hlen ?_
        (repeat (first | with_reducible refine D.bindI ?_ | with_reducible refine D.kontI ?_ | with_reducible refine D.pureI ?_))
        refine d_ifn (fun hnin => ?_) (fun hyin => ?_)
        · (repeat (first | with_reducible refine D.bindI ?_ | with_reducible refine D.kontI ?_ | with_reducible refine D.pureI ?_))
          refine d_strI hlog ?_
          (repeat (first | with_reducible refine D.bindI ?_ | with_reducible refine D.kontI ?_ | with_reducible refine D.pureI ?_))
          refine d_addS hlen ?_
          refine hnx2 _ ⟨?_, .inl ?_⟩
          · rw [ezn2]; exact zn_names j hj'
          · exact hnin
        · refine hnx2 _ ⟨hz, .inr fun t ht => ?_⟩
          rcases Nat.lt_or_ge t j with h | h
          · exact (hor.resolve_left (fun h => h hin)) t h
          · have : t = j := by omega
            rw [this, ← ezn2]; exact hyin
      · exact hnx2 _ ⟨hz, .inl hin⟩
    · rintro z ⟨hz, hor⟩
      have hznot : z ∉ ns := by
        rcases hor with h | h
        · exact h
        · exfalso
          have h13 : ((rngL 0 13).length) = 13 := by rw [len_rngL]; rfl
          rw [h13] at h
          have hsub : ∀ x ∈ (List.range 13).map zn, x ∈ ns := fun x hx => by
            obtain ⟨t, ht, rfl⟩ := List.mem_map.mp hx
            exact h t (List.mem_range.mp ht)
          have := nodup_le _ ns zn_nd hsub
          rw [List.length_map, List.length_range] at this
          omega
      (repeat (first | with_reducible refine D.bindI ?_ | with_reducible refine D.kontI ?_ | with_reducible refine D.pureI ?_))
      refine d_app (by omega) ?_
      refine hnx _ ⟨by rw [List.length_append, hl]; rfl, ?_, fun x hx => ?_⟩
      · rw [List.nodup_append]
        exact ⟨hd, by simp, fun a ha b hb e => by simp at hb; subst hb; subst e; exact hznot ha⟩
      · rcases List.mem_append.mp hx with h | h
        · exact hv x h
        · simp at h; subst h; exact hz
  · rintro ns ⟨hl, hd, hv⟩
    (repeat (first | with_reducible refine D.bindI ?_ | with_reducible refine D.kontI ?_ | with_reducible refine D.pureI ?_))
    exact k ns (by rw [hl, len_rngL]; congr 1; omega) hd hv

--NEEDS l_some
theorem s_l_some {n : Int} {Q : Int → Prop} {E : Ex → Prop} (h0 : 0 ≤ n) (hn : n ≤ 1000) (k : ∀ r, 0 ≤ r → r ≤ n → Q r) : (p_l_some n).run Q E := by
  unfold p_l_some
  (repeat (first | with_reducible refine D.bindI ?_ | with_reducible refine D.kontI ?_ | with_reducible refine D.pureI ?_))
  refine d_draw (by decide) (by decide) fun w w0 w1 => ?_
  refine d_ifd (fun _ => k _ h0 (by omega)) (fun _ => ?_)
  refine d_ifd (fun _ => ?_) (fun _ => ?_)
  · (repeat (first | with_reducible refine D.bindI ?_ | with_reducible refine D.kontI ?_ | with_reducible refine D.pureI ?_))
    refine d_draw (by omega) (by omega) fun r r0 r1 => ?_
    exact k r r0 (by omega)
  · (repeat (first | with_reducible refine D.bindI ?_ | with_reducible refine D.kontI ?_ | with_reducible refine D.pureI ?_))
    refine d_draw (by split <;> omega) (by split <;> omega) fun r r0 r1 => ?_
    refine k r r0 ?_
    split at r1 <;> omega

--NEEDS l_length
theorem s_l_length {n : Int} {Q : Int → Prop} {E : Ex → Prop} (h0 : 8 ≤ n) (hn : n ≤ 120) (k : ∀ r, 3 ≤ r → r ≤ n → Q r) : (p_l_length n).run Q E := by
  unfold p_l_length
  (repeat (first | with_reducible refine D.bindI ?_ | with_reducible refine D.kontI ?_ | with_reducible refine D.pureI ?_))
  refine d_draw (by decide) (by decide) fun w w0 w1 => ?_
  refine d_ifd (fun _ => ?_) (fun _ => ?_)
  · (repeat (first | with_reducible refine D.bindI ?_ | with_reducible refine D.kontI ?_ | with_reducible refine D.pureI ?_))
    refine d_draw (by decide) (by decide) fun r r0 r1 => ?_
    exact k _ (by omega) (by omega)
  refine d_ifd (fun _ => ?_) (fun _ => ?_)
  · (repeat (first | with_reducible refine D.bindI ?_ | with_reducible refine D.kontI ?_ | with_reducible refine D.pureI ?_))
    refine d_draw (by decide) (by decide) fun r r0 r1 => ?_
    refine k _ ?_ ?_ <;> split <;> omega
  · (repeat (first | with_reducible refine D.bindI ?_ | with_reducible refine D.kontI ?_ | with_reducible refine D.pureI ?_))
    refine d_draw (by omega) (by omega) fun r r0 r1 => ?_
    refine k _ ?_ ?_ <;> split <;> omega

--NEEDS is_name
theorem inC_le {c : Nat} : inC ⟨#[c]⟩ zLe = isL c := in_zLe c
theorem inC_di {c : Nat} : inC ⟨#[c]⟩ zDi = (decide (48 ≤ c) && decide (c ≤ 57)) := in_zDi c
theorem s_is_name {z : Str} {Q : Bool → Prop} {E : Ex → Prop} (hz : z.length ≤ sizeLine) (k : Q (nameB z)) : (p_is_name z).run Q E := by
  unfold p_is_name
  have hl := len_tl z
  (repeat (first | with_reducible refine D.bindI ?_ | with_reducible refine D.kontI ?_ | with_reducible refine D.pureI ?_))
  refine d_lenS hz ?_
  have fin : ∀ b : Bool, (b = true → nameB z = false) → (b = false → 1 ≤ z.length ∧ z.length ≤ 8 ∧ (tl z).head?.any isL = true) → (D.ite b (D.pure false) (D.loop (fun (e8 : Str) (st6 : Unit) nx9 bk9 =>
      D.asr (sgl e8) <|
      D.bind (D.ite (!inC e8 (Str.ofString "abcdefghijklmnopqrstuvwxyz")) (
        D.asr (sgl e8) <|
        D.pure (!inC e8 (Str.ofString "0123456789"))
      ) (D.pure false)) fun b12 =>
      D.ite b12 (D.pure false) (nx9 ())) (fun (st6 : Unit) => D.pure true) (chars z) ())).run Q E := by
    intro b h1 h2
    refine d_if (fun hb => ?_) (fun hb => ?_)
    · (repeat (first | with_reducible refine D.bindI ?_ | with_reducible refine D.kontI ?_ | with_reducible refine D.pureI ?_)); rw [h1 hb] at k; exact k
    obtain ⟨a1, a2, a3⟩ := h2 hb
    have hcl : (chars z).length = (tl z).length := by unfold chars; rw [List.length_map]
    refine d_loop (fun i _ => ∀ j d, j < i → (tl z)[j]? = some d → isLD d = true) (fun j d h => absurd h (Nat.not_lt_zero j)) ?_ ?_
    · intro i e s nx he ha hn
      obtain ⟨c, hc, rfl⟩ : ∃ c, (tl z)[i]? = some c ∧ e = ⟨#[c]⟩ := by
        unfold chars at he
        rw [List.getElem?_map] at he
        obtain ⟨c, hc, h⟩ := Option.map_eq_some_iff.mp he
        exact ⟨c, hc, h.symm⟩
      have bad : isLD c = false → nameB z = false := fun hb => by
        unfold nameB
        have : (tl z).all isLD = false := by
          rw [List.all_eq_false]
          exact ⟨c, List.mem_of_getElem? hc, by rw [hb]; exact Bool.false_ne_true⟩
        rw [this]; simp
      have good : isLD c = true → ∀ j d, j < i + 1 → (tl z)[j]? = some d → isLD d = true := fun hg j d hj hd => by
        by_cases hji : j = i
        · subst hji; rw [hc] at hd; cases hd; exact hg
        · exact ha j d (by omega) hd
      refine D.asrI ⟨c, rfl⟩ ?_
      (repeat (first | with_reducible refine D.bindI ?_ | with_reducible refine D.kontI ?_ | with_reducible refine D.pureI ?_))
      rw [show inC ⟨#[c]⟩ (Str.ofString "abcdefghijklmnopqrstuvwxyz") = isL c from inC_le]
      refine d_if (fun hh => ?_) (fun hh => ?_)
      · refine D.asrI ⟨c, rfl⟩ ?_
        (repeat (first | with_reducible refine D.bindI ?_ | with_reducible refine D.kontI ?_ | with_reducible refine D.pureI ?_))
        rw [show inC ⟨#[c]⟩ (Str.ofString "0123456789") = _ from inC_di]
        have e : isLD c = (decide (48 ≤ c) && decide (c ≤ 57)) := by
          show (isL c || _) = _
          rw [Bool.not_eq_true'] at hh
          rw [hh]; rfl
        refine d_if (fun hg => ?_) (fun hg => ?_)
        · (repeat (first | with_reducible refine D.bindI ?_ | with_reducible refine D.kontI ?_ | with_reducible refine D.pureI ?_))
          rw [← e, Bool.not_eq_true'] at hg
          rw [bad hg] at k; exact k
        · rw [← e, Bool.not_eq_false'] at hg
          exact hn _ (good hg)
      · (repeat (first | with_reducible refine D.bindI ?_ | with_reducible refine D.kontI ?_ | with_reducible refine D.pureI ?_))
        rw [Bool.not_eq_false'] at hh
        refine d_if (fun h => by cases h) (fun _ => hn _ (good (isLD_of hh)))
    · intro s ha
      (repeat (first | with_reducible refine D.bindI ?_ | with_reducible refine D.kontI ?_ | with_reducible refine D.pureI ?_))
      have e : nameB z = true := by
        unfold nameB
        have h7 : (tl z).all isLD = true := by
          rw [List.all_eq_true]
          intro d hd
          obtain ⟨j, hj⟩ := List.getElem?_of_mem hd
          refine ha j d ?_ hj
          rw [hcl]
          exact (List.getElem?_eq_some_iff.mp hj).1
        rw [h7, a3, decide_eq_true a1, decide_eq_true a2]; rfl
      rw [e] at k; exact k
  (repeat (first | with_reducible refine D.bindI ?_ | with_reducible refine D.kontI ?_ | with_reducible refine D.pureI ?_))
  refine d_if (fun h => ?_) (fun h => ?_)
  · (repeat (first | with_reducible refine D.bindI ?_ | with_reducible refine D.kontI ?_ | with_reducible refine D.pureI ?_))
    refine fin true (fun _ => ?_) (fun h => by cases h)
    simp only [Bool.not_eq_true', Bool.and_eq_false_iff, decide_eq_false_iff_not] at h
    unfold nameB
    have : (decide (1 ≤ z.length) && decide (z.length ≤ 8)) = false := by
      rw [Bool.and_eq_false_iff, decide_eq_false_iff_not, decide_eq_false_iff_not]; omega
    rw [this]; rfl
  · simp only [Bool.not_eq_false', Bool.and_eq_true, decide_eq_true_eq] at h
    (repeat (first | with_reducible refine D.bindI ?_ | with_reducible refine D.kontI ?_ | with_reducible refine D.pureI ?_))
    cases ez : tl z with
    | nil => rw [hl, ez] at h; simp at h
    | cons c r =>
      refine ⟨⟨#[c]⟩, ⟨hz, c, by rw [ez]; exact atI_nat (j := 0) rfl, rfl⟩, ?_⟩
      refine D.asrI ⟨c, rfl⟩ ?_
      (repeat (first | with_reducible refine D.bindI ?_ | with_reducible refine D.kontI ?_ | with_reducible refine D.pureI ?_))
      rw [show inC ⟨#[c]⟩ (Str.ofString "abcdefghijklmnopqrstuvwxyz") = isL c from inC_le]
      refine fin _ (fun hh => ?_) (fun hh => ⟨by omega, by omega, ?_⟩)
      · rw [Bool.not_eq_true'] at hh
        unfold nameB
        rw [ez]; simp [hh]
      · rw [Bool.not_eq_false'] at hh
        rw [ez]; simp [hh]

--NEEDS check_name is_name
theorem s_check_name {z : Str} {Q : Unit → Prop} {E : Ex → Prop} (hz : z.length ≤ sizeLine) (k : nameB z = true → Q ()) (ke : nameB z = false → E (.BadName z)) : (p_check_name z).run Q E := by
  unfold p_check_name
  (repeat (first | with_reducible refine D.bindI ?_ | with_reducible refine D.kontI ?_ | with_reducible refine D.pureI ?_))
  refine s_is_name hz ?_
  refine d_if (fun h => ?_) (fun h => ?_)
  · exact ke (by simpa using h)
  · exact k (by simpa using h)

--NEEDS check_number
theorem s_check_number {n lo hi : Int} {Q : Unit → Prop} {E : Ex → Prop} (k : lo ≤ n → n ≤ hi → Q ()) (ke : ¬ (lo ≤ n ∧ n ≤ hi) → E (.BadNumber n)) : (p_check_number n lo hi).run Q E := by
  unfold p_check_number
  rw [← Bool.decide_and]
  refine d_ifn (fun h => ke h) (fun h => k h.1 h.2)

--NEEDS
abbrev Span := T5 Str Str Int Int Int
/-- the first error of a span in a net with this round length and these events -/
def spanErr (r : Int) (ns : List Str) (s : Span) : Option Ex :=
  if s.a ∉ ns then some (.UnknownEvent s.a) else if s.b ∉ ns then some (.UnknownEvent s.b) else if s.a = s.b then some (.SameEvent s.a)
  else if ¬ (0 ≤ s.c ∧ s.c ≤ r - 1) then some (.BadNumber s.c) else if ¬ (s.c ≤ s.d ∧ s.d ≤ s.c + r - 3) then some (.BadNumber s.d) else if ¬ (0 ≤ s.e ∧ s.e ≤ 99) then some (.BadNumber s.e) else none
/-- the first error of a list of names, some known already -/
def namesErr : List Str → List Str → Option Ex
  | _, [] => none
  | kn, z :: l => if nameB z = false then some (.BadName z) else if z ∈ kn then some (.DoubleEvent z) else namesErr (kn ++ [z]) l
def firstErr {α : Type} (f : α → Option Ex) : List α → Option Ex
  | [] => none
  | a :: l => (f a).or (firstErr f l)
theorem namesErr_cons {kn : List Str} {z : Str} {l : List Str} : namesErr kn (z :: l) = if nameB z = false then some (.BadName z) else if z ∈ kn then some (.DoubleEvent z) else namesErr (kn ++ [z]) l := rfl
theorem firstErr_cons {α : Type} {f : α → Option Ex} {a : α} {l : List α} : firstErr f (a :: l) = (f a).or (firstErr f l) := rfl
def netErr (r : Int) (ns : List Str) (sp : List Span) : Option Ex :=
  if ¬ (3 ≤ r ∧ r ≤ 120) then some (.BadNumber r) else if 12 < ns.length then some (.TooMany ns.length 12) else (namesErr [] ns).or (if 24 < sp.length then some (.TooMany sp.length 24) else firstErr (spanErr r ns) sp)
/-- a span that fits -/
structure SpanOk (r : Int) (ns : List Str) (s : Span) : Prop where
  a : s.a ∈ ns
  b : s.b ∈ ns
  ne : s.a ≠ s.b
  c0 : 0 ≤ s.c
  c1 : s.c < r
  d0 : s.c ≤ s.d
  d1 : s.d ≤ s.c + r - 3
  e0 : 0 ≤ s.e
  e1 : s.e ≤ 99
theorem spanErr_none {r : Int} {ns : List Str} {s : Span} : spanErr r ns s = none ↔ SpanOk r ns s := by
  unfold spanErr
  constructor
  · intro h
    split at h
    · cases h
    split at h
    · cases h
    split at h
    · cases h
    split at h
    · cases h
    split at h
    · cases h
    split at h
    · cases h
    rename_i h1 h2 h3 h4 h5 h6
    exact ⟨Classical.not_not.mp h1, Classical.not_not.mp h2, h3, by omega, by omega, by omega, by omega, by omega, by omega⟩
  · rintro ⟨h1, h2, h3, h4, h5, h6, h7, h8, h9⟩
    rw [if_neg (fun z => z h1), if_neg (fun z => z h2), if_neg h3, if_neg (by omega), if_neg (by omega), if_neg (by omega)]
structure NetOk (r : Int) (ns : List Str) (sp : List Span) : Prop where
  r0 : 3 ≤ r
  r1 : r ≤ 120
  nl : ns.length ≤ 12
  nd : ns.Nodup
  nv : ∀ z ∈ ns, nameB z = true
  sl : sp.length ≤ 24
  sv : ∀ s ∈ sp, SpanOk r ns s
theorem namesErr_none {kn l : List Str} : namesErr kn l = none ↔ (∀ z ∈ l, nameB z = true) ∧ l.Nodup ∧ ∀ z ∈ l, z ∉ kn := by
  induction l generalizing kn with
  | nil => simp [namesErr]
  | cons z l ih =>
    unfold namesErr
    by_cases h1 : nameB z = false
    · rw [if_pos h1]; simp [h1]
    · rw [if_neg h1]
      have h1' : nameB z = true := by simpa using h1
      by_cases h2 : z ∈ kn
      · rw [if_pos h2]
        exact ⟨fun h => (by cases h), fun h => absurd h2 (h.2.2 z (List.mem_cons_self ..))⟩
      · rw [if_neg h2, ih]
        constructor
        · rintro ⟨a, b, c⟩
          refine ⟨fun y hy => ?_, List.nodup_cons.mpr ⟨fun hz => c z hz (List.mem_append_right _ (List.mem_cons_self ..)), b⟩, fun y hy => ?_⟩
          · rcases List.mem_cons.mp hy with rfl | hy
            · exact h1'
            · exact a y hy
          · rcases List.mem_cons.mp hy with rfl | hy
            · exact h2
            · exact fun z => c y hy (List.mem_append_left _ z)
        · rintro ⟨a, b, c⟩
          obtain ⟨b1, b2⟩ := List.nodup_cons.mp b
          refine ⟨fun y hy => a y (List.mem_cons_of_mem _ hy), b2, fun y hy hk => ?_⟩
          rcases List.mem_append.mp hk with h | h
          · exact c y (List.mem_cons_of_mem _ hy) h
          · simp at h; subst h; exact b1 hy
theorem firstErr_none {α : Type} {f : α → Option Ex} {l : List α} : firstErr f l = none ↔ ∀ a ∈ l, f a = none := by
  induction l with
  | nil => simp [firstErr]
  | cons a l ih =>
    unfold firstErr
    cases h : f a with
    | none => simp [h, ih]
    | some e => simp [h]
theorem netErr_none {r : Int} {ns : List Str} {sp : List Span} : netErr r ns sp = none ↔ NetOk r ns sp := by
  unfold netErr
  constructor
  · intro h
    split at h
    · cases h
    split at h
    · cases h
    rename_i h1 h2
    cases h3 : namesErr [] ns with
    | some e => rw [h3] at h; cases h
    | none =>
      rw [h3, Option.none_or] at h
      split at h
      · cases h
      rename_i h4
      obtain ⟨a, b, _⟩ := namesErr_none.mp h3
      exact ⟨by omega, by omega, by omega, b, a, by omega, fun s hs => spanErr_none.mp (firstErr_none.mp h s hs)⟩
  · rintro ⟨a, b, c, d, e, f, g⟩
    rw [if_neg (by omega), if_neg (by omega), namesErr_none.mpr ⟨e, d, fun _ _ z => by cases z⟩, Option.none_or, if_neg (by omega)]
    exact firstErr_none.mpr fun s hs => spanErr_none.mpr (g s hs)

--NEEDS
def entErr (r : Int) (p : Str × Int) : Option Ex := if nameB p.1 = false then some (.BadName p.1) else if ¬ (0 ≤ p.2 ∧ p.2 ≤ r - 1) then some (.BadNumber p.2) else none
def timesErr (r : Int) (d : Dc Str Int) : Option Ex := if ¬ (3 ≤ r ∧ r ≤ 120) then some (.BadNumber r) else firstErr (entErr r) d.l
structure TimesOk (r : Int) (d : Dc Str Int) : Prop where
  r0 : 3 ≤ r
  r1 : r ≤ 120
  nv : ∀ p ∈ d.l, nameB p.1 = true
  mv : ∀ p ∈ d.l, 0 ≤ p.2 ∧ p.2 < r
theorem timesErr_none {r : Int} {d : Dc Str Int} : timesErr r d = none ↔ TimesOk r d := by
  unfold timesErr
  constructor
  · intro h
    split at h
    · cases h
    have h2 : ∀ p ∈ d.l, nameB p.1 = true ∧ (0 ≤ p.2 ∧ p.2 < r) := fun p hp => by
      have h3 := firstErr_none.mp h p hp
      unfold entErr at h3
      split at h3
      · cases h3
      split at h3
      · cases h3
      rename_i a b
      exact ⟨by simpa using a, by omega⟩
    exact ⟨by omega, by omega, fun p hp => (h2 p hp).1, fun p hp => (h2 p hp).2⟩
  · rintro ⟨a, b, c, d⟩
    rw [if_neg (by omega)]
    refine firstErr_none.mpr fun p hp => ?_
    unfold entErr
    have := d p hp
    rw [if_neg (by rw [c p hp]; decide), if_neg (by omega)]

--NEEDS Times_init_ check_number check_name
theorem s_Times_init {r : Int} {d : Dc Str Int} {Q : O_Times → Prop} {E : Ex → Prop} (hz : ∀ p ∈ d.l, p.1.length ≤ sizeLine) (k : TimesOk r d → Q ⟨r, d, dkeys d⟩) (ke : ∀ e, timesErr r d = some e → E e) : (p_Times_init_ r d).run Q E := by
  unfold p_Times_init_
  unfold timesErr at ke
  (repeat (first | with_reducible refine D.bindI ?_ | with_reducible refine D.kontI ?_ | with_reducible refine D.pureI ?_))
  refine s_check_number (fun a b => ?_) (fun h => ke _ (by rw [if_pos h]))
  rw [if_neg (fun z => z ⟨a, b⟩)] at ke
  have hlen : (ditems d).length = d.l.length := by unfold ditems; rw [List.length_map]
  have hget : ∀ i (e : T2 Str Int), (ditems d)[i]? = some e → d.l[i]? = some (e.a, e.b) := fun i e h => by
    unfold ditems at h
    rw [List.getElem?_map] at h
    obtain ⟨p, hp, rfl⟩ := Option.map_eq_some_iff.mp h
    exact hp
  refine d_loop (fun i _ => (∀ p ∈ d.l.take i, entErr r p = none) ∧ firstErr (entErr r) d.l = firstErr (entErr r) (d.l.drop i)) ⟨fun s h => (by cases h), rfl⟩ ?_ ?_
  · rintro i e u nx he ⟨hok, he2⟩ hnx
    have hp := hget i e he
    obtain ⟨h1, h2⟩ := List.getElem?_eq_some_iff.mp hp
    have hd : d.l.drop i = (e.a, e.b) :: d.l.drop (i + 1) := by rw [List.drop_eq_getElem_cons h1, h2]
    rw [hd, firstErr_cons] at he2
    have ee : entErr r (e.a, e.b) = if nameB e.a = false then some (.BadName e.a) else if ¬ (0 ≤ e.b ∧ e.b ≤ r - 1) then some (.BadNumber e.b) else none := rfl
    (repeat (first | with_reducible refine D.bindI ?_ | with_reducible refine D.kontI ?_ | with_reducible refine D.pureI ?_))
    refine s_check_name (hz _ (List.mem_of_getElem? hp)) (fun h => ?_) (fun h => ke _ ?_)
    · rw [if_neg (by rw [h]; decide)] at ee
      (repeat (first | with_reducible refine D.bindI ?_ | with_reducible refine D.kontI ?_ | with_reducible refine D.pureI ?_))
      refine s_check_number (fun h3 h4 => ?_) (fun h3 => ke _ ?_)
      · rw [if_neg (fun z => z ⟨h3, h4⟩)] at ee
        refine hnx _ ⟨fun p hp' => ?_, ?_⟩
        · rw [List.take_succ, hp] at hp'
          rcases List.mem_append.mp hp' with h | h
          · exact hok p h
          · simp at h; subst h; exact ee
        · rw [he2, ee]; rfl
      · rw [if_pos h3] at ee
        rw [he2, ee]; rfl
    · rw [if_pos h] at ee
      rw [he2, ee]; rfl
  · rintro u ⟨hok, _⟩
    rw [hlen, List.take_length] at hok
    refine k (timesErr_none.mp ?_)
    unfold timesErr
    rw [if_neg (by omega)]
    exact firstErr_none.mpr hok

--NEEDS Times_getitem_
theorem s_Times_getitem {t : O_Times} {z : Str} {Q : Int → Prop} {E : Ex → Prop} (k : ∀ v, getD t.f_minutes.l z = some v → Q v) (ke : getD t.f_minutes.l z = none → E (.UnknownEvent z)) : (p_Times_getitem_ t z).run Q E := by
  unfold p_Times_getitem_
  unfold din
  cases h : getD t.f_minutes.l z with
  | none => exact ke h
  | some v =>
    refine d_if (fun z => by cases z) (fun _ => ?_)
    (repeat (first | with_reducible refine D.bindI ?_ | with_reducible refine D.kontI ?_ | with_reducible refine D.pureI ?_))
    exact d_dget h (k v h)

--NEEDS
/-! ### slices -/
theorem sm_int (a : Int) : Pv.sm a := trivial
theorem sm_bool (a : Bool) : Pv.sm a := trivial
theorem sm_str (a : Str) : Pv.sm a := trivial
theorem sm_strs {l : List Str} (h : l.length ≤ 1000) : Pv.sm l := ⟨h, fun _ _ => trivial⟩
theorem nodup_ne {α : Type} {l : List α} (hd : l.Nodup) {i j : Nat} {a b : α} (hi : l[i]? = some a) (hj : l[j]? = some b) (h : i ≠ j) : a ≠ b := by
  intro e
  subst e
  obtain ⟨h1, h2⟩ := List.getElem?_eq_some_iff.mp hi
  obtain ⟨h3, h4⟩ := List.getElem?_eq_some_iff.mp hj
  rcases Nat.lt_or_gt_of_ne h with q | q
  · exact (List.pairwise_iff_getElem.mp hd) i j h1 h3 q (h2.trans h4.symm)
  · exact (List.pairwise_iff_getElem.mp hd) j i h3 h1 q (h4.trans h2.symm)
theorem cut_to {α : Type} {l : List α} {i : Int} (h0 : 0 ≤ i) (h1 : i ≤ (l.length : Int)) : cutL l none (some i) = l.take i.toNat := by
  unfold cutL
  obtain ⟨k, rfl⟩ : ∃ k : Nat, i = (k : Int) := ⟨i.toNat, by omega⟩
  rw [HT.sIx_nat, HT.sIx_none, List.drop_zero]
  congr 1
  simp; omega
theorem cut_from {α : Type} {l : List α} {i : Int} (h0 : 0 ≤ i) : cutL l (some i) none = l.drop i.toNat := by
  unfold cutL
  obtain ⟨k, rfl⟩ : ∃ k : Nat, i = (k : Int) := ⟨i.toNat, by omega⟩
  rw [HT.sIx_nat, HT.sIx_none]
  rw [List.take_of_length_le (by rw [List.length_drop]; omega)]
  rcases Nat.le_total k l.length with h | h
  · congr 1; simp; omega
  · rw [Nat.min_eq_right h, List.drop_length, List.drop_eq_nil_of_le (by simpa using h)]
theorem cut_last {α : Type} {l : List α} : cutL l none (some (-1)) = l.take (l.length - 1) := by
  unfold cutL
  rw [HT.sIx_none, List.drop_zero]
  congr 1
  have e : HT.sIx l.length l.length (some (-1)) = ((-1) + (l.length : Int)).toNat := by unfold HT.sIx; simp only; rw [if_pos (by decide)]
  rw [e]; omega
theorem tl_cutS {z : Str} {i : Int} (h0 : 0 ≤ i) : tl (cutS z none (some i)) = (tl z).take i.toNat := by
  have e : tl (cutS z none (some i)) = ((tl z).drop (HT.sIx z.length 0 none)).take (HT.sIx z.length z.length (some i) - HT.sIx z.length 0 none) := rfl
  rw [e]
  obtain ⟨k, rfl⟩ : ∃ k : Nat, i = (k : Int) := ⟨i.toNat, by omega⟩
  rw [HT.sIx_nat, HT.sIx_none, List.drop_zero, Nat.sub_zero, Int.toNat_natCast]
  rcases Nat.le_total k z.length with h | h
  · rw [Nat.min_eq_left h]
  · rw [Nat.min_eq_right h, List.take_of_length_le (by rw [← len_tl]; omega), List.take_of_length_le (by rw [← len_tl]; omega)]
theorem d_catL {α : Type} {a b : List α} {Q : List α → Prop} {E : Ex → Prop} (h : a.length + b.length ≤ 1000) (k : Q (a ++ b)) : (catL a b).run Q E := ⟨by rw [sizeLine_eq]; omega, k⟩
theorem d_slS {z : Str} {lo hi : Option Int} {Q : Str → Prop} {E : Ex → Prop} (h : z.length ≤ 1000) (k : Q (cutS z lo hi)) : (slS z lo hi).run Q E := ⟨by rw [sizeLine_eq]; omega, k⟩
theorem d_jn' {κ α : Type} {rest : κ → D α} {A : (κ → D α) → D α} {Q : α → Prop} {E : Ex → Prop} (R : κ → Prop) (h2 : ∀ v, R v → (rest v).run Q E) (h1 : ∀ jp : κ → D α, (∀ v, R v → (jp v).run Q E) → (A jp).run Q E) : (D.jn rest A).run Q E := h1 rest h2

--NEEDS l_size
theorem s_l_size {n : Int} {Q : Int → Prop} {E : Ex → Prop} (h0 : 0 ≤ n) (hn : n ≤ 1000) (k : ∀ r, 0 ≤ r → r ≤ n → Q r) : (p_l_size n).run Q E := by
  unfold p_l_size
  (repeat (first | with_reducible refine D.bindI ?_ | with_reducible refine D.kontI ?_ | with_reducible refine D.pureI ?_))
  refine d_draw (by decide) (by decide) fun w w0 w1 => ?_
  refine d_ifd (fun _ => k _ h0 (by omega)) (fun _ => ?_)
  refine d_ifd (fun _ => ?_) (fun _ => ?_)
  · (repeat (first | with_reducible refine D.bindI ?_ | with_reducible refine D.kontI ?_ | with_reducible refine D.pureI ?_))
    refine d_draw (by decide) (by decide) fun r r0 r1 => ?_
    refine k _ ?_ ?_ <;> split <;> omega
  · (repeat (first | with_reducible refine D.bindI ?_ | with_reducible refine D.kontI ?_ | with_reducible refine D.pureI ?_))
    refine d_draw (by omega) (by omega) fun r r0 r1 => ?_
    exact k r r0 (by omega)

--NEEDS l_stranger l_word
/-- "y" and a number -/
def yn (j : Nat) : Str := Str.ofString "y" ++ Str.ofString (toString (j : Int))
theorem yn_names : ∀ j, j < 13 → nameB (yn j) = true := by decide +kernel
theorem yn_len : ∀ j, j < 13 → (yn j).length ≤ 3 := by decide +kernel
theorem yn_nd : ((List.range 13).map yn).Nodup := by decide +kernel
theorem nameB_cut {z : Str} {c : Nat} (h : nameB z = true) (hc : isLD c = true) : nameB (cutS z none (some 7) ++ ⟨#[c]⟩) = true := by
  have hl := nameB_len h
  unfold nameB at h ⊢
  simp only [Bool.and_eq_true, decide_eq_true_eq] at h
  obtain ⟨_, h1, h2⟩ := h
  have e : tl (cutS z none (some 7) ++ ⟨#[c]⟩) = (tl z).take 7 ++ [c] := by rw [tl_app, tl_sgl, tl_cutS (by decide)]; rfl
  have el : (cutS z none (some 7) ++ ⟨#[c]⟩ : Str).length = min 7 z.length + 1 := by
    rw [len_tl, e, List.length_append, List.length_take, ← len_tl]; rfl
  rw [el, e]
  have hz := len_tl z
  have h3 : (decide (1 ≤ min 7 z.length + 1) && decide (min 7 z.length + 1 ≤ 8)) = true := by simp; omega
  rw [h3, Bool.true_and]
  cases et : tl z with
  | nil => rw [et] at hz; simp at hz; omega
  | cons a r =>
    rw [et] at h1 h2
    rw [List.take_succ_cons, List.cons_append, List.head?_cons, List.all_cons, List.all_append]
    rw [List.all_cons, Bool.and_eq_true] at h2
    rw [h2.1, List.head?_cons] at *
    rw [h1]
    have : (r.take 6).all isLD = true := List.all_eq_true.mpr fun x hx => List.all_eq_true.mp h2.2 x (List.mem_of_mem_take hx)
    rw [this]; simp [hc]
theorem s_l_stranger {ns : List Str} {Q : Str → Prop} {E : Ex → Prop} (hl : ns.length ≤ 12) (hv : ∀ z ∈ ns, nameB z = true) (k : ∀ z, nameB z = true → z ∉ ns → Q z) : (p_l_stranger ns).run Q E := by
  unfold p_l_stranger
  (repeat (first | with_reducible refine D.bindI ?_ | with_reducible refine D.kontI ?_ | with_reducible refine D.pureI ?_))
  refine d_draw (by decide) (by decide) fun q q0 q1 => ?_
  (repeat (first | with_reducible refine D.bindI ?_ | with_reducible refine D.kontI ?_ | with_reducible refine D.pureI ?_))
  refine s_l_word q0 (by omega) fun w hw ha => ?_
  (repeat (first | with_reducible refine D.bindI ?_ | with_reducible refine D.kontI ?_ | with_reducible refine D.pureI ?_))
  refine d_addS (by have : (Str.ofString "y").length = 1 := by decide +kernel
                    omega) ?_
  have ey : Str.ofString "y" = ⟨#[121]⟩ := by decide +kernel
  have hy : nameB (Str.ofString "y" ++ w) = true := by rw [ey]; exact nameB_app (by decide) (by omega) ha
  refine d_jn' (fun z => nameB z = true) (fun z hz => ?_) (fun jp hj => ?_)
  · (repeat (first | with_reducible refine D.bindI ?_ | with_reducible refine D.kontI ?_ | with_reducible refine D.pureI ?_))
    refine d_rng (by omega) ?_
    refine d_loop (fun j (z : Str) => nameB z = true ∧ (z ∉ ns ∨ ∀ t, t < j → yn t ∈ ns)) ⟨hz, .inr fun t h => absurd h (Nat.not_lt_zero t)⟩ ?_ ?_
    · rintro j e z nx2 he ⟨hz, hor⟩ hnx2
      obtain ⟨rfl, hj⟩ := rngL_get he
      have hj' : j < 13 := by omega
      have hzl := yn_len j hj'
      have ezn : Str.ofString "y" ++ Str.ofString (toString (0 + (j : Int))) = yn j := by rw [Int.zero_add]; rfl
      have ezn2 : Str.ofString "y" ++ (toString (0 + (j : Int)) : Str) = yn j := ezn
      have hlen : (Str.ofString "y").length + (Str.ofString (toString (0 + (j : Int)))).length ≤ 1000 := by
        rw [← len_app, ezn]; omega
      have hlog : (0 + (j : Int)).natAbs.log2 < 1920 := by
        have h1 : (0 + (j : Int)).natAbs = j := by omega
        have : j.log2 ≤ j := Nat.log2_le_self j
        rw [h1]; omega
      (repeat (first | with_reducible refine D.bindI ?_ | with_reducible refine D.kontI ?_ | with_reducible refine D.pureI ?_))
      refine d_ifd (fun hin => ?_) (fun hin => ?_)
      · (repeat (first | with_reducible refine D.bindI ?_ | with_reducible refine D.kontI ?_ | with_reducible refine D.pureI ?_))
        refine d_strI hlog ?_
        (repeat (first | with_reducible refine D.bindI ?_ | with_reducible refine D.kontI ?_ | with_reducible refine D.pureI ?_))
        refine d_addS hlen ?_
        (repeat (first | with_reducible refine D.bindI ?_ | with_reducible refine D.kontI ?_ | with_reducible refine D.pureI ?_))
        refine d_ifn (fun hnin => ?_) (fun hyin => ?_)
        · (repeat (first | with_reducible refine D.bindI ?_ | with_reducible refine D.kontI ?_ | with_reducible refine D.pureI ?_))
          refine d_strI hlog ?_
          (repeat (first | with_reducible refine D.bindI ?_ | with_reducible refine D.kontI ?_ | with_reducible refine D.pureI ?_))
          refine d_addS hlen ?_
          refine hnx2 _ ⟨?_, .inl ?_⟩
          · rw [ezn2]; exact yn_names j hj'
          · exact hnin
        · refine hnx2 _ ⟨hz, .inr fun t ht => ?_⟩
          rcases Nat.lt_or_ge t j with h | h
          · exact (hor.resolve_left (fun h => h hin)) t h
          · have : t = j := by omega
            rw [this, ← ezn2]; exact hyin
      · (repeat (first | with_reducible refine D.bindI ?_ | with_reducible refine D.kontI ?_ | with_reducible refine D.pureI ?_))
        exact d_if (fun h => by cases h) (fun _ => hnx2 _ ⟨hz, .inl hin⟩)
    · rintro z ⟨hz, hor⟩
      refine k z hz ?_
      rcases hor with h | h
      · exact h
      · exfalso
        have h13 : ((rngL 0 13).length) = 13 := by rw [len_rngL]; rfl
        rw [h13] at h
        have hsub : ∀ x ∈ (List.range 13).map yn, x ∈ ns := fun x hx => by
          obtain ⟨t, ht, rfl⟩ := List.mem_map.mp hx
          exact h t (List.mem_range.mp ht)
        have := nodup_le _ ns yn_nd hsub
        rw [List.length_map, List.length_range] at this
        omega
  (repeat (first | with_reducible refine D.bindI ?_ | with_reducible refine D.kontI ?_ | with_reducible refine D.pureI ?_))
  refine d_ifd (fun h0 => ?_) (fun _ => ?_)
  · (repeat (first | with_reducible refine D.bindI ?_ | with_reducible refine D.kontI ?_ | with_reducible refine D.pureI ?_))
    refine d_draw (by decide) (by decide) fun q2 _ _ => ?_
    (repeat (first | with_reducible refine D.bindI ?_ | with_reducible refine D.kontI ?_ | with_reducible refine D.pureI ?_))
    refine d_ifd (fun _ => ?_) (fun _ => hj _ hy)
    (repeat (first | with_reducible refine D.bindI ?_ | with_reducible refine D.kontI ?_ | with_reducible refine D.pureI ?_))
    refine d_draw (by omega) (by omega) fun r r0 r1 => ?_
    (repeat (first | with_reducible refine D.bindI ?_ | with_reducible refine D.kontI ?_ | with_reducible refine D.pureI ?_))
    refine d_ixL' r0 r1 fun a hm _ => ?_
    have hn := hv a hm
    have hl := nameB_len hn
    (repeat (first | with_reducible refine D.bindI ?_ | with_reducible refine D.kontI ?_ | with_reducible refine D.pureI ?_))
    refine d_slS (by omega) ?_
    (repeat (first | with_reducible refine D.bindI ?_ | with_reducible refine D.kontI ?_ | with_reducible refine D.pureI ?_))
    have ex : Str.ofString "x" = ⟨#[120]⟩ := by decide +kernel
    refine d_addS (by have := cutS_length a none (some 7); rw [ex, len_sgl]; omega) ?_
    refine hj _ ?_
    rw [ex]
    exact nameB_cut hn (by decide)
  · (repeat (first | with_reducible refine D.bindI ?_ | with_reducible refine D.kontI ?_ | with_reducible refine D.pureI ?_))
    exact d_if (fun h => by cases h) (fun _ => hj _ hy)

/-! ### dicts of names and minutes -/
theorem nd_take {α β : Type} {l : List (α × β)} (hn : (l.map (·.1)).Nodup) {i : Nat} {a : α} {v : β} (h : l[i]? = some (a, v)) : a ∉ (l.take i).map (·.1) := by
  intro z
  obtain ⟨p, hp, e⟩ := List.mem_map.mp z
  obtain ⟨j, hj⟩ := List.getElem?_of_mem hp
  have hji : j < i := by
    have := (List.getElem?_eq_some_iff.mp hj).1
    rw [List.length_take] at this
    omega
  rw [List.getElem?_take_of_lt hji] at hj
  have h1 : (l.map (·.1))[j]? = some a := by rw [List.getElem?_map, hj]; exact congrArg some e
  have h2 : (l.map (·.1))[i]? = some a := by rw [List.getElem?_map, h]; rfl
  exact nodup_ne hn h1 h2 (by omega) rfl
structure Rot (ns : List Str) (ms : List Int) (d : Dc Str Int) : Prop where
  len : d.l.length = ns.length
  sub : ∀ p ∈ d.l, p ∈ ns.zip ms
  sup : ∀ p ∈ ns.zip ms, p ∈ d.l
  nd : (d.l.map (·.1)).Nodup
theorem zip_get {ns : List Str} {ms : List Int} {j : Nat} {z : Str} {m : Int} (h1 : ns[j]? = some z) (h2 : ms[j]? = some m) : (ns.zip ms)[j]? = some (z, m) := by
  rw [List.getElem?_zip_eq_some]; exact ⟨h1, h2⟩
theorem mod_ne {n f : Int} {k i : Nat} (h : k < i) (hi : (i : Int) < n) : ((k : Int) + f) % n ≠ ((i : Int) + f) % n := by
  intro e
  have e2 := Int.emod_eq_emod_iff_emod_sub_eq_zero.mp e
  have e3 : ((k : Int) + f - ((i : Int) + f)) = -((i : Int) - k) := by omega
  rw [e3] at e2
  have d1 := Int.dvd_of_emod_eq_zero e2
  have d2 : n ∣ ((i : Int) - k) := (Int.dvd_neg).mp d1
  have := Int.le_of_dvd (by omega) d2
  omega
theorem s_l_minutes {ns : List Str} {ms : List Int} {f : Int} {Q : Dc Str Int → Prop} {E : Ex → Prop} (hn : ns.Nodup) (hl : ns.length ≤ 100) (hm : ns.length ≤ ms.length) (k : ∀ d, Rot ns ms d → (f = 0 → d = ⟨ns.zip ms⟩) → Q d) : (p_l_minutes ns ms f).run Q E := by
  unfold p_l_minutes
  (repeat (first | with_reducible refine D.bindI ?_ | with_reducible refine D.kontI ?_ | with_reducible refine D.pureI ?_))
  refine d_rng (by omega) ?_
  let g : Nat → Str × Int := fun j => (ns.getD (((j : Int) + f) % (ns.length : Int)).toNat default, ms.getD (((j : Int) + f) % (ns.length : Int)).toNat 0)
  refine d_loop (fun i d => d.l = (List.range i).map g ∧ (d.l.map (·.1)).Nodup) ⟨rfl, List.nodup_nil⟩ ?_ ?_
  · rintro i e ⟨l⟩ nx he ⟨hp, hnd⟩ hnx
    obtain ⟨rfl, hi⟩ := rngL_get he
    simp only at hp hnd
    have hpos : 0 < (ns.length : Int) := by omega
    have b0 := Int.emod_nonneg ((0 : Int) + (i : Int) + f) (Int.ne_of_gt hpos)
    have b1 := Int.emod_lt_of_pos ((0 : Int) + (i : Int) + f) hpos
    (repeat (first | with_reducible refine D.bindI ?_ | with_reducible refine D.kontI ?_ | with_reducible refine D.pureI ?_))
    refine d_modI hpos ?_
    (repeat (first | with_reducible refine D.bindI ?_ | with_reducible refine D.kontI ?_ | with_reducible refine D.pureI ?_))
    refine d_ixL' b0 (by omega) fun m _ hm' => ?_
    (repeat (first | with_reducible refine D.bindI ?_ | with_reducible refine D.kontI ?_ | with_reducible refine D.pureI ?_))
    refine d_ixL' b0 b1 fun z _ hz => ?_
    (repeat (first | with_reducible refine D.bindI ?_ | with_reducible refine D.kontI ?_ | with_reducible refine D.pureI ?_))
    have hi2 : l.length = i := by rw [hp, List.length_map, List.length_range]
    refine d_dput (by show l.length < 1000; omega) ?_
    have gi : g i = (z, m) := by
      show (_, _) = _
      rw [Int.zero_add] at hz hm'
      rw [List.getD_eq_getElem?_getD, List.getD_eq_getElem?_getD, hz, hm']
      rfl
    have hnew : z ∉ l.map (·.1) := by
      rw [hp]
      intro w
      rw [List.map_map] at w
      obtain ⟨j, hj, ej⟩ := List.mem_map.mp w
      rw [List.mem_range] at hj
      have c0 := Int.emod_nonneg ((j : Int) + f) (Int.ne_of_gt hpos)
      have c1 := Int.emod_lt_of_pos ((j : Int) + f) hpos
      obtain ⟨y, hy⟩ : ∃ y, ns[(((j : Int) + f) % (ns.length : Int)).toNat]? = some y := ⟨_, List.getElem?_eq_getElem (by omega)⟩
      have ey : y = z := by
        have : ns.getD (((j : Int) + f) % (ns.length : Int)).toNat default = z := ej
        rw [List.getD_eq_getElem?_getD, hy] at this
        exact this
      rw [Int.zero_add] at hz b0 b1
      exact nodup_ne hn hy hz (fun q => mod_ne (f := f) hj (by omega) (((Int.toNat_of_nonneg c0).symm.trans (congrArg (fun n : Nat => (n : Int)) q)).trans (Int.toNat_of_nonneg b0))) ey
    have e2 : putD l z m = l ++ [(z, m)] := putD_new (getD_none.mpr hnew)
    refine hnx _ ⟨?_, ?_⟩
    · show putD l z m = _
      rw [e2, List.range_succ, List.map_append, ← hp]
      show _ = l ++ [g i]
      rw [gi]
    · show ((putD l z m).map (·.1)).Nodup
      rw [e2, List.map_append]
      exact List.nodup_append.mpr ⟨hnd, by simp, fun a ha b hb => by
        simp at hb
        subst hb
        intro e
        subst e
        exact hnew ha⟩
  · rintro ⟨l⟩ ⟨hp, hnd⟩
    simp only at hp hnd
    have hL : (rngL 0 (ns.length : Int)).length = ns.length := by rw [len_rngL]; omega
    rw [hL] at hp
    have gz : ∀ j < ns.length, ∀ i : Nat, i = (((j : Int) + f) % (ns.length : Int)).toNat → (ns.zip ms)[i]? = some (g j) := fun j hj i hi => by
      have c0 := Int.emod_nonneg ((j : Int) + f) (show (ns.length : Int) ≠ 0 by omega)
      have c1 := Int.emod_lt_of_pos ((j : Int) + f) (show 0 < (ns.length : Int) by omega)
      have e1 : ns[i]? = some (ns.getD i default) := by rw [List.getD_eq_getElem?_getD, List.getElem?_eq_getElem (by omega)]; rfl
      have e2 : ms[i]? = some (ms.getD i 0) := by rw [List.getD_eq_getElem?_getD, List.getElem?_eq_getElem (by omega)]; rfl
      rw [zip_get e1 e2, hi]
    refine k _ ⟨by rw [hp, List.length_map, List.length_range], fun p h => ?_, fun p h => ?_, hnd⟩ (fun e => ?_)
    · rw [hp] at h
      obtain ⟨j, hj, rfl⟩ := List.mem_map.mp h
      exact List.mem_of_getElem? (gz j (List.mem_range.mp hj) _ rfl)
    · obtain ⟨i, hi⟩ := List.getElem?_of_mem h
      have hil : i < ns.length := by
        have := (List.getElem?_eq_some_iff.mp hi).1
        rw [List.length_zip] at this
        omega
      have c0 := Int.emod_nonneg ((i : Int) - f) (show (ns.length : Int) ≠ 0 by omega)
      have c1 := Int.emod_lt_of_pos ((i : Int) - f) (show 0 < (ns.length : Int) by omega)
      have e : (((((i : Int) - f) % (ns.length : Int)).toNat : Int) + f) % (ns.length : Int) = i := by
        rw [Int.toNat_of_nonneg c0, Int.emod_add_emod, Int.sub_add_cancel]
        exact Int.emod_eq_of_lt (by omega) (by omega)
      have := gz (((i : Int) - f) % (ns.length : Int)).toNat (by omega) i (by rw [e]; omega)
      rw [hi] at this
      rw [hp, Option.some.inj this]
      exact List.mem_map.mpr ⟨_, List.mem_range.mpr (by omega), rfl⟩
    · subst e
      have : l = ns.zip ms := by
        refine List.ext_getElem? fun i => ?_
        by_cases hi : i < ns.length
        · rw [gz i hi i (by rw [Int.add_zero, Int.emod_eq_of_lt (by omega) (by omega)]; omega), hp, List.getElem?_map, List.getElem?_range hi]
          rfl
        · rw [List.getElem?_eq_none (by rw [hp, List.length_map, List.length_range]; omega), List.getElem?_eq_none (by rw [List.length_zip]; omega)]
      rw [this]
/-! ### timetables -/
abbrev tt (r : Int) (d : Dc Str Int) : O_Times := ⟨r, d, dkeys d⟩
theorem mk_times {r : Int} {d : Dc Str Int} {Q : O_Times → Prop} {E : Ex → Prop} (h : TimesOk r d) (k : Q (tt r d)) : (p_Times_init_ r d).run Q E :=
  s_Times_init (fun p hp => Nat.le_trans (nameB_len (h.nv p hp)).2 (by rw [sizeLine_eq]; omega)) (fun _ => k) (fun e he => by rw [timesErr_none.mpr h] at he; cases he)
theorem ok_rot {r : Int} {ns : List Str} {ms : List Int} {d : Dc Str Int} (r0 : 3 ≤ r) (r1 : r ≤ 120) (hv : ∀ z ∈ ns, nameB z = true) (hm : ∀ m ∈ ms, 0 ≤ m ∧ m < r) (h : ∀ p ∈ d.l, p ∈ ns.zip ms) : TimesOk r d :=
  ⟨r0, r1, fun p hp => hv _ (List.of_mem_zip (h p hp)).1, fun p hp => hm _ (List.of_mem_zip (h p hp)).2⟩
theorem eqD_rot {ns : List Str} {ms : List Int} {a b : Dc Str Int} (h : Rot ns ms a) (h' : Rot ns ms b) : eqD a b = true := by
  unfold eqD
  rw [Bool.and_eq_true, List.all_eq_true]
  refine ⟨by rw [h.len, h'.len]; exact beq_self_eq_true _, fun p hp => decide_eq_true ?_⟩
  exact getD_of h'.nd (h'.sup p (h.sub p hp))
theorem eqD_self {a : Dc Str Int} (h : (a.l.map (·.1)).Nodup) : eqD a a = true := by
  unfold eqD
  rw [Bool.and_eq_true, List.all_eq_true]
  exact ⟨beq_self_eq_true _, fun p hp => decide_eq_true (getD_of h hp)⟩
theorem eqD_len {a b : Dc Str Int} (h : a.l.length ≠ b.l.length) : eqD a b = false := by
  unfold eqD
  rw [beq_eq_false_iff_ne.mpr h, Bool.false_and]
theorem eqD_ne {a b : Dc Str Int} {z : Str} {v w : Int} (h : (z, v) ∈ a.l) (h' : (z, w) ∈ b.l) (hn : (b.l.map (·.1)).Nodup) (ne : v ≠ w) : eqD a b = false := by
  cases e : eqD a b with
  | false => rfl
  | true =>
    unfold eqD at e
    rw [Bool.and_eq_true, List.all_eq_true] at e
    have := of_decide_eq_true (e.2 _ h)
    rw [getD_of hn h'] at this
    exact absurd (Option.some.inj this).symm ne
theorem s_l_told {r : Int} {d : Dc Str Int} {z : Str} {Q : Bool → Prop} {E : Ex → Prop} (hn : (d.l.map (·.1)).Nodup) (hl : d.l.length ≤ 100) (hz : z ∉ d.l.map (·.1)) (k : Q true) : (p_l_told (tt r d) r d z).run Q E := by
  have hk : (dkeys d).length = d.l.length := by unfold dkeys; rw [List.length_map]
  unfold p_l_told p_Times_round_length p_Times_minutes p_Times_len_
  (repeat (first | with_reducible refine D.bindI ?_ | with_reducible refine D.kontI ?_ | with_reducible refine D.pureI ?_))
  refine d_same rfl trivial ?_
  (repeat (first | with_reducible refine D.bindI ?_ | with_reducible refine D.kontI ?_ | with_reducible refine D.pureI ?_))
  refine d_same rfl ⟨rfl, hn, fun _ _ => trivial⟩ ?_
  (repeat (first | with_reducible refine D.bindI ?_ | with_reducible refine D.kontI ?_ | with_reducible refine D.pureI ?_))
  refine D.asrI (by show 0 ≤ ((dkeys d).length : Int) ∧ ((dkeys d).length : Int) < _; omega) ?_
  (repeat (first | with_reducible refine D.bindI ?_ | with_reducible refine D.kontI ?_ | with_reducible refine D.pureI ?_))
  refine d_same (by show ((dkeys d).length : Int) = _; rw [hk]) trivial ?_
  (repeat (first | with_reducible refine D.bindI ?_ | with_reducible refine D.kontI ?_ | with_reducible refine D.pureI ?_))
  refine D.asrI (by show 0 ≤ ((dkeys d).length : Int) ∧ ((dkeys d).length : Int) ≤ _; rw [sizeLine_eq]; omega) ?_
  (repeat (first | with_reducible refine D.bindI ?_ | with_reducible refine D.kontI ?_ | with_reducible refine D.pureI ?_))
  refine d_same rfl (sm_strs (by show (dkeys d).length ≤ 1000; omega)) ?_
  (repeat (first | with_reducible refine D.bindI ?_ | with_reducible refine D.kontI ?_ | with_reducible refine D.pureI ?_))
  refine d_ifd (fun h => absurd h hz) (fun _ => ?_)
  refine d_loop (fun _ _ => True) trivial ?_ (fun _ _ => k)
  intro i e s nx he _ hnx
  have hm : e ∈ dkeys d := List.mem_of_getElem? he
  obtain ⟨v, hv⟩ := Option.isSome_iff_exists.mp (getD_some.mpr hm)
  (repeat (first | with_reducible refine D.bindI ?_ | with_reducible refine D.kontI ?_ | with_reducible refine D.pureI ?_))
  refine d_ifn (fun h => absurd hm h) (fun _ => ?_)
  (repeat (first | with_reducible refine D.bindI ?_ | with_reducible refine D.kontI ?_ | with_reducible refine D.pureI ?_))
  refine s_Times_getitem (fun w hw => ?_) (fun h => by rw [show getD d.l e = none from h] at hv; cases hv)
  have hw : getD d.l e = some w := hw
  (repeat (first | with_reducible refine D.bindI ?_ | with_reducible refine D.kontI ?_ | with_reducible refine D.pureI ?_))
  refine d_dget hw ?_
  (repeat (first | with_reducible refine D.bindI ?_ | with_reducible refine D.kontI ?_ | with_reducible refine D.pureI ?_))
  refine d_same rfl trivial ?_
  (repeat (first | with_reducible refine D.bindI ?_ | with_reducible refine D.kontI ?_ | with_reducible refine D.pureI ?_))
  exact d_if (fun h => by cases h) fun _ => hnx _ trivial
/-- every minute anew -/
def reb (g : Int → Int) (d : Dc Str Int) : Dc Str Int := ⟨d.l.map fun p => (p.1, g p.2)⟩
theorem reb_keys {g : Int → Int} {d : Dc Str Int} : (reb g d).l.map (·.1) = d.l.map (·.1) := by
  unfold reb
  rw [List.map_map]
  rfl
theorem s_reb {r : Int} {g : Int → Int} {d : Dc Str Int} {Q : Dc Str Int → Prop} {E : Ex → Prop} (r0 : 0 < r) (hn : (d.l.map (·.1)).Nodup) (hl : d.l.length ≤ 100) (k : Q (reb (fun v => g v % r) d)) :
    (D.dc (fun (e3 : Str) => D.bind (dget d e3) fun v7 => D.bind (modI (g v7) r) fun v9 => D.pure (some ⟨e3, v9⟩)) (dkeys d) []).run Q E := by
  have hk : (dkeys d).length = d.l.length := by unfold dkeys; rw [List.length_map]
  refine d_dc (by omega) (fun i acc => acc = (d.l.take i).map fun p => (p.1, g p.2 % r)) rfl (fun i a acc Q1 ha _ hp h1 _ => ?_) (fun res hp => ?_)
  · unfold dkeys at ha
    rw [List.getElem?_map] at ha
    obtain ⟨p, hp1, rfl⟩ := Option.map_eq_some_iff.mp ha
    (repeat (first | with_reducible refine D.bindI ?_ | with_reducible refine D.kontI ?_ | with_reducible refine D.pureI ?_))
    refine d_dget (getD_of hn (List.mem_of_getElem? hp1)) ?_
    (repeat (first | with_reducible refine D.bindI ?_ | with_reducible refine D.kontI ?_ | with_reducible refine D.pureI ?_))
    refine d_modI r0 ?_
    (repeat (first | with_reducible refine D.bindI ?_ | with_reducible refine D.kontI ?_ | with_reducible refine D.pureI ?_))
    refine h1 _ ?_
    have hnew : getD acc p.1 = none := by
      rw [getD_none, hp, List.map_map]
      exact nd_take hn (v := p.2) hp1
    show putD acc p.1 (g p.2 % r) = _
    rw [putD_new hnew, hp, List.take_succ, hp1]
    simp
  · rw [hk, List.take_length] at hp
    subst hp
    exact k
theorem s_l_turned {d : Dc Str Int} {sg k0 r : Int} {Q : Dc Str Int → Prop} {E : Ex → Prop} (r0 : 0 < r) (hs : -5 ≤ sg ∧ sg ≤ 5) (hn : (d.l.map (·.1)).Nodup) (hl : d.l.length ≤ 100) (k : Q (reb (fun v => (sg * v + k0) % r) d)) : (p_l_turned d sg k0 r).run Q E := by
  have hk : (dkeys d).length = d.l.length := by unfold dkeys; rw [List.length_map]
  unfold p_l_turned
  refine d_loop (fun i s => s.l = (d.l.take i).map fun p => (p.1, (sg * p.2 + k0) % r)) rfl ?_ ?_
  · rintro i a ⟨acc⟩ nx ha hp hnx
    simp only at hp
    unfold dkeys at ha
    rw [List.getElem?_map] at ha
    obtain ⟨p, hp1, rfl⟩ := Option.map_eq_some_iff.mp ha
    (repeat (first | with_reducible refine D.bindI ?_ | with_reducible refine D.kontI ?_ | with_reducible refine D.pureI ?_))
    refine d_dget (getD_of hn (List.mem_of_getElem? hp1)) ?_
    (repeat (first | with_reducible refine D.bindI ?_ | with_reducible refine D.kontI ?_ | with_reducible refine D.pureI ?_))
    refine D.asrI (.inl (by omega)) ?_
    (repeat (first | with_reducible refine D.bindI ?_ | with_reducible refine D.kontI ?_ | with_reducible refine D.pureI ?_))
    refine d_modI r0 ?_
    (repeat (first | with_reducible refine D.bindI ?_ | with_reducible refine D.kontI ?_ | with_reducible refine D.pureI ?_))
    refine d_dput (by rw [hp, List.length_map, List.length_take]; omega) ?_
    refine hnx _ ?_
    have hnew : getD acc p.1 = none := by
      rw [getD_none, hp, List.map_map]
      exact nd_take hn (v := p.2) hp1
    show putD acc p.1 _ = _
    rw [putD_new hnew, hp, List.take_succ, hp1]
    simp
  · rintro ⟨acc⟩ hp
    simp only at hp
    rw [hk, List.take_length] at hp
    subst hp
    exact k
theorem reb_congr {g h : Int → Int} {d : Dc Str Int} (e : ∀ v, g v = h v) : reb g d = reb h d := by rw [show g = h from funext e]
theorem ok_reb {r : Int} {g : Int → Int} {d : Dc Str Int} (h : TimesOk r d) : TimesOk r (reb (fun v => g v % r) d) := by
  have := h.r0
  refine ⟨h.r0, h.r1, fun p hp => ?_, fun p hp => ?_⟩ <;> obtain ⟨q, hq, rfl⟩ := List.mem_map.mp hp
  · exact h.nv q hq
  · exact ⟨Int.emod_nonneg _ (by omega), Int.emod_lt_of_pos _ (by omega)⟩
theorem s_rshift {r k0 : Int} {d : Dc Str Int} {Q : O_Times → Prop} {E : Ex → Prop} (h : TimesOk r d) (hn : (d.l.map (·.1)).Nodup) (hl : d.l.length ≤ 100) (k : Q (tt r (reb (fun v => (v + k0) % r) d))) : (p_Times_rshift_ (tt r d) k0).run Q E := by
  have := h.r0
  unfold p_Times_rshift_
  (repeat (first | with_reducible refine D.bindI ?_ | with_reducible refine D.kontI ?_ | with_reducible refine D.pureI ?_))
  refine s_reb (r := r) (g := fun v => v + k0) (d := d) (by omega) hn hl ?_
  (repeat (first | with_reducible refine D.bindI ?_ | with_reducible refine D.kontI ?_ | with_reducible refine D.pureI ?_))
  refine mk_times (ok_reb h) ?_
  (repeat (first | with_reducible refine D.bindI ?_ | with_reducible refine D.kontI ?_ | with_reducible refine D.pureI ?_))
  exact k
theorem s_lshift {r k0 : Int} {d : Dc Str Int} {Q : O_Times → Prop} {E : Ex → Prop} (h : TimesOk r d) (hn : (d.l.map (·.1)).Nodup) (hl : d.l.length ≤ 100) (k : Q (tt r (reb (fun v => (v - k0) % r) d))) : (p_Times_lshift_ (tt r d) k0).run Q E := by
  have := h.r0
  unfold p_Times_lshift_
  (repeat (first | with_reducible refine D.bindI ?_ | with_reducible refine D.kontI ?_ | with_reducible refine D.pureI ?_))
  refine s_reb (r := r) (g := fun v => v - k0) (d := d) (by omega) hn hl ?_
  (repeat (first | with_reducible refine D.bindI ?_ | with_reducible refine D.kontI ?_ | with_reducible refine D.pureI ?_))
  refine mk_times (ok_reb h) ?_
  (repeat (first | with_reducible refine D.bindI ?_ | with_reducible refine D.kontI ?_ | with_reducible refine D.pureI ?_))
  exact k
theorem s_mirrored {r : Int} {d : Dc Str Int} {Q : O_Times → Prop} {E : Ex → Prop} (h : TimesOk r d) (hn : (d.l.map (·.1)).Nodup) (hl : d.l.length ≤ 100) (k : Q (tt r (reb (fun v => (-v) % r) d))) : (p_Times_mirrored (tt r d)).run Q E := by
  have := h.r0
  unfold p_Times_mirrored
  (repeat (first | with_reducible refine D.bindI ?_ | with_reducible refine D.kontI ?_ | with_reducible refine D.pureI ?_))
  refine s_reb (r := r) (g := fun v => -v) (d := d) (by omega) hn hl ?_
  (repeat (first | with_reducible refine D.bindI ?_ | with_reducible refine D.kontI ?_ | with_reducible refine D.pureI ?_))
  refine mk_times (ok_reb h) ?_
  (repeat (first | with_reducible refine D.bindI ?_ | with_reducible refine D.kontI ?_ | with_reducible refine D.pureI ?_))
  exact k
theorem neg_neg_mod {v r : Int} (h0 : 0 ≤ v) (h1 : v < r) : (-((-v) % r)) % r = v := by
  by_cases hv : v = 0
  · subst hv; simp
  · have e1 : (-v) % r = r - v := by
      rw [← Int.add_emod_right (-v) r]
      rw [Int.emod_eq_of_lt (by omega) (by omega)]
      omega
    rw [e1, ← Int.add_emod_right (-(r - v)) r, Int.emod_eq_of_lt (by omega) (by omega)]
    omega
theorem reb_back {r : Int} {d : Dc Str Int} (h : TimesOk r d) : reb (fun v => (-v) % r) (reb (fun v => (-v) % r) d) = d := by
  unfold reb
  rw [List.map_map]
  have : List.map ((fun p : Str × Int => (p.1, (-p.2) % r)) ∘ fun p => (p.1, (-p.2) % r)) d.l = d.l.map id := by
    refine List.map_congr_left fun p hp => ?_
    show (p.1, (-((-p.2) % r)) % r) = p
    rw [neg_neg_mod (h.mv p hp).1 (h.mv p hp).2]
  rw [this, List.map_id]
/-! ### zeros -/
def zer (l : List Str) : Dc Str Int := ⟨l.map fun a => (a, (0 : Int))⟩
theorem zer_keys {l : List Str} : (zer l).l.map (·.1) = l := by
  unfold zer
  rw [List.map_map]
  exact List.map_id l
theorem ok_zer {r : Int} {l : List Str} (r0 : 3 ≤ r) (r1 : r ≤ 120) (hv : ∀ z ∈ l, nameB z = true) : TimesOk r (zer l) := by
  refine ⟨r0, r1, fun p hp => ?_, fun p hp => ?_⟩ <;> obtain ⟨q, hq, rfl⟩ := List.mem_map.mp hp
  · exact hv q hq
  · exact ⟨Int.le_refl _, by show (0 : Int) < r; omega⟩
theorem s_zero {r : Int} {l : List Str} {Q : O_Times → Prop} {E : Ex → Prop} (r0 : 3 ≤ r) (r1 : r ≤ 120) (hv : ∀ z ∈ l, nameB z = true) (hn : l.Nodup) (hl : l.length ≤ 100) (k : Q (tt r (zer l))) : (p_Times_zero r (⟨l⟩ : Tl Str)).run Q E := by
  unfold p_Times_zero
  (repeat (first | with_reducible refine D.bindI ?_ | with_reducible refine D.kontI ?_ | with_reducible refine D.pureI ?_))
  refine d_dmap (k := fun a => a) (v := fun _ => (0 : Int)) (l := l) (by omega) (by rw [List.map_id']; exact hn) ?_
  (repeat (first | with_reducible refine D.bindI ?_ | with_reducible refine D.kontI ?_ | with_reducible refine D.pureI ?_))
  refine mk_times (ok_zer r0 r1 hv) ?_
  (repeat (first | with_reducible refine D.bindI ?_ | with_reducible refine D.kontI ?_ | with_reducible refine D.pureI ?_))
  exact k
theorem zip_zer {l : List Str} (h : l.length ≤ 5) : (⟨l.zip [(0 : Int), 0, 0, 0, 0]⟩ : Dc Str Int) = zer l := by
  match l, h with
  | [], _ => rfl
  | [_], _ => rfl
  | [_, _], _ => rfl
  | [_, _, _], _ => rfl
  | [_, _, _, _], _ => rfl
  | [_, _, _, _, _], _ => rfl
  | _ :: _ :: _ :: _ :: _ :: _ :: _, h => simp at h
theorem s_l_zero {r m : Int} {ns : List Str} {Q : O_Times → Prop} {E : Ex → Prop} (r0 : 3 ≤ r) (r1 : r ≤ 120) (hv : ∀ z ∈ ns, nameB z = true) (hn : ns.Nodup) (h0 : 0 ≤ m) (h1 : m ≤ (ns.length : Int)) (h5 : m ≤ 5) (k : Q (tt r (zer (ns.take m.toNat)))) : (p_l_zero r ns m).run Q E := by
  have zz : ∀ l : List Str, ns.take m.toNat = l → (p_Times_zero r (⟨l⟩ : Tl Str)).run Q E := fun l e => by
    subst e
    refine s_zero r0 r1 (fun z hz => hv z (List.mem_of_mem_take hz)) (hn.sublist (List.take_sublist _ _)) (by rw [List.length_take]; omega) k
  unfold p_l_zero
  refine d_ifd (fun e => ?_) (fun _ => ?_)
  · subst e; (repeat (first | with_reducible refine D.bindI ?_ | with_reducible refine D.kontI ?_ | with_reducible refine D.pureI ?_)); refine D.bindI ?_; exact zz _ rfl
  refine d_ifd (fun e => ?_) (fun _ => ?_)
  · subst e
    obtain ⟨a, t, rfl⟩ : ∃ a t, ns = a :: t := by match ns, h1 with | a :: t, _ => exact ⟨a, t, rfl⟩
    (repeat (first | with_reducible refine D.bindI ?_ | with_reducible refine D.kontI ?_ | with_reducible refine D.pureI ?_))
    refine d_ixL (n := 0) rfl (by simp) ?_
    (repeat (first | with_reducible refine D.bindI ?_ | with_reducible refine D.kontI ?_ | with_reducible refine D.pureI ?_))
    exact zz _ rfl
  refine d_ifd (fun e => ?_) (fun _ => ?_)
  · subst e
    obtain ⟨a, b, t, rfl⟩ : ∃ a b t, ns = a :: b :: t := by match ns, h1 with | a :: b :: t, _ => exact ⟨a, b, t, rfl⟩
    (repeat (first | with_reducible refine D.bindI ?_ | with_reducible refine D.kontI ?_ | with_reducible refine D.pureI ?_))
    refine d_ixL (n := 0) rfl (by simp) ?_
    (repeat (first | with_reducible refine D.bindI ?_ | with_reducible refine D.kontI ?_ | with_reducible refine D.pureI ?_))
    refine d_ixL (n := 1) rfl (by simp) ?_
    (repeat (first | with_reducible refine D.bindI ?_ | with_reducible refine D.kontI ?_ | with_reducible refine D.pureI ?_))
    exact zz _ rfl
  refine d_ifd (fun e => ?_) (fun _ => ?_)
  · subst e
    obtain ⟨a, b, c, t, rfl⟩ : ∃ a b c t, ns = a :: b :: c :: t := by match ns, h1 with | a :: b :: c :: t, _ => exact ⟨a, b, c, t, rfl⟩
    (repeat (first | with_reducible refine D.bindI ?_ | with_reducible refine D.kontI ?_ | with_reducible refine D.pureI ?_))
    refine d_ixL (n := 0) rfl (by simp) ?_
    (repeat (first | with_reducible refine D.bindI ?_ | with_reducible refine D.kontI ?_ | with_reducible refine D.pureI ?_))
    refine d_ixL (n := 1) rfl (by simp) ?_
    (repeat (first | with_reducible refine D.bindI ?_ | with_reducible refine D.kontI ?_ | with_reducible refine D.pureI ?_))
    refine d_ixL (n := 2) rfl (by simp) ?_
    (repeat (first | with_reducible refine D.bindI ?_ | with_reducible refine D.kontI ?_ | with_reducible refine D.pureI ?_))
    exact zz _ rfl
  refine d_ifd (fun e => ?_) (fun _ => ?_)
  · subst e
    obtain ⟨a, b, c, d, t, rfl⟩ : ∃ a b c d t, ns = a :: b :: c :: d :: t := by match ns, h1 with | a :: b :: c :: d :: t, _ => exact ⟨a, b, c, d, t, rfl⟩
    (repeat (first | with_reducible refine D.bindI ?_ | with_reducible refine D.kontI ?_ | with_reducible refine D.pureI ?_))
    refine d_ixL (n := 0) rfl (by simp) ?_
    (repeat (first | with_reducible refine D.bindI ?_ | with_reducible refine D.kontI ?_ | with_reducible refine D.pureI ?_))
    refine d_ixL (n := 1) rfl (by simp) ?_
    (repeat (first | with_reducible refine D.bindI ?_ | with_reducible refine D.kontI ?_ | with_reducible refine D.pureI ?_))
    refine d_ixL (n := 2) rfl (by simp) ?_
    (repeat (first | with_reducible refine D.bindI ?_ | with_reducible refine D.kontI ?_ | with_reducible refine D.pureI ?_))
    refine d_ixL (n := 3) rfl (by simp) ?_
    (repeat (first | with_reducible refine D.bindI ?_ | with_reducible refine D.kontI ?_ | with_reducible refine D.pureI ?_))
    exact zz _ rfl
  · have e : m = 5 := by omega
    subst e
    obtain ⟨a, b, c, d, f, t, rfl⟩ : ∃ a b c d f t, ns = a :: b :: c :: d :: f :: t := by match ns, h1 with | a :: b :: c :: d :: f :: t, _ => exact ⟨a, b, c, d, f, t, rfl⟩
    (repeat (first | with_reducible refine D.bindI ?_ | with_reducible refine D.kontI ?_ | with_reducible refine D.pureI ?_))
    refine d_ixL (n := 0) rfl (by simp) ?_
    (repeat (first | with_reducible refine D.bindI ?_ | with_reducible refine D.kontI ?_ | with_reducible refine D.pureI ?_))
    refine d_ixL (n := 1) rfl (by simp) ?_
    (repeat (first | with_reducible refine D.bindI ?_ | with_reducible refine D.kontI ?_ | with_reducible refine D.pureI ?_))
    refine d_ixL (n := 2) rfl (by simp) ?_
    (repeat (first | with_reducible refine D.bindI ?_ | with_reducible refine D.kontI ?_ | with_reducible refine D.pureI ?_))
    refine d_ixL (n := 3) rfl (by simp) ?_
    (repeat (first | with_reducible refine D.bindI ?_ | with_reducible refine D.kontI ?_ | with_reducible refine D.pureI ?_))
    refine d_ixL (n := 4) rfl (by simp) ?_
    (repeat (first | with_reducible refine D.bindI ?_ | with_reducible refine D.kontI ?_ | with_reducible refine D.pureI ?_))
    exact zz _ rfl
/-! ### other timetables -/
abbrev O2 := Rm.R2 Int (Dc Str Int)
structure Oth (r : Int) (d : Dc Str Int) (o : O2) : Prop where
  ok : TimesOk o.a o.b
  ne : r ≠ o.a ∨ eqD d o.b = false
theorem mod_step {m w r : Int} (m0 : 0 ≤ m) (m1 : m < r) (w0 : 0 ≤ w) (w1 : w < r - 1) : m ≠ (m + 1 + w) % r := by
  by_cases h : m + 1 + w < r
  · rw [Int.emod_eq_of_lt (by omega) h]; omega
  · have e : (m + 1 + w) % r = m + 1 + w - r := by
      have : m + 1 + w = (m + 1 + w - r) + r := by omega
      rw [this, Int.add_emod_right, Int.emod_eq_of_lt (by omega) (by omega)]
      omega
    rw [e]; omega
theorem s_l_others {r : Int} {ns : List Str} {ms : List Int} {z : Str} {Q : List O2 → Prop} {E : Ex → Prop} (r0 : 3 ≤ r) (r1 : r ≤ 120) (hv : ∀ x ∈ ns, nameB x = true) (hn : ns.Nodup) (hl : ns.length ≤ 12) (hm : ∀ m ∈ ms, 0 ≤ m ∧ m < r) (hml : ms.length = ns.length) (hzv : nameB z = true) (hz : z ∉ ns)
    (k : ∀ l, (∀ o ∈ l, Oth r ⟨ns.zip ms⟩ o) → Q l) : (p_l_others r ns ms z).run Q E := by
  have hd : (ns.zip ms).length = ns.length := by rw [List.length_zip]; omega
  unfold p_l_others
  (repeat (first | with_reducible refine D.bindI ?_ | with_reducible refine D.kontI ?_ | with_reducible refine D.pureI ?_))
  refine d_catL (by simp; omega) ?_
  (repeat (first | with_reducible refine D.bindI ?_ | with_reducible refine D.kontI ?_ | with_reducible refine D.pureI ?_))
  refine d_catL (by simp; omega) ?_
  (repeat (first | with_reducible refine D.bindI ?_ | with_reducible refine D.kontI ?_ | with_reducible refine D.pureI ?_))
  refine s_l_minutes (List.nodup_append.mpr ⟨hn, by simp, fun a ha b hb => by
        simp at hb
        subst hb
        intro e
        subst e
        exact hz ha⟩) (by simp; omega) (by simp; omega) fun d1 h1 _ => ?_
  have g1 : Oth r ⟨ns.zip ms⟩ (⟨r, d1⟩ : O2) := ⟨ok_rot r0 r1 (fun x hx => by
      rcases List.mem_append.mp hx with h | h
      · exact hv x h
      · simp at h; subst h; exact hzv) (fun m h => by
      rcases List.mem_append.mp h with h | h
      · exact hm m h
      · simp at h; subst h; show (0 : Int) ≤ 0 ∧ (0 : Int) < r; omega) h1.sub, .inr (eqD_len (by rw [h1.len, hd]; simp))⟩
  have same : ∀ d, Rot ns ms d → ∀ T, 3 ≤ T → T ≤ 120 → r ≠ T → (∀ m ∈ ms, 0 ≤ m ∧ m < T) → Oth r ⟨ns.zip ms⟩ (⟨T, d⟩ : O2) := fun d h T h3 h4 h5 h6 => ⟨ok_rot h3 h4 hv h6 h.sub, .inl h5⟩
  have app1 : ∀ (l : List O2) (o : O2), (∀ x ∈ l, Oth r ⟨ns.zip ms⟩ x) → Oth r ⟨ns.zip ms⟩ o → ∀ x ∈ l ++ [o], Oth r ⟨ns.zip ms⟩ x := fun l o h h' x hx => by
    rcases List.mem_append.mp hx with q | q
    · exact h x q
    · simp at q; subst q; exact h'
  refine d_jn' (fun l => (∀ o ∈ l, Oth r ⟨ns.zip ms⟩ o) ∧ l.length ≤ 2) (fun l ⟨hl1, hl2⟩ => ?_) (fun jp hj => ?_)
  · refine d_jn' (fun l => ∀ o ∈ l, Oth r ⟨ns.zip ms⟩ o) (fun l h => k l h) (fun jp hj => ?_)
    refine d_ifd (fun hpos => ?_) (fun _ => hj _ hl1)
    (repeat (first | with_reducible refine D.bindI ?_ | with_reducible refine D.kontI ?_ | with_reducible refine D.pureI ?_))
    rw [cut_last, cut_last]
    refine s_l_minutes (hn.sublist (List.take_sublist _ _)) (by rw [List.length_take]; omega) (by rw [List.length_take, List.length_take]; omega) fun d2 h2 _ => ?_
    have g2 : Oth r ⟨ns.zip ms⟩ (⟨r, d2⟩ : O2) := ⟨ok_rot r0 r1 (fun x hx => hv x (List.mem_of_mem_take hx)) (fun m h => hm m (List.mem_of_mem_take h)) h2.sub, .inr (eqD_len (by rw [h2.len, hd, List.length_take]; omega))⟩
    (repeat (first | with_reducible refine D.bindI ?_ | with_reducible refine D.kontI ?_ | with_reducible refine D.pureI ?_))
    refine d_app (by omega) ?_
    (repeat (first | with_reducible refine D.bindI ?_ | with_reducible refine D.kontI ?_ | with_reducible refine D.pureI ?_))
    refine d_draw hpos (by omega) fun at_ a0 a1 => ?_
    (repeat (first | with_reducible refine D.bindI ?_ | with_reducible refine D.kontI ?_ | with_reducible refine D.pureI ?_))
    refine d_ixL' a0 (by omega) fun m hm1 hm2 => ?_
    (repeat (first | with_reducible refine D.bindI ?_ | with_reducible refine D.kontI ?_ | with_reducible refine D.pureI ?_))
    refine d_draw (by omega) (by omega) fun w w0 w1 => ?_
    (repeat (first | with_reducible refine D.bindI ?_ | with_reducible refine D.kontI ?_ | with_reducible refine D.pureI ?_))
    refine d_modI (by omega) ?_
    (repeat (first | with_reducible refine D.bindI ?_ | with_reducible refine D.kontI ?_ | with_reducible refine D.pureI ?_))
    rw [cut_to a0 (by omega), cut_from (by omega)]
    refine d_catL (by rw [List.length_take]; simp; omega) ?_
    (repeat (first | with_reducible refine D.bindI ?_ | with_reducible refine D.kontI ?_ | with_reducible refine D.pureI ?_))
    refine d_catL (by rw [List.length_append, List.length_take, List.length_drop]; simp; omega) ?_
    obtain ⟨n, rfl⟩ := Int.eq_ofNat_of_zero_le a0
    have hm2 : ms[n]? = some m := hm2
    have en : ((n : Int) + 1).toNat = n + 1 := by omega
    have en2 : ((n : Int)).toNat = n := by omega
    rw [en, en2]
    have hlt : n < ms.length := by omega
    have hlen : ((ms.take n ++ [(m + 1 + w) % r]) ++ ms.drop (n + 1)).length = ms.length := by simp; omega
    (repeat (first | with_reducible refine D.bindI ?_ | with_reducible refine D.kontI ?_ | with_reducible refine D.pureI ?_))
    refine s_l_minutes hn (by omega) (by rw [hlen]; omega) fun d3 h3 _ => ?_
    obtain ⟨y, hy⟩ : ∃ y, ns[n]? = some y := ⟨_, List.getElem?_eq_getElem (by omega)⟩
    have e3 : ((ms.take n ++ [(m + 1 + w) % r]) ++ ms.drop (n + 1))[n]? = some ((m + 1 + w) % r) := by
      rw [List.append_assoc, List.getElem?_append_right (by rw [List.length_take]; omega), List.length_take, Nat.min_eq_left (by omega), Nat.sub_self]
      rfl
    have g3 : Oth r ⟨ns.zip ms⟩ (⟨r, d3⟩ : O2) := by
      refine ⟨ok_rot r0 r1 hv (fun x h => ?_) h3.sub, .inr ?_⟩
      · rcases List.mem_append.mp h with h | h
        · rcases List.mem_append.mp h with h | h
          · exact hm x (List.mem_of_mem_take h)
          · simp at h; subst h; exact ⟨Int.emod_nonneg _ (by omega), Int.emod_lt_of_pos _ (by omega)⟩
        · exact hm x (List.mem_of_mem_drop h)
      · have hmr := hm m hm1
        exact eqD_ne (z := y) (v := m) (w := (m + 1 + w) % r) (List.mem_of_getElem? (zip_get hy hm2)) (h3.sup _ (List.mem_of_getElem? (zip_get hy e3))) h3.nd (mod_step hmr.1 hmr.2 w0 w1)
    (repeat (first | with_reducible refine D.bindI ?_ | with_reducible refine D.kontI ?_ | with_reducible refine D.pureI ?_))
    refine d_app (by rw [List.length_append]; simp; omega) ?_
    exact hj _ (app1 _ _ (app1 _ _ hl1 g2) g3)
  · have h0 : ∀ o ∈ [(⟨r, d1⟩ : O2)], Oth r ⟨ns.zip ms⟩ o := fun o ho => by simp at ho; subst ho; exact g1
    refine d_ifd (fun hlt => ?_) (fun hge => ?_)
    · (repeat (first | with_reducible refine D.bindI ?_ | with_reducible refine D.kontI ?_ | with_reducible refine D.pureI ?_))
      refine s_l_minutes hn (by omega) (by omega) fun d2 h2 _ => ?_
      (repeat (first | with_reducible refine D.bindI ?_ | with_reducible refine D.kontI ?_ | with_reducible refine D.pureI ?_))
      refine d_app (by simp) ?_
      exact hj _ ⟨app1 _ _ h0 (same d2 h2 (r + 1) (by omega) (by omega) (by omega) (fun m h => by have := hm m h; omega)), by simp⟩
    · (repeat (first | with_reducible refine D.bindI ?_ | with_reducible refine D.kontI ?_ | with_reducible refine D.pureI ?_))
      refine d_lc (by rw [sizeLine_eq]; omega) (fun i acc => acc = [] → ∀ m ∈ ms.take i, m ≤ 118) (fun _ m h => by simp at h) (fun i a acc Q1 ha _ hp q1 q2 => ?_) (fun l hp => ?_)
      · refine d_ifd (fun h => ?_) (fun h => ?_)
        · refine D.pureI (q1 _ (fun z => ?_)); simp at z
        · refine D.pureI (q2 (fun z m hm3 => ?_))
          rw [List.take_succ, ha] at hm3
          rcases List.mem_append.mp hm3 with q | q
          · exact hp z m q
          · simp at q; subst q; omega
      · (repeat (first | with_reducible refine D.bindI ?_ | with_reducible refine D.kontI ?_ | with_reducible refine D.pureI ?_))
        refine d_ifd (fun h => ?_) (fun _ => hj _ ⟨h0, by simp⟩)
        have hnil : l = [] := List.eq_nil_of_length_eq_zero (by omega)
        have hp := hp hnil
        rw [List.take_length] at hp
        (repeat (first | with_reducible refine D.bindI ?_ | with_reducible refine D.kontI ?_ | with_reducible refine D.pureI ?_))
        refine s_l_minutes hn (by omega) (by omega) fun d2 h2 _ => ?_
        (repeat (first | with_reducible refine D.bindI ?_ | with_reducible refine D.kontI ?_ | with_reducible refine D.pureI ?_))
        refine d_app (by simp) ?_
        exact hj _ ⟨app1 _ _ h0 (same d2 h2 119 (by omega) (by omega) (by omega) (fun m h => by have := hm m h; have := hp m h; omega)), by simp⟩
theorem s_Times_eq {a b : O_Times} {Q : Bool → Prop} {E : Ex → Prop} (k : Q (decide (a.f_round = b.f_round) && eqD a.f_minutes b.f_minutes)) : (p_Times_eq_ a b).run Q E := k
theorem law_holds (ns0 : List Int) (hl0 : ns0.length ≤ 63) : (p_law ns0).run (fun b => b = true) (fun _ => False) := by
  unfold p_law
  (repeat (first | with_reducible refine D.bindI ?_ | with_reducible refine D.kontI ?_ | with_reducible refine D.pureI ?_))
  refine s_l_length (by omega) (by omega) fun r r0 r1 => ?_
  (repeat (first | with_reducible refine D.bindI ?_ | with_reducible refine D.kontI ?_ | with_reducible refine D.pureI ?_))
  refine s_l_size (by omega) (by omega) fun n n0 n1 => ?_
  (repeat (first | with_reducible refine D.bindI ?_ | with_reducible refine D.kontI ?_ | with_reducible refine D.pureI ?_))
  refine s_l_names n0 (by omega) fun ns hlen hn hv => ?_
  have hl : ns.length ≤ 12 := by omega
  (repeat (first | with_reducible refine D.bindI ?_ | with_reducible refine D.kontI ?_ | with_reducible refine D.pureI ?_))
  refine d_lc (by rw [sizeLine_eq]; omega) (fun i acc => acc.length = i ∧ ∀ m ∈ acc, 0 ≤ m ∧ m < r) ⟨rfl, fun m h => by cases h⟩ (fun i a acc Q1 ha _ hp q1 _ => ?_) (fun ms hp => ?_)
  · (repeat (first | with_reducible refine D.bindI ?_ | with_reducible refine D.kontI ?_ | with_reducible refine D.pureI ?_))
    refine s_l_some (by omega) (by omega) fun m m0 m1 => ?_
    (repeat (first | with_reducible refine D.bindI ?_ | with_reducible refine D.kontI ?_ | with_reducible refine D.pureI ?_))
    refine q1 _ ⟨by rw [List.length_append, hp.1]; rfl, fun x hx => ?_⟩
    rcases List.mem_append.mp hx with q | q
    · exact hp.2 x q
    · simp at q; subst q; omega
  obtain ⟨hml, hm⟩ := hp
  (repeat (first | with_reducible refine D.bindI ?_ | with_reducible refine D.kontI ?_ | with_reducible refine D.pureI ?_))
  refine s_l_stranger hl hv fun z hzv hz => ?_
  (repeat (first | with_reducible refine D.bindI ?_ | with_reducible refine D.kontI ?_ | with_reducible refine D.pureI ?_))
  refine d_draw (by omega) (by omega) fun w w0 w1 => ?_
  have hd : (ns.zip ms).length = ns.length := by rw [List.length_zip]; omega
  have hk : ((⟨ns.zip ms⟩ : Dc Str Int).l.map (·.1)) = ns := List.map_fst_zip (by omega)
  have hnd : ((⟨ns.zip ms⟩ : Dc Str Int).l.map (·.1)).Nodup := by rw [hk]; exact hn
  have hok : TimesOk r ⟨ns.zip ms⟩ := ok_rot r0 (by omega) hv hm (fun p h => h)
  have rok : Rot ns ms ⟨ns.zip ms⟩ := ⟨hd, fun p h => h, fun p h => h, hnd⟩
  refine d_jn' (fun _ => True) (fun kk _ => ?_) (fun jp hj => ?_)
  rotate_left
  · refine d_ifd (fun _ => ?_) (fun _ => ?_)
    · (repeat (first | with_reducible refine D.bindI ?_ | with_reducible refine D.kontI ?_ | with_reducible refine D.pureI ?_))
      refine d_draw (by omega) (by omega) fun w _ _ => ?_
      exact hj _ trivial
    · (repeat (first | with_reducible refine D.bindI ?_ | with_reducible refine D.kontI ?_ | with_reducible refine D.pureI ?_))
      refine d_draw (by decide) (by decide) fun w _ _ => ?_
      exact hj _ trivial
  (repeat (first | with_reducible refine D.bindI ?_ | with_reducible refine D.kontI ?_ | with_reducible refine D.pureI ?_))
  refine s_l_minutes hn (by omega) (by omega) fun d1 _ e1 => ?_
  rw [e1 rfl]
  (repeat (first | with_reducible refine D.bindI ?_ | with_reducible refine D.kontI ?_ | with_reducible refine D.pureI ?_))
  refine s_l_minutes hn (by omega) (by omega) fun d2 _ e2 => ?_
  rw [e2 rfl]
  generalize hde : (⟨ns.zip ms⟩ : Dc Str Int) = d at *
  have hdl : d.l.length ≤ 100 := by rw [← hde]; show (ns.zip ms).length ≤ 100; omega
  have hdl2 : d.l.length = ns.length := by rw [← hde]; exact hd
  have hzd : z ∉ d.l.map (·.1) := by rw [hk]; exact hz
  (repeat (first | with_reducible refine D.bindI ?_ | with_reducible refine D.kontI ?_ | with_reducible refine D.pureI ?_))
  refine mk_times hok ?_
  (repeat (first | with_reducible refine D.bindI ?_ | with_reducible refine D.kontI ?_ | with_reducible refine D.pureI ?_))
  refine s_l_told hnd hdl hzd ?_
  (repeat (first | with_reducible refine D.bindI ?_ | with_reducible refine D.kontI ?_ | with_reducible refine D.pureI ?_))
  refine d_if (fun h => by cases h) fun _ => ?_
  (repeat (first | with_reducible refine D.bindI ?_ | with_reducible refine D.kontI ?_ | with_reducible refine D.pureI ?_))
  refine d_same rfl ⟨rfl, hnd, fun _ _ => trivial⟩ ?_
  (repeat (first | with_reducible refine D.bindI ?_ | with_reducible refine D.kontI ?_ | with_reducible refine D.pureI ?_))
  refine d_if (fun h => by cases h) fun _ => ?_
  have hcl : (cutL ns none (some (1 : Int))).length ≤ 12 := by
    unfold cutL
    rw [List.length_take, List.length_drop]
    omega
  have told2 : ∀ g : Int → Int, ((reb g d).l.map (·.1)).Nodup ∧ (reb g d).l.length ≤ 100 ∧ z ∉ (reb g d).l.map (·.1) := fun g => ⟨by rw [reb_keys]; exact hnd, by show (d.l.map _).length ≤ 100; rw [List.length_map]; exact hdl, by rw [reb_keys]; exact hzd⟩
  refine d_loop (fun i s => s.l.length ≤ 100 + i) (by omega) ?_ ?_
  · rintro i e ⟨l⟩ nx he hs hnx
    have hi := (List.getElem?_eq_some_iff.mp he).1
    have hmem : e ∈ ns := by
      have := List.mem_of_getElem? he
      unfold cutL at this
      exact List.mem_of_mem_drop (List.mem_of_mem_take this)
    obtain ⟨v, hv1⟩ := Option.isSome_iff_exists.mp (getD_some.mpr (by rw [hk]; exact hmem))
    (repeat (first | with_reducible refine D.bindI ?_ | with_reducible refine D.kontI ?_ | with_reducible refine D.pureI ?_))
    refine d_dget hv1 ?_
    (repeat (first | with_reducible refine D.bindI ?_ | with_reducible refine D.kontI ?_ | with_reducible refine D.pureI ?_))
    refine d_modI (by omega) ?_
    (repeat (first | with_reducible refine D.bindI ?_ | with_reducible refine D.kontI ?_ | with_reducible refine D.pureI ?_))
    have hs : l.length ≤ 100 + i := hs
    refine d_dput (by show l.length < 1000; omega) ?_
    refine hnx _ ?_
    show (putD l e _).length ≤ 100 + (i + 1)
    exact Nat.le_trans len_putD (by omega)
  rintro ⟨gl⟩ hgl
  have hgl : gl.length ≤ 100 + (cutL ns none (some (1 : Int))).length := hgl
  (repeat (first | with_reducible refine D.bindI ?_ | with_reducible refine D.kontI ?_ | with_reducible refine D.pureI ?_))
  refine d_dput (by show gl.length < 1000; omega) ?_
  unfold p_Times_minutes
  (repeat (first | with_reducible refine D.bindI ?_ | with_reducible refine D.kontI ?_ | with_reducible refine D.pureI ?_))
  refine d_dput (by show d.l.length < 1000; omega) ?_
  (repeat (first | with_reducible refine D.bindI ?_ | with_reducible refine D.kontI ?_ | with_reducible refine D.pureI ?_))
  refine s_l_told hnd hdl hzd ?_
  refine d_if (fun h => by cases h) fun _ => ?_
  (repeat (first | with_reducible refine D.bindI ?_ | with_reducible refine D.kontI ?_ | with_reducible refine D.pureI ?_))
  refine d_draw (by split <;> omega) (by split <;> omega) fun f f0 f1 => ?_
  (repeat (first | with_reducible refine D.bindI ?_ | with_reducible refine D.kontI ?_ | with_reducible refine D.pureI ?_))
  refine s_l_minutes hn (by omega) (by omega) fun d3 h3 _ => ?_
  (repeat (first | with_reducible refine D.bindI ?_ | with_reducible refine D.kontI ?_ | with_reducible refine D.pureI ?_))
  refine mk_times (ok_rot r0 (by omega) hv hm h3.sub) ?_
  (repeat (first | with_reducible refine D.bindI ?_ | with_reducible refine D.kontI ?_ | with_reducible refine D.pureI ?_))
  refine s_Times_eq ?_
  (repeat (first | with_reducible refine D.bindI ?_ | with_reducible refine D.kontI ?_ | with_reducible refine D.pureI ?_))
  refine d_same (by show (decide (r = r) && eqD d d3) = true; rw [eqD_rot rok h3]; simp) trivial ?_
  (repeat (first | with_reducible refine D.bindI ?_ | with_reducible refine D.kontI ?_ | with_reducible refine D.pureI ?_))
  refine s_l_others r0 (by omega) hv hn hl hm (by omega) hzv hz fun l hoth => ?_
  rw [hde] at hoth
  refine d_loop (fun _ _ => True) trivial ?_ (fun _ _ => ?_)
  · rintro i o _ nx ho _ hnx
    have ho := hoth o (List.mem_of_getElem? ho)
    (repeat (first | with_reducible refine D.bindI ?_ | with_reducible refine D.kontI ?_ | with_reducible refine D.pureI ?_))
    refine mk_times ho.ok ?_
    (repeat (first | with_reducible refine D.bindI ?_ | with_reducible refine D.kontI ?_ | with_reducible refine D.pureI ?_))
    refine s_Times_eq ?_
    (repeat (first | with_reducible refine D.bindI ?_ | with_reducible refine D.kontI ?_ | with_reducible refine D.pureI ?_))
    refine d_same (by
      show (decide (r = o.a) && eqD d o.b) = false
      rcases ho.ne with h | h
      · rw [decide_eq_false h]; rfl
      · rw [h, Bool.and_false]) trivial ?_
    exact hnx _ trivial
  (repeat (first | with_reducible refine D.bindI ?_ | with_reducible refine D.kontI ?_ | with_reducible refine D.pureI ?_))
  refine s_rshift hok hnd hdl ?_
  (repeat (first | with_reducible refine D.bindI ?_ | with_reducible refine D.kontI ?_ | with_reducible refine D.pureI ?_))
  refine s_l_turned (by omega) (by omega) hnd hdl ?_
  rw [reb_congr (g := fun v => (1 * v + kk) % r) (h := fun v => (v + kk) % r) (fun v => by rw [Int.one_mul])]
  (repeat (first | with_reducible refine D.bindI ?_ | with_reducible refine D.kontI ?_ | with_reducible refine D.pureI ?_))
  refine s_l_told (told2 _).1 (told2 _).2.1 (told2 _).2.2 ?_
  refine d_if (fun h => by cases h) fun _ => ?_
  (repeat (first | with_reducible refine D.bindI ?_ | with_reducible refine D.kontI ?_ | with_reducible refine D.pureI ?_))
  refine s_lshift hok hnd hdl ?_
  (repeat (first | with_reducible refine D.bindI ?_ | with_reducible refine D.kontI ?_ | with_reducible refine D.pureI ?_))
  refine s_l_turned (by omega) (by omega) hnd hdl ?_
  rw [reb_congr (g := fun v => (1 * v + -kk) % r) (h := fun v => (v - kk) % r) (fun v => by rw [Int.one_mul, Int.sub_eq_add_neg])]
  (repeat (first | with_reducible refine D.bindI ?_ | with_reducible refine D.kontI ?_ | with_reducible refine D.pureI ?_))
  refine s_l_told (told2 _).1 (told2 _).2.1 (told2 _).2.2 ?_
  refine d_if (fun h => by cases h) fun _ => ?_
  (repeat (first | with_reducible refine D.bindI ?_ | with_reducible refine D.kontI ?_ | with_reducible refine D.pureI ?_))
  refine s_mirrored hok hnd hdl ?_
  (repeat (first | with_reducible refine D.bindI ?_ | with_reducible refine D.kontI ?_ | with_reducible refine D.pureI ?_))
  refine s_l_turned (by omega) (by omega) hnd hdl ?_
  rw [reb_congr (g := fun v => (-1 * v + 0) % r) (h := fun v => (-v) % r) (fun v => by rw [Int.add_zero, Int.neg_one_mul])]
  (repeat (first | with_reducible refine D.bindI ?_ | with_reducible refine D.kontI ?_ | with_reducible refine D.pureI ?_))
  refine s_l_told (told2 _).1 (told2 _).2.1 (told2 _).2.2 ?_
  refine d_if (fun h => by cases h) fun _ => ?_
  (repeat (first | with_reducible refine D.bindI ?_ | with_reducible refine D.kontI ?_ | with_reducible refine D.pureI ?_))
  refine s_mirrored (ok_reb (g := fun v => -v) hok) (told2 _).1 (told2 _).2.1 ?_
  rw [reb_back hok]
  (repeat (first | with_reducible refine D.bindI ?_ | with_reducible refine D.kontI ?_ | with_reducible refine D.pureI ?_))
  refine s_Times_eq ?_
  (repeat (first | with_reducible refine D.bindI ?_ | with_reducible refine D.kontI ?_ | with_reducible refine D.pureI ?_))
  refine d_same (by show (decide (r = r) && eqD d d) = true; rw [eqD_self hnd]; simp) trivial ?_
  (repeat (first | with_reducible refine D.bindI ?_ | with_reducible refine D.kontI ?_ | with_reducible refine D.pureI ?_))
  refine d_rng (by split <;> omega) ?_
  refine d_loop (fun _ _ => True) trivial ?_ (fun _ _ => ?_)
  · rintro i m _ nx hi _ hnx
    obtain ⟨rfl, hi2⟩ := rngL_get hi
    have hb : (i : Int) ≤ 5 ∧ (i : Int) ≤ (ns.length : Int) := by
      split at hi2 <;> omega
    rw [Int.zero_add, cut_to (by omega) hb.2]
    have ei : ((i : Int)).toNat = i := by omega
    rw [ei]
    have ht : (ns.take i).length ≤ 5 := by rw [List.length_take]; omega
    have htn : (ns.take i).Nodup := hn.sublist (List.take_sublist _ _)
    (repeat (first | with_reducible refine D.bindI ?_ | with_reducible refine D.kontI ?_ | with_reducible refine D.pureI ?_))
    refine s_l_minutes htn (by omega) (by simp; omega) fun d4 _ e4 => ?_
    rw [e4 rfl, zip_zer ht]
    (repeat (first | with_reducible refine D.bindI ?_ | with_reducible refine D.kontI ?_ | with_reducible refine D.pureI ?_))
    refine s_l_zero r0 (by omega) hv hn (by omega) hb.2 hb.1 ?_
    rw [ei]
    (repeat (first | with_reducible refine D.bindI ?_ | with_reducible refine D.kontI ?_ | with_reducible refine D.pureI ?_))
    refine s_l_told (by rw [zer_keys]; exact htn) (by show ((ns.take i).map _).length ≤ 100; rw [List.length_map]; omega) (by rw [zer_keys]; exact fun h => hz (List.mem_of_mem_take h)) ?_
    refine d_if (fun h => by cases h) fun _ => ?_
    exact hnx _ trivial
  · (repeat (first | with_reducible refine D.bindI ?_ | with_reducible refine D.kontI ?_ | with_reducible refine D.pureI ?_))
    refine s_l_told hnd hdl hzd ?_
    (repeat (first | with_reducible refine D.bindI ?_ | with_reducible refine D.kontI ?_ | with_reducible refine D.pureI ?_))
    exact rfl

end Rm
namespace Rm
open PySem PySem.Spec L2
def FsR_Times (K : PySem.W.Frag) (F : Hp) (fs : List (Str × V)) (r : O_Times) : Prop := ∃ x0 x1 x2 : V, fs = [((Str.ofString "_round"), x0), ((Str.ofString "_minutes"), x1), ((Str.ofString "_names"), x2)] ∧ Rp.rep K F x0 r.f_round ∧ Rp.rep K F x1 r.f_minutes ∧ Rp.rep K F x2 r.f_names
theorem FsR_Times_see {K : PySem.W.Frag} {F F1 : Hp} {fs : List (Str × V)} {r : O_Times} (e : Sees F F1) (h : FsR_Times K F fs r) : FsR_Times K F1 fs r := by
  obtain ⟨x0, x1, x2, e0, rx0, rx1, rx2⟩ := h
  exact ⟨x0, x1, x2, e0, Rp.see e rx0, Rp.see e rx1, Rp.see e rx2⟩
instance : Rp O_Times := ⟨fun K F x r => ∃ a dx fs, x = .ref a ∧ F a = some (.ins (He.ga K (Str.ofString "Times")) dx fs) ∧ FsR_Times K F fs r, fun e ⟨a, dx, fs, h, q, r⟩ => ⟨a, dx, fs, h, e.ins _ _ _ _ q, FsR_Times_see e r⟩⟩
instance : Nn O_Times := ⟨fun ⟨_, _, _, h, _⟩ z => by rw [h] at z; cases z⟩
theorem obR_Times (K : PySem.W.Frag) : ObR (He.ga K (Str.ofString "Times")) O_Times FsR_Times K := ⟨fun q r => ⟨_, _, _, rfl, q, r⟩, FsR_Times_see⟩
theorem ob_Times {K : PySem.W.Frag} {F : Hp} {x : V} {r : O_Times} (h : Rp.rep K F x r) : ∃ a dx fs, x = .ref a ∧ F a = some (.ins (He.ga K (Str.ofString "Times")) dx fs) := let ⟨a, dx, fs, e, q, _⟩ := h; ⟨a, dx, fs, e, q⟩
theorem nom_Times {K : PySem.W.Frag} {F : Hp} {x : V} {r : O_Times} {m : Str} (h : Rp.rep K F x r) (hm : ([(Str.ofString "_round"), (Str.ofString "_minutes"), (Str.ofString "_names")].contains m) = false) : ∃ a dx fs, x = .ref a ∧ F a = some (.ins (He.ga K (Str.ofString "Times")) dx fs) ∧ fs.lookup m = none := by
  obtain ⟨a, dx, fs, e, q, x0, x1, x2, rfl, _⟩ := h
  refine ⟨a, dx, _, e, q, ?_⟩
  exact lookup_none hm rfl
theorem fld_Times__round {K : PySem.W.Frag} {F : Hp} {x : V} {r : O_Times} (h : Rp.rep K F x r) : ∃ a dx fs v, x = .ref a ∧ F a = some (.ins (He.ga K (Str.ofString "Times")) dx fs) ∧ fs.lookup (Str.ofString "_round") = some v ∧ Rp.rep K F v r.f_round := by
  obtain ⟨a, dx, fs, e, q, x0, x1, x2, rfl, rx0, rx1, rx2⟩ := h
  exact ⟨a, dx, _, x0, e, q, rfl, rx0⟩
theorem fld_Times__minutes {K : PySem.W.Frag} {F : Hp} {x : V} {r : O_Times} (h : Rp.rep K F x r) : ∃ a dx fs v, x = .ref a ∧ F a = some (.ins (He.ga K (Str.ofString "Times")) dx fs) ∧ fs.lookup (Str.ofString "_minutes") = some v ∧ Rp.rep K F v r.f_minutes := by
  obtain ⟨a, dx, fs, e, q, x0, x1, x2, rfl, rx0, rx1, rx2⟩ := h
  exact ⟨a, dx, _, x1, e, q, rfl, rx1⟩
theorem fld_Times__names {K : PySem.W.Frag} {F : Hp} {x : V} {r : O_Times} (h : Rp.rep K F x r) : ∃ a dx fs v, x = .ref a ∧ F a = some (.ins (He.ga K (Str.ofString "Times")) dx fs) ∧ fs.lookup (Str.ofString "_names") = some v ∧ Rp.rep K F v r.f_names := by
  obtain ⟨a, dx, fs, e, q, x0, x1, x2, rfl, rx0, rx1, rx2⟩ := h
  exact ⟨a, dx, _, x2, e, q, rfl, rx2⟩
/-! l_length -/
def sp_l_length (K : PySem.W.Frag) : Sp := fun vs H Q _ => ∃ (F0 : Hp) (pp : Addr) (lk : Option Addr) (os : Os) (a_limit : Int), vs = [V.ref pp, (V.int a_limit)] ∧ Own K F0 H ⟨some pp, lk⟩ os ∧ (p_l_length a_limit).run (fun r => ∀ F1 H1 y, Same F0 F1 → Own K F1 H1 ⟨some pp, lk⟩ os → Rp.rep K F1 y r → Q y H1) (fun _ => False)
theorem len_l_length {K : PySem.W.Frag} : ∀ vs H Q E, sp_l_length K vs H Q E → vs.length = 2 := by
  rintro vs H Q E ⟨_, _, _, _, _, rfl, _⟩; rfl
theorem cl_l_length {K : PySem.W.Frag} {F0 H : Hp} {pp : Addr} {lk : Option Addr} {os : Os} {Q : VK} {E : XK} {a_limit : Int} (I : Own K F0 H ⟨some pp, lk⟩ os) (h : (p_l_length a_limit).run (fun r => ∀ F1 H1 y, Same F0 F1 → Own K F1 H1 ⟨some pp, lk⟩ os → Rp.rep K F1 y r → Q y H1) (fun _ => False)) : sp_l_length K ([V.ref pp, (V.int a_limit)] ++ []) H Q E := ⟨F0, pp, lk, os, a_limit, rfl, I, h⟩
abbrev N_l_length : List Str := [(Str.ofString "_law_pool_here"), (Str.ofString "_law_limit"), (Str.ofString "_law_way")]
theorem st_l_length (v0 v1 : V) : start N_l_length [v0, v1] = [some v0, some v1, none] := rfl
def t_l_length (K : PySem.W.Frag) (E : XK) : TS := (tSeq (tAsg (tCall (sp_l_draw K) [] E (tCons (tVar 0) (tCons (tC (.int 8)) tNil))) (gName 2))
  (tSeq (tIfS (tTest (tOp rLtI (tVar 2) (tC (.int 4)))) (tRet (tOp rAddI (tC (.int 3)) (tCall (sp_l_draw K) [] E (tCons (tVar 0) (tCons (tC (.int 6)) tNil))))) tNext)
  (tSeq (tIfS (tTest (tOp rLtI (tVar 2) (tC (.int 7)))) (tRet (tCB rMin2 (tCons (tVar 1) (tCons (tOp rAddI (tC (.int 9)) (tCall (sp_l_draw K) [] E (tCons (tVar 0) (tCons (tC (.int 22)) tNil)))) tNil)))) tNext)
  (tRet (tCB rMax2 (tCons (tC (.int 3)) (tCons (tOp rSubI (tVar 1) (tCall (sp_l_draw K) [] E (tCons (tVar 0) (tCons (tVar 1) tNil)))) tNil)))))))
set_option maxHeartbeats 4000000 in
theorem rd_l_length {K : PySem.W.Frag} {vs : List V} {H : Hp} {Q : VK} {E : XK} (h : sp_l_length K vs H Q E) : t_l_length K E { nx := fun _ H1 => Q .non H1, rt := Q } (start N_l_length vs) H := by
  obtain ⟨F0, pp, lk, os, a_limit, rfl, I, h⟩ := h
  obtain ⟨F, eF⟩ : ∃ F, F = F0 := ⟨_, rfl⟩
  have s : Same F0 F := by rw [eF]; exact Same.refl _
  rw [← eF] at I
  clear eF
  obtain ⟨QQ, hQ, h⟩ : ∃ QQ : Int → Prop, (∀ r, QQ r → ∀ F1 H1 y, Same F0 F1 → Own K F1 H1 ⟨some pp, lk⟩ os → Rp.rep K F1 y r → Q y H1) ∧ (p_l_length a_limit).run QQ (fun _ => False) := ⟨_, fun r h => h, h⟩
  unfold p_l_length at h
  unfold t_l_length
  rw [st_l_length]
  refine c_seq ?_
  refine c_asg ?_
  refine c_call ?_
  refine c_cons ?_
  refine c_var (by exact rfl) ?_
  refine c_cons ?_
  refine c_c ?_
  refine c_nil ?_
  refine cx_draw I h fun v1 F H s1 I h => ?_
  have s := Same.trans s s1
  refine c_name (by simp only [List.set_cons_zero, List.set_cons_succ]; exact rfl) ?_
  refine c_seq ?_
  refine c_ifS ?_
  refine c_test ?_
  refine c_op ?_
  refine c_var (by exact rfl) ?_
  refine c_c ?_
  refine v_ltI ?_
  refine c_bl ?_
  refine x_if h (fun hc h => ?_) (fun hc h => ?_)
  · skip
    refine c_ret ?_
    refine c_op ?_
    refine c_c ?_
    refine c_call ?_
    refine c_cons ?_
    refine c_var (by exact rfl) ?_
    refine c_cons ?_
    refine c_c ?_
    refine c_nil ?_
    refine cx_draw I h fun v2 F H s1 I h => ?_
    have s := Same.trans s s1
    refine v_addI ?_
    exact hQ _ h _ _ _ s I rfl
  · skip
    refine c_next ?_
    refine c_seq ?_
    refine c_ifS ?_
    refine c_test ?_
    refine c_op ?_
    refine c_var (by exact rfl) ?_
    refine c_c ?_
    refine v_ltI ?_
    refine c_bl ?_
    refine x_if h (fun hc h => ?_) (fun hc h => ?_)
    · skip
      refine c_ret ?_
      refine c_cb ?_
      refine c_cons ?_
      refine c_var (by exact rfl) ?_
      refine c_cons ?_
      refine c_op ?_
      refine c_c ?_
      refine c_call ?_
      refine c_cons ?_
      refine c_var (by exact rfl) ?_
      refine c_cons ?_
      refine c_c ?_
      refine c_nil ?_
      refine cx_draw I h fun v3 F H s1 I h => ?_
      have s := Same.trans s s1
      refine v_addI ?_
      refine c_nil ?_
      refine v_min2 ?_
      exact hQ _ h _ _ _ s I rfl
    · skip
      refine c_next ?_
      refine c_ret ?_
      refine c_cb ?_
      refine c_cons ?_
      refine c_c ?_
      refine c_cons ?_
      refine c_op ?_
      refine c_var (by exact rfl) ?_
      refine c_call ?_
      refine c_cons ?_
      refine c_var (by exact rfl) ?_
      refine c_cons ?_
      refine c_var (by exact rfl) ?_
      refine c_nil ?_
      refine cx_draw I h fun v4 F H s1 I h => ?_
      have s := Same.trans s s1
      refine v_subI ?_
      refine c_nil ?_
      refine v_max2 ?_
      exact hQ _ h _ _ _ s I rfl
/-! l_minutes -/
def sp_l_minutes (K : PySem.W.Frag) : Sp := fun vs H Q _ => ∃ (F0 : Hp) (pp : Option Addr) (lk : Option Addr) (os : Os) (a_names_here : (List Str)) (a_minutes_here : (List Int)) (a_first : Int) (x_a_names_here : V) (x_a_minutes_here : V), vs = [x_a_names_here, x_a_minutes_here, (V.int a_first)] ∧ Own K F0 H ⟨pp, lk⟩ os ∧ RepB K F0 os x_a_names_here a_names_here ∧ RepB K F0 os x_a_minutes_here a_minutes_here ∧ (p_l_minutes a_names_here a_minutes_here a_first).run (fun r => ∀ F1 H1 p xs, Same F0 F1 → Own K F1 H1 ⟨pp, lk⟩ ((p, .dK xs) :: os) → KReps K F1 xs r.l → Q (.ref p) H1) (fun _ => False)
theorem len_l_minutes {K : PySem.W.Frag} : ∀ vs H Q E, sp_l_minutes K vs H Q E → vs.length = 3 := by
  rintro vs H Q E ⟨_, _, _, _, _, _, _, _, _, rfl, _⟩; rfl
theorem cl_l_minutes {K : PySem.W.Frag} {F0 H : Hp} {pp : Option Addr} {lk : Option Addr} {os : Os} {Q : VK} {E : XK} {a_names_here : (List Str)} {a_minutes_here : (List Int)} {a_first : Int} {x_a_names_here : V} {x_a_minutes_here : V} (I : Own K F0 H ⟨pp, lk⟩ os) (r_a_names_here : RepB K F0 os x_a_names_here a_names_here) (r_a_minutes_here : RepB K F0 os x_a_minutes_here a_minutes_here) (h : (p_l_minutes a_names_here a_minutes_here a_first).run (fun r => ∀ F1 H1 p xs, Same F0 F1 → Own K F1 H1 ⟨pp, lk⟩ ((p, .dK xs) :: os) → KReps K F1 xs r.l → Q (.ref p) H1) (fun _ => False)) : sp_l_minutes K ([x_a_names_here, x_a_minutes_here, (V.int a_first)] ++ []) H Q E := ⟨F0, pp, lk, os, a_names_here, a_minutes_here, a_first, x_a_names_here, x_a_minutes_here, rfl, I, r_a_names_here, r_a_minutes_here, h⟩
abbrev N_l_minutes : List Str := [(Str.ofString "_law_names_here"), (Str.ofString "_law_minutes_here"), (Str.ofString "_law_first"), (Str.ofString "_law_found"), (Str.ofString "_law_k"), (Str.ofString "_law_at")]
theorem st_l_minutes (v0 v1 v2 : V) : start N_l_minutes [v0, v1, v2] = [some v0, some v1, some v2, none, none, none] := rfl
def t_l_minutes (K : PySem.W.Frag) (E : XK) : TS := (tSeq (tAsg tDNewK (gName 3))
  (tSeq (tFor (iRng1 (tCons (tCB (rLenQ K) (tCons (tVar 0) tNil)) tNil)) (gName 4) (tSeq (tAsg (tOp rModI (tCB rIntI (tCons (tOp rAddI (tVar 4) (tVar 2)) tNil)) (tCB (rLenQ K) (tCons (tVar 0) tNil))) (gName 5))
  (sDPut (tVar 3) (tOp (rIxL K) (tVar 0) (tVar 5)) (tOp (rIxL K) (tVar 1) (tVar 5)))))
  (tRet (tVar 3))))
set_option maxHeartbeats 4000000 in
theorem rd_l_minutes {K : PySem.W.Frag} {vs : List V} {H : Hp} {Q : VK} {E : XK} (h : sp_l_minutes K vs H Q E) : t_l_minutes K E { nx := fun _ H1 => Q .non H1, rt := Q } (start N_l_minutes vs) H := by
  obtain ⟨F0, pp, lk, os, a_names_here, a_minutes_here, a_first, x_a_names_here, x_a_minutes_here, rfl, I, r_a_names_here, r_a_minutes_here, h⟩ := h
  obtain ⟨F, eF⟩ : ∃ F, F = F0 := ⟨_, rfl⟩
  have s : Same F0 F := by rw [eF]; exact Same.refl _
  rw [← eF] at I
  rw [← eF] at r_a_names_here
  rw [← eF] at r_a_minutes_here
  clear eF
  obtain ⟨QQ, hQ, h⟩ : ∃ QQ : (Dc Str Int) → Prop, (∀ r, QQ r → ∀ F1 H1 p xs, Same F0 F1 → Own K F1 H1 ⟨pp, lk⟩ ((p, .dK xs) :: os) → KReps K F1 xs r.l → Q (.ref p) H1) ∧ (p_l_minutes a_names_here a_minutes_here a_first).run QQ (fun _ => False) := ⟨_, fun r h => h, h⟩
  unfold p_l_minutes at h
  unfold t_l_minutes
  rw [st_l_minutes]
  refine c_seq ?_
  refine c_asg ?_
  refine c_dnew ?_
  intro p1 np
  have I := I.take (o := .dK []) np
  have rp1 : KReps K F [] (⟨[]⟩ : (Dc Str Int)).l := .nil
  refine c_name (by simp only [List.set_cons_zero, List.set_cons_succ]; exact rfl) ?_
  refine c_seq ?_
  refine c_for ?_
  refine c_rng1 ?_
  refine c_cons ?_
  refine c_cb ?_
  refine c_cons ?_
  refine c_var (by exact rfl) ?_
  refine c_nil ?_
  refine b_lenL I.tl r_a_names_here ?_
  refine c_nil ?_
  refine x_iRng1 (F := F) (K := K) h fun tw h => ?_
  refine x_for (pp := ⟨pp, lk⟩) tw (fun (st3 : (Dc Str Int)) σ1 F1 H1 => ∃ (xs4 : List (Key × V)) (y5 : Option V) (y6 : Option V), σ1 = [(some x_a_names_here), (some x_a_minutes_here), (some (V.int a_first)), (some (V.ref p1)), y5, y6] ∧ Same F F1 ∧ Own K F1 H1 ⟨pp, lk⟩ ((p1, HO.dK xs4) :: os) ∧ KReps K F1 xs4 st3.l) h ⟨_, _, _, rfl, Same.refl _, I, rp1⟩ ?hOst3 ?hdst3 ?hsst3
  case hOst3 =>
    rintro st3 σ1 F1 H1 ⟨xs4, y5, y6, rfl, s1, I, rp1⟩
    exact ⟨s1, _, trivial, I, fun F2 H2 s2 I2 => ⟨_, _, _, rfl, Same.trans s1 s2, I2, KReps.mono s2 rp1⟩⟩
  case hdst3 =>
    rintro st3 σ1 F H ⟨xs4, y5, y6, rfl, s1, I, rp1⟩ h
    have r_a_names_here := RepB.mono s1 r_a_names_here
    have r_a_minutes_here := RepB.mono s1 r_a_minutes_here
    have s := Same.trans s s1
    refine c_ret ?_
    refine c_var (by exact rfl) ?_
    exact hQ _ h _ _ _ _ s I rp1
  case hsst3 =>
    rintro e7 st3 xe7 σ1 F H N nx8 ⟨xs4, y5, y6, rfl, s1, I, rp1⟩ rxe7 h hn hb
    have r_a_names_here := RepB.mono s1 r_a_names_here
    have r_a_minutes_here := RepB.mono s1 r_a_minutes_here
    have s := Same.trans s s1
    have sm9 := s1
    obtain rfl : xe7 = V.int e7 := rxe7
    refine c_name (by simp only [List.set_cons_zero, List.set_cons_succ]; exact rfl) ?_
    refine c_seq ?_
    refine c_asg ?_
    refine c_op ?_
    refine c_cb ?_
    refine c_cons ?_
    refine c_op ?_
    refine c_var (by exact rfl) ?_
    refine c_var (by exact rfl) ?_
    refine v_addI ?_
    refine c_nil ?_
    refine v_intI ?_
    refine c_cb ?_
    refine c_cons ?_
    refine c_var (by exact rfl) ?_
    refine c_nil ?_
    refine b_lenL I.tl r_a_names_here ?_
    refine x_modI h fun h => ?_
    try generalize ((e7 + a_first) % (a_names_here.length : Int)) = v10 at h ⊢
    refine c_name (by simp only [List.set_cons_zero, List.set_cons_succ]; exact rfl) ?_
    refine c_dput ?_
    refine c_op ?_
    refine c_var (by exact rfl) ?_
    refine c_var (by exact rfl) ?_
    refine b_ixL I.tl r_a_minutes_here h fun v11 xv11 rv11 h => ?_
    obtain rfl : xv11 = V.int v11 := rv11
    refine c_var (by exact rfl) ?_
    refine c_op ?_
    refine c_var (by exact rfl) ?_
    refine c_var (by exact rfl) ?_
    refine b_ixL I.tl r_a_names_here h fun v12 xv12 rv12 h => ?_
    obtain rfl : xv12 = V.str v12 := rv12
    refine x_dput I 0 rfl rp1 rfl rfl h fun kv13 kv13p H I rp1 h => ?_
    simp only [List.set_cons_zero, List.set_cons_succ] at I
    exact hn (kv13p) _ _ _ ⟨_, _, _, rfl, sm9, I, rp1⟩ h
/-! l_word -/
def sp_l_word (K : PySem.W.Frag) : Sp := fun vs H Q _ => ∃ (F0 : Hp) (pp : Addr) (lk : Option Addr) (os : Os) (a_size_here : Int), vs = [V.ref pp, (V.int a_size_here)] ∧ Own K F0 H ⟨some pp, lk⟩ os ∧ (p_l_word a_size_here).run (fun r => ∀ F1 H1 y, Same F0 F1 → Own K F1 H1 ⟨some pp, lk⟩ os → Rp.rep K F1 y r → Q y H1) (fun _ => False)
theorem len_l_word {K : PySem.W.Frag} : ∀ vs H Q E, sp_l_word K vs H Q E → vs.length = 2 := by
  rintro vs H Q E ⟨_, _, _, _, _, rfl, _⟩; rfl
theorem cl_l_word {K : PySem.W.Frag} {F0 H : Hp} {pp : Addr} {lk : Option Addr} {os : Os} {Q : VK} {E : XK} {a_size_here : Int} (I : Own K F0 H ⟨some pp, lk⟩ os) (h : (p_l_word a_size_here).run (fun r => ∀ F1 H1 y, Same F0 F1 → Own K F1 H1 ⟨some pp, lk⟩ os → Rp.rep K F1 y r → Q y H1) (fun _ => False)) : sp_l_word K ([V.ref pp, (V.int a_size_here)] ++ []) H Q E := ⟨F0, pp, lk, os, a_size_here, rfl, I, h⟩
abbrev N_l_word : List Str := [(Str.ofString "_law_pool_here"), (Str.ofString "_law_size_here"), (Str.ofString "_law_signs"), (Str.ofString "_law_word_here"), (Str.ofString "_law_k")]
theorem st_l_word (v0 v1 : V) : start N_l_word [v0, v1] = [some v0, some v1, none, none, none] := rfl
def t_l_word (K : PySem.W.Frag) (E : XK) : TS := (tSeq (tAsg (tC (.str (Str.ofString "abcdefghijklmnopqrstuvwxyz0123456789"))) (gName 2))
  (tSeq (tAsg (tC (.str (Str.ofString ""))) (gName 3))
  (tSeq (tFor (iRng1 (tCons (tVar 1) tNil)) (gName 4) (tAsg (tOp rAddS (tVar 3) (tOp rIxS (tVar 2) (tCall (sp_l_draw K) [] E (tCons (tVar 0) (tCons (tC (.int 36)) tNil))))) (gName 3)))
  (tRet (tVar 3)))))
set_option maxHeartbeats 4000000 in
theorem rd_l_word {K : PySem.W.Frag} {vs : List V} {H : Hp} {Q : VK} {E : XK} (h : sp_l_word K vs H Q E) : t_l_word K E { nx := fun _ H1 => Q .non H1, rt := Q } (start N_l_word vs) H := by
  obtain ⟨F0, pp, lk, os, a_size_here, rfl, I, h⟩ := h
  obtain ⟨F, eF⟩ : ∃ F, F = F0 := ⟨_, rfl⟩
  have s : Same F0 F := by rw [eF]; exact Same.refl _
  rw [← eF] at I
  clear eF
  obtain ⟨QQ, hQ, h⟩ : ∃ QQ : Str → Prop, (∀ r, QQ r → ∀ F1 H1 y, Same F0 F1 → Own K F1 H1 ⟨some pp, lk⟩ os → Rp.rep K F1 y r → Q y H1) ∧ (p_l_word a_size_here).run QQ (fun _ => False) := ⟨_, fun r h => h, h⟩
  unfold p_l_word at h
  unfold t_l_word
  rw [st_l_word]
  refine c_seq ?_
  refine c_asg ?_
  refine c_c ?_
  refine c_name (by simp only [List.set_cons_zero, List.set_cons_succ]; exact rfl) ?_
  refine c_seq ?_
  refine c_asg ?_
  refine c_c ?_
  refine c_name (by simp only [List.set_cons_zero, List.set_cons_succ]; exact rfl) ?_
  refine c_seq ?_
  refine c_for ?_
  refine c_rng1 ?_
  refine c_cons ?_
  refine c_var (by exact rfl) ?_
  refine c_nil ?_
  refine x_iRng1 (F := F) (K := K) h fun tw h => ?_
  refine x_for (pp := ⟨some pp, lk⟩) tw (fun (st2 : Str) σ1 F1 H1 => ∃ (y3 : Option V), σ1 = [(some (V.ref pp)), (some (V.int a_size_here)), (some (V.str (Str.ofString "abcdefghijklmnopqrstuvwxyz0123456789"))), (some (V.str st2)), y3] ∧ Same F F1 ∧ Own K F1 H1 ⟨some pp, lk⟩ (os)) h ⟨_, rfl, Same.refl _, I⟩ ?hOst2 ?hdst2 ?hsst2
  case hOst2 =>
    rintro st2 σ1 F1 H1 ⟨y3, rfl, s1, I⟩
    exact ⟨s1, _, trivial, I, fun F2 H2 s2 I2 => ⟨_, rfl, Same.trans s1 s2, I2⟩⟩
  case hdst2 =>
    rintro st2 σ1 F H ⟨y3, rfl, s1, I⟩ h
    have s := Same.trans s s1
    refine c_ret ?_
    refine c_var (by exact rfl) ?_
    exact hQ _ h _ _ _ s I rfl
  case hsst2 =>
    rintro e4 st2 xe4 σ1 F H N nx5 ⟨y3, rfl, s1, I⟩ rxe4 h hn hb
    have s := Same.trans s s1
    have sm6 := s1
    obtain rfl : xe4 = V.int e4 := rxe4
    refine c_name (by simp only [List.set_cons_zero, List.set_cons_succ]; exact rfl) ?_
    refine c_asg ?_
    refine c_op ?_
    refine c_var (by exact rfl) ?_
    refine c_op ?_
    refine c_var (by exact rfl) ?_
    refine c_call ?_
    refine c_cons ?_
    refine c_var (by exact rfl) ?_
    refine c_cons ?_
    refine c_c ?_
    refine c_nil ?_
    refine cx_draw I h fun v7 F H s1 I h => ?_
    have s := Same.trans s s1
    have sm6 := Same.trans sm6 s1
    refine x_ixS h fun c9 h => ?_
    try generalize (⟨#[c9]⟩ : Str) = v8 at h ⊢
    refine x_addS h fun h => ?_
    try generalize (st2 ++ v8) = v10 at h ⊢
    refine c_name (by simp only [List.set_cons_zero, List.set_cons_succ]; exact rfl) ?_
    exact hn (v10) _ _ _ ⟨_, rfl, sm6, I⟩ h
/-! l_names -/
def sp_l_names (K : PySem.W.Frag) : Sp := fun vs H Q _ => ∃ (F0 : Hp) (pp : Addr) (lk : Option Addr) (os : Os) (a_many : Int), vs = [V.ref pp, (V.int a_many)] ∧ Own K F0 H ⟨some pp, lk⟩ os ∧ (p_l_names a_many).run (fun r => ∀ F1 H1 y, Same F0 F1 → Own K F1 H1 ⟨some pp, lk⟩ os → Rp.rep K F1 y r → Q y H1) (fun _ => False)
theorem len_l_names {K : PySem.W.Frag} : ∀ vs H Q E, sp_l_names K vs H Q E → vs.length = 2 := by
  rintro vs H Q E ⟨_, _, _, _, _, rfl, _⟩; rfl
theorem cl_l_names {K : PySem.W.Frag} {F0 H : Hp} {pp : Addr} {lk : Option Addr} {os : Os} {Q : VK} {E : XK} {a_many : Int} (I : Own K F0 H ⟨some pp, lk⟩ os) (h : (p_l_names a_many).run (fun r => ∀ F1 H1 y, Same F0 F1 → Own K F1 H1 ⟨some pp, lk⟩ os → Rp.rep K F1 y r → Q y H1) (fun _ => False)) : sp_l_names K ([V.ref pp, (V.int a_many)] ++ []) H Q E := ⟨F0, pp, lk, os, a_many, rfl, I, h⟩
abbrev N_l_names : List Str := [(Str.ofString "_law_pool_here"), (Str.ofString "_law_many"), (Str.ofString "_law_letters"), (Str.ofString "_law_signs"), (Str.ofString "_law_way"), (Str.ofString "_law_front"), (Str.ofString "_law_back"), (Str.ofString "_law_first"), (Str.ofString "_law_names_here"), (Str.ofString "_law_k"), (Str.ofString "_law_name"), (Str.ofString "_law_j")]
theorem st_l_names (v0 v1 : V) : start N_l_names [v0, v1] = [some v0, some v1, none, none, none, none, none, none, none, none, none, none] := rfl
def t_l_names (K : PySem.W.Frag) (E : XK) : TS := (tSeq (tAsg (tC (.str (Str.ofString "abcdefghijklmnopqrstuvwxyz"))) (gName 2))
  (tSeq (tAsg (tC (.str (Str.ofString "abcdefghijklmnopqrstuvwxyz0123456789"))) (gName 3))
  (tSeq (tAsg (tCall (sp_l_draw K) [] E (tCons (tVar 0) (tCons (tC (.int 3)) tNil))) (gName 4))
  (tSeq (tAsg (tOp rAddS (tOp rIxS (tVar 2) (tCall (sp_l_draw K) [] E (tCons (tVar 0) (tCons (tC (.int 26)) tNil)))) (tCall (sp_l_word K) [] E (tCons (tVar 0) (tCons (tCall (sp_l_draw K) [] E (tCons (tVar 0) (tCons (tC (.int 4)) tNil))) tNil)))) (gName 5))
  (tSeq (tAsg (tCall (sp_l_word K) [] E (tCons (tVar 0) (tCons (tCall (sp_l_draw K) [] E (tCons (tVar 0) (tCons (tC (.int 4)) tNil))) tNil))) (gName 6))
  (tSeq (tAsg (tCall (sp_l_draw K) [] E (tCons (tVar 0) (tCons (tC (.int 36)) tNil))) (gName 7))
  (tSeq (tAsg (tLst tNil) (gName 8))
  (tSeq (tFor (iRng1 (tCons (tVar 1) tNil)) (gName 9) (tSeq (tAsg (tOp rAddS (tOp rAddS (tVar 5) (tOp rIxS (tVar 3) (tOp rModI (tCB rIntI (tCons (tOp rAddI (tVar 7) (tOp rMulI (tC (.int 5)) (tVar 9))) tNil)) (tC (.int 36))))) (tVar 6)) (gName 10))
  (tSeq (tIfS (tTest (tOp rEq (tVar 4) (tC (.int 1)))) (tAsg (tOp rAddS (tOp rIxS (tVar 2) (tOp rModI (tCB rIntI (tCons (tOp rAddI (tVar 7) (tOp rMulI (tC (.int 5)) (tVar 9))) tNil)) (tC (.int 26)))) (tCall (sp_l_word K) [] E (tCons (tVar 0) (tCons (tCall (sp_l_draw K) [] E (tCons (tVar 0) (tCons (tC (.int 8)) tNil))) tNil)))) (gName 10)) tNext)
  (tSeq (tIfS (tTest (tOp rEq (tVar 4) (tC (.int 2)))) (tAsg (tOp rAddS (tOp rIxS (tVar 2) (tCall (sp_l_draw K) [] E (tCons (tVar 0) (tCons (tC (.int 26)) tNil)))) (tCall (sp_l_word K) [] E (tCons (tVar 0) (tCons (tCall (sp_l_draw K) [] E (tCons (tVar 0) (tCons (tC (.int 8)) tNil))) tNil)))) (gName 10)) tNext)
  (tSeq (tFor (iRng1 (tCons (tC (.int 13)) tNil)) (gName 11) (tIfS (tAnd (tTest (tOp (rIn K false) (tVar 10) (tVar 8))) (tTest (tOp (rIn K true) (tOp rAddS (tC (.str (Str.ofString "z"))) (tCB rStrI (tCons (tVar 11) tNil))) (tVar 8)))) (tAsg (tOp rAddS (tC (.str (Str.ofString "z"))) (tCB rStrI (tCons (tVar 11) tNil))) (gName 10)) tNext))
  (tDrop (tBM K "list" rAppend (tVar 8) (tCons (tVar 10) tNil))))))))
  (tRet (tVar 8))))))))))
set_option maxHeartbeats 4000000 in
theorem rd_l_names {K : PySem.W.Frag} {vs : List V} {H : Hp} {Q : VK} {E : XK} (h : sp_l_names K vs H Q E) : t_l_names K E { nx := fun _ H1 => Q .non H1, rt := Q } (start N_l_names vs) H := by
  obtain ⟨F0, pp, lk, os, a_many, rfl, I, h⟩ := h
  obtain ⟨F, eF⟩ : ∃ F, F = F0 := ⟨_, rfl⟩
  have s : Same F0 F := by rw [eF]; exact Same.refl _
  rw [← eF] at I
  clear eF
  obtain ⟨QQ, hQ, h⟩ : ∃ QQ : (List Str) → Prop, (∀ r, QQ r → ∀ F1 H1 y, Same F0 F1 → Own K F1 H1 ⟨some pp, lk⟩ os → Rp.rep K F1 y r → Q y H1) ∧ (p_l_names a_many).run QQ (fun _ => False) := ⟨_, fun r h => h, h⟩
  unfold p_l_names at h
  unfold t_l_names
  rw [st_l_names]
  refine c_seq ?_
  refine c_asg ?_
  refine c_c ?_
  refine c_name (by simp only [List.set_cons_zero, List.set_cons_succ]; exact rfl) ?_
  refine c_seq ?_
  refine c_asg ?_
  refine c_c ?_
  refine c_name (by simp only [List.set_cons_zero, List.set_cons_succ]; exact rfl) ?_
  refine c_seq ?_
  refine c_asg ?_
  refine c_call ?_
  refine c_cons ?_
  refine c_var (by exact rfl) ?_
  refine c_cons ?_
  refine c_c ?_
  refine c_nil ?_
  refine cx_draw I h fun v1 F H s1 I h => ?_
  have s := Same.trans s s1
  refine c_name (by simp only [List.set_cons_zero, List.set_cons_succ]; exact rfl) ?_
  refine c_seq ?_
  refine c_asg ?_
  refine c_op ?_
  refine c_op ?_
  refine c_var (by exact rfl) ?_
  refine c_call ?_
  refine c_cons ?_
  refine c_var (by exact rfl) ?_
  refine c_cons ?_
  refine c_c ?_
  refine c_nil ?_
  refine cx_draw I h fun v2 F H s1 I h => ?_
  have s := Same.trans s s1
  refine x_ixS h fun c4 h => ?_
  try generalize (⟨#[c4]⟩ : Str) = v3 at h ⊢
  refine c_call ?_
  refine c_cons ?_
  refine c_var (by exact rfl) ?_
  refine c_cons ?_
  refine c_call ?_
  refine c_cons ?_
  refine c_var (by exact rfl) ?_
  refine c_cons ?_
  refine c_c ?_
  refine c_nil ?_
  refine cx_draw I h fun v5 F H s1 I h => ?_
  have s := Same.trans s s1
  refine c_nil ?_
  refine cl_l_word I (D.call h (fun v6 h F H xv6 s1 I rv6 => ?_) (fun _ h => h))
  have s := Same.trans s s1
  obtain rfl : xv6 = V.str v6 := rv6
  refine x_addS h fun h => ?_
  try generalize (v3 ++ v6) = v7 at h ⊢
  refine c_name (by simp only [List.set_cons_zero, List.set_cons_succ]; exact rfl) ?_
  refine c_seq ?_
  refine c_asg ?_
  refine c_call ?_
  refine c_cons ?_
  refine c_var (by exact rfl) ?_
  refine c_cons ?_
  refine c_call ?_
  refine c_cons ?_
  refine c_var (by exact rfl) ?_
  refine c_cons ?_
  refine c_c ?_
  refine c_nil ?_
  refine cx_draw I h fun v8 F H s1 I h => ?_
  have s := Same.trans s s1
  refine c_nil ?_
  refine cl_l_word I (D.call h (fun v9 h F H xv9 s1 I rv9 => ?_) (fun _ h => h))
  have s := Same.trans s s1
  obtain rfl : xv9 = V.str v9 := rv9
  refine c_name (by simp only [List.set_cons_zero, List.set_cons_succ]; exact rfl) ?_
  refine c_seq ?_
  refine c_asg ?_
  refine c_call ?_
  refine c_cons ?_
  refine c_var (by exact rfl) ?_
  refine c_cons ?_
  refine c_c ?_
  refine c_nil ?_
  refine cx_draw I h fun v10 F H s1 I h => ?_
  have s := Same.trans s s1
  refine c_name (by simp only [List.set_cons_zero, List.set_cons_succ]; exact rfl) ?_
  refine c_seq ?_
  refine c_asg ?_
  refine c_lst ?_
  refine c_nil ?_
  refine x_lstO I (by exact (by decide : 0 ≤ sizeLine)) fun p11 I => ?_
  have rp11 : Reps K F [] ([] : (List Str)) := .nil
  refine c_name (by simp only [List.set_cons_zero, List.set_cons_succ]; exact rfl) ?_
  refine c_seq ?_
  refine c_for ?_
  refine c_rng1 ?_
  refine c_cons ?_
  refine c_var (by exact rfl) ?_
  refine c_nil ?_
  refine x_iRng1 (F := F) (K := K) h fun tw h => ?_
  refine x_for (pp := ⟨some pp, lk⟩) tw (fun (st13 : (List Str)) σ1 F1 H1 => ∃ (xs14 : List V) (y15 : Option V) (y16 : Option V) (y17 : Option V), σ1 = [(some (V.ref pp)), (some (V.int a_many)), (some (V.str (Str.ofString "abcdefghijklmnopqrstuvwxyz"))), (some (V.str (Str.ofString "abcdefghijklmnopqrstuvwxyz0123456789"))), (some (V.int v1)), (some (V.str v7)), (some (V.str v9)), (some (V.int v10)), (some (V.ref p11)), y15, y16, y17] ∧ Same F F1 ∧ Own K F1 H1 ⟨some pp, lk⟩ ((p11, HO.lst xs14) :: os) ∧ Reps K F1 xs14 st13) h ⟨_, _, _, _, rfl, Same.refl _, I, rp11⟩ ?hOst13 ?hdst13 ?hsst13
  case hOst13 =>
    rintro st13 σ1 F1 H1 ⟨xs14, y15, y16, y17, rfl, s1, I, rp11⟩
    exact ⟨s1, _, trivial, I, fun F2 H2 s2 I2 => ⟨_, _, _, _, rfl, Same.trans s1 s2, I2, Reps.mono s2 rp11⟩⟩
  case hdst13 =>
    rintro st13 σ1 F H ⟨xs14, y15, y16, y17, rfl, s1, I, rp11⟩ h
    have s := Same.trans s s1
    refine c_ret ?_
    refine c_var (by exact rfl) ?_
    obtain ⟨F, s1, I, r1⟩ := x_frz I rp11
    have rp11 := Reps.mono s1 rp11
    have s := Same.trans s s1
    have rx18 := r1
    exact hQ _ h _ _ _ s I rx18
  case hsst13 =>
    rintro e19 st13 xe19 σ1 F H N nx20 ⟨xs14, y15, y16, y17, rfl, s1, I, rp11⟩ rxe19 h hn hb
    have s := Same.trans s s1
    have sm21 := s1
    obtain rfl : xe19 = V.int e19 := rxe19
    refine c_name (by simp only [List.set_cons_zero, List.set_cons_succ]; exact rfl) ?_
    refine c_seq ?_
    refine c_asg ?_
    refine c_op ?_
    refine c_op ?_
    refine c_var (by exact rfl) ?_
    refine c_op ?_
    refine c_var (by exact rfl) ?_
    refine c_op ?_
    refine c_cb ?_
    refine c_cons ?_
    refine c_op ?_
    refine c_var (by exact rfl) ?_
    refine c_op ?_
    refine c_c ?_
    refine c_var (by exact rfl) ?_
    refine v_mulI (by first | exact Or.inr ⟨by decide, by decide⟩ | exact Or.inl ⟨by decide, by decide⟩) ?_
    refine v_addI ?_
    refine c_nil ?_
    refine v_intI ?_
    refine c_c ?_
    refine v_modI (by decide) ?_
    refine x_ixS h fun c23 h => ?_
    try generalize (⟨#[c23]⟩ : Str) = v22 at h ⊢
    refine x_addS h fun h => ?_
    try generalize (v7 ++ v22) = v24 at h ⊢
    refine c_var (by exact rfl) ?_
    refine x_addS h fun h => ?_
    try generalize (v24 ++ v9) = v25 at h ⊢
    refine c_name (by simp only [List.set_cons_zero, List.set_cons_succ]; exact rfl) ?_
    refine c_seq ?_
    obtain ⟨jp26, ejp26, h⟩ := x_jn h
    refine c_join (fun σ1 H1 => ∃ (v33 : Str) (F1 : Hp), σ1 = [(some (V.ref pp)), (some (V.int a_many)), (some (V.str (Str.ofString "abcdefghijklmnopqrstuvwxyz"))), (some (V.str (Str.ofString "abcdefghijklmnopqrstuvwxyz0123456789"))), (some (V.int v1)), (some (V.str v7)), (some (V.str v9)), (some (V.int v10)), (some (V.ref p11)), (some (V.int e19)), (some (V.str v33)), y17] ∧ Same F F1 ∧ Own K F1 H1 ⟨some pp, lk⟩ ((p11, HO.lst xs14) :: os) ∧ (jp26 v33).run QQ (fun _ => False)) (fun nx1 hn => ?_) ?_
    · skip
      have sm27 : Same F F := Same.refl F
      refine c_ifS ?_
      refine c_test ?_
      refine c_op ?_
      refine c_var (by exact rfl) ?_
      refine c_c ?_
      refine v_eqI ?_
      refine c_bl ?_
      refine x_if h (fun hc h => ?_) (fun hc h => ?_)
      · skip
        refine c_asg ?_
        refine c_op ?_
        refine c_op ?_
        refine c_var (by exact rfl) ?_
        refine c_op ?_
        refine c_cb ?_
        refine c_cons ?_
        refine c_op ?_
        refine c_var (by exact rfl) ?_
        refine c_op ?_
        refine c_c ?_
        refine c_var (by exact rfl) ?_
        refine v_mulI (by first | exact Or.inr ⟨by decide, by decide⟩ | exact Or.inl ⟨by decide, by decide⟩) ?_
        refine v_addI ?_
        refine c_nil ?_
        refine v_intI ?_
        refine c_c ?_
        refine v_modI (by decide) ?_
        refine x_ixS h fun c29 h => ?_
        try generalize (⟨#[c29]⟩ : Str) = v28 at h ⊢
        refine c_call ?_
        refine c_cons ?_
        refine c_var (by exact rfl) ?_
        refine c_cons ?_
        refine c_call ?_
        refine c_cons ?_
        refine c_var (by exact rfl) ?_
        refine c_cons ?_
        refine c_c ?_
        refine c_nil ?_
        refine cx_draw I h fun v30 F H s1 I h => ?_
        have rp11 := Reps.mono s1 rp11
        have s := Same.trans s s1
        have sm21 := Same.trans sm21 s1
        have sm27 := Same.trans sm27 s1
        refine c_nil ?_
        refine cl_l_word I (D.call h (fun v31 h F H xv31 s1 I rv31 => ?_) (fun _ h => h))
        have rp11 := Reps.mono s1 rp11
        have s := Same.trans s s1
        have sm21 := Same.trans sm21 s1
        have sm27 := Same.trans sm27 s1
        obtain rfl : xv31 = V.str v31 := rv31
        refine x_addS h fun h => ?_
        try generalize (v28 ++ v31) = v32 at h ⊢
        refine c_name (by simp only [List.set_cons_zero, List.set_cons_succ]; exact rfl) ?_
        exact hn _ _ ⟨v32, _, rfl, sm27, I, h⟩
      · skip
        refine c_next ?_
        exact hn _ _ ⟨v25, _, rfl, sm27, I, h⟩
    rintro σ1 H ⟨v33, F, rfl, s1, I, h⟩
    subst ejp26
    have rp11 := Reps.mono s1 rp11
    have s := Same.trans s s1
    have sm21 := Same.trans sm21 s1
    refine c_seq ?_
    obtain ⟨jp34, ejp34, h⟩ := x_jn h
    refine c_join (fun σ1 H1 => ∃ (v42 : Str) (F1 : Hp), σ1 = [(some (V.ref pp)), (some (V.int a_many)), (some (V.str (Str.ofString "abcdefghijklmnopqrstuvwxyz"))), (some (V.str (Str.ofString "abcdefghijklmnopqrstuvwxyz0123456789"))), (some (V.int v1)), (some (V.str v7)), (some (V.str v9)), (some (V.int v10)), (some (V.ref p11)), (some (V.int e19)), (some (V.str v42)), y17] ∧ Same F F1 ∧ Own K F1 H1 ⟨some pp, lk⟩ ((p11, HO.lst xs14) :: os) ∧ (jp34 v42).run QQ (fun _ => False)) (fun nx1 hn => ?_) ?_
    · skip
      have sm35 : Same F F := Same.refl F
      refine c_ifS ?_
      refine c_test ?_
      refine c_op ?_
      refine c_var (by exact rfl) ?_
      refine c_c ?_
      refine v_eqI ?_
      refine c_bl ?_
      refine x_if h (fun hc h => ?_) (fun hc h => ?_)
      · skip
        refine c_asg ?_
        refine c_op ?_
        refine c_op ?_
        refine c_var (by exact rfl) ?_
        refine c_call ?_
        refine c_cons ?_
        refine c_var (by exact rfl) ?_
        refine c_cons ?_
        refine c_c ?_
        refine c_nil ?_
        refine cx_draw I h fun v36 F H s1 I h => ?_
        have rp11 := Reps.mono s1 rp11
        have s := Same.trans s s1
        have sm21 := Same.trans sm21 s1
        have sm35 := Same.trans sm35 s1
        refine x_ixS h fun c38 h => ?_
        try generalize (⟨#[c38]⟩ : Str) = v37 at h ⊢
        refine c_call ?_
        refine c_cons ?_
        refine c_var (by exact rfl) ?_
        refine c_cons ?_
        refine c_call ?_
        refine c_cons ?_
        refine c_var (by exact rfl) ?_
        refine c_cons ?_
        refine c_c ?_
        refine c_nil ?_
        refine cx_draw I h fun v39 F H s1 I h => ?_
        have rp11 := Reps.mono s1 rp11
        have s := Same.trans s s1
        have sm21 := Same.trans sm21 s1
        have sm35 := Same.trans sm35 s1
        refine c_nil ?_
        refine cl_l_word I (D.call h (fun v40 h F H xv40 s1 I rv40 => ?_) (fun _ h => h))
        have rp11 := Reps.mono s1 rp11
        have s := Same.trans s s1
        have sm21 := Same.trans sm21 s1
        have sm35 := Same.trans sm35 s1
        obtain rfl : xv40 = V.str v40 := rv40
        refine x_addS h fun h => ?_
        try generalize (v37 ++ v40) = v41 at h ⊢
        refine c_name (by simp only [List.set_cons_zero, List.set_cons_succ]; exact rfl) ?_
        exact hn _ _ ⟨v41, _, rfl, sm35, I, h⟩
      · skip
        refine c_next ?_
        exact hn _ _ ⟨v33, _, rfl, sm35, I, h⟩
    rintro σ1 H ⟨v42, F, rfl, s1, I, h⟩
    subst ejp34
    have rp11 := Reps.mono s1 rp11
    have s := Same.trans s s1
    have sm21 := Same.trans sm21 s1
    refine c_seq ?_
    refine c_for ?_
    refine c_rng1 ?_
    refine c_cons ?_
    refine c_c ?_
    refine c_nil ?_
    refine x_iRng1 (F := F) (K := K) h fun tw h => ?_
    refine x_for (pp := ⟨some pp, lk⟩) tw (fun (st44 : Str) σ1 F1 H1 => ∃ (y45 : Option V), σ1 = [(some (V.ref pp)), (some (V.int a_many)), (some (V.str (Str.ofString "abcdefghijklmnopqrstuvwxyz"))), (some (V.str (Str.ofString "abcdefghijklmnopqrstuvwxyz0123456789"))), (some (V.int v1)), (some (V.str v7)), (some (V.str v9)), (some (V.int v10)), (some (V.ref p11)), (some (V.int e19)), (some (V.str st44)), y45] ∧ Same F F1 ∧ Own K F1 H1 ⟨some pp, lk⟩ ((p11, HO.lst xs14) :: os)) h ⟨_, rfl, Same.refl _, I⟩ ?hOst44 ?hdst44 ?hsst44
    case hOst44 =>
      rintro st44 σ1 F1 H1 ⟨y45, rfl, s1, I⟩
      exact ⟨s1, _, trivial, I, fun F2 H2 s2 I2 => ⟨_, rfl, Same.trans s1 s2, I2⟩⟩
    case hdst44 =>
      rintro st44 σ1 F H ⟨y45, rfl, s1, I⟩ h
      have rp11 := Reps.mono s1 rp11
      have s := Same.trans s s1
      have sm21 := Same.trans sm21 s1
      refine c_drop ?_
      refine c_bm ?_
      refine c_var (by exact rfl) ?_
      refine ⟨ty_list (sqL_of (I.own 0 _ _ rfl).2), ?_⟩
      refine c_cons ?_
      refine c_var (by exact rfl) ?_
      refine c_nil ?_
      refine x_app I 0 rfl rp11 rfl h fun xs46 H I rp11 h => ?_
      simp only [List.set_cons_zero, List.set_cons_succ] at I
      try generalize st13 ++ [st44] = xs46p at h rp11
      exact hn (xs46p) _ _ _ ⟨_, _, _, _, rfl, sm21, I, rp11⟩ h
    case hsst44 =>
      rintro e47 st44 xe47 σ1 F H N nx48 ⟨y45, rfl, s1, I⟩ rxe47 h hn hb
      have rp11 := Reps.mono s1 rp11
      have s := Same.trans s s1
      have sm21 := Same.trans sm21 s1
      have sm49 := s1
      obtain rfl : xe47 = V.int e47 := rxe47
      refine c_name (by simp only [List.set_cons_zero, List.set_cons_succ]; exact rfl) ?_
      refine c_ifS ?_
      refine c_and ?_
      refine c_test ?_
      refine c_op ?_
      refine c_var (by exact rfl) ?_
      refine c_var (by exact rfl) ?_
      refine x_inSo I 0 rfl rp11 ?_
      refine c_bl ?_
      refine x_andD I h (fun h hn => ?_) fun b53 F H s1 I h => ?_
      · skip
        have sm50 : Same F F := Same.refl F
        refine c_test ?_
        refine c_op ?_
        refine c_op ?_
        refine c_c ?_
        refine c_cb ?_
        refine c_cons ?_
        refine c_var (by exact rfl) ?_
        refine c_nil ?_
        refine x_strI h fun h => ?_
        try generalize (toString e47) = v51 at h ⊢
        refine x_addS h fun h => ?_
        try generalize ((Str.ofString "z") ++ v51) = v52 at h ⊢
        refine c_var (by exact rfl) ?_
        refine x_ninSo I 0 rfl rp11 ?_
        refine c_bl ?_
        exact hn _ _ _ sm50 I h
      have rp11 := Reps.mono s1 rp11
      have s := Same.trans s s1
      have sm21 := Same.trans sm21 s1
      have sm49 := Same.trans sm49 s1
      refine x_if h (fun hc h => ?_) (fun hc h => ?_)
      · skip
        refine c_asg ?_
        refine c_op ?_
        refine c_c ?_
        refine c_cb ?_
        refine c_cons ?_
        refine c_var (by exact rfl) ?_
        refine c_nil ?_
        refine x_strI h fun h => ?_
        try generalize (toString e47) = v54 at h ⊢
        refine x_addS h fun h => ?_
        try generalize ((Str.ofString "z") ++ v54) = v55 at h ⊢
        refine c_name (by simp only [List.set_cons_zero, List.set_cons_succ]; exact rfl) ?_
        exact hn (v55) _ _ _ ⟨_, rfl, sm49, I⟩ h
      · skip
        refine c_next ?_
        exact hn (st44) _ _ _ ⟨_, rfl, sm49, I⟩ h
/-! l_others -/
def sp_l_others (K : PySem.W.Frag) : Sp := fun vs H Q _ => ∃ (F0 : Hp) (pp : Addr) (lk : Option Addr) (os : Os) (a_length_here : Int) (a_names_here : (List Str)) (a_minutes_here : (List Int)) (a_stranger_here : Str) (x_a_names_here : V) (x_a_minutes_here : V), vs = [V.ref pp, (V.int a_length_here), x_a_names_here, x_a_minutes_here, (V.str a_stranger_here)] ∧ Own K F0 H ⟨some pp, lk⟩ os ∧ Rp.rep K F0 x_a_names_here a_names_here ∧ Rp.rep K F0 x_a_minutes_here a_minutes_here ∧ (p_l_others a_length_here a_names_here a_minutes_here a_stranger_here).run (fun r => ∀ F1 H1 y, Same F0 F1 → Own K F1 H1 ⟨some pp, lk⟩ os → Rp.rep K F1 y r → Q y H1) (fun _ => False)
theorem len_l_others {K : PySem.W.Frag} : ∀ vs H Q E, sp_l_others K vs H Q E → vs.length = 5 := by
  rintro vs H Q E ⟨_, _, _, _, _, _, _, _, _, _, rfl, _⟩; rfl
theorem cl_l_others {K : PySem.W.Frag} {F0 H : Hp} {pp : Addr} {lk : Option Addr} {os : Os} {Q : VK} {E : XK} {a_length_here : Int} {a_names_here : (List Str)} {a_minutes_here : (List Int)} {a_stranger_here : Str} {x_a_names_here : V} {x_a_minutes_here : V} (I : Own K F0 H ⟨some pp, lk⟩ os) (r_a_names_here : Rp.rep K F0 x_a_names_here a_names_here) (r_a_minutes_here : Rp.rep K F0 x_a_minutes_here a_minutes_here) (h : (p_l_others a_length_here a_names_here a_minutes_here a_stranger_here).run (fun r => ∀ F1 H1 y, Same F0 F1 → Own K F1 H1 ⟨some pp, lk⟩ os → Rp.rep K F1 y r → Q y H1) (fun _ => False)) : sp_l_others K ([V.ref pp, (V.int a_length_here), x_a_names_here, x_a_minutes_here, (V.str a_stranger_here)] ++ []) H Q E := ⟨F0, pp, lk, os, a_length_here, a_names_here, a_minutes_here, a_stranger_here, x_a_names_here, x_a_minutes_here, rfl, I, r_a_names_here, r_a_minutes_here, h⟩
abbrev N_l_others : List Str := [(Str.ofString "_law_pool_here"), (Str.ofString "_law_length_here"), (Str.ofString "_law_names_here"), (Str.ofString "_law_minutes_here"), (Str.ofString "_law_stranger_here"), (Str.ofString "_law_others_here"), (Str.ofString "_law_minute"), (Str.ofString "_law_at")]
theorem st_l_others (v0 v1 v2 v3 v4 : V) : start N_l_others [v0, v1, v2, v3, v4] = [some v0, some v1, some v2, some v3, some v4, none, none, none] := rfl
def t_l_others (K : PySem.W.Frag) (E : XK) : TS := (tSeq (tAsg (tLst (tCons (tLst (tCons (tVar 1) (tCons (tCall (sp_l_minutes K) [] E (tCons (tOp rCat (tVar 2) (tLst (tCons (tVar 4) tNil))) (tCons (tOp rCat (tVar 3) (tLst (tCons (tC (.int 0)) tNil))) (tCons (tC (.int 0)) tNil)))) tNil))) tNil)) (gName 5))
  (tSeq (tIfS (tTest (tOp rLtI (tVar 1) (tC (.int 120)))) (tDrop (tBM K "list" rAppend (tVar 5) (tCons (tLst (tCons (tOp rAddI (tVar 1) (tC (.int 1))) (tCons (tCall (sp_l_minutes K) [] E (tCons (tVar 2) (tCons (tVar 3) (tCons (tC (.int 0)) tNil)))) tNil))) tNil))) (tIfS (tTest (tOp rEq (tCB (rLenQ K) (tCons (tLc (iList K (tVar 3)) (gName 6) (tTest (tOp rGtI (tVar 6) (tC (.int 118)))) (tVar 6) [6]) tNil)) (tC (.int 0)))) (tDrop (tBM K "list" rAppend (tVar 5) (tCons (tLst (tCons (tC (.int 119)) (tCons (tCall (sp_l_minutes K) [] E (tCons (tVar 2) (tCons (tVar 3) (tCons (tC (.int 0)) tNil)))) tNil))) tNil))) tNext))
  (tSeq (tIfS (tTest (tOp rGtI (tCB (rLenQ K) (tCons (tVar 2) tNil)) (tC (.int 0)))) (tSeq (tDrop (tBM K "list" rAppend (tVar 5) (tCons (tLst (tCons (tVar 1) (tCons (tCall (sp_l_minutes K) [] E (tCons (tSl (rSlL K) (tVar 2) tNoPart (tPart (tUn rNegI (tC (.int 1))))) (tCons (tSl (rSlL K) (tVar 3) tNoPart (tPart (tUn rNegI (tC (.int 1))))) (tCons (tC (.int 0)) tNil)))) tNil))) tNil)))
  (tSeq (tAsg (tCall (sp_l_draw K) [] E (tCons (tVar 0) (tCons (tCB (rLenQ K) (tCons (tVar 2) tNil)) tNil))) (gName 7))
  (tSeq (tAsg (tOp rModI (tCB rIntI (tCons (tOp rAddI (tOp rAddI (tOp (rIxL K) (tVar 3) (tVar 7)) (tC (.int 1))) (tCall (sp_l_draw K) [] E (tCons (tVar 0) (tCons (tOp rSubI (tVar 1) (tC (.int 1))) tNil)))) tNil)) (tVar 1)) (gName 6))
  (tDrop (tBM K "list" rAppend (tVar 5) (tCons (tLst (tCons (tVar 1) (tCons (tCall (sp_l_minutes K) [] E (tCons (tVar 2) (tCons (tOp rCat (tOp rCat (tSl (rSlL K) (tVar 3) tNoPart (tPart (tVar 7))) (tLst (tCons (tVar 6) tNil))) (tSl (rSlL K) (tVar 3) (tPart (tOp rAddI (tVar 7) (tC (.int 1)))) tNoPart)) (tCons (tC (.int 0)) tNil)))) tNil))) tNil)))))) tNext)
  (tRet (tVar 5)))))
set_option maxHeartbeats 4000000 in
theorem rd_l_others {K : PySem.W.Frag} {vs : List V} {H : Hp} {Q : VK} {E : XK} (h : sp_l_others K vs H Q E) : t_l_others K E { nx := fun _ H1 => Q .non H1, rt := Q } (start N_l_others vs) H := by
  obtain ⟨F0, pp, lk, os, a_length_here, a_names_here, a_minutes_here, a_stranger_here, x_a_names_here, x_a_minutes_here, rfl, I, r_a_names_here, r_a_minutes_here, h⟩ := h
  obtain ⟨F, eF⟩ : ∃ F, F = F0 := ⟨_, rfl⟩
  have s : Same F0 F := by rw [eF]; exact Same.refl _
  rw [← eF] at I
  rw [← eF] at r_a_names_here
  rw [← eF] at r_a_minutes_here
  clear eF
  obtain ⟨QQ, hQ, h⟩ : ∃ QQ : (List (Rm.R2 Int (Dc Str Int))) → Prop, (∀ r, QQ r → ∀ F1 H1 y, Same F0 F1 → Own K F1 H1 ⟨some pp, lk⟩ os → Rp.rep K F1 y r → Q y H1) ∧ (p_l_others a_length_here a_names_here a_minutes_here a_stranger_here).run QQ (fun _ => False) := ⟨_, fun r h => h, h⟩
  unfold p_l_others at h
  unfold t_l_others
  rw [st_l_others]
  refine c_seq ?_
  refine c_asg ?_
  refine c_lst ?_
  refine c_cons ?_
  refine c_lst ?_
  refine c_cons ?_
  refine c_var (by exact rfl) ?_
  refine c_cons ?_
  refine c_call ?_
  refine c_cons ?_
  refine c_op ?_
  refine c_var (by exact rfl) ?_
  refine c_lst ?_
  refine c_cons ?_
  refine c_var (by exact rfl) ?_
  refine c_nil ?_
  refine x_lst (l := [a_stranger_here]) I (.cons rfl .nil) (by exact (by decide : 1 ≤ sizeLine)) fun x1p F s1 I rx1 => ?_
  have r_a_names_here := Rp.mono s1 r_a_names_here
  have r_a_minutes_here := Rp.mono s1 r_a_minutes_here
  have s := Same.trans s s1
  refine x_catF I (RL.f I r_a_names_here) (RL.f I rx1) h fun v2 x3p F H s1 I rx3 h => ?_
  have r_a_names_here := Rp.mono s1 r_a_names_here
  have r_a_minutes_here := Rp.mono s1 r_a_minutes_here
  have s := Same.trans s s1
  refine c_cons ?_
  refine c_op ?_
  refine c_var (by exact rfl) ?_
  refine c_lst ?_
  refine c_cons ?_
  refine c_c ?_
  refine c_nil ?_
  refine x_lst (l := [(0 : Int)]) I (.cons rfl .nil) (by exact (by decide : 1 ≤ sizeLine)) fun x4p F s1 I rx4 => ?_
  have r_a_names_here := Rp.mono s1 r_a_names_here
  have r_a_minutes_here := Rp.mono s1 r_a_minutes_here
  have rx3 := Rp.mono s1 rx3
  have s := Same.trans s s1
  refine x_catF I (RL.f I r_a_minutes_here) (RL.f I rx4) h fun v5 x6p F H s1 I rx6 h => ?_
  have r_a_names_here := Rp.mono s1 r_a_names_here
  have r_a_minutes_here := Rp.mono s1 r_a_minutes_here
  have rx3 := Rp.mono s1 rx3
  have s := Same.trans s s1
  refine c_cons ?_
  refine c_c ?_
  refine c_nil ?_
  refine cl_l_minutes I (RepB.of rx3) (RepB.of rx6) (D.call h (fun v7 h F H pv7 xsv7 s1 I rv7 => ?_) (fun _ h => h))
  have r_a_names_here := Rp.mono s1 r_a_names_here
  have r_a_minutes_here := Rp.mono s1 r_a_minutes_here
  have s := Same.trans s s1
  obtain ⟨F, s1, I, r1⟩ := x_frzD (d := v7) I rv7
  have r_a_names_here := Rp.mono s1 r_a_names_here
  have r_a_minutes_here := Rp.mono s1 r_a_minutes_here
  have s := Same.trans s s1
  have rx8 := r1
  refine c_nil ?_
  refine x_row (P := fun F1 y => Rp.rep K F1 y (⟨a_length_here, v7⟩ : (Rm.R2 Int (Dc Str Int)))) I (by exact (by decide : 2 ≤ sizeLine)) (fun p F1 s1 q => ⟨p, _, _, rfl, q, rfl, Rp.mono s1 rx8⟩) fun x9p F s1 I rx9 => ?_
  have r_a_names_here := Rp.mono s1 r_a_names_here
  have r_a_minutes_here := Rp.mono s1 r_a_minutes_here
  have s := Same.trans s s1
  refine c_nil ?_
  refine x_lstO I (by exact (by decide : 1 ≤ sizeLine)) fun p10 I => ?_
  have rp10 : Reps K F [(V.ref x9p)] [(⟨a_length_here, v7⟩ : (Rm.R2 Int (Dc Str Int)))] := (.cons rx9 .nil)
  refine c_name (by simp only [List.set_cons_zero, List.set_cons_succ]; exact rfl) ?_
  refine c_seq ?_
  obtain ⟨jp11, ejp11, h⟩ := x_jn h
  refine c_join (fun σ1 H1 => ∃ (v25 : (List (Rm.R2 Int (Dc Str Int)))) (xs26 : List V) (F1 : Hp), σ1 = [(some (V.ref pp)), (some (V.int a_length_here)), (some x_a_names_here), (some x_a_minutes_here), (some (V.str a_stranger_here)), (some (V.ref p10)), none, none] ∧ Same F F1 ∧ Own K F1 H1 ⟨some pp, lk⟩ ((p10, HO.lst xs26) :: os) ∧ Reps K F1 xs26 v25 ∧ (jp11 v25).run QQ (fun _ => False)) (fun nx1 hn => ?_) ?_
  · skip
    have sm12 : Same F F := Same.refl F
    refine c_ifS ?_
    refine c_test ?_
    refine c_op ?_
    refine c_var (by exact rfl) ?_
    refine c_c ?_
    refine v_ltI ?_
    refine c_bl ?_
    refine x_if h (fun hc h => ?_) (fun hc h => ?_)
    · skip
      refine c_drop ?_
      refine c_bm ?_
      refine c_var (by exact rfl) ?_
      refine ⟨ty_list (sqL_of (I.own 0 _ _ rfl).2), ?_⟩
      refine c_cons ?_
      refine c_lst ?_
      refine c_cons ?_
      refine c_op ?_
      refine c_var (by exact rfl) ?_
      refine c_c ?_
      refine v_addI ?_
      refine c_cons ?_
      refine c_call ?_
      refine c_cons ?_
      refine c_var (by exact rfl) ?_
      refine c_cons ?_
      refine c_var (by exact rfl) ?_
      refine c_cons ?_
      refine c_c ?_
      refine c_nil ?_
      refine cl_l_minutes I (RepB.of r_a_names_here) (RepB.of r_a_minutes_here) (D.call h (fun v13 h F H pv13 xsv13 s1 I rv13 => ?_) (fun _ h => h))
      have r_a_names_here := Rp.mono s1 r_a_names_here
      have r_a_minutes_here := Rp.mono s1 r_a_minutes_here
      have rp10 := Reps.mono s1 rp10
      have s := Same.trans s s1
      have sm12 := Same.trans sm12 s1
      obtain ⟨F, s1, I, r1⟩ := x_frzD (d := v13) I rv13
      have r_a_names_here := Rp.mono s1 r_a_names_here
      have r_a_minutes_here := Rp.mono s1 r_a_minutes_here
      have rp10 := Reps.mono s1 rp10
      have s := Same.trans s s1
      have sm12 := Same.trans sm12 s1
      have rx14 := r1
      refine c_nil ?_
      refine x_row (P := fun F1 y => Rp.rep K F1 y (⟨(a_length_here + (1 : Int)), v13⟩ : (Rm.R2 Int (Dc Str Int)))) I (by exact (by decide : 2 ≤ sizeLine)) (fun p F1 s1 q => ⟨p, _, _, rfl, q, rfl, Rp.mono s1 rx14⟩) fun x15p F s1 I rx15 => ?_
      have r_a_names_here := Rp.mono s1 r_a_names_here
      have r_a_minutes_here := Rp.mono s1 r_a_minutes_here
      have rp10 := Reps.mono s1 rp10
      have s := Same.trans s s1
      have sm12 := Same.trans sm12 s1
      refine c_nil ?_
      refine x_app I 0 rfl rp10 rx15 h fun xs16 H I rp10 h => ?_
      simp only [List.set_cons_zero, List.set_cons_succ] at I
      try generalize [(⟨a_length_here, v7⟩ : (Rm.R2 Int (Dc Str Int)))] ++ [(⟨(a_length_here + (1 : Int)), v13⟩ : (Rm.R2 Int (Dc Str Int)))] = xs16p at h rp10
      exact hn _ _ ⟨xs16p, _, _, rfl, sm12, I, rp10, h⟩
    · skip
      refine c_ifS ?_
      refine c_test ?_
      refine c_op ?_
      refine c_cb ?_
      refine c_cons ?_
      refine c_lc ?_
      refine c_iList ?_
      refine c_var (by exact rfl) ?_
      refine x_iList I r_a_minutes_here fun _ tw => ?_
      intro D18 nD
      refine x_lc tw I (Same.refl _) (fun z => trivial) nD h ?hse17 ?hde17
      case hse17 =>
        intro e17 xe17 F H acc Nx Q1 s1 I rxe17 h hy hn
        have r_a_names_here := Rp.mono s1 r_a_names_here
        have r_a_minutes_here := Rp.mono s1 r_a_minutes_here
        have rp10 := Reps.mono s1 rp10
        have s := Same.trans s s1
        have sm12 := Same.trans sm12 s1
        have sm19 : Same F F := Same.refl F
        obtain rfl : xe17 = V.int e17 := rxe17
        show gName 6 _ [(some (V.ref pp)), (some (V.int a_length_here)), (some x_a_names_here), (some x_a_minutes_here), (some (V.str a_stranger_here)), (some (V.ref p10)), none, none] _ _
        refine c_name (by simp only [List.set_cons_zero, List.set_cons_succ]; exact rfl) ?_
        refine ⟨rfl, ?_⟩
        refine c_test ?_
        refine c_op ?_
        refine c_var (by exact rfl) ?_
        refine c_c ?_
        refine v_gtI ?_
        refine c_bl ?_
        refine x_if h (fun hc h => ?_) (fun hc h => ?_)
        · skip
          refine c_var (by exact rfl) ?_
          exact hy _ _ _ _ sm19 I rfl h
        · exact hn _ _ sm19 I h
      intro F H ysv20 v20 s1 I rv20 h
      have r_a_names_here := Rp.mono s1 r_a_names_here
      have r_a_minutes_here := Rp.mono s1 r_a_minutes_here
      have rp10 := Reps.mono s1 rp10
      have s := Same.trans s s1
      have sm12 := Same.trans sm12 s1
      obtain ⟨F, s1, I, rxv20⟩ := x_frz I rv20
      have r_a_names_here := Rp.mono s1 r_a_names_here
      have r_a_minutes_here := Rp.mono s1 r_a_minutes_here
      have rp10 := Reps.mono s1 rp10
      have s := Same.trans s s1
      have sm12 := Same.trans sm12 s1
      refine c_nil ?_
      refine x_lenL I rxv20 ?_
      refine c_c ?_
      refine v_eqI ?_
      refine c_bl ?_
      refine x_if h (fun hc h => ?_) (fun hc h => ?_)
      · skip
        refine c_drop ?_
        refine c_bm ?_
        refine c_var (by exact rfl) ?_
        refine ⟨ty_list (sqL_of (I.own 0 _ _ rfl).2), ?_⟩
        refine c_cons ?_
        refine c_lst ?_
        refine c_cons ?_
        refine c_c ?_
        refine c_cons ?_
        refine c_call ?_
        refine c_cons ?_
        refine c_var (by exact rfl) ?_
        refine c_cons ?_
        refine c_var (by exact rfl) ?_
        refine c_cons ?_
        refine c_c ?_
        refine c_nil ?_
        refine cl_l_minutes I (RepB.of r_a_names_here) (RepB.of r_a_minutes_here) (D.call h (fun v21 h F H pv21 xsv21 s1 I rv21 => ?_) (fun _ h => h))
        have r_a_names_here := Rp.mono s1 r_a_names_here
        have r_a_minutes_here := Rp.mono s1 r_a_minutes_here
        have rp10 := Reps.mono s1 rp10
        have s := Same.trans s s1
        have sm12 := Same.trans sm12 s1
        obtain ⟨F, s1, I, r1⟩ := x_frzD (d := v21) I rv21
        have r_a_names_here := Rp.mono s1 r_a_names_here
        have r_a_minutes_here := Rp.mono s1 r_a_minutes_here
        have rp10 := Reps.mono s1 rp10
        have s := Same.trans s s1
        have sm12 := Same.trans sm12 s1
        have rx22 := r1
        refine c_nil ?_
        refine x_row (P := fun F1 y => Rp.rep K F1 y (⟨(119 : Int), v21⟩ : (Rm.R2 Int (Dc Str Int)))) I (by exact (by decide : 2 ≤ sizeLine)) (fun p F1 s1 q => ⟨p, _, _, rfl, q, rfl, Rp.mono s1 rx22⟩) fun x23p F s1 I rx23 => ?_
        have r_a_names_here := Rp.mono s1 r_a_names_here
        have r_a_minutes_here := Rp.mono s1 r_a_minutes_here
        have rp10 := Reps.mono s1 rp10
        have s := Same.trans s s1
        have sm12 := Same.trans sm12 s1
        refine c_nil ?_
        refine x_app I 0 rfl rp10 rx23 h fun xs24 H I rp10 h => ?_
        simp only [List.set_cons_zero, List.set_cons_succ] at I
        try generalize [(⟨a_length_here, v7⟩ : (Rm.R2 Int (Dc Str Int)))] ++ [(⟨(119 : Int), v21⟩ : (Rm.R2 Int (Dc Str Int)))] = xs24p at h rp10
        exact hn _ _ ⟨xs24p, _, _, rfl, sm12, I, rp10, h⟩
      · skip
        refine c_next ?_
        exact hn _ _ ⟨[(⟨a_length_here, v7⟩ : (Rm.R2 Int (Dc Str Int)))], _, _, rfl, sm12, I, rp10, h⟩
  rintro σ1 H ⟨v25, xs26, F, rfl, s1, I, rp10, h⟩
  subst ejp11
  have r_a_names_here := Rp.mono s1 r_a_names_here
  have r_a_minutes_here := Rp.mono s1 r_a_minutes_here
  have s := Same.trans s s1
  refine c_seq ?_
  obtain ⟨jp27, ejp27, h⟩ := x_jn h
  refine c_join (fun σ1 H1 => ∃ (v50 : (List (Rm.R2 Int (Dc Str Int)))) (xs51 : List V) (y52 : Option V) (y53 : Option V) (F1 : Hp), σ1 = [(some (V.ref pp)), (some (V.int a_length_here)), (some x_a_names_here), (some x_a_minutes_here), (some (V.str a_stranger_here)), (some (V.ref p10)), y52, y53] ∧ Same F F1 ∧ Own K F1 H1 ⟨some pp, lk⟩ ((p10, HO.lst xs51) :: os) ∧ Reps K F1 xs51 v50 ∧ (jp27 v50).run QQ (fun _ => False)) (fun nx1 hn => ?_) ?_
  · skip
    have sm28 : Same F F := Same.refl F
    refine c_ifS ?_
    refine c_test ?_
    refine c_op ?_
    refine c_cb ?_
    refine c_cons ?_
    refine c_var (by exact rfl) ?_
    refine c_nil ?_
    refine x_lenL I r_a_names_here ?_
    refine c_c ?_
    refine v_gtI ?_
    refine c_bl ?_
    refine x_if h (fun hc h => ?_) (fun hc h => ?_)
    · skip
      refine c_seq ?_
      refine c_drop ?_
      refine c_bm ?_
      refine c_var (by exact rfl) ?_
      refine ⟨ty_list (sqL_of (I.own 0 _ _ rfl).2), ?_⟩
      refine c_cons ?_
      refine c_lst ?_
      refine c_cons ?_
      refine c_var (by exact rfl) ?_
      refine c_cons ?_
      refine c_call ?_
      refine c_cons ?_
      refine c_sl ?_
      refine c_var (by exact rfl) ?_
      refine c_noPart ?_
      refine c_part ?_
      refine c_un ?_
      refine c_c ?_
      refine v_negI ?_
      refine ⟨_, rfl, ?_⟩
      refine x_slF I (RL.f I r_a_names_here) fun x29p F H s1 I rx29 => ?_
      have r_a_names_here := Rp.mono s1 r_a_names_here
      have r_a_minutes_here := Rp.mono s1 r_a_minutes_here
      have rp10 := Reps.mono s1 rp10
      have s := Same.trans s s1
      have sm28 := Same.trans sm28 s1
      refine c_cons ?_
      refine c_sl ?_
      refine c_var (by exact rfl) ?_
      refine c_noPart ?_
      refine c_part ?_
      refine c_un ?_
      refine c_c ?_
      refine v_negI ?_
      refine ⟨_, rfl, ?_⟩
      refine x_slF I (RL.f I r_a_minutes_here) fun x30p F H s1 I rx30 => ?_
      have r_a_names_here := Rp.mono s1 r_a_names_here
      have r_a_minutes_here := Rp.mono s1 r_a_minutes_here
      have rp10 := Reps.mono s1 rp10
      have rx29 := Rp.mono s1 rx29
      have s := Same.trans s s1
      have sm28 := Same.trans sm28 s1
      refine c_cons ?_
      refine c_c ?_
      refine c_nil ?_
      refine cl_l_minutes I (RepB.of rx29) (RepB.of rx30) (D.call h (fun v31 h F H pv31 xsv31 s1 I rv31 => ?_) (fun _ h => h))
      have r_a_names_here := Rp.mono s1 r_a_names_here
      have r_a_minutes_here := Rp.mono s1 r_a_minutes_here
      have rp10 := Reps.mono s1 rp10
      have s := Same.trans s s1
      have sm28 := Same.trans sm28 s1
      obtain ⟨F, s1, I, r1⟩ := x_frzD (d := v31) I rv31
      have r_a_names_here := Rp.mono s1 r_a_names_here
      have r_a_minutes_here := Rp.mono s1 r_a_minutes_here
      have rp10 := Reps.mono s1 rp10
      have s := Same.trans s s1
      have sm28 := Same.trans sm28 s1
      have rx32 := r1
      refine c_nil ?_
      refine x_row (P := fun F1 y => Rp.rep K F1 y (⟨a_length_here, v31⟩ : (Rm.R2 Int (Dc Str Int)))) I (by exact (by decide : 2 ≤ sizeLine)) (fun p F1 s1 q => ⟨p, _, _, rfl, q, rfl, Rp.mono s1 rx32⟩) fun x33p F s1 I rx33 => ?_
      have r_a_names_here := Rp.mono s1 r_a_names_here
      have r_a_minutes_here := Rp.mono s1 r_a_minutes_here
      have rp10 := Reps.mono s1 rp10
      have s := Same.trans s s1
      have sm28 := Same.trans sm28 s1
      refine c_nil ?_
      refine x_app I 0 rfl rp10 rx33 h fun xs34 H I rp10 h => ?_
      simp only [List.set_cons_zero, List.set_cons_succ] at I
      try generalize v25 ++ [(⟨a_length_here, v31⟩ : (Rm.R2 Int (Dc Str Int)))] = xs34p at h rp10
      refine c_seq ?_
      refine c_asg ?_
      refine c_call ?_
      refine c_cons ?_
      refine c_var (by exact rfl) ?_
      refine c_cons ?_
      refine c_cb ?_
      refine c_cons ?_
      refine c_var (by exact rfl) ?_
      refine c_nil ?_
      refine x_lenL I r_a_names_here ?_
      refine c_nil ?_
      refine cx_draw I h fun v35 F H s1 I h => ?_
      have r_a_names_here := Rp.mono s1 r_a_names_here
      have r_a_minutes_here := Rp.mono s1 r_a_minutes_here
      have rp10 := Reps.mono s1 rp10
      have s := Same.trans s s1
      have sm28 := Same.trans sm28 s1
      refine c_name (by simp only [List.set_cons_zero, List.set_cons_succ]; exact rfl) ?_
      refine c_seq ?_
      refine c_asg ?_
      refine c_op ?_
      refine c_cb ?_
      refine c_cons ?_
      refine c_op ?_
      refine c_op ?_
      refine c_op ?_
      refine c_var (by exact rfl) ?_
      refine c_var (by exact rfl) ?_
      refine x_ixL I r_a_minutes_here h fun v36 xv36 rv36 h => ?_
      obtain rfl : xv36 = V.int v36 := rv36
      refine c_c ?_
      refine v_addI ?_
      refine c_call ?_
      refine c_cons ?_
      refine c_var (by exact rfl) ?_
      refine c_cons ?_
      refine c_op ?_
      refine c_var (by exact rfl) ?_
      refine c_c ?_
      refine v_subI ?_
      refine c_nil ?_
      refine cx_draw I h fun v37 F H s1 I h => ?_
      have r_a_names_here := Rp.mono s1 r_a_names_here
      have r_a_minutes_here := Rp.mono s1 r_a_minutes_here
      have rp10 := Reps.mono s1 rp10
      have s := Same.trans s s1
      have sm28 := Same.trans sm28 s1
      refine v_addI ?_
      refine c_nil ?_
      refine v_intI ?_
      refine c_var (by exact rfl) ?_
      refine x_modI h fun h => ?_
      try generalize (((v36 + (1 : Int)) + v37) % a_length_here) = v38 at h ⊢
      refine c_name (by simp only [List.set_cons_zero, List.set_cons_succ]; exact rfl) ?_
      refine c_drop ?_
      refine c_bm ?_
      refine c_var (by exact rfl) ?_
      refine ⟨ty_list (sqL_of (I.own 0 _ _ rfl).2), ?_⟩
      refine c_cons ?_
      refine c_lst ?_
      refine c_cons ?_
      refine c_var (by exact rfl) ?_
      refine c_cons ?_
      refine c_call ?_
      refine c_cons ?_
      refine c_var (by exact rfl) ?_
      refine c_cons ?_
      refine c_op ?_
      refine c_op ?_
      refine c_sl ?_
      refine c_var (by exact rfl) ?_
      refine c_noPart ?_
      refine c_part ?_
      refine c_var (by exact rfl) ?_
      refine ⟨_, rfl, ?_⟩
      refine x_slF I (RL.f I r_a_minutes_here) fun x39p F H s1 I rx39 => ?_
      have r_a_names_here := Rp.mono s1 r_a_names_here
      have r_a_minutes_here := Rp.mono s1 r_a_minutes_here
      have rp10 := Reps.mono s1 rp10
      have s := Same.trans s s1
      have sm28 := Same.trans sm28 s1
      refine c_lst ?_
      refine c_cons ?_
      refine c_var (by exact rfl) ?_
      refine c_nil ?_
      refine x_lst (l := [v38]) I (.cons rfl .nil) (by exact (by decide : 1 ≤ sizeLine)) fun x40p F s1 I rx40 => ?_
      have r_a_names_here := Rp.mono s1 r_a_names_here
      have r_a_minutes_here := Rp.mono s1 r_a_minutes_here
      have rp10 := Reps.mono s1 rp10
      have rx39 := Rp.mono s1 rx39
      have s := Same.trans s s1
      have sm28 := Same.trans sm28 s1
      refine x_catF I (RL.f I rx39) (RL.f I rx40) h fun v41 x42p F H s1 I rx42 h => ?_
      have r_a_names_here := Rp.mono s1 r_a_names_here
      have r_a_minutes_here := Rp.mono s1 r_a_minutes_here
      have rp10 := Reps.mono s1 rp10
      have s := Same.trans s s1
      have sm28 := Same.trans sm28 s1
      refine c_sl ?_
      refine c_var (by exact rfl) ?_
      refine c_part ?_
      refine c_op ?_
      refine c_var (by exact rfl) ?_
      refine c_c ?_
      refine v_addI ?_
      refine ⟨_, rfl, ?_⟩
      refine c_noPart ?_
      refine x_slF I (RL.f I r_a_minutes_here) fun x43p F H s1 I rx43 => ?_
      have r_a_names_here := Rp.mono s1 r_a_names_here
      have r_a_minutes_here := Rp.mono s1 r_a_minutes_here
      have rp10 := Reps.mono s1 rp10
      have rx42 := Rp.mono s1 rx42
      have s := Same.trans s s1
      have sm28 := Same.trans sm28 s1
      refine x_catF I (RL.f I rx42) (RL.f I rx43) h fun v44 x45p F H s1 I rx45 h => ?_
      have r_a_names_here := Rp.mono s1 r_a_names_here
      have r_a_minutes_here := Rp.mono s1 r_a_minutes_here
      have rp10 := Reps.mono s1 rp10
      have s := Same.trans s s1
      have sm28 := Same.trans sm28 s1
      refine c_cons ?_
      refine c_c ?_
      refine c_nil ?_
      refine cl_l_minutes I (RepB.of r_a_names_here) (RepB.of rx45) (D.call h (fun v46 h F H pv46 xsv46 s1 I rv46 => ?_) (fun _ h => h))
      have r_a_names_here := Rp.mono s1 r_a_names_here
      have r_a_minutes_here := Rp.mono s1 r_a_minutes_here
      have rp10 := Reps.mono s1 rp10
      have s := Same.trans s s1
      have sm28 := Same.trans sm28 s1
      obtain ⟨F, s1, I, r1⟩ := x_frzD (d := v46) I rv46
      have r_a_names_here := Rp.mono s1 r_a_names_here
      have r_a_minutes_here := Rp.mono s1 r_a_minutes_here
      have rp10 := Reps.mono s1 rp10
      have s := Same.trans s s1
      have sm28 := Same.trans sm28 s1
      have rx47 := r1
      refine c_nil ?_
      refine x_row (P := fun F1 y => Rp.rep K F1 y (⟨a_length_here, v46⟩ : (Rm.R2 Int (Dc Str Int)))) I (by exact (by decide : 2 ≤ sizeLine)) (fun p F1 s1 q => ⟨p, _, _, rfl, q, rfl, Rp.mono s1 rx47⟩) fun x48p F s1 I rx48 => ?_
      have r_a_names_here := Rp.mono s1 r_a_names_here
      have r_a_minutes_here := Rp.mono s1 r_a_minutes_here
      have rp10 := Reps.mono s1 rp10
      have s := Same.trans s s1
      have sm28 := Same.trans sm28 s1
      refine c_nil ?_
      refine x_app I 0 rfl rp10 rx48 h fun xs49 H I rp10 h => ?_
      simp only [List.set_cons_zero, List.set_cons_succ] at I
      try generalize xs34p ++ [(⟨a_length_here, v46⟩ : (Rm.R2 Int (Dc Str Int)))] = xs49p at h rp10
      exact hn _ _ ⟨xs49p, _, _, _, _, rfl, sm28, I, rp10, h⟩
    · skip
      refine c_next ?_
      exact hn _ _ ⟨v25, _, _, _, _, rfl, sm28, I, rp10, h⟩
  rintro σ1 H ⟨v50, xs51, y52, y53, F, rfl, s1, I, rp10, h⟩
  subst ejp27
  have r_a_names_here := Rp.mono s1 r_a_names_here
  have r_a_minutes_here := Rp.mono s1 r_a_minutes_here
  have s := Same.trans s s1
  refine c_ret ?_
  refine c_var (by exact rfl) ?_
  obtain ⟨F, s1, I, r1⟩ := x_frz I rp10
  have rp10 := Reps.mono s1 rp10
  have s := Same.trans s s1
  have rx54 := r1
  exact hQ _ h _ _ _ s I rx54
abbrev N_l_is_int : List Str := [(Str.ofString "_law_thing")]
theorem rd_l_is_int {K : PySem.W.Frag} {vs : List V} {H : Hp} {Q : VK} {E : XK} (h : sp_l_is_int K vs H Q E) : t_l_is_int K E { nx := fun _ H1 => Q .non H1, rt := Q } (start N_l_is_int vs) H := by
  obtain ⟨i, rfl, q⟩ := h
  exact rd0_l_is_int q
abbrev N_l_same : List Str := [(Str.ofString "_law_actual"), (Str.ofString "_law_due"), (Str.ofString "_law_key"), (Str.ofString "_law_k")]
theorem rd_l_same {K : PySem.W.Frag} {n : Nat} {vs : List V} {H : Hp} {Q : VK} {E : XK} (h : spn_l_same K (n + 1) vs H Q E) : t_l_same (spn_l_same K n) K E { nx := fun _ H1 => Q .non H1, rt := Q } (start N_l_same vs) H := by
  obtain ⟨x, y, p, b, rfl, hx, hy, g⟩ := h
  exact rd0_l_same hx hy g
/-! l_size -/
def sp_l_size (K : PySem.W.Frag) : Sp := fun vs H Q _ => ∃ (F0 : Hp) (pp : Addr) (lk : Option Addr) (os : Os) (a_limit : Int), vs = [V.ref pp, (V.int a_limit)] ∧ Own K F0 H ⟨some pp, lk⟩ os ∧ (p_l_size a_limit).run (fun r => ∀ F1 H1 y, Same F0 F1 → Own K F1 H1 ⟨some pp, lk⟩ os → Rp.rep K F1 y r → Q y H1) (fun _ => False)
theorem len_l_size {K : PySem.W.Frag} : ∀ vs H Q E, sp_l_size K vs H Q E → vs.length = 2 := by
  rintro vs H Q E ⟨_, _, _, _, _, rfl, _⟩; rfl
theorem cl_l_size {K : PySem.W.Frag} {F0 H : Hp} {pp : Addr} {lk : Option Addr} {os : Os} {Q : VK} {E : XK} {a_limit : Int} (I : Own K F0 H ⟨some pp, lk⟩ os) (h : (p_l_size a_limit).run (fun r => ∀ F1 H1 y, Same F0 F1 → Own K F1 H1 ⟨some pp, lk⟩ os → Rp.rep K F1 y r → Q y H1) (fun _ => False)) : sp_l_size K ([V.ref pp, (V.int a_limit)] ++ []) H Q E := ⟨F0, pp, lk, os, a_limit, rfl, I, h⟩
abbrev N_l_size : List Str := [(Str.ofString "_law_pool_here"), (Str.ofString "_law_limit"), (Str.ofString "_law_way")]
theorem st_l_size (v0 v1 : V) : start N_l_size [v0, v1] = [some v0, some v1, none] := rfl
def t_l_size (K : PySem.W.Frag) (E : XK) : TS := (tSeq (tAsg (tCall (sp_l_draw K) [] E (tCons (tVar 0) (tCons (tC (.int 8)) tNil))) (gName 2))
  (tSeq (tIfS (tTest (tOp rEq (tVar 2) (tC (.int 0)))) (tRet (tVar 1)) tNext)
  (tSeq (tIfS (tTest (tOp rEq (tVar 2) (tC (.int 1)))) (tRet (tCB rMin2 (tCons (tVar 1) (tCons (tCall (sp_l_draw K) [] E (tCons (tVar 0) (tCons (tC (.int 4)) tNil))) tNil)))) tNext)
  (tRet (tCall (sp_l_draw K) [] E (tCons (tVar 0) (tCons (tOp rAddI (tVar 1) (tC (.int 1))) tNil)))))))
set_option maxHeartbeats 4000000 in
theorem rd_l_size {K : PySem.W.Frag} {vs : List V} {H : Hp} {Q : VK} {E : XK} (h : sp_l_size K vs H Q E) : t_l_size K E { nx := fun _ H1 => Q .non H1, rt := Q } (start N_l_size vs) H := by
  obtain ⟨F0, pp, lk, os, a_limit, rfl, I, h⟩ := h
  obtain ⟨F, eF⟩ : ∃ F, F = F0 := ⟨_, rfl⟩
  have s : Same F0 F := by rw [eF]; exact Same.refl _
  rw [← eF] at I
  clear eF
  obtain ⟨QQ, hQ, h⟩ : ∃ QQ : Int → Prop, (∀ r, QQ r → ∀ F1 H1 y, Same F0 F1 → Own K F1 H1 ⟨some pp, lk⟩ os → Rp.rep K F1 y r → Q y H1) ∧ (p_l_size a_limit).run QQ (fun _ => False) := ⟨_, fun r h => h, h⟩
  unfold p_l_size at h
  unfold t_l_size
  rw [st_l_size]
  refine c_seq ?_
  refine c_asg ?_
  refine c_call ?_
  refine c_cons ?_
  refine c_var (by exact rfl) ?_
  refine c_cons ?_
  refine c_c ?_
  refine c_nil ?_
  refine cx_draw I h fun v1 F H s1 I h => ?_
  have s := Same.trans s s1
  refine c_name (by simp only [List.set_cons_zero, List.set_cons_succ]; exact rfl) ?_
  refine c_seq ?_
  refine c_ifS ?_
  refine c_test ?_
  refine c_op ?_
  refine c_var (by exact rfl) ?_
  refine c_c ?_
  refine v_eqI ?_
  refine c_bl ?_
  refine x_if h (fun hc h => ?_) (fun hc h => ?_)
  · skip
    refine c_ret ?_
    refine c_var (by exact rfl) ?_
    exact hQ _ h _ _ _ s I rfl
  · skip
    refine c_next ?_
    refine c_seq ?_
    refine c_ifS ?_
    refine c_test ?_
    refine c_op ?_
    refine c_var (by exact rfl) ?_
    refine c_c ?_
    refine v_eqI ?_
    refine c_bl ?_
    refine x_if h (fun hc h => ?_) (fun hc h => ?_)
    · skip
      refine c_ret ?_
      refine c_cb ?_
      refine c_cons ?_
      refine c_var (by exact rfl) ?_
      refine c_cons ?_
      refine c_call ?_
      refine c_cons ?_
      refine c_var (by exact rfl) ?_
      refine c_cons ?_
      refine c_c ?_
      refine c_nil ?_
      refine cx_draw I h fun v2 F H s1 I h => ?_
      have s := Same.trans s s1
      refine c_nil ?_
      refine v_min2 ?_
      exact hQ _ h _ _ _ s I rfl
    · skip
      refine c_next ?_
      refine c_ret ?_
      refine c_call ?_
      refine c_cons ?_
      refine c_var (by exact rfl) ?_
      refine c_cons ?_
      refine c_op ?_
      refine c_var (by exact rfl) ?_
      refine c_c ?_
      refine v_addI ?_
      refine c_nil ?_
      refine cx_draw I h fun v3 F H s1 I h => ?_
      have s := Same.trans s s1
      exact hQ _ h _ _ _ s I rfl
/-! l_some -/
def sp_l_some (K : PySem.W.Frag) : Sp := fun vs H Q _ => ∃ (F0 : Hp) (pp : Addr) (lk : Option Addr) (os : Os) (a_limit : Int), vs = [V.ref pp, (V.int a_limit)] ∧ Own K F0 H ⟨some pp, lk⟩ os ∧ (p_l_some a_limit).run (fun r => ∀ F1 H1 y, Same F0 F1 → Own K F1 H1 ⟨some pp, lk⟩ os → Rp.rep K F1 y r → Q y H1) (fun _ => False)
theorem len_l_some {K : PySem.W.Frag} : ∀ vs H Q E, sp_l_some K vs H Q E → vs.length = 2 := by
  rintro vs H Q E ⟨_, _, _, _, _, rfl, _⟩; rfl
theorem cl_l_some {K : PySem.W.Frag} {F0 H : Hp} {pp : Addr} {lk : Option Addr} {os : Os} {Q : VK} {E : XK} {a_limit : Int} (I : Own K F0 H ⟨some pp, lk⟩ os) (h : (p_l_some a_limit).run (fun r => ∀ F1 H1 y, Same F0 F1 → Own K F1 H1 ⟨some pp, lk⟩ os → Rp.rep K F1 y r → Q y H1) (fun _ => False)) : sp_l_some K ([V.ref pp, (V.int a_limit)] ++ []) H Q E := ⟨F0, pp, lk, os, a_limit, rfl, I, h⟩
abbrev N_l_some : List Str := [(Str.ofString "_law_pool_here"), (Str.ofString "_law_limit"), (Str.ofString "_law_way")]
theorem st_l_some (v0 v1 : V) : start N_l_some [v0, v1] = [some v0, some v1, none] := rfl
def t_l_some (K : PySem.W.Frag) (E : XK) : TS := (tSeq (tAsg (tCall (sp_l_draw K) [] E (tCons (tVar 0) (tCons (tC (.int 4)) tNil))) (gName 2))
  (tSeq (tIfS (tTest (tOp rEq (tVar 2) (tC (.int 0)))) (tRet (tVar 1)) tNext)
  (tSeq (tIfS (tTest (tOp rEq (tVar 2) (tC (.int 1)))) (tRet (tCall (sp_l_draw K) [] E (tCons (tVar 0) (tCons (tOp rAddI (tVar 1) (tC (.int 1))) tNil)))) tNext)
  (tRet (tCall (sp_l_draw K) [] E (tCons (tVar 0) (tCons (tOp rAddI (tCB rMin2 (tCons (tVar 1) (tCons (tC (.int 2)) tNil))) (tC (.int 1))) tNil)))))))
set_option maxHeartbeats 4000000 in
theorem rd_l_some {K : PySem.W.Frag} {vs : List V} {H : Hp} {Q : VK} {E : XK} (h : sp_l_some K vs H Q E) : t_l_some K E { nx := fun _ H1 => Q .non H1, rt := Q } (start N_l_some vs) H := by
  obtain ⟨F0, pp, lk, os, a_limit, rfl, I, h⟩ := h
  obtain ⟨F, eF⟩ : ∃ F, F = F0 := ⟨_, rfl⟩
  have s : Same F0 F := by rw [eF]; exact Same.refl _
  rw [← eF] at I
  clear eF
  obtain ⟨QQ, hQ, h⟩ : ∃ QQ : Int → Prop, (∀ r, QQ r → ∀ F1 H1 y, Same F0 F1 → Own K F1 H1 ⟨some pp, lk⟩ os → Rp.rep K F1 y r → Q y H1) ∧ (p_l_some a_limit).run QQ (fun _ => False) := ⟨_, fun r h => h, h⟩
  unfold p_l_some at h
  unfold t_l_some
  rw [st_l_some]
  refine c_seq ?_
  refine c_asg ?_
  refine c_call ?_
  refine c_cons ?_
  refine c_var (by exact rfl) ?_
  refine c_cons ?_
  refine c_c ?_
  refine c_nil ?_
  refine cx_draw I h fun v1 F H s1 I h => ?_
  have s := Same.trans s s1
  refine c_name (by simp only [List.set_cons_zero, List.set_cons_succ]; exact rfl) ?_
  refine c_seq ?_
  refine c_ifS ?_
  refine c_test ?_
  refine c_op ?_
  refine c_var (by exact rfl) ?_
  refine c_c ?_
  refine v_eqI ?_
  refine c_bl ?_
  refine x_if h (fun hc h => ?_) (fun hc h => ?_)
  · skip
    refine c_ret ?_
    refine c_var (by exact rfl) ?_
    exact hQ _ h _ _ _ s I rfl
  · skip
    refine c_next ?_
    refine c_seq ?_
    refine c_ifS ?_
    refine c_test ?_
    refine c_op ?_
    refine c_var (by exact rfl) ?_
    refine c_c ?_
    refine v_eqI ?_
    refine c_bl ?_
    refine x_if h (fun hc h => ?_) (fun hc h => ?_)
    · skip
      refine c_ret ?_
      refine c_call ?_
      refine c_cons ?_
      refine c_var (by exact rfl) ?_
      refine c_cons ?_
      refine c_op ?_
      refine c_var (by exact rfl) ?_
      refine c_c ?_
      refine v_addI ?_
      refine c_nil ?_
      refine cx_draw I h fun v2 F H s1 I h => ?_
      have s := Same.trans s s1
      exact hQ _ h _ _ _ s I rfl
    · skip
      refine c_next ?_
      refine c_ret ?_
      refine c_call ?_
      refine c_cons ?_
      refine c_var (by exact rfl) ?_
      refine c_cons ?_
      refine c_op ?_
      refine c_cb ?_
      refine c_cons ?_
      refine c_var (by exact rfl) ?_
      refine c_cons ?_
      refine c_c ?_
      refine c_nil ?_
      refine v_min2 ?_
      refine c_c ?_
      refine v_addI ?_
      refine c_nil ?_
      refine cx_draw I h fun v3 F H s1 I h => ?_
      have s := Same.trans s s1
      exact hQ _ h _ _ _ s I rfl
/-! l_stranger -/
def sp_l_stranger (K : PySem.W.Frag) : Sp := fun vs H Q _ => ∃ (F0 : Hp) (pp : Addr) (lk : Option Addr) (os : Os) (a_names_here : (List Str)) (x_a_names_here : V), vs = [V.ref pp, x_a_names_here] ∧ Own K F0 H ⟨some pp, lk⟩ os ∧ RepB K F0 os x_a_names_here a_names_here ∧ (p_l_stranger a_names_here).run (fun r => ∀ F1 H1 y, Same F0 F1 → Own K F1 H1 ⟨some pp, lk⟩ os → Rp.rep K F1 y r → Q y H1) (fun _ => False)
theorem len_l_stranger {K : PySem.W.Frag} : ∀ vs H Q E, sp_l_stranger K vs H Q E → vs.length = 2 := by
  rintro vs H Q E ⟨_, _, _, _, _, _, rfl, _⟩; rfl
theorem cl_l_stranger {K : PySem.W.Frag} {F0 H : Hp} {pp : Addr} {lk : Option Addr} {os : Os} {Q : VK} {E : XK} {a_names_here : (List Str)} {x_a_names_here : V} (I : Own K F0 H ⟨some pp, lk⟩ os) (r_a_names_here : RepB K F0 os x_a_names_here a_names_here) (h : (p_l_stranger a_names_here).run (fun r => ∀ F1 H1 y, Same F0 F1 → Own K F1 H1 ⟨some pp, lk⟩ os → Rp.rep K F1 y r → Q y H1) (fun _ => False)) : sp_l_stranger K ([V.ref pp, x_a_names_here] ++ []) H Q E := ⟨F0, pp, lk, os, a_names_here, x_a_names_here, rfl, I, r_a_names_here, h⟩
abbrev N_l_stranger : List Str := [(Str.ofString "_law_pool_here"), (Str.ofString "_law_names_here"), (Str.ofString "_law_found"), (Str.ofString "_law_j")]
theorem st_l_stranger (v0 v1 : V) : start N_l_stranger [v0, v1] = [some v0, some v1, none, none] := rfl
def t_l_stranger (K : PySem.W.Frag) (E : XK) : TS := (tSeq (tAsg (tOp rAddS (tC (.str (Str.ofString "y"))) (tCall (sp_l_word K) [] E (tCons (tVar 0) (tCons (tCall (sp_l_draw K) [] E (tCons (tVar 0) (tCons (tC (.int 8)) tNil))) tNil)))) (gName 2))
  (tSeq (tIfS (tAnd (tTest (tOp rGtI (tCB (rLenQ K) (tCons (tVar 1) tNil)) (tC (.int 0)))) (tTest (tOp rEq (tCall (sp_l_draw K) [] E (tCons (tVar 0) (tCons (tC (.int 2)) tNil))) (tC (.int 1))))) (tAsg (tOp rAddS (tSl rSlS (tOp (rIxL K) (tVar 1) (tCall (sp_l_draw K) [] E (tCons (tVar 0) (tCons (tCB (rLenQ K) (tCons (tVar 1) tNil)) tNil)))) tNoPart (tPart (tC (.int 7)))) (tC (.str (Str.ofString "x")))) (gName 2)) tNext)
  (tSeq (tFor (iRng1 (tCons (tC (.int 13)) tNil)) (gName 3) (tIfS (tAnd (tTest (tOp (rIn K false) (tVar 2) (tVar 1))) (tTest (tOp (rIn K true) (tOp rAddS (tC (.str (Str.ofString "y"))) (tCB rStrI (tCons (tVar 3) tNil))) (tVar 1)))) (tAsg (tOp rAddS (tC (.str (Str.ofString "y"))) (tCB rStrI (tCons (tVar 3) tNil))) (gName 2)) tNext))
  (tRet (tVar 2)))))
set_option maxHeartbeats 4000000 in
theorem rd_l_stranger {K : PySem.W.Frag} {vs : List V} {H : Hp} {Q : VK} {E : XK} (h : sp_l_stranger K vs H Q E) : t_l_stranger K E { nx := fun _ H1 => Q .non H1, rt := Q } (start N_l_stranger vs) H := by
  obtain ⟨F0, pp, lk, os, a_names_here, x_a_names_here, rfl, I, r_a_names_here, h⟩ := h
  obtain ⟨F, eF⟩ : ∃ F, F = F0 := ⟨_, rfl⟩
  have s : Same F0 F := by rw [eF]; exact Same.refl _
  rw [← eF] at I
  rw [← eF] at r_a_names_here
  clear eF
  obtain ⟨QQ, hQ, h⟩ : ∃ QQ : Str → Prop, (∀ r, QQ r → ∀ F1 H1 y, Same F0 F1 → Own K F1 H1 ⟨some pp, lk⟩ os → Rp.rep K F1 y r → Q y H1) ∧ (p_l_stranger a_names_here).run QQ (fun _ => False) := ⟨_, fun r h => h, h⟩
  unfold p_l_stranger at h
  unfold t_l_stranger
  rw [st_l_stranger]
  refine c_seq ?_
  refine c_asg ?_
  refine c_op ?_
  refine c_c ?_
  refine c_call ?_
  refine c_cons ?_
  refine c_var (by exact rfl) ?_
  refine c_cons ?_
  refine c_call ?_
  refine c_cons ?_
  refine c_var (by exact rfl) ?_
  refine c_cons ?_
  refine c_c ?_
  refine c_nil ?_
  refine cx_draw I h fun v1 F H s1 I h => ?_
  have r_a_names_here := RepB.mono s1 r_a_names_here
  have s := Same.trans s s1
  refine c_nil ?_
  refine cl_l_word I (D.call h (fun v2 h F H xv2 s1 I rv2 => ?_) (fun _ h => h))
  have r_a_names_here := RepB.mono s1 r_a_names_here
  have s := Same.trans s s1
  obtain rfl : xv2 = V.str v2 := rv2
  refine x_addS h fun h => ?_
  try generalize ((Str.ofString "y") ++ v2) = v3 at h ⊢
  refine c_name (by simp only [List.set_cons_zero, List.set_cons_succ]; exact rfl) ?_
  refine c_seq ?_
  obtain ⟨jp4, ejp4, h⟩ := x_jn h
  refine c_join (fun σ1 H1 => ∃ (v13 : Str) (F1 : Hp), σ1 = [(some (V.ref pp)), (some x_a_names_here), (some (V.str v13)), none] ∧ Same F F1 ∧ Own K F1 H1 ⟨some pp, lk⟩ (os) ∧ (jp4 v13).run QQ (fun _ => False)) (fun nx1 hn => ?_) ?_
  · skip
    have sm5 : Same F F := Same.refl F
    refine c_ifS ?_
    refine c_and ?_
    refine c_test ?_
    refine c_op ?_
    refine c_cb ?_
    refine c_cons ?_
    refine c_var (by exact rfl) ?_
    refine c_nil ?_
    refine b_lenL I r_a_names_here ?_
    refine c_c ?_
    refine v_gtI ?_
    refine c_bl ?_
    refine x_andD I h (fun h hn => ?_) fun b8 F H s1 I h => ?_
    · skip
      have sm6 : Same F F := Same.refl F
      refine c_test ?_
      refine c_op ?_
      refine c_call ?_
      refine c_cons ?_
      refine c_var (by exact rfl) ?_
      refine c_cons ?_
      refine c_c ?_
      refine c_nil ?_
      refine cx_draw I h fun v7 F H s1 I h => ?_
      have r_a_names_here := RepB.mono s1 r_a_names_here
      have s := Same.trans s s1
      have sm5 := Same.trans sm5 s1
      have sm6 := Same.trans sm6 s1
      refine c_c ?_
      refine v_eqI ?_
      refine c_bl ?_
      exact hn _ _ _ sm6 I h
    have r_a_names_here := RepB.mono s1 r_a_names_here
    have s := Same.trans s s1
    have sm5 := Same.trans sm5 s1
    refine x_if h (fun hc h => ?_) (fun hc h => ?_)
    · skip
      refine c_asg ?_
      refine c_op ?_
      refine c_sl ?_
      refine c_op ?_
      refine c_var (by exact rfl) ?_
      refine c_call ?_
      refine c_cons ?_
      refine c_var (by exact rfl) ?_
      refine c_cons ?_
      refine c_cb ?_
      refine c_cons ?_
      refine c_var (by exact rfl) ?_
      refine c_nil ?_
      refine b_lenL I r_a_names_here ?_
      refine c_nil ?_
      refine cx_draw I h fun v9 F H s1 I h => ?_
      have r_a_names_here := RepB.mono s1 r_a_names_here
      have s := Same.trans s s1
      have sm5 := Same.trans sm5 s1
      refine b_ixL I r_a_names_here h fun v10 xv10 rv10 h => ?_
      obtain rfl : xv10 = V.str v10 := rv10
      refine c_noPart ?_
      refine c_part ?_
      refine c_c ?_
      refine ⟨_, rfl, ?_⟩
      refine x_slS h fun h => ?_
      try generalize (cutS v10 none (some (7 : Int))) = v11 at h ⊢
      refine c_c ?_
      refine x_addS h fun h => ?_
      try generalize (v11 ++ (Str.ofString "x")) = v12 at h ⊢
      refine c_name (by simp only [List.set_cons_zero, List.set_cons_succ]; exact rfl) ?_
      exact hn _ _ ⟨v12, _, rfl, sm5, I, h⟩
    · skip
      refine c_next ?_
      exact hn _ _ ⟨v3, _, rfl, sm5, I, h⟩
  rintro σ1 H ⟨v13, F, rfl, s1, I, h⟩
  subst ejp4
  have r_a_names_here := RepB.mono s1 r_a_names_here
  have s := Same.trans s s1
  refine c_seq ?_
  refine c_for ?_
  refine c_rng1 ?_
  refine c_cons ?_
  refine c_c ?_
  refine c_nil ?_
  refine x_iRng1 (F := F) (K := K) h fun tw h => ?_
  refine x_for (pp := ⟨some pp, lk⟩) tw (fun (st15 : Str) σ1 F1 H1 => ∃ (y16 : Option V), σ1 = [(some (V.ref pp)), (some x_a_names_here), (some (V.str st15)), y16] ∧ Same F F1 ∧ Own K F1 H1 ⟨some pp, lk⟩ (os)) h ⟨_, rfl, Same.refl _, I⟩ ?hOst15 ?hdst15 ?hsst15
  case hOst15 =>
    rintro st15 σ1 F1 H1 ⟨y16, rfl, s1, I⟩
    exact ⟨s1, _, trivial, I, fun F2 H2 s2 I2 => ⟨_, rfl, Same.trans s1 s2, I2⟩⟩
  case hdst15 =>
    rintro st15 σ1 F H ⟨y16, rfl, s1, I⟩ h
    have r_a_names_here := RepB.mono s1 r_a_names_here
    have s := Same.trans s s1
    refine c_ret ?_
    refine c_var (by exact rfl) ?_
    exact hQ _ h _ _ _ s I rfl
  case hsst15 =>
    rintro e17 st15 xe17 σ1 F H N nx18 ⟨y16, rfl, s1, I⟩ rxe17 h hn hb
    have r_a_names_here := RepB.mono s1 r_a_names_here
    have s := Same.trans s s1
    have sm19 := s1
    obtain rfl : xe17 = V.int e17 := rxe17
    refine c_name (by simp only [List.set_cons_zero, List.set_cons_succ]; exact rfl) ?_
    refine c_ifS ?_
    refine c_and ?_
    refine c_test ?_
    refine c_op ?_
    refine c_var (by exact rfl) ?_
    refine c_var (by exact rfl) ?_
    refine b_inS I r_a_names_here ?_
    refine c_bl ?_
    refine x_andD I h (fun h hn => ?_) fun b23 F H s1 I h => ?_
    · skip
      have sm20 : Same F F := Same.refl F
      refine c_test ?_
      refine c_op ?_
      refine c_op ?_
      refine c_c ?_
      refine c_cb ?_
      refine c_cons ?_
      refine c_var (by exact rfl) ?_
      refine c_nil ?_
      refine x_strI h fun h => ?_
      try generalize (toString e17) = v21 at h ⊢
      refine x_addS h fun h => ?_
      try generalize ((Str.ofString "y") ++ v21) = v22 at h ⊢
      refine c_var (by exact rfl) ?_
      refine b_ninS I r_a_names_here ?_
      refine c_bl ?_
      exact hn _ _ _ sm20 I h
    have r_a_names_here := RepB.mono s1 r_a_names_here
    have s := Same.trans s s1
    have sm19 := Same.trans sm19 s1
    refine x_if h (fun hc h => ?_) (fun hc h => ?_)
    · skip
      refine c_asg ?_
      refine c_op ?_
      refine c_c ?_
      refine c_cb ?_
      refine c_cons ?_
      refine c_var (by exact rfl) ?_
      refine c_nil ?_
      refine x_strI h fun h => ?_
      try generalize (toString e17) = v24 at h ⊢
      refine x_addS h fun h => ?_
      try generalize ((Str.ofString "y") ++ v24) = v25 at h ⊢
      refine c_name (by simp only [List.set_cons_zero, List.set_cons_succ]; exact rfl) ?_
      exact hn (v25) _ _ _ ⟨_, rfl, sm19, I⟩ h
    · skip
      refine c_next ?_
      exact hn (st15) _ _ _ ⟨_, rfl, sm19, I⟩ h
/-! Times_getitem_ -/
def sp_Times_getitem_ (K : PySem.W.Frag) : Sp := fun vs H Q _ => ∃ (F0 : Hp) (pp : Option Addr) (lk : Option Addr) (os : Os) (a_self : O_Times) (a_at : Str) (x_a_self : V), vs = [x_a_self, (V.str a_at)] ∧ Own K F0 H ⟨pp, lk⟩ os ∧ Rp.rep K F0 x_a_self a_self ∧ (p_Times_getitem_ a_self a_at).run (fun r => ∀ F1 H1 y, Same F0 F1 → Own K F1 H1 ⟨pp, lk⟩ os → Rp.rep K F1 y r → Q y H1) (fun _ => False)
theorem len_Times_getitem_ {K : PySem.W.Frag} : ∀ vs H Q E, sp_Times_getitem_ K vs H Q E → vs.length = 2 := by
  rintro vs H Q E ⟨_, _, _, _, _, _, _, rfl, _⟩; rfl
theorem cl_Times_getitem_ {K : PySem.W.Frag} {F0 H : Hp} {pp : Option Addr} {lk : Option Addr} {os : Os} {Q : VK} {E : XK} {a_self : O_Times} {a_at : Str} {x_a_self : V} (I : Own K F0 H ⟨pp, lk⟩ os) (r_a_self : Rp.rep K F0 x_a_self a_self) (h : (p_Times_getitem_ a_self a_at).run (fun r => ∀ F1 H1 y, Same F0 F1 → Own K F1 H1 ⟨pp, lk⟩ os → Rp.rep K F1 y r → Q y H1) (fun _ => False)) : sp_Times_getitem_ K ([x_a_self, (V.str a_at)] ++ []) H Q E := ⟨F0, pp, lk, os, a_self, a_at, x_a_self, rfl, I, r_a_self, h⟩
abbrev N_Times_getitem_ : List Str := [(Str.ofString "self"), (Str.ofString "at")]
theorem st_Times_getitem_ (v0 v1 : V) : start N_Times_getitem_ [v0, v1] = [some v0, some v1] := rfl
def t_Times_getitem_ (K : PySem.W.Frag) (E : XK) : TS := (tSeq (tIfS (tB (tDNotIn (tVar 1) (tFldC (He.ga K (Str.ofString "Times")) (tVar 0) (Str.ofString "_minutes")))) tNever tNext)
  (tRet (tDGet (tFldC (He.ga K (Str.ofString "Times")) (tVar 0) (Str.ofString "_minutes")) (tVar 1))))
set_option maxHeartbeats 4000000 in
theorem rd_Times_getitem_ {K : PySem.W.Frag} {vs : List V} {H : Hp} {Q : VK} {E : XK} (h : sp_Times_getitem_ K vs H Q E) : t_Times_getitem_ K E { nx := fun _ H1 => Q .non H1, rt := Q } (start N_Times_getitem_ vs) H := by
  obtain ⟨F0, pp, lk, os, a_self, a_at, x_a_self, rfl, I, r_a_self, h⟩ := h
  obtain ⟨F, eF⟩ : ∃ F, F = F0 := ⟨_, rfl⟩
  have s : Same F0 F := by rw [eF]; exact Same.refl _
  rw [← eF] at I
  rw [← eF] at r_a_self
  clear eF
  obtain ⟨QQ, hQ, h⟩ : ∃ QQ : Int → Prop, (∀ r, QQ r → ∀ F1 H1 y, Same F0 F1 → Own K F1 H1 ⟨pp, lk⟩ os → Rp.rep K F1 y r → Q y H1) ∧ (p_Times_getitem_ a_self a_at).run QQ (fun _ => False) := ⟨_, fun r h => h, h⟩
  unfold p_Times_getitem_ at h
  unfold t_Times_getitem_
  rw [st_Times_getitem_]
  refine c_seq ?_
  refine c_ifS ?_
  refine c_tB ?_
  refine c_dnin ?_
  refine c_var (by exact rfl) ?_
  refine c_fldC ?_
  refine c_var (by exact rfl) ?_
  obtain ⟨ao1, dxo1, fso1, xo1, exo1, qo1, lo1, rxo1⟩ := fld_Times__minutes r_a_self
  refine ⟨ao1, dxo1, fso1, _, exo1, I.ex _ _ qo1, lo1, ?_⟩
  refine x_din (k := a_at) I rxo1 rfl fun o eo => ?_
  rw [eo]
  refine c_bl ?_
  refine x_if h (fun hc h => ?_) (fun hc h => ?_)
  · skip
    exact h.elim
  · skip
    refine c_next ?_
    refine c_ret ?_
    refine c_dget ?_
    refine c_fldC ?_
    refine c_var (by exact rfl) ?_
    obtain ⟨ao2, dxo2, fso2, xo2, exo2, qo2, lo2, rxo2⟩ := fld_Times__minutes r_a_self
    refine ⟨ao2, dxo2, fso2, _, exo2, I.ex _ _ qo2, lo2, ?_⟩
    refine c_var (by exact rfl) ?_
    refine x_dget I rxo2 rfl h fun v3 xv3 rv3 h => ?_
    obtain rfl : xv3 = V.int v3 := rv3
    exact hQ _ h _ _ _ s I rfl
/-! Times_len_ -/
def sp_Times_len_ (K : PySem.W.Frag) : Sp := fun vs H Q _ => ∃ (F0 : Hp) (pp : Option Addr) (lk : Option Addr) (os : Os) (a_self : O_Times) (x_a_self : V), vs = [x_a_self] ∧ Own K F0 H ⟨pp, lk⟩ os ∧ Rp.rep K F0 x_a_self a_self ∧ (p_Times_len_ a_self).run (fun r => ∀ F1 H1 y, Same F0 F1 → Own K F1 H1 ⟨pp, lk⟩ os → Rp.rep K F1 y r → Q y H1) (fun _ => False)
theorem len_Times_len_ {K : PySem.W.Frag} : ∀ vs H Q E, sp_Times_len_ K vs H Q E → vs.length = 1 := by
  rintro vs H Q E ⟨_, _, _, _, _, _, rfl, _⟩; rfl
theorem cl_Times_len_ {K : PySem.W.Frag} {F0 H : Hp} {pp : Option Addr} {lk : Option Addr} {os : Os} {Q : VK} {E : XK} {a_self : O_Times} {x_a_self : V} (I : Own K F0 H ⟨pp, lk⟩ os) (r_a_self : Rp.rep K F0 x_a_self a_self) (h : (p_Times_len_ a_self).run (fun r => ∀ F1 H1 y, Same F0 F1 → Own K F1 H1 ⟨pp, lk⟩ os → Rp.rep K F1 y r → Q y H1) (fun _ => False)) : sp_Times_len_ K ([x_a_self] ++ []) H Q E := ⟨F0, pp, lk, os, a_self, x_a_self, rfl, I, r_a_self, h⟩
abbrev N_Times_len_ : List Str := [(Str.ofString "self")]
theorem st_Times_len_ (v0 : V) : start N_Times_len_ [v0] = [some v0] := rfl
def t_Times_len_ (K : PySem.W.Frag) (E : XK) : TS := (tRet (tCB (rLenQ K) (tCons (tFldC (He.ga K (Str.ofString "Times")) (tVar 0) (Str.ofString "_names")) tNil)))
set_option maxHeartbeats 4000000 in
theorem rd_Times_len_ {K : PySem.W.Frag} {vs : List V} {H : Hp} {Q : VK} {E : XK} (h : sp_Times_len_ K vs H Q E) : t_Times_len_ K E { nx := fun _ H1 => Q .non H1, rt := Q } (start N_Times_len_ vs) H := by
  obtain ⟨F0, pp, lk, os, a_self, x_a_self, rfl, I, r_a_self, h⟩ := h
  obtain ⟨F, eF⟩ : ∃ F, F = F0 := ⟨_, rfl⟩
  have s : Same F0 F := by rw [eF]; exact Same.refl _
  rw [← eF] at I
  rw [← eF] at r_a_self
  clear eF
  obtain ⟨QQ, hQ, h⟩ : ∃ QQ : Int → Prop, (∀ r, QQ r → ∀ F1 H1 y, Same F0 F1 → Own K F1 H1 ⟨pp, lk⟩ os → Rp.rep K F1 y r → Q y H1) ∧ (p_Times_len_ a_self).run QQ (fun _ => False) := ⟨_, fun r h => h, h⟩
  unfold p_Times_len_ at h
  unfold t_Times_len_
  rw [st_Times_len_]
  refine c_ret ?_
  refine c_cb ?_
  refine c_cons ?_
  refine c_fldC ?_
  refine c_var (by exact rfl) ?_
  obtain ⟨ao1, dxo1, fso1, xo1, exo1, qo1, lo1, rxo1⟩ := fld_Times__names r_a_self
  refine ⟨ao1, dxo1, fso1, _, exo1, I.ex _ _ qo1, lo1, ?_⟩
  refine c_nil ?_
  refine x_lenL I rxo1 ?_
  exact hQ _ h _ _ _ s I rfl
/-! Times_minutes -/
def sp_Times_minutes (K : PySem.W.Frag) : Sp := fun vs H Q _ => ∃ (F0 : Hp) (pp : Option Addr) (lk : Option Addr) (os : Os) (a_self : O_Times) (x_a_self : V), vs = [x_a_self] ∧ Own K F0 H ⟨pp, lk⟩ os ∧ Rp.rep K F0 x_a_self a_self ∧ (p_Times_minutes a_self).run (fun r => ∀ F1 H1 p xs, Same F0 F1 → Own K F1 H1 ⟨pp, lk⟩ ((p, .dK xs) :: os) → KReps K F1 xs r.l → Q (.ref p) H1) (fun _ => False)
theorem len_Times_minutes {K : PySem.W.Frag} : ∀ vs H Q E, sp_Times_minutes K vs H Q E → vs.length = 1 := by
  rintro vs H Q E ⟨_, _, _, _, _, _, rfl, _⟩; rfl
theorem cl_Times_minutes {K : PySem.W.Frag} {F0 H : Hp} {pp : Option Addr} {lk : Option Addr} {os : Os} {Q : VK} {E : XK} {a_self : O_Times} {x_a_self : V} (I : Own K F0 H ⟨pp, lk⟩ os) (r_a_self : Rp.rep K F0 x_a_self a_self) (h : (p_Times_minutes a_self).run (fun r => ∀ F1 H1 p xs, Same F0 F1 → Own K F1 H1 ⟨pp, lk⟩ ((p, .dK xs) :: os) → KReps K F1 xs r.l → Q (.ref p) H1) (fun _ => False)) : sp_Times_minutes K [x_a_self] H Q E := ⟨F0, pp, lk, os, a_self, x_a_self, rfl, I, r_a_self, h⟩
abbrev N_Times_minutes : List Str := [(Str.ofString "self")]
theorem st_Times_minutes (v0 : V) : start N_Times_minutes [v0] = [some v0] := rfl
def t_Times_minutes (K : PySem.W.Frag) (E : XK) : TS := (tRet (tCB rDictD (tCons (tFldC (He.ga K (Str.ofString "Times")) (tVar 0) (Str.ofString "_minutes")) tNil)))
set_option maxHeartbeats 4000000 in
theorem rd_Times_minutes {K : PySem.W.Frag} {vs : List V} {H : Hp} {Q : VK} {E : XK} (h : sp_Times_minutes K vs H Q E) : t_Times_minutes K E { nx := fun _ H1 => Q .non H1, rt := Q } (start N_Times_minutes vs) H := by
  obtain ⟨F0, pp, lk, os, a_self, x_a_self, rfl, I, r_a_self, h⟩ := h
  obtain ⟨F, eF⟩ : ∃ F, F = F0 := ⟨_, rfl⟩
  have s : Same F0 F := by rw [eF]; exact Same.refl _
  rw [← eF] at I
  rw [← eF] at r_a_self
  clear eF
  obtain ⟨QQ, hQ, h⟩ : ∃ QQ : (Dc Str Int) → Prop, (∀ r, QQ r → ∀ F1 H1 p xs, Same F0 F1 → Own K F1 H1 ⟨pp, lk⟩ ((p, .dK xs) :: os) → KReps K F1 xs r.l → Q (.ref p) H1) ∧ (p_Times_minutes a_self).run QQ (fun _ => False) := ⟨_, fun r h => h, h⟩
  unfold p_Times_minutes at h
  unfold t_Times_minutes
  rw [st_Times_minutes]
  refine c_ret ?_
  refine c_cb ?_
  refine c_cons ?_
  refine c_fldC ?_
  refine c_var (by exact rfl) ?_
  obtain ⟨ao1, dxo1, fso1, xo1, exo1, qo1, lo1, rxo1⟩ := fld_Times__minutes r_a_self
  refine ⟨ao1, dxo1, fso1, _, exo1, I.ex _ _ qo1, lo1, ?_⟩
  refine c_nil ?_
  refine x_dictO I rxo1 fun x2p xsx2 H I rx2 => ?_
  exact hQ _ h _ _ _ _ s I rx2
/-! Times_round_length -/
def sp_Times_round_length (K : PySem.W.Frag) : Sp := fun vs H Q _ => ∃ (F0 : Hp) (pp : Option Addr) (lk : Option Addr) (os : Os) (a_self : O_Times) (x_a_self : V), vs = [x_a_self] ∧ Own K F0 H ⟨pp, lk⟩ os ∧ Rp.rep K F0 x_a_self a_self ∧ (p_Times_round_length a_self).run (fun r => ∀ F1 H1 y, Same F0 F1 → Own K F1 H1 ⟨pp, lk⟩ os → Rp.rep K F1 y r → Q y H1) (fun _ => False)
theorem len_Times_round_length {K : PySem.W.Frag} : ∀ vs H Q E, sp_Times_round_length K vs H Q E → vs.length = 1 := by
  rintro vs H Q E ⟨_, _, _, _, _, _, rfl, _⟩; rfl
theorem cl_Times_round_length {K : PySem.W.Frag} {F0 H : Hp} {pp : Option Addr} {lk : Option Addr} {os : Os} {Q : VK} {E : XK} {a_self : O_Times} {x_a_self : V} (I : Own K F0 H ⟨pp, lk⟩ os) (r_a_self : Rp.rep K F0 x_a_self a_self) (h : (p_Times_round_length a_self).run (fun r => ∀ F1 H1 y, Same F0 F1 → Own K F1 H1 ⟨pp, lk⟩ os → Rp.rep K F1 y r → Q y H1) (fun _ => False)) : sp_Times_round_length K [x_a_self] H Q E := ⟨F0, pp, lk, os, a_self, x_a_self, rfl, I, r_a_self, h⟩
abbrev N_Times_round_length : List Str := [(Str.ofString "self")]
theorem st_Times_round_length (v0 : V) : start N_Times_round_length [v0] = [some v0] := rfl
def t_Times_round_length (K : PySem.W.Frag) (E : XK) : TS := (tRet (tFldC (He.ga K (Str.ofString "Times")) (tVar 0) (Str.ofString "_round")))
set_option maxHeartbeats 4000000 in
theorem rd_Times_round_length {K : PySem.W.Frag} {vs : List V} {H : Hp} {Q : VK} {E : XK} (h : sp_Times_round_length K vs H Q E) : t_Times_round_length K E { nx := fun _ H1 => Q .non H1, rt := Q } (start N_Times_round_length vs) H := by
  obtain ⟨F0, pp, lk, os, a_self, x_a_self, rfl, I, r_a_self, h⟩ := h
  obtain ⟨F, eF⟩ : ∃ F, F = F0 := ⟨_, rfl⟩
  have s : Same F0 F := by rw [eF]; exact Same.refl _
  rw [← eF] at I
  rw [← eF] at r_a_self
  clear eF
  obtain ⟨QQ, hQ, h⟩ : ∃ QQ : Int → Prop, (∀ r, QQ r → ∀ F1 H1 y, Same F0 F1 → Own K F1 H1 ⟨pp, lk⟩ os → Rp.rep K F1 y r → Q y H1) ∧ (p_Times_round_length a_self).run QQ (fun _ => False) := ⟨_, fun r h => h, h⟩
  unfold p_Times_round_length at h
  unfold t_Times_round_length
  rw [st_Times_round_length]
  refine c_ret ?_
  refine c_fldC ?_
  refine c_var (by exact rfl) ?_
  obtain ⟨ao1, dxo1, fso1, xo1, exo1, qo1, lo1, rxo1⟩ := fld_Times__round r_a_self
  obtain rfl : xo1 = V.int a_self.f_round := rxo1
  refine ⟨ao1, dxo1, fso1, _, exo1, I.ex _ _ qo1, lo1, ?_⟩
  exact hQ _ h _ _ _ s I rfl
/-! l_told -/
def sp_l_told (K : PySem.W.Frag) : Sp := fun vs H Q _ => ∃ (F0 : Hp) (pp : Option Addr) (lk : Option Addr) (os : Os) (a_times : O_Times) (a_length_here : Int) (a_due : (Dc Str Int)) (a_stranger_here : Str) (x_a_times : V) (x_a_due : V), vs = [x_a_times, (V.int a_length_here), x_a_due, (V.str a_stranger_here)] ∧ Own K F0 H ⟨pp, none⟩ os ∧ Rp.rep K F0 x_a_times a_times ∧ Rp.rep K F0 x_a_due a_due ∧ (p_l_told a_times a_length_here a_due a_stranger_here).run (fun r => ∀ F1 H1 y, Same F0 F1 → Own K F1 H1 ⟨pp, none⟩ os → Rp.rep K F1 y r → Q y H1) (fun _ => False)
theorem len_l_told {K : PySem.W.Frag} : ∀ vs H Q E, sp_l_told K vs H Q E → vs.length = 4 := by
  rintro vs H Q E ⟨_, _, _, _, _, _, _, _, _, _, rfl, _⟩; rfl
theorem cl_l_told {K : PySem.W.Frag} {F0 H : Hp} {pp : Option Addr} {lk : Option Addr} {os : Os} {Q : VK} {E : XK} {a_times : O_Times} {a_length_here : Int} {a_due : (Dc Str Int)} {a_stranger_here : Str} {x_a_times : V} {x_a_due : V} (I : Own K F0 H ⟨pp, none⟩ os) (r_a_times : Rp.rep K F0 x_a_times a_times) (r_a_due : Rp.rep K F0 x_a_due a_due) (h : (p_l_told a_times a_length_here a_due a_stranger_here).run (fun r => ∀ F1 H1 y, Same F0 F1 → Own K F1 H1 ⟨pp, none⟩ os → Rp.rep K F1 y r → Q y H1) (fun _ => False)) : sp_l_told K ([x_a_times, (V.int a_length_here), x_a_due, (V.str a_stranger_here)] ++ []) H Q E := ⟨F0, pp, lk, os, a_times, a_length_here, a_due, a_stranger_here, x_a_times, x_a_due, rfl, I, r_a_times, r_a_due, h⟩
abbrev N_l_told : List Str := [(Str.ofString "_law_times"), (Str.ofString "_law_length_here"), (Str.ofString "_law_due"), (Str.ofString "_law_stranger_here"), (Str.ofString "_law_name")]
theorem st_l_told (v0 v1 v2 v3 : V) : start N_l_told [v0, v1, v2, v3] = [some v0, some v1, some v2, some v3, none] := rfl
def t_l_told (K : PySem.W.Frag) (E : XK) : TS := (tSeq (tIfS (tOr (tNot (tB (tCall (sp_l_same K) [] E (tCons (tProp (He.ga K (Str.ofString "Times")) (sp_Times_round_length K) [] E0 (tVar 0)) (tCons (tVar 1) tNil))))) (tNot (tB (tCall (sp_l_same K) [] E (tCons (tProp (He.ga K (Str.ofString "Times")) (sp_Times_minutes K) [] E0 (tVar 0)) (tCons (tVar 2) tNil)))))) (tRet (tC (.bl false))) tNext)
  (tSeq (tIfS (tOr (tNot (tB (tCall (sp_l_same K) [] E (tCons (tCB (rLenO (He.ga K (Str.ofString "Times")) (sp_Times_len_ K) E) (tCons (tVar 0) tNil)) (tCons (tCB rLenDD (tCons (tVar 2) tNil)) tNil))))) (tOr (tNot (tB (tCall (sp_l_same K) [] E (tCons (tCB (rListO (He.ga K (Str.ofString "Times")) (Str.ofString "_names") (sp_Times_len_ K)) (tCons (tVar 0) tNil)) (tCons (tCB rListD (tCons (tVar 2) tNil)) tNil))))) (tTest (tOp (rInO K (He.ga K (Str.ofString "Times")) (Str.ofString "_names") false) (tVar 3) (tVar 0))))) (tRet (tC (.bl false))) tNext)
  (tSeq (tLock (tFor (iKeys (tVar 2)) (gName 4) (tIfS (tOr (tTest (tOp (rInO K (He.ga K (Str.ofString "Times")) (Str.ofString "_names") true) (tVar 4) (tVar 0))) (tNot (tB (tCall (sp_l_same K) [] E (tCons (tGetO (He.ga K (Str.ofString "Times")) (sp_Times_getitem_ K) E (tVar 0) (tVar 4)) (tCons (tDGet (tVar 2) (tVar 4)) tNil)))))) (tRet (tC (.bl false))) tNext)))
  (tRet (tC (.bl true))))))
set_option maxHeartbeats 4000000 in
theorem rd_l_told {K : PySem.W.Frag} {vs : List V} {H : Hp} {Q : VK} {E : XK} (h : sp_l_told K vs H Q E) : t_l_told K E { nx := fun _ H1 => Q .non H1, rt := Q } (start N_l_told vs) H := by
  obtain ⟨F0, pp, lk, os, a_times, a_length_here, a_due, a_stranger_here, x_a_times, x_a_due, rfl, I, r_a_times, r_a_due, h⟩ := h
  obtain ⟨F, eF⟩ : ∃ F, F = F0 := ⟨_, rfl⟩
  have s : Same F0 F := by rw [eF]; exact Same.refl _
  rw [← eF] at I
  rw [← eF] at r_a_times
  rw [← eF] at r_a_due
  clear eF
  obtain ⟨QQ, hQ, h⟩ : ∃ QQ : Bool → Prop, (∀ r, QQ r → ∀ F1 H1 y, Same F0 F1 → Own K F1 H1 ⟨pp, none⟩ os → Rp.rep K F1 y r → Q y H1) ∧ (p_l_told a_times a_length_here a_due a_stranger_here).run QQ (fun _ => False) := ⟨_, fun r h => h, h⟩
  unfold p_l_told at h
  unfold t_l_told
  rw [st_l_told]
  refine c_seq ?_
  refine c_ifS ?_
  refine c_or ?_
  refine c_not ?_
  refine c_tB ?_
  refine c_call ?_
  refine c_cons ?_
  refine c_prop ?_
  refine c_var (by exact rfl) ?_
  obtain ⟨ao1, dxo1, fso1, exo1, qo1⟩ := ob_Times r_a_times
  refine ⟨ao1, dxo1, fso1, exo1, I.ex _ _ qo1, ?_⟩
  rw [← exo1]
  refine cl_Times_round_length I r_a_times (D.call h (fun v2 h F H xv2 s1 I rv2 => ?_) (fun _ h => h))
  have r_a_times := Rp.mono s1 r_a_times
  have r_a_due := Rp.mono s1 r_a_due
  have s := Same.trans s s1
  obtain rfl : xv2 = V.int v2 := rv2
  refine c_cons ?_
  refine c_var (by exact rfl) ?_
  refine c_nil ?_
  refine same_call (a := v2) (b := a_length_here) (Rpv.f I rfl) (Rpv.f I rfl) (by decide) (fun z => absurd z (by decide)) h fun H sH h => ?_
  have I := I.grow sH
  refine c_bl ?_
  refine x_ifF rfl ?_
  refine c_not ?_
  refine c_tB ?_
  refine c_call ?_
  refine c_cons ?_
  refine c_prop ?_
  refine c_var (by exact rfl) ?_
  obtain ⟨ao3, dxo3, fso3, exo3, qo3⟩ := ob_Times r_a_times
  refine ⟨ao3, dxo3, fso3, exo3, I.ex _ _ qo3, ?_⟩
  rw [← exo3]
  refine cl_Times_minutes I r_a_times (D.call h (fun v4 h F H pv4 xsv4 s1 I rv4 => ?_) (fun _ h => h))
  have r_a_times := Rp.mono s1 r_a_times
  have r_a_due := Rp.mono s1 r_a_due
  have s := Same.trans s s1
  obtain ⟨F, s1, I, r1⟩ := x_frzD (d := v4) I rv4
  have r_a_times := Rp.mono s1 r_a_times
  have r_a_due := Rp.mono s1 r_a_due
  have s := Same.trans s s1
  have rx5 := r1
  refine c_cons ?_
  refine c_var (by exact rfl) ?_
  refine c_nil ?_
  refine same_call (a := v4) (b := a_due) (Rpv.f I rx5) (Rpv.f I r_a_due) (by decide) (fun _ => rfl) h fun H sH h => ?_
  have I := I.grow sH
  refine c_bl ?_
  refine x_ifF rfl ?_
  refine c_next ?_
  refine c_seq ?_
  refine c_ifS ?_
  refine c_or ?_
  refine c_not ?_
  refine c_tB ?_
  refine c_call ?_
  refine c_cons ?_
  refine c_cb ?_
  refine c_cons ?_
  refine c_var (by exact rfl) ?_
  refine c_nil ?_
  obtain ⟨ao6, dxo6, fso6, exo6, qo6⟩ := ob_Times r_a_times
  refine ⟨ao6, dxo6, fso6, by rw [exo6], I.ex _ _ qo6, ?_⟩
  rw [← exo6]
  refine cl_Times_len_ I r_a_times (D.call h (fun v7 h F H xv7 s1 I rv7 => ?_) (fun _ h => h))
  have r_a_times := Rp.mono s1 r_a_times
  have r_a_due := Rp.mono s1 r_a_due
  have s := Same.trans s s1
  obtain ⟨hv, h⟩ := h
  refine ⟨v7, rv7, hv.1, hv.2, ?_⟩
  refine c_cons ?_
  refine c_cb ?_
  refine c_cons ?_
  refine c_var (by exact rfl) ?_
  refine c_nil ?_
  refine x_lenD (d := a_due) (Rpv.f I r_a_due) ?_
  refine c_nil ?_
  refine same_call (a := v7) (b := (a_due.l.length : Int)) (Rpv.f I rfl) (Rpv.f I rfl) (by decide) (fun z => absurd z (by decide)) h fun H sH h => ?_
  have I := I.grow sH
  refine c_bl ?_
  refine x_ifF rfl ?_
  refine c_or ?_
  refine c_not ?_
  refine c_tB ?_
  refine c_call ?_
  refine c_cons ?_
  refine c_cb ?_
  refine c_cons ?_
  refine c_var (by exact rfl) ?_
  refine c_nil ?_
  obtain ⟨ao8, dxo8, fso8, vo8, exo8, qo8, lo8, rvo8⟩ := fld_Times__names r_a_times
  obtain ⟨po8, xso8, evo8, qlo8, rso8⟩ := rvo8
  refine ⟨ao8, dxo8, fso8, po8, xso8, by rw [exo8], I.ex _ _ qo8, by rw [← evo8]; exact lo8, I.ex _ _ qlo8, fun qo8p it nq ni hne => ?_⟩
  have I := (I.take (o := .lst []) nq).take (o := ItO po8 it 0) (by rw [upd_ne hne.symm]; exact ni)
  rw [← exo8]
  refine cl_Times_len_ I r_a_times (D.call h (fun v9 h F H xv9 s1 I rv9 => ?_) (fun _ h => h))
  have r_a_times := Rp.mono s1 r_a_times
  have r_a_due := Rp.mono s1 r_a_due
  have rso8 := Reps.mono s1 rso8
  have s := Same.trans s s1
  have qlo8 := s1 _ _ qlo8
  obtain ⟨hv, h⟩ := h
  refine ⟨v9, rv9, hv.1, hv.2, (I.own 1 _ _ rfl).2, (I.own 0 _ _ rfl).2, I.ex _ _ qlo8, ?_⟩
  have I := (Own.drop I).put (o' := .lst xso8) 0 rfl
  simp only [List.set_cons_zero] at I
  obtain ⟨F, s1, I, r1⟩ := x_frz I rso8
  have r_a_times := Rp.mono s1 r_a_times
  have r_a_due := Rp.mono s1 r_a_due
  have s := Same.trans s s1
  have rx10 := r1
  refine c_cons ?_
  refine c_cb ?_
  refine c_cons ?_
  refine c_var (by exact rfl) ?_
  refine c_nil ?_
  refine x_listDF I r_a_due fun x11p F H s1 I rx11 => ?_
  have r_a_times := Rp.mono s1 r_a_times
  have r_a_due := Rp.mono s1 r_a_due
  have rx10 := Rp.mono s1 rx10
  have s := Same.trans s s1
  refine c_nil ?_
  refine same_call (a := a_times.f_names) (b := (dkeys a_due)) (Rpv.f I rx10) (Rpv.f I rx11) (by decide) (fun z => absurd z (by decide)) h fun H sH h => ?_
  have I := I.grow sH
  refine c_bl ?_
  refine x_ifF rfl ?_
  refine c_test ?_
  refine c_op ?_
  refine c_var (by exact rfl) ?_
  refine c_var (by exact rfl) ?_
  obtain ⟨ao12, dxo12, fso12, vo12, exo12, qo12, lo12, rvo12⟩ := fld_Times__names r_a_times
  refine x_inOS I exo12 qo12 lo12 rvo12 ?_
  simp only [if_true, if_false, Bool.false_eq_true]
  refine c_bl ?_
  refine x_if h (fun hc h => ?_) (fun hc h => ?_)
  · skip
    refine c_ret ?_
    refine c_c ?_
    exact hQ _ h _ _ _ s I rfl
  · skip
    refine c_next ?_
    refine c_seq ?_
    refine x_lock I r_a_due fun dL13 kvL13 odL13 exL13 hFL13 rsL13 s1 I => ?_
    obtain ⟨F, eFL13⟩ : ∃ G, G = upd F dL13 (.frz odL13 (.dK kvL13)) := ⟨_, rfl⟩
    rw [← eFL13] at I s1 rsL13
    have fdL13 : F dL13 = some (.frz odL13 (.dK kvL13)) := by rw [eFL13]; exact upd_same
    have r_a_times := Rp.see s1 r_a_times
    have r_a_due := Rp.see s1 r_a_due
    have slL13 : Same F F := Same.refl F
    refine c_for ?_
    refine c_iKeys ?_
    refine c_var (by exact rfl) ?_
    refine x_iKeys (d := a_due)  I exL13 fdL13 rsL13 fun tw => ?_
    refine x_for (pp := ⟨pp, some dL13⟩) tw (fun (st14 : Unit) σ1 F1 H1 => ∃ (y15 : Option V), σ1 = [(some x_a_times), (some (V.int a_length_here)), (some x_a_due), (some (V.str a_stranger_here)), y15] ∧ Same F F1 ∧ Own K F1 H1 ⟨pp, some dL13⟩ (os)) h ⟨_, rfl, Same.refl _, I⟩ ?hOst14 ?hdst14 ?hsst14
    case hOst14 =>
      rintro st14 σ1 F1 H1 ⟨y15, rfl, s1, I⟩
      exact ⟨s1, _, trivial, I, fun F2 H2 s2 I2 => ⟨_, rfl, Same.trans s1 s2, I2⟩⟩
    case hdst14 =>
      rintro st14 σ1 F H ⟨y15, rfl, s1, I⟩ h
      have r_a_times := Rp.mono s1 r_a_times
      have r_a_due := Rp.mono s1 r_a_due
      have slL13 := Same.trans slL13 s1
      refine x_unlock I (by rw [eFL13] at slL13; exact slL13) hFL13 fun F e1 s1 I => ?_
      have r_a_times := Rp.see e1 r_a_times
      have r_a_due := Rp.see e1 r_a_due
      have s := Same.trans s s1
      refine c_ret ?_
      refine c_c ?_
      exact hQ _ h _ _ _ s I rfl
    case hsst14 =>
      rintro e16 st14 xe16 σ1 F H N nx17 ⟨y15, rfl, s1, I⟩ rxe16 h hn hb
      have r_a_times := Rp.mono s1 r_a_times
      have r_a_due := Rp.mono s1 r_a_due
      have slL13 := Same.trans slL13 s1
      have sm18 := s1
      obtain rfl : xe16 = V.str e16 := rxe16
      refine c_name (by simp only [List.set_cons_zero, List.set_cons_succ]; exact rfl) ?_
      refine c_ifS ?_
      refine c_or ?_
      refine c_test ?_
      refine c_op ?_
      refine c_var (by exact rfl) ?_
      refine c_var (by exact rfl) ?_
      obtain ⟨ao19, dxo19, fso19, vo19, exo19, qo19, lo19, rvo19⟩ := fld_Times__names r_a_times
      refine x_inOS I exo19 qo19 lo19 rvo19 ?_
      simp only [if_true, if_false, Bool.false_eq_true]
      refine c_bl ?_
      refine x_orD I h (fun h hn => ?_) fun b24 F H s1 I h => ?_
      · skip
        have sm20 : Same F F := Same.refl F
        refine c_not ?_
        refine c_tB ?_
        refine c_call ?_
        refine c_cons ?_
        refine c_getO ?_
        refine c_var (by exact rfl) ?_
        refine c_var (by exact rfl) ?_
        obtain ⟨ao21, dxo21, fso21, exo21, qo21⟩ := ob_Times r_a_times
        refine ⟨ao21, dxo21, fso21, exo21, I.ex _ _ qo21, ?_⟩
        rw [← exo21]
        refine cl_Times_getitem_ I r_a_times (D.call h (fun v22 h F H xv22 s1 I rv22 => ?_) (fun _ h => h))
        have r_a_times := Rp.mono s1 r_a_times
        have r_a_due := Rp.mono s1 r_a_due
        have slL13 := Same.trans slL13 s1
        have sm18 := Same.trans sm18 s1
        have sm20 := Same.trans sm20 s1
        obtain rfl : xv22 = V.int v22 := rv22
        refine c_cons ?_
        refine c_dget ?_
        refine c_var (by exact rfl) ?_
        refine c_var (by exact rfl) ?_
        refine x_dget I r_a_due rfl h fun v23 xv23 rv23 h => ?_
        obtain rfl : xv23 = V.int v23 := rv23
        refine c_nil ?_
        refine same_call (a := v22) (b := v23) (Rpv.f I rfl) (Rpv.f I rfl) (by decide) (fun z => absurd z (by decide)) h fun H sH h => ?_
        have I := I.grow sH
        refine c_bl ?_
        exact hn _ _ _ sm20 I h
      have r_a_times := Rp.mono s1 r_a_times
      have r_a_due := Rp.mono s1 r_a_due
      have slL13 := Same.trans slL13 s1
      have sm18 := Same.trans sm18 s1
      refine x_if h (fun hc h => ?_) (fun hc h => ?_)
      · skip
        refine c_ret ?_
        refine c_c ?_
        refine x_unlock I (by rw [eFL13] at slL13; exact slL13) hFL13 fun F e1 s1 I => ?_
        have r_a_times := Rp.see e1 r_a_times
        have r_a_due := Rp.see e1 r_a_due
        have s := Same.trans s s1
        exact hQ _ h _ _ _ s I rfl
      · skip
        refine c_next ?_
        exact hn () _ _ _ ⟨_, rfl, sm18, I⟩ h
/-! l_turned -/
def sp_l_turned (K : PySem.W.Frag) : Sp := fun vs H Q _ => ∃ (F0 : Hp) (pp : Option Addr) (lk : Option Addr) (os : Os) (a_due : (Dc Str Int)) (a_sign : Int) (a_k : Int) (a_length_here : Int) (x_a_due : V), vs = [x_a_due, (V.int a_sign), (V.int a_k), (V.int a_length_here)] ∧ Own K F0 H ⟨pp, none⟩ os ∧ Rp.rep K F0 x_a_due a_due ∧ (p_l_turned a_due a_sign a_k a_length_here).run (fun r => ∀ F1 H1 y, Same F0 F1 → Own K F1 H1 ⟨pp, none⟩ os → Rp.rep K F1 y r → Q y H1) (fun _ => False)
theorem len_l_turned {K : PySem.W.Frag} : ∀ vs H Q E, sp_l_turned K vs H Q E → vs.length = 4 := by
  rintro vs H Q E ⟨_, _, _, _, _, _, _, _, _, rfl, _⟩; rfl
theorem cl_l_turned {K : PySem.W.Frag} {F0 H : Hp} {pp : Option Addr} {lk : Option Addr} {os : Os} {Q : VK} {E : XK} {a_due : (Dc Str Int)} {a_sign : Int} {a_k : Int} {a_length_here : Int} {x_a_due : V} (I : Own K F0 H ⟨pp, none⟩ os) (r_a_due : Rp.rep K F0 x_a_due a_due) (h : (p_l_turned a_due a_sign a_k a_length_here).run (fun r => ∀ F1 H1 y, Same F0 F1 → Own K F1 H1 ⟨pp, none⟩ os → Rp.rep K F1 y r → Q y H1) (fun _ => False)) : sp_l_turned K ([x_a_due, (V.int a_sign), (V.int a_k), (V.int a_length_here)] ++ []) H Q E := ⟨F0, pp, lk, os, a_due, a_sign, a_k, a_length_here, x_a_due, rfl, I, r_a_due, h⟩
abbrev N_l_turned : List Str := [(Str.ofString "_law_due"), (Str.ofString "_law_sign"), (Str.ofString "_law_k"), (Str.ofString "_law_length_here"), (Str.ofString "_law_found"), (Str.ofString "_law_name")]
theorem st_l_turned (v0 v1 v2 v3 : V) : start N_l_turned [v0, v1, v2, v3] = [some v0, some v1, some v2, some v3, none, none] := rfl
def t_l_turned (K : PySem.W.Frag) (E : XK) : TS := (tSeq (tAsg tDNewK (gName 4))
  (tSeq (tLock (tFor (iKeys (tVar 0)) (gName 5) (sDPut (tVar 4) (tVar 5) (tOp rModI (tCB rIntI (tCons (tOp rAddI (tOp rMulI (tVar 1) (tDGet (tVar 0) (tVar 5))) (tVar 2)) tNil)) (tVar 3)))))
  (tRet (tVar 4))))
set_option maxHeartbeats 4000000 in
theorem rd_l_turned {K : PySem.W.Frag} {vs : List V} {H : Hp} {Q : VK} {E : XK} (h : sp_l_turned K vs H Q E) : t_l_turned K E { nx := fun _ H1 => Q .non H1, rt := Q } (start N_l_turned vs) H := by
  obtain ⟨F0, pp, lk, os, a_due, a_sign, a_k, a_length_here, x_a_due, rfl, I, r_a_due, h⟩ := h
  obtain ⟨F, eF⟩ : ∃ F, F = F0 := ⟨_, rfl⟩
  have s : Same F0 F := by rw [eF]; exact Same.refl _
  rw [← eF] at I
  rw [← eF] at r_a_due
  clear eF
  obtain ⟨QQ, hQ, h⟩ : ∃ QQ : (Dc Str Int) → Prop, (∀ r, QQ r → ∀ F1 H1 y, Same F0 F1 → Own K F1 H1 ⟨pp, none⟩ os → Rp.rep K F1 y r → Q y H1) ∧ (p_l_turned a_due a_sign a_k a_length_here).run QQ (fun _ => False) := ⟨_, fun r h => h, h⟩
  unfold p_l_turned at h
  unfold t_l_turned
  rw [st_l_turned]
  refine c_seq ?_
  refine c_asg ?_
  refine c_dnew ?_
  intro p1 np
  have I := I.take (o := .dK []) np
  have rp1 : KReps K F [] (⟨[]⟩ : (Dc Str Int)).l := .nil
  refine c_name (by simp only [List.set_cons_zero, List.set_cons_succ]; exact rfl) ?_
  refine c_seq ?_
  refine x_lock I r_a_due fun dL2 kvL2 odL2 exL2 hFL2 rsL2 s1 I => ?_
  obtain ⟨F, eFL2⟩ : ∃ G, G = upd F dL2 (.frz odL2 (.dK kvL2)) := ⟨_, rfl⟩
  rw [← eFL2] at I s1 rsL2
  have fdL2 : F dL2 = some (.frz odL2 (.dK kvL2)) := by rw [eFL2]; exact upd_same
  have r_a_due := Rp.see s1 r_a_due
  have rp1 := KReps.see s1 rp1
  have slL2 : Same F F := Same.refl F
  refine c_for ?_
  refine c_iKeys ?_
  refine c_var (by exact rfl) ?_
  refine x_iKeys (d := a_due)  I exL2 fdL2 rsL2 fun tw => ?_
  refine x_for (pp := ⟨pp, some dL2⟩) tw (fun (st3 : (Dc Str Int)) σ1 F1 H1 => ∃ (xs4 : List (Key × V)) (y5 : Option V), σ1 = [(some x_a_due), (some (V.int a_sign)), (some (V.int a_k)), (some (V.int a_length_here)), (some (V.ref p1)), y5] ∧ Same F F1 ∧ Own K F1 H1 ⟨pp, some dL2⟩ ((p1, HO.dK xs4) :: os) ∧ KReps K F1 xs4 st3.l) h ⟨_, _, rfl, Same.refl _, I, rp1⟩ ?hOst3 ?hdst3 ?hsst3
  case hOst3 =>
    rintro st3 σ1 F1 H1 ⟨xs4, y5, rfl, s1, I, rp1⟩
    exact ⟨s1, _, trivial, I, fun F2 H2 s2 I2 => ⟨_, _, rfl, Same.trans s1 s2, I2, KReps.mono s2 rp1⟩⟩
  case hdst3 =>
    rintro st3 σ1 F H ⟨xs4, y5, rfl, s1, I, rp1⟩ h
    have r_a_due := Rp.mono s1 r_a_due
    have slL2 := Same.trans slL2 s1
    refine x_unlock I (by rw [eFL2] at slL2; exact slL2) hFL2 fun F e1 s1 I => ?_
    have r_a_due := Rp.see e1 r_a_due
    have rp1 := KReps.see e1 rp1
    have s := Same.trans s s1
    refine c_ret ?_
    refine c_var (by exact rfl) ?_
    obtain ⟨F, s1, I, r1⟩ := x_frzD (d := st3) I rp1
    have rp1 := KReps.mono s1 rp1
    have s := Same.trans s s1
    have rx6 := r1
    exact hQ _ h _ _ _ s I rx6
  case hsst3 =>
    rintro e7 st3 xe7 σ1 F H N nx8 ⟨xs4, y5, rfl, s1, I, rp1⟩ rxe7 h hn hb
    have r_a_due := Rp.mono s1 r_a_due
    have slL2 := Same.trans slL2 s1
    have sm9 := s1
    obtain rfl : xe7 = V.str e7 := rxe7
    refine c_name (by simp only [List.set_cons_zero, List.set_cons_succ]; exact rfl) ?_
    refine c_dput ?_
    refine c_op ?_
    refine c_cb ?_
    refine c_cons ?_
    refine c_op ?_
    refine c_op ?_
    refine c_var (by exact rfl) ?_
    refine c_dget ?_
    refine c_var (by exact rfl) ?_
    refine c_var (by exact rfl) ?_
    refine x_dget I r_a_due rfl h fun v10 xv10 rv10 h => ?_
    obtain rfl : xv10 = V.int v10 := rv10
    refine x_mulI h fun h => ?_
    try generalize (a_sign * v10) = v11 at h ⊢
    refine c_var (by exact rfl) ?_
    refine v_addI ?_
    refine c_nil ?_
    refine v_intI ?_
    refine c_var (by exact rfl) ?_
    refine x_modI h fun h => ?_
    try generalize ((v11 + a_k) % a_length_here) = v12 at h ⊢
    refine c_var (by exact rfl) ?_
    refine c_var (by exact rfl) ?_
    refine x_dput I 0 rfl rp1 rfl rfl h fun kv13 kv13p H I rp1 h => ?_
    simp only [List.set_cons_zero, List.set_cons_succ] at I
    exact hn (kv13p) _ _ _ ⟨_, _, rfl, sm9, I, rp1⟩ h
/-! is_name -/
def sp_is_name (K : PySem.W.Frag) : Sp := fun vs H Q _ => ∃ (F0 : Hp) (pp : Option Addr) (lk : Option Addr) (os : Os) (a_text : Str), vs = [(V.str a_text)] ∧ Own K F0 H ⟨pp, lk⟩ os ∧ (p_is_name a_text).run (fun r => ∀ F1 H1 y, Same F0 F1 → Own K F1 H1 ⟨pp, lk⟩ os → Rp.rep K F1 y r → Q y H1) (fun _ => False)
theorem len_is_name {K : PySem.W.Frag} : ∀ vs H Q E, sp_is_name K vs H Q E → vs.length = 1 := by
  rintro vs H Q E ⟨_, _, _, _, _, rfl, _⟩; rfl
theorem cl_is_name {K : PySem.W.Frag} {F0 H : Hp} {pp : Option Addr} {lk : Option Addr} {os : Os} {Q : VK} {E : XK} {a_text : Str} (I : Own K F0 H ⟨pp, lk⟩ os) (h : (p_is_name a_text).run (fun r => ∀ F1 H1 y, Same F0 F1 → Own K F1 H1 ⟨pp, lk⟩ os → Rp.rep K F1 y r → Q y H1) (fun _ => False)) : sp_is_name K ([(V.str a_text)] ++ []) H Q E := ⟨F0, pp, lk, os, a_text, rfl, I, h⟩
abbrev N_is_name : List Str := [(Str.ofString "text"), (Str.ofString "char")]
theorem st_is_name (v0 : V) : start N_is_name [v0] = [some v0, none] := rfl
def t_is_name (K : PySem.W.Frag) (E : XK) : TS := (tSeq (tIfS (tOr (tNot (tTest (tChain rLeI rLeI (tC (.int 1)) (tCB rLenS (tCons (tVar 0) tNil)) (tC (.int 8))))) (tTest (tOp rNotInC (tOp rIxS (tVar 0) (tC (.int 0))) (tC (.str (Str.ofString "abcdefghijklmnopqrstuvwxyz")))))) (tRet (tC (.bl false))) tNext)
  (tSeq (tFor (iStr (tVar 0)) (gName 1) (tIfS (tAnd (tTest (tOp rNotInC (tVar 1) (tC (.str (Str.ofString "abcdefghijklmnopqrstuvwxyz"))))) (tTest (tOp rNotInC (tVar 1) (tC (.str (Str.ofString "0123456789")))))) (tRet (tC (.bl false))) tNext))
  (tRet (tC (.bl true)))))
set_option maxHeartbeats 4000000 in
theorem rd_is_name {K : PySem.W.Frag} {vs : List V} {H : Hp} {Q : VK} {E : XK} (h : sp_is_name K vs H Q E) : t_is_name K E { nx := fun _ H1 => Q .non H1, rt := Q } (start N_is_name vs) H := by
  obtain ⟨F0, pp, lk, os, a_text, rfl, I, h⟩ := h
  obtain ⟨F, eF⟩ : ∃ F, F = F0 := ⟨_, rfl⟩
  have s : Same F0 F := by rw [eF]; exact Same.refl _
  rw [← eF] at I
  clear eF
  obtain ⟨QQ, hQ, h⟩ : ∃ QQ : Bool → Prop, (∀ r, QQ r → ∀ F1 H1 y, Same F0 F1 → Own K F1 H1 ⟨pp, lk⟩ os → Rp.rep K F1 y r → Q y H1) ∧ (p_is_name a_text).run QQ (fun _ => False) := ⟨_, fun r h => h, h⟩
  unfold p_is_name at h
  unfold t_is_name
  rw [st_is_name]
  refine c_seq ?_
  refine c_ifS ?_
  refine c_or ?_
  refine c_not ?_
  refine c_test ?_
  refine c_chain ?_
  refine c_c ?_
  refine c_cb ?_
  refine c_cons ?_
  refine c_var (by exact rfl) ?_
  refine c_nil ?_
  refine x_lenS h fun h => ?_
  try generalize (a_text.length : Int) = v1 at h ⊢
  refine v_leI ?_
  refine c_bl ?_
  refine x_chain (b2 := (decide (v1 ≤ (8 : Int)))) (fun hc q => ?_) ?_
  · skip
    refine c_c ?_
    refine v_leI ?_
    exact q
  refine c_bl ?_
  refine x_orD I h (fun h hn => ?_) fun b5 F H s1 I h => ?_
  · skip
    have sm2 : Same F F := Same.refl F
    refine c_test ?_
    refine c_op ?_
    refine c_op ?_
    refine c_var (by exact rfl) ?_
    refine c_c ?_
    refine x_ixS h fun c4 h => ?_
    try generalize (⟨#[c4]⟩ : Str) = v3 at h ⊢
    refine c_c ?_
    obtain ⟨hsg, h⟩ := h
    refine x_ninC hsg ?_
    refine c_bl ?_
    exact hn _ _ _ sm2 I h
  have s := Same.trans s s1
  refine x_if h (fun hc h => ?_) (fun hc h => ?_)
  · skip
    refine c_ret ?_
    refine c_c ?_
    exact hQ _ h _ _ _ s I rfl
  · skip
    refine c_next ?_
    refine c_seq ?_
    refine c_for ?_
    refine c_iStr ?_
    refine c_var (by exact rfl) ?_
    refine x_iStr (F := F) (K := K) fun tw => ?_
    refine x_for (pp := ⟨pp, lk⟩) tw (fun (st6 : Unit) σ1 F1 H1 => ∃ (y7 : Option V), σ1 = [(some (V.str a_text)), y7] ∧ Same F F1 ∧ Own K F1 H1 ⟨pp, lk⟩ (os)) h ⟨_, rfl, Same.refl _, I⟩ ?hOst6 ?hdst6 ?hsst6
    case hOst6 =>
      rintro st6 σ1 F1 H1 ⟨y7, rfl, s1, I⟩
      exact ⟨s1, _, trivial, I, fun F2 H2 s2 I2 => ⟨_, rfl, Same.trans s1 s2, I2⟩⟩
    case hdst6 =>
      rintro st6 σ1 F H ⟨y7, rfl, s1, I⟩ h
      have s := Same.trans s s1
      refine c_ret ?_
      refine c_c ?_
      exact hQ _ h _ _ _ s I rfl
    case hsst6 =>
      rintro e8 st6 xe8 σ1 F H N nx9 ⟨y7, rfl, s1, I⟩ rxe8 h hn hb
      have s := Same.trans s s1
      have sm10 := s1
      obtain rfl : xe8 = V.str e8 := rxe8
      refine c_name (by simp only [List.set_cons_zero, List.set_cons_succ]; exact rfl) ?_
      refine c_ifS ?_
      refine c_and ?_
      refine c_test ?_
      refine c_op ?_
      refine c_var (by exact rfl) ?_
      refine c_c ?_
      obtain ⟨hsg, h⟩ := h
      refine x_ninC hsg ?_
      refine c_bl ?_
      refine x_andD I h (fun h hn => ?_) fun b12 F H s1 I h => ?_
      · skip
        have sm11 : Same F F := Same.refl F
        refine c_test ?_
        refine c_op ?_
        refine c_var (by exact rfl) ?_
        refine c_c ?_
        obtain ⟨hsg, h⟩ := h
        refine x_ninC hsg ?_
        refine c_bl ?_
        exact hn _ _ _ sm11 I h
      have s := Same.trans s s1
      have sm10 := Same.trans sm10 s1
      refine x_if h (fun hc h => ?_) (fun hc h => ?_)
      · skip
        refine c_ret ?_
        refine c_c ?_
        exact hQ _ h _ _ _ s I rfl
      · skip
        refine c_next ?_
        exact hn () _ _ _ ⟨_, rfl, sm10, I⟩ h
/-! check_name -/
def sp_check_name (K : PySem.W.Frag) : Sp := fun vs H Q _ => ∃ (F0 : Hp) (pp : Option Addr) (lk : Option Addr) (os : Os) (a_name : Str), vs = [(V.str a_name)] ∧ Own K F0 H ⟨pp, lk⟩ os ∧ (p_check_name a_name).run (fun r => ∀ F1 H1 y, Same F0 F1 → Own K F1 H1 ⟨pp, lk⟩ os → Rp.rep K F1 y r → Q y H1) (fun _ => False)
theorem len_check_name {K : PySem.W.Frag} : ∀ vs H Q E, sp_check_name K vs H Q E → vs.length = 1 := by
  rintro vs H Q E ⟨_, _, _, _, _, rfl, _⟩; rfl
theorem cl_check_name {K : PySem.W.Frag} {F0 H : Hp} {pp : Option Addr} {lk : Option Addr} {os : Os} {Q : VK} {E : XK} {a_name : Str} (I : Own K F0 H ⟨pp, lk⟩ os) (h : (p_check_name a_name).run (fun r => ∀ F1 H1 y, Same F0 F1 → Own K F1 H1 ⟨pp, lk⟩ os → Rp.rep K F1 y r → Q y H1) (fun _ => False)) : sp_check_name K ([(V.str a_name)] ++ []) H Q E := ⟨F0, pp, lk, os, a_name, rfl, I, h⟩
abbrev N_check_name : List Str := [(Str.ofString "name")]
theorem st_check_name (v0 : V) : start N_check_name [v0] = [some v0] := rfl
def t_check_name (K : PySem.W.Frag) (E : XK) : TS := (tIfS (tNot (tB (tCall (sp_is_name K) [] E (tCons (tVar 0) tNil)))) tNever tNext)
set_option maxHeartbeats 4000000 in
theorem rd_check_name {K : PySem.W.Frag} {vs : List V} {H : Hp} {Q : VK} {E : XK} (h : sp_check_name K vs H Q E) : t_check_name K E { nx := fun _ H1 => Q .non H1, rt := Q } (start N_check_name vs) H := by
  obtain ⟨F0, pp, lk, os, a_name, rfl, I, h⟩ := h
  obtain ⟨F, eF⟩ : ∃ F, F = F0 := ⟨_, rfl⟩
  have s : Same F0 F := by rw [eF]; exact Same.refl _
  rw [← eF] at I
  clear eF
  obtain ⟨QQ, hQ, h⟩ : ∃ QQ : Unit → Prop, (∀ r, QQ r → ∀ F1 H1 y, Same F0 F1 → Own K F1 H1 ⟨pp, lk⟩ os → Rp.rep K F1 y r → Q y H1) ∧ (p_check_name a_name).run QQ (fun _ => False) := ⟨_, fun r h => h, h⟩
  unfold p_check_name at h
  unfold t_check_name
  rw [st_check_name]
  refine c_ifS ?_
  refine c_not ?_
  refine c_tB ?_
  refine c_call ?_
  refine c_cons ?_
  refine c_var (by exact rfl) ?_
  refine c_nil ?_
  refine cl_is_name I (D.call h (fun v1 h F H xv1 s1 I rv1 => ?_) (fun _ h => h))
  have s := Same.trans s s1
  obtain rfl : xv1 = V.bl v1 := rv1
  refine c_bl ?_
  refine x_if h (fun hc h => ?_) (fun hc h => ?_)
  · skip
    exact h.elim
  · skip
    refine c_next ?_
    exact hQ _ h _ _ _ s I rfl
/-! check_number -/
def sp_check_number (K : PySem.W.Frag) : Sp := fun vs H Q _ => ∃ (F0 : Hp) (pp : Option Addr) (lk : Option Addr) (os : Os) (a_number : Int) (a_low : Int) (a_high : Int), vs = [(V.int a_number), (V.int a_low), (V.int a_high)] ∧ Own K F0 H ⟨pp, lk⟩ os ∧ (p_check_number a_number a_low a_high).run (fun r => ∀ F1 H1 y, Same F0 F1 → Own K F1 H1 ⟨pp, lk⟩ os → Rp.rep K F1 y r → Q y H1) (fun _ => False)
theorem len_check_number {K : PySem.W.Frag} : ∀ vs H Q E, sp_check_number K vs H Q E → vs.length = 3 := by
  rintro vs H Q E ⟨_, _, _, _, _, _, _, rfl, _⟩; rfl
theorem cl_check_number {K : PySem.W.Frag} {F0 H : Hp} {pp : Option Addr} {lk : Option Addr} {os : Os} {Q : VK} {E : XK} {a_number : Int} {a_low : Int} {a_high : Int} (I : Own K F0 H ⟨pp, lk⟩ os) (h : (p_check_number a_number a_low a_high).run (fun r => ∀ F1 H1 y, Same F0 F1 → Own K F1 H1 ⟨pp, lk⟩ os → Rp.rep K F1 y r → Q y H1) (fun _ => False)) : sp_check_number K ([(V.int a_number), (V.int a_low), (V.int a_high)] ++ []) H Q E := ⟨F0, pp, lk, os, a_number, a_low, a_high, rfl, I, h⟩
abbrev N_check_number : List Str := [(Str.ofString "number"), (Str.ofString "low"), (Str.ofString "high")]
theorem st_check_number (v0 v1 v2 : V) : start N_check_number [v0, v1, v2] = [some v0, some v1, some v2] := rfl
def t_check_number (K : PySem.W.Frag) (E : XK) : TS := (tIfS (tNot (tTest (tChain rLeI rLeI (tVar 1) (tVar 0) (tVar 2)))) tNever tNext)
set_option maxHeartbeats 4000000 in
theorem rd_check_number {K : PySem.W.Frag} {vs : List V} {H : Hp} {Q : VK} {E : XK} (h : sp_check_number K vs H Q E) : t_check_number K E { nx := fun _ H1 => Q .non H1, rt := Q } (start N_check_number vs) H := by
  obtain ⟨F0, pp, lk, os, a_number, a_low, a_high, rfl, I, h⟩ := h
  obtain ⟨F, eF⟩ : ∃ F, F = F0 := ⟨_, rfl⟩
  have s : Same F0 F := by rw [eF]; exact Same.refl _
  rw [← eF] at I
  clear eF
  obtain ⟨QQ, hQ, h⟩ : ∃ QQ : Unit → Prop, (∀ r, QQ r → ∀ F1 H1 y, Same F0 F1 → Own K F1 H1 ⟨pp, lk⟩ os → Rp.rep K F1 y r → Q y H1) ∧ (p_check_number a_number a_low a_high).run QQ (fun _ => False) := ⟨_, fun r h => h, h⟩
  unfold p_check_number at h
  unfold t_check_number
  rw [st_check_number]
  refine c_ifS ?_
  refine c_not ?_
  refine c_test ?_
  refine c_chain ?_
  refine c_var (by exact rfl) ?_
  refine c_var (by exact rfl) ?_
  refine v_leI ?_
  refine c_bl ?_
  refine x_chain (b2 := (decide (a_number ≤ a_high))) (fun hc q => ?_) ?_
  · skip
    refine c_var (by exact rfl) ?_
    refine v_leI ?_
    exact q
  refine c_bl ?_
  refine x_if h (fun hc h => ?_) (fun hc h => ?_)
  · skip
    exact h.elim
  · skip
    refine c_next ?_
    exact hQ _ h _ _ _ s I rfl
/-! Times_init_ -/
abbrev N_Times_init_ : List Str := [(Str.ofString "self"), (Str.ofString "round_length"), (Str.ofString "minutes"), (Str.ofString "name"), (Str.ofString "minute")]
theorem st_Times_init_ (v0 v1 v2 : V) : start N_Times_init_ [v0, v1, v2] = [some v0, some v1, some v2, none, none] := rfl
def t_Times_init_ (K : PySem.W.Frag) (E : XK) : TS := (tSeq (tDrop (tCall (sp_check_number K) [] E (tCons (tVar 1) (tCons (tC (.int 3)) (tCons (tC (.int 120)) tNil)))))
  (tSeq (tLock (tFor (iItems (tVar 2)) (gTup K 2 (gCons (gName 3) (gCons (gName 4) gNil))) (tSeq (tDrop (tCall (sp_check_name K) [] E (tCons (tVar 3) tNil)))
  (tDrop (tCall (sp_check_number K) [] E (tCons (tVar 4) (tCons (tC (.int 0)) (tCons (tOp rSubI (tVar 1) (tC (.int 1))) tNil))))))))
  (tSeq (sFldC (He.ga K (Str.ofString "Times")) (tVar 0) (tVar 1) (Str.ofString "_round"))
  (tSeq (sFldC (He.ga K (Str.ofString "Times")) (tVar 0) (tCB rDictD (tCons (tVar 2) tNil)) (Str.ofString "_minutes"))
  (sFldC (He.ga K (Str.ofString "Times")) (tVar 0) (tCB rListD (tCons (tVar 2) tNil)) (Str.ofString "_names"))))))
def spF_Times_init_ (K : PySem.W.Frag) : Sp := fun vs H Q _ => ∃ (F0 : Hp) (pp : Option Addr) (lk : Option Addr) (os : Os) (a_round_length : Int) (a_minutes : (Dc Str Int)) (xself : Addr) (dxself : Addr) (x_a_minutes : V), vs = [V.ref xself, (V.int a_round_length), x_a_minutes] ∧ Own K F0 H ⟨pp, none⟩ ((xself, HO.ins (He.ga K (Str.ofString "Times")) dxself []) :: os) ∧ Rp.rep K F0 x_a_minutes a_minutes ∧ (p_Times_init_ a_round_length a_minutes).run (fun r => ∀ F1 H1 fs, Same F0 F1 → Own K F1 H1 ⟨pp, none⟩ ((xself, HO.ins (He.ga K (Str.ofString "Times")) dxself fs) :: os) → FsR_Times K F1 fs r → Q .non H1) (fun _ => False)
theorem lenF_Times_init_ {K : PySem.W.Frag} : ∀ vs H Q E, spF_Times_init_ K vs H Q E → vs.length = 3 := by
  rintro vs H Q E ⟨_, _, _, _, _, _, _, _, _, rfl, _⟩; rfl
def spO_Times_init_ (K : PySem.W.Frag) : Sp := fun vs H Q _ => ∃ (F0 : Hp) (pp : Option Addr) (lk : Option Addr) (os : Os) (a_round_length : Int) (a_minutes : (Dc Str Int)) (xself : Addr) (dxself : Addr) (pl : Addr) (kvl : List (Key × V)), vs = [V.ref xself, (V.int a_round_length), (V.ref pl)] ∧ Own K F0 H ⟨pp, none⟩ ((xself, HO.ins (He.ga K (Str.ofString "Times")) dxself []) :: (pl, HO.dK kvl) :: os) ∧ KReps K F0 kvl a_minutes.l ∧ (p_Times_init_ a_round_length a_minutes).run (fun r => ∀ F1 H1 fs, Same F0 F1 → Own K F1 H1 ⟨pp, none⟩ ((xself, HO.ins (He.ga K (Str.ofString "Times")) dxself fs) :: (pl, HO.dK kvl) :: os) → FsR_Times K F1 fs r → Q .non H1) (fun _ => False)
theorem lenO_Times_init_ {K : PySem.W.Frag} : ∀ vs H Q E, spO_Times_init_ K vs H Q E → vs.length = 3 := by
  rintro vs H Q E ⟨_, _, _, _, _, _, _, _, _, _, rfl, _⟩; rfl
def sp_Times_init_ (K : PySem.W.Frag) : Sp := fun vs H Q E => spF_Times_init_ K vs H Q E ∨ spO_Times_init_ K vs H Q E
theorem len_Times_init_ {K : PySem.W.Frag} : ∀ vs H Q E, sp_Times_init_ K vs H Q E → vs.length = 3 := fun _ _ _ _ h => h.elim (lenF_Times_init_ _ _ _ _) (lenO_Times_init_ _ _ _ _)
theorem cl_Times_init_ {K : PySem.W.Frag} {F0 H : Hp} {pp : Option Addr} {lk : Option Addr} {os : Os} {Q : VK} {E : XK} {a_round_length : Int} {a_minutes : (Dc Str Int)} {xself : Addr} {dxself : Addr} {x_a_minutes : V} (I : Own K F0 H ⟨pp, none⟩ ((xself, HO.ins (He.ga K (Str.ofString "Times")) dxself []) :: os)) (r_a_minutes : Rp.rep K F0 x_a_minutes a_minutes) (h : (p_Times_init_ a_round_length a_minutes).run (fun r => ∀ F1 H1 fs, Same F0 F1 → Own K F1 H1 ⟨pp, none⟩ ((xself, HO.ins (He.ga K (Str.ofString "Times")) dxself fs) :: os) → FsR_Times K F1 fs r → Q .non H1) (fun _ => False)) : sp_Times_init_ K (V.ref xself :: ([(V.int a_round_length), x_a_minutes] ++ [])) H Q E := .inl (⟨F0, pp, lk, os, a_round_length, a_minutes, xself, dxself, x_a_minutes, rfl, I, r_a_minutes, h⟩)
theorem clO_Times_init_ {K : PySem.W.Frag} {F0 H : Hp} {pp : Option Addr} {lk : Option Addr} {os : Os} {Q : VK} {E : XK} {a_round_length : Int} {a_minutes : (Dc Str Int)} {xself : Addr} {dxself : Addr} {pl : Addr} {kvl : List (Key × V)} (I : Own K F0 H ⟨pp, none⟩ ((xself, HO.ins (He.ga K (Str.ofString "Times")) dxself []) :: (pl, HO.dK kvl) :: os)) (r_a_minutes : KReps K F0 kvl a_minutes.l) (h : (p_Times_init_ a_round_length a_minutes).run (fun r => ∀ F1 H1 fs, Same F0 F1 → Own K F1 H1 ⟨pp, none⟩ ((xself, HO.ins (He.ga K (Str.ofString "Times")) dxself fs) :: (pl, HO.dK kvl) :: os) → FsR_Times K F1 fs r → Q .non H1) (fun _ => False)) : sp_Times_init_ K (V.ref xself :: ([(V.int a_round_length), (V.ref pl)] ++ [])) H Q E := .inr (⟨F0, pp, lk, os, a_round_length, a_minutes, xself, dxself, pl, kvl, rfl, I, r_a_minutes, h⟩)
set_option maxHeartbeats 4000000 in
theorem rdF_Times_init_ {K : PySem.W.Frag} {vs : List V} {H : Hp} {Q : VK} {E : XK} (h : spF_Times_init_ K vs H Q E) : t_Times_init_ K E { nx := fun _ H1 => Q .non H1, rt := Q } (start N_Times_init_ vs) H := by
  obtain ⟨F0, pp, lk, os, a_round_length, a_minutes, xself, dxself, x_a_minutes, rfl, I, r_a_minutes, h⟩ := h
  obtain ⟨F, eF⟩ : ∃ F, F = F0 := ⟨_, rfl⟩
  have s : Same F0 F := by rw [eF]; exact Same.refl _
  rw [← eF] at I
  rw [← eF] at r_a_minutes
  clear eF
  obtain ⟨QQ, hQ, h⟩ : ∃ QQ : O_Times → Prop, (∀ r, QQ r → ∀ F1 H1 fs, Same F0 F1 → Own K F1 H1 ⟨pp, none⟩ ((xself, HO.ins (He.ga K (Str.ofString "Times")) dxself fs) :: os) → FsR_Times K F1 fs r → Q .non H1) ∧ (p_Times_init_ a_round_length a_minutes).run QQ (fun _ => False) := ⟨_, fun r h => h, h⟩
  unfold p_Times_init_ at h
  unfold t_Times_init_
  rw [st_Times_init_]
  refine c_seq ?_
  refine c_drop ?_
  refine c_call ?_
  refine c_cons ?_
  refine c_var (by exact rfl) ?_
  refine c_cons ?_
  refine c_c ?_
  refine c_cons ?_
  refine c_c ?_
  refine c_nil ?_
  refine cl_check_number I (D.call h (fun v1 h F H xv1 s1 I rv1 => ?_) (fun _ h => h))
  have r_a_minutes := Rp.mono s1 r_a_minutes
  have s := Same.trans s s1
  obtain rfl : xv1 = V.non := rv1
  refine c_seq ?_
  refine x_lock I r_a_minutes fun dL2 kvL2 odL2 exL2 hFL2 rsL2 s1 I => ?_
  obtain ⟨F, eFL2⟩ : ∃ G, G = upd F dL2 (.frz odL2 (.dK kvL2)) := ⟨_, rfl⟩
  rw [← eFL2] at I s1 rsL2
  have fdL2 : F dL2 = some (.frz odL2 (.dK kvL2)) := by rw [eFL2]; exact upd_same
  have r_a_minutes := Rp.see s1 r_a_minutes
  have slL2 : Same F F := Same.refl F
  refine c_for ?_
  refine c_iItems ?_
  refine c_var (by exact rfl) ?_
  refine x_iItems (d := a_minutes)  I exL2 fdL2 rsL2 fun tw => ?_
  refine x_for (pp := ⟨pp, some dL2⟩) tw (fun (st3 : Unit) σ1 F1 H1 => ∃ (y4 : Option V) (y5 : Option V), σ1 = [(some (V.ref xself)), (some (V.int a_round_length)), (some x_a_minutes), y4, y5] ∧ Same F F1 ∧ Own K F1 H1 ⟨pp, some dL2⟩ ((xself, HO.ins (He.ga K (Str.ofString "Times")) dxself []) :: os)) h ⟨_, _, rfl, Same.refl _, I⟩ ?hOst3 ?hdst3 ?hsst3
  case hOst3 =>
    rintro st3 σ1 F1 H1 ⟨y4, y5, rfl, s1, I⟩
    exact ⟨s1, _, trivial, I, fun F2 H2 s2 I2 => ⟨_, _, rfl, Same.trans s1 s2, I2⟩⟩
  case hdst3 =>
    rintro st3 σ1 F H ⟨y4, y5, rfl, s1, I⟩ h
    have r_a_minutes := Rp.mono s1 r_a_minutes
    have slL2 := Same.trans slL2 s1
    refine x_unlock I (by rw [eFL2] at slL2; exact slL2) hFL2 fun F e1 s1 I => ?_
    have r_a_minutes := Rp.see e1 r_a_minutes
    have s := Same.trans s s1
    refine c_seq ?_
    refine c_sfldC ?_
    refine c_var (by exact rfl) ?_
    refine c_var (by exact rfl) ?_
    refine x_sfld (fs' := [((Str.ofString "_round"), (V.int a_round_length))]) I 0 rfl (by exact (by decide : 0 < 1000)) (by rfl) fun I => ?_
    simp only [List.set_cons_zero, List.set_cons_succ] at I
    refine c_seq ?_
    refine c_sfldC ?_
    refine c_cb ?_
    refine c_cons ?_
    refine c_var (by exact rfl) ?_
    refine c_nil ?_
    refine x_dictF I r_a_minutes fun x6p F H s1 I rx6 => ?_
    have r_a_minutes := Rp.mono s1 r_a_minutes
    have s := Same.trans s s1
    refine c_var (by exact rfl) ?_
    refine x_sfld (fs' := [((Str.ofString "_round"), (V.int a_round_length)), ((Str.ofString "_minutes"), (V.ref x6p))]) I 0 rfl (by exact (by decide : 1 < 1000)) (by rfl) fun I => ?_
    simp only [List.set_cons_zero, List.set_cons_succ] at I
    refine c_sfldC ?_
    refine c_cb ?_
    refine c_cons ?_
    refine c_var (by exact rfl) ?_
    refine c_nil ?_
    refine x_listDF I r_a_minutes fun x7p F H s1 I rx7 => ?_
    have r_a_minutes := Rp.mono s1 r_a_minutes
    have rx6 := Rp.mono s1 rx6
    have s := Same.trans s s1
    refine c_var (by exact rfl) ?_
    refine x_sfld (fs' := [((Str.ofString "_round"), (V.int a_round_length)), ((Str.ofString "_minutes"), (V.ref x6p)), ((Str.ofString "_names"), (V.ref x7p))]) I 0 rfl (by exact (by decide : 2 < 1000)) (by rfl) fun I => ?_
    simp only [List.set_cons_zero, List.set_cons_succ] at I
    exact hQ _ h _ _ _ s I ⟨_, _, _, rfl, rfl, rx6, rx7⟩
  case hsst3 =>
    rintro e8 st3 xe8 σ1 F H N nx9 ⟨y4, y5, rfl, s1, I⟩ rxe8 h hn hb
    have r_a_minutes := Rp.mono s1 r_a_minutes
    have slL2 := Same.trans slL2 s1
    have sm10 := s1
    obtain ⟨p14, x11, x12, ep14, q13, rx11, rx12⟩ := id rxe8
    obtain rfl : x11 = V.str e8.a := rx11
    obtain rfl : x12 = V.int e8.b := rx12
    refine x_gTup I ep14 q13 rfl ?_
    refine c_gCons ?_
    refine c_name (by simp only [List.set_cons_zero, List.set_cons_succ]; exact rfl) ?_
    refine c_gCons ?_
    refine c_name (by simp only [List.set_cons_zero, List.set_cons_succ]; exact rfl) ?_
    refine c_gNil ?_
    refine c_seq ?_
    refine c_drop ?_
    refine c_call ?_
    refine c_cons ?_
    refine c_var (by exact rfl) ?_
    refine c_nil ?_
    refine cl_check_name I (D.call h (fun v15 h F H xv15 s1 I rv15 => ?_) (fun _ h => h))
    have r_a_minutes := Rp.mono s1 r_a_minutes
    have slL2 := Same.trans slL2 s1
    have sm10 := Same.trans sm10 s1
    obtain rfl : xv15 = V.non := rv15
    refine c_drop ?_
    refine c_call ?_
    refine c_cons ?_
    refine c_var (by exact rfl) ?_
    refine c_cons ?_
    refine c_c ?_
    refine c_cons ?_
    refine c_op ?_
    refine c_var (by exact rfl) ?_
    refine c_c ?_
    refine v_subI ?_
    refine c_nil ?_
    refine cl_check_number I (D.call h (fun v16 h F H xv16 s1 I rv16 => ?_) (fun _ h => h))
    have r_a_minutes := Rp.mono s1 r_a_minutes
    have slL2 := Same.trans slL2 s1
    have sm10 := Same.trans sm10 s1
    obtain rfl : xv16 = V.non := rv16
    exact hn () _ _ _ ⟨_, _, rfl, sm10, I⟩ h
set_option maxHeartbeats 4000000 in
theorem rdO_Times_init_ {K : PySem.W.Frag} {vs : List V} {H : Hp} {Q : VK} {E : XK} (h : spO_Times_init_ K vs H Q E) : t_Times_init_ K E { nx := fun _ H1 => Q .non H1, rt := Q } (start N_Times_init_ vs) H := by
  obtain ⟨F0, pp, lk, os, a_round_length, a_minutes, xself, dxself, pl, kvl, rfl, I, r_a_minutes, h⟩ := h
  obtain ⟨F, eF⟩ : ∃ F, F = F0 := ⟨_, rfl⟩
  have s : Same F0 F := by rw [eF]; exact Same.refl _
  rw [← eF] at I
  rw [← eF] at r_a_minutes
  clear eF
  obtain ⟨QQ, hQ, h⟩ : ∃ QQ : O_Times → Prop, (∀ r, QQ r → ∀ F1 H1 fs, Same F0 F1 → Own K F1 H1 ⟨pp, none⟩ ((xself, HO.ins (He.ga K (Str.ofString "Times")) dxself fs) :: (pl, HO.dK kvl) :: os) → FsR_Times K F1 fs r → Q .non H1) ∧ (p_Times_init_ a_round_length a_minutes).run QQ (fun _ => False) := ⟨_, fun r h => h, h⟩
  unfold p_Times_init_ at h
  unfold t_Times_init_
  rw [st_Times_init_]
  refine c_seq ?_
  refine c_drop ?_
  refine c_call ?_
  refine c_cons ?_
  refine c_var (by exact rfl) ?_
  refine c_cons ?_
  refine c_c ?_
  refine c_cons ?_
  refine c_c ?_
  refine c_nil ?_
  refine cl_check_number I (D.call h (fun v1 h F H xv1 s1 I rv1 => ?_) (fun _ h => h))
  have r_a_minutes := KReps.mono s1 r_a_minutes
  have s := Same.trans s s1
  obtain rfl : xv1 = V.non := rv1
  refine c_seq ?_
  refine x_lockO I 1 rfl fun odL2 I => ?_
  simp only [List.set_cons_zero, List.set_cons_succ] at I
  refine c_for ?_
  refine c_iItems ?_
  refine c_var (by exact rfl) ?_
  refine x_iItemsO (d := a_minutes)  I 1 rfl r_a_minutes fun tw => ?_
  refine x_for (pp := ⟨pp, none⟩) tw (fun (st3 : Unit) σ1 F1 H1 => ∃ (y4 : Option V) (y5 : Option V), σ1 = [(some (V.ref xself)), (some (V.int a_round_length)), (some (V.ref pl)), y4, y5] ∧ Same F F1 ∧ Own K F1 H1 ⟨pp, none⟩ ((xself, HO.ins (He.ga K (Str.ofString "Times")) dxself []) :: (pl, HO.frz odL2 (.dK kvl)) :: os)) h ⟨_, _, rfl, Same.refl _, I⟩ ?hOst3 ?hdst3 ?hsst3
  case hOst3 =>
    rintro st3 σ1 F1 H1 ⟨y4, y5, rfl, s1, I⟩
    exact ⟨s1, _, ⟨1, rfl⟩, I, fun F2 H2 s2 I2 => ⟨_, _, rfl, Same.trans s1 s2, I2⟩⟩
  case hdst3 =>
    rintro st3 σ1 F H ⟨y4, y5, rfl, s1, I⟩ h
    have r_a_minutes := KReps.mono s1 r_a_minutes
    have s := Same.trans s s1
    refine x_unlockO I 1 rfl fun I => ?_
    simp only [List.set_cons_zero, List.set_cons_succ] at I
    refine c_seq ?_
    refine c_sfldC ?_
    refine c_var (by exact rfl) ?_
    refine c_var (by exact rfl) ?_
    refine x_sfld (fs' := [((Str.ofString "_round"), (V.int a_round_length))]) I 0 rfl (by exact (by decide : 0 < 1000)) (by rfl) fun I => ?_
    simp only [List.set_cons_zero, List.set_cons_succ] at I
    refine c_seq ?_
    refine c_sfldC ?_
    refine c_cb ?_
    refine c_cons ?_
    refine c_var (by exact rfl) ?_
    refine c_nil ?_
    refine x_dictFo I 1 rfl r_a_minutes fun x6p F H s1 I rx6 => ?_
    have r_a_minutes := KReps.mono s1 r_a_minutes
    have s := Same.trans s s1
    refine c_var (by exact rfl) ?_
    refine x_sfld (fs' := [((Str.ofString "_round"), (V.int a_round_length)), ((Str.ofString "_minutes"), (V.ref x6p))]) I 0 rfl (by exact (by decide : 1 < 1000)) (by rfl) fun I => ?_
    simp only [List.set_cons_zero, List.set_cons_succ] at I
    refine c_sfldC ?_
    refine c_cb ?_
    refine c_cons ?_
    refine c_var (by exact rfl) ?_
    refine c_nil ?_
    refine x_listDFo I 1 rfl r_a_minutes fun x7p F H s1 I rx7 => ?_
    have r_a_minutes := KReps.mono s1 r_a_minutes
    have rx6 := Rp.mono s1 rx6
    have s := Same.trans s s1
    refine c_var (by exact rfl) ?_
    refine x_sfld (fs' := [((Str.ofString "_round"), (V.int a_round_length)), ((Str.ofString "_minutes"), (V.ref x6p)), ((Str.ofString "_names"), (V.ref x7p))]) I 0 rfl (by exact (by decide : 2 < 1000)) (by rfl) fun I => ?_
    simp only [List.set_cons_zero, List.set_cons_succ] at I
    exact hQ _ h _ _ _ s I ⟨_, _, _, rfl, rfl, rx6, rx7⟩
  case hsst3 =>
    rintro e8 st3 xe8 σ1 F H N nx9 ⟨y4, y5, rfl, s1, I⟩ rxe8 h hn hb
    have r_a_minutes := KReps.mono s1 r_a_minutes
    have s := Same.trans s s1
    have sm10 := s1
    obtain ⟨p14, x11, x12, ep14, q13, rx11, rx12⟩ := id rxe8
    obtain rfl : x11 = V.str e8.a := rx11
    obtain rfl : x12 = V.int e8.b := rx12
    refine x_gTup I ep14 q13 rfl ?_
    refine c_gCons ?_
    refine c_name (by simp only [List.set_cons_zero, List.set_cons_succ]; exact rfl) ?_
    refine c_gCons ?_
    refine c_name (by simp only [List.set_cons_zero, List.set_cons_succ]; exact rfl) ?_
    refine c_gNil ?_
    refine c_seq ?_
    refine c_drop ?_
    refine c_call ?_
    refine c_cons ?_
    refine c_var (by exact rfl) ?_
    refine c_nil ?_
    refine cl_check_name I (D.call h (fun v15 h F H xv15 s1 I rv15 => ?_) (fun _ h => h))
    have r_a_minutes := KReps.mono s1 r_a_minutes
    have s := Same.trans s s1
    have sm10 := Same.trans sm10 s1
    obtain rfl : xv15 = V.non := rv15
    refine c_drop ?_
    refine c_call ?_
    refine c_cons ?_
    refine c_var (by exact rfl) ?_
    refine c_cons ?_
    refine c_c ?_
    refine c_cons ?_
    refine c_op ?_
    refine c_var (by exact rfl) ?_
    refine c_c ?_
    refine v_subI ?_
    refine c_nil ?_
    refine cl_check_number I (D.call h (fun v16 h F H xv16 s1 I rv16 => ?_) (fun _ h => h))
    have r_a_minutes := KReps.mono s1 r_a_minutes
    have s := Same.trans s s1
    have sm10 := Same.trans sm10 s1
    obtain rfl : xv16 = V.non := rv16
    exact hn () _ _ _ ⟨_, _, rfl, sm10, I⟩ h
theorem rd_Times_init_ {K : PySem.W.Frag} {vs : List V} {H : Hp} {Q : VK} {E : XK} (h : sp_Times_init_ K vs H Q E) : t_Times_init_ K E { nx := fun _ H1 => Q .non H1, rt := Q } (start N_Times_init_ vs) H := h.elim rdF_Times_init_ rdO_Times_init_
/-! Times_zero -/
def sp_Times_zero (K : PySem.W.Frag) : Sp := fun vs H Q _ => ∃ (F0 : Hp) (pp : Option Addr) (lk : Option Addr) (os : Os) (a_round_length : Int) (a_names : (Tl Str)) (x_a_names : V), vs = [(V.int a_round_length), x_a_names] ∧ Own K F0 H ⟨pp, none⟩ os ∧ Rp.rep K F0 x_a_names a_names ∧ (p_Times_zero a_round_length a_names).run (fun r => ∀ F1 H1 y, Same F0 F1 → Own K F1 H1 ⟨pp, none⟩ os → Rp.rep K F1 y r → Q y H1) (fun _ => False)
theorem len_Times_zero {K : PySem.W.Frag} : ∀ vs H Q E, sp_Times_zero K vs H Q E → vs.length = 2 := by
  rintro vs H Q E ⟨_, _, _, _, _, _, _, rfl, _⟩; rfl
theorem cl_Times_zero {K : PySem.W.Frag} {F0 H : Hp} {pp : Option Addr} {lk : Option Addr} {os : Os} {Q : VK} {E : XK} {a_round_length : Int} {a_names : (Tl Str)} {x_a_names : V} (I : Own K F0 H ⟨pp, none⟩ os) (r_a_names : Rp.rep K F0 x_a_names a_names) (h : (p_Times_zero a_round_length a_names).run (fun r => ∀ F1 H1 y, Same F0 F1 → Own K F1 H1 ⟨pp, none⟩ os → Rp.rep K F1 y r → Q y H1) (fun _ => False)) : sp_Times_zero K ([(V.int a_round_length), x_a_names] ++ []) H Q E := ⟨F0, pp, lk, os, a_round_length, a_names, x_a_names, rfl, I, r_a_names, h⟩
abbrev N_Times_zero : List Str := [(Str.ofString "round_length"), (Str.ofString "names"), (Str.ofString "name")]
theorem st_Times_zero (v0 v1 : V) : start N_Times_zero [v0, v1] = [some v0, some v1, none] := rfl
def t_Times_zero (K : PySem.W.Frag) (E : XK) : TS := (tRet (tMake (He.ga K (Str.ofString "Times")) (sp_Times_init_ K) [] E (tCons (tVar 0) (tCons (tDc (iTup K (tVar 1)) (gName 2) tYes (tVar 2) (tC (.int 0)) [2]) tNil))))
set_option maxHeartbeats 4000000 in
theorem rd_Times_zero {K : PySem.W.Frag} {vs : List V} {H : Hp} {Q : VK} {E : XK} (h : sp_Times_zero K vs H Q E) : t_Times_zero K E { nx := fun _ H1 => Q .non H1, rt := Q } (start N_Times_zero vs) H := by
  obtain ⟨F0, pp, lk, os, a_round_length, a_names, x_a_names, rfl, I, r_a_names, h⟩ := h
  obtain ⟨F, eF⟩ : ∃ F, F = F0 := ⟨_, rfl⟩
  have s : Same F0 F := by rw [eF]; exact Same.refl _
  rw [← eF] at I
  rw [← eF] at r_a_names
  clear eF
  obtain ⟨QQ, hQ, h⟩ : ∃ QQ : O_Times → Prop, (∀ r, QQ r → ∀ F1 H1 y, Same F0 F1 → Own K F1 H1 ⟨pp, none⟩ os → Rp.rep K F1 y r → Q y H1) ∧ (p_Times_zero a_round_length a_names).run QQ (fun _ => False) := ⟨_, fun r h => h, h⟩
  unfold p_Times_zero at h
  unfold t_Times_zero
  rw [st_Times_zero]
  refine c_ret ?_
  refine c_make ?_
  refine c_cons ?_
  refine c_var (by exact rfl) ?_
  refine c_cons ?_
  refine c_dc ?_
  refine c_iTup ?_
  refine c_var (by exact rfl) ?_
  refine x_iTup I r_a_names fun _ tw => ?_
  intro D2 nD
  refine x_dc tw I (Same.refl _) (fun z => trivial) nD h ?hse1 ?hde1
  case hse1 =>
    intro e1 xe1 F H acc Nx Q1 s1 I rxe1 h hy hn
    have r_a_names := Rp.mono s1 r_a_names
    have s := Same.trans s s1
    have sm3 : Same F F := Same.refl F
    obtain rfl : xe1 = V.str e1 := rxe1
    show gName 2 _ [(some (V.int a_round_length)), (some x_a_names), none] _ _
    refine c_name (by simp only [List.set_cons_zero, List.set_cons_succ]; exact rfl) ?_
    refine ⟨rfl, ?_⟩
    refine c_tYes ?_
    refine L2.iteT ?_
    refine c_var (by exact rfl) ?_
    refine c_c ?_
    exact hy _ _ _ _ _ sm3 I rfl rfl h
  intro F H ysv4 v4 s1 I rv4 h
  have r_a_names := Rp.mono s1 r_a_names
  have s := Same.trans s s1
  obtain ⟨F, s1, I, rxv4⟩ := x_frzD I rv4
  have r_a_names := Rp.mono s1 r_a_names
  have s := Same.trans s s1
  refine c_nil ?_
  refine x_make (obR_Times K) I h (fun _ _ F s1 I h => cl_Times_init_ (lk := none) I (Rp.mono s1 rxv4) h) fun v5 F H xv5 s1 I rv5 h => ?_
  have r_a_names := Rp.mono s1 r_a_names
  have s := Same.trans s s1
  exact hQ _ h _ _ _ s I rv5
/-! l_zero -/
def sp_l_zero (K : PySem.W.Frag) : Sp := fun vs H Q _ => ∃ (F0 : Hp) (pp : Option Addr) (lk : Option Addr) (os : Os) (a_length_here : Int) (a_names_here : (List Str)) (a_many : Int) (x_a_names_here : V), vs = [(V.int a_length_here), x_a_names_here, (V.int a_many)] ∧ Own K F0 H ⟨pp, none⟩ os ∧ RepB K F0 os x_a_names_here a_names_here ∧ (p_l_zero a_length_here a_names_here a_many).run (fun r => ∀ F1 H1 y, Same F0 F1 → Own K F1 H1 ⟨pp, none⟩ os → Rp.rep K F1 y r → Q y H1) (fun _ => False)
theorem len_l_zero {K : PySem.W.Frag} : ∀ vs H Q E, sp_l_zero K vs H Q E → vs.length = 3 := by
  rintro vs H Q E ⟨_, _, _, _, _, _, _, _, rfl, _⟩; rfl
theorem cl_l_zero {K : PySem.W.Frag} {F0 H : Hp} {pp : Option Addr} {lk : Option Addr} {os : Os} {Q : VK} {E : XK} {a_length_here : Int} {a_names_here : (List Str)} {a_many : Int} {x_a_names_here : V} (I : Own K F0 H ⟨pp, none⟩ os) (r_a_names_here : RepB K F0 os x_a_names_here a_names_here) (h : (p_l_zero a_length_here a_names_here a_many).run (fun r => ∀ F1 H1 y, Same F0 F1 → Own K F1 H1 ⟨pp, none⟩ os → Rp.rep K F1 y r → Q y H1) (fun _ => False)) : sp_l_zero K ([(V.int a_length_here), x_a_names_here, (V.int a_many)] ++ []) H Q E := ⟨F0, pp, lk, os, a_length_here, a_names_here, a_many, x_a_names_here, rfl, I, r_a_names_here, h⟩
abbrev N_l_zero : List Str := [(Str.ofString "_law_length_here"), (Str.ofString "_law_names_here"), (Str.ofString "_law_many")]
theorem st_l_zero (v0 v1 v2 : V) : start N_l_zero [v0, v1, v2] = [some v0, some v1, some v2] := rfl
def t_l_zero (K : PySem.W.Frag) (E : XK) : TS := (tSeq (tIfS (tTest (tOp rEq (tVar 2) (tC (.int 0)))) (tRet (tSMeth (He.ga K (Str.ofString "Times")) (starSp 1 (sp_Times_zero K)) E (tC (.ref (He.ga K (Str.ofString "Times")))) (tCons (tVar 0) tNil))) tNext)
  (tSeq (tIfS (tTest (tOp rEq (tVar 2) (tC (.int 1)))) (tRet (tSMeth (He.ga K (Str.ofString "Times")) (starSp 1 (sp_Times_zero K)) E (tC (.ref (He.ga K (Str.ofString "Times")))) (tCons (tVar 0) (tCons (tOp (rIxL K) (tVar 1) (tC (.int 0))) tNil)))) tNext)
  (tSeq (tIfS (tTest (tOp rEq (tVar 2) (tC (.int 2)))) (tRet (tSMeth (He.ga K (Str.ofString "Times")) (starSp 1 (sp_Times_zero K)) E (tC (.ref (He.ga K (Str.ofString "Times")))) (tCons (tVar 0) (tCons (tOp (rIxL K) (tVar 1) (tC (.int 0))) (tCons (tOp (rIxL K) (tVar 1) (tC (.int 1))) tNil))))) tNext)
  (tSeq (tIfS (tTest (tOp rEq (tVar 2) (tC (.int 3)))) (tRet (tSMeth (He.ga K (Str.ofString "Times")) (starSp 1 (sp_Times_zero K)) E (tC (.ref (He.ga K (Str.ofString "Times")))) (tCons (tVar 0) (tCons (tOp (rIxL K) (tVar 1) (tC (.int 0))) (tCons (tOp (rIxL K) (tVar 1) (tC (.int 1))) (tCons (tOp (rIxL K) (tVar 1) (tC (.int 2))) tNil)))))) tNext)
  (tSeq (tIfS (tTest (tOp rEq (tVar 2) (tC (.int 4)))) (tRet (tSMeth (He.ga K (Str.ofString "Times")) (starSp 1 (sp_Times_zero K)) E (tC (.ref (He.ga K (Str.ofString "Times")))) (tCons (tVar 0) (tCons (tOp (rIxL K) (tVar 1) (tC (.int 0))) (tCons (tOp (rIxL K) (tVar 1) (tC (.int 1))) (tCons (tOp (rIxL K) (tVar 1) (tC (.int 2))) (tCons (tOp (rIxL K) (tVar 1) (tC (.int 3))) tNil))))))) tNext)
  (tRet (tSMeth (He.ga K (Str.ofString "Times")) (starSp 1 (sp_Times_zero K)) E (tC (.ref (He.ga K (Str.ofString "Times")))) (tCons (tVar 0) (tCons (tOp (rIxL K) (tVar 1) (tC (.int 0))) (tCons (tOp (rIxL K) (tVar 1) (tC (.int 1))) (tCons (tOp (rIxL K) (tVar 1) (tC (.int 2))) (tCons (tOp (rIxL K) (tVar 1) (tC (.int 3))) (tCons (tOp (rIxL K) (tVar 1) (tC (.int 4))) tNil)))))))))))))
set_option maxHeartbeats 4000000 in
theorem rd_l_zero {K : PySem.W.Frag} {vs : List V} {H : Hp} {Q : VK} {E : XK} (h : sp_l_zero K vs H Q E) : t_l_zero K E { nx := fun _ H1 => Q .non H1, rt := Q } (start N_l_zero vs) H := by
  obtain ⟨F0, pp, lk, os, a_length_here, a_names_here, a_many, x_a_names_here, rfl, I, r_a_names_here, h⟩ := h
  obtain ⟨F, eF⟩ : ∃ F, F = F0 := ⟨_, rfl⟩
  have s : Same F0 F := by rw [eF]; exact Same.refl _
  rw [← eF] at I
  rw [← eF] at r_a_names_here
  clear eF
  obtain ⟨QQ, hQ, h⟩ : ∃ QQ : O_Times → Prop, (∀ r, QQ r → ∀ F1 H1 y, Same F0 F1 → Own K F1 H1 ⟨pp, none⟩ os → Rp.rep K F1 y r → Q y H1) ∧ (p_l_zero a_length_here a_names_here a_many).run QQ (fun _ => False) := ⟨_, fun r h => h, h⟩
  unfold p_l_zero at h
  unfold t_l_zero
  rw [st_l_zero]
  refine c_seq ?_
  refine c_ifS ?_
  refine c_test ?_
  refine c_op ?_
  refine c_var (by exact rfl) ?_
  refine c_c ?_
  refine v_eqI ?_
  refine c_bl ?_
  refine x_if h (fun hc h => ?_) (fun hc h => ?_)
  · skip
    refine c_ret ?_
    refine c_smeth ?_
    refine ⟨rfl, ?_⟩
    refine c_cons ?_
    refine c_var (by exact rfl) ?_
    refine c_nil ?_
    refine ⟨[(V.int a_length_here)], [], rfl, rfl, x_tup (P := fun F1 y => Rp.rep K F1 y (⟨[]⟩ : Tl Str)) I (by exact (by decide : 0 ≤ sizeLine)) (fun p F1 s1 q => ⟨p, _, rfl, q, .nil⟩) fun x1p F s1 I rx1 => ?_⟩
    have r_a_names_here := RepB.mono s1 r_a_names_here
    have s := Same.trans s s1
    refine cl_Times_zero (lk := none) I rx1 (D.call h (fun v2 h F H xv2 s1 I rv2 => ?_) (fun _ h => h))
    have r_a_names_here := RepB.mono s1 r_a_names_here
    have s := Same.trans s s1
    exact hQ _ h _ _ _ s I rv2
  · skip
    refine c_next ?_
    refine c_seq ?_
    refine c_ifS ?_
    refine c_test ?_
    refine c_op ?_
    refine c_var (by exact rfl) ?_
    refine c_c ?_
    refine v_eqI ?_
    refine c_bl ?_
    refine x_if h (fun hc h => ?_) (fun hc h => ?_)
    · skip
      refine c_ret ?_
      refine c_smeth ?_
      refine ⟨rfl, ?_⟩
      refine c_cons ?_
      refine c_var (by exact rfl) ?_
      refine c_cons ?_
      refine c_op ?_
      refine c_var (by exact rfl) ?_
      refine c_c ?_
      refine b_ixL I r_a_names_here h fun v3 xv3 rv3 h => ?_
      obtain rfl : xv3 = V.str v3 := rv3
      refine c_nil ?_
      refine ⟨[(V.int a_length_here)], [(V.str v3)], rfl, rfl, x_tup (P := fun F1 y => Rp.rep K F1 y (⟨[v3]⟩ : Tl Str)) I (by exact (by decide : 1 ≤ sizeLine)) (fun p F1 s1 q => ⟨p, _, rfl, q, (.cons rfl .nil)⟩) fun x4p F s1 I rx4 => ?_⟩
      have r_a_names_here := RepB.mono s1 r_a_names_here
      have s := Same.trans s s1
      refine cl_Times_zero (lk := none) I rx4 (D.call h (fun v5 h F H xv5 s1 I rv5 => ?_) (fun _ h => h))
      have r_a_names_here := RepB.mono s1 r_a_names_here
      have s := Same.trans s s1
      exact hQ _ h _ _ _ s I rv5
    · skip
      refine c_next ?_
      refine c_seq ?_
      refine c_ifS ?_
      refine c_test ?_
      refine c_op ?_
      refine c_var (by exact rfl) ?_
      refine c_c ?_
      refine v_eqI ?_
      refine c_bl ?_
      refine x_if h (fun hc h => ?_) (fun hc h => ?_)
      · skip
        refine c_ret ?_
        refine c_smeth ?_
        refine ⟨rfl, ?_⟩
        refine c_cons ?_
        refine c_var (by exact rfl) ?_
        refine c_cons ?_
        refine c_op ?_
        refine c_var (by exact rfl) ?_
        refine c_c ?_
        refine b_ixL I r_a_names_here h fun v6 xv6 rv6 h => ?_
        obtain rfl : xv6 = V.str v6 := rv6
        refine c_cons ?_
        refine c_op ?_
        refine c_var (by exact rfl) ?_
        refine c_c ?_
        refine b_ixL I r_a_names_here h fun v7 xv7 rv7 h => ?_
        obtain rfl : xv7 = V.str v7 := rv7
        refine c_nil ?_
        refine ⟨[(V.int a_length_here)], [(V.str v6), (V.str v7)], rfl, rfl, x_tup (P := fun F1 y => Rp.rep K F1 y (⟨[v6, v7]⟩ : Tl Str)) I (by exact (by decide : 2 ≤ sizeLine)) (fun p F1 s1 q => ⟨p, _, rfl, q, (.cons rfl (.cons rfl .nil))⟩) fun x8p F s1 I rx8 => ?_⟩
        have r_a_names_here := RepB.mono s1 r_a_names_here
        have s := Same.trans s s1
        refine cl_Times_zero (lk := none) I rx8 (D.call h (fun v9 h F H xv9 s1 I rv9 => ?_) (fun _ h => h))
        have r_a_names_here := RepB.mono s1 r_a_names_here
        have s := Same.trans s s1
        exact hQ _ h _ _ _ s I rv9
      · skip
        refine c_next ?_
        refine c_seq ?_
        refine c_ifS ?_
        refine c_test ?_
        refine c_op ?_
        refine c_var (by exact rfl) ?_
        refine c_c ?_
        refine v_eqI ?_
        refine c_bl ?_
        refine x_if h (fun hc h => ?_) (fun hc h => ?_)
        · skip
          refine c_ret ?_
          refine c_smeth ?_
          refine ⟨rfl, ?_⟩
          refine c_cons ?_
          refine c_var (by exact rfl) ?_
          refine c_cons ?_
          refine c_op ?_
          refine c_var (by exact rfl) ?_
          refine c_c ?_
          refine b_ixL I r_a_names_here h fun v10 xv10 rv10 h => ?_
          obtain rfl : xv10 = V.str v10 := rv10
          refine c_cons ?_
          refine c_op ?_
          refine c_var (by exact rfl) ?_
          refine c_c ?_
          refine b_ixL I r_a_names_here h fun v11 xv11 rv11 h => ?_
          obtain rfl : xv11 = V.str v11 := rv11
          refine c_cons ?_
          refine c_op ?_
          refine c_var (by exact rfl) ?_
          refine c_c ?_
          refine b_ixL I r_a_names_here h fun v12 xv12 rv12 h => ?_
          obtain rfl : xv12 = V.str v12 := rv12
          refine c_nil ?_
          refine ⟨[(V.int a_length_here)], [(V.str v10), (V.str v11), (V.str v12)], rfl, rfl, x_tup (P := fun F1 y => Rp.rep K F1 y (⟨[v10, v11, v12]⟩ : Tl Str)) I (by exact (by decide : 3 ≤ sizeLine)) (fun p F1 s1 q => ⟨p, _, rfl, q, (.cons rfl (.cons rfl (.cons rfl .nil)))⟩) fun x13p F s1 I rx13 => ?_⟩
          have r_a_names_here := RepB.mono s1 r_a_names_here
          have s := Same.trans s s1
          refine cl_Times_zero (lk := none) I rx13 (D.call h (fun v14 h F H xv14 s1 I rv14 => ?_) (fun _ h => h))
          have r_a_names_here := RepB.mono s1 r_a_names_here
          have s := Same.trans s s1
          exact hQ _ h _ _ _ s I rv14
        · skip
          refine c_next ?_
          refine c_seq ?_
          refine c_ifS ?_
          refine c_test ?_
          refine c_op ?_
          refine c_var (by exact rfl) ?_
          refine c_c ?_
          refine v_eqI ?_
          refine c_bl ?_
          refine x_if h (fun hc h => ?_) (fun hc h => ?_)
          · skip
            refine c_ret ?_
            refine c_smeth ?_
            refine ⟨rfl, ?_⟩
            refine c_cons ?_
            refine c_var (by exact rfl) ?_
            refine c_cons ?_
            refine c_op ?_
            refine c_var (by exact rfl) ?_
            refine c_c ?_
            refine b_ixL I r_a_names_here h fun v15 xv15 rv15 h => ?_
            obtain rfl : xv15 = V.str v15 := rv15
            refine c_cons ?_
            refine c_op ?_
            refine c_var (by exact rfl) ?_
            refine c_c ?_
            refine b_ixL I r_a_names_here h fun v16 xv16 rv16 h => ?_
            obtain rfl : xv16 = V.str v16 := rv16
            refine c_cons ?_
            refine c_op ?_
            refine c_var (by exact rfl) ?_
            refine c_c ?_
            refine b_ixL I r_a_names_here h fun v17 xv17 rv17 h => ?_
            obtain rfl : xv17 = V.str v17 := rv17
            refine c_cons ?_
            refine c_op ?_
            refine c_var (by exact rfl) ?_
            refine c_c ?_
            refine b_ixL I r_a_names_here h fun v18 xv18 rv18 h => ?_
            obtain rfl : xv18 = V.str v18 := rv18
            refine c_nil ?_
            refine ⟨[(V.int a_length_here)], [(V.str v15), (V.str v16), (V.str v17), (V.str v18)], rfl, rfl, x_tup (P := fun F1 y => Rp.rep K F1 y (⟨[v15, v16, v17, v18]⟩ : Tl Str)) I (by exact (by decide : 4 ≤ sizeLine)) (fun p F1 s1 q => ⟨p, _, rfl, q, (.cons rfl (.cons rfl (.cons rfl (.cons rfl .nil))))⟩) fun x19p F s1 I rx19 => ?_⟩
            have r_a_names_here := RepB.mono s1 r_a_names_here
            have s := Same.trans s s1
            refine cl_Times_zero (lk := none) I rx19 (D.call h (fun v20 h F H xv20 s1 I rv20 => ?_) (fun _ h => h))
            have r_a_names_here := RepB.mono s1 r_a_names_here
            have s := Same.trans s s1
            exact hQ _ h _ _ _ s I rv20
          · skip
            refine c_next ?_
            refine c_ret ?_
            refine c_smeth ?_
            refine ⟨rfl, ?_⟩
            refine c_cons ?_
            refine c_var (by exact rfl) ?_
            refine c_cons ?_
            refine c_op ?_
            refine c_var (by exact rfl) ?_
            refine c_c ?_
            refine b_ixL I r_a_names_here h fun v21 xv21 rv21 h => ?_
            obtain rfl : xv21 = V.str v21 := rv21
            refine c_cons ?_
            refine c_op ?_
            refine c_var (by exact rfl) ?_
            refine c_c ?_
            refine b_ixL I r_a_names_here h fun v22 xv22 rv22 h => ?_
            obtain rfl : xv22 = V.str v22 := rv22
            refine c_cons ?_
            refine c_op ?_
            refine c_var (by exact rfl) ?_
            refine c_c ?_
            refine b_ixL I r_a_names_here h fun v23 xv23 rv23 h => ?_
            obtain rfl : xv23 = V.str v23 := rv23
            refine c_cons ?_
            refine c_op ?_
            refine c_var (by exact rfl) ?_
            refine c_c ?_
            refine b_ixL I r_a_names_here h fun v24 xv24 rv24 h => ?_
            obtain rfl : xv24 = V.str v24 := rv24
            refine c_cons ?_
            refine c_op ?_
            refine c_var (by exact rfl) ?_
            refine c_c ?_
            refine b_ixL I r_a_names_here h fun v25 xv25 rv25 h => ?_
            obtain rfl : xv25 = V.str v25 := rv25
            refine c_nil ?_
            refine ⟨[(V.int a_length_here)], [(V.str v21), (V.str v22), (V.str v23), (V.str v24), (V.str v25)], rfl, rfl, x_tup (P := fun F1 y => Rp.rep K F1 y (⟨[v21, v22, v23, v24, v25]⟩ : Tl Str)) I (by exact (by decide : 5 ≤ sizeLine)) (fun p F1 s1 q => ⟨p, _, rfl, q, (.cons rfl (.cons rfl (.cons rfl (.cons rfl (.cons rfl .nil)))))⟩) fun x26p F s1 I rx26 => ?_⟩
            have r_a_names_here := RepB.mono s1 r_a_names_here
            have s := Same.trans s s1
            refine cl_Times_zero (lk := none) I rx26 (D.call h (fun v27 h F H xv27 s1 I rv27 => ?_) (fun _ h => h))
            have r_a_names_here := RepB.mono s1 r_a_names_here
            have s := Same.trans s s1
            exact hQ _ h _ _ _ s I rv27
/-! Times_eq_ -/
def sp_Times_eq_ (K : PySem.W.Frag) : Sp := fun vs H Q _ => ∃ (F0 : Hp) (pp : Option Addr) (lk : Option Addr) (os : Os) (a_self : O_Times) (a_other : O_Times) (x_a_self : V) (x_a_other : V), vs = [x_a_self, x_a_other] ∧ Own K F0 H ⟨pp, none⟩ os ∧ Rp.rep K F0 x_a_self a_self ∧ Rp.rep K F0 x_a_other a_other ∧ (p_Times_eq_ a_self a_other).run (fun r => ∀ F1 H1 y, Same F0 F1 → Own K F1 H1 ⟨pp, none⟩ os → Rp.rep K F1 y r → Q y H1) (fun _ => False)
theorem len_Times_eq_ {K : PySem.W.Frag} : ∀ vs H Q E, sp_Times_eq_ K vs H Q E → vs.length = 2 := by
  rintro vs H Q E ⟨_, _, _, _, _, _, _, _, rfl, _⟩; rfl
theorem cl_Times_eq_ {K : PySem.W.Frag} {F0 H : Hp} {pp : Option Addr} {lk : Option Addr} {os : Os} {Q : VK} {E : XK} {a_self : O_Times} {a_other : O_Times} {x_a_self : V} {x_a_other : V} (I : Own K F0 H ⟨pp, none⟩ os) (r_a_self : Rp.rep K F0 x_a_self a_self) (r_a_other : Rp.rep K F0 x_a_other a_other) (h : (p_Times_eq_ a_self a_other).run (fun r => ∀ F1 H1 y, Same F0 F1 → Own K F1 H1 ⟨pp, none⟩ os → Rp.rep K F1 y r → Q y H1) (fun _ => False)) : sp_Times_eq_ K ([x_a_self, x_a_other] ++ []) H Q E := ⟨F0, pp, lk, os, a_self, a_other, x_a_self, x_a_other, rfl, I, r_a_self, r_a_other, h⟩
abbrev N_Times_eq_ : List Str := [(Str.ofString "self"), (Str.ofString "other")]
theorem st_Times_eq_ (v0 v1 : V) : start N_Times_eq_ [v0, v1] = [some v0, some v1] := rfl
def t_Times_eq_ (K : PySem.W.Frag) (E : XK) : TS := (tSeq (tIfS (tNot (tB (tCB (rIsiC (He.ga K (Str.ofString "Times"))) (tCons (tVar 1) (tCons (tC (.ref (He.ga K (Str.ofString "Times")))) tNil))))) tNever tNext)
  (tRet (tAndV (tOp rEq (tFldC (He.ga K (Str.ofString "Times")) (tVar 0) (Str.ofString "_round")) (tFldC (He.ga K (Str.ofString "Times")) (tVar 1) (Str.ofString "_round"))) (tOp rEqDf (tFldC (He.ga K (Str.ofString "Times")) (tVar 0) (Str.ofString "_minutes")) (tFldC (He.ga K (Str.ofString "Times")) (tVar 1) (Str.ofString "_minutes"))))))
set_option maxHeartbeats 4000000 in
theorem rd_Times_eq_ {K : PySem.W.Frag} {vs : List V} {H : Hp} {Q : VK} {E : XK} (h : sp_Times_eq_ K vs H Q E) : t_Times_eq_ K E { nx := fun _ H1 => Q .non H1, rt := Q } (start N_Times_eq_ vs) H := by
  obtain ⟨F0, pp, lk, os, a_self, a_other, x_a_self, x_a_other, rfl, I, r_a_self, r_a_other, h⟩ := h
  obtain ⟨F, eF⟩ : ∃ F, F = F0 := ⟨_, rfl⟩
  have s : Same F0 F := by rw [eF]; exact Same.refl _
  rw [← eF] at I
  rw [← eF] at r_a_self
  rw [← eF] at r_a_other
  clear eF
  obtain ⟨QQ, hQ, h⟩ : ∃ QQ : Bool → Prop, (∀ r, QQ r → ∀ F1 H1 y, Same F0 F1 → Own K F1 H1 ⟨pp, none⟩ os → Rp.rep K F1 y r → Q y H1) ∧ (p_Times_eq_ a_self a_other).run QQ (fun _ => False) := ⟨_, fun r h => h, h⟩
  unfold p_Times_eq_ at h
  unfold t_Times_eq_
  rw [st_Times_eq_]
  refine c_seq ?_
  refine c_ifS ?_
  refine c_not ?_
  refine c_tB ?_
  refine c_cb ?_
  refine c_cons ?_
  refine c_var (by exact rfl) ?_
  refine c_cons ?_
  refine c_c ?_
  refine c_nil ?_
  obtain ⟨ao1, dxo1, fso1, exo1, qo1⟩ := ob_Times r_a_other
  refine x_isiC I exo1 qo1 ?_
  refine c_bl ?_
  refine x_ifF rfl ?_
  refine c_next ?_
  refine c_ret ?_
  refine c_andV ?_
  refine c_op ?_
  refine c_fldC ?_
  refine c_var (by exact rfl) ?_
  obtain ⟨ao2, dxo2, fso2, xo2, exo2, qo2, lo2, rxo2⟩ := fld_Times__round r_a_self
  obtain rfl : xo2 = V.int a_self.f_round := rxo2
  refine ⟨ao2, dxo2, fso2, _, exo2, I.ex _ _ qo2, lo2, ?_⟩
  refine c_fldC ?_
  refine c_var (by exact rfl) ?_
  obtain ⟨ao3, dxo3, fso3, xo3, exo3, qo3, lo3, rxo3⟩ := fld_Times__round r_a_other
  obtain rfl : xo3 = V.int a_other.f_round := rxo3
  refine ⟨ao3, dxo3, fso3, _, exo3, I.ex _ _ qo3, lo3, ?_⟩
  refine v_eqI ?_
  refine c_bl ?_
  refine x_andV (b2 := (eqD a_self.f_minutes a_other.f_minutes)) (fun hc q => ?_) ?_
  · skip
    have sm4 : Same F F := Same.refl F
    refine c_op ?_
    refine c_fldC ?_
    refine c_var (by exact rfl) ?_
    obtain ⟨ao5, dxo5, fso5, xo5, exo5, qo5, lo5, rxo5⟩ := fld_Times__minutes r_a_self
    refine ⟨ao5, dxo5, fso5, _, exo5, I.ex _ _ qo5, lo5, ?_⟩
    refine c_fldC ?_
    refine c_var (by exact rfl) ?_
    obtain ⟨ao6, dxo6, fso6, xo6, exo6, qo6, lo6, rxo6⟩ := fld_Times__minutes r_a_other
    refine ⟨ao6, dxo6, fso6, _, exo6, I.ex _ _ qo6, lo6, ?_⟩
    refine x_eqD (a := a_self.f_minutes) (b := a_other.f_minutes) (Rpv.f I rxo5) (Rpv.f I rxo6) ?_
    exact q
  exact hQ _ h _ _ _ s I rfl
/-! Times_lshift_ -/
def sp_Times_lshift_ (K : PySem.W.Frag) : Sp := fun vs H Q _ => ∃ (F0 : Hp) (pp : Option Addr) (lk : Option Addr) (os : Os) (a_self : O_Times) (a_other : Int) (x_a_self : V), vs = [x_a_self, (V.int a_other)] ∧ Own K F0 H ⟨pp, none⟩ os ∧ Rp.rep K F0 x_a_self a_self ∧ (p_Times_lshift_ a_self a_other).run (fun r => ∀ F1 H1 y, Same F0 F1 → Own K F1 H1 ⟨pp, none⟩ os → Rp.rep K F1 y r → Q y H1) (fun _ => False)
theorem len_Times_lshift_ {K : PySem.W.Frag} : ∀ vs H Q E, sp_Times_lshift_ K vs H Q E → vs.length = 2 := by
  rintro vs H Q E ⟨_, _, _, _, _, _, _, rfl, _⟩; rfl
theorem cl_Times_lshift_ {K : PySem.W.Frag} {F0 H : Hp} {pp : Option Addr} {lk : Option Addr} {os : Os} {Q : VK} {E : XK} {a_self : O_Times} {a_other : Int} {x_a_self : V} (I : Own K F0 H ⟨pp, none⟩ os) (r_a_self : Rp.rep K F0 x_a_self a_self) (h : (p_Times_lshift_ a_self a_other).run (fun r => ∀ F1 H1 y, Same F0 F1 → Own K F1 H1 ⟨pp, none⟩ os → Rp.rep K F1 y r → Q y H1) (fun _ => False)) : sp_Times_lshift_ K ([x_a_self, (V.int a_other)] ++ []) H Q E := ⟨F0, pp, lk, os, a_self, a_other, x_a_self, rfl, I, r_a_self, h⟩
abbrev N_Times_lshift_ : List Str := [(Str.ofString "self"), (Str.ofString "other"), (Str.ofString "name")]
theorem st_Times_lshift_ (v0 v1 : V) : start N_Times_lshift_ [v0, v1] = [some v0, some v1, none] := rfl
def t_Times_lshift_ (K : PySem.W.Frag) (E : XK) : TS := (tSeq (tIfS (tNot (tB (tCB (rIsi K) (tCons (tVar 1) (tCons (tC (.ty "int")) tNil))))) tNever tNext)
  (tRet (tMake (He.ga K (Str.ofString "Times")) (sp_Times_init_ K) [] E (tCons (tFldC (He.ga K (Str.ofString "Times")) (tVar 0) (Str.ofString "_round")) (tCons (tDc (iList K (tFldC (He.ga K (Str.ofString "Times")) (tVar 0) (Str.ofString "_names"))) (gName 2) tYes (tVar 2) (tOp rModI (tOp rSubI (tDGet (tFldC (He.ga K (Str.ofString "Times")) (tVar 0) (Str.ofString "_minutes")) (tVar 2)) (tVar 1)) (tFldC (He.ga K (Str.ofString "Times")) (tVar 0) (Str.ofString "_round"))) [2]) tNil)))))
set_option maxHeartbeats 4000000 in
theorem rd_Times_lshift_ {K : PySem.W.Frag} {vs : List V} {H : Hp} {Q : VK} {E : XK} (h : sp_Times_lshift_ K vs H Q E) : t_Times_lshift_ K E { nx := fun _ H1 => Q .non H1, rt := Q } (start N_Times_lshift_ vs) H := by
  obtain ⟨F0, pp, lk, os, a_self, a_other, x_a_self, rfl, I, r_a_self, h⟩ := h
  obtain ⟨F, eF⟩ : ∃ F, F = F0 := ⟨_, rfl⟩
  have s : Same F0 F := by rw [eF]; exact Same.refl _
  rw [← eF] at I
  rw [← eF] at r_a_self
  clear eF
  obtain ⟨QQ, hQ, h⟩ : ∃ QQ : O_Times → Prop, (∀ r, QQ r → ∀ F1 H1 y, Same F0 F1 → Own K F1 H1 ⟨pp, none⟩ os → Rp.rep K F1 y r → Q y H1) ∧ (p_Times_lshift_ a_self a_other).run QQ (fun _ => False) := ⟨_, fun r h => h, h⟩
  unfold p_Times_lshift_ at h
  unfold t_Times_lshift_
  rw [st_Times_lshift_]
  refine c_seq ?_
  refine c_ifS ?_
  refine c_not ?_
  refine c_tB ?_
  refine c_cb ?_
  refine c_cons ?_
  refine c_var (by exact rfl) ?_
  refine c_cons ?_
  refine c_c ?_
  refine c_nil ?_
  refine ⟨_, _, _, _, true, rfl, .ty _, .base (.int _), kit_ty (by decide +kernel), ?_⟩
  refine c_bl ?_
  refine x_ifF rfl ?_
  refine c_next ?_
  refine c_ret ?_
  refine c_make ?_
  refine c_cons ?_
  refine c_fldC ?_
  refine c_var (by exact rfl) ?_
  obtain ⟨ao1, dxo1, fso1, xo1, exo1, qo1, lo1, rxo1⟩ := fld_Times__round r_a_self
  obtain rfl : xo1 = V.int a_self.f_round := rxo1
  refine ⟨ao1, dxo1, fso1, _, exo1, I.ex _ _ qo1, lo1, ?_⟩
  refine c_cons ?_
  refine c_dc ?_
  refine c_iList ?_
  refine c_fldC ?_
  refine c_var (by exact rfl) ?_
  obtain ⟨ao2, dxo2, fso2, xo2, exo2, qo2, lo2, rxo2⟩ := fld_Times__names r_a_self
  refine ⟨ao2, dxo2, fso2, _, exo2, I.ex _ _ qo2, lo2, ?_⟩
  refine x_iList I rxo2 fun _ tw => ?_
  intro D4 nD
  refine x_dc tw I (Same.refl _) (fun z => trivial) nD h ?hse3 ?hde3
  case hse3 =>
    intro e3 xe3 F H acc Nx Q1 s1 I rxe3 h hy hn
    have r_a_self := Rp.mono s1 r_a_self
    have s := Same.trans s s1
    have sm5 : Same F F := Same.refl F
    obtain rfl : xe3 = V.str e3 := rxe3
    show gName 2 _ [(some x_a_self), (some (V.int a_other)), none] _ _
    refine c_name (by simp only [List.set_cons_zero, List.set_cons_succ]; exact rfl) ?_
    refine ⟨rfl, ?_⟩
    refine c_tYes ?_
    refine L2.iteT ?_
    refine c_var (by exact rfl) ?_
    refine c_op ?_
    refine c_op ?_
    refine c_dget ?_
    refine c_fldC ?_
    refine c_var (by exact rfl) ?_
    obtain ⟨ao6, dxo6, fso6, xo6, exo6, qo6, lo6, rxo6⟩ := fld_Times__minutes r_a_self
    refine ⟨ao6, dxo6, fso6, _, exo6, I.ex _ _ qo6, lo6, ?_⟩
    refine c_var (by exact rfl) ?_
    refine x_dget I rxo6 rfl h fun v7 xv7 rv7 h => ?_
    obtain rfl : xv7 = V.int v7 := rv7
    refine c_var (by exact rfl) ?_
    refine v_subI ?_
    refine c_fldC ?_
    refine c_var (by exact rfl) ?_
    obtain ⟨ao8, dxo8, fso8, xo8, exo8, qo8, lo8, rxo8⟩ := fld_Times__round r_a_self
    obtain rfl : xo8 = V.int a_self.f_round := rxo8
    refine ⟨ao8, dxo8, fso8, _, exo8, I.ex _ _ qo8, lo8, ?_⟩
    refine x_modI h fun h => ?_
    try generalize ((v7 - a_other) % a_self.f_round) = v9 at h ⊢
    exact hy _ _ _ _ _ sm5 I rfl rfl h
  intro F H ysv10 v10 s1 I rv10 h
  have r_a_self := Rp.mono s1 r_a_self
  have s := Same.trans s s1
  obtain ⟨F, s1, I, rxv10⟩ := x_frzD I rv10
  have r_a_self := Rp.mono s1 r_a_self
  have s := Same.trans s s1
  refine c_nil ?_
  refine x_make (obR_Times K) I h (fun _ _ F s1 I h => cl_Times_init_ (lk := none) I (Rp.mono s1 rxv10) h) fun v11 F H xv11 s1 I rv11 h => ?_
  have r_a_self := Rp.mono s1 r_a_self
  have s := Same.trans s s1
  exact hQ _ h _ _ _ s I rv11
/-! Times_rshift_ -/
def sp_Times_rshift_ (K : PySem.W.Frag) : Sp := fun vs H Q _ => ∃ (F0 : Hp) (pp : Option Addr) (lk : Option Addr) (os : Os) (a_self : O_Times) (a_other : Int) (x_a_self : V), vs = [x_a_self, (V.int a_other)] ∧ Own K F0 H ⟨pp, none⟩ os ∧ Rp.rep K F0 x_a_self a_self ∧ (p_Times_rshift_ a_self a_other).run (fun r => ∀ F1 H1 y, Same F0 F1 → Own K F1 H1 ⟨pp, none⟩ os → Rp.rep K F1 y r → Q y H1) (fun _ => False)
theorem len_Times_rshift_ {K : PySem.W.Frag} : ∀ vs H Q E, sp_Times_rshift_ K vs H Q E → vs.length = 2 := by
  rintro vs H Q E ⟨_, _, _, _, _, _, _, rfl, _⟩; rfl
theorem cl_Times_rshift_ {K : PySem.W.Frag} {F0 H : Hp} {pp : Option Addr} {lk : Option Addr} {os : Os} {Q : VK} {E : XK} {a_self : O_Times} {a_other : Int} {x_a_self : V} (I : Own K F0 H ⟨pp, none⟩ os) (r_a_self : Rp.rep K F0 x_a_self a_self) (h : (p_Times_rshift_ a_self a_other).run (fun r => ∀ F1 H1 y, Same F0 F1 → Own K F1 H1 ⟨pp, none⟩ os → Rp.rep K F1 y r → Q y H1) (fun _ => False)) : sp_Times_rshift_ K ([x_a_self, (V.int a_other)] ++ []) H Q E := ⟨F0, pp, lk, os, a_self, a_other, x_a_self, rfl, I, r_a_self, h⟩
abbrev N_Times_rshift_ : List Str := [(Str.ofString "self"), (Str.ofString "other"), (Str.ofString "name")]
theorem st_Times_rshift_ (v0 v1 : V) : start N_Times_rshift_ [v0, v1] = [some v0, some v1, none] := rfl
def t_Times_rshift_ (K : PySem.W.Frag) (E : XK) : TS := (tSeq (tIfS (tNot (tB (tCB (rIsi K) (tCons (tVar 1) (tCons (tC (.ty "int")) tNil))))) tNever tNext)
  (tRet (tMake (He.ga K (Str.ofString "Times")) (sp_Times_init_ K) [] E (tCons (tFldC (He.ga K (Str.ofString "Times")) (tVar 0) (Str.ofString "_round")) (tCons (tDc (iList K (tFldC (He.ga K (Str.ofString "Times")) (tVar 0) (Str.ofString "_names"))) (gName 2) tYes (tVar 2) (tOp rModI (tOp rAddI (tDGet (tFldC (He.ga K (Str.ofString "Times")) (tVar 0) (Str.ofString "_minutes")) (tVar 2)) (tVar 1)) (tFldC (He.ga K (Str.ofString "Times")) (tVar 0) (Str.ofString "_round"))) [2]) tNil)))))
set_option maxHeartbeats 4000000 in
theorem rd_Times_rshift_ {K : PySem.W.Frag} {vs : List V} {H : Hp} {Q : VK} {E : XK} (h : sp_Times_rshift_ K vs H Q E) : t_Times_rshift_ K E { nx := fun _ H1 => Q .non H1, rt := Q } (start N_Times_rshift_ vs) H := by
  obtain ⟨F0, pp, lk, os, a_self, a_other, x_a_self, rfl, I, r_a_self, h⟩ := h
  obtain ⟨F, eF⟩ : ∃ F, F = F0 := ⟨_, rfl⟩
  have s : Same F0 F := by rw [eF]; exact Same.refl _
  rw [← eF] at I
  rw [← eF] at r_a_self
  clear eF
  obtain ⟨QQ, hQ, h⟩ : ∃ QQ : O_Times → Prop, (∀ r, QQ r → ∀ F1 H1 y, Same F0 F1 → Own K F1 H1 ⟨pp, none⟩ os → Rp.rep K F1 y r → Q y H1) ∧ (p_Times_rshift_ a_self a_other).run QQ (fun _ => False) := ⟨_, fun r h => h, h⟩
  unfold p_Times_rshift_ at h
  unfold t_Times_rshift_
  rw [st_Times_rshift_]
  refine c_seq ?_
  refine c_ifS ?_
  refine c_not ?_
  refine c_tB ?_
  refine c_cb ?_
  refine c_cons ?_
  refine c_var (by exact rfl) ?_
  refine c_cons ?_
  refine c_c ?_
  refine c_nil ?_
  refine ⟨_, _, _, _, true, rfl, .ty _, .base (.int _), kit_ty (by decide +kernel), ?_⟩
  refine c_bl ?_
  refine x_ifF rfl ?_
  refine c_next ?_
  refine c_ret ?_
  refine c_make ?_
  refine c_cons ?_
  refine c_fldC ?_
  refine c_var (by exact rfl) ?_
  obtain ⟨ao1, dxo1, fso1, xo1, exo1, qo1, lo1, rxo1⟩ := fld_Times__round r_a_self
  obtain rfl : xo1 = V.int a_self.f_round := rxo1
  refine ⟨ao1, dxo1, fso1, _, exo1, I.ex _ _ qo1, lo1, ?_⟩
  refine c_cons ?_
  refine c_dc ?_
  refine c_iList ?_
  refine c_fldC ?_
  refine c_var (by exact rfl) ?_
  obtain ⟨ao2, dxo2, fso2, xo2, exo2, qo2, lo2, rxo2⟩ := fld_Times__names r_a_self
  refine ⟨ao2, dxo2, fso2, _, exo2, I.ex _ _ qo2, lo2, ?_⟩
  refine x_iList I rxo2 fun _ tw => ?_
  intro D4 nD
  refine x_dc tw I (Same.refl _) (fun z => trivial) nD h ?hse3 ?hde3
  case hse3 =>
    intro e3 xe3 F H acc Nx Q1 s1 I rxe3 h hy hn
    have r_a_self := Rp.mono s1 r_a_self
    have s := Same.trans s s1
    have sm5 : Same F F := Same.refl F
    obtain rfl : xe3 = V.str e3 := rxe3
    show gName 2 _ [(some x_a_self), (some (V.int a_other)), none] _ _
    refine c_name (by simp only [List.set_cons_zero, List.set_cons_succ]; exact rfl) ?_
    refine ⟨rfl, ?_⟩
    refine c_tYes ?_
    refine L2.iteT ?_
    refine c_var (by exact rfl) ?_
    refine c_op ?_
    refine c_op ?_
    refine c_dget ?_
    refine c_fldC ?_
    refine c_var (by exact rfl) ?_
    obtain ⟨ao6, dxo6, fso6, xo6, exo6, qo6, lo6, rxo6⟩ := fld_Times__minutes r_a_self
    refine ⟨ao6, dxo6, fso6, _, exo6, I.ex _ _ qo6, lo6, ?_⟩
    refine c_var (by exact rfl) ?_
    refine x_dget I rxo6 rfl h fun v7 xv7 rv7 h => ?_
    obtain rfl : xv7 = V.int v7 := rv7
    refine c_var (by exact rfl) ?_
    refine v_addI ?_
    refine c_fldC ?_
    refine c_var (by exact rfl) ?_
    obtain ⟨ao8, dxo8, fso8, xo8, exo8, qo8, lo8, rxo8⟩ := fld_Times__round r_a_self
    obtain rfl : xo8 = V.int a_self.f_round := rxo8
    refine ⟨ao8, dxo8, fso8, _, exo8, I.ex _ _ qo8, lo8, ?_⟩
    refine x_modI h fun h => ?_
    try generalize ((v7 + a_other) % a_self.f_round) = v9 at h ⊢
    exact hy _ _ _ _ _ sm5 I rfl rfl h
  intro F H ysv10 v10 s1 I rv10 h
  have r_a_self := Rp.mono s1 r_a_self
  have s := Same.trans s s1
  obtain ⟨F, s1, I, rxv10⟩ := x_frzD I rv10
  have r_a_self := Rp.mono s1 r_a_self
  have s := Same.trans s s1
  refine c_nil ?_
  refine x_make (obR_Times K) I h (fun _ _ F s1 I h => cl_Times_init_ (lk := none) I (Rp.mono s1 rxv10) h) fun v11 F H xv11 s1 I rv11 h => ?_
  have r_a_self := Rp.mono s1 r_a_self
  have s := Same.trans s s1
  exact hQ _ h _ _ _ s I rv11
/-! Times_mirrored -/
def sp_Times_mirrored (K : PySem.W.Frag) : Sp := fun vs H Q _ => ∃ (F0 : Hp) (pp : Option Addr) (lk : Option Addr) (os : Os) (a_self : O_Times) (x_a_self : V), vs = [x_a_self] ∧ Own K F0 H ⟨pp, none⟩ os ∧ Rp.rep K F0 x_a_self a_self ∧ (p_Times_mirrored a_self).run (fun r => ∀ F1 H1 y, Same F0 F1 → Own K F1 H1 ⟨pp, none⟩ os → Rp.rep K F1 y r → Q y H1) (fun _ => False)
theorem len_Times_mirrored {K : PySem.W.Frag} : ∀ vs H Q E, sp_Times_mirrored K vs H Q E → vs.length = 1 := by
  rintro vs H Q E ⟨_, _, _, _, _, _, rfl, _⟩; rfl
theorem cl_Times_mirrored {K : PySem.W.Frag} {F0 H : Hp} {pp : Option Addr} {lk : Option Addr} {os : Os} {Q : VK} {E : XK} {a_self : O_Times} {x_a_self : V} (I : Own K F0 H ⟨pp, none⟩ os) (r_a_self : Rp.rep K F0 x_a_self a_self) (h : (p_Times_mirrored a_self).run (fun r => ∀ F1 H1 y, Same F0 F1 → Own K F1 H1 ⟨pp, none⟩ os → Rp.rep K F1 y r → Q y H1) (fun _ => False)) : sp_Times_mirrored K (x_a_self :: ([] ++ [])) H Q E := ⟨F0, pp, lk, os, a_self, x_a_self, rfl, I, r_a_self, h⟩
abbrev N_Times_mirrored : List Str := [(Str.ofString "self"), (Str.ofString "name")]
theorem st_Times_mirrored (v0 : V) : start N_Times_mirrored [v0] = [some v0, none] := rfl
def t_Times_mirrored (K : PySem.W.Frag) (E : XK) : TS := (tRet (tMake (He.ga K (Str.ofString "Times")) (sp_Times_init_ K) [] E (tCons (tFldC (He.ga K (Str.ofString "Times")) (tVar 0) (Str.ofString "_round")) (tCons (tDc (iList K (tFldC (He.ga K (Str.ofString "Times")) (tVar 0) (Str.ofString "_names"))) (gName 1) tYes (tVar 1) (tOp rModI (tUn rNegI (tDGet (tFldC (He.ga K (Str.ofString "Times")) (tVar 0) (Str.ofString "_minutes")) (tVar 1))) (tFldC (He.ga K (Str.ofString "Times")) (tVar 0) (Str.ofString "_round"))) [1]) tNil))))
set_option maxHeartbeats 4000000 in
theorem rd_Times_mirrored {K : PySem.W.Frag} {vs : List V} {H : Hp} {Q : VK} {E : XK} (h : sp_Times_mirrored K vs H Q E) : t_Times_mirrored K E { nx := fun _ H1 => Q .non H1, rt := Q } (start N_Times_mirrored vs) H := by
  obtain ⟨F0, pp, lk, os, a_self, x_a_self, rfl, I, r_a_self, h⟩ := h
  obtain ⟨F, eF⟩ : ∃ F, F = F0 := ⟨_, rfl⟩
  have s : Same F0 F := by rw [eF]; exact Same.refl _
  rw [← eF] at I
  rw [← eF] at r_a_self
  clear eF
  obtain ⟨QQ, hQ, h⟩ : ∃ QQ : O_Times → Prop, (∀ r, QQ r → ∀ F1 H1 y, Same F0 F1 → Own K F1 H1 ⟨pp, none⟩ os → Rp.rep K F1 y r → Q y H1) ∧ (p_Times_mirrored a_self).run QQ (fun _ => False) := ⟨_, fun r h => h, h⟩
  unfold p_Times_mirrored at h
  unfold t_Times_mirrored
  rw [st_Times_mirrored]
  refine c_ret ?_
  refine c_make ?_
  refine c_cons ?_
  refine c_fldC ?_
  refine c_var (by exact rfl) ?_
  obtain ⟨ao1, dxo1, fso1, xo1, exo1, qo1, lo1, rxo1⟩ := fld_Times__round r_a_self
  obtain rfl : xo1 = V.int a_self.f_round := rxo1
  refine ⟨ao1, dxo1, fso1, _, exo1, I.ex _ _ qo1, lo1, ?_⟩
  refine c_cons ?_
  refine c_dc ?_
  refine c_iList ?_
  refine c_fldC ?_
  refine c_var (by exact rfl) ?_
  obtain ⟨ao2, dxo2, fso2, xo2, exo2, qo2, lo2, rxo2⟩ := fld_Times__names r_a_self
  refine ⟨ao2, dxo2, fso2, _, exo2, I.ex _ _ qo2, lo2, ?_⟩
  refine x_iList I rxo2 fun _ tw => ?_
  intro D4 nD
  refine x_dc tw I (Same.refl _) (fun z => trivial) nD h ?hse3 ?hde3
  case hse3 =>
    intro e3 xe3 F H acc Nx Q1 s1 I rxe3 h hy hn
    have r_a_self := Rp.mono s1 r_a_self
    have s := Same.trans s s1
    have sm5 : Same F F := Same.refl F
    obtain rfl : xe3 = V.str e3 := rxe3
    show gName 1 _ [(some x_a_self), none] _ _
    refine c_name (by simp only [List.set_cons_zero, List.set_cons_succ]; exact rfl) ?_
    refine ⟨rfl, ?_⟩
    refine c_tYes ?_
    refine L2.iteT ?_
    refine c_var (by exact rfl) ?_
    refine c_op ?_
    refine c_un ?_
    refine c_dget ?_
    refine c_fldC ?_
    refine c_var (by exact rfl) ?_
    obtain ⟨ao6, dxo6, fso6, xo6, exo6, qo6, lo6, rxo6⟩ := fld_Times__minutes r_a_self
    refine ⟨ao6, dxo6, fso6, _, exo6, I.ex _ _ qo6, lo6, ?_⟩
    refine c_var (by exact rfl) ?_
    refine x_dget I rxo6 rfl h fun v7 xv7 rv7 h => ?_
    obtain rfl : xv7 = V.int v7 := rv7
    refine v_negI ?_
    refine c_fldC ?_
    refine c_var (by exact rfl) ?_
    obtain ⟨ao8, dxo8, fso8, xo8, exo8, qo8, lo8, rxo8⟩ := fld_Times__round r_a_self
    obtain rfl : xo8 = V.int a_self.f_round := rxo8
    refine ⟨ao8, dxo8, fso8, _, exo8, I.ex _ _ qo8, lo8, ?_⟩
    refine x_modI h fun h => ?_
    try generalize ((-v7) % a_self.f_round) = v9 at h ⊢
    exact hy _ _ _ _ _ sm5 I rfl rfl h
  intro F H ysv10 v10 s1 I rv10 h
  have r_a_self := Rp.mono s1 r_a_self
  have s := Same.trans s s1
  obtain ⟨F, s1, I, rxv10⟩ := x_frzD I rv10
  have r_a_self := Rp.mono s1 r_a_self
  have s := Same.trans s s1
  refine c_nil ?_
  refine x_make (obR_Times K) I h (fun _ _ F s1 I h => cl_Times_init_ (lk := none) I (Rp.mono s1 rxv10) h) fun v11 F H xv11 s1 I rv11 h => ?_
  have r_a_self := Rp.mono s1 r_a_self
  have s := Same.trans s s1
  exact hQ _ h _ _ _ s I rv11
/-! law -/
abbrev N_law : List Str := [(Str.ofString "_law_script"), (Str.ofString "_law_pool_here"), (Str.ofString "_law_length_here"), (Str.ofString "_law_names_here"), (Str.ofString "_law_minutes_here"), (Str.ofString "_law_name"), (Str.ofString "_law_stranger_here"), (Str.ofString "_law_k"), (Str.ofString "_law_due"), (Str.ofString "_law_given"), (Str.ofString "_law_times"), (Str.ofString "_law_got"), (Str.ofString "_law_turned_here"), (Str.ofString "_law_other"), (Str.ofString "_law_mirror"), (Str.ofString "_law_many"), (Str.ofString "_law_zeros")]
theorem st_law (v0 : V) : start N_law [v0] = [some v0, none, none, none, none, none, none, none, none, none, none, none, none, none, none, none, none] := rfl
def t_law (K : PySem.W.Frag) (E : XK) : TS := (tSeq (tAsg (tCall (sp_l_pool K) [] E (tCons (tVar 0) tNil)) (gName 1))
  (tSeq (tAsg (tCall (sp_l_length K) [] E (tCons (tVar 1) (tCons (tC (.int 120)) tNil))) (gName 2))
  (tSeq (tAsg (tCall (sp_l_names K) [] E (tCons (tVar 1) (tCons (tCall (sp_l_size K) [] E (tCons (tVar 1) (tCons (tC (.int 12)) tNil))) tNil))) (gName 3))
  (tSeq (tAsg (tLc (iList K (tVar 3)) (gName 5) tYes (tCall (sp_l_some K) [] E0 (tCons (tVar 1) (tCons (tOp rSubI (tVar 2) (tC (.int 1))) tNil))) [5]) (gName 4))
  (tSeq (tAsg (tCall (sp_l_stranger K) [] E (tCons (tVar 1) (tCons (tVar 3) tNil))) (gName 6))
  (tSeq (tAsg (tCall (sp_l_draw K) [] E (tCons (tVar 1) (tCons (tC (.int 2)) tNil))) (gName 7))
  (tSeq (tIfS (tTest (tOp rEq (tVar 7) (tC (.int 0)))) (tAsg (tOp rSubI (tCall (sp_l_draw K) [] E (tCons (tVar 1) (tCons (tOp rAddI (tOp rMulI (tC (.int 4)) (tVar 2)) (tC (.int 1))) tNil))) (tOp rMulI (tC (.int 2)) (tVar 2))) (gName 7)) (tAsg (tOp rSubI (tCall (sp_l_draw K) [] E (tCons (tVar 1) (tCons (tOp rAddI (tOp rMulI (tC (.int 2)) (tOp rPowI (tC (.int 10)) (tC (.int 9)))) (tC (.int 1))) tNil))) (tOp rPowI (tC (.int 10)) (tC (.int 9)))) (gName 7)))
  (tSeq (tAsg (tCall (sp_l_minutes K) [] E (tCons (tVar 3) (tCons (tVar 4) (tCons (tC (.int 0)) tNil)))) (gName 8))
  (tSeq (tAsg (tCall (sp_l_minutes K) [] E (tCons (tVar 3) (tCons (tVar 4) (tCons (tC (.int 0)) tNil)))) (gName 9))
  (tSeq (tAsg (tMake (He.ga K (Str.ofString "Times")) (sp_Times_init_ K) [] E (tCons (tVar 2) (tCons (tVar 9) tNil))) (gName 10))
  (tSeq (tIfS (tOr (tNot (tB (tCall (sp_l_told K) [] E (tCons (tVar 10) (tCons (tVar 2) (tCons (tVar 8) (tCons (tVar 6) tNil))))))) (tNot (tB (tCall (sp_l_same K) [] E (tCons (tVar 9) (tCons (tVar 8) tNil)))))) (tRet (tC (.bl false))) tNext)
  (tSeq (tFor (iList K (tSl (rSlL K) (tVar 3) tNoPart (tPart (tC (.int 1))))) (gName 5) (sDPut (tVar 9) (tVar 5) (tOp rModI (tCB rIntI (tCons (tOp rAddI (tDGet (tVar 8) (tVar 5)) (tC (.int 1))) tNil)) (tVar 2))))
  (tSeq (sDPut (tVar 9) (tVar 6) (tC (.int 0)))
  (tSeq (tAsg (tProp (He.ga K (Str.ofString "Times")) (sp_Times_minutes K) [] E0 (tVar 10)) (gName 11))
  (tSeq (sDPut (tVar 11) (tVar 6) (tC (.int 1)))
  (tSeq (tIfS (tNot (tB (tCall (sp_l_told K) [] E (tCons (tVar 10) (tCons (tVar 2) (tCons (tVar 8) (tCons (tVar 6) tNil))))))) (tRet (tC (.bl false))) tNext)
  (tSeq (tAsg (tCall (sp_l_minutes K) [] E (tCons (tVar 3) (tCons (tVar 4) (tCons (tCall (sp_l_draw K) [] E (tCons (tVar 1) (tCons (tCB rMax2 (tCons (tC (.int 1)) (tCons (tCB (rLenQ K) (tCons (tVar 3) tNil)) tNil))) tNil))) tNil)))) (gName 12))
  (tSeq (tIfS (tNot (tB (tCall (sp_l_same K) [] E (tCons (tOp (rOpO (He.ga K (Str.ofString "Times")) (sp_Times_eq_ K) E) (tVar 10) (tMake (He.ga K (Str.ofString "Times")) (sp_Times_init_ K) [] E (tCons (tVar 2) (tCons (tVar 12) tNil)))) (tCons (tC (.bl true)) tNil))))) (tRet (tC (.bl false))) tNext)
  (tSeq (tFor (iList K (tCall (sp_l_others K) [] E (tCons (tVar 1) (tCons (tVar 2) (tCons (tVar 3) (tCons (tVar 4) (tCons (tVar 6) tNil))))))) (gName 13) (tIfS (tNot (tB (tCall (sp_l_same K) [] E (tCons (tOp (rOpO (He.ga K (Str.ofString "Times")) (sp_Times_eq_ K) E) (tVar 10) (tMake (He.ga K (Str.ofString "Times")) (sp_Times_init_ K) [] E (tCons (tOp (rIxL K) (tVar 13) (tC (.int 0))) (tCons (tOp (rIxL K) (tVar 13) (tC (.int 1))) tNil)))) (tCons (tC (.bl false)) tNil))))) (tRet (tC (.bl false))) tNext))
  (tSeq (tIfS (tNot (tB (tCall (sp_l_told K) [] E (tCons (tOp (rOpI (He.ga K (Str.ofString "Times")) (sp_Times_rshift_ K) E) (tVar 10) (tVar 7)) (tCons (tVar 2) (tCons (tCall (sp_l_turned K) [] E (tCons (tVar 8) (tCons (tC (.int 1)) (tCons (tVar 7) (tCons (tVar 2) tNil))))) (tCons (tVar 6) tNil))))))) (tRet (tC (.bl false))) tNext)
  (tSeq (tIfS (tNot (tB (tCall (sp_l_told K) [] E (tCons (tOp (rOpI (He.ga K (Str.ofString "Times")) (sp_Times_lshift_ K) E) (tVar 10) (tVar 7)) (tCons (tVar 2) (tCons (tCall (sp_l_turned K) [] E (tCons (tVar 8) (tCons (tC (.int 1)) (tCons (tUn rNegI (tVar 7)) (tCons (tVar 2) tNil))))) (tCons (tVar 6) tNil))))))) (tRet (tC (.bl false))) tNext)
  (tSeq (tAsg (tMeth (He.ga K (Str.ofString "Times")) (Str.ofString "mirrored") (sp_Times_mirrored K) [] E (tVar 10) tNil) (gName 14))
  (tSeq (tIfS (tNot (tB (tCall (sp_l_told K) [] E (tCons (tVar 14) (tCons (tVar 2) (tCons (tCall (sp_l_turned K) [] E (tCons (tVar 8) (tCons (tUn rNegI (tC (.int 1))) (tCons (tC (.int 0)) (tCons (tVar 2) tNil))))) (tCons (tVar 6) tNil))))))) (tRet (tC (.bl false))) tNext)
  (tSeq (tIfS (tNot (tB (tCall (sp_l_same K) [] E (tCons (tOp (rOpO (He.ga K (Str.ofString "Times")) (sp_Times_eq_ K) E) (tMeth (He.ga K (Str.ofString "Times")) (Str.ofString "mirrored") (sp_Times_mirrored K) [] E (tVar 14) tNil) (tVar 10)) (tCons (tC (.bl true)) tNil))))) (tRet (tC (.bl false))) tNext)
  (tSeq (tFor (iRng1 (tCons (tOp rAddI (tCB rMin2 (tCons (tC (.int 5)) (tCons (tCB (rLenQ K) (tCons (tVar 3) tNil)) tNil))) (tC (.int 1))) tNil)) (gName 15) (tSeq (tAsg (tCall (sp_l_minutes K) [] E (tCons (tSl (rSlL K) (tVar 3) tNoPart (tPart (tVar 15))) (tCons (tLst (tCons (tC (.int 0)) (tCons (tC (.int 0)) (tCons (tC (.int 0)) (tCons (tC (.int 0)) (tCons (tC (.int 0)) tNil)))))) (tCons (tC (.int 0)) tNil)))) (gName 16))
  (tIfS (tNot (tB (tCall (sp_l_told K) [] E (tCons (tCall (sp_l_zero K) [] E (tCons (tVar 2) (tCons (tVar 3) (tCons (tVar 15) tNil)))) (tCons (tVar 2) (tCons (tVar 16) (tCons (tVar 6) tNil))))))) (tRet (tC (.bl false))) tNext)))
  (tRet (tCall (sp_l_told K) [] E (tCons (tVar 10) (tCons (tVar 2) (tCons (tVar 8) (tCons (tVar 6) tNil)))))))))))))))))))))))))))))))
def sp_law (K : PySem.W.Frag) : Sp := fun vs H Q _ => ∃ (a : Addr) (ns : List Int), vs = [.ref a] ∧ SqL K H a (ns.map V.int) ∧ ns.length ≤ 63 ∧ Only H ∧ ∀ H1, Q (.bl true) H1
theorem len_law {K : PySem.W.Frag} : ∀ vs H Q E, sp_law K vs H Q E → vs.length = 1 := by
  rintro vs H Q E ⟨z, ns, rfl, _⟩; rfl
set_option maxHeartbeats 4000000 in
theorem rd_law {K : PySem.W.Frag} {vs : List V} {H : Hp} {Q : VK} {E : XK} (h : sp_law K vs H Q E) : t_law K E { nx := fun _ H1 => Q .non H1, rt := Q } (start N_law vs) H := by
  obtain ⟨a0, a_script, rfl, hs, hlen, hO, k⟩ := h
  have hz : ∀ (a : Addr) (w : Obj) (u : List (Key × V)), H a ≠ some (.frz w (.dK u)) := fun a w u e => by
    rcases hO a with h | ⟨o, xs, h⟩ <;> rw [h] at e <;> cases e
  obtain ⟨QQ, hQ, h⟩ : ∃ QQ : Bool → Prop, (∀ r, QQ r → ∀ H1, Q (.bl r) H1) ∧ (p_law a_script).run QQ (fun _ => False) := ⟨_, fun r e H1 => by rw [e]; exact k H1, law_holds a_script hlen⟩
  obtain ⟨F, eF⟩ : ∃ F, F = H := ⟨_, rfl⟩
  have I : Own K F H ⟨none, none⟩ [] := by rw [eF]; exact Own.start hz
  have s : Same F F := Same.refl F
  have r_a_script : ∃ p, V.ref a0 = .ref p ∧ SqL K F p (a_script.map V.int) := ⟨a0, rfl, by rw [eF]; exact hs⟩
  generalize V.ref a0 = x_a_script at r_a_script
  unfold p_law at h
  unfold t_law
  rw [st_law]
  refine c_seq ?_
  refine c_asg ?_
  refine c_call ?_
  refine c_cons ?_
  refine c_var (by exact rfl) ?_
  refine c_nil ?_
  refine cx_pool I r_a_script hz hlen fun pp F H s1 I => ?_
  have s := Same.trans s s1
  refine c_name (by simp only [List.set_cons_zero, List.set_cons_succ]; exact rfl) ?_
  refine c_seq ?_
  refine c_asg ?_
  refine c_call ?_
  refine c_cons ?_
  refine c_var (by exact rfl) ?_
  refine c_cons ?_
  refine c_c ?_
  refine c_nil ?_
  refine cl_l_length I (D.call h (fun v1 h F H xv1 s1 I rv1 => ?_) (fun _ h => h))
  have s := Same.trans s s1
  obtain rfl : xv1 = V.int v1 := rv1
  refine c_name (by simp only [List.set_cons_zero, List.set_cons_succ]; exact rfl) ?_
  refine c_seq ?_
  refine c_asg ?_
  refine c_call ?_
  refine c_cons ?_
  refine c_var (by exact rfl) ?_
  refine c_cons ?_
  refine c_call ?_
  refine c_cons ?_
  refine c_var (by exact rfl) ?_
  refine c_cons ?_
  refine c_c ?_
  refine c_nil ?_
  refine cl_l_size I (D.call h (fun v2 h F H xv2 s1 I rv2 => ?_) (fun _ h => h))
  have s := Same.trans s s1
  obtain rfl : xv2 = V.int v2 := rv2
  refine c_nil ?_
  refine cl_l_names I (D.call h (fun v3 h F H xv3 s1 I rv3 => ?_) (fun _ h => h))
  have s := Same.trans s s1
  refine c_name (by simp only [List.set_cons_zero, List.set_cons_succ]; exact rfl) ?_
  refine c_seq ?_
  refine c_asg ?_
  refine c_lc ?_
  refine c_iList ?_
  refine c_var (by exact rfl) ?_
  refine x_iList I rv3 fun _ tw => ?_
  intro D5 nD
  refine x_lc tw I (Same.refl _) (fun z => trivial) nD h ?hse4 ?hde4
  case hse4 =>
    intro e4 xe4 F H acc Nx Q1 s1 I rxe4 h hy hn
    have rv3 := Rp.mono s1 rv3
    have s := Same.trans s s1
    have sm6 : Same F F := Same.refl F
    obtain rfl : xe4 = V.str e4 := rxe4
    show gName 5 _ [(some x_a_script), (some (V.ref pp)), (some (V.int v1)), (some xv3), none, none, none, none, none, none, none, none, none, none, none, none, none] _ _
    refine c_name (by simp only [List.set_cons_zero, List.set_cons_succ]; exact rfl) ?_
    refine ⟨rfl, ?_⟩
    refine c_tYes ?_
    refine L2.iteT ?_
    refine c_call ?_
    refine c_cons ?_
    refine c_var (by exact rfl) ?_
    refine c_cons ?_
    refine c_op ?_
    refine c_var (by exact rfl) ?_
    refine c_c ?_
    refine v_subI ?_
    refine c_nil ?_
    refine cl_l_some I (D.call h (fun v7 h F H xv7 s1 I rv7 => ?_) (fun _ h => h))
    have rv3 := Rp.mono s1 rv3
    have s := Same.trans s s1
    have sm6 := Same.trans sm6 s1
    obtain rfl : xv7 = V.int v7 := rv7
    exact hy _ _ _ _ sm6 I rfl h
  intro F H ysv8 v8 s1 I rv8 h
  have rv3 := Rp.mono s1 rv3
  have s := Same.trans s s1
  obtain ⟨F, s1, I, rxv8⟩ := x_frz I rv8
  have rv3 := Rp.mono s1 rv3
  have s := Same.trans s s1
  refine c_name (by simp only [List.set_cons_zero, List.set_cons_succ]; exact rfl) ?_
  refine c_seq ?_
  refine c_asg ?_
  refine c_call ?_
  refine c_cons ?_
  refine c_var (by exact rfl) ?_
  refine c_cons ?_
  refine c_var (by exact rfl) ?_
  refine c_nil ?_
  refine cl_l_stranger I (RepB.of rv3) (D.call h (fun v9 h F H xv9 s1 I rv9 => ?_) (fun _ h => h))
  have rv3 := Rp.mono s1 rv3
  have rxv8 := Rp.mono s1 rxv8
  have s := Same.trans s s1
  obtain rfl : xv9 = V.str v9 := rv9
  refine c_name (by simp only [List.set_cons_zero, List.set_cons_succ]; exact rfl) ?_
  refine c_seq ?_
  refine c_asg ?_
  refine c_call ?_
  refine c_cons ?_
  refine c_var (by exact rfl) ?_
  refine c_cons ?_
  refine c_c ?_
  refine c_nil ?_
  refine cx_draw I h fun v10 F H s1 I h => ?_
  have rv3 := Rp.mono s1 rv3
  have rxv8 := Rp.mono s1 rxv8
  have s := Same.trans s s1
  refine c_name (by simp only [List.set_cons_zero, List.set_cons_succ]; exact rfl) ?_
  refine c_seq ?_
  obtain ⟨jp11, ejp11, h⟩ := x_jn h
  refine c_join (fun σ1 H1 => ∃ (v15 : Int) (F1 : Hp), σ1 = [(some x_a_script), (some (V.ref pp)), (some (V.int v1)), (some xv3), (some (V.ref D5)), none, (some (V.str v9)), (some (V.int v15)), none, none, none, none, none, none, none, none, none] ∧ Same F F1 ∧ Own K F1 H1 ⟨some pp, none⟩ ([]) ∧ (jp11 v15).run QQ (fun _ => False)) (fun nx1 hn => ?_) ?_
  · skip
    have sm12 : Same F F := Same.refl F
    refine c_ifS ?_
    refine c_test ?_
    refine c_op ?_
    refine c_var (by exact rfl) ?_
    refine c_c ?_
    refine v_eqI ?_
    refine c_bl ?_
    refine x_if h (fun hc h => ?_) (fun hc h => ?_)
    · skip
      refine c_asg ?_
      refine c_op ?_
      refine c_call ?_
      refine c_cons ?_
      refine c_var (by exact rfl) ?_
      refine c_cons ?_
      refine c_op ?_
      refine c_op ?_
      refine c_c ?_
      refine c_var (by exact rfl) ?_
      refine v_mulI (by first | exact Or.inr ⟨by decide, by decide⟩ | exact Or.inl ⟨by decide, by decide⟩) ?_
      refine c_c ?_
      refine v_addI ?_
      refine c_nil ?_
      refine cx_draw I h fun v13 F H s1 I h => ?_
      have rv3 := Rp.mono s1 rv3
      have rxv8 := Rp.mono s1 rxv8
      have s := Same.trans s s1
      have sm12 := Same.trans sm12 s1
      refine c_op ?_
      refine c_c ?_
      refine c_var (by exact rfl) ?_
      refine v_mulI (by first | exact Or.inr ⟨by decide, by decide⟩ | exact Or.inl ⟨by decide, by decide⟩) ?_
      refine v_subI ?_
      refine c_name (by simp only [List.set_cons_zero, List.set_cons_succ]; exact rfl) ?_
      exact hn _ _ ⟨(v13 - ((2 : Int) * v1)), _, rfl, sm12, I, h⟩
    · skip
      refine c_asg ?_
      refine c_op ?_
      refine c_call ?_
      refine c_cons ?_
      refine c_var (by exact rfl) ?_
      refine c_cons ?_
      refine c_op ?_
      refine c_op ?_
      refine c_c ?_
      refine c_op ?_
      refine c_c ?_
      refine c_c ?_
      refine v_powI ⟨by decide, by decide, by decide⟩ ?_
      refine v_mulI (by first | exact Or.inr ⟨by decide, by decide⟩ | exact Or.inl ⟨by decide, by decide⟩) ?_
      refine c_c ?_
      refine v_addI ?_
      refine c_nil ?_
      refine cx_draw I h fun v14 F H s1 I h => ?_
      have rv3 := Rp.mono s1 rv3
      have rxv8 := Rp.mono s1 rxv8
      have s := Same.trans s s1
      have sm12 := Same.trans sm12 s1
      refine c_op ?_
      refine c_c ?_
      refine c_c ?_
      refine v_powI ⟨by decide, by decide, by decide⟩ ?_
      refine v_subI ?_
      refine c_name (by simp only [List.set_cons_zero, List.set_cons_succ]; exact rfl) ?_
      exact hn _ _ ⟨(v14 - ((10 : Int) ^ ((9 : Int) : Int).toNat)), _, rfl, sm12, I, h⟩
  rintro σ1 H ⟨v15, F, rfl, s1, I, h⟩
  subst ejp11
  have rv3 := Rp.mono s1 rv3
  have rxv8 := Rp.mono s1 rxv8
  have s := Same.trans s s1
  refine c_seq ?_
  refine c_asg ?_
  refine c_call ?_
  refine c_cons ?_
  refine c_var (by exact rfl) ?_
  refine c_cons ?_
  refine c_var (by exact rfl) ?_
  refine c_cons ?_
  refine c_c ?_
  refine c_nil ?_
  refine cl_l_minutes I (RepB.of rv3) (RepB.of rxv8) (D.call h (fun v16 h F H pv16 xsv16 s1 I rv16 => ?_) (fun _ h => h))
  have rv3 := Rp.mono s1 rv3
  have rxv8 := Rp.mono s1 rxv8
  have s := Same.trans s s1
  obtain ⟨F, s1, I, r1⟩ := x_frzD (d := v16) I rv16
  have rv3 := Rp.mono s1 rv3
  have rxv8 := Rp.mono s1 rxv8
  have s := Same.trans s s1
  have rx17 := r1
  refine c_name (by simp only [List.set_cons_zero, List.set_cons_succ]; exact rfl) ?_
  refine c_seq ?_
  refine c_asg ?_
  refine c_call ?_
  refine c_cons ?_
  refine c_var (by exact rfl) ?_
  refine c_cons ?_
  refine c_var (by exact rfl) ?_
  refine c_cons ?_
  refine c_c ?_
  refine c_nil ?_
  refine cl_l_minutes I (RepB.of rv3) (RepB.of rxv8) (D.call h (fun v18 h F H pv18 xsv18 s1 I rv18 => ?_) (fun _ h => h))
  have rv3 := Rp.mono s1 rv3
  have rxv8 := Rp.mono s1 rxv8
  have rx17 := Rp.mono s1 rx17
  have s := Same.trans s s1
  refine c_name (by simp only [List.set_cons_zero, List.set_cons_succ]; exact rfl) ?_
  refine c_seq ?_
  refine c_asg ?_
  refine c_make ?_
  refine c_cons ?_
  refine c_var (by exact rfl) ?_
  refine c_cons ?_
  refine c_var (by exact rfl) ?_
  refine c_nil ?_
  refine x_make (obR_Times K) I h (fun _ _ F s1 I h => clO_Times_init_ (lk := none) I (KReps.mono s1 rv18) h) fun v19 F H xv19 s1 I rv19 h => ?_
  have rv3 := Rp.mono s1 rv3
  have rxv8 := Rp.mono s1 rxv8
  have rx17 := Rp.mono s1 rx17
  have rv18 := KReps.mono s1 rv18
  have s := Same.trans s s1
  refine c_name (by simp only [List.set_cons_zero, List.set_cons_succ]; exact rfl) ?_
  refine c_seq ?_
  refine c_ifS ?_
  refine c_or ?_
  refine c_not ?_
  refine c_tB ?_
  refine c_call ?_
  refine c_cons ?_
  refine c_var (by exact rfl) ?_
  refine c_cons ?_
  refine c_var (by exact rfl) ?_
  refine c_cons ?_
  refine c_var (by exact rfl) ?_
  refine c_cons ?_
  refine c_var (by exact rfl) ?_
  refine c_nil ?_
  refine cl_l_told (lk := none) I rv19 rx17 (D.call h (fun v20 h F H xv20 s1 I rv20 => ?_) (fun _ h => h))
  have rv3 := Rp.mono s1 rv3
  have rxv8 := Rp.mono s1 rxv8
  have rx17 := Rp.mono s1 rx17
  have rv18 := KReps.mono s1 rv18
  have rv19 := Rp.mono s1 rv19
  have s := Same.trans s s1
  obtain rfl : xv20 = V.bl v20 := rv20
  refine c_bl ?_
  refine x_orD I h (fun h hn => ?_) fun b22 F H s1 I h => ?_
  · skip
    have sm21 : Same F F := Same.refl F
    refine c_not ?_
    refine c_tB ?_
    refine c_call ?_
    refine c_cons ?_
    refine c_var (by exact rfl) ?_
    refine c_cons ?_
    refine c_var (by exact rfl) ?_
    refine c_nil ?_
    refine same_call (a := v18) (b := v16) (Rpv.d I 0 rfl rv18) (Rpv.f I rx17) (by decide) (fun _ => rfl) h fun H sH h => ?_
    have I := I.grow sH
    refine c_bl ?_
    exact hn _ _ _ sm21 I h
  have rv3 := Rp.mono s1 rv3
  have rxv8 := Rp.mono s1 rxv8
  have rx17 := Rp.mono s1 rx17
  have rv18 := KReps.mono s1 rv18
  have rv19 := Rp.mono s1 rv19
  have s := Same.trans s s1
  refine x_if h (fun hc h => ?_) (fun hc h => ?_)
  · skip
    refine c_ret ?_
    refine c_c ?_
    exact hQ _ h _
  · skip
    refine c_next ?_
    refine c_seq ?_
    refine c_for ?_
    refine c_iList ?_
    refine c_sl ?_
    refine c_var (by exact rfl) ?_
    refine c_noPart ?_
    refine c_part ?_
    refine c_c ?_
    refine ⟨_, rfl, ?_⟩
    refine x_slF I (RL.f I rv3) fun x23p F H s1 I rx23 => ?_
    have rv3 := Rp.mono s1 rv3
    have rxv8 := Rp.mono s1 rxv8
    have rx17 := Rp.mono s1 rx17
    have rv18 := KReps.mono s1 rv18
    have rv19 := Rp.mono s1 rv19
    have s := Same.trans s s1
    refine x_iList I rx23 fun _ tw => ?_
    refine x_for (pp := ⟨some pp, none⟩) tw (fun (st24 : (Dc Str Int)) σ1 F1 H1 => ∃ (xs25 : List (Key × V)) (y26 : Option V), σ1 = [(some x_a_script), (some (V.ref pp)), (some (V.int v1)), (some xv3), (some (V.ref D5)), y26, (some (V.str v9)), (some (V.int v15)), (some (V.ref pv16)), (some (V.ref pv18)), (some (V.ref xv19)), none, none, none, none, none, none] ∧ Same F F1 ∧ Own K F1 H1 ⟨some pp, none⟩ ((pv18, HO.dK xs25) :: []) ∧ KReps K F1 xs25 st24.l) h ⟨_, _, rfl, Same.refl _, I, rv18⟩ ?hOst24 ?hdst24 ?hsst24
    case hOst24 =>
      rintro st24 σ1 F1 H1 ⟨xs25, y26, rfl, s1, I, rv18⟩
      exact ⟨s1, _, trivial, I, fun F2 H2 s2 I2 => ⟨_, _, rfl, Same.trans s1 s2, I2, KReps.mono s2 rv18⟩⟩
    case hdst24 =>
      rintro st24 σ1 F H ⟨xs25, y26, rfl, s1, I, rv18⟩ h
      have rv3 := Rp.mono s1 rv3
      have rxv8 := Rp.mono s1 rxv8
      have rx17 := Rp.mono s1 rx17
      have rv19 := Rp.mono s1 rv19
      have s := Same.trans s s1
      refine c_seq ?_
      refine c_dput ?_
      refine c_c ?_
      refine c_var (by exact rfl) ?_
      refine c_var (by exact rfl) ?_
      refine x_dput I 0 rfl rv18 rfl rfl h fun kv27 kv27p H I rv18 h => ?_
      simp only [List.set_cons_zero, List.set_cons_succ] at I
      refine c_seq ?_
      refine c_asg ?_
      refine c_prop ?_
      refine c_var (by exact rfl) ?_
      obtain ⟨ao28, dxo28, fso28, exo28, qo28⟩ := ob_Times rv19
      refine ⟨ao28, dxo28, fso28, exo28, I.ex _ _ qo28, ?_⟩
      rw [← exo28]
      refine cl_Times_minutes I rv19 (D.call h (fun v29 h F H pv29 xsv29 s1 I rv29 => ?_) (fun _ h => h))
      have rv3 := Rp.mono s1 rv3
      have rxv8 := Rp.mono s1 rxv8
      have rx17 := Rp.mono s1 rx17
      have rv18 := KReps.mono s1 rv18
      have rv19 := Rp.mono s1 rv19
      have s := Same.trans s s1
      refine c_name (by simp only [List.set_cons_zero, List.set_cons_succ]; exact rfl) ?_
      refine c_seq ?_
      refine c_dput ?_
      refine c_c ?_
      refine c_var (by exact rfl) ?_
      refine c_var (by exact rfl) ?_
      refine x_dput I 0 rfl rv29 rfl rfl h fun kv30 kv30p H I rv29 h => ?_
      simp only [List.set_cons_zero, List.set_cons_succ] at I
      refine c_seq ?_
      refine c_ifS ?_
      refine c_not ?_
      refine c_tB ?_
      refine c_call ?_
      refine c_cons ?_
      refine c_var (by exact rfl) ?_
      refine c_cons ?_
      refine c_var (by exact rfl) ?_
      refine c_cons ?_
      refine c_var (by exact rfl) ?_
      refine c_cons ?_
      refine c_var (by exact rfl) ?_
      refine c_nil ?_
      refine cl_l_told (lk := none) I rv19 rx17 (D.call h (fun v31 h F H xv31 s1 I rv31 => ?_) (fun _ h => h))
      have rv3 := Rp.mono s1 rv3
      have rxv8 := Rp.mono s1 rxv8
      have rx17 := Rp.mono s1 rx17
      have rv18 := KReps.mono s1 rv18
      have rv19 := Rp.mono s1 rv19
      have rv29 := KReps.mono s1 rv29
      have s := Same.trans s s1
      obtain rfl : xv31 = V.bl v31 := rv31
      refine c_bl ?_
      refine x_if h (fun hc h => ?_) (fun hc h => ?_)
      · skip
        refine c_ret ?_
        refine c_c ?_
        exact hQ _ h _
      · skip
        refine c_next ?_
        refine c_seq ?_
        refine c_asg ?_
        refine c_call ?_
        refine c_cons ?_
        refine c_var (by exact rfl) ?_
        refine c_cons ?_
        refine c_var (by exact rfl) ?_
        refine c_cons ?_
        refine c_call ?_
        refine c_cons ?_
        refine c_var (by exact rfl) ?_
        refine c_cons ?_
        refine c_cb ?_
        refine c_cons ?_
        refine c_c ?_
        refine c_cons ?_
        refine c_cb ?_
        refine c_cons ?_
        refine c_var (by exact rfl) ?_
        refine c_nil ?_
        refine x_lenL I rv3 ?_
        refine c_nil ?_
        refine v_max2 ?_
        refine c_nil ?_
        refine cx_draw I h fun v32 F H s1 I h => ?_
        have rv3 := Rp.mono s1 rv3
        have rxv8 := Rp.mono s1 rxv8
        have rx17 := Rp.mono s1 rx17
        have rv18 := KReps.mono s1 rv18
        have rv19 := Rp.mono s1 rv19
        have rv29 := KReps.mono s1 rv29
        have s := Same.trans s s1
        refine c_nil ?_
        refine cl_l_minutes I (RepB.of rv3) (RepB.of rxv8) (D.call h (fun v33 h F H pv33 xsv33 s1 I rv33 => ?_) (fun _ h => h))
        have rv3 := Rp.mono s1 rv3
        have rxv8 := Rp.mono s1 rxv8
        have rx17 := Rp.mono s1 rx17
        have rv18 := KReps.mono s1 rv18
        have rv19 := Rp.mono s1 rv19
        have rv29 := KReps.mono s1 rv29
        have s := Same.trans s s1
        obtain ⟨F, s1, I, r1⟩ := x_frzD (d := v33) I rv33
        have rv3 := Rp.mono s1 rv3
        have rxv8 := Rp.mono s1 rxv8
        have rx17 := Rp.mono s1 rx17
        have rv18 := KReps.mono s1 rv18
        have rv19 := Rp.mono s1 rv19
        have rv29 := KReps.mono s1 rv29
        have s := Same.trans s s1
        have rx34 := r1
        refine c_name (by simp only [List.set_cons_zero, List.set_cons_succ]; exact rfl) ?_
        refine c_seq ?_
        refine c_ifS ?_
        refine c_not ?_
        refine c_tB ?_
        refine c_call ?_
        refine c_cons ?_
        refine c_op ?_
        refine c_var (by exact rfl) ?_
        refine c_make ?_
        refine c_cons ?_
        refine c_var (by exact rfl) ?_
        refine c_cons ?_
        refine c_var (by exact rfl) ?_
        refine c_nil ?_
        refine x_make (obR_Times K) I h (fun _ _ F s1 I h => cl_Times_init_ (lk := none) I (Rp.mono s1 rx34) h) fun v35 F H xv35 s1 I rv35 h => ?_
        have rv3 := Rp.mono s1 rv3
        have rxv8 := Rp.mono s1 rxv8
        have rx17 := Rp.mono s1 rx17
        have rv18 := KReps.mono s1 rv18
        have rv19 := Rp.mono s1 rv19
        have rv29 := KReps.mono s1 rv29
        have rx34 := Rp.mono s1 rx34
        have s := Same.trans s s1
        obtain ⟨ao36, dxo36, fso36, exo36, qo36⟩ := ob_Times rv19
        obtain ⟨ao37, dxo37, fso37, exo37, qo37⟩ := ob_Times rv35
        refine ⟨ao36, dxo36, fso36, ao37, dxo37, fso37, exo36, exo37, I.ex _ _ qo36, I.ex _ _ qo37, ?_⟩
        rw [← exo36, ← exo37]
        refine cl_Times_eq_ (lk := none) I rv19 rv35 (D.call h (fun v38 h F H xv38 s1 I rv38 => ?_) (fun _ h => h))
        have rv3 := Rp.mono s1 rv3
        have rxv8 := Rp.mono s1 rxv8
        have rx17 := Rp.mono s1 rx17
        have rv18 := KReps.mono s1 rv18
        have rv19 := Rp.mono s1 rv19
        have rv29 := KReps.mono s1 rv29
        have rx34 := Rp.mono s1 rx34
        have s := Same.trans s s1
        obtain rfl : xv38 = V.bl v38 := rv38
        refine c_cons ?_
        refine c_c ?_
        refine c_nil ?_
        refine same_call (a := v38) (b := true) (Rpv.f I rfl) (Rpv.f I rfl) (by decide) (fun z => absurd z (by decide)) h fun H sH h => ?_
        have I := I.grow sH
        refine c_bl ?_
        refine x_ifF rfl ?_
        refine c_next ?_
        refine c_seq ?_
        refine c_for ?_
        refine c_iList ?_
        refine c_call ?_
        refine c_cons ?_
        refine c_var (by exact rfl) ?_
        refine c_cons ?_
        refine c_var (by exact rfl) ?_
        refine c_cons ?_
        refine c_var (by exact rfl) ?_
        refine c_cons ?_
        refine c_var (by exact rfl) ?_
        refine c_cons ?_
        refine c_var (by exact rfl) ?_
        refine c_nil ?_
        refine cl_l_others I rv3 rxv8 (D.call h (fun v39 h F H xv39 s1 I rv39 => ?_) (fun _ h => h))
        have rv3 := Rp.mono s1 rv3
        have rxv8 := Rp.mono s1 rxv8
        have rx17 := Rp.mono s1 rx17
        have rv18 := KReps.mono s1 rv18
        have rv19 := Rp.mono s1 rv19
        have rv29 := KReps.mono s1 rv29
        have s := Same.trans s s1
        refine x_iList I rv39 fun _ tw => ?_
        refine x_for (pp := ⟨some pp, none⟩) tw (fun (st40 : Unit) σ1 F1 H1 => ∃ (y41 : Option V), σ1 = [(some x_a_script), (some (V.ref pp)), (some (V.int v1)), (some xv3), (some (V.ref D5)), y26, (some (V.str v9)), (some (V.int v15)), (some (V.ref pv16)), (some (V.ref pv18)), (some (V.ref xv19)), (some (V.ref pv29)), (some (V.ref pv33)), y41, none, none, none] ∧ Same F F1 ∧ Own K F1 H1 ⟨some pp, none⟩ ((pv29, HO.dK kv30) :: (pv18, HO.dK kv27) :: [])) h ⟨_, rfl, Same.refl _, I⟩ ?hOst40 ?hdst40 ?hsst40
        case hOst40 =>
          rintro st40 σ1 F1 H1 ⟨y41, rfl, s1, I⟩
          exact ⟨s1, _, trivial, I, fun F2 H2 s2 I2 => ⟨_, rfl, Same.trans s1 s2, I2⟩⟩
        case hdst40 =>
          rintro st40 σ1 F H ⟨y41, rfl, s1, I⟩ h
          have rv3 := Rp.mono s1 rv3
          have rxv8 := Rp.mono s1 rxv8
          have rx17 := Rp.mono s1 rx17
          have rv18 := KReps.mono s1 rv18
          have rv19 := Rp.mono s1 rv19
          have rv29 := KReps.mono s1 rv29
          have s := Same.trans s s1
          refine c_seq ?_
          refine c_ifS ?_
          refine c_not ?_
          refine c_tB ?_
          refine c_call ?_
          refine c_cons ?_
          refine c_op ?_
          refine c_var (by exact rfl) ?_
          refine c_var (by exact rfl) ?_
          obtain ⟨ao42, dxo42, fso42, exo42, qo42⟩ := ob_Times rv19
          refine ⟨ao42, dxo42, fso42, _, exo42, rfl, I.ex _ _ qo42, ?_⟩
          rw [← exo42]
          refine cl_Times_rshift_ (lk := none) I rv19 (D.call h (fun v43 h F H xv43 s1 I rv43 => ?_) (fun _ h => h))
          have rv3 := Rp.mono s1 rv3
          have rx17 := Rp.mono s1 rx17
          have rv18 := KReps.mono s1 rv18
          have rv19 := Rp.mono s1 rv19
          have rv29 := KReps.mono s1 rv29
          have s := Same.trans s s1
          refine c_cons ?_
          refine c_var (by exact rfl) ?_
          refine c_cons ?_
          refine c_call ?_
          refine c_cons ?_
          refine c_var (by exact rfl) ?_
          refine c_cons ?_
          refine c_c ?_
          refine c_cons ?_
          refine c_var (by exact rfl) ?_
          refine c_cons ?_
          refine c_var (by exact rfl) ?_
          refine c_nil ?_
          refine cl_l_turned (lk := none) I rx17 (D.call h (fun v44 h F H xv44 s1 I rv44 => ?_) (fun _ h => h))
          have rv3 := Rp.mono s1 rv3
          have rx17 := Rp.mono s1 rx17
          have rv18 := KReps.mono s1 rv18
          have rv19 := Rp.mono s1 rv19
          have rv29 := KReps.mono s1 rv29
          have rv43 := Rp.mono s1 rv43
          have s := Same.trans s s1
          refine c_cons ?_
          refine c_var (by exact rfl) ?_
          refine c_nil ?_
          refine cl_l_told (lk := none) I rv43 rv44 (D.call h (fun v45 h F H xv45 s1 I rv45 => ?_) (fun _ h => h))
          have rv3 := Rp.mono s1 rv3
          have rx17 := Rp.mono s1 rx17
          have rv18 := KReps.mono s1 rv18
          have rv19 := Rp.mono s1 rv19
          have rv29 := KReps.mono s1 rv29
          have s := Same.trans s s1
          obtain rfl : xv45 = V.bl v45 := rv45
          refine c_bl ?_
          refine x_if h (fun hc h => ?_) (fun hc h => ?_)
          · skip
            refine c_ret ?_
            refine c_c ?_
            exact hQ _ h _
          · skip
            refine c_next ?_
            refine c_seq ?_
            refine c_ifS ?_
            refine c_not ?_
            refine c_tB ?_
            refine c_call ?_
            refine c_cons ?_
            refine c_op ?_
            refine c_var (by exact rfl) ?_
            refine c_var (by exact rfl) ?_
            obtain ⟨ao46, dxo46, fso46, exo46, qo46⟩ := ob_Times rv19
            refine ⟨ao46, dxo46, fso46, _, exo46, rfl, I.ex _ _ qo46, ?_⟩
            rw [← exo46]
            refine cl_Times_lshift_ (lk := none) I rv19 (D.call h (fun v47 h F H xv47 s1 I rv47 => ?_) (fun _ h => h))
            have rv3 := Rp.mono s1 rv3
            have rx17 := Rp.mono s1 rx17
            have rv18 := KReps.mono s1 rv18
            have rv19 := Rp.mono s1 rv19
            have rv29 := KReps.mono s1 rv29
            have s := Same.trans s s1
            refine c_cons ?_
            refine c_var (by exact rfl) ?_
            refine c_cons ?_
            refine c_call ?_
            refine c_cons ?_
            refine c_var (by exact rfl) ?_
            refine c_cons ?_
            refine c_c ?_
            refine c_cons ?_
            refine c_un ?_
            refine c_var (by exact rfl) ?_
            refine v_negI ?_
            refine c_cons ?_
            refine c_var (by exact rfl) ?_
            refine c_nil ?_
            refine cl_l_turned (lk := none) I rx17 (D.call h (fun v48 h F H xv48 s1 I rv48 => ?_) (fun _ h => h))
            have rv3 := Rp.mono s1 rv3
            have rx17 := Rp.mono s1 rx17
            have rv18 := KReps.mono s1 rv18
            have rv19 := Rp.mono s1 rv19
            have rv29 := KReps.mono s1 rv29
            have rv47 := Rp.mono s1 rv47
            have s := Same.trans s s1
            refine c_cons ?_
            refine c_var (by exact rfl) ?_
            refine c_nil ?_
            refine cl_l_told (lk := none) I rv47 rv48 (D.call h (fun v49 h F H xv49 s1 I rv49 => ?_) (fun _ h => h))
            have rv3 := Rp.mono s1 rv3
            have rx17 := Rp.mono s1 rx17
            have rv18 := KReps.mono s1 rv18
            have rv19 := Rp.mono s1 rv19
            have rv29 := KReps.mono s1 rv29
            have s := Same.trans s s1
            obtain rfl : xv49 = V.bl v49 := rv49
            refine c_bl ?_
            refine x_if h (fun hc h => ?_) (fun hc h => ?_)
            · skip
              refine c_ret ?_
              refine c_c ?_
              exact hQ _ h _
            · skip
              refine c_next ?_
              refine c_seq ?_
              refine c_asg ?_
              refine c_meth ?_
              refine c_var (by exact rfl) ?_
              obtain ⟨ao50, dxo50, fso50, exo50, qo50, lo50⟩ := nom_Times rv19 (m := (Str.ofString "mirrored")) (by rfl)
              refine ⟨ao50, dxo50, fso50, exo50, I.ex _ _ qo50, lo50, ?_⟩
              refine c_nil ?_
              refine cl_Times_mirrored (lk := none) I rv19 (D.call h (fun v51 h F H xv51 s1 I rv51 => ?_) (fun _ h => h))
              have rv3 := Rp.mono s1 rv3
              have rx17 := Rp.mono s1 rx17
              have rv18 := KReps.mono s1 rv18
              have rv19 := Rp.mono s1 rv19
              have rv29 := KReps.mono s1 rv29
              have s := Same.trans s s1
              refine c_name (by simp only [List.set_cons_zero, List.set_cons_succ]; exact rfl) ?_
              refine c_seq ?_
              refine c_ifS ?_
              refine c_not ?_
              refine c_tB ?_
              refine c_call ?_
              refine c_cons ?_
              refine c_var (by exact rfl) ?_
              refine c_cons ?_
              refine c_var (by exact rfl) ?_
              refine c_cons ?_
              refine c_call ?_
              refine c_cons ?_
              refine c_var (by exact rfl) ?_
              refine c_cons ?_
              refine c_un ?_
              refine c_c ?_
              refine v_negI ?_
              refine c_cons ?_
              refine c_c ?_
              refine c_cons ?_
              refine c_var (by exact rfl) ?_
              refine c_nil ?_
              refine cl_l_turned (lk := none) I rx17 (D.call h (fun v52 h F H xv52 s1 I rv52 => ?_) (fun _ h => h))
              have rv3 := Rp.mono s1 rv3
              have rx17 := Rp.mono s1 rx17
              have rv18 := KReps.mono s1 rv18
              have rv19 := Rp.mono s1 rv19
              have rv29 := KReps.mono s1 rv29
              have rv51 := Rp.mono s1 rv51
              have s := Same.trans s s1
              refine c_cons ?_
              refine c_var (by exact rfl) ?_
              refine c_nil ?_
              refine cl_l_told (lk := none) I rv51 rv52 (D.call h (fun v53 h F H xv53 s1 I rv53 => ?_) (fun _ h => h))
              have rv3 := Rp.mono s1 rv3
              have rx17 := Rp.mono s1 rx17
              have rv18 := KReps.mono s1 rv18
              have rv19 := Rp.mono s1 rv19
              have rv29 := KReps.mono s1 rv29
              have rv51 := Rp.mono s1 rv51
              have s := Same.trans s s1
              obtain rfl : xv53 = V.bl v53 := rv53
              refine c_bl ?_
              refine x_if h (fun hc h => ?_) (fun hc h => ?_)
              · skip
                refine c_ret ?_
                refine c_c ?_
                exact hQ _ h _
              · skip
                refine c_next ?_
                refine c_seq ?_
                refine c_ifS ?_
                refine c_not ?_
                refine c_tB ?_
                refine c_call ?_
                refine c_cons ?_
                refine c_op ?_
                refine c_meth ?_
                refine c_var (by exact rfl) ?_
                obtain ⟨ao54, dxo54, fso54, exo54, qo54, lo54⟩ := nom_Times rv51 (m := (Str.ofString "mirrored")) (by rfl)
                refine ⟨ao54, dxo54, fso54, exo54, I.ex _ _ qo54, lo54, ?_⟩
                refine c_nil ?_
                refine cl_Times_mirrored (lk := none) I rv51 (D.call h (fun v55 h F H xv55 s1 I rv55 => ?_) (fun _ h => h))
                have rv3 := Rp.mono s1 rv3
                have rx17 := Rp.mono s1 rx17
                have rv18 := KReps.mono s1 rv18
                have rv19 := Rp.mono s1 rv19
                have rv29 := KReps.mono s1 rv29
                have rv51 := Rp.mono s1 rv51
                have s := Same.trans s s1
                refine c_var (by exact rfl) ?_
                obtain ⟨ao56, dxo56, fso56, exo56, qo56⟩ := ob_Times rv55
                obtain ⟨ao57, dxo57, fso57, exo57, qo57⟩ := ob_Times rv19
                refine ⟨ao56, dxo56, fso56, ao57, dxo57, fso57, exo56, exo57, I.ex _ _ qo56, I.ex _ _ qo57, ?_⟩
                rw [← exo56, ← exo57]
                refine cl_Times_eq_ (lk := none) I rv55 rv19 (D.call h (fun v58 h F H xv58 s1 I rv58 => ?_) (fun _ h => h))
                have rv3 := Rp.mono s1 rv3
                have rx17 := Rp.mono s1 rx17
                have rv18 := KReps.mono s1 rv18
                have rv19 := Rp.mono s1 rv19
                have rv29 := KReps.mono s1 rv29
                have rv51 := Rp.mono s1 rv51
                have s := Same.trans s s1
                obtain rfl : xv58 = V.bl v58 := rv58
                refine c_cons ?_
                refine c_c ?_
                refine c_nil ?_
                refine same_call (a := v58) (b := true) (Rpv.f I rfl) (Rpv.f I rfl) (by decide) (fun z => absurd z (by decide)) h fun H sH h => ?_
                have I := I.grow sH
                refine c_bl ?_
                refine x_ifF rfl ?_
                refine c_next ?_
                refine c_seq ?_
                refine c_for ?_
                refine c_rng1 ?_
                refine c_cons ?_
                refine c_op ?_
                refine c_cb ?_
                refine c_cons ?_
                refine c_c ?_
                refine c_cons ?_
                refine c_cb ?_
                refine c_cons ?_
                refine c_var (by exact rfl) ?_
                refine c_nil ?_
                refine x_lenL I rv3 ?_
                refine c_nil ?_
                refine v_min2 ?_
                refine c_c ?_
                refine v_addI ?_
                refine c_nil ?_
                refine x_iRng1 (F := F) (K := K) h fun tw h => ?_
                refine x_for (pp := ⟨some pp, none⟩) tw (fun (st60 : Unit) σ1 F1 H1 => ∃ (y61 : Option V) (y62 : Option V), σ1 = [(some x_a_script), (some (V.ref pp)), (some (V.int v1)), (some xv3), (some (V.ref D5)), y26, (some (V.str v9)), (some (V.int v15)), (some (V.ref pv16)), (some (V.ref pv18)), (some (V.ref xv19)), (some (V.ref pv29)), (some (V.ref pv33)), y41, (some xv51), y61, y62] ∧ Same F F1 ∧ Own K F1 H1 ⟨some pp, none⟩ ((pv29, HO.dK kv30) :: (pv18, HO.dK kv27) :: [])) h ⟨_, _, rfl, Same.refl _, I⟩ ?hOst60 ?hdst60 ?hsst60
                case hOst60 =>
                  rintro st60 σ1 F1 H1 ⟨y61, y62, rfl, s1, I⟩
                  exact ⟨s1, _, trivial, I, fun F2 H2 s2 I2 => ⟨_, _, rfl, Same.trans s1 s2, I2⟩⟩
                case hdst60 =>
                  rintro st60 σ1 F H ⟨y61, y62, rfl, s1, I⟩ h
                  have rv3 := Rp.mono s1 rv3
                  have rx17 := Rp.mono s1 rx17
                  have rv18 := KReps.mono s1 rv18
                  have rv19 := Rp.mono s1 rv19
                  have rv29 := KReps.mono s1 rv29
                  have s := Same.trans s s1
                  refine c_ret ?_
                  refine c_call ?_
                  refine c_cons ?_
                  refine c_var (by exact rfl) ?_
                  refine c_cons ?_
                  refine c_var (by exact rfl) ?_
                  refine c_cons ?_
                  refine c_var (by exact rfl) ?_
                  refine c_cons ?_
                  refine c_var (by exact rfl) ?_
                  refine c_nil ?_
                  refine cl_l_told (lk := none) I rv19 rx17 (D.call h (fun v63 h F H xv63 s1 I rv63 => ?_) (fun _ h => h))
                  have rx17 := Rp.mono s1 rx17
                  have rv18 := KReps.mono s1 rv18
                  have rv19 := Rp.mono s1 rv19
                  have rv29 := KReps.mono s1 rv29
                  have s := Same.trans s s1
                  obtain rfl : xv63 = V.bl v63 := rv63
                  exact hQ _ h _
                case hsst60 =>
                  rintro e64 st60 xe64 σ1 F H N nx65 ⟨y61, y62, rfl, s1, I⟩ rxe64 h hn hb
                  have rv3 := Rp.mono s1 rv3
                  have rx17 := Rp.mono s1 rx17
                  have rv18 := KReps.mono s1 rv18
                  have rv19 := Rp.mono s1 rv19
                  have rv29 := KReps.mono s1 rv29
                  have s := Same.trans s s1
                  have sm66 := s1
                  obtain rfl : xe64 = V.int e64 := rxe64
                  refine c_name (by simp only [List.set_cons_zero, List.set_cons_succ]; exact rfl) ?_
                  refine c_seq ?_
                  refine c_asg ?_
                  refine c_call ?_
                  refine c_cons ?_
                  refine c_sl ?_
                  refine c_var (by exact rfl) ?_
                  refine c_noPart ?_
                  refine c_part ?_
                  refine c_var (by exact rfl) ?_
                  refine ⟨_, rfl, ?_⟩
                  refine x_slF I (RL.f I rv3) fun x67p F H s1 I rx67 => ?_
                  have rv3 := Rp.mono s1 rv3
                  have rx17 := Rp.mono s1 rx17
                  have rv18 := KReps.mono s1 rv18
                  have rv19 := Rp.mono s1 rv19
                  have rv29 := KReps.mono s1 rv29
                  have s := Same.trans s s1
                  have sm66 := Same.trans sm66 s1
                  refine c_cons ?_
                  refine c_lst ?_
                  refine c_cons ?_
                  refine c_c ?_
                  refine c_cons ?_
                  refine c_c ?_
                  refine c_cons ?_
                  refine c_c ?_
                  refine c_cons ?_
                  refine c_c ?_
                  refine c_cons ?_
                  refine c_c ?_
                  refine c_nil ?_
                  refine x_lst (l := [(0 : Int), (0 : Int), (0 : Int), (0 : Int), (0 : Int)]) I (.cons rfl (.cons rfl (.cons rfl (.cons rfl (.cons rfl .nil))))) (by exact (by decide : 5 ≤ sizeLine)) fun x68p F s1 I rx68 => ?_
                  have rv3 := Rp.mono s1 rv3
                  have rx17 := Rp.mono s1 rx17
                  have rv18 := KReps.mono s1 rv18
                  have rv19 := Rp.mono s1 rv19
                  have rv29 := KReps.mono s1 rv29
                  have rx67 := Rp.mono s1 rx67
                  have s := Same.trans s s1
                  have sm66 := Same.trans sm66 s1
                  refine c_cons ?_
                  refine c_c ?_
                  refine c_nil ?_
                  refine cl_l_minutes I (RepB.of rx67) (RepB.of rx68) (D.call h (fun v69 h F H pv69 xsv69 s1 I rv69 => ?_) (fun _ h => h))
                  have rv3 := Rp.mono s1 rv3
                  have rx17 := Rp.mono s1 rx17
                  have rv18 := KReps.mono s1 rv18
                  have rv19 := Rp.mono s1 rv19
                  have rv29 := KReps.mono s1 rv29
                  have s := Same.trans s s1
                  have sm66 := Same.trans sm66 s1
                  obtain ⟨F, s1, I, r1⟩ := x_frzD (d := v69) I rv69
                  have rv3 := Rp.mono s1 rv3
                  have rx17 := Rp.mono s1 rx17
                  have rv18 := KReps.mono s1 rv18
                  have rv19 := Rp.mono s1 rv19
                  have rv29 := KReps.mono s1 rv29
                  have s := Same.trans s s1
                  have sm66 := Same.trans sm66 s1
                  have rx70 := r1
                  refine c_name (by simp only [List.set_cons_zero, List.set_cons_succ]; exact rfl) ?_
                  refine c_ifS ?_
                  refine c_not ?_
                  refine c_tB ?_
                  refine c_call ?_
                  refine c_cons ?_
                  refine c_call ?_
                  refine c_cons ?_
                  refine c_var (by exact rfl) ?_
                  refine c_cons ?_
                  refine c_var (by exact rfl) ?_
                  refine c_cons ?_
                  refine c_var (by exact rfl) ?_
                  refine c_nil ?_
                  refine cl_l_zero (lk := none) I (RepB.of rv3) (D.call h (fun v71 h F H xv71 s1 I rv71 => ?_) (fun _ h => h))
                  have rv3 := Rp.mono s1 rv3
                  have rx17 := Rp.mono s1 rx17
                  have rv18 := KReps.mono s1 rv18
                  have rv19 := Rp.mono s1 rv19
                  have rv29 := KReps.mono s1 rv29
                  have rx70 := Rp.mono s1 rx70
                  have s := Same.trans s s1
                  have sm66 := Same.trans sm66 s1
                  refine c_cons ?_
                  refine c_var (by exact rfl) ?_
                  refine c_cons ?_
                  refine c_var (by exact rfl) ?_
                  refine c_cons ?_
                  refine c_var (by exact rfl) ?_
                  refine c_nil ?_
                  refine cl_l_told (lk := none) I rv71 rx70 (D.call h (fun v72 h F H xv72 s1 I rv72 => ?_) (fun _ h => h))
                  have rv3 := Rp.mono s1 rv3
                  have rx17 := Rp.mono s1 rx17
                  have rv18 := KReps.mono s1 rv18
                  have rv19 := Rp.mono s1 rv19
                  have rv29 := KReps.mono s1 rv29
                  have rx70 := Rp.mono s1 rx70
                  have s := Same.trans s s1
                  have sm66 := Same.trans sm66 s1
                  obtain rfl : xv72 = V.bl v72 := rv72
                  refine c_bl ?_
                  refine x_if h (fun hc h => ?_) (fun hc h => ?_)
                  · skip
                    refine c_ret ?_
                    refine c_c ?_
                    exact hQ _ h _
                  · skip
                    refine c_next ?_
                    exact hn () _ _ _ ⟨_, _, rfl, sm66, I⟩ h
        case hsst40 =>
          rintro e73 st40 xe73 σ1 F H N nx74 ⟨y41, rfl, s1, I⟩ rxe73 h hn hb
          have rv3 := Rp.mono s1 rv3
          have rxv8 := Rp.mono s1 rxv8
          have rx17 := Rp.mono s1 rx17
          have rv18 := KReps.mono s1 rv18
          have rv19 := Rp.mono s1 rv19
          have rv29 := KReps.mono s1 rv29
          have s := Same.trans s s1
          have sm75 := s1
          refine c_name (by simp only [List.set_cons_zero, List.set_cons_succ]; exact rfl) ?_
          refine c_ifS ?_
          refine c_not ?_
          refine c_tB ?_
          refine c_call ?_
          refine c_cons ?_
          refine c_op ?_
          refine c_var (by exact rfl) ?_
          refine c_make ?_
          refine c_cons ?_
          refine c_op ?_
          refine c_var (by exact rfl) ?_
          refine c_c ?_
          obtain ⟨p80, x77, x78, ep80, q79, rx77, rx78⟩ := id rxe73
          refine x_ixR I ep80 q79 (by exact rfl) ?_
          obtain rfl : x77 = V.int e73.a := rx77
          refine c_cons ?_
          refine c_op ?_
          refine c_var (by exact rfl) ?_
          refine c_c ?_
          obtain ⟨p85, x82, x83, ep85, q84, rx82, rx83⟩ := id rxe73
          refine x_ixR I ep85 q84 (by exact rfl) ?_
          refine c_nil ?_
          refine x_make (obR_Times K) I h (fun _ _ F s1 I h => cl_Times_init_ (lk := none) I (Rp.mono s1 rx83) h) fun v86 F H xv86 s1 I rv86 h => ?_
          have rv3 := Rp.mono s1 rv3
          have rxv8 := Rp.mono s1 rxv8
          have rx17 := Rp.mono s1 rx17
          have rv18 := KReps.mono s1 rv18
          have rv19 := Rp.mono s1 rv19
          have rv29 := KReps.mono s1 rv29
          have rxe73 := Rp.mono s1 rxe73
          have s := Same.trans s s1
          have sm75 := Same.trans sm75 s1
          obtain ⟨ao87, dxo87, fso87, exo87, qo87⟩ := ob_Times rv19
          obtain ⟨ao88, dxo88, fso88, exo88, qo88⟩ := ob_Times rv86
          refine ⟨ao87, dxo87, fso87, ao88, dxo88, fso88, exo87, exo88, I.ex _ _ qo87, I.ex _ _ qo88, ?_⟩
          rw [← exo87, ← exo88]
          refine cl_Times_eq_ (lk := none) I rv19 rv86 (D.call h (fun v89 h F H xv89 s1 I rv89 => ?_) (fun _ h => h))
          have rv3 := Rp.mono s1 rv3
          have rxv8 := Rp.mono s1 rxv8
          have rx17 := Rp.mono s1 rx17
          have rv18 := KReps.mono s1 rv18
          have rv19 := Rp.mono s1 rv19
          have rv29 := KReps.mono s1 rv29
          have rxe73 := Rp.mono s1 rxe73
          have s := Same.trans s s1
          have sm75 := Same.trans sm75 s1
          obtain rfl : xv89 = V.bl v89 := rv89
          refine c_cons ?_
          refine c_c ?_
          refine c_nil ?_
          refine same_call (a := v89) (b := false) (Rpv.f I rfl) (Rpv.f I rfl) (by decide) (fun z => absurd z (by decide)) h fun H sH h => ?_
          have I := I.grow sH
          refine c_bl ?_
          refine x_ifF rfl ?_
          refine c_next ?_
          exact hn () _ _ _ ⟨_, rfl, sm75, I⟩ h
    case hsst24 =>
      rintro e90 st24 xe90 σ1 F H N nx91 ⟨xs25, y26, rfl, s1, I, rv18⟩ rxe90 h hn hb
      have rv3 := Rp.mono s1 rv3
      have rxv8 := Rp.mono s1 rxv8
      have rx17 := Rp.mono s1 rx17
      have rv19 := Rp.mono s1 rv19
      have s := Same.trans s s1
      have sm92 := s1
      obtain rfl : xe90 = V.str e90 := rxe90
      refine c_name (by simp only [List.set_cons_zero, List.set_cons_succ]; exact rfl) ?_
      refine c_dput ?_
      refine c_op ?_
      refine c_cb ?_
      refine c_cons ?_
      refine c_op ?_
      refine c_dget ?_
      refine c_var (by exact rfl) ?_
      refine c_var (by exact rfl) ?_
      refine x_dget I rx17 rfl h fun v93 xv93 rv93 h => ?_
      obtain rfl : xv93 = V.int v93 := rv93
      refine c_c ?_
      refine v_addI ?_
      refine c_nil ?_
      refine v_intI ?_
      refine c_var (by exact rfl) ?_
      refine x_modI h fun h => ?_
      try generalize ((v93 + (1 : Int)) % v1) = v94 at h ⊢
      refine c_var (by exact rfl) ?_
      refine c_var (by exact rfl) ?_
      refine x_dput I 0 rfl rv18 rfl rfl h fun kv95 kv95p H I rv18 h => ?_
      simp only [List.set_cons_zero, List.set_cons_succ] at I
      exact hn (kv95p) _ _ _ ⟨_, _, rfl, sm92, I, rv18⟩ h
end Rm

/-! ### the text by places, the facts of the head: printed by gen.py -/
namespace Rm
open PySem PySem.Spec L2
def top (i : Nat) : Stmt := PySem.Challenge.pw_roundminutes_k09_timetable_is_told_back.main.body.getD i (.Pass ⟨0, 0, 0, 0⟩)
abbrev sx_l_draw : Stmt := (top 30)
abbrev d_l_draw : DD := ⟨fun K => (He.ga K (Str.ofString "_law_draw")), (Str.ofString "_law_draw"), (Str.ofString "_law_draw"), sx_l_draw, [], []⟩
abbrev sx_l_length : Stmt := (top 35)
abbrev d_l_length : DD := ⟨fun K => (He.ga K (Str.ofString "_law_length")), (Str.ofString "_law_length"), (Str.ofString "_law_length"), sx_l_length, [], []⟩
abbrev sx_l_minutes : Stmt := (top 37)
abbrev d_l_minutes : DD := ⟨fun K => (He.ga K (Str.ofString "_law_minutes")), (Str.ofString "_law_minutes"), (Str.ofString "_law_minutes"), sx_l_minutes, [], []⟩
abbrev sx_l_word : Stmt := (top 32)
abbrev d_l_word : DD := ⟨fun K => (He.ga K (Str.ofString "_law_word")), (Str.ofString "_law_word"), (Str.ofString "_law_word"), sx_l_word, [], []⟩
abbrev sx_l_names : Stmt := (top 33)
abbrev d_l_names : DD := ⟨fun K => (He.ga K (Str.ofString "_law_names")), (Str.ofString "_law_names"), (Str.ofString "_law_names"), sx_l_names, [], []⟩
abbrev sx_l_others : Stmt := (top 42)
abbrev d_l_others : DD := ⟨fun K => (He.ga K (Str.ofString "_law_others")), (Str.ofString "_law_others"), (Str.ofString "_law_others"), sx_l_others, [], []⟩
abbrev sx_l_pool : Stmt := (top 29)
abbrev d_l_pool : DD := ⟨fun K => (He.ga K (Str.ofString "_law_pool")), (Str.ofString "_law_pool"), (Str.ofString "_law_pool"), sx_l_pool, [], []⟩
abbrev sx_l_is_int : Stmt := (top 38)
abbrev d_l_is_int : DD := ⟨fun K => (He.ga K (Str.ofString "_law_is_int")), (Str.ofString "_law_is_int"), (Str.ofString "_law_is_int"), sx_l_is_int, [], []⟩
abbrev sx_l_same : Stmt := (top 39)
abbrev d_l_same : DD := ⟨fun K => (He.ga K (Str.ofString "_law_same")), (Str.ofString "_law_same"), (Str.ofString "_law_same"), sx_l_same, [], []⟩
abbrev sx_l_size : Stmt := (top 36)
abbrev d_l_size : DD := ⟨fun K => (He.ga K (Str.ofString "_law_size")), (Str.ofString "_law_size"), (Str.ofString "_law_size"), sx_l_size, [], []⟩
abbrev sx_l_some : Stmt := (top 31)
abbrev d_l_some : DD := ⟨fun K => (He.ga K (Str.ofString "_law_some")), (Str.ofString "_law_some"), (Str.ofString "_law_some"), sx_l_some, [], []⟩
abbrev sx_l_stranger : Stmt := (top 34)
abbrev d_l_stranger : DD := ⟨fun K => (He.ga K (Str.ofString "_law_stranger")), (Str.ofString "_law_stranger"), (Str.ofString "_law_stranger"), sx_l_stranger, [], []⟩
abbrev sx_Times_getitem_ : Stmt := (inClass (top 26) 6)
abbrev d_Times_getitem_ : DD := ⟨fun K => (He.ma K (He.ga K (Str.ofString "Times")) (Str.ofString "__getitem__")), (Str.ofString "__getitem__"), (Str.ofString "Times.__getitem__"), sx_Times_getitem_, [], []⟩
abbrev sx_Times_iter_ : Stmt := (inClass (top 26) 5)
abbrev d_Times_iter_ : DD := ⟨fun K => (He.ma K (He.ga K (Str.ofString "Times")) (Str.ofString "__iter__")), (Str.ofString "__iter__"), (Str.ofString "Times.__iter__"), sx_Times_iter_, [], []⟩
abbrev N_Times_iter_ : List Str := [(Str.ofString "self")]
abbrev sx_Times_len_ : Stmt := (inClass (top 26) 4)
abbrev d_Times_len_ : DD := ⟨fun K => (He.ma K (He.ga K (Str.ofString "Times")) (Str.ofString "__len__")), (Str.ofString "__len__"), (Str.ofString "Times.__len__"), sx_Times_len_, [], []⟩
abbrev sx_Times_minutes : Stmt := (inClass (top 26) 3)
abbrev d_Times_minutes : DD := ⟨fun K => (He5.wf K (He.ga K (Str.ofString "Times")) "property" (Str.ofString "minutes")), (Str.ofString "minutes"), (Str.ofString "Times.minutes"), sx_Times_minutes, [], []⟩
abbrev sx_Times_round_length : Stmt := (inClass (top 26) 2)
abbrev d_Times_round_length : DD := ⟨fun K => (He5.wf K (He.ga K (Str.ofString "Times")) "property" (Str.ofString "round_length")), (Str.ofString "round_length"), (Str.ofString "Times.round_length"), sx_Times_round_length, [], []⟩
abbrev sx_l_told : Stmt := (top 40)
abbrev d_l_told : DD := ⟨fun K => (He.ga K (Str.ofString "_law_told")), (Str.ofString "_law_told"), (Str.ofString "_law_told"), sx_l_told, [], []⟩
abbrev sx_l_turned : Stmt := (top 41)
abbrev d_l_turned : DD := ⟨fun K => (He.ga K (Str.ofString "_law_turned")), (Str.ofString "_law_turned"), (Str.ofString "_law_turned"), sx_l_turned, [], []⟩
abbrev sx_is_name : Stmt := (top 13)
abbrev d_is_name : DD := ⟨fun K => (He.ga K (Str.ofString "is_name")), (Str.ofString "is_name"), (Str.ofString "is_name"), sx_is_name, [], []⟩
abbrev sx_check_name : Stmt := (top 14)
abbrev d_check_name : DD := ⟨fun K => (He.ga K (Str.ofString "check_name")), (Str.ofString "check_name"), (Str.ofString "check_name"), sx_check_name, [], []⟩
abbrev sx_check_number : Stmt := (top 16)
abbrev d_check_number : DD := ⟨fun K => (He.ga K (Str.ofString "check_number")), (Str.ofString "check_number"), (Str.ofString "check_number"), sx_check_number, [], []⟩
abbrev sx_Times_init_ : Stmt := (inClass (top 26) 0)
abbrev d_Times_init_ : DD := ⟨fun K => (He.ma K (He.ga K (Str.ofString "Times")) (Str.ofString "__init__")), (Str.ofString "__init__"), (Str.ofString "Times.__init__"), sx_Times_init_, [], []⟩
abbrev sx_Times_zero : Stmt := (inClass (top 26) 1)
abbrev d_Times_zero : DD := ⟨fun K => (He5.wf K (He.ga K (Str.ofString "Times")) "staticmethod" (Str.ofString "zero")), (Str.ofString "zero"), (Str.ofString "Times.zero"), sx_Times_zero, [], []⟩
abbrev sx_l_zero : Stmt := (top 43)
abbrev d_l_zero : DD := ⟨fun K => (He.ga K (Str.ofString "_law_zero")), (Str.ofString "_law_zero"), (Str.ofString "_law_zero"), sx_l_zero, [], []⟩
abbrev sx_Times_eq_ : Stmt := (inClass (top 26) 7)
abbrev d_Times_eq_ : DD := ⟨fun K => (He.ma K (He.ga K (Str.ofString "Times")) (Str.ofString "__eq__")), (Str.ofString "__eq__"), (Str.ofString "Times.__eq__"), sx_Times_eq_, [], []⟩
abbrev sx_Times_lshift_ : Stmt := (inClass (top 26) 11)
abbrev d_Times_lshift_ : DD := ⟨fun K => (He.ma K (He.ga K (Str.ofString "Times")) (Str.ofString "__lshift__")), (Str.ofString "__lshift__"), (Str.ofString "Times.__lshift__"), sx_Times_lshift_, [], []⟩
abbrev sx_Times_rshift_ : Stmt := (inClass (top 26) 10)
abbrev d_Times_rshift_ : DD := ⟨fun K => (He.ma K (He.ga K (Str.ofString "Times")) (Str.ofString "__rshift__")), (Str.ofString "__rshift__"), (Str.ofString "Times.__rshift__"), sx_Times_rshift_, [], []⟩
abbrev sx_Times_mirrored : Stmt := (inClass (top 26) 12)
abbrev d_Times_mirrored : DD := ⟨fun K => (He.ma K (He.ga K (Str.ofString "Times")) (Str.ofString "mirrored")), (Str.ofString "mirrored"), (Str.ofString "Times.mirrored"), sx_Times_mirrored, [], []⟩
abbrev sx_law : Stmt := (top 44)
abbrev d_law : DD := ⟨fun K => (He.ga K (Str.ofString "law")), (Str.ofString "law"), (Str.ofString "law"), sx_law, [], []⟩
def fa : List Fc := [fun K => (He.Fa.free (Str.ofString "bool")).ok K, fun K => (He.Fa.free (Str.ofString "dict")).ok K, fun K => (He.Fa.free (Str.ofString "int")).ok K, fun K => (He.Fa.free (Str.ofString "isinstance")).ok K, fun K => (He.Fa.free (Str.ofString "iter")).ok K, fun K => (He.Fa.free (Str.ofString "len")).ok K, fun K => (He.Fa.free (Str.ofString "list")).ok K, fun K => (He.Fa.free (Str.ofString "max")).ok K, fun K => (He.Fa.free (Str.ofString "min")).ok K, fun K => (He.Fa.free (Str.ofString "range")).ok K, fun K => (He.Fa.free (Str.ofString "str")).ok K, fun K => (He.Fa.free (Str.ofString "tuple")).ok K, fun K => (He.Fa.glo (Str.ofString "Net")).ok K, fun K => (He.Fa.glo (Str.ofString "Times")).ok K, fun K => (He.Fa.glo (Str.ofString "_law_draw")).ok K, fun K => (He.Fa.glo (Str.ofString "_law_is_int")).ok K, fun K => (He.Fa.glo (Str.ofString "_law_length")).ok K, fun K => (He.Fa.glo (Str.ofString "_law_minutes")).ok K, fun K => (He.Fa.glo (Str.ofString "_law_names")).ok K, fun K => (He.Fa.glo (Str.ofString "_law_others")).ok K, fun K => (He.Fa.glo (Str.ofString "_law_pool")).ok K, fun K => (He.Fa.glo (Str.ofString "_law_same")).ok K, fun K => (He.Fa.glo (Str.ofString "_law_size")).ok K, fun K => (He.Fa.glo (Str.ofString "_law_some")).ok K, fun K => (He.Fa.glo (Str.ofString "_law_stranger")).ok K, fun K => (He.Fa.glo (Str.ofString "_law_told")).ok K, fun K => (He.Fa.glo (Str.ofString "_law_turned")).ok K, fun K => (He.Fa.glo (Str.ofString "_law_word")).ok K, fun K => (He.Fa.glo (Str.ofString "_law_zero")).ok K, fun K => (He.Fa.glo (Str.ofString "check_name")).ok K, fun K => (He.Fa.glo (Str.ofString "check_number")).ok K, fun K => (He.Fa.glo (Str.ofString "is_name")).ok K, fun K => (He.Fa.glo (Str.ofString "law")).ok K, fun K => (He.Fa.str (Str.ofString "DIGITS") (Str.ofString "0123456789")).ok K, fun K => (He.Fa.str (Str.ofString "LETTERS") (Str.ofString "abcdefghijklmnopqrstuvwxyz")).ok K, fun K => (He.Fa.cls (Str.ofString "Times")).ok K, fun K => creadB K (He.ga K (Str.ofString "Net")), fun K => creadB K (He.ga K (Str.ofString "Times")), fun K => cstaB K (He.ga K (Str.ofString "Times")) (Str.ofString "zero"), fun K => cvalB K (He.ga K (Str.ofString "Net")) (Str.ofString "LONGEST") 120, fun K => cvalB K (He.ga K (Str.ofString "Net")) (Str.ofString "SHORTEST") 3, fun K => intOpB K (He.ga K (Str.ofString "Times")) .LShift, fun K => intOpB K (He.ga K (Str.ofString "Times")) .RShift, fun K => isiB K (He.ga K (Str.ofString "Times")), fun K => (He.Fa.meth (Str.ofString "Times") (Str.ofString "mirrored")).ok K, fun K => (He.Fa.mkr (Str.ofString "Times")).ok K, fun K => (He.Fa.noat (Str.ofString "Times") (Str.ofString "__contains__")).ok K, fun K => (He.Fa.noat (Str.ofString "Times") (Str.ofString "_minutes")).ok K, fun K => (He.Fa.noat (Str.ofString "Times") (Str.ofString "_names")).ok K, fun K => (He.Fa.noat (Str.ofString "Times") (Str.ofString "_round")).ok K, fun K => ownB K (He.ga K (Str.ofString "Times")) (Str.ofString "__eq__"), fun K => ownB K (He.ga K (Str.ofString "Times")) (Str.ofString "__getitem__"), fun K => ownB K (He.ga K (Str.ofString "Times")) (Str.ofString "__iter__"), fun K => ownB K (He.ga K (Str.ofString "Times")) (Str.ofString "__len__"), fun K => ownB K (He.ga K (Str.ofString "Times")) (Str.ofString "__lshift__"), fun K => ownB K (He.ga K (Str.ofString "Times")) (Str.ofString "__rshift__"), fun K => propB K (He.ga K (Str.ofString "Times")) (Str.ofString "minutes"), fun K => propB K (He.ga K (Str.ofString "Times")) (Str.ofString "round_length")]
def fn : List DD := [d_l_draw, d_l_length, d_l_minutes, d_l_word, d_l_names, d_l_others, d_l_pool, d_l_is_int, d_l_same, d_l_size, d_l_some, d_l_stranger, d_Times_getitem_, d_Times_iter_, d_Times_len_, d_Times_minutes, d_Times_round_length, d_l_told, d_l_turned, d_is_name, d_check_name, d_check_number, d_Times_init_, d_Times_zero, d_l_zero, d_Times_eq_, d_Times_lshift_, d_Times_rshift_, d_Times_mirrored, d_law]
section
variable {P : Program} {w : World} {K : PySem.W.Frag} {mg : Str → Option Value} {base : Heap}
theorem g_bool (T : Tx fa fn K mg) : mg (Str.ofString "bool") = none := T.free (T.c.fact 0 rfl)
theorem g_dict (T : Tx fa fn K mg) : mg (Str.ofString "dict") = none := T.free (T.c.fact 1 rfl)
theorem g_int (T : Tx fa fn K mg) : mg (Str.ofString "int") = none := T.free (T.c.fact 2 rfl)
theorem g_isinstance (T : Tx fa fn K mg) : mg (Str.ofString "isinstance") = none := T.free (T.c.fact 3 rfl)
theorem g_iter (T : Tx fa fn K mg) : mg (Str.ofString "iter") = none := T.free (T.c.fact 4 rfl)
theorem g_len (T : Tx fa fn K mg) : mg (Str.ofString "len") = none := T.free (T.c.fact 5 rfl)
theorem g_list (T : Tx fa fn K mg) : mg (Str.ofString "list") = none := T.free (T.c.fact 6 rfl)
theorem g_max (T : Tx fa fn K mg) : mg (Str.ofString "max") = none := T.free (T.c.fact 7 rfl)
theorem g_min (T : Tx fa fn K mg) : mg (Str.ofString "min") = none := T.free (T.c.fact 8 rfl)
theorem g_range (T : Tx fa fn K mg) : mg (Str.ofString "range") = none := T.free (T.c.fact 9 rfl)
theorem g_str (T : Tx fa fn K mg) : mg (Str.ofString "str") = none := T.free (T.c.fact 10 rfl)
theorem g_tuple (T : Tx fa fn K mg) : mg (Str.ofString "tuple") = none := T.free (T.c.fact 11 rfl)
theorem g_Net (T : Tx fa fn K mg) : mg (Str.ofString "Net") = some (.ref (He.ga K (Str.ofString "Net"))) := T.glo (T.c.fact 12 rfl)
theorem g_Times (T : Tx fa fn K mg) : mg (Str.ofString "Times") = some (.ref (He.ga K (Str.ofString "Times"))) := T.glo (T.c.fact 13 rfl)
theorem g__law_draw (T : Tx fa fn K mg) : mg (Str.ofString "_law_draw") = some (.ref (He.ga K (Str.ofString "_law_draw"))) := T.glo (T.c.fact 14 rfl)
theorem g__law_is_int (T : Tx fa fn K mg) : mg (Str.ofString "_law_is_int") = some (.ref (He.ga K (Str.ofString "_law_is_int"))) := T.glo (T.c.fact 15 rfl)
theorem g__law_length (T : Tx fa fn K mg) : mg (Str.ofString "_law_length") = some (.ref (He.ga K (Str.ofString "_law_length"))) := T.glo (T.c.fact 16 rfl)
theorem g__law_minutes (T : Tx fa fn K mg) : mg (Str.ofString "_law_minutes") = some (.ref (He.ga K (Str.ofString "_law_minutes"))) := T.glo (T.c.fact 17 rfl)
theorem g__law_names (T : Tx fa fn K mg) : mg (Str.ofString "_law_names") = some (.ref (He.ga K (Str.ofString "_law_names"))) := T.glo (T.c.fact 18 rfl)
theorem g__law_others (T : Tx fa fn K mg) : mg (Str.ofString "_law_others") = some (.ref (He.ga K (Str.ofString "_law_others"))) := T.glo (T.c.fact 19 rfl)
theorem g__law_pool (T : Tx fa fn K mg) : mg (Str.ofString "_law_pool") = some (.ref (He.ga K (Str.ofString "_law_pool"))) := T.glo (T.c.fact 20 rfl)
theorem g__law_same (T : Tx fa fn K mg) : mg (Str.ofString "_law_same") = some (.ref (He.ga K (Str.ofString "_law_same"))) := T.glo (T.c.fact 21 rfl)
theorem g__law_size (T : Tx fa fn K mg) : mg (Str.ofString "_law_size") = some (.ref (He.ga K (Str.ofString "_law_size"))) := T.glo (T.c.fact 22 rfl)
theorem g__law_some (T : Tx fa fn K mg) : mg (Str.ofString "_law_some") = some (.ref (He.ga K (Str.ofString "_law_some"))) := T.glo (T.c.fact 23 rfl)
theorem g__law_stranger (T : Tx fa fn K mg) : mg (Str.ofString "_law_stranger") = some (.ref (He.ga K (Str.ofString "_law_stranger"))) := T.glo (T.c.fact 24 rfl)
theorem g__law_told (T : Tx fa fn K mg) : mg (Str.ofString "_law_told") = some (.ref (He.ga K (Str.ofString "_law_told"))) := T.glo (T.c.fact 25 rfl)
theorem g__law_turned (T : Tx fa fn K mg) : mg (Str.ofString "_law_turned") = some (.ref (He.ga K (Str.ofString "_law_turned"))) := T.glo (T.c.fact 26 rfl)
theorem g__law_word (T : Tx fa fn K mg) : mg (Str.ofString "_law_word") = some (.ref (He.ga K (Str.ofString "_law_word"))) := T.glo (T.c.fact 27 rfl)
theorem g__law_zero (T : Tx fa fn K mg) : mg (Str.ofString "_law_zero") = some (.ref (He.ga K (Str.ofString "_law_zero"))) := T.glo (T.c.fact 28 rfl)
theorem g_check_name (T : Tx fa fn K mg) : mg (Str.ofString "check_name") = some (.ref (He.ga K (Str.ofString "check_name"))) := T.glo (T.c.fact 29 rfl)
theorem g_check_number (T : Tx fa fn K mg) : mg (Str.ofString "check_number") = some (.ref (He.ga K (Str.ofString "check_number"))) := T.glo (T.c.fact 30 rfl)
theorem g_is_name (T : Tx fa fn K mg) : mg (Str.ofString "is_name") = some (.ref (He.ga K (Str.ofString "is_name"))) := T.glo (T.c.fact 31 rfl)
theorem g_law (T : Tx fa fn K mg) : mg (Str.ofString "law") = some (.ref (He.ga K (Str.ofString "law"))) := T.glo (T.c.fact 32 rfl)
theorem g_DIGITS (T : Tx fa fn K mg) : ∃ t, mg (Str.ofString "DIGITS") = some (.str (Str.ofString "0123456789") t) := T.str (T.c.fact 33 rfl)
theorem g_LETTERS (T : Tx fa fn K mg) : ∃ t, mg (Str.ofString "LETTERS") = some (.str (Str.ofString "abcdefghijklmnopqrstuvwxyz") t) := T.str (T.c.fact 34 rfl)
theorem c_Times (T : Tx fa fn K mg) : Cls K (He.ga K (Str.ofString "Times")) := He.cls_ok (T.c.fact 35 rfl)
theorem cr_Net (T : Tx fa fn K mg) : ClX.CRead K (He.ga K (Str.ofString "Net")) (.type "type") := creadB_ok (T.c.fact 36 rfl)
theorem cr_Times (T : Tx fa fn K mg) : ClX.CRead K (He.ga K (Str.ofString "Times")) (.type "type") := creadB_ok (T.c.fact 37 rfl)
theorem cs_Times_zero (T : Tx fa fn K mg) : CSta K (He.ga K (Str.ofString "Times")) (Str.ofString "zero") (He.ma K (He.ga K (Str.ofString "Times")) (Str.ofString "zero")) (He5.wf K (He.ga K (Str.ofString "Times")) "staticmethod" (Str.ofString "zero")) := cstaB_ok (T.c.fact 38 rfl)
theorem cv_Net_LONGEST (T : Tx fa fn K mg) : ∃ u, ClX.CVal K (He.ga K (Str.ofString "Net")) (.type "type") (Str.ofString "LONGEST") (.int 120) u := cvalB_ok (T.c.fact 39 rfl)
theorem cv_Net_SHORTEST (T : Tx fa fn K mg) : ∃ u, ClX.CVal K (He.ga K (Str.ofString "Net")) (.type "type") (Str.ofString "SHORTEST") (.int 3) u := cvalB_ok (T.c.fact 40 rfl)
theorem io_Times_LShift (T : Tx fa fn K mg) : IntOp K (He.ga K (Str.ofString "Times")) .LShift := intOpB_ok (T.c.fact 41 rfl)
theorem io_Times_RShift (T : Tx fa fn K mg) : IntOp K (He.ga K (Str.ofString "Times")) .RShift := intOpB_ok (T.c.fact 42 rfl)
theorem isi_Times (T : Tx fa fn K mg) : IsiF K (He.ga K (Str.ofString "Times")) := isiB_ok (T.c.fact 43 rfl)
theorem me_Times_mirrored (T : Tx fa fn K mg) : Meth K (He.ga K (Str.ofString "Times")) (Str.ofString "mirrored") (He.ma K (He.ga K (Str.ofString "Times")) (Str.ofString "mirrored")) := He.meth_ok (T.c.fact 44 rfl)
theorem mk_Times (T : Tx fa fn K mg) : Mk K (He.ga K (Str.ofString "Times")) (He.ma K (He.ga K (Str.ofString "Times")) (Str.ofString "__init__")) := He.mkr_ok (T.c.fact 45 rfl)
theorem n_Times___contains__ (T : Tx fa fn K mg) : NoAttr K (He.ga K (Str.ofString "Times")) (Str.ofString "__contains__") := He.noat_ok (T.c.fact 46 rfl)
theorem n_Times__minutes (T : Tx fa fn K mg) : NoAttr K (He.ga K (Str.ofString "Times")) (Str.ofString "_minutes") := He.noat_ok (T.c.fact 47 rfl)
theorem n_Times__names (T : Tx fa fn K mg) : NoAttr K (He.ga K (Str.ofString "Times")) (Str.ofString "_names") := He.noat_ok (T.c.fact 48 rfl)
theorem n_Times__round (T : Tx fa fn K mg) : NoAttr K (He.ga K (Str.ofString "Times")) (Str.ofString "_round") := He.noat_ok (T.c.fact 49 rfl)
theorem ow_Times_eq (T : Tx fa fn K mg) : OwnM K (He.ga K (Str.ofString "Times")) (Str.ofString "__eq__") (He.ma K (He.ga K (Str.ofString "Times")) (Str.ofString "__eq__")) := ownB_ok (T.c.fact 50 rfl)
theorem ow_Times_getitem (T : Tx fa fn K mg) : OwnM K (He.ga K (Str.ofString "Times")) (Str.ofString "__getitem__") (He.ma K (He.ga K (Str.ofString "Times")) (Str.ofString "__getitem__")) := ownB_ok (T.c.fact 51 rfl)
theorem ow_Times_iter (T : Tx fa fn K mg) : OwnM K (He.ga K (Str.ofString "Times")) (Str.ofString "__iter__") (He.ma K (He.ga K (Str.ofString "Times")) (Str.ofString "__iter__")) := ownB_ok (T.c.fact 52 rfl)
theorem ow_Times_len (T : Tx fa fn K mg) : OwnM K (He.ga K (Str.ofString "Times")) (Str.ofString "__len__") (He.ma K (He.ga K (Str.ofString "Times")) (Str.ofString "__len__")) := ownB_ok (T.c.fact 53 rfl)
theorem ow_Times_lshift (T : Tx fa fn K mg) : OwnM K (He.ga K (Str.ofString "Times")) (Str.ofString "__lshift__") (He.ma K (He.ga K (Str.ofString "Times")) (Str.ofString "__lshift__")) := ownB_ok (T.c.fact 54 rfl)
theorem ow_Times_rshift (T : Tx fa fn K mg) : OwnM K (He.ga K (Str.ofString "Times")) (Str.ofString "__rshift__") (He.ma K (He.ga K (Str.ofString "Times")) (Str.ofString "__rshift__")) := ownB_ok (T.c.fact 55 rfl)
theorem q_Times_minutes (T : Tx fa fn K mg) : PropOf K (He.ga K (Str.ofString "Times")) (Str.ofString "minutes") (He.ma K (He.ga K (Str.ofString "Times")) (Str.ofString "minutes")) (He5.wf K (He.ga K (Str.ofString "Times")) "property" (Str.ofString "minutes")) := propB_ok (T.c.fact 56 rfl)
theorem q_Times_round_length (T : Tx fa fn K mg) : PropOf K (He.ga K (Str.ofString "Times")) (Str.ofString "round_length") (He.ma K (He.ga K (Str.ofString "Times")) (Str.ofString "round_length")) (He5.wf K (He.ga K (Str.ofString "Times")) "property" (Str.ofString "round_length")) := propB_ok (T.c.fact 57 rfl)
theorem fd_l_draw (T : Tx fa fn K mg) : FunAt K d_l_draw := T.c.def_ 0 rfl
theorem b_l_draw (T : Tx fa fn K mg) : Binds K (fdA K (d_l_draw.adr K)) [(Str.ofString "_law_pool_here"), (Str.ofString "_law_many")] [] := (fd_l_draw T).bindsN fun _ _ _ _ _ _ us hl => match us, hl with | [_, _], _ => rfl
theorem sc_l_draw : FnScope N_l_draw [(Str.ofString "_law_pool_here"), (Str.ofString "_law_many")] (defScope sx_l_draw) := ⟨rfl, rfl, rfl, by decide +kernel, rfl, by decide +kernel, by decide +kernel⟩
set_option maxHeartbeats 4000000 in
theorem ok_l_draw (T : Tx fa fn K mg) : FnOk P w K mg base (L2.CX P w) 1 (d_l_draw.adr K) (fdA K (d_l_draw.adr K)) [(Str.ofString "_law_pool_here"), (Str.ofString "_law_many")] (sp_l_draw K) := by
  refine (fd_l_draw T).ok (CX := L2.CX P w) (k := 0) sc_l_draw len_l_draw (fun cdv A outer s H vs Q E hr h => ⟨t_l_draw K E, ?_, rd_l_draw h⟩)
  exact (pss_cons (ps_if (pt_cmpR op_gt (pe_ix ix_list (pv 0) pe_int (fun _ _ => rfl)) pe_int (nomark _)) (pss_cons (ps_set (i := 2) sc_l_draw.nd rfl (by first | exact Or.inl rfl | exact Or.inr rfl) (pe_op op_mod (pe_callTy call_int1 (by rfl) (g_int T) (by decide +kernel) (pa_cons (pe_ix ix_list (pv 0) pe_int (fun _ _ => rfl)) pa_nil)) (pv 1)))
  (pss_cons (ps_asg (pe_op op_fdivW (pe_ix ix_list (pv 0) pe_int (fun _ _ => rfl)) (pv 1)) (pg_sub (pv 0) pe_int set_list))
  (pss_one (ps_ret (pv 2))))) pss_nil)
  (pss_cons (ps_asg (pe_op op_add (pe_ix ix_list (pv 0) pe_int (fun _ _ => rfl)) pe_int) (pg_sub (pv 0) pe_int set_list))
  (pss_cons (ps_set (i := 3) sc_l_draw.nd rfl (by first | exact Or.inl rfl | exact Or.inr rfl) (pe_ix ix_list (pv 0) pe_int (fun _ _ => rfl)))
  (pss_cons (ps_set (i := 4) sc_l_draw.nd rfl (by first | exact Or.inl rfl | exact Or.inr rfl) pe_int)
  (pss_cons (ps_set (i := 5) sc_l_draw.nd rfl (by first | exact Or.inl rfl | exact Or.inr rfl) pe_int)
  (pss_cons (ps_if (pt_cmpR op_gt (pe_callB call_len_seq (by rfl) (g_len T) (by decide +kernel) (pa_cons (pv 3) pa_nil)) pe_int (nomark _)) (pss_cons (ps_set (i := 4) sc_l_draw.nd rfl (by first | exact Or.inl rfl | exact Or.inr rfl) (pe_ix ix_list (pv 3) (pe_op op_mod (pe_callTy call_int1 (by rfl) (g_int T) (by decide +kernel) (pa_cons (pe_ix ix_list (pv 0) pe_int (fun _ _ => rfl)) pa_nil)) (pe_callB call_len_seq (by rfl) (g_len T) (by decide +kernel) (pa_cons (pv 3) pa_nil))) (fun _ _ => rfl)))
  (pss_one (ps_set (i := 5) sc_l_draw.nd rfl (by first | exact Or.inl rfl | exact Or.inr rfl) (pe_ix ix_list (pv 3) pe_int (fun _ _ => rfl))))) pss_nil)
  (pss_cons (ps_set (i := 6) sc_l_draw.nd rfl (by first | exact Or.inl rfl | exact Or.inr rfl) (pe_op op_mod (pe_callTy call_int1 (by rfl) (g_int T) (by decide +kernel) (pa_cons (pe_op op_add (pe_op op_add (pe_op op_add (pe_op op_mul (pv 4) pe_int) (pe_op op_mul (pv 5) pe_int)) (pe_op op_mul (pe_ix ix_list (pv 0) pe_int (fun _ _ => rfl)) pe_int)) pe_int) pa_nil)) pe_int))
  (pss_cons (ps_set (i := 6) sc_l_draw.nd rfl (by first | exact Or.inl rfl | exact Or.inr rfl) (pe_op op_mod (pe_callTy call_int1 (by rfl) (g_int T) (by decide +kernel) (pa_cons (pe_op op_add (pe_op op_add (pe_op op_mul (pv 6) (pv 6)) (pe_op op_mul (pv 6) pe_int)) (pe_op op_mul (pe_ix ix_list (pv 0) pe_int (fun _ _ => rfl)) pe_int)) pa_nil)) pe_int))
  (pss_one (ps_ret (pe_op op_mod (pe_callTy call_int1 (by rfl) (g_int T) (by decide +kernel) (pa_cons (pe_op op_fdivW (pv 6) pe_int) pa_nil)) (pv 1))))))))))))
theorem fd_l_length (T : Tx fa fn K mg) : FunAt K d_l_length := T.c.def_ 1 rfl
theorem b_l_length (T : Tx fa fn K mg) : Binds K (fdA K (d_l_length.adr K)) [(Str.ofString "_law_pool_here"), (Str.ofString "_law_limit")] [] := (fd_l_length T).bindsN fun _ _ _ _ _ _ us hl => match us, hl with | [_, _], _ => rfl
theorem sc_l_length : FnScope N_l_length [(Str.ofString "_law_pool_here"), (Str.ofString "_law_limit")] (defScope sx_l_length) := ⟨rfl, rfl, rfl, by decide +kernel, rfl, by decide +kernel, by decide +kernel⟩
set_option maxHeartbeats 4000000 in
theorem ok_l_length (T : Tx fa fn K mg) : FnOk P w K mg base (L2.CX P w) 2 (d_l_length.adr K) (fdA K (d_l_length.adr K)) [(Str.ofString "_law_pool_here"), (Str.ofString "_law_limit")] (sp_l_length K) := by
  refine (fd_l_length T).ok (CX := L2.CX P w) (k := 1) sc_l_length len_l_length (fun cdv A outer s H vs Q E hr h => ⟨t_l_length K E, ?_, rd_l_length h⟩)
  exact (pss_cons (ps_set (i := 2) sc_l_length.nd rfl (by first | exact Or.inl rfl | exact Or.inr rfl) (pe_call (ok_l_draw T) (hr.mono (by decide)) (by rfl) (g__law_draw T) (fd_l_draw T).kp (b_l_draw T) .nil passD (pa_cons (pv 0) (pa_cons pe_int pa_nil))))
  (pss_cons (ps_if (pt_cmpR op_lt (pv 2) pe_int (nomark _)) (pss_one (ps_ret (pe_op op_add pe_int (pe_call (ok_l_draw T) (hr.mono (by decide)) (by rfl) (g__law_draw T) (fd_l_draw T).kp (b_l_draw T) .nil passD (pa_cons (pv 0) (pa_cons pe_int pa_nil)))))) pss_nil)
  (pss_cons (ps_if (pt_cmpR op_lt (pv 2) pe_int (nomark _)) (pss_one (ps_ret (pe_callB (call_min2 rfl) (by rfl) (g_min T) (by decide +kernel) (pa_cons (pv 1) (pa_cons (pe_op op_add pe_int (pe_call (ok_l_draw T) (hr.mono (by decide)) (by rfl) (g__law_draw T) (fd_l_draw T).kp (b_l_draw T) .nil passD (pa_cons (pv 0) (pa_cons pe_int pa_nil)))) pa_nil))))) pss_nil)
  (pss_one (ps_ret (pe_callB (call_max2 rfl) (by rfl) (g_max T) (by decide +kernel) (pa_cons pe_int (pa_cons (pe_op op_sub (pv 1) (pe_call (ok_l_draw T) (hr.mono (by decide)) (by rfl) (g__law_draw T) (fd_l_draw T).kp (b_l_draw T) .nil passD (pa_cons (pv 0) (pa_cons (pv 1) pa_nil)))) pa_nil))))))))
theorem fd_l_minutes (T : Tx fa fn K mg) : FunAt K d_l_minutes := T.c.def_ 2 rfl
theorem b_l_minutes (T : Tx fa fn K mg) : Binds K (fdA K (d_l_minutes.adr K)) [(Str.ofString "_law_names_here"), (Str.ofString "_law_minutes_here"), (Str.ofString "_law_first")] [] := (fd_l_minutes T).bindsN fun _ _ _ _ _ _ us hl => match us, hl with | [_, _, _], _ => rfl
theorem sc_l_minutes : FnScope N_l_minutes [(Str.ofString "_law_names_here"), (Str.ofString "_law_minutes_here"), (Str.ofString "_law_first")] (defScope sx_l_minutes) := ⟨rfl, rfl, rfl, by decide +kernel, rfl, by decide +kernel, by decide +kernel⟩
set_option maxHeartbeats 4000000 in
theorem ok_l_minutes (T : Tx fa fn K mg) : FnOk P w K mg base (L2.CX P w) 1 (d_l_minutes.adr K) (fdA K (d_l_minutes.adr K)) [(Str.ofString "_law_names_here"), (Str.ofString "_law_minutes_here"), (Str.ofString "_law_first")] (sp_l_minutes K) := by
  refine (fd_l_minutes T).ok (CX := L2.CX P w) (k := 0) sc_l_minutes len_l_minutes (fun cdv A outer s H vs Q E hr h => ⟨t_l_minutes K E, ?_, rd_l_minutes h⟩)
  exact (pss_cons (ps_set (i := 3) sc_l_minutes.nd rfl (by first | exact Or.inl rfl | exact Or.inr rfl) pe_dnewK)
  (pss_cons (ps_for (passes_of rfl) rfl (pi_range1 (by rfl) (g_range T) (pa_cons (pe_callB call_len_seq (by rfl) (g_len T) (by decide +kernel) (pa_cons (pv 0) pa_nil)) pa_nil)) (pg_name (i := 4) sc_l_minutes.nd rfl (by first | exact Or.inl rfl | exact Or.inr rfl)) (pss_cons (ps_set (i := 5) sc_l_minutes.nd rfl (by first | exact Or.inl rfl | exact Or.inr rfl) (pe_op op_mod (pe_callTy call_int1 (by rfl) (g_int T) (by decide +kernel) (pa_cons (pe_op op_add (pv 4) (pv 2)) pa_nil)) (pe_callB call_len_seq (by rfl) (g_len T) (by decide +kernel) (pa_cons (pv 0) pa_nil))))
  (pss_one (ps_dput (hu_of hr) (pv 3) (pe_ix ix_list (pv 0) (pv 5) (fun _ _ => rfl)) (pe_ix ix_list (pv 1) (pv 5) (fun _ _ => rfl)) (by rfl)))))
  (pss_one (ps_ret (pv 3)))))
theorem fd_l_word (T : Tx fa fn K mg) : FunAt K d_l_word := T.c.def_ 3 rfl
theorem b_l_word (T : Tx fa fn K mg) : Binds K (fdA K (d_l_word.adr K)) [(Str.ofString "_law_pool_here"), (Str.ofString "_law_size_here")] [] := (fd_l_word T).bindsN fun _ _ _ _ _ _ us hl => match us, hl with | [_, _], _ => rfl
theorem sc_l_word : FnScope N_l_word [(Str.ofString "_law_pool_here"), (Str.ofString "_law_size_here")] (defScope sx_l_word) := ⟨rfl, rfl, rfl, by decide +kernel, rfl, by decide +kernel, by decide +kernel⟩
set_option maxHeartbeats 4000000 in
theorem ok_l_word (T : Tx fa fn K mg) : FnOk P w K mg base (L2.CX P w) 2 (d_l_word.adr K) (fdA K (d_l_word.adr K)) [(Str.ofString "_law_pool_here"), (Str.ofString "_law_size_here")] (sp_l_word K) := by
  refine (fd_l_word T).ok (CX := L2.CX P w) (k := 1) sc_l_word len_l_word (fun cdv A outer s H vs Q E hr h => ⟨t_l_word K E, ?_, rd_l_word h⟩)
  exact (pss_cons (ps_set (i := 2) sc_l_word.nd rfl (by first | exact Or.inl rfl | exact Or.inr rfl) pe_str)
  (pss_cons (ps_set (i := 3) sc_l_word.nd rfl (by first | exact Or.inl rfl | exact Or.inr rfl) pe_str)
  (pss_cons (ps_for (passes_of rfl) rfl (pi_range1 (by rfl) (g_range T) (pa_cons (pv 1) pa_nil)) (pg_name (i := 4) sc_l_word.nd rfl (by first | exact Or.inl rfl | exact Or.inr rfl)) (pss_one (ps_set (i := 3) sc_l_word.nd rfl (by first | exact Or.inl rfl | exact Or.inr rfl) (pe_op op_add_str (pv 3) (pe_ix ix_str (pv 2) (pe_call (ok_l_draw T) (hr.mono (by decide)) (by rfl) (g__law_draw T) (fd_l_draw T).kp (b_l_draw T) .nil passD (pa_cons (pv 0) (pa_cons pe_int pa_nil))) (fun _ _ => rfl))))))
  (pss_one (ps_ret (pv 3))))))
theorem fd_l_names (T : Tx fa fn K mg) : FunAt K d_l_names := T.c.def_ 4 rfl
theorem b_l_names (T : Tx fa fn K mg) : Binds K (fdA K (d_l_names.adr K)) [(Str.ofString "_law_pool_here"), (Str.ofString "_law_many")] [] := (fd_l_names T).bindsN fun _ _ _ _ _ _ us hl => match us, hl with | [_, _], _ => rfl
theorem sc_l_names : FnScope N_l_names [(Str.ofString "_law_pool_here"), (Str.ofString "_law_many")] (defScope sx_l_names) := ⟨rfl, rfl, rfl, by decide +kernel, rfl, by decide +kernel, by decide +kernel⟩
set_option maxHeartbeats 4000000 in
theorem ok_l_names (T : Tx fa fn K mg) : FnOk P w K mg base (L2.CX P w) 3 (d_l_names.adr K) (fdA K (d_l_names.adr K)) [(Str.ofString "_law_pool_here"), (Str.ofString "_law_many")] (sp_l_names K) := by
  refine (fd_l_names T).ok (CX := L2.CX P w) (k := 2) sc_l_names len_l_names (fun cdv A outer s H vs Q E hr h => ⟨t_l_names K E, ?_, rd_l_names h⟩)
  exact (pss_cons (ps_set (i := 2) sc_l_names.nd rfl (by first | exact Or.inl rfl | exact Or.inr rfl) pe_str)
  (pss_cons (ps_set (i := 3) sc_l_names.nd rfl (by first | exact Or.inl rfl | exact Or.inr rfl) pe_str)
  (pss_cons (ps_set (i := 4) sc_l_names.nd rfl (by first | exact Or.inl rfl | exact Or.inr rfl) (pe_call (ok_l_draw T) (hr.mono (by decide)) (by rfl) (g__law_draw T) (fd_l_draw T).kp (b_l_draw T) .nil passD (pa_cons (pv 0) (pa_cons pe_int pa_nil))))
  (pss_cons (ps_set (i := 5) sc_l_names.nd rfl (by first | exact Or.inl rfl | exact Or.inr rfl) (pe_op op_add_str (pe_ix ix_str (pv 2) (pe_call (ok_l_draw T) (hr.mono (by decide)) (by rfl) (g__law_draw T) (fd_l_draw T).kp (b_l_draw T) .nil passD (pa_cons (pv 0) (pa_cons pe_int pa_nil))) (fun _ _ => rfl)) (pe_call (ok_l_word T) (hr.mono (by decide)) (by rfl) (g__law_word T) (fd_l_word T).kp (b_l_word T) .nil passD (pa_cons (pv 0) (pa_cons (pe_call (ok_l_draw T) (hr.mono (by decide)) (by rfl) (g__law_draw T) (fd_l_draw T).kp (b_l_draw T) .nil passD (pa_cons (pv 0) (pa_cons pe_int pa_nil))) pa_nil)))))
  (pss_cons (ps_set (i := 6) sc_l_names.nd rfl (by first | exact Or.inl rfl | exact Or.inr rfl) (pe_call (ok_l_word T) (hr.mono (by decide)) (by rfl) (g__law_word T) (fd_l_word T).kp (b_l_word T) .nil passD (pa_cons (pv 0) (pa_cons (pe_call (ok_l_draw T) (hr.mono (by decide)) (by rfl) (g__law_draw T) (fd_l_draw T).kp (b_l_draw T) .nil passD (pa_cons (pv 0) (pa_cons pe_int pa_nil))) pa_nil))))
  (pss_cons (ps_set (i := 7) sc_l_names.nd rfl (by first | exact Or.inl rfl | exact Or.inr rfl) (pe_call (ok_l_draw T) (hr.mono (by decide)) (by rfl) (g__law_draw T) (fd_l_draw T).kp (b_l_draw T) .nil passD (pa_cons (pv 0) (pa_cons pe_int pa_nil))))
  (pss_cons (ps_set (i := 8) sc_l_names.nd rfl (by first | exact Or.inl rfl | exact Or.inr rfl) (pe_lst pa_nil))
  (pss_cons (ps_for (passes_of rfl) rfl (pi_range1 (by rfl) (g_range T) (pa_cons (pv 1) pa_nil)) (pg_name (i := 9) sc_l_names.nd rfl (by first | exact Or.inl rfl | exact Or.inr rfl)) (pss_cons (ps_set (i := 10) sc_l_names.nd rfl (by first | exact Or.inl rfl | exact Or.inr rfl) (pe_op op_add_str (pe_op op_add_str (pv 5) (pe_ix ix_str (pv 3) (pe_op op_mod (pe_callTy call_int1 (by rfl) (g_int T) (by decide +kernel) (pa_cons (pe_op op_add (pv 7) (pe_op op_mul pe_int (pv 9))) pa_nil)) pe_int) (fun _ _ => rfl))) (pv 6)))
  (pss_cons (ps_if (pt_cmpR op_eq (pv 4) pe_int (nomark _)) (pss_one (ps_set (i := 10) sc_l_names.nd rfl (by first | exact Or.inl rfl | exact Or.inr rfl) (pe_op op_add_str (pe_ix ix_str (pv 2) (pe_op op_mod (pe_callTy call_int1 (by rfl) (g_int T) (by decide +kernel) (pa_cons (pe_op op_add (pv 7) (pe_op op_mul pe_int (pv 9))) pa_nil)) pe_int) (fun _ _ => rfl)) (pe_call (ok_l_word T) (hr.mono (by decide)) (by rfl) (g__law_word T) (fd_l_word T).kp (b_l_word T) .nil passD (pa_cons (pv 0) (pa_cons (pe_call (ok_l_draw T) (hr.mono (by decide)) (by rfl) (g__law_draw T) (fd_l_draw T).kp (b_l_draw T) .nil passD (pa_cons (pv 0) (pa_cons pe_int pa_nil))) pa_nil)))))) pss_nil)
  (pss_cons (ps_if (pt_cmpR op_eq (pv 4) pe_int (nomark _)) (pss_one (ps_set (i := 10) sc_l_names.nd rfl (by first | exact Or.inl rfl | exact Or.inr rfl) (pe_op op_add_str (pe_ix ix_str (pv 2) (pe_call (ok_l_draw T) (hr.mono (by decide)) (by rfl) (g__law_draw T) (fd_l_draw T).kp (b_l_draw T) .nil passD (pa_cons (pv 0) (pa_cons pe_int pa_nil))) (fun _ _ => rfl)) (pe_call (ok_l_word T) (hr.mono (by decide)) (by rfl) (g__law_word T) (fd_l_word T).kp (b_l_word T) .nil passD (pa_cons (pv 0) (pa_cons (pe_call (ok_l_draw T) (hr.mono (by decide)) (by rfl) (g__law_draw T) (fd_l_draw T).kp (b_l_draw T) .nil passD (pa_cons (pv 0) (pa_cons pe_int pa_nil))) pa_nil)))))) pss_nil)
  (pss_cons (ps_for (passes_of rfl) rfl (pi_range1 (by rfl) (g_range T) (pa_cons pe_int pa_nil)) (pg_name (i := 11) sc_l_names.nd rfl (by first | exact Or.inl rfl | exact Or.inr rfl)) (pss_one (ps_if (PW.pt (pw_and (pt_cmpR op_in_seq (pv 10) (pv 8) (by rfl)) (pw_and1 (pt_cmpR op_notIn_seq (pe_op op_add_str pe_str (pe_callTy call_str_int (by rfl) (g_str T) (by decide +kernel) (pa_cons (pv 11) pa_nil))) (pv 8) (by rfl))))) (pss_one (ps_set (i := 10) sc_l_names.nd rfl (by first | exact Or.inl rfl | exact Or.inr rfl) (pe_op op_add_str pe_str (pe_callTy call_str_int (by rfl) (g_str T) (by decide +kernel) (pa_cons (pv 11) pa_nil))))) pss_nil)))
  (pss_one (ps_expr (pe_bm PySem.F.plainAttrs_list PySem.F.slot_list_append PySem.F.type_list_append mt_append (pv 8) (pa_cons (pv 10) pa_nil)))))))))
  (pss_one (ps_ret (pv 8)))))))))))
theorem fd_l_others (T : Tx fa fn K mg) : FunAt K d_l_others := T.c.def_ 5 rfl
theorem b_l_others (T : Tx fa fn K mg) : Binds K (fdA K (d_l_others.adr K)) [(Str.ofString "_law_pool_here"), (Str.ofString "_law_length_here"), (Str.ofString "_law_names_here"), (Str.ofString "_law_minutes_here"), (Str.ofString "_law_stranger_here")] [] := (fd_l_others T).bindsN fun _ _ _ _ _ _ us hl => match us, hl with | [_, _, _, _, _], _ => rfl
theorem sc_l_others : FnScope N_l_others [(Str.ofString "_law_pool_here"), (Str.ofString "_law_length_here"), (Str.ofString "_law_names_here"), (Str.ofString "_law_minutes_here"), (Str.ofString "_law_stranger_here")] (defScope sx_l_others) := ⟨rfl, rfl, rfl, by decide +kernel, rfl, by decide +kernel, by decide +kernel⟩
set_option maxHeartbeats 4000000 in
theorem ok_l_others (T : Tx fa fn K mg) : FnOk P w K mg base (L2.CX P w) 2 (d_l_others.adr K) (fdA K (d_l_others.adr K)) [(Str.ofString "_law_pool_here"), (Str.ofString "_law_length_here"), (Str.ofString "_law_names_here"), (Str.ofString "_law_minutes_here"), (Str.ofString "_law_stranger_here")] (sp_l_others K) := by
  refine (fd_l_others T).ok (CX := L2.CX P w) (k := 1) sc_l_others len_l_others (fun cdv A outer s H vs Q E hr h => ⟨t_l_others K E, ?_, rd_l_others h⟩)
  exact (pss_cons (ps_set (i := 5) sc_l_others.nd rfl (by first | exact Or.inl rfl | exact Or.inr rfl) (pe_lst (pa_cons (pe_lst (pa_cons (pv 1) (pa_cons (pe_call (ok_l_minutes T) (hr.mono (by decide)) (by rfl) (g__law_minutes T) (fd_l_minutes T).kp (b_l_minutes T) .nil passD (pa_cons (pe_op op_cat (pv 2) (pe_lst (pa_cons (pv 4) pa_nil))) (pa_cons (pe_op op_cat (pv 3) (pe_lst (pa_cons pe_int pa_nil))) (pa_cons pe_int pa_nil)))) pa_nil))) pa_nil)))
  (pss_cons (ps_if (pt_cmpR op_lt (pv 1) pe_int (nomark _)) (pss_one (ps_expr (pe_bm PySem.F.plainAttrs_list PySem.F.slot_list_append PySem.F.type_list_append mt_append (pv 5) (pa_cons (pe_lst (pa_cons (pe_op op_add (pv 1) pe_int) (pa_cons (pe_call (ok_l_minutes T) (hr.mono (by decide)) (by rfl) (g__law_minutes T) (fd_l_minutes T).kp (b_l_minutes T) .nil passD (pa_cons (pv 2) (pa_cons (pv 3) (pa_cons pe_int pa_nil)))) pa_nil))) pa_nil)))) (pss_one (ps_if (pt_cmpR op_eq (pe_callB call_len_seq (by rfl) (g_len T) (by decide +kernel) (pa_cons (pe_lc (own := [((Str.ofString "_law_minute"), 6)]) (by rfl) sc_l_others.nd (pi_list (pv 3)) (blkOk_by (own := [((Str.ofString "_law_minute"), 6)]) (N := N_l_others) (sc := defScope sx_l_others) (by decide +kernel)) (fun _ _ _ _ _ => (pg_name (i := 6) sc_l_others.nd rfl (by first | exact Or.inl rfl | exact Or.inr rfl))) (fun _ _ _ _ _ => (pts_one (pt_cmpR op_gt (pv 6) pe_int (nomark _)))) (fun _ _ _ _ _ => (pv 6))) pa_nil)) pe_int (nomark _)) (pss_one (ps_expr (pe_bm PySem.F.plainAttrs_list PySem.F.slot_list_append PySem.F.type_list_append mt_append (pv 5) (pa_cons (pe_lst (pa_cons pe_int (pa_cons (pe_call (ok_l_minutes T) (hr.mono (by decide)) (by rfl) (g__law_minutes T) (fd_l_minutes T).kp (b_l_minutes T) .nil passD (pa_cons (pv 2) (pa_cons (pv 3) (pa_cons pe_int pa_nil)))) pa_nil))) pa_nil)))) pss_nil)))
  (pss_cons (ps_if (pt_cmpR op_gt (pe_callB call_len_seq (by rfl) (g_len T) (by decide +kernel) (pa_cons (pv 2) pa_nil)) pe_int (nomark _)) (pss_cons (ps_expr (pe_bm PySem.F.plainAttrs_list PySem.F.slot_list_append PySem.F.type_list_append mt_append (pv 5) (pa_cons (pe_lst (pa_cons (pv 1) (pa_cons (pe_call (ok_l_minutes T) (hr.mono (by decide)) (by rfl) (g__law_minutes T) (fd_l_minutes T).kp (b_l_minutes T) .nil passD (pa_cons (pe_slice sl_list (pv 2) po_none (po_some (pe_un un_neg pe_int))) (pa_cons (pe_slice sl_list (pv 3) po_none (po_some (pe_un un_neg pe_int))) (pa_cons pe_int pa_nil)))) pa_nil))) pa_nil)))
  (pss_cons (ps_set (i := 7) sc_l_others.nd rfl (by first | exact Or.inl rfl | exact Or.inr rfl) (pe_call (ok_l_draw T) (hr.mono (by decide)) (by rfl) (g__law_draw T) (fd_l_draw T).kp (b_l_draw T) .nil passD (pa_cons (pv 0) (pa_cons (pe_callB call_len_seq (by rfl) (g_len T) (by decide +kernel) (pa_cons (pv 2) pa_nil)) pa_nil))))
  (pss_cons (ps_set (i := 6) sc_l_others.nd rfl (by first | exact Or.inl rfl | exact Or.inr rfl) (pe_op op_mod (pe_callTy call_int1 (by rfl) (g_int T) (by decide +kernel) (pa_cons (pe_op op_add (pe_op op_add (pe_ix ix_list (pv 3) (pv 7) (fun _ _ => rfl)) pe_int) (pe_call (ok_l_draw T) (hr.mono (by decide)) (by rfl) (g__law_draw T) (fd_l_draw T).kp (b_l_draw T) .nil passD (pa_cons (pv 0) (pa_cons (pe_op op_sub (pv 1) pe_int) pa_nil)))) pa_nil)) (pv 1)))
  (pss_one (ps_expr (pe_bm PySem.F.plainAttrs_list PySem.F.slot_list_append PySem.F.type_list_append mt_append (pv 5) (pa_cons (pe_lst (pa_cons (pv 1) (pa_cons (pe_call (ok_l_minutes T) (hr.mono (by decide)) (by rfl) (g__law_minutes T) (fd_l_minutes T).kp (b_l_minutes T) .nil passD (pa_cons (pv 2) (pa_cons (pe_op op_cat (pe_op op_cat (pe_slice sl_list (pv 3) po_none (po_some (pv 7))) (pe_lst (pa_cons (pv 6) pa_nil))) (pe_slice sl_list (pv 3) (po_some (pe_op op_add (pv 7) pe_int)) po_none)) (pa_cons pe_int pa_nil)))) pa_nil))) pa_nil))))))) pss_nil)
  (pss_one (ps_ret (pv 5))))))
theorem fd_l_pool (T : Tx fa fn K mg) : FunAt K d_l_pool := T.c.def_ 6 rfl
theorem b_l_pool (T : Tx fa fn K mg) : Binds K (fdA K (d_l_pool.adr K)) [(Str.ofString "_law_script")] [] := (fd_l_pool T).bindsN fun _ _ _ _ _ _ us hl => match us, hl with | [_], _ => rfl
theorem sc_l_pool : FnScope N_l_pool [(Str.ofString "_law_script")] (defScope sx_l_pool) := ⟨rfl, rfl, rfl, by decide +kernel, rfl, by decide +kernel, by decide +kernel⟩
set_option maxHeartbeats 4000000 in
theorem ok_l_pool (T : Tx fa fn K mg) : FnOk P w K mg base (L2.CX P w) 1 (d_l_pool.adr K) (fdA K (d_l_pool.adr K)) [(Str.ofString "_law_script")] (sp_l_pool K) := by
  refine (fd_l_pool T).ok (CX := L2.CX P w) (k := 0) sc_l_pool len_l_pool (fun cdv A outer s H vs Q E hr h => ⟨t_l_pool K E, ?_, rd_l_pool h⟩)
  exact (pss_cons (ps_setLc (i := 1) (own := [((Str.ofString "_law_cell"), 2)]) (by rfl) sc_l_pool.nd rfl rfl (sw_true rfl rfl rfl (by decide +kernel)) (pi_list (pv 0)) (blkOk_by (own := [((Str.ofString "_law_cell"), 2)]) (N := N_l_pool) (sc := defScope sx_l_pool) (by decide +kernel)) (fun _ _ _ _ _ => (pg_name (i := 2) sc_l_pool.nd rfl (by first | exact Or.inl rfl | exact Or.inr rfl))) (fun _ _ _ _ _ => pts_nil) (fun _ _ _ _ _ => (pe_callTy call_int1 (by rfl) (g_int T) (by decide +kernel) (pa_cons (pv 2) pa_nil))))
  (pss_cons (ps_set (i := 3) sc_l_pool.nd rfl (by first | exact Or.inl rfl | exact Or.inr rfl) pe_int)
  (pss_cons (ps_if (PW.pt (pw_and (pt_cmpR op_gt (pe_callB call_len_seq (by rfl) (g_len T) (by decide +kernel) (pa_cons (pv 1) pa_nil)) pe_int (nomark _)) (pw_and1 (pt_cmpR op_ge (pe_ix ix_list (pv 1) pe_int (fun _ _ => rfl)) (pe_op op_pow pe_int pe_int) (nomark _))))) (pss_one (ps_set (i := 3) sc_l_pool.nd rfl (by first | exact Or.inl rfl | exact Or.inr rfl) (pe_ix ix_list (pv 1) pe_int (fun _ _ => rfl)))) pss_nil)
  (pss_one (ps_ret (pe_lst (pa_cons (pv 3) (pa_cons pe_int (pa_cons (pv 1) pa_nil)))))))))
theorem fd_l_is_int (T : Tx fa fn K mg) : FunAt K d_l_is_int := T.c.def_ 7 rfl
theorem b_l_is_int (T : Tx fa fn K mg) : Binds K (fdA K (d_l_is_int.adr K)) [(Str.ofString "_law_thing")] [] := (fd_l_is_int T).bindsN fun _ _ _ _ _ _ us hl => match us, hl with | [_], _ => rfl
theorem sc_l_is_int : FnScope N_l_is_int [(Str.ofString "_law_thing")] (defScope sx_l_is_int) := ⟨rfl, rfl, rfl, by decide +kernel, rfl, by decide +kernel, by decide +kernel⟩
set_option maxHeartbeats 4000000 in
theorem ok_l_is_int (T : Tx fa fn K mg) : FnOk P w K mg base (L2.CX P w) 1 (d_l_is_int.adr K) (fdA K (d_l_is_int.adr K)) [(Str.ofString "_law_thing")] (sp_l_is_int K) := by
  refine (fd_l_is_int T).ok (CX := L2.CX P w) (k := 0) sc_l_is_int len_l_is_int (fun cdv A outer s H vs Q E hr h => ⟨t_l_is_int K E, ?_, rd_l_is_int h⟩)
  exact (pss_one (ps_ret (pe_and (pe_callB call_isi (by rfl) (g_isinstance T) (by decide +kernel) (pa_cons (pv 0) (pa_cons (pe_bltn (by rfl) (g_int T) (by decide +kernel) rfl) pa_nil))) (pe_one (pe_not (pe_callB call_isi (by rfl) (g_isinstance T) (by decide +kernel) (pa_cons (pv 0) (pa_cons (pe_bltn (by rfl) (g_bool T) (by decide +kernel) rfl) pa_nil))))))))
theorem fd_l_same (T : Tx fa fn K mg) : FunAt K d_l_same := T.c.def_ 8 rfl
theorem b_l_same (T : Tx fa fn K mg) : Binds K (fdA K (d_l_same.adr K)) [(Str.ofString "_law_actual"), (Str.ofString "_law_due")] [] := (fd_l_same T).bindsN fun _ _ _ _ _ _ us hl => match us, hl with | [_, _], _ => rfl
theorem sc_l_same : FnScope N_l_same [(Str.ofString "_law_actual"), (Str.ofString "_law_due")] (defScope sx_l_same) := ⟨rfl, rfl, rfl, by decide +kernel, rfl, by decide +kernel, by decide +kernel⟩
theorem okn_l_same (T : Tx fa fn K mg) : ∀ n, FnOk P w K mg base (L2.CX P w) (n + 2) (d_l_same.adr K) (fdA K (d_l_same.adr K)) [(Str.ofString "_law_actual"), (Str.ofString "_law_due")] (spn_l_same K n)
  | 0 => ⟨fun _ _ _ _ h => h.elim, fun _ _ _ _ _ _ _ _ _ _ _ _ _ h => h.elim⟩
  | n + 1 => by
    have ih := okn_l_same T n
    refine (fd_l_same T).ok (CX := L2.CX P w) (k := n + 2) sc_l_same len_l_same (fun cdv A outer s H vs Q E hr h => ⟨t_l_same (spn_l_same K n) K E, ?_, rd_l_same h⟩)
    exact (pss_cons (ps_if (pt_cmpR op_isN (pv 1) pe_non (nomark _)) (pss_one (ps_ret (pe_cmpR op_isN (pv 0) pe_non (nomark _)))) pss_nil)
  (pss_cons (ps_if (pt_val (pe_callB call_isi (by rfl) (g_isinstance T) (by decide +kernel) (pa_cons (pv 1) (pa_cons (pe_bltn (by rfl) (g_bool T) (by decide +kernel) rfl) pa_nil)))) (pss_one (ps_ret (pe_and (pe_callB call_isi (by rfl) (g_isinstance T) (by decide +kernel) (pa_cons (pv 0) (pa_cons (pe_bltn (by rfl) (g_bool T) (by decide +kernel) rfl) pa_nil))) (pe_one (pe_cmpR op_eq (pv 0) (pv 1) (nomark _)))))) pss_nil)
  (pss_cons (ps_if (pt_val (pe_callB call_isi (by rfl) (g_isinstance T) (by decide +kernel) (pa_cons (pv 1) (pa_cons (pe_bltn (by rfl) (g_int T) (by decide +kernel) rfl) pa_nil)))) (pss_one (ps_ret (pe_and (pe_call (ok_l_is_int T) (hr.mono (by omega)) (by rfl) (g__law_is_int T) (fd_l_is_int T).kp (b_l_is_int T) .nil passD (pa_cons (pv 0) pa_nil)) (pe_one (pe_cmpR op_eq (pv 0) (pv 1) (nomark _)))))) pss_nil)
  (pss_cons (ps_if (pt_val (pe_callB call_isi (by rfl) (g_isinstance T) (by decide +kernel) (pa_cons (pv 1) (pa_cons (pe_bltn (by rfl) (g_str T) (by decide +kernel) rfl) pa_nil)))) (pss_one (ps_ret (pe_and (pe_callB call_isi (by rfl) (g_isinstance T) (by decide +kernel) (pa_cons (pv 0) (pa_cons (pe_bltn (by rfl) (g_str T) (by decide +kernel) rfl) pa_nil))) (pe_one (pe_cmpR op_eq (pv 0) (pv 1) (nomark _)))))) pss_nil)
  (pss_cons (ps_if (pt_val (pe_callB call_isi (by rfl) (g_isinstance T) (by decide +kernel) (pa_cons (pv 1) (pa_cons (pe_bltn (by rfl) (g_dict T) (by decide +kernel) rfl) pa_nil)))) (pss_cons (ps_if (PW.pt (pw_or (pt_not (pt_val (pe_callB call_isi (by rfl) (g_isinstance T) (by decide +kernel) (pa_cons (pv 0) (pa_cons (pe_bltn (by rfl) (g_dict T) (by decide +kernel) rfl) pa_nil))))) (pw_or1 (pt_cmpR (op_neP hr.units) (pe_callTy (call_listD rfl) (by rfl) (g_list T) (by decide +kernel) (pa_cons (pv 0) pa_nil)) (pe_callTy (call_listD rfl) (by rfl) (g_list T) (by decide +kernel) (pa_cons (pv 1) pa_nil)) (nomark _))))) (pss_one (ps_ret pe_bl)) pss_nil)
  (pss_cons (ps_lock (ps_for (passes_of rfl) rfl (pi_keys (pv 1)) (pg_name (i := 2) sc_l_same.nd rfl (by first | exact Or.inl rfl | exact Or.inr rfl)) (pss_one (ps_if (pt_not (pt_val (pe_call ih hr (by rfl) (g__law_same T) (fd_l_same T).kp (b_l_same T) .nil passD (pa_cons (pe_dget (hu_of hr) (pv 0) (pv 2) (fun _ _ => rfl)) (pa_cons (pe_dget (hu_of hr) (pv 1) (pv 2) (fun _ _ => rfl)) pa_nil))))) (pss_one (ps_ret pe_bl)) pss_nil))))
  (pss_one (ps_ret pe_bl)))) pss_nil)
  (pss_cons (ps_if (PW.pt (pw_and (pt_val (pe_callB call_isi (by rfl) (g_isinstance T) (by decide +kernel) (pa_cons (pv 1) (pa_cons (pe_bltn (by rfl) (g_list T) (by decide +kernel) rfl) pa_nil)))) (pw_and1 (pt_not (pt_val (pe_callB call_isi (by rfl) (g_isinstance T) (by decide +kernel) (pa_cons (pv 0) (pa_cons (pe_bltn (by rfl) (g_list T) (by decide +kernel) rfl) pa_nil)))))))) (pss_one (ps_ret pe_bl)) pss_nil)
  (pss_cons (ps_if (PW.pt (pw_and (pt_val (pe_callB call_isi (by rfl) (g_isinstance T) (by decide +kernel) (pa_cons (pv 1) (pa_cons (pe_bltn (by rfl) (g_tuple T) (by decide +kernel) rfl) pa_nil)))) (pw_and1 (pt_not (pt_val (pe_callB call_isi (by rfl) (g_isinstance T) (by decide +kernel) (pa_cons (pv 0) (pa_cons (pe_bltn (by rfl) (g_tuple T) (by decide +kernel) rfl) pa_nil)))))))) (pss_one (ps_ret pe_bl)) pss_nil)
  (pss_cons (ps_if (pt_cmpR op_ne (pe_callB call_len_seq (by rfl) (g_len T) (by decide +kernel) (pa_cons (pv 0) pa_nil)) (pe_callB call_len_seq (by rfl) (g_len T) (by decide +kernel) (pa_cons (pv 1) pa_nil)) (nomark _)) (pss_one (ps_ret pe_bl)) pss_nil)
  (pss_cons (ps_for (passes_of rfl) rfl (pi_range1 (by rfl) (g_range T) (pa_cons (pe_callB call_len_seq (by rfl) (g_len T) (by decide +kernel) (pa_cons (pv 1) pa_nil)) pa_nil)) (pg_name (i := 3) sc_l_same.nd rfl (by first | exact Or.inl rfl | exact Or.inr rfl)) (pss_one (ps_if (pt_not (pt_val (pe_call ih hr (by rfl) (g__law_same T) (fd_l_same T).kp (b_l_same T) .nil passD (pa_cons (pe_ix ix_seq (pv 0) (pv 3) (fun _ _ => rfl)) (pa_cons (pe_ix ix_seq (pv 1) (pv 3) (fun _ _ => rfl)) pa_nil))))) (pss_one (ps_ret pe_bl)) pss_nil)))
  (pss_one (ps_ret pe_bl)))))))))))
theorem ok_l_same (T : Tx fa fn K mg) : FnOk P w K mg base (L2.CX P w) 8 (d_l_same.adr K) (fdA K (d_l_same.adr K)) [(Str.ofString "_law_actual"), (Str.ofString "_law_due")] (sp_l_same K) := okn_l_same T 6
theorem fd_l_size (T : Tx fa fn K mg) : FunAt K d_l_size := T.c.def_ 9 rfl
theorem b_l_size (T : Tx fa fn K mg) : Binds K (fdA K (d_l_size.adr K)) [(Str.ofString "_law_pool_here"), (Str.ofString "_law_limit")] [] := (fd_l_size T).bindsN fun _ _ _ _ _ _ us hl => match us, hl with | [_, _], _ => rfl
theorem sc_l_size : FnScope N_l_size [(Str.ofString "_law_pool_here"), (Str.ofString "_law_limit")] (defScope sx_l_size) := ⟨rfl, rfl, rfl, by decide +kernel, rfl, by decide +kernel, by decide +kernel⟩
set_option maxHeartbeats 4000000 in
theorem ok_l_size (T : Tx fa fn K mg) : FnOk P w K mg base (L2.CX P w) 2 (d_l_size.adr K) (fdA K (d_l_size.adr K)) [(Str.ofString "_law_pool_here"), (Str.ofString "_law_limit")] (sp_l_size K) := by
  refine (fd_l_size T).ok (CX := L2.CX P w) (k := 1) sc_l_size len_l_size (fun cdv A outer s H vs Q E hr h => ⟨t_l_size K E, ?_, rd_l_size h⟩)
  exact (pss_cons (ps_set (i := 2) sc_l_size.nd rfl (by first | exact Or.inl rfl | exact Or.inr rfl) (pe_call (ok_l_draw T) (hr.mono (by decide)) (by rfl) (g__law_draw T) (fd_l_draw T).kp (b_l_draw T) .nil passD (pa_cons (pv 0) (pa_cons pe_int pa_nil))))
  (pss_cons (ps_if (pt_cmpR op_eq (pv 2) pe_int (nomark _)) (pss_one (ps_ret (pv 1))) pss_nil)
  (pss_cons (ps_if (pt_cmpR op_eq (pv 2) pe_int (nomark _)) (pss_one (ps_ret (pe_callB (call_min2 rfl) (by rfl) (g_min T) (by decide +kernel) (pa_cons (pv 1) (pa_cons (pe_call (ok_l_draw T) (hr.mono (by decide)) (by rfl) (g__law_draw T) (fd_l_draw T).kp (b_l_draw T) .nil passD (pa_cons (pv 0) (pa_cons pe_int pa_nil))) pa_nil))))) pss_nil)
  (pss_one (ps_ret (pe_call (ok_l_draw T) (hr.mono (by decide)) (by rfl) (g__law_draw T) (fd_l_draw T).kp (b_l_draw T) .nil passD (pa_cons (pv 0) (pa_cons (pe_op op_add (pv 1) pe_int) pa_nil))))))))
theorem fd_l_some (T : Tx fa fn K mg) : FunAt K d_l_some := T.c.def_ 10 rfl
theorem b_l_some (T : Tx fa fn K mg) : Binds K (fdA K (d_l_some.adr K)) [(Str.ofString "_law_pool_here"), (Str.ofString "_law_limit")] [] := (fd_l_some T).bindsN fun _ _ _ _ _ _ us hl => match us, hl with | [_, _], _ => rfl
theorem sc_l_some : FnScope N_l_some [(Str.ofString "_law_pool_here"), (Str.ofString "_law_limit")] (defScope sx_l_some) := ⟨rfl, rfl, rfl, by decide +kernel, rfl, by decide +kernel, by decide +kernel⟩
set_option maxHeartbeats 4000000 in
theorem ok_l_some (T : Tx fa fn K mg) : FnOk P w K mg base (L2.CX P w) 2 (d_l_some.adr K) (fdA K (d_l_some.adr K)) [(Str.ofString "_law_pool_here"), (Str.ofString "_law_limit")] (sp_l_some K) := by
  refine (fd_l_some T).ok (CX := L2.CX P w) (k := 1) sc_l_some len_l_some (fun cdv A outer s H vs Q E hr h => ⟨t_l_some K E, ?_, rd_l_some h⟩)
  exact (pss_cons (ps_set (i := 2) sc_l_some.nd rfl (by first | exact Or.inl rfl | exact Or.inr rfl) (pe_call (ok_l_draw T) (hr.mono (by decide)) (by rfl) (g__law_draw T) (fd_l_draw T).kp (b_l_draw T) .nil passD (pa_cons (pv 0) (pa_cons pe_int pa_nil))))
  (pss_cons (ps_if (pt_cmpR op_eq (pv 2) pe_int (nomark _)) (pss_one (ps_ret (pv 1))) pss_nil)
  (pss_cons (ps_if (pt_cmpR op_eq (pv 2) pe_int (nomark _)) (pss_one (ps_ret (pe_call (ok_l_draw T) (hr.mono (by decide)) (by rfl) (g__law_draw T) (fd_l_draw T).kp (b_l_draw T) .nil passD (pa_cons (pv 0) (pa_cons (pe_op op_add (pv 1) pe_int) pa_nil))))) pss_nil)
  (pss_one (ps_ret (pe_call (ok_l_draw T) (hr.mono (by decide)) (by rfl) (g__law_draw T) (fd_l_draw T).kp (b_l_draw T) .nil passD (pa_cons (pv 0) (pa_cons (pe_op op_add (pe_callB (call_min2 rfl) (by rfl) (g_min T) (by decide +kernel) (pa_cons (pv 1) (pa_cons pe_int pa_nil))) pe_int) pa_nil))))))))
theorem fd_l_stranger (T : Tx fa fn K mg) : FunAt K d_l_stranger := T.c.def_ 11 rfl
theorem b_l_stranger (T : Tx fa fn K mg) : Binds K (fdA K (d_l_stranger.adr K)) [(Str.ofString "_law_pool_here"), (Str.ofString "_law_names_here")] [] := (fd_l_stranger T).bindsN fun _ _ _ _ _ _ us hl => match us, hl with | [_, _], _ => rfl
theorem sc_l_stranger : FnScope N_l_stranger [(Str.ofString "_law_pool_here"), (Str.ofString "_law_names_here")] (defScope sx_l_stranger) := ⟨rfl, rfl, rfl, by decide +kernel, rfl, by decide +kernel, by decide +kernel⟩
set_option maxHeartbeats 4000000 in
theorem ok_l_stranger (T : Tx fa fn K mg) : FnOk P w K mg base (L2.CX P w) 3 (d_l_stranger.adr K) (fdA K (d_l_stranger.adr K)) [(Str.ofString "_law_pool_here"), (Str.ofString "_law_names_here")] (sp_l_stranger K) := by
  refine (fd_l_stranger T).ok (CX := L2.CX P w) (k := 2) sc_l_stranger len_l_stranger (fun cdv A outer s H vs Q E hr h => ⟨t_l_stranger K E, ?_, rd_l_stranger h⟩)
  exact (pss_cons (ps_set (i := 2) sc_l_stranger.nd rfl (by first | exact Or.inl rfl | exact Or.inr rfl) (pe_op op_add_str pe_str (pe_call (ok_l_word T) (hr.mono (by decide)) (by rfl) (g__law_word T) (fd_l_word T).kp (b_l_word T) .nil passD (pa_cons (pv 0) (pa_cons (pe_call (ok_l_draw T) (hr.mono (by decide)) (by rfl) (g__law_draw T) (fd_l_draw T).kp (b_l_draw T) .nil passD (pa_cons (pv 0) (pa_cons pe_int pa_nil))) pa_nil)))))
  (pss_cons (ps_if (PW.pt (pw_and (pt_cmpR op_gt (pe_callB call_len_seq (by rfl) (g_len T) (by decide +kernel) (pa_cons (pv 1) pa_nil)) pe_int (nomark _)) (pw_and1 (pt_cmpR op_eq (pe_call (ok_l_draw T) (hr.mono (by decide)) (by rfl) (g__law_draw T) (fd_l_draw T).kp (b_l_draw T) .nil passD (pa_cons (pv 0) (pa_cons pe_int pa_nil))) pe_int (nomark _))))) (pss_one (ps_set (i := 2) sc_l_stranger.nd rfl (by first | exact Or.inl rfl | exact Or.inr rfl) (pe_op op_add_str (pe_slice sl_str (pe_ix ix_list (pv 1) (pe_call (ok_l_draw T) (hr.mono (by decide)) (by rfl) (g__law_draw T) (fd_l_draw T).kp (b_l_draw T) .nil passD (pa_cons (pv 0) (pa_cons (pe_callB call_len_seq (by rfl) (g_len T) (by decide +kernel) (pa_cons (pv 1) pa_nil)) pa_nil))) (fun _ _ => rfl)) po_none (po_some pe_int)) pe_str))) pss_nil)
  (pss_cons (ps_for (passes_of rfl) rfl (pi_range1 (by rfl) (g_range T) (pa_cons pe_int pa_nil)) (pg_name (i := 3) sc_l_stranger.nd rfl (by first | exact Or.inl rfl | exact Or.inr rfl)) (pss_one (ps_if (PW.pt (pw_and (pt_cmpR op_in_seq (pv 2) (pv 1) (by rfl)) (pw_and1 (pt_cmpR op_notIn_seq (pe_op op_add_str pe_str (pe_callTy call_str_int (by rfl) (g_str T) (by decide +kernel) (pa_cons (pv 3) pa_nil))) (pv 1) (by rfl))))) (pss_one (ps_set (i := 2) sc_l_stranger.nd rfl (by first | exact Or.inl rfl | exact Or.inr rfl) (pe_op op_add_str pe_str (pe_callTy call_str_int (by rfl) (g_str T) (by decide +kernel) (pa_cons (pv 3) pa_nil))))) pss_nil)))
  (pss_one (ps_ret (pv 2))))))
theorem fd_Times_getitem_ (T : Tx fa fn K mg) : FunAt K d_Times_getitem_ := T.c.def_ 12 rfl
theorem b_Times_getitem_ (T : Tx fa fn K mg) : Binds K (fdA K (d_Times_getitem_.adr K)) [(Str.ofString "self"), (Str.ofString "at")] [] := (fd_Times_getitem_ T).bindsN fun _ _ _ _ _ _ us hl => match us, hl with | [_, _], _ => rfl
theorem sc_Times_getitem_ : FnScope N_Times_getitem_ [(Str.ofString "self"), (Str.ofString "at")] (defScope sx_Times_getitem_) := ⟨rfl, rfl, rfl, by decide +kernel, rfl, by decide +kernel, by decide +kernel⟩
set_option maxHeartbeats 4000000 in
theorem ok_Times_getitem_ (T : Tx fa fn K mg) : FnOk P w K mg base (L2.CX P w) 3 (d_Times_getitem_.adr K) (fdA K (d_Times_getitem_.adr K)) [(Str.ofString "self"), (Str.ofString "at")] (sp_Times_getitem_ K) := by
  refine (fd_Times_getitem_ T).ok (CX := L2.CX P w) (k := 2) sc_Times_getitem_ len_Times_getitem_ (fun cdv A outer s H vs Q E hr h => ⟨t_Times_getitem_ K E, ?_, rd_Times_getitem_ h⟩)
  exact (pss_cons (ps_if (pt_cmp (pc_dnotin (hu_of hr) (pv 1) (pe_fldC (pv 0) (c_Times T) (n_Times__minutes T)))) (pss_one ps_never) pss_nil)
  (pss_one (ps_ret (pe_dget (hu_of hr) (pe_fldC (pv 0) (c_Times T) (n_Times__minutes T)) (pv 1) (fun _ _ => rfl)))))
theorem fd_Times_iter_ (T : Tx fa fn K mg) : FunAt K d_Times_iter_ := T.c.def_ 13 rfl
theorem b_Times_iter_ (T : Tx fa fn K mg) : Binds K (fdA K (d_Times_iter_.adr K)) [(Str.ofString "self")] [] := (fd_Times_iter_ T).bindsN fun _ _ _ _ _ _ us hl => match us, hl with | [_], _ => rfl
theorem sc_Times_iter_ : FnScope N_Times_iter_ [(Str.ofString "self")] (defScope sx_Times_iter_) := ⟨rfl, rfl, rfl, by decide +kernel, rfl, by decide +kernel, by decide +kernel⟩
theorem it_Times (T : Tx fa fn K mg) : IterC K mg (He.ga K (Str.ofString "Times")) (He.ma K (He.ga K (Str.ofString "Times")) (Str.ofString "__iter__")) (Str.ofString "_names") := iterC_of (fd_Times_iter_ T) (ow_Times_iter T) (c_Times T) (n_Times__names T) (g_iter T) rfl sc_Times_iter_ (fun _ _ _ _ => rfl) (b_Times_iter_ T)
theorem fd_Times_len_ (T : Tx fa fn K mg) : FunAt K d_Times_len_ := T.c.def_ 14 rfl
theorem b_Times_len_ (T : Tx fa fn K mg) : Binds K (fdA K (d_Times_len_.adr K)) [(Str.ofString "self")] [] := (fd_Times_len_ T).bindsN fun _ _ _ _ _ _ us hl => match us, hl with | [_], _ => rfl
theorem sc_Times_len_ : FnScope N_Times_len_ [(Str.ofString "self")] (defScope sx_Times_len_) := ⟨rfl, rfl, rfl, by decide +kernel, rfl, by decide +kernel, by decide +kernel⟩
set_option maxHeartbeats 4000000 in
theorem ok_Times_len_ (T : Tx fa fn K mg) : FnOk P w K mg base (L2.CX P w) 1 (d_Times_len_.adr K) (fdA K (d_Times_len_.adr K)) [(Str.ofString "self")] (sp_Times_len_ K) := by
  refine (fd_Times_len_ T).ok (CX := L2.CX P w) (k := 0) sc_Times_len_ len_Times_len_ (fun cdv A outer s H vs Q E hr h => ⟨t_Times_len_ K E, ?_, rd_Times_len_ h⟩)
  exact (pss_one (ps_ret (pe_callB call_len_seq (by rfl) (g_len T) (by decide +kernel) (pa_cons (pe_fldC (pv 0) (c_Times T) (n_Times__names T)) pa_nil))))
theorem fd_Times_minutes (T : Tx fa fn K mg) : FunAt K d_Times_minutes := T.c.def_ 15 rfl
theorem b_Times_minutes (T : Tx fa fn K mg) : Binds K (fdA K (d_Times_minutes.adr K)) [(Str.ofString "self")] [] := (fd_Times_minutes T).bindsN fun _ _ _ _ _ _ us hl => match us, hl with | [_], _ => rfl
theorem sc_Times_minutes : FnScope N_Times_minutes [(Str.ofString "self")] (defScope sx_Times_minutes) := ⟨rfl, rfl, rfl, by decide +kernel, rfl, by decide +kernel, by decide +kernel⟩
set_option maxHeartbeats 4000000 in
theorem ok_Times_minutes (T : Tx fa fn K mg) : FnOk P w K mg base (L2.CX P w) 1 (d_Times_minutes.adr K) (fdA K (d_Times_minutes.adr K)) [(Str.ofString "self")] (sp_Times_minutes K) := by
  refine (fd_Times_minutes T).ok (CX := L2.CX P w) (k := 0) sc_Times_minutes len_Times_minutes (fun cdv A outer s H vs Q E hr h => ⟨t_Times_minutes K E, ?_, rd_Times_minutes h⟩)
  exact (pss_one (ps_ret (pe_callTy call_dictD (by rfl) (g_dict T) (by decide +kernel) (pa_cons (pe_fldC (pv 0) (c_Times T) (n_Times__minutes T)) pa_nil))))
theorem fd_Times_round_length (T : Tx fa fn K mg) : FunAt K d_Times_round_length := T.c.def_ 16 rfl
theorem b_Times_round_length (T : Tx fa fn K mg) : Binds K (fdA K (d_Times_round_length.adr K)) [(Str.ofString "self")] [] := (fd_Times_round_length T).bindsN fun _ _ _ _ _ _ us hl => match us, hl with | [_], _ => rfl
theorem sc_Times_round_length : FnScope N_Times_round_length [(Str.ofString "self")] (defScope sx_Times_round_length) := ⟨rfl, rfl, rfl, by decide +kernel, rfl, by decide +kernel, by decide +kernel⟩
set_option maxHeartbeats 4000000 in
theorem ok_Times_round_length (T : Tx fa fn K mg) : FnOk P w K mg base (L2.CX P w) 1 (d_Times_round_length.adr K) (fdA K (d_Times_round_length.adr K)) [(Str.ofString "self")] (sp_Times_round_length K) := by
  refine (fd_Times_round_length T).ok (CX := L2.CX P w) (k := 0) sc_Times_round_length len_Times_round_length (fun cdv A outer s H vs Q E hr h => ⟨t_Times_round_length K E, ?_, rd_Times_round_length h⟩)
  exact (pss_one (ps_ret (pe_fldC (pv 0) (c_Times T) (n_Times__round T))))
theorem fd_l_told (T : Tx fa fn K mg) : FunAt K d_l_told := T.c.def_ 17 rfl
theorem b_l_told (T : Tx fa fn K mg) : Binds K (fdA K (d_l_told.adr K)) [(Str.ofString "_law_times"), (Str.ofString "_law_length_here"), (Str.ofString "_law_due"), (Str.ofString "_law_stranger_here")] [] := (fd_l_told T).bindsN fun _ _ _ _ _ _ us hl => match us, hl with | [_, _, _, _], _ => rfl
theorem sc_l_told : FnScope N_l_told [(Str.ofString "_law_times"), (Str.ofString "_law_length_here"), (Str.ofString "_law_due"), (Str.ofString "_law_stranger_here")] (defScope sx_l_told) := ⟨rfl, rfl, rfl, by decide +kernel, rfl, by decide +kernel, by decide +kernel⟩
set_option maxHeartbeats 4000000 in
theorem ok_l_told (T : Tx fa fn K mg) : FnOk P w K mg base (L2.CX P w) 9 (d_l_told.adr K) (fdA K (d_l_told.adr K)) [(Str.ofString "_law_times"), (Str.ofString "_law_length_here"), (Str.ofString "_law_due"), (Str.ofString "_law_stranger_here")] (sp_l_told K) := by
  refine (fd_l_told T).ok (CX := L2.CX P w) (k := 8) sc_l_told len_l_told (fun cdv A outer s H vs Q E hr h => ⟨t_l_told K E, ?_, rd_l_told h⟩)
  exact (pss_cons (ps_if (PW.pt (pw_or (pt_not (pt_val (pe_call (ok_l_same T) (hr.mono (by decide)) (by rfl) (g__law_same T) (fd_l_same T).kp (b_l_same T) .nil passD (pa_cons (pe_prop (pv 0) (c_Times T) (q_Times_round_length T) (ok_Times_round_length T) (hr.mono (by decide)) (b_Times_round_length T) .nil passN (by rfl)) (pa_cons (pv 1) pa_nil))))) (pw_or1 (pt_not (pt_val (pe_call (ok_l_same T) (hr.mono (by decide)) (by rfl) (g__law_same T) (fd_l_same T).kp (b_l_same T) .nil passD (pa_cons (pe_prop (pv 0) (c_Times T) (q_Times_minutes T) (ok_Times_minutes T) (hr.mono (by decide)) (b_Times_minutes T) .nil passN (by rfl)) (pa_cons (pv 2) pa_nil)))))))) (pss_one (ps_ret pe_bl)) pss_nil)
  (pss_cons (ps_if (PW.pt (pw_or (pt_not (pt_val (pe_call (ok_l_same T) (hr.mono (by decide)) (by rfl) (g__law_same T) (fd_l_same T).kp (b_l_same T) .nil passD (pa_cons (pe_callB (call_lenO (ow_Times_len T) (ok_Times_len_ T) (hr.mono (by decide)) (b_Times_len_ T) passD) (by rfl) (g_len T) (by decide +kernel) (pa_cons (pv 0) pa_nil)) (pa_cons (pe_callB call_lenDD (by rfl) (g_len T) (by decide +kernel) (pa_cons (pv 2) pa_nil)) pa_nil))))) (pw_or (pt_not (pt_val (pe_call (ok_l_same T) (hr.mono (by decide)) (by rfl) (g__law_same T) (fd_l_same T).kp (b_l_same T) .nil passD (pa_cons (pe_callTy (call_listO (it_Times T) (ow_Times_len T) (ok_Times_len_ T) (b_Times_len_ T) (hr.mono (by decide))) (by rfl) (g_list T) (by decide +kernel) (pa_cons (pv 0) pa_nil)) (pa_cons (pe_callTy (call_listD rfl) (by rfl) (g_list T) (by decide +kernel) (pa_cons (pv 2) pa_nil)) pa_nil))))) (pw_or1 (pt_cmpR (op_inO (hr.mono (by decide)) (it_Times T) (n_Times___contains__ T)) (pv 3) (pv 0) (by rfl)))))) (pss_one (ps_ret pe_bl)) pss_nil)
  (pss_cons (ps_lock (ps_for (passes_of rfl) rfl (pi_keys (pv 2)) (pg_name (i := 4) sc_l_told.nd rfl (by first | exact Or.inl rfl | exact Or.inr rfl)) (pss_one (ps_if (PW.pt (pw_or (pt_cmpR (op_ninO (hr.mono (by decide)) (it_Times T) (n_Times___contains__ T)) (pv 4) (pv 0) (by rfl)) (pw_or1 (pt_not (pt_val (pe_call (ok_l_same T) (hr.mono (by decide)) (by rfl) (g__law_same T) (fd_l_same T).kp (b_l_same T) .nil passD (pa_cons (pe_getO (pv 0) (pv 4) (ow_Times_getitem T) (ok_Times_getitem_ T) (hr.mono (by decide)) (b_Times_getitem_ T) passD) (pa_cons (pe_dget (hu_of hr) (pv 2) (pv 4) (fun _ _ => rfl)) pa_nil)))))))) (pss_one (ps_ret pe_bl)) pss_nil))))
  (pss_one (ps_ret pe_bl)))))
theorem fd_l_turned (T : Tx fa fn K mg) : FunAt K d_l_turned := T.c.def_ 18 rfl
theorem b_l_turned (T : Tx fa fn K mg) : Binds K (fdA K (d_l_turned.adr K)) [(Str.ofString "_law_due"), (Str.ofString "_law_sign"), (Str.ofString "_law_k"), (Str.ofString "_law_length_here")] [] := (fd_l_turned T).bindsN fun _ _ _ _ _ _ us hl => match us, hl with | [_, _, _, _], _ => rfl
theorem sc_l_turned : FnScope N_l_turned [(Str.ofString "_law_due"), (Str.ofString "_law_sign"), (Str.ofString "_law_k"), (Str.ofString "_law_length_here")] (defScope sx_l_turned) := ⟨rfl, rfl, rfl, by decide +kernel, rfl, by decide +kernel, by decide +kernel⟩
set_option maxHeartbeats 4000000 in
theorem ok_l_turned (T : Tx fa fn K mg) : FnOk P w K mg base (L2.CX P w) 1 (d_l_turned.adr K) (fdA K (d_l_turned.adr K)) [(Str.ofString "_law_due"), (Str.ofString "_law_sign"), (Str.ofString "_law_k"), (Str.ofString "_law_length_here")] (sp_l_turned K) := by
  refine (fd_l_turned T).ok (CX := L2.CX P w) (k := 0) sc_l_turned len_l_turned (fun cdv A outer s H vs Q E hr h => ⟨t_l_turned K E, ?_, rd_l_turned h⟩)
  exact (pss_cons (ps_set (i := 4) sc_l_turned.nd rfl (by first | exact Or.inl rfl | exact Or.inr rfl) pe_dnewK)
  (pss_cons (ps_lock (ps_for (passes_of rfl) rfl (pi_keys (pv 0)) (pg_name (i := 5) sc_l_turned.nd rfl (by first | exact Or.inl rfl | exact Or.inr rfl)) (pss_one (ps_dput (hu_of hr) (pv 4) (pv 5) (pe_op op_mod (pe_callTy call_int1 (by rfl) (g_int T) (by decide +kernel) (pa_cons (pe_op op_add (pe_op op_mul (pv 1) (pe_dget (hu_of hr) (pv 0) (pv 5) (fun _ _ => rfl))) (pv 2)) pa_nil)) (pv 3)) (by rfl)))))
  (pss_one (ps_ret (pv 4)))))
theorem fd_is_name (T : Tx fa fn K mg) : FunAt K d_is_name := T.c.def_ 19 rfl
theorem b_is_name (T : Tx fa fn K mg) : Binds K (fdA K (d_is_name.adr K)) [(Str.ofString "text")] [] := (fd_is_name T).bindsN fun _ _ _ _ _ _ us hl => match us, hl with | [_], _ => rfl
theorem sc_is_name : FnScope N_is_name [(Str.ofString "text")] (defScope sx_is_name) := ⟨rfl, rfl, rfl, by decide +kernel, rfl, by decide +kernel, by decide +kernel⟩
set_option maxHeartbeats 4000000 in
theorem ok_is_name (T : Tx fa fn K mg) : FnOk P w K mg base (L2.CX P w) 1 (d_is_name.adr K) (fdA K (d_is_name.adr K)) [(Str.ofString "text")] (sp_is_name K) := by
  refine (fd_is_name T).ok (CX := L2.CX P w) (k := 0) sc_is_name len_is_name (fun cdv A outer s H vs Q E hr h => ⟨t_is_name K E, ?_, rd_is_name h⟩)
  exact (pss_cons (ps_if (PW.pt (pw_or (pt_not (pt_chain op_le op_le pe_int (pe_callB call_len_str (by rfl) (g_len T) (by decide +kernel) (pa_cons (pv 0) pa_nil)) pe_int)) (pw_or1 (pt_cmpR op_notIn_sign (pe_ix ix_str (pv 0) pe_int (fun _ _ => rfl)) (pe_globT (by rfl) (str_rel (g_LETTERS T))) (by rfl))))) (pss_one (ps_ret pe_bl)) pss_nil)
  (pss_cons (ps_for (passes_of rfl) rfl (pi_str (pv 0)) (pg_name (i := 1) sc_is_name.nd rfl (by first | exact Or.inl rfl | exact Or.inr rfl)) (pss_one (ps_if (PW.pt (pw_and (pt_cmpR op_notIn_sign (pv 1) (pe_globT (by rfl) (str_rel (g_LETTERS T))) (by rfl)) (pw_and1 (pt_cmpR op_notIn_sign (pv 1) (pe_globT (by rfl) (str_rel (g_DIGITS T))) (by rfl))))) (pss_one (ps_ret pe_bl)) pss_nil)))
  (pss_one (ps_ret pe_bl))))
theorem fd_check_name (T : Tx fa fn K mg) : FunAt K d_check_name := T.c.def_ 20 rfl
theorem b_check_name (T : Tx fa fn K mg) : Binds K (fdA K (d_check_name.adr K)) [(Str.ofString "name")] [] := (fd_check_name T).bindsN fun _ _ _ _ _ _ us hl => match us, hl with | [_], _ => rfl
theorem sc_check_name : FnScope N_check_name [(Str.ofString "name")] (defScope sx_check_name) := ⟨rfl, rfl, rfl, by decide +kernel, rfl, by decide +kernel, by decide +kernel⟩
set_option maxHeartbeats 4000000 in
theorem ok_check_name (T : Tx fa fn K mg) : FnOk P w K mg base (L2.CX P w) 3 (d_check_name.adr K) (fdA K (d_check_name.adr K)) [(Str.ofString "name")] (sp_check_name K) := by
  refine (fd_check_name T).ok (CX := L2.CX P w) (k := 2) sc_check_name len_check_name (fun cdv A outer s H vs Q E hr h => ⟨t_check_name K E, ?_, rd_check_name h⟩)
  exact (pss_one (ps_if (pt_not (pt_val (pe_call (ok_is_name T) (hr.mono (by decide)) (by rfl) (g_is_name T) (fd_is_name T).kp (b_is_name T) .nil passD (pa_cons (pv 0) pa_nil)))) (pss_one ps_never) pss_nil))
theorem fd_check_number (T : Tx fa fn K mg) : FunAt K d_check_number := T.c.def_ 21 rfl
theorem b_check_number (T : Tx fa fn K mg) : Binds K (fdA K (d_check_number.adr K)) [(Str.ofString "number"), (Str.ofString "low"), (Str.ofString "high")] [] := (fd_check_number T).bindsN fun _ _ _ _ _ _ us hl => match us, hl with | [_, _, _], _ => rfl
theorem sc_check_number : FnScope N_check_number [(Str.ofString "number"), (Str.ofString "low"), (Str.ofString "high")] (defScope sx_check_number) := ⟨rfl, rfl, rfl, by decide +kernel, rfl, by decide +kernel, by decide +kernel⟩
set_option maxHeartbeats 4000000 in
theorem ok_check_number (T : Tx fa fn K mg) : FnOk P w K mg base (L2.CX P w) 3 (d_check_number.adr K) (fdA K (d_check_number.adr K)) [(Str.ofString "number"), (Str.ofString "low"), (Str.ofString "high")] (sp_check_number K) := by
  refine (fd_check_number T).ok (CX := L2.CX P w) (k := 2) sc_check_number len_check_number (fun cdv A outer s H vs Q E hr h => ⟨t_check_number K E, ?_, rd_check_number h⟩)
  exact (pss_one (ps_if (pt_not (pt_chain op_le op_le (pv 1) (pv 0) (pv 2))) (pss_one ps_never) pss_nil))
theorem fd_Times_init_ (T : Tx fa fn K mg) : FunAt K d_Times_init_ := T.c.def_ 22 rfl
theorem b_Times_init_ (T : Tx fa fn K mg) : Binds K (fdA K (d_Times_init_.adr K)) [(Str.ofString "self"), (Str.ofString "round_length"), (Str.ofString "minutes")] [] := (fd_Times_init_ T).bindsN fun _ _ _ _ _ _ us hl => match us, hl with | [_, _, _], _ => rfl
theorem sc_Times_init_ : FnScope N_Times_init_ [(Str.ofString "self"), (Str.ofString "round_length"), (Str.ofString "minutes")] (defScope sx_Times_init_) := ⟨rfl, rfl, rfl, by decide +kernel, rfl, by decide +kernel, by decide +kernel⟩
set_option maxHeartbeats 4000000 in
theorem ok_Times_init_ (T : Tx fa fn K mg) : FnOk P w K mg base (L2.CX P w) 4 (d_Times_init_.adr K) (fdA K (d_Times_init_.adr K)) [(Str.ofString "self"), (Str.ofString "round_length"), (Str.ofString "minutes")] (sp_Times_init_ K) := by
  refine (fd_Times_init_ T).ok (CX := L2.CX P w) (k := 3) sc_Times_init_ len_Times_init_ (fun cdv A outer s H vs Q E hr h => ⟨t_Times_init_ K E, ?_, rd_Times_init_ h⟩)
  exact (pss_cons (ps_expr (pe_call (ok_check_number T) (hr.mono (by decide)) (by rfl) (g_check_number T) (fd_check_number T).kp (b_check_number T) .nil passD (pa_cons (pv 1) (pa_cons (pe_cvalC (by rfl) (g_Net T) (cr_Net T) (cv_Net_SHORTEST T)) (pa_cons (pe_cvalC (by rfl) (g_Net T) (cr_Net T) (cv_Net_LONGEST T)) pa_nil)))))
  (pss_cons (ps_lock (ps_for (passes_of rfl) rfl (pi_items (pv 2)) (pg_tup (by rfl) (pgs_cons (pg_name (i := 3) sc_Times_init_.nd rfl (by first | exact Or.inl rfl | exact Or.inr rfl)) (pgs_cons (pg_name (i := 4) sc_Times_init_.nd rfl (by first | exact Or.inl rfl | exact Or.inr rfl)) pgs_nil))) (pss_cons (ps_expr (pe_call (ok_check_name T) (hr.mono (by decide)) (by rfl) (g_check_name T) (fd_check_name T).kp (b_check_name T) .nil passD (pa_cons (pv 3) pa_nil)))
  (pss_one (ps_expr (pe_call (ok_check_number T) (hr.mono (by decide)) (by rfl) (g_check_number T) (fd_check_number T).kp (b_check_number T) .nil passD (pa_cons (pv 4) (pa_cons pe_int (pa_cons (pe_op op_sub (pv 1) pe_int) pa_nil)))))))))
  (pss_cons (ps_fldC (pv 0) (pv 1) (c_Times T) (n_Times__round T))
  (pss_cons (ps_fldC (pv 0) (pe_callTy call_dictD (by rfl) (g_dict T) (by decide +kernel) (pa_cons (pv 2) pa_nil)) (c_Times T) (n_Times__minutes T))
  (pss_one (ps_fldC (pv 0) (pe_callTy (call_listD rfl) (by rfl) (g_list T) (by decide +kernel) (pa_cons (pv 2) pa_nil)) (c_Times T) (n_Times__names T)))))))
theorem fd_Times_zero (T : Tx fa fn K mg) : FunAt K d_Times_zero := T.c.def_ 23 rfl
theorem sc_Times_zero : FnScope N_Times_zero [(Str.ofString "round_length"), (Str.ofString "names")] (defScope sx_Times_zero) := ⟨rfl, rfl, rfl, by decide +kernel, rfl, by decide +kernel, by decide +kernel⟩
set_option maxHeartbeats 4000000 in
theorem okR_Times_zero (T : Tx fa fn K mg) : FnR P w K mg base (L2.CX P w) 6 (d_Times_zero.adr K) (starSp 1 (sp_Times_zero K)) := by
  refine fn_starD (ps := [(Str.ofString "round_length")]) (pv := (Str.ofString "names")) (k := 5) (fd_Times_zero T) sc_Times_zero (fun kV doc pm an cdv ct => ?_) (fun cdv A outer s H vs Q E hr h => ⟨t_Times_zero K E, ?_, rd_Times_zero h⟩)
  · exact StX.bind_star1 (B := fun a => bindArgs _ ⟨a, []⟩) (fun _ => rfl) (fun _ _ _ => rfl)
  · exact (pss_one (ps_ret (pe_make (mk_Times T) (ok_Times_init_ T) (hr.mono (by decide)) (by rfl) (g_Times T) (b_Times_init_ T) .nil passD (pa_cons (pv 0) (pa_cons (pe_dc (own := [((Str.ofString "name"), 2)]) (by rfl) sc_Times_zero.nd (pi_tup (pv 1)) (blkOk_by (own := [((Str.ofString "name"), 2)]) (N := N_Times_zero) (sc := defScope sx_Times_zero) (by decide +kernel)) (fun _ _ _ _ _ => (pg_name (i := 2) sc_Times_zero.nd rfl (by first | exact Or.inl rfl | exact Or.inr rfl))) (fun _ _ _ _ _ => pts_nil) (fun _ _ _ _ _ => (pv 2)) (fun _ _ _ _ _ => pe_int)) pa_nil)))))
theorem fd_l_zero (T : Tx fa fn K mg) : FunAt K d_l_zero := T.c.def_ 24 rfl
theorem b_l_zero (T : Tx fa fn K mg) : Binds K (fdA K (d_l_zero.adr K)) [(Str.ofString "_law_length_here"), (Str.ofString "_law_names_here"), (Str.ofString "_law_many")] [] := (fd_l_zero T).bindsN fun _ _ _ _ _ _ us hl => match us, hl with | [_, _, _], _ => rfl
theorem sc_l_zero : FnScope N_l_zero [(Str.ofString "_law_length_here"), (Str.ofString "_law_names_here"), (Str.ofString "_law_many")] (defScope sx_l_zero) := ⟨rfl, rfl, rfl, by decide +kernel, rfl, by decide +kernel, by decide +kernel⟩
set_option maxHeartbeats 4000000 in
theorem ok_l_zero (T : Tx fa fn K mg) : FnOk P w K mg base (L2.CX P w) 8 (d_l_zero.adr K) (fdA K (d_l_zero.adr K)) [(Str.ofString "_law_length_here"), (Str.ofString "_law_names_here"), (Str.ofString "_law_many")] (sp_l_zero K) := by
  refine (fd_l_zero T).ok (CX := L2.CX P w) (k := 7) sc_l_zero len_l_zero (fun cdv A outer s H vs Q E hr h => ⟨t_l_zero K E, ?_, rd_l_zero h⟩)
  exact (pss_cons (ps_if (pt_cmpR op_eq (pv 2) pe_int (nomark _)) (pss_one (ps_ret (pe_smeth (pe_globT (by rfl) ⟨_, g_Times T, rfl⟩) (cr_Times T) (cs_Times_zero T) (okR_Times_zero T) (hr.mono (by decide)) passD (pa_cons (pv 0) pa_nil)))) pss_nil)
  (pss_cons (ps_if (pt_cmpR op_eq (pv 2) pe_int (nomark _)) (pss_one (ps_ret (pe_smeth (pe_globT (by rfl) ⟨_, g_Times T, rfl⟩) (cr_Times T) (cs_Times_zero T) (okR_Times_zero T) (hr.mono (by decide)) passD (pa_cons (pv 0) (pa_cons (pe_ix ix_list (pv 1) pe_int (fun _ _ => rfl)) pa_nil))))) pss_nil)
  (pss_cons (ps_if (pt_cmpR op_eq (pv 2) pe_int (nomark _)) (pss_one (ps_ret (pe_smeth (pe_globT (by rfl) ⟨_, g_Times T, rfl⟩) (cr_Times T) (cs_Times_zero T) (okR_Times_zero T) (hr.mono (by decide)) passD (pa_cons (pv 0) (pa_cons (pe_ix ix_list (pv 1) pe_int (fun _ _ => rfl)) (pa_cons (pe_ix ix_list (pv 1) pe_int (fun _ _ => rfl)) pa_nil)))))) pss_nil)
  (pss_cons (ps_if (pt_cmpR op_eq (pv 2) pe_int (nomark _)) (pss_one (ps_ret (pe_smeth (pe_globT (by rfl) ⟨_, g_Times T, rfl⟩) (cr_Times T) (cs_Times_zero T) (okR_Times_zero T) (hr.mono (by decide)) passD (pa_cons (pv 0) (pa_cons (pe_ix ix_list (pv 1) pe_int (fun _ _ => rfl)) (pa_cons (pe_ix ix_list (pv 1) pe_int (fun _ _ => rfl)) (pa_cons (pe_ix ix_list (pv 1) pe_int (fun _ _ => rfl)) pa_nil))))))) pss_nil)
  (pss_cons (ps_if (pt_cmpR op_eq (pv 2) pe_int (nomark _)) (pss_one (ps_ret (pe_smeth (pe_globT (by rfl) ⟨_, g_Times T, rfl⟩) (cr_Times T) (cs_Times_zero T) (okR_Times_zero T) (hr.mono (by decide)) passD (pa_cons (pv 0) (pa_cons (pe_ix ix_list (pv 1) pe_int (fun _ _ => rfl)) (pa_cons (pe_ix ix_list (pv 1) pe_int (fun _ _ => rfl)) (pa_cons (pe_ix ix_list (pv 1) pe_int (fun _ _ => rfl)) (pa_cons (pe_ix ix_list (pv 1) pe_int (fun _ _ => rfl)) pa_nil)))))))) pss_nil)
  (pss_one (ps_ret (pe_smeth (pe_globT (by rfl) ⟨_, g_Times T, rfl⟩) (cr_Times T) (cs_Times_zero T) (okR_Times_zero T) (hr.mono (by decide)) passD (pa_cons (pv 0) (pa_cons (pe_ix ix_list (pv 1) pe_int (fun _ _ => rfl)) (pa_cons (pe_ix ix_list (pv 1) pe_int (fun _ _ => rfl)) (pa_cons (pe_ix ix_list (pv 1) pe_int (fun _ _ => rfl)) (pa_cons (pe_ix ix_list (pv 1) pe_int (fun _ _ => rfl)) (pa_cons (pe_ix ix_list (pv 1) pe_int (fun _ _ => rfl)) pa_nil))))))))))))))
theorem fd_Times_eq_ (T : Tx fa fn K mg) : FunAt K d_Times_eq_ := T.c.def_ 25 rfl
theorem b_Times_eq_ (T : Tx fa fn K mg) : Binds K (fdA K (d_Times_eq_.adr K)) [(Str.ofString "self"), (Str.ofString "other")] [] := (fd_Times_eq_ T).bindsN fun _ _ _ _ _ _ us hl => match us, hl with | [_, _], _ => rfl
theorem sc_Times_eq_ : FnScope N_Times_eq_ [(Str.ofString "self"), (Str.ofString "other")] (defScope sx_Times_eq_) := ⟨rfl, rfl, rfl, by decide +kernel, rfl, by decide +kernel, by decide +kernel⟩
set_option maxHeartbeats 4000000 in
theorem ok_Times_eq_ (T : Tx fa fn K mg) : FnOk P w K mg base (L2.CX P w) 1 (d_Times_eq_.adr K) (fdA K (d_Times_eq_.adr K)) [(Str.ofString "self"), (Str.ofString "other")] (sp_Times_eq_ K) := by
  refine (fd_Times_eq_ T).ok (CX := L2.CX P w) (k := 0) sc_Times_eq_ len_Times_eq_ (fun cdv A outer s H vs Q E hr h => ⟨t_Times_eq_ K E, ?_, rd_Times_eq_ h⟩)
  exact (pss_cons (ps_if (pt_not (pt_val (pe_callB (call_isiC (c_Times T) (isi_Times T)) (by rfl) (g_isinstance T) (by decide +kernel) (pa_cons (pv 1) (pa_cons (pe_globT (by rfl) ⟨_, g_Times T, rfl⟩) pa_nil))))) (pss_one ps_never) pss_nil)
  (pss_one (ps_ret (pe_and (pe_cmpR op_eq (pe_fldC (pv 0) (c_Times T) (n_Times__round T)) (pe_fldC (pv 1) (c_Times T) (n_Times__round T)) (nomark _)) (pe_one (pe_cmpR (op_eqDf hr.units0) (pe_fldC (pv 0) (c_Times T) (n_Times__minutes T)) (pe_fldC (pv 1) (c_Times T) (n_Times__minutes T)) (nomark _)))))))
theorem fd_Times_lshift_ (T : Tx fa fn K mg) : FunAt K d_Times_lshift_ := T.c.def_ 26 rfl
theorem b_Times_lshift_ (T : Tx fa fn K mg) : Binds K (fdA K (d_Times_lshift_.adr K)) [(Str.ofString "self"), (Str.ofString "other")] [] := (fd_Times_lshift_ T).bindsN fun _ _ _ _ _ _ us hl => match us, hl with | [_, _], _ => rfl
theorem sc_Times_lshift_ : FnScope N_Times_lshift_ [(Str.ofString "self"), (Str.ofString "other")] (defScope sx_Times_lshift_) := ⟨rfl, rfl, rfl, by decide +kernel, rfl, by decide +kernel, by decide +kernel⟩
set_option maxHeartbeats 4000000 in
theorem ok_Times_lshift_ (T : Tx fa fn K mg) : FnOk P w K mg base (L2.CX P w) 6 (d_Times_lshift_.adr K) (fdA K (d_Times_lshift_.adr K)) [(Str.ofString "self"), (Str.ofString "other")] (sp_Times_lshift_ K) := by
  refine (fd_Times_lshift_ T).ok (CX := L2.CX P w) (k := 5) sc_Times_lshift_ len_Times_lshift_ (fun cdv A outer s H vs Q E hr h => ⟨t_Times_lshift_ K E, ?_, rd_Times_lshift_ h⟩)
  exact (pss_cons (ps_if (pt_not (pt_val (pe_callB call_isi (by rfl) (g_isinstance T) (by decide +kernel) (pa_cons (pv 1) (pa_cons (pe_bltn (by rfl) (g_int T) (by decide +kernel) rfl) pa_nil))))) (pss_one ps_never) pss_nil)
  (pss_one (ps_ret (pe_make (mk_Times T) (ok_Times_init_ T) (hr.mono (by decide)) (by rfl) (g_Times T) (b_Times_init_ T) .nil passD (pa_cons (pe_fldC (pv 0) (c_Times T) (n_Times__round T)) (pa_cons (pe_dc (own := [((Str.ofString "name"), 2)]) (by rfl) sc_Times_lshift_.nd (pi_list (pe_fldC (pv 0) (c_Times T) (n_Times__names T))) (blkOk_by (own := [((Str.ofString "name"), 2)]) (N := N_Times_lshift_) (sc := defScope sx_Times_lshift_) (by decide +kernel)) (fun _ _ _ _ _ => (pg_name (i := 2) sc_Times_lshift_.nd rfl (by first | exact Or.inl rfl | exact Or.inr rfl))) (fun _ _ _ _ _ => pts_nil) (fun _ _ _ _ _ => (pv 2)) (fun _ _ _ _ _ => (pe_op op_mod (pe_op op_sub (pe_dget (hu_of hr) (pe_fldC (pv 0) (c_Times T) (n_Times__minutes T)) (pv 2) (fun _ _ => rfl)) (pv 1)) (pe_fldC (pv 0) (c_Times T) (n_Times__round T))))) pa_nil))))))
theorem fd_Times_rshift_ (T : Tx fa fn K mg) : FunAt K d_Times_rshift_ := T.c.def_ 27 rfl
theorem b_Times_rshift_ (T : Tx fa fn K mg) : Binds K (fdA K (d_Times_rshift_.adr K)) [(Str.ofString "self"), (Str.ofString "other")] [] := (fd_Times_rshift_ T).bindsN fun _ _ _ _ _ _ us hl => match us, hl with | [_, _], _ => rfl
theorem sc_Times_rshift_ : FnScope N_Times_rshift_ [(Str.ofString "self"), (Str.ofString "other")] (defScope sx_Times_rshift_) := ⟨rfl, rfl, rfl, by decide +kernel, rfl, by decide +kernel, by decide +kernel⟩
set_option maxHeartbeats 4000000 in
theorem ok_Times_rshift_ (T : Tx fa fn K mg) : FnOk P w K mg base (L2.CX P w) 6 (d_Times_rshift_.adr K) (fdA K (d_Times_rshift_.adr K)) [(Str.ofString "self"), (Str.ofString "other")] (sp_Times_rshift_ K) := by
  refine (fd_Times_rshift_ T).ok (CX := L2.CX P w) (k := 5) sc_Times_rshift_ len_Times_rshift_ (fun cdv A outer s H vs Q E hr h => ⟨t_Times_rshift_ K E, ?_, rd_Times_rshift_ h⟩)
  exact (pss_cons (ps_if (pt_not (pt_val (pe_callB call_isi (by rfl) (g_isinstance T) (by decide +kernel) (pa_cons (pv 1) (pa_cons (pe_bltn (by rfl) (g_int T) (by decide +kernel) rfl) pa_nil))))) (pss_one ps_never) pss_nil)
  (pss_one (ps_ret (pe_make (mk_Times T) (ok_Times_init_ T) (hr.mono (by decide)) (by rfl) (g_Times T) (b_Times_init_ T) .nil passD (pa_cons (pe_fldC (pv 0) (c_Times T) (n_Times__round T)) (pa_cons (pe_dc (own := [((Str.ofString "name"), 2)]) (by rfl) sc_Times_rshift_.nd (pi_list (pe_fldC (pv 0) (c_Times T) (n_Times__names T))) (blkOk_by (own := [((Str.ofString "name"), 2)]) (N := N_Times_rshift_) (sc := defScope sx_Times_rshift_) (by decide +kernel)) (fun _ _ _ _ _ => (pg_name (i := 2) sc_Times_rshift_.nd rfl (by first | exact Or.inl rfl | exact Or.inr rfl))) (fun _ _ _ _ _ => pts_nil) (fun _ _ _ _ _ => (pv 2)) (fun _ _ _ _ _ => (pe_op op_mod (pe_op op_add (pe_dget (hu_of hr) (pe_fldC (pv 0) (c_Times T) (n_Times__minutes T)) (pv 2) (fun _ _ => rfl)) (pv 1)) (pe_fldC (pv 0) (c_Times T) (n_Times__round T))))) pa_nil))))))
theorem fd_Times_mirrored (T : Tx fa fn K mg) : FunAt K d_Times_mirrored := T.c.def_ 28 rfl
theorem b_Times_mirrored (T : Tx fa fn K mg) : Binds K (fdA K (d_Times_mirrored.adr K)) [(Str.ofString "self")] [] := (fd_Times_mirrored T).bindsN fun _ _ _ _ _ _ us hl => match us, hl with | [_], _ => rfl
theorem sc_Times_mirrored : FnScope N_Times_mirrored [(Str.ofString "self")] (defScope sx_Times_mirrored) := ⟨rfl, rfl, rfl, by decide +kernel, rfl, by decide +kernel, by decide +kernel⟩
set_option maxHeartbeats 4000000 in
theorem ok_Times_mirrored (T : Tx fa fn K mg) : FnOk P w K mg base (L2.CX P w) 6 (d_Times_mirrored.adr K) (fdA K (d_Times_mirrored.adr K)) [(Str.ofString "self")] (sp_Times_mirrored K) := by
  refine (fd_Times_mirrored T).ok (CX := L2.CX P w) (k := 5) sc_Times_mirrored len_Times_mirrored (fun cdv A outer s H vs Q E hr h => ⟨t_Times_mirrored K E, ?_, rd_Times_mirrored h⟩)
  exact (pss_one (ps_ret (pe_make (mk_Times T) (ok_Times_init_ T) (hr.mono (by decide)) (by rfl) (g_Times T) (b_Times_init_ T) .nil passD (pa_cons (pe_fldC (pv 0) (c_Times T) (n_Times__round T)) (pa_cons (pe_dc (own := [((Str.ofString "name"), 1)]) (by rfl) sc_Times_mirrored.nd (pi_list (pe_fldC (pv 0) (c_Times T) (n_Times__names T))) (blkOk_by (own := [((Str.ofString "name"), 1)]) (N := N_Times_mirrored) (sc := defScope sx_Times_mirrored) (by decide +kernel)) (fun _ _ _ _ _ => (pg_name (i := 1) sc_Times_mirrored.nd rfl (by first | exact Or.inl rfl | exact Or.inr rfl))) (fun _ _ _ _ _ => pts_nil) (fun _ _ _ _ _ => (pv 1)) (fun _ _ _ _ _ => (pe_op op_mod (pe_un un_neg (pe_dget (hu_of hr) (pe_fldC (pv 0) (c_Times T) (n_Times__minutes T)) (pv 1) (fun _ _ => rfl))) (pe_fldC (pv 0) (c_Times T) (n_Times__round T))))) pa_nil)))))
theorem fd_law (T : Tx fa fn K mg) : FunAt K d_law := T.c.def_ 29 rfl
theorem b_law (T : Tx fa fn K mg) : Binds K (fdA K (d_law.adr K)) [(Str.ofString "_law_script")] [] := (fd_law T).bindsN fun _ _ _ _ _ _ us hl => match us, hl with | [_], _ => rfl
theorem sc_law : FnScope N_law [(Str.ofString "_law_script")] (defScope sx_law) := ⟨rfl, rfl, rfl, by decide +kernel, rfl, by decide +kernel, by decide +kernel⟩
set_option maxHeartbeats 4000000 in
theorem ok_law (T : Tx fa fn K mg) : FnOk P w K mg base (L2.CX P w) 10 (d_law.adr K) (fdA K (d_law.adr K)) [(Str.ofString "_law_script")] (sp_law K) := by
  refine (fd_law T).ok (CX := L2.CX P w) (k := 9) sc_law len_law (fun cdv A outer s H vs Q E hr h => ⟨t_law K E, ?_, rd_law h⟩)
  exact (pss_cons (ps_set (i := 1) sc_law.nd rfl (by first | exact Or.inl rfl | exact Or.inr rfl) (pe_call (ok_l_pool T) (hr.mono (by decide)) (by rfl) (g__law_pool T) (fd_l_pool T).kp (b_l_pool T) .nil passD (pa_cons (pv 0) pa_nil)))
  (pss_cons (ps_set (i := 2) sc_law.nd rfl (by first | exact Or.inl rfl | exact Or.inr rfl) (pe_call (ok_l_length T) (hr.mono (by decide)) (by rfl) (g__law_length T) (fd_l_length T).kp (b_l_length T) .nil passD (pa_cons (pv 1) (pa_cons pe_int pa_nil))))
  (pss_cons (ps_set (i := 3) sc_law.nd rfl (by first | exact Or.inl rfl | exact Or.inr rfl) (pe_call (ok_l_names T) (hr.mono (by decide)) (by rfl) (g__law_names T) (fd_l_names T).kp (b_l_names T) .nil passD (pa_cons (pv 1) (pa_cons (pe_call (ok_l_size T) (hr.mono (by decide)) (by rfl) (g__law_size T) (fd_l_size T).kp (b_l_size T) .nil passD (pa_cons (pv 1) (pa_cons pe_int pa_nil))) pa_nil))))
  (pss_cons (ps_setLc (i := 4) (own := [((Str.ofString "_law_name"), 5)]) (by rfl) sc_law.nd rfl rfl (sw_true rfl rfl rfl (by decide +kernel)) (pi_list (pv 3)) (blkOk_by (own := [((Str.ofString "_law_name"), 5)]) (N := N_law) (sc := defScope sx_law) (by decide +kernel)) (fun _ _ _ _ _ => (pg_name (i := 5) sc_law.nd rfl (by first | exact Or.inl rfl | exact Or.inr rfl))) (fun _ _ _ _ _ => pts_nil) (fun _ _ _ _ _ => (pe_call (ok_l_some T) (hr.mono (by decide)) (by rfl) (g__law_some T) (fd_l_some T).kp (b_l_some T) .nil passN (pa_cons (pv 1) (pa_cons (pe_op op_sub (pv 2) pe_int) pa_nil)))))
  (pss_cons (ps_set (i := 6) sc_law.nd rfl (by first | exact Or.inl rfl | exact Or.inr rfl) (pe_call (ok_l_stranger T) (hr.mono (by decide)) (by rfl) (g__law_stranger T) (fd_l_stranger T).kp (b_l_stranger T) .nil passD (pa_cons (pv 1) (pa_cons (pv 3) pa_nil))))
  (pss_cons (ps_set (i := 7) sc_law.nd rfl (by first | exact Or.inl rfl | exact Or.inr rfl) (pe_call (ok_l_draw T) (hr.mono (by decide)) (by rfl) (g__law_draw T) (fd_l_draw T).kp (b_l_draw T) .nil passD (pa_cons (pv 1) (pa_cons pe_int pa_nil))))
  (pss_cons (ps_if (pt_cmpR op_eq (pv 7) pe_int (nomark _)) (pss_one (ps_set (i := 7) sc_law.nd rfl (by first | exact Or.inl rfl | exact Or.inr rfl) (pe_op op_sub (pe_call (ok_l_draw T) (hr.mono (by decide)) (by rfl) (g__law_draw T) (fd_l_draw T).kp (b_l_draw T) .nil passD (pa_cons (pv 1) (pa_cons (pe_op op_add (pe_op op_mul pe_int (pv 2)) pe_int) pa_nil))) (pe_op op_mul pe_int (pv 2))))) (pss_one (ps_set (i := 7) sc_law.nd rfl (by first | exact Or.inl rfl | exact Or.inr rfl) (pe_op op_sub (pe_call (ok_l_draw T) (hr.mono (by decide)) (by rfl) (g__law_draw T) (fd_l_draw T).kp (b_l_draw T) .nil passD (pa_cons (pv 1) (pa_cons (pe_op op_add (pe_op op_mul pe_int (pe_op op_pow pe_int pe_int)) pe_int) pa_nil))) (pe_op op_pow pe_int pe_int)))))
  (pss_cons (ps_set (i := 8) sc_law.nd rfl (by first | exact Or.inl rfl | exact Or.inr rfl) (pe_call (ok_l_minutes T) (hr.mono (by decide)) (by rfl) (g__law_minutes T) (fd_l_minutes T).kp (b_l_minutes T) .nil passD (pa_cons (pv 3) (pa_cons (pv 4) (pa_cons pe_int pa_nil)))))
  (pss_cons (ps_set (i := 9) sc_law.nd rfl (by first | exact Or.inl rfl | exact Or.inr rfl) (pe_call (ok_l_minutes T) (hr.mono (by decide)) (by rfl) (g__law_minutes T) (fd_l_minutes T).kp (b_l_minutes T) .nil passD (pa_cons (pv 3) (pa_cons (pv 4) (pa_cons pe_int pa_nil)))))
  (pss_cons (ps_set (i := 10) sc_law.nd rfl (by first | exact Or.inl rfl | exact Or.inr rfl) (pe_make (mk_Times T) (ok_Times_init_ T) (hr.mono (by decide)) (by rfl) (g_Times T) (b_Times_init_ T) .nil passD (pa_cons (pv 2) (pa_cons (pv 9) pa_nil))))
  (pss_cons (ps_if (PW.pt (pw_or (pt_not (pt_val (pe_call (ok_l_told T) (hr.mono (by decide)) (by rfl) (g__law_told T) (fd_l_told T).kp (b_l_told T) .nil passD (pa_cons (pv 10) (pa_cons (pv 2) (pa_cons (pv 8) (pa_cons (pv 6) pa_nil))))))) (pw_or1 (pt_not (pt_val (pe_call (ok_l_same T) (hr.mono (by decide)) (by rfl) (g__law_same T) (fd_l_same T).kp (b_l_same T) .nil passD (pa_cons (pv 9) (pa_cons (pv 8) pa_nil)))))))) (pss_one (ps_ret pe_bl)) pss_nil)
  (pss_cons (ps_for (passes_of rfl) rfl (pi_list (pe_slice sl_list (pv 3) po_none (po_some pe_int))) (pg_name (i := 5) sc_law.nd rfl (by first | exact Or.inl rfl | exact Or.inr rfl)) (pss_one (ps_dput (hu_of hr) (pv 9) (pv 5) (pe_op op_mod (pe_callTy call_int1 (by rfl) (g_int T) (by decide +kernel) (pa_cons (pe_op op_add (pe_dget (hu_of hr) (pv 8) (pv 5) (fun _ _ => rfl)) pe_int) pa_nil)) (pv 2)) (by rfl))))
  (pss_cons (ps_dput (hu_of hr) (pv 9) (pv 6) pe_int (by rfl))
  (pss_cons (ps_set (i := 11) sc_law.nd rfl (by first | exact Or.inl rfl | exact Or.inr rfl) (pe_prop (pv 10) (c_Times T) (q_Times_minutes T) (ok_Times_minutes T) (hr.mono (by decide)) (b_Times_minutes T) .nil passN (by rfl)))
  (pss_cons (ps_dput (hu_of hr) (pv 11) (pv 6) pe_int (by rfl))
  (pss_cons (ps_if (pt_not (pt_val (pe_call (ok_l_told T) (hr.mono (by decide)) (by rfl) (g__law_told T) (fd_l_told T).kp (b_l_told T) .nil passD (pa_cons (pv 10) (pa_cons (pv 2) (pa_cons (pv 8) (pa_cons (pv 6) pa_nil))))))) (pss_one (ps_ret pe_bl)) pss_nil)
  (pss_cons (ps_set (i := 12) sc_law.nd rfl (by first | exact Or.inl rfl | exact Or.inr rfl) (pe_call (ok_l_minutes T) (hr.mono (by decide)) (by rfl) (g__law_minutes T) (fd_l_minutes T).kp (b_l_minutes T) .nil passD (pa_cons (pv 3) (pa_cons (pv 4) (pa_cons (pe_call (ok_l_draw T) (hr.mono (by decide)) (by rfl) (g__law_draw T) (fd_l_draw T).kp (b_l_draw T) .nil passD (pa_cons (pv 1) (pa_cons (pe_callB (call_max2 rfl) (by rfl) (g_max T) (by decide +kernel) (pa_cons pe_int (pa_cons (pe_callB call_len_seq (by rfl) (g_len T) (by decide +kernel) (pa_cons (pv 3) pa_nil)) pa_nil))) pa_nil))) pa_nil)))))
  (pss_cons (ps_if (pt_not (pt_val (pe_call (ok_l_same T) (hr.mono (by decide)) (by rfl) (g__law_same T) (fd_l_same T).kp (b_l_same T) .nil passD (pa_cons (pe_cmpR (op_eqO (ow_Times_eq T) (ok_Times_eq_ T) (hr.mono (by decide)) (b_Times_eq_ T) passD) (pv 10) (pe_make (mk_Times T) (ok_Times_init_ T) (hr.mono (by decide)) (by rfl) (g_Times T) (b_Times_init_ T) .nil passD (pa_cons (pv 2) (pa_cons (pv 12) pa_nil))) (nomark _)) (pa_cons pe_bl pa_nil))))) (pss_one (ps_ret pe_bl)) pss_nil)
  (pss_cons (ps_for (passes_of rfl) rfl (pi_list (pe_call (ok_l_others T) (hr.mono (by decide)) (by rfl) (g__law_others T) (fd_l_others T).kp (b_l_others T) .nil passD (pa_cons (pv 1) (pa_cons (pv 2) (pa_cons (pv 3) (pa_cons (pv 4) (pa_cons (pv 6) pa_nil))))))) (pg_name (i := 13) sc_law.nd rfl (by first | exact Or.inl rfl | exact Or.inr rfl)) (pss_one (ps_if (pt_not (pt_val (pe_call (ok_l_same T) (hr.mono (by decide)) (by rfl) (g__law_same T) (fd_l_same T).kp (b_l_same T) .nil passD (pa_cons (pe_cmpR (op_eqO (ow_Times_eq T) (ok_Times_eq_ T) (hr.mono (by decide)) (b_Times_eq_ T) passD) (pv 10) (pe_make (mk_Times T) (ok_Times_init_ T) (hr.mono (by decide)) (by rfl) (g_Times T) (b_Times_init_ T) .nil passD (pa_cons (pe_ix ix_list (pv 13) pe_int (fun _ _ => rfl)) (pa_cons (pe_ix ix_list (pv 13) pe_int (fun _ _ => rfl)) pa_nil))) (nomark _)) (pa_cons pe_bl pa_nil))))) (pss_one (ps_ret pe_bl)) pss_nil)))
  (pss_cons (ps_if (pt_not (pt_val (pe_call (ok_l_told T) (hr.mono (by decide)) (by rfl) (g__law_told T) (fd_l_told T).kp (b_l_told T) .nil passD (pa_cons (pe_op (op_int (ow_Times_rshift T) (io_Times_RShift T) (ok_Times_rshift_ T) (hr.mono (by decide)) (b_Times_rshift_ T) passD) (pv 10) (pv 7)) (pa_cons (pv 2) (pa_cons (pe_call (ok_l_turned T) (hr.mono (by decide)) (by rfl) (g__law_turned T) (fd_l_turned T).kp (b_l_turned T) .nil passD (pa_cons (pv 8) (pa_cons pe_int (pa_cons (pv 7) (pa_cons (pv 2) pa_nil))))) (pa_cons (pv 6) pa_nil))))))) (pss_one (ps_ret pe_bl)) pss_nil)
  (pss_cons (ps_if (pt_not (pt_val (pe_call (ok_l_told T) (hr.mono (by decide)) (by rfl) (g__law_told T) (fd_l_told T).kp (b_l_told T) .nil passD (pa_cons (pe_op (op_int (ow_Times_lshift T) (io_Times_LShift T) (ok_Times_lshift_ T) (hr.mono (by decide)) (b_Times_lshift_ T) passD) (pv 10) (pv 7)) (pa_cons (pv 2) (pa_cons (pe_call (ok_l_turned T) (hr.mono (by decide)) (by rfl) (g__law_turned T) (fd_l_turned T).kp (b_l_turned T) .nil passD (pa_cons (pv 8) (pa_cons pe_int (pa_cons (pe_un un_neg (pv 7)) (pa_cons (pv 2) pa_nil))))) (pa_cons (pv 6) pa_nil))))))) (pss_one (ps_ret pe_bl)) pss_nil)
  (pss_cons (ps_set (i := 14) sc_law.nd rfl (by first | exact Or.inl rfl | exact Or.inr rfl) (pe_meth0 (pv 10) (c_Times T) (me_Times_mirrored T) (ok_Times_mirrored T) (hr.mono (by decide)) (b_Times_mirrored T) .nil passD ))
  (pss_cons (ps_if (pt_not (pt_val (pe_call (ok_l_told T) (hr.mono (by decide)) (by rfl) (g__law_told T) (fd_l_told T).kp (b_l_told T) .nil passD (pa_cons (pv 14) (pa_cons (pv 2) (pa_cons (pe_call (ok_l_turned T) (hr.mono (by decide)) (by rfl) (g__law_turned T) (fd_l_turned T).kp (b_l_turned T) .nil passD (pa_cons (pv 8) (pa_cons (pe_un un_neg pe_int) (pa_cons pe_int (pa_cons (pv 2) pa_nil))))) (pa_cons (pv 6) pa_nil))))))) (pss_one (ps_ret pe_bl)) pss_nil)
  (pss_cons (ps_if (pt_not (pt_val (pe_call (ok_l_same T) (hr.mono (by decide)) (by rfl) (g__law_same T) (fd_l_same T).kp (b_l_same T) .nil passD (pa_cons (pe_cmpR (op_eqO (ow_Times_eq T) (ok_Times_eq_ T) (hr.mono (by decide)) (b_Times_eq_ T) passD) (pe_meth0 (pv 14) (c_Times T) (me_Times_mirrored T) (ok_Times_mirrored T) (hr.mono (by decide)) (b_Times_mirrored T) .nil passD ) (pv 10) (nomark _)) (pa_cons pe_bl pa_nil))))) (pss_one (ps_ret pe_bl)) pss_nil)
  (pss_cons (ps_for (passes_of rfl) rfl (pi_range1 (by rfl) (g_range T) (pa_cons (pe_op op_add (pe_callB (call_min2 rfl) (by rfl) (g_min T) (by decide +kernel) (pa_cons pe_int (pa_cons (pe_callB call_len_seq (by rfl) (g_len T) (by decide +kernel) (pa_cons (pv 3) pa_nil)) pa_nil))) pe_int) pa_nil)) (pg_name (i := 15) sc_law.nd rfl (by first | exact Or.inl rfl | exact Or.inr rfl)) (pss_cons (ps_set (i := 16) sc_law.nd rfl (by first | exact Or.inl rfl | exact Or.inr rfl) (pe_call (ok_l_minutes T) (hr.mono (by decide)) (by rfl) (g__law_minutes T) (fd_l_minutes T).kp (b_l_minutes T) .nil passD (pa_cons (pe_slice sl_list (pv 3) po_none (po_some (pv 15))) (pa_cons (pe_lst (pa_cons pe_int (pa_cons pe_int (pa_cons pe_int (pa_cons pe_int (pa_cons pe_int pa_nil)))))) (pa_cons pe_int pa_nil)))))
  (pss_one (ps_if (pt_not (pt_val (pe_call (ok_l_told T) (hr.mono (by decide)) (by rfl) (g__law_told T) (fd_l_told T).kp (b_l_told T) .nil passD (pa_cons (pe_call (ok_l_zero T) (hr.mono (by decide)) (by rfl) (g__law_zero T) (fd_l_zero T).kp (b_l_zero T) .nil passD (pa_cons (pv 2) (pa_cons (pv 3) (pa_cons (pv 15) pa_nil)))) (pa_cons (pv 2) (pa_cons (pv 16) (pa_cons (pv 6) pa_nil))))))) (pss_one (ps_ret pe_bl)) pss_nil))))
  (pss_one (ps_ret (pe_call (ok_l_told T) (hr.mono (by decide)) (by rfl) (g__law_told T) (fd_l_told T).kp (b_l_told T) .nil passD (pa_cons (pv 10) (pa_cons (pv 2) (pa_cons (pv 8) (pa_cons (pv 6) pa_nil))))))))))))))))))))))))))))))))
end
end Rm

/-! ### the head and the end -/
namespace Rm
open PySem PySem.W PySem.Calls PyProof.Rows
abbrev names0 : List PySem.Str := [(Str.ofString "_wall"), (Str.ofString "__name__"), (Str.ofString "MinuteError"), (Str.ofString "BadName"), (Str.ofString "BadNumber"), (Str.ofString "UnknownEvent"), (Str.ofString "DoubleEvent"), (Str.ofString "SameEvent"), (Str.ofString "UnknownSpan"), (Str.ofString "TooMany"), (Str.ofString "LETTERS"), (Str.ofString "DIGITS"), (Str.ofString "is_name"), (Str.ofString "check_name"), (Str.ofString "check_new"), (Str.ofString "check_number"), (Str.ofString "check_count"), (Str.ofString "Net"), (Str.ofString "check_span"), (Str.ofString "pieces_of"), (Str.ofString "Shift"), (Str.ofString "both_names"), (Str.ofString "Times"), (Str.ofString "shifted"), (Str.ofString "_law_pool"), (Str.ofString "_law_draw"), (Str.ofString "_law_some"), (Str.ofString "_law_word"), (Str.ofString "_law_names"), (Str.ofString "_law_stranger"), (Str.ofString "_law_length"), (Str.ofString "_law_size"), (Str.ofString "_law_minutes"), (Str.ofString "_law_is_int"), (Str.ofString "_law_same"), (Str.ofString "_law_told"), (Str.ofString "_law_turned"), (Str.ofString "_law_others"), (Str.ofString "_law_zero")]
abbrev names : List PySem.Str := names0
abbrev RR : PySem.W.OpenRow := PySem.W.OpenLaw.row PySem.Challenge.rw_roundminutes_k09_timetable_is_told_back
abbrev hk : PySem.W.Hook := hookX 5 fa fn
def ob (s : PySem.W.SharedT) : He.AlD := obsXG 5 fa fn (HandSHeadRun.getT s)
theorem ob_eq (s : PySem.W.SharedT) : ob s = hk.obs s.abs := obsXG_eq (HandSHeadRun.getT_eq s)
theorem run (w : World) : HandSHeadRun.RunEq RR (PySem.W.view RR.prog [44]) hk ob 60000 names w := by
  intro os
  kernel_rfl
theorem facts {P : Program} {w : World} {K : PySem.W.Frag} {h : Heap} {mg : PySem.Str → Option Value} {f : Addr} (X : K.In h) (G : h.Ns mainGlobals mg) (hfa : mg (PySem.Str.ofString "law") = some (.ref f)) (c : SaysX fa fn K) :
    ∃ fd : FuncData, (∀ (s : Shared) (v : Value), BindsTo s fd ⟨[v], []⟩ [(PySem.Str.ofString "_law_script", v)]) ∧ ∀ base : Heap, K.In base → base.Ns mainGlobals mg → L2.FnOk P w K mg base (L2.CX P w) 10 f fd [PySem.Str.ofString "_law_script"] (sp_law K) := by
  have T : Tx fa fn K mg := ⟨⟨h, X, G⟩, c⟩
  have e := hfa.symm.trans (g_law T)
  cases e
  have b := (fd_law T).bindsA (ps := [PySem.Str.ofString "_law_script"]) fun _ _ _ _ _ _ us hl => match us, hl with | [_], _ => rfl
  exact ⟨_, fun s v => b s [v] rfl, fun base _ _ => ok_law T⟩
end Rm
open PySem PySem.W PySem.Calls PyProof.Rows
set_option maxRecDepth 100000 in
set_option maxHeartbeats 0 in
theorem PySem.Challenge.cw_roundminutes_k09_timetable_is_told_back_holds : PySem.Challenge.rw_roundminutes_k09_timetable_is_told_back.Holds := by
  w_on; o_law
  refine HandSHeadRun.head_any (r := OpenLaw.row PySem.Challenge.rw_roundminutes_k09_timetable_is_told_back) (q := view (OpenLaw.row PySem.Challenge.rw_roundminutes_k09_timetable_is_told_back).prog [44]) (H := Rm.hk) (ob := Rm.ob) (M := 60000) (loose := Rm.names) (d := HandSHeadRun.topDef (OpenLaw.row PySem.Challenge.rw_roundminutes_k09_timetable_is_told_back).prog 44) (kwd := []) Rm.ob_eq
    (by kernel_rfl) (fun s => by kernel_rfl) Rm.run (by kernel_rfl) (by kernel_rfl) (by kernel_rfl) (by rfl) (by first | assumption | decide +kernel) (by decide +kernel) ⟨rfl, rfl, rfl, rfl, rfl, by decide +kernel⟩ ?hw ?hc
  case hw => w_witness2
  case hc =>
    refine Rm.walk_ofX (l := PySem.Challenge.rw_roundminutes_k09_timetable_is_told_back) (n := 63) (k := 10) (x := PySem.Str.ofString "_law_script") rfl (by decide) (by kernel_rfl) ⟨rfl, by decide, by decide⟩ ?F
    case F =>
      intro w mg fa h Y G hmg0
      obtain ⟨K, KX, c⟩ := Y
      have hmg : mg (PySem.Str.ofString "law") = some (.ref fa) := by
        have e : (HandSHeadRun.topDef (OpenLaw.row PySem.Challenge.rw_roundminutes_k09_timetable_is_told_back).prog 44).name = PySem.Str.ofString "law" := by kernel_rfl
        rw [← e]
        exact hmg0
      obtain ⟨fd, hb, hF⟩ := Rm.facts (P := (PySem.Challenge.rw_roundminutes_k09_timetable_is_told_back).prog) (w := w) KX G hmg c
      exact ⟨K, fd, Rm.sp_law K, KX, hb, fun H a ns hl hO hS => ⟨a, ns, rfl, hS, hl, hO, fun _ => rfl⟩, hF⟩
