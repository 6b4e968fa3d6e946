import PyProof.Rows.All
import Wide.All
import OpenK.AllK
import Wide.FinOn
import KE.KStateDown
import HandS.ForMost
import HandS.ForExc
import HandS.Defaults
import HandS.IsInst
import HandS.Head0
import HandS.Head1
import HandS.Head2
import HandS.HeadEnd
import HandS.HeadHook1
import HandS.HeadHook2
import PySem.Challenge.RW_roundminutes_k01_valid_names
set_option Elab.async false
set_option linter.all false
set_option maxRecDepth 100000
set_option maxHeartbeats 4000000
/-! RB: the base of this workplace's proofs: facts of the head by a Hook, steps of readings, heaps, the pool. -/
namespace Rm
open PySem PySem.Spec L2
abbrev St := L2.St
/-! ### the head's facts -/
/-- a def of the text: where its object stands, its own words -/
structure DD where
  adr : PySem.W.Frag → Addr
  name : Str
  qual : Str
  st : Stmt
  dfl : List He.Dv := []
  kwd : List (Str × He.Dv) := []
def fnX (K : PySem.W.Frag) (a : Addr) : He.FnW := match K.lookup a with
  | some ⟨_, _, .func fd, _⟩ => some (fd.name, fd.qualname, fd.params, fd.body, fd.scope, fd.globals, fd.closure, fd.builtins)
  | _ => none
def DD.val (d : DD) : He.FnW := some (d.name, d.qual, defArgs d.st, .stmts (defBody d.st), defScope d.st, mainGlobals, [], builtinsNs)
def DD.dvs (K : PySem.W.Frag) (d : DD) : List V := d.dfl.map (He.Dv.v K)
def DD.kws (K : PySem.W.Frag) (d : DD) : List (Str × V) := d.kwd.map fun q => (q.1, q.2.v K)
def DD.ok (K : PySem.W.Frag) (d : DD) : Bool := PySem.W.keepIn K (.ref (d.adr K)) && (match K.lookup (d.adr K) with
  | some ⟨_, _, .func fd, _⟩ => PySem.W.codeIn K fd.code d.qual && (He.dflB K fd.defaults (d.dvs K) && He.kwdB K fd.kwdefaults (d.kws K))
  | _ => false)
/-- the function object at an address -/
def fdA (K : PySem.W.Frag) (a : Addr) : FuncData := match K.lookup a with
  | some ⟨_, _, .func fd, _⟩ => fd
  | _ => PySem.W.fnOf "" "" (defArgs (.Pass ⟨0, 0, 0, 0⟩)) [] (defScope (.Pass ⟨0, 0, 0, 0⟩)) .none .none .none .none none .none .none
abbrev FunAt (K : PySem.W.Frag) (d : DD) : Prop := FunD K d.name d.qual (defArgs d.st) (defBody d.st) (defScope d.st) (d.dvs K) (d.kws K) (d.adr K) (fdA K (d.adr K))
theorem DD.funD {K : PySem.W.Frag} {d : DD} (e : fnX K (d.adr K) = d.val) (c : d.ok K = true) : FunAt K d := by
  obtain ⟨kp, c2⟩ := He.ba c
  unfold fnX at e
  cases q : K.lookup (d.adr K) with
  | none =>
    rw [q] at c2
    cases c2
  | some o =>
    obtain ⟨oc, od, dt, osl⟩ := o
    rw [q] at c2 e
    cases dt with
    | func fd =>
      have ef : fdA K (d.adr K) = fd := by
        unfold fdA
        rw [q]
      show FunD K d.name d.qual (defArgs d.st) (defBody d.st) (defScope d.st) (d.dvs K) (d.kws K) (d.adr K) (fdA K (d.adr K))
      rw [ef]
      obtain ⟨n1, n2, n3, n4, n5, n6, n7, n8, n9, n10, n11, n12, n13, n14, n15⟩ := fd
      have e2 : (some (n1, n2, n3, n4, n5, n6, n7, n15) : He.FnW) = some (d.name, d.qual, defArgs d.st, .stmts (defBody d.st), defScope d.st, mainGlobals, [], builtinsNs) := e
      simp only [Option.some.injEq, Prod.mk.injEq] at e2
      obtain ⟨h1, h2, h3, h4, h5, h6, h7, h8⟩ := e2
      subst h1 h2 h3 h4 h5 h6 h7 h8
      have c3 : (PySem.W.codeIn K n13 d.qual && (He.dflB K n8 (d.dvs K) && He.kwdB K n9 (d.kws K))) = true := c2
      obtain ⟨k1, k2⟩ := He.ba c3
      obtain ⟨k3, k4⟩ := He.ba k2
      exact ⟨⟨oc, od, n8, n9, n10, n11, n12, n13, n14, osl, rfl, q, k1, He.dflB_ok k3, He.kwdB_ok k4⟩, kp⟩
    | _ => cases c2
abbrev Fc := PySem.W.Frag → Bool
def obsX (fa : List Fc) (fn : List DD) (K : PySem.W.Frag) : He.AlD := ((fa.all fun f => f K) && fn.all fun d => d.ok K, fn.map fun d => fnX K (d.adr K))
def valX (fn : List DD) : He.AlD := (true, fn.map DD.val)
def SaysX (fa : List Fc) (fn : List DD) (K : PySem.W.Frag) : Prop := obsX fa fn K = valX fn
def obsXG (n : Nat) (fa : List Fc) (fn : List DD) (g : Addr → Option Obj) : He.AlD := obsX fa fn (He.frG g (He.asD g n))
def hookX (n : Nat) (fa : List Fc) (fn : List DD) : PySem.W.Hook where
  α := He.AlD
  obs := fun s => obsXG n fa fn s.heap.get?
  val := fun _ => valX fn
  says := fun _ h => ∃ K : PySem.W.Frag, K.In h ∧ SaysX fa fn K
  of := fun _ _ e => ⟨_, He.frG_in, e⟩
  keeps := fun _ _ _ ⟨K, hK, c⟩ k => ⟨K, PySem.W.Frag.In.keeps hK k, c⟩
theorem obsXG_eq {n : Nat} {fa : List Fc} {fn : List DD} {g : Addr → Option Obj} {s : Shared} (h : ∀ a, g a = s.heap.get? a) : obsXG n fa fn g = (hookX n fa fn).obs s := by
  have e : g = s.heap.get? := funext h
  rw [e] <;> rfl
section
variable {fa : List Fc} {fn : List DD} {K : PySem.W.Frag}
theorem SaysX.fact (c : SaysX fa fn K) (i : Nat) {f : Fc} (h : fa[i]? = some f := by rfl) : f K = true := by
  have c1 := (He.ba (show ((fa.all fun f => f K) && fn.all fun d => d.ok K) = true from congrArg (fun z : He.AlD => z.1) c)).1
  exact List.all_eq_true.mp c1 f (List.mem_of_getElem? h)
theorem SaysX.def_ (c : SaysX fa fn K) (i : Nat) {d : DD} (h : fn[i]? = some d := by rfl) : FunAt K d := by
  have c2 := (He.ba (show ((fa.all fun f => f K) && fn.all fun d => d.ok K) = true from congrArg (fun z : He.AlD => z.1) c)).2
  have e : fn.map (fun d => fnX K (d.adr K)) = fn.map DD.val := congrArg (fun z : He.AlD => z.2) c
  have e2 : (fn.map fun d => fnX K (d.adr K))[i]? = (fn.map DD.val)[i]? := by rw [e]
  rw [List.getElem?_map, List.getElem?_map, h] at e2
  exact DD.funD (Option.some.inj e2) (List.all_eq_true.mp c2 d (List.mem_of_getElem? h))
end
/-- what every def of a law may lean on -/
structure Tx (fa : List Fc) (fn : List DD) (K : PySem.W.Frag) (mg : Str → Option Value) : Prop where
  h : ∃ hp : Heap, K.In hp ∧ hp.Ns mainGlobals mg
  c : SaysX fa fn K
section
variable {fa : List Fc} {fn : List DD} {K : PySem.W.Frag} {mg : Str → Option Value}
theorem Tx.glo (T : Tx fa fn K mg) {x : Str} (c : (He.Fa.glo x).ok K = true) : mg x = some (.ref (He.ga K x)) := let ⟨_, X, G⟩ := T.h; He.glo_ok X G c
theorem Tx.free (T : Tx fa fn K mg) {x : Str} (c : (He.Fa.free x).ok K = true) : mg x = none := let ⟨_, X, G⟩ := T.h; He.free_ok X G c
theorem Tx.int (T : Tx fa fn K mg) {x : Str} {i : Int} (c : (He.Fa.int x i).ok K = true) : ∃ t, mg x = some (.int i t) := let ⟨_, X, G⟩ := T.h; He.int_ok X G c
theorem Tx.str (T : Tx fa fn K mg) {x z : Str} (c : (He.Fa.str x z).ok K = true) : ∃ t, mg x = some (.str z t) := let ⟨_, X, G⟩ := T.h; He.str_ok X G c
end
theorem pe_globT {X : Cx} {x : Str} {v : V} {pos : Pos} (hg : Gl X x) (h : ∃ u, X.mg x = some u ∧ RelV v u) (hd : (x == ("__debug__" : Str)) = false := by decide) : PE X (.Name x pos) (tC v) :=
  let ⟨_, hm, r⟩ := h; pe_glob hg hm r hd
theorem str_rel {mg : Str → Option Value} {x z : Str} (h : ∃ t, mg x = some (.str z t)) : ∃ u, mg x = some u ∧ RelV (V.str z) u := let ⟨t, e⟩ := h; ⟨_, e, t, rfl⟩
theorem int_rel {mg : Str → Option Value} {x : Str} {z : Int} (h : ∃ t, mg x = some (.int z t)) : ∃ u, mg x = some u ∧ RelV (V.int z) u := let ⟨t, e⟩ := h; ⟨_, e, t, rfl⟩
/-! ### operators by short names -/
abbrev rAddI : R2 := rI0 fun i j => .int (i + j)
abbrev rSubI : R2 := rI0 fun i j => .int (i - j)
abbrev rMulI : R2 := rI CMul fun i j => .int (i * j)
abbrev rModI : R2 := rI (fun _ j => 0 < j) fun i j => .int (i % j)
abbrev rDivI : R2 := rI CDiv fun i j => .int (i / j)
abbrev rPowI : R2 := rI CPow fun i j => .int (i ^ j.toNat)
abbrev rLtI : R2 := rI0 fun i j => .bl (decide (i < j))
abbrev rLeI : R2 := rI0 fun i j => .bl (decide (i ≤ j))
abbrev rGtI : R2 := rI0 fun i j => .bl (decide (j < i))
abbrev rGeI : R2 := rI0 fun i j => .bl (decide (j ≤ i))
abbrev rAddS : R2 := fun x y H Q => ∃ i j, x = .str i ∧ y = .str j ∧ i.length + j.length ≤ sizeLine ∧ Q (.str (i ++ j)) H
abbrev rIsN : R2 := fun x y H Q => y = .non ∧ Q (.bl (decide (x = .non))) H
abbrev rNotN : R2 := fun x y H Q => y = .non ∧ Q (.bl (!decide (x = .non))) H
abbrev rInC : R2 := fun x y H Q => ∃ (c : Nat) (z : Str), x = .str ⟨#[c]⟩ ∧ y = .str z ∧ Q (.bl (decide (c ∈ z.cps.toList))) H
abbrev rNotInC : R2 := fun x y H Q => ∃ (c : Nat) (z : Str), x = .str ⟨#[c]⟩ ∧ y = .str z ∧ Q (.bl (!decide (c ∈ z.cps.toList))) H
abbrev rNegI : V → Hp → VK → Prop := rU fun i => .int (-i)
abbrev RC := List V → Hp → VK → Prop
abbrev rLenQ (K : PySem.W.Frag) : RC := fun xs H Q => ∃ p ys, xs = [.ref p] ∧ (SqL K H p ys ∨ SqT K H p ys) ∧ Q (.int ys.length) H
abbrev rLenS : RC := fun xs H Q => ∃ z, xs = [.str z] ∧ z.length ≤ sizeLine ∧ Q (.int z.length) H
abbrev rIntI : RC := fun xs H Q => (∃ i, xs = [.int i] ∧ Q (.int i) H) ∨ ∃ k, xs = [.bl k] ∧ Q (.int (if k then 1 else 0)) H
abbrev rStrI : RC := fun xs H Q => ∃ i, xs = [.int i] ∧ i.natAbs.log2 < 1920 ∧ Q (.str (toString i)) H
abbrev rListQ (K : PySem.W.Frag) : RC := fun xs H Q => ∃ p ys, xs = [.ref p] ∧ (SqL K H p ys ∨ SqT K H p ys) ∧ ∀ l, H l = none → Q (.ref l) (upd H l (.lst ys))
abbrev rAbsI : RC := fun xs H Q => ∃ i, xs = [.int i] ∧ Q (.int (if i < 0 then -i else i)) H
abbrev rMax2 : RC := fun xs H Q => ∃ i j, xs = [.int i, .int j] ∧ Q (.int (if j > i then j else i)) H
abbrev rMin2 : RC := fun xs H Q => ∃ i j, xs = [.int i, .int j] ∧ Q (.int (if j < i then j else i)) H
abbrev RM := V → List V → Hp → VK → Prop
abbrev rFind : RM := fun x xs H Q => ∃ a b, x = .str a ∧ xs = [.str b] ∧ Q (.int (Txt.find a b)) H
abbrev rCount : RM := fun x xs H Q => ∃ a b, x = .str a ∧ xs = [.str b] ∧ Q (.int (Txt.count a b)) H
abbrev rSplit : RM := fun x xs H Q => ∃ a b, x = .str a ∧ xs = [.str b] ∧ (b.length == 0) = false ∧ a.length + 2 ≤ sizeLine ∧ rNewStrs (Txt.split a b) H Q
/-! ### steps: statements -/
section
variable {σ σ' : St} {H : Hp} {nx bk ct : St → Hp → Prop} {rt Q : VK} {t u tb : TS} {te ta tc : TE} {tt tu : TT} {ts : TA} {g : TG} {v x y : V} {i : Nat} {b : Bool} {QT : Bool → Hp → Prop} {QA : List V → Hp → Prop} {r r' : R2} {N : List Str} {vs : List V}
theorem c_seq (h : t ⟨u ⟨nx, rt, bk, ct⟩, rt, bk, ct⟩ σ H) : tSeq t u ⟨nx, rt, bk, ct⟩ σ H := h
theorem c_next (h : nx σ H) : tNext ⟨nx, rt, bk, ct⟩ σ H := h
theorem c_break (h : bk σ H) : tBreak ⟨nx, rt, bk, ct⟩ σ H := h
theorem c_cont (h : ct σ H) : tCont ⟨nx, rt, bk, ct⟩ σ H := h
theorem c_drop (h : te σ H fun _ H1 => nx σ H1) : tDrop te ⟨nx, rt, bk, ct⟩ σ H := h
theorem c_ret (h : te σ H rt) : tRet te ⟨nx, rt, bk, ct⟩ σ H := h
theorem c_retN (h : rt .non H) : tRetN ⟨nx, rt, bk, ct⟩ σ H := h
theorem c_ifS (h : tt σ H fun b H1 => if b = true then t ⟨nx, rt, bk, ct⟩ σ H1 else u ⟨nx, rt, bk, ct⟩ σ H1) : tIfS tt t u ⟨nx, rt, bk, ct⟩ σ H := h
/-- the ways of t meet in R -/
theorem c_join (R : St → Hp → Prop) (h1 : ∀ nx' : St → Hp → Prop, (∀ σ' H', R σ' H' → nx' σ' H') → t ⟨nx', rt, bk, ct⟩ σ H) (h2 : ∀ σ' H', R σ' H' → nx σ' H') : t ⟨nx, rt, bk, ct⟩ σ H := h1 nx h2
theorem c_asg (h : te σ H fun x H1 => g x σ H1 nx) : tAsg te g ⟨nx, rt, bk, ct⟩ σ H := h
theorem c_name {Q : St → Hp → Prop} (e : σ.set i (some v) = σ') (h : Q σ' H) : gName i v σ H Q := by subst e; exact h
theorem c_for {wi : TI} (h : wi σ H fun J H1 => ∃ W : Nat → Nat → St → Hp → Prop, (∃ m, W 0 m σ H1) ∧ ∀ i m σ H, W i m σ H →
  (J.stop i H ∧ nx σ H) ∨ (J.go i H ∧ ∃ N : St → Hp → Prop, (∀ σ' H', N σ' H' → ∃ m', m' < m ∧ W (i + 1) m' σ' H') ∧ ∀ x H', J.yld i H x H' → g x σ H' fun σ2 H2 => tb ⟨N, rt, nx, N⟩ σ2 H2)) : tFor wi g tb ⟨nx, rt, bk, ct⟩ σ H := h
/-! ### steps: expressions -/
theorem c_var (e : σ[i]? = some (some v)) (h : Q v H) : tVar i σ H Q := ⟨v, e, h⟩
theorem c_c (h : Q v H) : tC v σ H Q := h
theorem c_op (h : ta σ H fun x H1 => tc σ H1 fun y H2 => r x y H2 Q) : tOp r ta tc σ H Q := h
theorem c_un {r : V → Hp → VK → Prop} (h : ta σ H fun x H1 => r x H1 Q) : tUn r ta σ H Q := h
theorem c_if (h : tt σ H fun c H1 => if c = true then ta σ H1 Q else tc σ H1 Q) : tIf tt ta tc σ H Q := h
theorem c_test (h : te σ H fun x H' => ∃ k, x = .bl k ∧ QT k H') : tTest te σ H QT := h
theorem c_tB (h : te σ H fun x H' => ∃ k, x = .bl k ∧ QT k H') : tB te σ H QT := h
theorem c_bl {P : Bool → Prop} (h : P b) : ∃ k, V.bl b = .bl k ∧ P k := ⟨b, rfl, h⟩
theorem c_and (h : tt σ H fun c H1 => if c = true then tu σ H1 QT else QT false H1) : tAnd tt tu σ H QT := h
theorem c_or (h : tt σ H fun c H1 => if c = true then QT true H1 else tu σ H1 QT) : tOr tt tu σ H QT := h
theorem c_not (h : tt σ H fun c H1 => QT (!c) H1) : tNot tt σ H QT := h
theorem c_andV (h : ta σ H fun x H1 => ∃ c, x = .bl c ∧ if c = true then tc σ H1 Q else Q (.bl false) H1) : tAndV ta tc σ H Q := h
theorem c_orV (h : ta σ H fun x H1 => ∃ c, x = .bl c ∧ if c = true then Q (.bl true) H1 else tc σ H1 Q) : tOrV ta tc σ H Q := h
theorem c_notV (h : ta σ H fun x H1 => ∃ c, x = .bl c ∧ Q (.bl (!c)) H1) : tNotV ta σ H Q := h
theorem c_nil (h : QA [] H) : tNil σ H QA := h
theorem c_cons (h : te σ H fun x H1 => ts σ H1 fun xs H2 => QA (x :: xs) H2) : tCons te ts σ H QA := h
theorem c_call {sp : Sp} {dvs : List V} {E : XK} (h : ts σ H fun vs H1 => sp (vs ++ dvs) H1 Q E) : tCall sp dvs E ts σ H Q := h
theorem c_cb {r : RC} (h : ts σ H fun vs H1 => r vs H1 Q) : tCB r ts σ H Q := h
theorem c_tup (h : ts σ H fun xs H1 => xs.length ≤ sizeLine ∧ ∀ p, H1 p = none → Q (.ref p) (upd H1 p (.tup xs))) : tTup ts σ H Q := h
theorem c_lst (h : ts σ H fun xs H1 => xs.length ≤ sizeLine ∧ ∀ p, H1 p = none → Q (.ref p) (upd H1 p (.lst xs))) : tLst ts σ H Q := h
theorem c_chain {te' : TE} (h : ta σ H fun x H1 => tc σ H1 fun y H2 => r x y H2 fun z H3 => ∃ k, z = .bl k ∧ (if k = true then te' σ H3 fun w' H4 => r' y w' H4 Q else Q (.bl false) H3)) : tChain r r' ta tc te' σ H Q := h
theorem c_start : start N vs = start N vs := rfl
/-! ### steps: values -/
theorem v_addI {a b : Int} (h : Q (.int (a + b)) H) : rAddI (.int a) (.int b) H Q := ⟨a, b, rfl, rfl, h⟩
theorem v_subI {a b : Int} (h : Q (.int (a - b)) H) : rSubI (.int a) (.int b) H Q := ⟨a, b, rfl, rfl, h⟩
theorem v_mulI {a b : Int} (hc : CMul a b) (h : Q (.int (a * b)) H) : rMulI (.int a) (.int b) H Q := ⟨a, b, rfl, rfl, hc, h⟩
theorem v_modI {a b : Int} (hc : 0 < b) (h : Q (.int (a % b)) H) : rModI (.int a) (.int b) H Q := ⟨a, b, rfl, rfl, hc, h⟩
theorem v_divI {a b : Int} (hc : 0 < b ∧ b < 1073741824) (h : Q (.int (a / b)) H) : rDivI (.int a) (.int b) H Q := ⟨a, b, rfl, rfl, hc, h⟩
theorem v_powI {a b : Int} (hc : CPow a b) (h : Q (.int (a ^ b.toNat)) H) : rPowI (.int a) (.int b) H Q := ⟨a, b, rfl, rfl, hc, h⟩
theorem v_ltI {a b : Int} (h : Q (.bl (decide (a < b))) H) : rLtI (.int a) (.int b) H Q := ⟨a, b, rfl, rfl, h⟩
theorem v_leI {a b : Int} (h : Q (.bl (decide (a ≤ b))) H) : rLeI (.int a) (.int b) H Q := ⟨a, b, rfl, rfl, h⟩
theorem v_gtI {a b : Int} (h : Q (.bl (decide (b < a))) H) : rGtI (.int a) (.int b) H Q := ⟨a, b, rfl, rfl, h⟩
theorem v_geI {a b : Int} (h : Q (.bl (decide (b ≤ a))) H) : rGeI (.int a) (.int b) H Q := ⟨a, b, rfl, rfl, h⟩
theorem v_negI {a : Int} (h : Q (.int (-a)) H) : rNegI (.int a) H Q := ⟨a, rfl, h⟩
theorem v_addS {a b : Str} (hc : a.length + b.length ≤ sizeLine) (h : Q (.str (a ++ b)) H) : rAddS (.str a) (.str b) H Q := ⟨a, b, rfl, rfl, hc, h⟩
theorem v_eqI {a b : Int} (h : Q (.bl (decide (a = b))) H) : rEq (.int a) (.int b) H Q := ⟨rfl, by rw [show (decide (V.int a = V.int b)) = decide (a = b) by simp]; exact h⟩
theorem v_neI {a b : Int} (h : Q (.bl (!decide (a = b))) H) : rNe (.int a) (.int b) H Q := ⟨rfl, by rw [show (decide (V.int a = V.int b)) = decide (a = b) by simp]; exact h⟩
theorem v_eqS {a b : Str} (h : Q (.bl (decide (a = b))) H) : rEq (.str a) (.str b) H Q := ⟨rfl, by rw [show (decide (V.str a = V.str b)) = decide (a = b) by simp]; exact h⟩
theorem v_neS {a b : Str} (h : Q (.bl (!decide (a = b))) H) : rNe (.str a) (.str b) H Q := ⟨rfl, by rw [show (decide (V.str a = V.str b)) = decide (a = b) by simp]; exact h⟩
theorem v_eqB {a b : Bool} (h : Q (.bl (decide (a = b))) H) : rEq (.bl a) (.bl b) H Q := ⟨rfl, by rw [show (decide (V.bl a = V.bl b)) = decide (a = b) by simp]; exact h⟩
theorem v_isN (h : Q (.bl (decide (x = .non))) H) : rIsN x .non H Q := ⟨rfl, h⟩
theorem v_notN (h : Q (.bl (!decide (x = .non))) H) : rNotN x .non H Q := ⟨rfl, h⟩
theorem v_ixS {z : Str} {i : Int} {c : Nat} (hz : z.length ≤ sizeLine) (hc : atI z.cps.toList i = some c) (h : Q (.str ⟨#[c]⟩) H) : rIxS (.str z) (.int i) H Q := ⟨z, i, c, rfl, rfl, hz, hc, h⟩
theorem v_ixL {K : PySem.W.Frag} {p : Addr} {xs : List V} {i : Int} (hp : SqL K H p xs) (hc : atI xs i = some v) (h : Q v H) : rIxL K (.ref p) (.int i) H Q := ⟨p, xs, i, v, rfl, rfl, hp, hc, h⟩
theorem v_ixT {K : PySem.W.Frag} {p : Addr} {xs : List V} {i : Int} (hp : SqT K H p xs) (hc : atI xs i = some v) (h : Q v H) : rIxT K (.ref p) (.int i) H Q := ⟨p, xs, i, v, rfl, rfl, hp, hc, h⟩
theorem v_lenS {z : Str} (hz : z.length ≤ sizeLine) (h : Q (.int z.length) H) : rLenS [.str z] H Q := ⟨z, rfl, hz, h⟩
theorem v_lenL {K : PySem.W.Frag} {p : Addr} {xs : List V} (hp : SqL K H p xs) (h : Q (.int xs.length) H) : rLenQ K [.ref p] H Q := ⟨p, xs, rfl, .inl hp, h⟩
theorem v_lenT {K : PySem.W.Frag} {p : Addr} {xs : List V} (hp : SqT K H p xs) (h : Q (.int xs.length) H) : rLenQ K [.ref p] H Q := ⟨p, xs, rfl, .inr hp, h⟩
theorem v_intI {a : Int} (h : Q (.int a) H) : rIntI [.int a] H Q := .inl ⟨a, rfl, h⟩
theorem v_strI {a : Int} (hz : a.natAbs.log2 < 1920) (h : Q (.str (toString a)) H) : rStrI [.int a] H Q := ⟨a, rfl, hz, h⟩
theorem v_max2 {a b : Int} (h : Q (.int (if b > a then b else a)) H) : rMax2 [.int a, .int b] H Q := ⟨a, b, rfl, h⟩
theorem v_min2 {a b : Int} (h : Q (.int (if b < a then b else a)) H) : rMin2 [.int a, .int b] H Q := ⟨a, b, rfl, h⟩
theorem v_absI {a : Int} (h : Q (.int (if a < 0 then -a else a)) H) : rAbsI [.int a] H Q := ⟨a, rfl, h⟩
theorem v_inC {c : Nat} {z : Str} (h : Q (.bl (decide (c ∈ z.cps.toList))) H) : rInC (.str ⟨#[c]⟩) (.str z) H Q := ⟨c, z, rfl, rfl, h⟩
theorem v_notInC {c : Nat} {z : Str} (h : Q (.bl (!decide (c ∈ z.cps.toList))) H) : rNotInC (.str ⟨#[c]⟩) (.str z) H Q := ⟨c, z, rfl, rfl, h⟩
end
section
variable {σ : St} {H : Hp} {v : V} {Qh : Hp → Prop} {Qs : St → Hp → Prop}
theorem c_gsub {to ti : TE} {ts : TSet} (h : to σ H fun o H1 => ti σ H1 fun i H2 => ts o i v H2 fun H3 => Qs σ H3) : gSub to ti ts v σ H Qs := h
theorem v_setL {p : Addr} {xs : List V} {k : Int} {j : Nat} (hp : H p = some (.lst xs)) (hj : ixN xs.length k = some j) (h : Qh (upd H p (.lst (xs.set j v)))) : rSetL (.ref p) (.int k) v H Qh := ⟨p, xs, k, j, rfl, rfl, hp, hj, h⟩
end
/-! ### tests -/
theorem ifd {c A B : Prop} [Decidable c] (h1 : c → A) (h2 : ¬ c → B) : if decide c = true then A else B := by
  by_cases h : c
  · rw [decide_eq_true h, if_pos rfl]; exact h1 h
  · rw [decide_eq_false h, if_neg Bool.false_ne_true]; exact h2 h
theorem ifn {c A B : Prop} [Decidable c] (h1 : ¬ c → A) (h2 : c → B) : if (!decide c) = true then A else B := by
  by_cases h : c
  · rw [decide_eq_true h]; exact h2 h
  · rw [decide_eq_false h]; exact h1 h
theorem ifNF {A B : Prop} (h : A) : if (!false) = true then A else B := h
theorem ifNT {A B : Prop} (h : B) : if (!true) = true then A else B := h
theorem ifb {b : Bool} {A B : Prop} (h1 : b = true → A) (h2 : b = false → B) : if b = true then A else B := by
  cases b
  · exact h2 rfl
  · exact h1 rfl
/-! ### texts by their codes -/
abbrev tl (x : Str) : List Nat := x.cps.toList
theorem len_tl (x : Str) : x.length = (tl x).length := by simp [tl, Str.length]
theorem tl_app (a b : Str) : tl (a ++ b) = tl a ++ tl b := by
  show (a.cps ++ b.cps).toList = _
  rw [Array.toList_append]
theorem len_app (a b : Str) : (a ++ b).length = a.length + b.length := by rw [len_tl, tl_app, List.length_append, ← len_tl, ← len_tl]
theorem len_sgl (c : Nat) : (⟨#[c]⟩ : Str).length = 1 := rfl
theorem len_of (s : String) : (Str.ofString s).length = (Str.ofString s).length := rfl
theorem tl_sgl (c : Nat) : tl ⟨#[c]⟩ = [c] := rfl
theorem str_ext {a b : Str} (h : tl a = tl b) : a = b := by
  obtain ⟨⟨x⟩⟩ := a
  obtain ⟨⟨y⟩⟩ := b
  have h' : x = y := h
  rw [h']
/-- an item of a list of ints -/
theorem ixI_map {α : Type} {f : α → V} {xs : List α} {i : Int} {n : Nat} (e : i = (n : Int)) (h : n < xs.length) : atI (xs.map f) i = some (f xs[n]) := by
  subst e
  exact atI_nat (by simp [h])
/-! ### the pool -/
/-- F: what is frozen; H: the heap; the pool at pp -/
structure Pl (K : PySem.W.Frag) (F H : Hp) (pp : Addr) : Prop where
  ex : Same F H
  fr : F pp = none
  po : ∃ (n c : Int) (ca : Addr) (ns : List Int), H pp = some (.lst [.int n, .int c, .ref ca]) ∧ SqL K F ca (ns.map V.int)
/-- all but the pool stands -/
def Gw (pp : Addr) (H H' : Hp) : Prop := ∀ a o, a ≠ pp → H a = some o → H' a = some o
theorem Gw.refl {pp : Addr} (H : Hp) : Gw pp H H := fun _ _ _ h => h
theorem Gw.trans {pp : Addr} {H H1 H2 : Hp} (a : Gw pp H H1) (b : Gw pp H1 H2) : Gw pp H H2 := fun x o h e => b x o h (a x o h e)
theorem same_gw {pp : Addr} {H H1 : Hp} (a : Same H H1) : Gw pp H H1 := fun x o _ e => a x o e
theorem same_new {H : Hp} {p : Addr} {o : HO} (h : H p = none) : Same H (upd H p o) := fun a u e => by
  rw [upd_ne (ne_of_none e h)]; exact e
theorem Gw.new {pp : Addr} {H : Hp} {p : Addr} {o : HO} (h : H p = none) : Gw pp H (upd H p o) := same_gw (same_new h)
theorem Gw.same {pp : Addr} {F H H' : Hp} (g : Gw pp H H') (e : Same F H) (f : F pp = none) : Same F H' := fun a o h => g a o (ne_of_none h f) (e a o h)
theorem Pl.ne {K : PySem.W.Frag} {F H : Hp} {pp : Addr} (P : Pl K F H pp) : ∃ o, H pp = some o := let ⟨_, _, _, _, h, _⟩ := P.po; ⟨_, h⟩
theorem Pl.same {K : PySem.W.Frag} {F H H' : Hp} {pp : Addr} (P : Pl K F H pp) (e : Same H H') : Pl K F H' pp :=
  ⟨P.ex.trans e, P.fr, let ⟨n, c, ca, ns, h, q⟩ := P.po; ⟨n, c, ca, ns, e _ _ h, q⟩⟩
/-- an object that is not frozen, and is not the pool, is changed -/
theorem Pl.mut {K : PySem.W.Frag} {F H : Hp} {pp p : Addr} {o : HO} (P : Pl K F H pp) (hp : p ≠ pp) (hf : F p = none) : Pl K F (upd H p o) pp :=
  ⟨fun a u e => by rw [upd_ne (ne_of_none e hf)]; exact P.ex a u e, P.fr, let ⟨n, c, ca, ns, h, q⟩ := P.po; ⟨n, c, ca, ns, by rw [upd_ne hp.symm]; exact h, q⟩⟩
/-- the pool's own list is written -/
theorem Pl.put {K : PySem.W.Frag} {F H : Hp} {pp ca : Addr} {n c : Int} {ns : List Int} (P : Pl K F H pp) (q : SqL K F ca (ns.map V.int)) : Pl K F (upd H pp (.lst [.int n, .int c, .ref ca])) pp :=
  ⟨fun a u e => by rw [upd_ne (ne_of_none e P.fr)]; exact P.ex a u e, P.fr, n, c, ca, ns, upd_same, q⟩
theorem gw_put {H : Hp} {pp : Addr} {o : HO} : Gw pp H (upd H pp o) := fun a u e h => by rw [upd_ne e]; exact h
theorem gw_mut {pp : Addr} {H0 H : Hp} {p : Addr} {o : HO} (g : Gw pp H0 H) (h : H0 p = none) : Gw pp H0 (upd H p o) := fun a u e q => by
  rw [upd_ne (ne_of_none q h)]; exact g a u e q
theorem Pl.off {K : PySem.W.Frag} {F H : Hp} {pp p : Addr} (P : Pl K F H pp) (h : H p = none) : p ≠ pp ∧ F p = none := by
  obtain ⟨o, ho⟩ := P.ne
  refine ⟨fun e => ?_, Same.free P.ex h⟩
  rw [e, ho] at h
  cases h
theorem seq_same {K : PySem.W.Frag} {F H : Hp} {a : Addr} {xs : List V} (e : Same F H) (h : SqL K F a xs) : SqL K H a xs := e.seq h
theorem seqT_same {K : PySem.W.Frag} {H H' : Hp} {a : Addr} {xs : List V} (e : Same H H') (h : SqT K H a xs) : SqT K H' a xs := by
  rcases h with (h | ⟨o, h⟩) | h
  · exact .inl (.inl (e _ _ h))
  · exact .inl (.inr ⟨o, e _ _ h⟩)
  · exact .inr h
theorem sqL_of {K : PySem.W.Frag} {H : Hp} {a : Addr} {xs : List V} (h : H a = some (.lst xs)) : SqL K H a xs := .inl (.inl h)
theorem sqT_of {K : PySem.W.Frag} {H : Hp} {a : Addr} {xs : List V} (h : H a = some (.tup xs)) : SqT K H a xs := .inl (.inl h)

/-! ### what is walked -/
/-- J takes n turns while Ok stands; Y what it gives -/
structure Wlk (J : It) (n : Nat) (Ok : Hp → Prop) (Y : Nat → Hp → V → Hp → Prop) : Prop where
  go : ∀ i H, Ok H → i < n → J.go i H
  stop : ∀ i H, Ok H → n ≤ i → J.stop i H
  yld : ∀ i H x H', Ok H → J.yld i H x H' → Y i H x H'
theorem wlk_list {K : PySem.W.Frag} {a : Addr} {xs : List V} : Wlk (Itl K a) xs.length (fun H => SqL K H a xs) (fun i H x H' => H' = H ∧ xs[i]? = some x) :=
  ⟨fun i H h hi => ⟨xs, xs[i], h, by simp [hi]⟩, fun i H h hi => ⟨xs, h, hi⟩, fun i H x H' h y => ⟨y.1, y.2 xs h⟩⟩
theorem wlk_tup {K : PySem.W.Frag} {a : Addr} {xs : List V} : Wlk (Itt K a) xs.length (fun H => SqT K H a xs) (fun i H x H' => H' = H ∧ xs[i]? = some x) :=
  ⟨fun i H h hi => ⟨xs, xs[i], h, by simp [hi]⟩, fun i H h hi => ⟨xs, h, hi⟩, fun i H x H' h y => ⟨y.1, y.2 xs h⟩⟩
theorem wlk_rng {lo : Int} {n : Nat} : Wlk (Itr lo n) n (fun _ => True) (fun i H x H' => H' = H ∧ x = .int (lo + (i : Int))) :=
  ⟨fun i H _ hi => hi, fun i H _ hi => hi, fun i H x H' _ y => y⟩
theorem wlk_str {z : Str} : Wlk (Its z) z.length (fun _ => True) (fun i H x H' => H' = H ∧ ∃ c, (tl z)[i]? = some c ∧ x = .str ⟨#[c]⟩) :=
  ⟨fun i H _ hi => hi, fun i H _ hi => hi, fun i H x H' _ ⟨e, c, h1, h2⟩ => ⟨e, c, by simpa [tl] using h1, h2⟩⟩
theorem wlk_enum {K : PySem.W.Frag} {a : Addr} {xs : List V} : Wlk (Ite K a) xs.length (fun H => SqL K H a xs) (fun i H x H' => ∃ T y, x = .ref T ∧ H T = none ∧ H' = upd H T (.tup [.int (i : Nat), y]) ∧ xs[i]? = some y) :=
  ⟨fun i H h hi => ⟨xs, xs[i], h, by simp [hi]⟩, fun i H h hi => ⟨xs, h, hi⟩, fun i H x H' h ⟨T, y, e1, e2, e3, e4⟩ => ⟨T, y, e1, e2, e3, e4 xs h⟩⟩
section
variable {J : It} {n : Nat} {Ok : Hp → Prop} {Y : Nat → Hp → V → Hp → Prop} {g : TG} {tb : TS} {nx : St → Hp → Prop} {rt : VK} {σ : St} {H : Hp}
theorem for_w (w : Wlk J n Ok Y) (Pv : Nat → St → Hp → Prop) (h0 : Pv 0 σ H) (hk : ∀ i σ H, Pv i σ H → Ok H)
    (hs : ∀ i x σ H H', i < n → Pv i σ H → Y i H x H' → g x σ H' fun σ2 H2 => tb ⟨Pv (i + 1), rt, nx, Pv (i + 1)⟩ σ2 H2) (hd : ∀ σ H, Pv n σ H → nx σ H) :
    ∃ W : Nat → Nat → St → Hp → Prop, (∃ m, W 0 m σ H) ∧ ∀ i m σ H, W i m σ H →
      (J.stop i H ∧ nx σ H) ∨ (J.go i H ∧ ∃ N : St → Hp → Prop, (∀ σ' H', N σ' H' → ∃ m', m' < m ∧ W (i + 1) m' σ' H') ∧ ∀ x H', J.yld i H x H' → g x σ H' fun σ2 H2 => tb ⟨N, rt, nx, N⟩ σ2 H2) := by
  refine ⟨fun i m σ H => m = n - i ∧ i ≤ n ∧ Pv i σ H, ⟨n, by simp, Nat.zero_le _, h0⟩, ?_⟩
  rintro i m σ H ⟨rfl, hi, p⟩
  have q := hk i σ H p
  by_cases hlt : i < n
  · exact .inr ⟨w.go _ _ q hlt, Pv (i + 1), fun σ' H' p' => ⟨n - (i + 1), by omega, rfl, hlt, p'⟩, fun x H' y => hs i x σ H H' hlt p (w.yld _ _ _ _ q y)⟩
  · have e : i = n := by omega
    subst e
    exact .inl ⟨w.stop _ _ q (Nat.le_refl _), hd σ H p⟩
/-- a loop with an exit by break: B what holds there -/
theorem lc_w {tt : TT} {te : TE} {vs : List Nat} {D : Addr} {Qd : Hp → Prop} (w : Wlk J n Ok Y) (Pv : Nat → Hp → Prop) (h0 : Pv 0 (upd H D (.lst []))) (hk : ∀ i H, Pv i H → Ok H)
    (hs : ∀ i x H H', i < n → Pv i H → Y i H x H' → g x (wipe σ vs) H' fun σ2 H2 => wipe σ2 vs = wipe σ vs ∧ tt σ2 H2 fun b H3 =>
      if b = true then te σ2 H3 fun y H4 => ∃ acc, H4 D = some (.lst acc) ∧ acc.length < sizeLine ∧ Pv (i + 1) (upd H4 D (.lst (acc ++ [y]))) else Pv (i + 1) H3) (hd : ∀ H, Pv n H → Qd H) :
    ∃ W : Nat → Nat → Hp → Prop, (∃ m, W 0 m (upd H D (.lst []))) ∧ ∀ i m H, W i m H →
      (J.stop i H ∧ Qd H) ∨ (J.go i H ∧ ∃ Nx : Hp → Prop, (∀ H', Nx H' → ∃ m', m' < m ∧ W (i + 1) m' H') ∧ ∀ x H', J.yld i H x H' → g x (wipe σ vs) H' fun σ2 H2 => wipe σ2 vs = wipe σ vs ∧ tt σ2 H2 fun b H3 =>
        if b = true then te σ2 H3 fun y H4 => ∃ acc, H4 D = some (.lst acc) ∧ acc.length < sizeLine ∧ Nx (upd H4 D (.lst (acc ++ [y]))) else Nx H3) := by
  refine ⟨fun i m H => m = n - i ∧ i ≤ n ∧ Pv i H, ⟨n, by simp, Nat.zero_le _, h0⟩, ?_⟩
  rintro i m H ⟨rfl, hi, p⟩
  have q := hk i H p
  by_cases hlt : i < n
  · exact .inr ⟨w.go _ _ q hlt, Pv (i + 1), fun H' p' => ⟨n - (i + 1), by omega, rfl, hlt, p'⟩, fun x H' y => hs i x H H' hlt p (w.yld _ _ _ _ q y)⟩
  · have e : i = n := by omega
    subst e
    exact .inl ⟨w.stop _ _ q (Nat.le_refl _), hd H p⟩
end
section
variable {σ : St} {H : Hp} {ts : TA} {te : TE} {R : It → Hp → Prop} {K : PySem.W.Frag} {Q : VK}
theorem c_rng1 (h : ts σ H fun vs H1 => ∃ j : Int, vs = [.int j] ∧ -(2 ^ 62) ≤ j ∧ j < 2 ^ 62 ∧ R (Itr 0 j.toNat) H1) : iRng1 ts σ H R := h
theorem c_rng2 (h : ts σ H fun vs H1 => ∃ i j : Int, vs = [.int i, .int j] ∧ (-(2 ^ 62) ≤ i ∧ i < 2 ^ 62 ∧ -(2 ^ 62) ≤ j ∧ j < 2 ^ 62) ∧ R (Itr i (j - i).toNat) H1) : iRng2 ts σ H R := h
theorem c_iList (h : te σ H fun x H1 => ∃ a, x = .ref a ∧ (∃ xs, SqL K H1 a xs) ∧ R (Itl K a) H1) : iList K te σ H R := h
theorem c_iTup (h : te σ H fun x H1 => ∃ a, x = .ref a ∧ (∃ xs, SqT K H1 a xs) ∧ R (Itt K a) H1) : iTup K te σ H R := h
theorem c_iStr (h : te σ H fun v H1 => ∃ x, v = .str x ∧ R (Its x) H1) : iStr te σ H R := h
theorem c_iEnum (h : ts σ H fun vs H1 => ∃ a xs, vs = [.ref a] ∧ SqL K H1 a xs ∧ R (Ite K a) H1) : iEnum K ts σ H R := h
theorem c_lc {wi : TI} {g : TG} {tt : TT} {vs : List Nat} (h : wi σ H fun J H1 => ∀ D, H1 D = none → ∃ W : Nat → Nat → Hp → Prop, (∃ m, W 0 m (upd H1 D (.lst []))) ∧ ∀ i m H, W i m H →
  (J.stop i H ∧ Q (.ref D) H) ∨ (J.go i H ∧ ∃ Nx : Hp → Prop, (∀ H', Nx H' → ∃ m', m' < m ∧ W (i + 1) m' H') ∧ ∀ x H', J.yld i H x H' → g x (wipe σ vs) H' fun σ2 H2 => wipe σ2 vs = wipe σ vs ∧ tt σ2 H2 fun b H3 =>
    if b = true then te σ2 H3 fun y H4 => ∃ acc, H4 D = some (.lst acc) ∧ acc.length < sizeLine ∧ Nx (upd H4 D (.lst (acc ++ [y]))) else Nx H3)) : tLc wi g tt te vs σ H Q := h
theorem c_tYes {Q : Bool → Hp → Prop} (h : Q true H) : tYes σ H Q := h
theorem c_bm {T : String} {r : RM} (h : te σ H fun x H1 => tyV K T x H1 ∧ ts σ H1 fun xs H2 => r x xs H2 Q) : tBM K T r te ts σ H Q := h
theorem c_bm0 {T : String} {r : RM} (h : te σ H fun x H1 => tyV K T x H1 ∧ r x [] H1 Q) : tBM0 K T r te σ H Q := h
theorem ty_str {z : Str} : tyV K "str" (.str z) H := rfl
theorem ty_list {p : Addr} {xs : List V} (h : SqL K H p xs) : tyV K "list" (.ref p) H := .inl ⟨rfl, xs, h⟩
theorem v_append {p : Addr} {xs : List V} {y : V} (hp : H p = some (.lst xs)) (hl : xs.length < sizeLine) (h : Q .non (upd H p (.lst (xs ++ [y])))) : rAppend (.ref p) [y] H Q := ⟨p, xs, y, rfl, rfl, hp, hl, h⟩
theorem v_find {a b : Str} (h : Q (.int (Txt.find a b)) H) : rFind (.str a) [.str b] H Q := ⟨a, b, rfl, rfl, h⟩
theorem c_sl {r : V → Option Int → Option Int → Hp → VK → Prop} {tl th : TO} (h : te σ H fun x H1 => tl σ H1 fun l H2 => th σ H2 fun u H3 => r x l u H3 Q) : tSl r te tl th σ H Q := h
theorem c_noPart {Q : Option Int → Hp → Prop} (h : Q none H) : tNoPart σ H Q := h
theorem c_part {Q : Option Int → Hp → Prop} (h : te σ H fun x H1 => ∃ i, x = .int i ∧ Q (some i) H1) : tPart te σ H Q := h
theorem j_int {P : Int → Prop} {j : Int} (h : P j) : ∃ i : Int, V.int j = .int i ∧ P i := ⟨j, rfl, h⟩
theorem v_slS {z : Str} {lo hi : Option Int} (hz : z.length ≤ sizeLine) (h : Q (.str (cutS z lo hi)) H) : rSlS (.str z) lo hi H Q := ⟨z, rfl, hz, h⟩
theorem v_slL {p : Addr} {xs : List V} {lo hi : Option Int} (hp : SqL K H p xs) (h : ∀ l, H l = none → Q (.ref l) (upd H l (.lst (cutV xs lo hi)))) : rSlL K (.ref p) lo hi H Q := ⟨p, xs, rfl, hp, h⟩
theorem j_rng {P : Int → Prop} {j : Int} (h1 : -(2 ^ 62) ≤ j) (h2 : j < 2 ^ 62) (h : P j) : ∃ i : Int, [V.int j] = [.int i] ∧ -(2 ^ 62) ≤ i ∧ i < 2 ^ 62 ∧ P i := ⟨j, rfl, h1, h2, h⟩
theorem j_list {P : Addr → Prop} {a : Addr} {xs : List V} (h : SqL K H a xs) (q : P a) : ∃ b, V.ref a = .ref b ∧ (∃ xs, SqL K H b xs) ∧ P b := ⟨a, rfl, ⟨xs, h⟩, q⟩
theorem j_tup {P : Addr → Prop} {a : Addr} {xs : List V} (h : SqT K H a xs) (q : P a) : ∃ b, V.ref a = .ref b ∧ (∃ xs, SqT K H b xs) ∧ P b := ⟨a, rfl, ⟨xs, h⟩, q⟩
theorem j_str {P : Str → Prop} {z : Str} (q : P z) : ∃ x, V.str z = .str x ∧ P x := ⟨z, rfl, q⟩
end
/-! ### in a list of texts or ints -/
theorem eqV_str (a b : Str) : eqV (.str a) (.str b) = decide (a = b) := by
  unfold eqV
  by_cases h : a = b <;> simp [h]
theorem inV_str (a : Str) (ns : List Str) : inV (.str a) (ns.map V.str) = decide (a ∈ ns) := by
  unfold inV
  rw [List.any_map]
  induction ns with
  | nil => rfl
  | cons n r ih =>
    rw [List.any_cons, ih]
    show (eqV (.str n) (.str a) || decide (a ∈ r)) = _
    rw [eqV_str]
    by_cases h : n = a
    · subst h; simp
    · have h' : ¬ a = n := fun e => h e.symm
      simp [h, h']
theorem flat_strs (ns : List Str) : (ns.map V.str).all flatV = true := by
  rw [List.all_map, List.all_eq_true]; intro x _; rfl
theorem flat_ints (ns : List Int) : (ns.map V.int).all flatV = true := by
  rw [List.all_map, List.all_eq_true]; intro x _; rfl
section
variable {K : PySem.W.Frag} {H : Hp} {Q : VK}
theorem v_inS {p : Addr} {a : Str} {ns : List Str} (hp : SqL K H p (ns.map V.str)) (h : Q (.bl (decide (a ∈ ns))) H) : rIn K false (.str a) (.ref p) H Q :=
  ⟨p, _, rfl, .inl hp, rfl, flat_strs ns, by rw [inV_str]; exact h⟩
theorem v_notInS {p : Addr} {a : Str} {ns : List Str} (hp : SqL K H p (ns.map V.str)) (h : Q (.bl (!decide (a ∈ ns))) H) : rIn K true (.str a) (.ref p) H Q :=
  ⟨p, _, rfl, .inl hp, rfl, flat_strs ns, by rw [inV_str]; exact h⟩
end
/-! ### drawers -/
theorem len_erase {α : Type} [DecidableEq α] {a : α} : ∀ {l : List α}, a ∈ l → (l.erase a).length + 1 = l.length := fun {l} h => by
  have := List.length_erase_of_mem h
  have := List.length_pos_of_mem h
  omega
/-- different things of a list are no more than the list is long -/
theorem nodup_le {α : Type} [DecidableEq α] : ∀ (zs ns : List α), zs.Nodup → (∀ z ∈ zs, z ∈ ns) → zs.length ≤ ns.length
  | [], _, _, _ => Nat.zero_le _
  | z :: zs, ns, hd, hs => by
    have hz := hs z (List.mem_cons_self ..)
    have hd' := List.nodup_cons.mp hd
    have ih := nodup_le zs (ns.erase z) hd'.2 fun y hy => (List.mem_erase_of_ne (fun (e : y = z) => hd'.1 (by rw [← e]; exact hy))).mpr (hs y (List.mem_cons_of_mem _ hy))
    have := len_erase hz
    rw [List.length_cons]
    omega
/-- the end of a law's row over a head by facts: CX by the world -/
theorem walk_ofX {l : PySem.W.OpenLaw} {n k : Nat} {q : Program} {loose : List Str} {XP : (Str → Option Value) → Heap → Prop} {YP : World → Heap → Prop} {d : DefRec} {x : Str}
    (hn : l.most = some n) (hn2 : n ≤ sizeLine) (hdf : d.params.defaults = []) (hr : Room k callerA)
    (F : ∀ (w : World) (mg : Str → Option Value) (fa : Addr) (h : Heap), YP w h → h.Ns mainGlobals mg → mg d.name = some (.ref fa) →
      ∃ (K : PySem.W.Frag) (fd : FuncData) (sp : Sp), K.In h ∧ (∀ (s : Shared) (u : Value), BindsTo s fd ⟨[u], []⟩ [(x, u)]) ∧
        (∀ (H : Hp) (a : Addr) (ns : List Int), ns.length ≤ n → Only H → SqL K H a (ns.map V.int) → sp [.ref a] H (fun v _ => v = .bl true) fun _ _ _ => False) ∧
        ∀ base : Heap, K.In base → base.Ns mainGlobals mg → FnOk l.prog w K mg base (L2.CX l.prog w) k fa fd [x] sp) :
    PySem.W.WalkO q loose XP YP l.row.toRowW d [] (fun f vs => PySem.call f vs) := by
  refine Att.attach_call hn hdf fun w s₀ s₁ mg mb fa o pm cd doc a vs ns G Y ho hd hcd hmg hobj hints hlen hg => ?_
  obtain ⟨K, fd, sp, KX, hb, hsp, hF⟩ := F w mg fa _ Y G.T.g hmg
  exact law_call KX G.T.g G.T.b G.T.builtins G.T.nolimit hg hobj hints (Nat.le_trans hlen hn2) hr hF hb (fun H hO hS => hsp H a ns hlen hO hS) fun H e s' h => by
    obtain ⟨_, _, _, _, _, _, _, _, _, _, _, _, z⟩ := h
    exact z.elim
theorem passD {P : Program} {w : World} {K : PySem.W.Frag} {mg : Str → Option Value} {base : Heap} {N : List Str} {qual : Str} {sc : Scope} {f : Addr} {cd : Value} {A : Around} {outer : List Env} {s : Shared} {H : Hp} {E : XK} :
    Passes (L2.CX P w) (cxOf (L2.CX P w) P w K mg base N qual sc f cd A outer s H E) E := passes_call (takes_of rfl rfl rfl rfl) fun _ _ _ _ h => h
end Rm

local macro_rules | `(tactic| walk_at "s") => `(tactic| first
  | with_reducible refine Rm.c_seq ?_
  | with_reducible refine Rm.c_asg ?_
  | ((with_reducible show L2.tVar _ _ _ _); refine Rm.c_var (by exact rfl) ?_)
  | with_reducible refine Rm.c_c ?_
  | with_reducible refine Rm.c_op ?_
  | with_reducible refine Rm.c_cons ?_
  | with_reducible refine Rm.c_nil ?_
  | ((with_reducible show L2.gName _ _ _ _ _); refine Rm.c_name (by (simp only [List.set_cons_zero, List.set_cons_succ]; exact rfl)) ?_)
  | with_reducible refine Rm.c_call ?_
  | with_reducible refine Rm.c_cb ?_
  | with_reducible refine Rm.c_test ?_
  | with_reducible refine Rm.c_tB ?_
  | with_reducible refine Rm.c_bl ?_
  | with_reducible refine L2.iteT ?_
  | with_reducible refine L2.iteF ?_
  | with_reducible refine Rm.ifNF ?_
  | with_reducible refine Rm.ifNT ?_
  | with_reducible refine Rm.c_and ?_
  | with_reducible refine Rm.c_or ?_
  | with_reducible refine Rm.c_not ?_
  | with_reducible refine Rm.c_andV ?_
  | with_reducible refine Rm.c_orV ?_
  | with_reducible refine Rm.c_notV ?_
  | with_reducible refine Rm.c_ret ?_
  | with_reducible refine Rm.c_retN ?_
  | with_reducible refine Rm.c_drop ?_
  | with_reducible refine Rm.c_next ?_
  | with_reducible refine Rm.c_break ?_
  | with_reducible refine Rm.c_cont ?_
  | with_reducible refine Rm.c_un ?_
  | with_reducible refine Rm.c_if ?_
  | with_reducible refine Rm.c_tup ?_
  | with_reducible refine Rm.c_lst ?_
  | with_reducible refine Rm.c_chain ?_
  | with_reducible refine Rm.c_for ?_
  | with_reducible refine Rm.c_rng1 ?_
  | with_reducible refine Rm.c_rng2 ?_
  | with_reducible refine Rm.c_iList ?_
  | with_reducible refine Rm.c_iTup ?_
  | with_reducible refine Rm.c_iStr ?_
  | with_reducible refine Rm.c_iEnum ?_
  | with_reducible refine Rm.c_lc ?_
  | with_reducible refine Rm.c_tYes ?_
  | with_reducible refine Rm.c_bm ?_
  | with_reducible refine Rm.c_bm0 ?_
  | with_reducible refine Rm.v_find ?_
  | with_reducible refine Rm.j_str ?_
  | with_reducible refine Rm.c_sl ?_
  | with_reducible refine Rm.c_noPart ?_
  | with_reducible refine Rm.c_part ?_
  | with_reducible refine Rm.j_int ?_
  | with_reducible refine Rm.v_addI ?_
  | with_reducible refine Rm.v_subI ?_
  | with_reducible refine Rm.v_ltI ?_
  | with_reducible refine Rm.v_leI ?_
  | with_reducible refine Rm.v_gtI ?_
  | with_reducible refine Rm.v_geI ?_
  | with_reducible refine Rm.v_eqI ?_
  | with_reducible refine Rm.v_neI ?_
  | with_reducible refine Rm.v_eqS ?_
  | with_reducible refine Rm.v_neS ?_
  | with_reducible refine Rm.v_eqB ?_
  | with_reducible refine Rm.v_negI ?_
  | with_reducible refine Rm.v_isN ?_
  | with_reducible refine Rm.v_notN ?_
  | with_reducible refine Rm.v_inC ?_
  | with_reducible refine Rm.v_notInC ?_
  | with_reducible refine Rm.v_intI ?_
  | with_reducible refine Rm.v_absI ?_
  | with_reducible refine Rm.v_max2 ?_
  | with_reducible refine Rm.v_min2 ?_
  | with_reducible refine Rm.c_gsub ?_
  | ((with_reducible show L2.rSetL (L2.V.ref _) (L2.V.int _) _ _ _); refine Rm.v_setL (by assumption) (by exact rfl) ?_)
  | ((with_reducible refine Rm.v_mulI ?c ?_); (case c => first | (exact Or.inr ⟨by decide, by decide⟩) | (exact Or.inl ⟨by decide, by decide⟩) | (right; omega) | (left; omega)))
  | ((with_reducible refine Rm.v_modI ?c ?_); (case c => first | decide | omega | assumption))
  | ((with_reducible refine Rm.v_divI ?c ?_); (case c => first | decide | omega | assumption))
  | ((with_reducible refine Rm.v_addS ?c ?_); (case c => walk_at "len"))
  | ((with_reducible refine Rm.v_lenS ?c ?_); (case c => walk_at "len"))
  | ((with_reducible show L2.rIxL _ (L2.V.ref _) (L2.V.int _) _ _); refine Rm.v_ixL (by walk_at "sq") (by exact rfl) ?_)
  | ((with_reducible show Rm.rLenQ _ [L2.V.ref _] _ _); refine Rm.v_lenL (by walk_at "sq") ?_)
  | ((with_reducible refine Rm.v_strI ?c ?_); (case c => first | decide | assumption)))
local macro_rules | `(tactic| walk_at "ss") => `(tactic| repeat walk_at "s")
local macro_rules | `(tactic| walk_at "len") => `(tactic| first | assumption | decide +kernel | (simp only [Rm.len_app, Rm.len_sgl, Rm.len_of] at *; omega) | omega)
local macro_rules | `(tactic| walk_at "sq") => `(tactic| first | assumption | exact Rm.sqL_of (by assumption) | exact Rm.seq_same (by assumption) (by assumption))
local macro_rules | `(tactic| walk_at "si") => `(tactic| ((with_reducible refine Rm.c_ifS ?_); walk_at "ss"))


namespace Rm
open PySem PySem.Spec L2
def sp_l_draw (K : PySem.W.Frag) : Sp := fun vs H Q _ => ∃ F pp n, vs = [.ref pp, .int n] ∧ 0 < n ∧ n < 1073741824 ∧ Pl K F H pp ∧
  ∀ r H', 0 ≤ r → r < n → Pl K F H' pp → Gw pp H H' → Q (.int r) H'
theorem len_l_draw {K : PySem.W.Frag} : ∀ vs H Q E, sp_l_draw K vs H Q E → vs.length = 2 := by
  rintro vs H Q E ⟨F, pp, n, rfl, _⟩; rfl
abbrev N_l_draw : List Str := [(Str.ofString "_law_pool_here"), (Str.ofString "_law_many"), (Str.ofString "_law_found"), (Str.ofString "_law_cells"), (Str.ofString "_law_near"), (Str.ofString "_law_head"), (Str.ofString "_law_mixed")]
theorem st_l_draw (v0 v1 : V) : start N_l_draw [v0, v1] = [some v0, some v1, none, none, none, none, none] := rfl
def t_l_draw (K : PySem.W.Frag) (E : XK) : TS := (tSeq (tIfS (tTest (tOp rGtI (tOp (rIxL K) (tVar 0) (tC (.int 0))) (tC (.int 1)))) (tSeq (tAsg (tOp rModI (tCB rIntI (tCons (tOp (rIxL K) (tVar 0) (tC (.int 0))) tNil)) (tVar 1)) (gName 2))
  (tSeq (tAsg (tOp rDivI (tOp (rIxL K) (tVar 0) (tC (.int 0))) (tVar 1)) (gSub (tVar 0) (tC (.int 0)) rSetL))
  (tRet (tVar 2)))) tNext)
  (tSeq (tAsg (tOp rAddI (tOp (rIxL K) (tVar 0) (tC (.int 1))) (tC (.int 1))) (gSub (tVar 0) (tC (.int 1)) rSetL))
  (tSeq (tAsg (tOp (rIxL K) (tVar 0) (tC (.int 2))) (gName 3))
  (tSeq (tAsg (tC (.int 0)) (gName 4))
  (tSeq (tAsg (tC (.int 0)) (gName 5))
  (tSeq (tIfS (tTest (tOp rGtI (tCB (rLenQ K) (tCons (tVar 3) tNil)) (tC (.int 0)))) (tSeq (tAsg (tOp (rIxL K) (tVar 3) (tOp rModI (tCB rIntI (tCons (tOp (rIxL K) (tVar 0) (tC (.int 1))) tNil)) (tCB (rLenQ K) (tCons (tVar 3) tNil)))) (gName 4))
  (tAsg (tOp (rIxL K) (tVar 3) (tC (.int 0))) (gName 5))) tNext)
  (tSeq (tAsg (tOp rModI (tCB rIntI (tCons (tOp rAddI (tOp rAddI (tOp rAddI (tOp rMulI (tVar 4) (tC (.int 48271))) (tOp rMulI (tVar 5) (tC (.int 16807)))) (tOp rMulI (tOp (rIxL K) (tVar 0) (tC (.int 1))) (tC (.int 69621)))) (tC (.int 7))) tNil)) (tC (.int 2147483647))) (gName 6))
  (tSeq (tAsg (tOp rModI (tCB rIntI (tCons (tOp rAddI (tOp rAddI (tOp rMulI (tVar 6) (tVar 6)) (tOp rMulI (tVar 6) (tC (.int 40692)))) (tOp rMulI (tOp (rIxL K) (tVar 0) (tC (.int 1))) (tC (.int 7919)))) tNil)) (tC (.int 1000000007))) (gName 6))
  (tRet (tOp rModI (tCB rIntI (tCons (tOp rDivI (tVar 6) (tC (.int 11))) tNil)) (tVar 1)))))))))))
theorem rd_l_draw {K : PySem.W.Frag} {vs : List V} {H : Hp} {Q : VK} {E : XK} (h : sp_l_draw K vs H Q E) : t_l_draw K E { nx := fun _ H' => Q .non H', rt := Q } (start N_l_draw vs) H := by
  obtain ⟨F, pp, n, rfl, h0, hn, P, k⟩ := h
  obtain ⟨ex, fr, m, c, ca, ns, hp, hc⟩ := id P
  unfold t_l_draw
  rw [st_l_draw]
  walk_at "ss"
  walk_at "si"
  refine ifd (fun h1 => ?_) (fun h1 => ?_)
  · walk_at "ss"
    have hr := Int.emod_nonneg m (show n ≠ 0 by omega)
    have hr2 := Int.emod_lt_of_pos m h0
    exact k _ _ hr hr2 (P.put hc) gw_put
  · walk_at "ss"
    have P1 : Pl K F (upd H pp (HO.lst [V.int m, V.int (c + 1), V.ref ca])) pp := P.put hc
    have hp1 : upd H pp (HO.lst [V.int m, V.int (c + 1), V.ref ca]) pp = some (HO.lst [V.int m, V.int (c + 1), V.ref ca]) := upd_same
    have g1 : Gw pp H (upd H pp (HO.lst [V.int m, V.int (c + 1), V.ref ca])) := gw_put
    have eX : (upd H pp (HO.lst ([V.int m, V.int c, V.ref ca].set (Int.toNat 1) (V.int (c + 1))))) = upd H pp (HO.lst [V.int m, V.int (c + 1), V.ref ca]) := rfl
    rw [eX]
    generalize upd H pp (HO.lst [V.int m, V.int (c + 1), V.ref ca]) = H1 at P1 hp1 g1
    have ex1 := P1.ex
    walk_at "ss"
    refine c_join (fun σ' H' => ∃ a b : Int, σ' = [some (.ref pp), some (.int n), none, some (.ref ca), some (.int a), some (.int b), none] ∧ H' = H1) (fun nx' hn => ?_) ?_
    · walk_at "si"
      refine ifd (fun h2 => ?_) (fun h2 => ?_)
      · walk_at "ss"
        have l0 : 0 < ns.length := by rw [List.length_map] at h2; omega
        have b1 := Int.emod_nonneg (c + 1) (show ((ns.length : Nat) : Int) ≠ 0 by omega)
        have b2 := Int.emod_lt_of_pos (c + 1) (show 0 < ((ns.length : Nat) : Int) by omega)
        rw [List.length_map]
        refine v_ixL (seq_same ex1 hc) (ixI_map (n := ((c + 1) % ((ns.length : Nat) : Int)).toNat) (by omega) (by omega)) ?_
        walk_at "ss"
        refine v_ixL (seq_same ex1 hc) (ixI_map (n := 0) (by omega) (by omega)) ?_
        walk_at "ss"
        exact hn _ _ ⟨_, _, rfl, rfl⟩
      · walk_at "ss"
        exact hn _ _ ⟨_, _, rfl, rfl⟩
    · rintro σ' H' ⟨a, b, rfl, rfl⟩
      walk_at "ss"
      refine k _ _ ?_ ?_ P1 g1
      · exact Int.emod_nonneg _ (by omega)
      · exact Int.emod_lt_of_pos _ h0

theorem cl_draw {K : PySem.W.Frag} {F H : Hp} {pp : Addr} {n : Int} {Q : VK} {E : XK} (P : Pl K F H pp) (h0 : 0 < n) (hn : n < 1073741824)
    (k : ∀ r H', 0 ≤ r → r < n → Pl K F H' pp → Gw pp H H' → Q (.int r) H') : sp_l_draw K ([.ref pp, .int n] ++ []) H Q E := ⟨F, pp, n, rfl, h0, hn, P, k⟩
/-! ### signs -/
def isL (c : Nat) : Bool := decide (97 ≤ c) && decide (c ≤ 122)
def isLD (c : Nat) : Bool := (decide (97 ≤ c) && decide (c ≤ 122)) || (decide (48 ≤ c) && decide (c ≤ 57))
def alnum (w : Str) : Bool := (tl w).all isLD
/-- is_name -/
def nameB (z : Str) : Bool := (decide (1 ≤ z.length) && decide (z.length ≤ 8)) && ((tl z).head?.any isL && (tl z).all isLD)
theorem alnum_app {a b : Str} (ha : alnum a = true) (hb : alnum b = true) : alnum (a ++ b) = true := by
  unfold alnum at *
  rw [tl_app, List.all_append, ha, hb]; rfl
theorem alnum_sgl {c : Nat} (h : isLD c = true) : alnum ⟨#[c]⟩ = true := by
  unfold alnum; rw [tl_sgl]; simp [h]
theorem ix_all {z : Str} {p : Nat → Bool} {r : Int} {n : Nat} (ha : (tl z).all p = true) (hn : z.length = n) (h0 : 0 ≤ r) (h1 : r < (n : Int)) : ∃ c, atI (tl z) r = some c ∧ p c = true := by
  have e : r = ((r.toNat : Nat) : Int) := by omega
  have hl : r.toNat < (tl z).length := by rw [← len_tl, hn]; omega
  obtain ⟨k, hk⟩ : ∃ k : Nat, r = (k : Int) := ⟨_, e⟩
  subst hk
  rw [Int.toNat_natCast] at hl
  exact ⟨(tl z)[k], atI_nat (by simp [hl]), List.all_eq_true.mp ha _ (List.getElem_mem _)⟩
abbrev zAl : Str := Str.ofString "abcdefghijklmnopqrstuvwxyz0123456789"
abbrev zLe : Str := Str.ofString "abcdefghijklmnopqrstuvwxyz"
abbrev zDi : Str := Str.ofString "0123456789"
theorem zAl_len : zAl.length = 36 := by decide +kernel
theorem zLe_len : zLe.length = 26 := by decide +kernel
theorem zAl_all : (tl zAl).all isLD = true := by decide +kernel
theorem zLe_all : (tl zLe).all isL = true := by decide +kernel
theorem isLD_of {c : Nat} (h : isL c = true) : isLD c = true := by unfold isL at h; unfold isLD; rw [h]; rfl

def sp_l_word (K : PySem.W.Frag) : Sp := fun vs H Q _ => ∃ F pp n, vs = [.ref pp, .int n] ∧ 0 ≤ n ∧ n ≤ 100 ∧ Pl K F H pp ∧
  ∀ w H', w.length = n.toNat → alnum w = true → Pl K F H' pp → Gw pp H H' → Q (.str w) H'
theorem len_l_word {K : PySem.W.Frag} : ∀ vs H Q E, sp_l_word K vs H Q E → vs.length = 2 := by
  rintro vs H Q E ⟨F, pp, n, rfl, _⟩; rfl
theorem cl_word {K : PySem.W.Frag} {F H : Hp} {pp : Addr} {n : Int} {Q : VK} {E : XK} (P : Pl K F H pp) (h0 : 0 ≤ n) (hn : n ≤ 100)
    (k : ∀ w H', w.length = n.toNat → alnum w = true → Pl K F H' pp → Gw pp H H' → Q (.str w) H') : sp_l_word K ([.ref pp, .int n] ++ []) H Q E := ⟨F, pp, n, rfl, h0, hn, P, k⟩
abbrev N_l_word : List Str := [(Str.ofString "_law_pool_here"), (Str.ofString "_law_size"), (Str.ofString "_law_signs"), (Str.ofString "_law_word_here"), (Str.ofString "_law_k")]
theorem st_l_word (v0 v1 : V) : start N_l_word [v0, v1] = [some v0, some v1, none, none, none] := rfl
def t_l_word (K : PySem.W.Frag) (E : XK) : TS := (tSeq (tAsg (tC (.str (Str.ofString "abcdefghijklmnopqrstuvwxyz0123456789"))) (gName 2))
  (tSeq (tAsg (tC (.str (Str.ofString ""))) (gName 3))
  (tSeq (tFor (iRng1 (tCons (tVar 1) tNil)) (gName 4) (tAsg (tOp rAddS (tVar 3) (tOp rIxS (tVar 2) (tCall (sp_l_draw K) [] E (tCons (tVar 0) (tCons (tC (.int 36)) tNil))))) (gName 3)))
  (tRet (tVar 3)))))
theorem rd_l_word {K : PySem.W.Frag} {vs : List V} {H : Hp} {Q : VK} {E : XK} (h : sp_l_word K vs H Q E) : t_l_word K E { nx := fun _ H' => Q .non H', rt := Q } (start N_l_word vs) H := by
  obtain ⟨F, pp, n, rfl, h0, hn, P, k⟩ := h
  unfold t_l_word
  rw [st_l_word]
  walk_at "ss"
  refine j_rng (by omega) (by omega) ?_
  refine for_w wlk_rng (fun i σ H1 => ∃ (w : Str) (x : Option V), σ = [some (.ref pp), some (.int n), some (.str zAl), some (.str w), x] ∧ w.length = i ∧ alnum w = true ∧ Pl K F H1 pp ∧ Gw pp H H1)
    ⟨_, _, rfl, rfl, rfl, P, Gw.refl _⟩ (fun _ _ _ _ => trivial) ?_ ?_
  · rintro i x σ H1 H2 hi ⟨w, y, rfl, hw, ha, P1, g1⟩ ⟨rfl, rfl⟩
    walk_at "ss"
    refine cl_draw P1 (by decide) (by decide) fun r H2 r0 r1 P2 g2 => ?_
    obtain ⟨c, hc, hp⟩ := ix_all zAl_all zAl_len r0 r1
    refine v_ixS (by decide +kernel) hc ?_
    walk_at "ss"
    refine v_addS (by rw [len_sgl, sizeLine_eq]; omega) ?_
    walk_at "ss"
    exact ⟨_, _, rfl, by rw [len_app, len_sgl, hw], alnum_app ha (alnum_sgl hp), P2, g1.trans g2⟩
  · rintro σ H1 ⟨w, y, rfl, hw, ha, P1, g1⟩
    walk_at "ss"
    exact k _ _ hw ha P1 g1

/-! ### names -/
/-- "z" and a number -/
def zn (j : Nat) : Str := Str.ofString "z" ++ Str.ofString (toString (j : Int))
theorem zn_names : ∀ j, j < 13 → nameB (zn j) = true := by decide +kernel
theorem zn_len : ∀ j, j < 13 → (zn j).length ≤ 3 := by decide +kernel
theorem zn_nd : ((List.range 13).map zn).Nodup := by decide +kernel
theorem nameB_len {z : Str} (h : nameB z = true) : 1 ≤ z.length ∧ z.length ≤ 8 := by
  unfold nameB at h
  simp only [Bool.and_eq_true, decide_eq_true_eq] at h
  exact h.1
theorem nameB_app {c : Nat} {w : Str} (hc : isL c = true) (hw : w.length ≤ 7) (ha : alnum w = true) : nameB (⟨#[c]⟩ ++ w) = true := by
  unfold nameB
  rw [len_app, len_sgl, tl_app, tl_sgl]
  unfold alnum at ha
  have h1 : (decide (1 ≤ 1 + w.length) && decide (1 + w.length ≤ 8)) = true := by simp; omega
  rw [h1]
  simp [hc, ha, isLD_of hc]
theorem app_assoc (a b c : Str) : (a ++ b) ++ c = a ++ (b ++ c) := str_ext (by rw [tl_app, tl_app, tl_app, tl_app, List.append_assoc])

def sp_l_names (K : PySem.W.Frag) : Sp := fun vs H Q _ => ∃ F pp n, vs = [.ref pp, .int n] ∧ 0 ≤ n ∧ n ≤ 13 ∧ Pl K F H pp ∧
  ∀ (ns : List Str) p H', ns.length = n.toNat → ns.Nodup → (∀ x ∈ ns, nameB x = true) → H p = none → H' p = some (.lst (ns.map V.str)) → Pl K F H' pp → Gw pp H H' → Q (.ref p) H'
theorem len_l_names {K : PySem.W.Frag} : ∀ vs H Q E, sp_l_names K vs H Q E → vs.length = 2 := by
  rintro vs H Q E ⟨F, pp, n, rfl, _⟩; rfl
abbrev N_l_names : List Str := [(Str.ofString "_law_pool_here"), (Str.ofString "_law_many"), (Str.ofString "_law_letters"), (Str.ofString "_law_signs"), (Str.ofString "_law_way"), (Str.ofString "_law_front"), (Str.ofString "_law_back"), (Str.ofString "_law_first"), (Str.ofString "_law_names_here"), (Str.ofString "_law_k"), (Str.ofString "_law_name"), (Str.ofString "_law_j")]
theorem st_l_names (v0 v1 : V) : start N_l_names [v0, v1] = [some v0, some v1, none, none, none, none, none, none, none, none, none, none] := rfl
def t_l_names (K : PySem.W.Frag) (E : XK) : TS := (tSeq (tAsg (tC (.str (Str.ofString "abcdefghijklmnopqrstuvwxyz"))) (gName 2))
  (tSeq (tAsg (tC (.str (Str.ofString "abcdefghijklmnopqrstuvwxyz0123456789"))) (gName 3))
  (tSeq (tAsg (tCall (sp_l_draw K) [] E (tCons (tVar 0) (tCons (tC (.int 3)) tNil))) (gName 4))
  (tSeq (tAsg (tOp rAddS (tOp rIxS (tVar 2) (tCall (sp_l_draw K) [] E (tCons (tVar 0) (tCons (tC (.int 26)) tNil)))) (tCall (sp_l_word K) [] E (tCons (tVar 0) (tCons (tCall (sp_l_draw K) [] E (tCons (tVar 0) (tCons (tC (.int 4)) tNil))) tNil)))) (gName 5))
  (tSeq (tAsg (tCall (sp_l_word K) [] E (tCons (tVar 0) (tCons (tCall (sp_l_draw K) [] E (tCons (tVar 0) (tCons (tC (.int 4)) tNil))) tNil))) (gName 6))
  (tSeq (tAsg (tCall (sp_l_draw K) [] E (tCons (tVar 0) (tCons (tC (.int 36)) tNil))) (gName 7))
  (tSeq (tAsg (tLst tNil) (gName 8))
  (tSeq (tFor (iRng1 (tCons (tVar 1) tNil)) (gName 9) (tSeq (tAsg (tOp rAddS (tOp rAddS (tVar 5) (tOp rIxS (tVar 3) (tOp rModI (tCB rIntI (tCons (tOp rAddI (tVar 7) (tOp rMulI (tC (.int 5)) (tVar 9))) tNil)) (tC (.int 36))))) (tVar 6)) (gName 10))
  (tSeq (tIfS (tTest (tOp rEq (tVar 4) (tC (.int 1)))) (tAsg (tOp rAddS (tOp rIxS (tVar 2) (tOp rModI (tCB rIntI (tCons (tOp rAddI (tVar 7) (tOp rMulI (tC (.int 5)) (tVar 9))) tNil)) (tC (.int 26)))) (tCall (sp_l_word K) [] E (tCons (tVar 0) (tCons (tCall (sp_l_draw K) [] E (tCons (tVar 0) (tCons (tC (.int 8)) tNil))) tNil)))) (gName 10)) tNext)
  (tSeq (tIfS (tTest (tOp rEq (tVar 4) (tC (.int 2)))) (tAsg (tOp rAddS (tOp rIxS (tVar 2) (tCall (sp_l_draw K) [] E (tCons (tVar 0) (tCons (tC (.int 26)) tNil)))) (tCall (sp_l_word K) [] E (tCons (tVar 0) (tCons (tCall (sp_l_draw K) [] E (tCons (tVar 0) (tCons (tC (.int 8)) tNil))) tNil)))) (gName 10)) tNext)
  (tSeq (tFor (iRng1 (tCons (tC (.int 13)) tNil)) (gName 11) (tIfS (tAnd (tTest (tOp (rIn K false) (tVar 10) (tVar 8))) (tTest (tOp (rIn K true) (tOp rAddS (tC (.str (Str.ofString "z"))) (tCB rStrI (tCons (tVar 11) tNil))) (tVar 8)))) (tAsg (tOp rAddS (tC (.str (Str.ofString "z"))) (tCB rStrI (tCons (tVar 11) tNil))) (gName 10)) tNext))
  (tDrop (tBM K "list" rAppend (tVar 8) (tCons (tVar 10) tNil))))))))
  (tRet (tVar 8))))))))))
theorem rd_l_names {K : PySem.W.Frag} {vs : List V} {H : Hp} {Q : VK} {E : XK} (h : sp_l_names K vs H Q E) : t_l_names K E { nx := fun _ H' => Q .non H', rt := Q } (start N_l_names vs) H := by
  obtain ⟨F, pp, n, rfl, h0, hn, P, k⟩ := h
  unfold t_l_names
  rw [st_l_names]
  walk_at "ss"
  refine cl_draw P (by decide) (by decide) fun way H1 _ _ P1 g1 => ?_
  walk_at "ss"
  refine cl_draw P1 (by decide) (by decide) fun r H2 r0 r1 P2 g2 => ?_
  obtain ⟨c0, hc0, hp0⟩ := ix_all zLe_all zLe_len r0 r1
  refine v_ixS (by decide +kernel) hc0 ?_
  walk_at "ss"
  refine cl_draw P2 (by decide) (by decide) fun r2 H3 r20 r21 P3 g3 => ?_
  walk_at "ss"
  refine cl_word P3 r20 (by omega) fun w1 H4 l1 a1 P4 g4 => ?_
  walk_at "ss"
  refine v_addS (by rw [len_sgl, l1, sizeLine_eq]; omega) ?_
  walk_at "ss"
  refine cl_draw P4 (by decide) (by decide) fun r3 H5 r30 r31 P5 g5 => ?_
  walk_at "ss"
  refine cl_word P5 r30 (by omega) fun w2 H6 l2 a2 P6 g6 => ?_
  walk_at "ss"
  refine cl_draw P6 (by decide) (by decide) fun fi H7 fi0 fi1 P7 g7 => ?_
  walk_at "ss"
  refine ⟨Nat.zero_le _, fun p np => ?_⟩
  obtain ⟨npp, nf⟩ := P7.off np
  have G7 : Gw pp H H7 := ((((((g1.trans g2).trans g3).trans g4).trans g5).trans g6).trans g7)
  have np0 : H p = none := by
    cases q : H p with
    | none => rfl
    | some o => rw [G7 p o npp q] at np; cases np
  walk_at "ss"
  refine j_rng (by omega) (by omega) ?_
  refine for_w wlk_rng (fun i σ H' => ∃ (ns : List Str) (x9 x10 x11 : Option V), σ = [some (.ref pp), some (.int n), some (.str zLe), some (.str zAl), some (.int way), some (.str (⟨#[c0]⟩ ++ w1)), some (.str w2), some (.int fi), some (.ref p), x9, x10, x11] ∧
    ns.length = i ∧ ns.Nodup ∧ (∀ x ∈ ns, nameB x = true) ∧ H' p = some (.lst (ns.map V.str)) ∧ Pl K F H' pp ∧ Gw pp H7 H')
    ⟨[], _, _, _, rfl, rfl, List.nodup_nil, fun _ h => (nomatch h), upd_same, P7.mut npp nf, gw_mut (Gw.refl _) np⟩ (fun _ _ _ _ => trivial) ?_ ?_
  · rintro i x σ H8 H9 hi ⟨ns, x9, x10, x11, rfl, hl, nd, hv, hp, P8, g8⟩ ⟨rfl, rfl⟩
    have e0 : (0 : Int) + (i : Nat) = (i : Nat) := by omega
    walk_at "ss"
    have b1 := Int.emod_nonneg (fi + 5 * (0 + (i : Int))) (show (36 : Int) ≠ 0 by decide)
    have b2 := Int.emod_lt_of_pos (fi + 5 * (0 + (i : Int))) (show (0 : Int) < 36 by decide)
    obtain ⟨c1, hc1, hp1⟩ := ix_all zAl_all zAl_len b1 b2
    refine v_ixS (by decide +kernel) hc1 ?_
    refine v_addS (by rw [len_app, len_sgl, len_sgl, l1, sizeLine_eq]; omega) ?_
    walk_at "ss"
    refine v_addS (by rw [len_app, len_app, len_sgl, len_sgl, l1, l2, sizeLine_eq]; omega) ?_
    walk_at "ss"
    have n0 : nameB (⟨#[c0]⟩ ++ w1 ++ ⟨#[c1]⟩ ++ w2) = true := by
      rw [app_assoc, app_assoc]
      exact nameB_app hp0 (by rw [len_app, len_app, len_sgl, l1, l2]; omega) (alnum_app a1 (alnum_app (alnum_sgl hp1) a2))
    refine c_join (fun σ' H' => ∃ nm, σ' = [some (.ref pp), some (.int n), some (.str zLe), some (.str zAl), some (.int way), some (.str (⟨#[c0]⟩ ++ w1)), some (.str w2), some (.int fi), some (.ref p), some (.int (0 + (i : Int))), some (.str nm), x11] ∧
      nameB nm = true ∧ H' p = some (.lst (ns.map V.str)) ∧ Pl K F H' pp ∧ Gw pp H7 H') (fun nx' hn => ?_) ?_
    · walk_at "si"
      refine ifd (fun _ => ?_) (fun _ => ?_)
      · walk_at "ss"
        have b3 := Int.emod_nonneg (fi + 5 * (0 + (i : Int))) (show (26 : Int) ≠ 0 by decide)
        have b4 := Int.emod_lt_of_pos (fi + 5 * (0 + (i : Int))) (show (0 : Int) < 26 by decide)
        obtain ⟨c2, hc2, hp2⟩ := ix_all zLe_all zLe_len b3 b4
        refine v_ixS (by decide +kernel) hc2 ?_
        walk_at "ss"
        refine cl_draw P8 (by decide) (by decide) fun r4 H10 r40 r41 P10 g10 => ?_
        walk_at "ss"
        refine cl_word P10 r40 (by omega) fun w3 H11 l3 a3 P11 g11 => ?_
        walk_at "ss"
        refine v_addS (by rw [len_sgl, l3, sizeLine_eq]; omega) ?_
        walk_at "ss"
        exact hn _ _ ⟨_, rfl, nameB_app hp2 (by omega) a3, g11 _ _ npp (g10 _ _ npp hp), P11, (g8.trans g10).trans g11⟩
      · walk_at "ss"
        exact hn _ _ ⟨_, rfl, n0, hp, P8, g8⟩
    rintro σ' H10 ⟨nm, rfl, n1, hp, P8, g8⟩
    walk_at "ss"
    refine c_join (fun σ' H' => ∃ nm, σ' = [some (.ref pp), some (.int n), some (.str zLe), some (.str zAl), some (.int way), some (.str (⟨#[c0]⟩ ++ w1)), some (.str w2), some (.int fi), some (.ref p), some (.int (0 + (i : Int))), some (.str nm), x11] ∧
      nameB nm = true ∧ H' p = some (.lst (ns.map V.str)) ∧ Pl K F H' pp ∧ Gw pp H7 H') (fun nx' hn => ?_) ?_
    · walk_at "si"
      refine ifd (fun _ => ?_) (fun _ => ?_)
      · walk_at "ss"
        refine cl_draw P8 (by decide) (by decide) fun r3 H11 r30 r31 P11 g11 => ?_
        obtain ⟨c2, hc2, hp2⟩ := ix_all zLe_all zLe_len r30 r31
        refine v_ixS (by decide +kernel) hc2 ?_
        walk_at "ss"
        refine cl_draw P11 (by decide) (by decide) fun r4 H12 r40 r41 P12 g12 => ?_
        walk_at "ss"
        refine cl_word P12 r40 (by omega) fun w3 H13 l3 a3 P13 g13 => ?_
        walk_at "ss"
        refine v_addS (by rw [len_sgl, l3, sizeLine_eq]; omega) ?_
        walk_at "ss"
        exact hn _ _ ⟨_, rfl, nameB_app hp2 (by omega) a3, g13 _ _ npp (g12 _ _ npp (g11 _ _ npp hp)), P13, ((g8.trans g11).trans g12).trans g13⟩
      · walk_at "ss"
        exact hn _ _ ⟨_, rfl, n1, hp, P8, g8⟩
    rintro σ' H11 ⟨nm, rfl, n1, hp, P8, g8⟩
    walk_at "ss"
    -- for j in range(13): a name that is there gives way to z0, z1, ..
    refine j_rng (by decide) (by decide) ?_
    refine for_w wlk_rng (fun j σ H' => H' = H11 ∧ ∃ (nm : Str) (y : Option V), σ = [some (.ref pp), some (.int n), some (.str zLe), some (.str zAl), some (.int way), some (.str (⟨#[c0]⟩ ++ w1)), some (.str w2), some (.int fi), some (.ref p), some (.int (0 + (i : Int))), some (.str nm), y] ∧
      nameB nm = true ∧ (nm ∈ ns → ∀ t, t < j → zn t ∈ ns))
      ⟨rfl, nm, _, rfl, n1, fun _ t h => absurd h (Nat.not_lt_zero t)⟩ (fun _ _ _ _ => trivial) ?_ ?_
    · rintro j x σ H12 H13 hj ⟨rfl, nm, y, rfl, n1, hz⟩ ⟨rfl, rfl⟩
      have hj13 : j < 13 := hj
      walk_at "ss"
      walk_at "si"
      refine v_inS (sqL_of hp) ?_
      walk_at "ss"
      have e1 : (0 : Int) + (j : Nat) = (j : Nat) := by omega
      have hs : ((0 : Int) + (j : Nat)).natAbs.log2 < 1920 := by
        rw [e1, Int.natAbs_natCast]
        have : j.log2 ≤ j := Nat.log2_le_self j
        omega
      have hz1 := zn_len j hj13
      have ez : (Str.ofString "z" ++ Str.ofString (toString ((0 : Int) + (j : Nat)))) = zn j := by rw [e1]; rfl
      refine ifd (fun h1 => ?_) (fun h1 => ?_)
      · walk_at "ss"
        refine v_addS (by rw [← len_app, ez, sizeLine_eq]; omega) ?_
        rw [ez]
        walk_at "ss"
        refine v_notInS (sqL_of hp) ?_
        walk_at "ss"
        refine ifn (fun h2 => ?_) (fun h2 => ?_)
        · walk_at "ss"
          refine v_addS (by rw [← len_app, ez, sizeLine_eq]; omega) ?_
          rw [ez]
          walk_at "ss"
          exact ⟨rfl, _, _, rfl, zn_names j hj13, fun h => absurd h h2⟩
        · walk_at "ss"
          exact ⟨rfl, _, _, rfl, n1, fun _ t ht => (Nat.lt_succ_iff_lt_or_eq.mp ht).elim (hz h1 t) fun e => by rw [e]; exact h2⟩
      · walk_at "ss"
        exact ⟨rfl, _, _, rfl, n1, fun h => absurd h h1⟩
    · rintro σ H12 ⟨rfl, nm, y, rfl, n1, hz⟩
      have hnm : nm ∉ ns := fun h => by
        have hle := nodup_le _ ns zn_nd (fun z hz' => by
          obtain ⟨t, ht, rfl⟩ := List.mem_map.mp hz'
          exact hz h t (List.mem_range.mp ht))
        rw [List.length_map, List.length_range] at hle
        omega
      walk_at "ss"
      refine ⟨ty_list (sqL_of hp), ?_⟩
      walk_at "ss"
      refine v_append hp (by rw [List.length_map, sizeLine_eq]; omega) ?_
      refine ⟨ns ++ [nm], _, _, _, rfl, by rw [List.length_append, hl]; rfl, ?_, ?_, ?_, P8.mut npp nf, gw_mut g8 np⟩
      · exact List.nodup_append.mpr ⟨nd, by simp, fun a ha b hb => by simp at hb; subst hb; exact fun e => hnm (e ▸ ha)⟩
      · intro x hx
        rcases List.mem_append.mp hx with hx | hx
        · exact hv x hx
        · simp at hx; subst hx; exact n1
      · rw [upd_same, List.map_append]; rfl
  · rintro σ H8 ⟨ns, x9, x10, x11, rfl, hl, nd, hv, hp, P8, g8⟩
    walk_at "ss"
    exact k ns p H8 hl nd hv np0 hp P8 (G7.trans g8)
theorem cl_names {K : PySem.W.Frag} {F H : Hp} {pp : Addr} {n : Int} {Q : VK} {E : XK} (P : Pl K F H pp) (h0 : 0 ≤ n) (hn : n ≤ 13)
    (k : ∀ (ns : List Str) p H', ns.length = n.toNat → ns.Nodup → (∀ x ∈ ns, nameB x = true) → H p = none → H' p = some (.lst (ns.map V.str)) → Pl K F H' pp → Gw pp H H' → Q (.ref p) H') : sp_l_names K ([.ref pp, .int n] ++ []) H Q E := ⟨F, pp, n, rfl, h0, hn, P, k⟩

/-! ### one sign, a text -/
def isPr (c : Nat) : Bool := (decide (32 ≤ c) && decide (c ≤ 126)) && !(decide (c = 37))
abbrev zSi : Str := Str.ofString " !\"#$&'()*+,-./0123456789:;<=>?@ABCDEFGHIJKLMNOPQRSTUVWXYZ[\\]^_`" ++ Str.ofString "abcdefghijklmnopqrstuvwxyz{|}~"
theorem zSi_len : zSi.length = 94 := by decide +kernel
theorem zSi_all : (tl zSi).all isPr = true := by decide +kernel
theorem isLD_pr {c : Nat} (h : isLD c = true) : isPr c = true := by
  unfold isLD at h
  unfold isPr
  simp only [Bool.or_eq_true, Bool.and_eq_true, decide_eq_true_eq, Bool.not_eq_true', decide_eq_false_iff_not] at h ⊢
  omega
def sp_l_sign (K : PySem.W.Frag) : Sp := fun vs H Q _ => ∃ F pp, vs = [.ref pp] ∧ Pl K F H pp ∧ ∀ c H', isPr c = true → Pl K F H' pp → Gw pp H H' → Q (.str ⟨#[c]⟩) H'
theorem len_l_sign {K : PySem.W.Frag} : ∀ vs H Q E, sp_l_sign K vs H Q E → vs.length = 1 := by
  rintro vs H Q E ⟨F, pp, rfl, _⟩; rfl
theorem cl_sign {K : PySem.W.Frag} {F H : Hp} {pp : Addr} {Q : VK} {E : XK} (P : Pl K F H pp) (k : ∀ c H', isPr c = true → Pl K F H' pp → Gw pp H H' → Q (.str ⟨#[c]⟩) H') : sp_l_sign K ([.ref pp] ++ []) H Q E := ⟨F, pp, rfl, P, k⟩
abbrev N_l_sign : List Str := [(Str.ofString "_law_pool_here"), (Str.ofString "_law_signs")]
theorem st_l_sign (v0 : V) : start N_l_sign [v0] = [some v0, none] := rfl
def t_l_sign (K : PySem.W.Frag) (E : XK) : TS := (tSeq (tAsg (tC (.str (Str.ofString " !\"#$&'()*+,-./0123456789:;<=>?@ABCDEFGHIJKLMNOPQRSTUVWXYZ[\\]^_`"))) (gName 1))
  (tSeq (tAsg (tOp rAddS (tVar 1) (tC (.str (Str.ofString "abcdefghijklmnopqrstuvwxyz{|}~")))) (gName 1))
  (tRet (tOp rIxS (tVar 1) (tCall (sp_l_draw K) [] E (tCons (tVar 0) (tCons (tC (.int 94)) tNil)))))))
theorem rd_l_sign {K : PySem.W.Frag} {vs : List V} {H : Hp} {Q : VK} {E : XK} (h : sp_l_sign K vs H Q E) : t_l_sign K E { nx := fun _ H' => Q .non H', rt := Q } (start N_l_sign vs) H := by
  obtain ⟨F, pp, rfl, P, k⟩ := h
  unfold t_l_sign
  rw [st_l_sign]
  walk_at "ss"
  refine cl_draw P (by decide) (by decide) fun r H1 r0 r1 P1 g1 => ?_
  obtain ⟨c, hc, hp⟩ := ix_all zSi_all zSi_len r0 r1
  refine v_ixS (by decide +kernel) hc ?_
  exact k _ _ hp P1 g1

def prAll (w : Str) : Bool := (tl w).all isPr
theorem prAll_app {a b : Str} (ha : prAll a = true) (hb : prAll b = true) : prAll (a ++ b) = true := by
  unfold prAll at *
  rw [tl_app, List.all_append, ha, hb]; rfl
theorem prAll_sgl {c : Nat} (h : isPr c = true) : prAll ⟨#[c]⟩ = true := by
  unfold prAll; rw [tl_sgl]; simp [h]
theorem prAll_of {w : Str} (h : alnum w = true) : prAll w = true := by
  unfold alnum at h; unfold prAll
  rw [List.all_eq_true] at *
  exact fun c hc => isLD_pr (h c hc)
def sp_l_text (K : PySem.W.Frag) : Sp := fun vs H Q _ => ∃ F pp n, vs = [.ref pp, .int n] ∧ Pl K F H pp ∧ ∀ w H', w.length ≤ 40 → prAll w = true → Pl K F H' pp → Gw pp H H' → Q (.str w) H'
theorem len_l_text {K : PySem.W.Frag} : ∀ vs H Q E, sp_l_text K vs H Q E → vs.length = 2 := by
  rintro vs H Q E ⟨F, pp, n, rfl, _⟩; rfl
theorem cl_text {K : PySem.W.Frag} {F H : Hp} {pp : Addr} {n : Int} {Q : VK} {E : XK} (P : Pl K F H pp) (k : ∀ w H', w.length ≤ 40 → prAll w = true → Pl K F H' pp → Gw pp H H' → Q (.str w) H') : sp_l_text K ([.ref pp, .int n] ++ []) H Q E := ⟨F, pp, n, rfl, P, k⟩
abbrev N_l_text : List Str := [(Str.ofString "_law_pool_here"), (Str.ofString "_law_way"), (Str.ofString "_law_size"), (Str.ofString "_law_text_here"), (Str.ofString "_law_k")]
theorem st_l_text (v0 v1 : V) : start N_l_text [v0, v1] = [some v0, some v1, none, none, none] := rfl
def t_l_text (K : PySem.W.Frag) (E : XK) : TS := (tSeq (tAsg (tCall (sp_l_draw K) [] E (tCons (tVar 0) (tCons (tC (.int 11)) tNil))) (gName 2))
  (tSeq (tIfS (tTest (tOp rEq (tCall (sp_l_draw K) [] E (tCons (tVar 0) (tCons (tC (.int 8)) tNil))) (tC (.int 1)))) (tAsg (tCall (sp_l_draw K) [] E (tCons (tVar 0) (tCons (tC (.int 41)) tNil))) (gName 2)) tNext)
  (tSeq (tIfS (tTest (tOp rEq (tVar 1) (tC (.int 1)))) (tRet (tCall (sp_l_word K) [] E (tCons (tVar 0) (tCons (tVar 2) tNil)))) tNext)
  (tSeq (tAsg (tC (.str (Str.ofString ""))) (gName 3))
  (tSeq (tFor (iRng1 (tCons (tVar 2) tNil)) (gName 4) (tAsg (tOp rAddS (tVar 3) (tCall (sp_l_sign K) [] E (tCons (tVar 0) tNil))) (gName 3)))
  (tRet (tVar 3)))))))
theorem rd_l_text {K : PySem.W.Frag} {vs : List V} {H : Hp} {Q : VK} {E : XK} (h : sp_l_text K vs H Q E) : t_l_text K E { nx := fun _ H' => Q .non H', rt := Q } (start N_l_text vs) H := by
  obtain ⟨F, pp, n, rfl, P, k⟩ := h
  unfold t_l_text
  rw [st_l_text]
  walk_at "ss"
  refine cl_draw P (by decide) (by decide) fun s H1 s0 s1 P1 g1 => ?_
  walk_at "ss"
  refine c_join (fun σ' H' => ∃ m : Int, σ' = [some (.ref pp), some (.int n), some (.int m), none, none] ∧ 0 ≤ m ∧ m ≤ 40 ∧ Pl K F H' pp ∧ Gw pp H H') (fun nx' hn => ?_) ?_
  · walk_at "si"
    refine cl_draw P1 (by decide) (by decide) fun r H2 r0 r1 P2 g2 => ?_
    walk_at "ss"
    refine ifd (fun _ => ?_) (fun _ => ?_)
    · walk_at "ss"
      refine cl_draw P2 (by decide) (by decide) fun s' H3 s0' s1' P3 g3 => ?_
      walk_at "ss"
      exact hn _ _ ⟨_, rfl, s0', by omega, P3, (g1.trans g2).trans g3⟩
    · walk_at "ss"
      exact hn _ _ ⟨_, rfl, s0, by omega, P2, g1.trans g2⟩
  rintro σ' H2 ⟨m, rfl, m0, m1, P2, g2⟩
  walk_at "ss"
  walk_at "si"
  refine ifd (fun _ => ?_) (fun _ => ?_)
  · walk_at "ss"
    refine cl_word P2 m0 (by omega) fun w H3 hl ha P3 g3 => ?_
    exact k _ _ (by omega) (prAll_of ha) P3 (g2.trans g3)
  · walk_at "ss"
    refine j_rng (by omega) (by omega) ?_
    refine for_w wlk_rng (fun i σ H1 => ∃ (w : Str) (x : Option V), σ = [some (.ref pp), some (.int n), some (.int m), some (.str w), x] ∧ w.length = i ∧ prAll w = true ∧ Pl K F H1 pp ∧ Gw pp H H1)
      ⟨_, _, rfl, rfl, rfl, P2, g2⟩ (fun _ _ _ _ => trivial) ?_ ?_
    · rintro i x σ H3 H4 hi ⟨w, y, rfl, hw, ha, P3, g3⟩ ⟨rfl, rfl⟩
      walk_at "ss"
      refine cl_sign P3 fun c H5 hc P5 g5 => ?_
      refine v_addS (by rw [len_sgl, sizeLine_eq]; omega) ?_
      walk_at "ss"
      exact ⟨_, _, rfl, by rw [len_app, len_sgl, hw], prAll_app ha (prAll_sgl hc), P5, g3.trans g5⟩
    · rintro σ H3 ⟨w, y, rfl, hw, ha, P3, g3⟩
      walk_at "ss"
      exact k _ _ (by omega) ha P3 g3

end Rm


namespace Rm
open PySem PySem.Spec L2
/-! ### is_name -/
theorem tl_zLe : tl zLe = [97, 98, 99, 100, 101, 102, 103, 104, 105, 106, 107, 108, 109, 110, 111, 112, 113, 114, 115, 116, 117, 118, 119, 120, 121, 122] := by decide +kernel
theorem tl_zDi : tl zDi = [48, 49, 50, 51, 52, 53, 54, 55, 56, 57] := by decide +kernel
theorem in_zLe (c : Nat) : decide (c ∈ zLe.cps.toList) = isL c := by
  have e : zLe.cps.toList = _ := tl_zLe
  rw [e]
  unfold isL
  rw [← Bool.decide_and]
  apply decide_eq_decide.mpr
  simp only [List.mem_cons, List.not_mem_nil, or_false]
  omega
theorem in_zDi (c : Nat) : decide (c ∈ zDi.cps.toList) = (decide (48 ≤ c) && decide (c ≤ 57)) := by
  have e : zDi.cps.toList = _ := tl_zDi
  rw [e, ← Bool.decide_and]
  apply decide_eq_decide.mpr
  simp only [List.mem_cons, List.not_mem_nil, or_false]
  omega
theorem isLD_or (c : Nat) : isLD c = (decide (c ∈ zLe.cps.toList) || decide (c ∈ zDi.cps.toList)) := by
  rw [in_zLe, in_zDi]; rfl
def sp_is_name (K : PySem.W.Frag) : Sp := fun vs H Q _ => ∃ z, vs = [.str z] ∧ z.length ≤ sizeLine ∧ Q (.bl (nameB z)) H
theorem len_is_name {K : PySem.W.Frag} : ∀ vs H Q E, sp_is_name K vs H Q E → vs.length = 1 := by
  rintro vs H Q E ⟨z, rfl, _⟩; rfl
theorem cl_is_name {K : PySem.W.Frag} {H : Hp} {z : Str} {Q : VK} {E : XK} (hz : z.length ≤ sizeLine) (k : Q (.bl (nameB z)) H) : sp_is_name K ([.str z] ++ []) H Q E := ⟨z, rfl, hz, k⟩
abbrev N_is_name : List Str := [(Str.ofString "text"), (Str.ofString "char")]
theorem st_is_name (v0 : V) : start N_is_name [v0] = [some v0, none] := rfl
def t_is_name (K : PySem.W.Frag) (E : XK) : TS := (tSeq (tIfS (tOr (tNot (tTest (tChain rLeI rLeI (tC (.int 1)) (tCB rLenS (tCons (tVar 0) tNil)) (tC (.int 8))))) (tTest (tOp rNotInC (tOp rIxS (tVar 0) (tC (.int 0))) (tC (.str (Str.ofString "abcdefghijklmnopqrstuvwxyz")))))) (tRet (tC (.bl false))) tNext)
  (tSeq (tFor (iStr (tVar 0)) (gName 1) (tIfS (tAnd (tTest (tOp rNotInC (tVar 1) (tC (.str (Str.ofString "abcdefghijklmnopqrstuvwxyz"))))) (tTest (tOp rNotInC (tVar 1) (tC (.str (Str.ofString "0123456789")))))) (tRet (tC (.bl false))) tNext))
  (tRet (tC (.bl true)))))
theorem rd_is_name {K : PySem.W.Frag} {vs : List V} {H : Hp} {Q : VK} {E : XK} (h : sp_is_name K vs H Q E) : t_is_name K E { nx := fun _ H' => Q .non H', rt := Q } (start N_is_name vs) H := by
  obtain ⟨z, rfl, hz, k⟩ := h
  unfold t_is_name
  rw [st_is_name]
  have hl := len_tl z
  walk_at "ss"
  walk_at "si"
  refine ifd (fun h1 => ?_) (fun h1 => ?_)
  · walk_at "ss"
    refine ifn (fun h2 => ?_) (fun h2 => ?_)
    · walk_at "ss"
      have e : nameB z = false := by
        unfold nameB
        rw [decide_eq_false (show ¬ z.length ≤ 8 by omega)]; simp
      rw [e] at k; exact k
    · walk_at "ss"
      cases ez : tl z with
      | nil => rw [hl, ez] at h1; simp at h1
      | cons c r =>
        refine v_ixS (c := c) hz (by show atI (tl z) 0 = _; rw [ez]; exact atI_nat (j := 0) rfl) ?_
        walk_at "ss"
        refine ifn (fun h3 => ?_) (fun h3 => ?_)
        · walk_at "ss"
          have h4 : isL c = false := by rw [← in_zLe]; exact decide_eq_false h3
          have e : nameB z = false := by
            unfold nameB
            rw [ez]; simp [h4]
          rw [e] at k; exact k
        · have h4 : isL c = true := by rw [← in_zLe]; exact decide_eq_true h3
          walk_at "ss"
          refine for_w wlk_str (fun i σ H1 => H1 = H ∧ (∃ y, σ = [some (.str z), y]) ∧ ∀ j d, j < i → (tl z)[j]? = some d → isLD d = true) ⟨rfl, ⟨_, rfl⟩, fun j d h => absurd h (Nat.not_lt_zero j)⟩ (fun _ _ _ _ => trivial) ?_ ?_
          · rintro i x σ H1 H2 hi ⟨rfl, ⟨y, rfl⟩, ha⟩ ⟨rfl, d, hd, rfl⟩
            walk_at "ss"
            walk_at "si"
            have bad : isLD d = false → nameB z = false := fun hb => by
              unfold nameB
              have : (tl z).all isLD = false := by
                rw [List.all_eq_false]
                exact ⟨d, List.mem_of_getElem? hd, by rw [hb]; exact Bool.false_ne_true⟩
              rw [this]; simp
            have good : isLD d = true → ∀ j e, j < i + 1 → (tl z)[j]? = some e → isLD e = true := fun hg j e hj he => by
              by_cases hji : j = i
              · subst hji; rw [hd] at he; cases he; exact hg
              · exact ha j e (by omega) he
            refine ifn (fun h5 => ?_) (fun h5 => ?_)
            · walk_at "ss"
              refine ifn (fun h6 => ?_) (fun h6 => ?_)
              · walk_at "ss"
                have e := bad (by rw [isLD_or, decide_eq_false h5, decide_eq_false h6]; rfl)
                rw [e] at k; exact k
              · walk_at "ss"
                exact ⟨rfl, ⟨_, rfl⟩, good (by rw [isLD_or, decide_eq_true h6]; simp)⟩
            · walk_at "ss"
              exact ⟨rfl, ⟨_, rfl⟩, good (by rw [isLD_or, decide_eq_true h5]; rfl)⟩
          · rintro σ H1 ⟨rfl, ⟨y, rfl⟩, ha⟩
            walk_at "ss"
            have e : nameB z = true := by
              unfold nameB
              have h7 : (tl z).all isLD = true := by
                rw [List.all_eq_true]
                intro d hd
                obtain ⟨j, hj⟩ := List.getElem?_of_mem hd
                refine ha j d ?_ hj
                rw [hl]
                exact (List.getElem?_eq_some_iff.mp hj).1
              rw [h7, ez]
              simp [h4]
              omega
            rw [e] at k; exact k
  · walk_at "ss"
    have e : nameB z = false := by
      unfold nameB
      rw [decide_eq_false (show ¬ 1 ≤ z.length by omega)]; simp
    rw [e] at k
    exact k

/-! ### the pool is made -/
def sp_l_pool (K : PySem.W.Frag) : Sp := fun vs H Q _ => ∃ (a : Addr) (ns : List Int), vs = [.ref a] ∧ SqL K H a (ns.map V.int) ∧ ns.length ≤ 63 ∧ ∀ F pp H', Same H F → Pl K F H' pp → Q (.ref pp) H'
theorem len_l_pool {K : PySem.W.Frag} : ∀ vs H Q E, sp_l_pool K vs H Q E → vs.length = 1 := by
  rintro vs H Q E ⟨z, ns, rfl, _⟩; rfl
theorem cl_pool {K : PySem.W.Frag} {H : Hp} {a : Addr} {ns : List Int} {Q : VK} {E : XK} (h : SqL K H a (ns.map V.int)) (hl : ns.length ≤ 63) (k : ∀ F pp H', Same H F → Pl K F H' pp → Q (.ref pp) H') : sp_l_pool K ([.ref a] ++ []) H Q E := ⟨a, ns, rfl, h, hl, k⟩
abbrev N_l_pool : List Str := [(Str.ofString "_law_script"), (Str.ofString "_law_cells"), (Str.ofString "_law_cell"), (Str.ofString "_law_number")]
theorem st_l_pool (v0 : V) : start N_l_pool [v0] = [some v0, none, none, none] := rfl
def t_l_pool (K : PySem.W.Frag) (E : XK) : TS := (tSeq (tAsg (tLc (iList K (tVar 0)) (gName 2) tYes (tCB rIntI (tCons (tVar 2) tNil)) [2]) (gName 1))
  (tSeq (tAsg (tC (.int 0)) (gName 3))
  (tSeq (tIfS (tAnd (tTest (tOp rGtI (tCB (rLenQ K) (tCons (tVar 1) tNil)) (tC (.int 0)))) (tTest (tOp rGeI (tOp (rIxL K) (tVar 1) (tC (.int 0))) (tOp rPowI (tC (.int 10)) (tC (.int 18)))))) (tAsg (tOp (rIxL K) (tVar 1) (tC (.int 0))) (gName 3)) tNext)
  (tRet (tLst (tCons (tVar 3) (tCons (tC (.int 0)) (tCons (tVar 1) tNil))))))))
theorem rd_l_pool {K : PySem.W.Frag} {vs : List V} {H : Hp} {Q : VK} {E : XK} (h : sp_l_pool K vs H Q E) : t_l_pool K E { nx := fun _ H' => Q .non H', rt := Q } (start N_l_pool vs) H := by
  obtain ⟨a, ns, rfl, hs, hl, k⟩ := h
  unfold t_l_pool
  rw [st_l_pool]
  walk_at "ss"
  refine j_list hs fun D nD => ?_
  refine lc_w wlk_list (fun i H' => Same H H' ∧ H' D = some (.lst ((ns.take i).map V.int))) ⟨same_new nD, upd_same⟩ (fun i H' h => h.1.seq hs) ?_ ?_
  · rintro i x H1 H2 hi ⟨e, hD⟩ ⟨rfl, hx⟩
    rw [List.getElem?_map] at hx
    obtain ⟨m, hm, rfl⟩ := Option.map_eq_some_iff.mp hx
    rw [List.length_map] at hi
    have hm' := (List.getElem?_eq_some_iff.mp hm).2
    show gName 2 _ [some (V.ref a), none, none, none] _ _
    walk_at "ss"
    refine ⟨rfl, ?_⟩
    walk_at "ss"
    refine ⟨_, hD, by rw [List.length_map, List.length_take, sizeLine_eq]; omega, fun b o hb => ?_, ?_⟩
    · rw [upd_ne (ne_of_none hb nD)]; exact e b o hb
    · rw [upd_same, List.take_succ, hm, List.map_append]; rfl
  · rintro H1 ⟨e, hD⟩
    rw [List.length_map, List.take_length] at hD
    walk_at "ss"
    refine c_join (fun σ' H' => H' = H1 ∧ ∃ m : Int, σ' = [some (.ref a), some (.ref D), none, some (.int m)]) (fun nx' hn => ?_) ?_
    · walk_at "si"
      refine ifd (fun h1 => ?_) (fun h1 => ?_)
      · walk_at "ss"
        rw [List.length_map] at h1
        refine v_ixL (sqL_of hD) (ixI_map (n := 0) rfl (by omega)) ?_
        walk_at "ss"
        refine v_powI ⟨by decide, by decide, by decide⟩ ?_
        walk_at "ss"
        refine ifb (fun _ => ?_) (fun _ => ?_)
        · walk_at "ss"
          refine v_ixL (sqL_of hD) (ixI_map (n := 0) rfl (by omega)) ?_
          walk_at "ss"
          exact hn _ _ ⟨rfl, _, rfl⟩
        · walk_at "ss"
          exact hn _ _ ⟨rfl, _, rfl⟩
      · walk_at "ss"
        exact hn _ _ ⟨rfl, _, rfl⟩
    · rintro σ' H2 ⟨rfl, m, rfl⟩
      walk_at "ss"
      refine ⟨by show 3 ≤ sizeLine; decide, fun p np => ?_⟩
      refine k (upd H D (.lst (ns.map V.int))) p _ (same_new nD) ⟨fun b o hb => ?_, ?_, m, 0, D, ns, upd_same, sqL_of upd_same⟩
      · have hbp : b ≠ p := by
          rintro rfl
          by_cases hbD : b = D
          · rw [hbD, hD] at np; cases np
          · rw [upd_ne hbD] at hb; rw [e b o hb] at np; cases np
        rw [upd_ne hbp]
        by_cases hbD : b = D
        · subst hbD; rw [upd_same] at hb; cases hb; exact hD
        · rw [upd_ne hbD] at hb; exact e b o hb
      · have hpD : p ≠ D := by rintro rfl; rw [hD] at np; cases np
        rw [upd_ne hpD]
        exact e.free np
/-! ### k01: the law's own reader -/
theorem fi_spec : ∀ i, i < 36 → (match (tl zAl)[i]? with | some c => isLD c && (decide (i < 26) == isL c) | none => false) = true := by decide +kernel
theorem find_al (c : Nat) : (Txt.find zAl ⟨#[c]⟩ = -1 ∧ isLD c = false) ∨ ∃ i : Nat, i < 36 ∧ Txt.find zAl ⟨#[c]⟩ = (i : Int) ∧ isLD c = true ∧ (isL c = true ↔ i < 26) := by
  have h := PySem.StrLaws.occ_spec zAl ⟨#[c]⟩ 0 zAl.length 1
  have h2 := PySem.StrLaws.found_one zAl c
  unfold Txt.find
  cases e : Builtin.Str.occurrences zAl ⟨#[c]⟩ 0 zAl.length 1 with
  | nil =>
    refine .inl ⟨rfl, ?_⟩
    rw [e] at h2
    have h3 : c ∉ zAl.cps.toList := fun q => by rw [decide_eq_true q] at h2; cases h2
    cases q : isLD c with
    | false => rfl
    | true =>
      refine absurd ?_ h3
      rw [isLD_or] at q
      have eA : zAl.cps.toList = zLe.cps.toList ++ zDi.cps.toList := by decide +kernel
      rw [eA]
      rcases (Bool.or_eq_true _ _ ▸ q : _ ∨ _) with q | q
      · exact List.mem_append_left _ (of_decide_eq_true q)
      · exact List.mem_append_right _ (of_decide_eq_true q)
  | cons i r =>
    obtain ⟨h3, h4⟩ := h i (by rw [e]; exact List.mem_cons_self ..)
    rw [zAl_len, len_sgl] at h3
    rw [PySem.StrLaws.subAt_eq] at h4
    have h5 : ((tl zAl).drop i).take 1 = [c] := eq_of_beq h4
    have h6 : (tl zAl)[i]? = some c := by
      have := congrArg (fun l => l[0]?) h5
      simpa using this
    have h7 := fi_spec i (by omega)
    rw [h6] at h7
    simp only [Bool.and_eq_true, beq_iff_eq] at h7
    refine .inr ⟨i, by omega, rfl, h7.1, ?_⟩
    rw [← h7.2]; simp
def sp_l_valid (K : PySem.W.Frag) : Sp := fun vs H Q _ => ∃ z, vs = [.str z] ∧ z.length ≤ 1000 ∧ ∀ H', Same H H' → Q (.bl (nameB z)) H'
theorem len_l_valid {K : PySem.W.Frag} : ∀ vs H Q E, sp_l_valid K vs H Q E → vs.length = 1 := by
  rintro vs H Q E ⟨z, rfl, _⟩; rfl
theorem cl_valid {K : PySem.W.Frag} {H : Hp} {z : Str} {Q : VK} {E : XK} (hz : z.length ≤ 1000) (k : ∀ H', Same H H' → Q (.bl (nameB z)) H') : sp_l_valid K ([.str z] ++ []) H Q E := ⟨z, rfl, hz, k⟩
abbrev N_l_valid : List Str := [(Str.ofString "_law_text_here"), (Str.ofString "_law_order"), (Str.ofString "_law_places"), (Str.ofString "_law_sign_here")]
theorem st_l_valid (v0 : V) : start N_l_valid [v0] = [some v0, none, none, none] := rfl
def t_l_valid (K : PySem.W.Frag) (E : XK) : TS := (tSeq (tAsg (tC (.str (Str.ofString "abcdefghijklmnopqrstuvwxyz0123456789"))) (gName 1))
  (tSeq (tAsg (tLc (iStr (tVar 0)) (gName 3) tYes (tBM K "str" rFind (tVar 1) (tCons (tVar 3) tNil)) [3]) (gName 2))
  (tSeq (tIfS (tOr (tTest (tOp rLtI (tCB (rLenQ K) (tCons (tVar 2) tNil)) (tC (.int 1)))) (tTest (tOp rGtI (tCB (rLenQ K) (tCons (tVar 2) tNil)) (tC (.int 8))))) (tRet (tC (.bl false))) tNext)
  (tRet (tAndV (tOp rGeI (tCB (rMin K) (tCons (tVar 2) tNil)) (tC (.int 0))) (tOp rLtI (tOp (rIxL K) (tVar 2) (tC (.int 0))) (tC (.int 26))))))))
theorem rd_l_valid {K : PySem.W.Frag} {vs : List V} {H : Hp} {Q : VK} {E : XK} (h : sp_l_valid K vs H Q E) : t_l_valid K E { nx := fun _ H' => Q .non H', rt := Q } (start N_l_valid vs) H := by
  obtain ⟨z, rfl, hz, k⟩ := h
  unfold t_l_valid
  rw [st_l_valid]
  have hl := len_tl z
  walk_at "ss"
  intro D nD
  refine lc_w wlk_str (fun i H' => Same H H' ∧ H' D = some (.lst (((tl z).take i).map fun c => V.int (Txt.find zAl ⟨#[c]⟩)))) ⟨same_new nD, upd_same⟩ (fun _ _ _ => trivial) ?_ ?_
  · rintro i x H1 H2 hi ⟨e, hD⟩ ⟨rfl, c, hc, rfl⟩
    show gName 3 _ [some (V.str z), some (V.str zAl), none, none] _ _
    walk_at "ss"
    refine ⟨rfl, ?_⟩
    walk_at "ss"
    refine ⟨ty_str, ?_⟩
    walk_at "ss"
    refine ⟨_, hD, by rw [List.length_map, List.length_take, sizeLine_eq]; omega, fun b o hb => ?_, ?_⟩
    · rw [upd_ne (ne_of_none hb nD)]; exact e b o hb
    · rw [upd_same, List.take_succ, hc, List.map_append]; rfl
  · rintro H1 ⟨e, hD⟩
    rw [hl, List.take_length] at hD
    have hD' : H1 D = some (.lst (((tl z).map fun c => Txt.find zAl ⟨#[c]⟩).map V.int)) := by rw [hD, List.map_map]; rfl
    walk_at "ss"
    walk_at "si"
    rw [List.length_map, List.length_map, ← hl]
    refine ifd (fun h1 => ?_) (fun h1 => ?_)
    · walk_at "ss"
      have e1 : nameB z = false := by
        unfold nameB
        rw [decide_eq_false (show ¬ 1 ≤ z.length by omega)]; simp
      have k2 := k H1 e
      rw [e1] at k2
      exact k2
    · walk_at "ss"
      rw [List.length_map, List.length_map, ← hl]
      refine ifd (fun h2 => ?_) (fun h2 => ?_)
      · walk_at "ss"
        have e1 : nameB z = false := by
          unfold nameB
          rw [decide_eq_false (show ¬ z.length ≤ 8 by omega)]; simp
        have k2 := k H1 e
        rw [e1] at k2
        exact k2
      · walk_at "ss"
        refine ⟨D, (tl z).map fun c => Txt.find zAl ⟨#[c]⟩, rfl, sqL_of hD', by rw [List.length_map, ← hl]; omega, fun m hm hmin => ?_⟩
        walk_at "ss"
        have eN : nameB z = ((tl z).head?.any isL && (tl z).all isLD) := by
          unfold nameB
          rw [decide_eq_true (show 1 ≤ z.length by omega), decide_eq_true (show z.length ≤ 8 by omega)]; rfl
        have hall : (tl z).all isLD = decide (0 ≤ m) := by
          by_cases h0 : 0 ≤ m
          · rw [decide_eq_true h0, List.all_eq_true]
            intro c hc
            have := hmin _ (List.mem_map.mpr ⟨c, hc, rfl⟩)
            rcases find_al c with ⟨q, _⟩ | ⟨i, _, q, q2, _⟩
            · omega
            · exact q2
          · rw [decide_eq_false h0, List.all_eq_false]
            obtain ⟨c, hc, rfl⟩ := List.mem_map.mp hm
            refine ⟨c, hc, ?_⟩
            rcases find_al c with ⟨_, q⟩ | ⟨i, _, q, q2, _⟩
            · rw [q]; exact Bool.false_ne_true
            · rw [q] at h0; omega
        rw [hall] at eN
        cases ez : tl z with
        | nil => rw [hl, ez] at h1; simp at h1
        | cons c r =>
          refine ifd (fun h3 => ?_) (fun h3 => ?_)
          · rw [decide_eq_true h3, Bool.and_true, ez] at eN
            walk_at "ss"
            refine v_ixL (sqL_of hD') (by rw [ez]; exact atI_nat (j := 0) rfl) ?_
            walk_at "ss"
            have h5 : isLD c = true := List.all_eq_true.mp (hall.trans (decide_eq_true h3)) c (by rw [ez]; exact List.mem_cons_self ..)
            have e2 : decide (Txt.find zAl ⟨#[c]⟩ < 26) = nameB z := by
              rw [eN]
              show _ = (some c).any isL
              rw [Option.any_some]
              rcases find_al c with ⟨_, q⟩ | ⟨i, hi, q, _, q3⟩
              · rw [h5] at q; cases q
              · rw [q]
                cases q4 : isL c with
                | true => have := q3.mp q4; simp; omega
                | false =>
                  have : ¬ i < 26 := fun h => by rw [q3.mpr h] at q4; cases q4
                  simp; omega
            rw [e2]
            exact k H1 e
          · rw [decide_eq_false h3, Bool.and_false] at eN
            have k2 := k H1 e
            rw [eN] at k2
            exact k2
def sp_l_same_truth (K : PySem.W.Frag) : Sp := fun vs H Q _ => ∃ a b, vs = [.bl a, .bl b] ∧ Q (.bl (decide (a = b))) H
theorem len_l_same_truth {K : PySem.W.Frag} : ∀ vs H Q E, sp_l_same_truth K vs H Q E → vs.length = 2 := by
  rintro vs H Q E ⟨a, b, rfl, _⟩; rfl
theorem cl_same_truth {K : PySem.W.Frag} {H : Hp} {a b : Bool} {Q : VK} {E : XK} (k : Q (.bl (decide (a = b))) H) : sp_l_same_truth K ([.bl a, .bl b] ++ []) H Q E := ⟨a, b, rfl, k⟩
abbrev N_l_same_truth : List Str := [(Str.ofString "_law_actual"), (Str.ofString "_law_due")]
theorem st_l_same_truth (v0 v1 : V) : start N_l_same_truth [v0, v1] = [some v0, some v1] := rfl
def t_l_same_truth (K : PySem.W.Frag) (E : XK) : TS := (tRet (tAndV (tCB (rIsi K) (tCons (tVar 0) (tCons (tC (.ty "bool")) tNil))) (tOp rEq (tVar 0) (tVar 1))))
theorem rd_l_same_truth {K : PySem.W.Frag} {vs : List V} {H : Hp} {Q : VK} {E : XK} (h : sp_l_same_truth K vs H Q E) : t_l_same_truth K E { nx := fun _ H' => Q .non H', rt := Q } (start N_l_same_truth vs) H := by
  obtain ⟨a, b, rfl, k⟩ := h
  unfold t_l_same_truth
  rw [st_l_same_truth]
  walk_at "ss"
  refine ⟨_, _, _, _, true, rfl, .ty _, .base (.bl _), kit_ty (by decide +kernel), true, rfl, ?_⟩
  rw [if_pos rfl]
  walk_at "ss"
  exact k
end Rm


namespace Rm
open PySem PySem.Spec L2
def sp_law (K : PySem.W.Frag) : Sp := fun vs H Q _ => ∃ (a : Addr) (ns : List Int), vs = [.ref a] ∧ SqL K H a (ns.map V.int) ∧ ns.length ≤ 63 ∧ ∀ H', Q (.bl true) H'
theorem len_law {K : PySem.W.Frag} : ∀ vs H Q E, sp_law K vs H Q E → vs.length = 1 := by
  rintro vs H Q E ⟨z, ns, rfl, _⟩; rfl
abbrev N_law : List Str := [(Str.ofString "_law_script"), (Str.ofString "_law_pool_here"), (Str.ofString "_law_way"), (Str.ofString "_law_name"), (Str.ofString "_law_text_here"), (Str.ofString "_law_at"), (Str.ofString "_law_due")]
theorem st_law (v0 : V) : start N_law [v0] = [some v0, none, none, none, none, none, none] := rfl
def t_law (K : PySem.W.Frag) (E : XK) : TS := (tSeq (tAsg (tCall (sp_l_pool K) [] E (tCons (tVar 0) tNil)) (gName 1))
  (tSeq (tAsg (tCall (sp_l_draw K) [] E (tCons (tVar 1) (tCons (tC (.int 4)) tNil))) (gName 2))
  (tSeq (tAsg (tOp (rIxL K) (tCall (sp_l_names K) [] E (tCons (tVar 1) (tCons (tC (.int 1)) tNil))) (tC (.int 0))) (gName 3))
  (tSeq (tAsg (tC (.str (Str.ofString ""))) (gName 4))
  (tSeq (tIfS (tTest (tOp rLtI (tVar 2) (tC (.int 2)))) (tAsg (tCall (sp_l_text K) [] E (tCons (tVar 1) (tCons (tVar 2) tNil))) (gName 4)) (tIfS (tTest (tOp rEq (tVar 2) (tC (.int 2)))) (tSeq (tAsg (tCall (sp_l_draw K) [] E (tCons (tVar 1) (tCons (tCB rLenS (tCons (tVar 3) tNil)) tNil))) (gName 5))
  (tAsg (tOp rAddS (tOp rAddS (tSl rSlS (tVar 3) tNoPart (tPart (tVar 5))) (tCall (sp_l_sign K) [] E (tCons (tVar 1) tNil))) (tSl rSlS (tVar 3) (tPart (tOp rAddI (tVar 5) (tC (.int 1)))) tNoPart)) (gName 4))) (tAsg (tOp rAddS (tVar 3) (tCall (sp_l_sign K) [] E (tCons (tVar 1) tNil))) (gName 4))))
  (tSeq (tAsg (tCall (sp_l_valid K) [] E (tCons (tVar 4) tNil)) (gName 6))
  (tSeq (tIfS (tNot (tB (tCall (sp_l_same_truth K) [] E (tCons (tCall (sp_is_name K) [] E (tCons (tVar 4) tNil)) (tCons (tVar 6) tNil))))) (tRet (tC (.bl false))) tNext)
  (tSeq (tIfS (tNot (tB (tCall (sp_l_same_truth K) [] E (tCons (tCall (sp_is_name K) [] E (tCons (tVar 3) tNil)) (tCons (tC (.bl true)) tNil))))) (tRet (tC (.bl false))) tNext)
  (tRet (tCall (sp_l_same_truth K) [] E (tCons (tCall (sp_is_name K) [] E (tCons (tVar 4) tNil)) (tCons (tVar 6) tNil))))))))))))
theorem rd_law {K : PySem.W.Frag} {vs : List V} {H : Hp} {Q : VK} {E : XK} (h : sp_law K vs H Q E) : t_law K E { nx := fun _ H' => Q .non H', rt := Q } (start N_law vs) H := by
  obtain ⟨a, ns, rfl, hs, hl, k⟩ := h
  unfold t_law
  rw [st_law]
  walk_at "ss"
  refine cl_pool hs hl fun F pp H1 _ P1 => ?_
  walk_at "ss"
  refine cl_draw P1 (by decide) (by decide) fun way H2 w0 w1 P2 g2 => ?_
  walk_at "ss"
  refine cl_names P2 (by decide) (by decide) fun nm p H3 hlen _ hv np hp P3 g3 => ?_
  walk_at "ss"
  have h1 : nm.length = 1 := hlen
  refine v_ixL (sqL_of hp) (ixI_map (n := 0) rfl (by omega)) ?_
  have hn := hv nm[0] (List.getElem_mem _)
  generalize nm[0] = z at hn
  have hz := nameB_len hn
  walk_at "ss"
  refine c_join (fun σ' H' => ∃ (w : Str) (x : Option V), σ' = [some (.ref a), some (.ref pp), some (.int way), some (.str z), some (.str w), x, none] ∧ w.length ≤ 100 ∧ Pl K F H' pp) (fun nx' hn' => ?_) ?_
  · walk_at "si"
    refine ifd (fun _ => ?_) (fun _ => ?_)
    · walk_at "ss"
      refine cl_text P3 fun w H4 hw _ P4 g4 => ?_
      walk_at "ss"
      exact hn' _ _ ⟨_, _, rfl, by omega, P4⟩
    · walk_at "si"
      refine ifd (fun _ => ?_) (fun _ => ?_)
      · walk_at "ss"
        refine v_lenS (by rw [sizeLine_eq]; omega) ?_
        walk_at "ss"
        refine cl_draw P3 (by omega) (by omega) fun at_ H4 a0 a1 P4 g4 => ?_
        walk_at "ss"
        have c1 := cutS_length z none (some at_)
        have c2 := cutS_length z (some (at_ + 1)) none
        refine v_slS (by rw [sizeLine_eq]; omega) ?_
        walk_at "ss"
        refine cl_sign P4 fun c H5 hc P5 g5 => ?_
        refine v_addS (by rw [len_sgl, sizeLine_eq]; omega) ?_
        walk_at "ss"
        refine v_slS (by rw [sizeLine_eq]; omega) ?_
        refine v_addS (by rw [len_app, len_sgl, sizeLine_eq]; omega) ?_
        walk_at "ss"
        exact hn' _ _ ⟨_, _, rfl, by rw [len_app, len_app, len_sgl]; omega, P5⟩
      · walk_at "ss"
        refine cl_sign P3 fun c H5 hc P5 g5 => ?_
        refine v_addS (by rw [len_sgl, sizeLine_eq]; omega) ?_
        walk_at "ss"
        exact hn' _ _ ⟨_, _, rfl, by rw [len_app, len_sgl]; omega, P5⟩
  rintro σ' H4 ⟨w, x, rfl, hw, P4⟩
  walk_at "ss"
  refine cl_valid (by omega) fun H5 e5 => ?_
  walk_at "ss"
  walk_at "si"
  refine cl_is_name (by rw [sizeLine_eq]; omega) ?_
  walk_at "ss"
  refine cl_same_truth ?_
  rw [decide_eq_true rfl]
  walk_at "ss"
  walk_at "si"
  refine cl_is_name (by rw [sizeLine_eq]; omega) ?_
  walk_at "ss"
  rw [hn]
  refine cl_same_truth ?_
  rw [decide_eq_true rfl]
  walk_at "ss"
  refine cl_is_name (by rw [sizeLine_eq]; omega) ?_
  walk_at "ss"
  refine cl_same_truth ?_
  rw [decide_eq_true rfl]
  exact k _
end Rm

/-! ### the text by places, the facts of the head: printed by gen.py -/
namespace Rm
open PySem PySem.Spec L2
def top (i : Nat) : Stmt := PySem.Challenge.pw_roundminutes_k01_valid_names.main.body.getD i (.Pass ⟨0, 0, 0, 0⟩)
abbrev s_l_draw : Stmt := (top 6)
abbrev d_l_draw : DD := ⟨fun K => (He.ga K (Str.ofString "_law_draw")), (Str.ofString "_law_draw"), (Str.ofString "_law_draw"), s_l_draw, [], []⟩
abbrev s_l_word : Stmt := (top 7)
abbrev d_l_word : DD := ⟨fun K => (He.ga K (Str.ofString "_law_word")), (Str.ofString "_law_word"), (Str.ofString "_law_word"), s_l_word, [], []⟩
abbrev s_l_names : Stmt := (top 8)
abbrev d_l_names : DD := ⟨fun K => (He.ga K (Str.ofString "_law_names")), (Str.ofString "_law_names"), (Str.ofString "_law_names"), s_l_names, [], []⟩
abbrev s_l_pool : Stmt := (top 5)
abbrev d_l_pool : DD := ⟨fun K => (He.ga K (Str.ofString "_law_pool")), (Str.ofString "_law_pool"), (Str.ofString "_law_pool"), s_l_pool, [], []⟩
abbrev s_l_same_truth : Stmt := (top 12)
abbrev d_l_same_truth : DD := ⟨fun K => (He.ga K (Str.ofString "_law_same_truth")), (Str.ofString "_law_same_truth"), (Str.ofString "_law_same_truth"), s_l_same_truth, [], []⟩
abbrev s_l_sign : Stmt := (top 9)
abbrev d_l_sign : DD := ⟨fun K => (He.ga K (Str.ofString "_law_sign")), (Str.ofString "_law_sign"), (Str.ofString "_law_sign"), s_l_sign, [], []⟩
abbrev s_l_text : Stmt := (top 10)
abbrev d_l_text : DD := ⟨fun K => (He.ga K (Str.ofString "_law_text")), (Str.ofString "_law_text"), (Str.ofString "_law_text"), s_l_text, [], []⟩
abbrev s_l_valid : Stmt := (top 11)
abbrev d_l_valid : DD := ⟨fun K => (He.ga K (Str.ofString "_law_valid")), (Str.ofString "_law_valid"), (Str.ofString "_law_valid"), s_l_valid, [], []⟩
abbrev s_is_name : Stmt := (top 3)
abbrev d_is_name : DD := ⟨fun K => (He.ga K (Str.ofString "is_name")), (Str.ofString "is_name"), (Str.ofString "is_name"), s_is_name, [], []⟩
abbrev s_law : Stmt := (top 13)
abbrev d_law : DD := ⟨fun K => (He.ga K (Str.ofString "law")), (Str.ofString "law"), (Str.ofString "law"), s_law, [], []⟩
def fa : List Fc := [fun K => (He.Fa.free (Str.ofString "bool")).ok K, fun K => (He.Fa.free (Str.ofString "int")).ok K, fun K => (He.Fa.free (Str.ofString "isinstance")).ok K, fun K => (He.Fa.free (Str.ofString "len")).ok K, fun K => (He.Fa.free (Str.ofString "min")).ok K, fun K => (He.Fa.free (Str.ofString "range")).ok K, fun K => (He.Fa.free (Str.ofString "str")).ok K, fun K => (He.Fa.glo (Str.ofString "_law_draw")).ok K, fun K => (He.Fa.glo (Str.ofString "_law_names")).ok K, fun K => (He.Fa.glo (Str.ofString "_law_pool")).ok K, fun K => (He.Fa.glo (Str.ofString "_law_same_truth")).ok K, fun K => (He.Fa.glo (Str.ofString "_law_sign")).ok K, fun K => (He.Fa.glo (Str.ofString "_law_text")).ok K, fun K => (He.Fa.glo (Str.ofString "_law_valid")).ok K, fun K => (He.Fa.glo (Str.ofString "_law_word")).ok K, fun K => (He.Fa.glo (Str.ofString "is_name")).ok K, fun K => (He.Fa.glo (Str.ofString "law")).ok K, fun K => (He.Fa.str (Str.ofString "DIGITS") (Str.ofString "0123456789")).ok K, fun K => (He.Fa.str (Str.ofString "LETTERS") (Str.ofString "abcdefghijklmnopqrstuvwxyz")).ok K]
def fn : List DD := [d_l_draw, d_l_word, d_l_names, d_l_pool, d_l_same_truth, d_l_sign, d_l_text, d_l_valid, d_is_name, d_law]
section
variable {P : Program} {w : World} {K : PySem.W.Frag} {mg : Str → Option Value} {base : Heap}
theorem g_bool (T : Tx fa fn K mg) : mg (Str.ofString "bool") = none := T.free (T.c.fact 0 rfl)
theorem g_int (T : Tx fa fn K mg) : mg (Str.ofString "int") = none := T.free (T.c.fact 1 rfl)
theorem g_isinstance (T : Tx fa fn K mg) : mg (Str.ofString "isinstance") = none := T.free (T.c.fact 2 rfl)
theorem g_len (T : Tx fa fn K mg) : mg (Str.ofString "len") = none := T.free (T.c.fact 3 rfl)
theorem g_min (T : Tx fa fn K mg) : mg (Str.ofString "min") = none := T.free (T.c.fact 4 rfl)
theorem g_range (T : Tx fa fn K mg) : mg (Str.ofString "range") = none := T.free (T.c.fact 5 rfl)
theorem g_str (T : Tx fa fn K mg) : mg (Str.ofString "str") = none := T.free (T.c.fact 6 rfl)
theorem g__law_draw (T : Tx fa fn K mg) : mg (Str.ofString "_law_draw") = some (.ref (He.ga K (Str.ofString "_law_draw"))) := T.glo (T.c.fact 7 rfl)
theorem g__law_names (T : Tx fa fn K mg) : mg (Str.ofString "_law_names") = some (.ref (He.ga K (Str.ofString "_law_names"))) := T.glo (T.c.fact 8 rfl)
theorem g__law_pool (T : Tx fa fn K mg) : mg (Str.ofString "_law_pool") = some (.ref (He.ga K (Str.ofString "_law_pool"))) := T.glo (T.c.fact 9 rfl)
theorem g__law_same_truth (T : Tx fa fn K mg) : mg (Str.ofString "_law_same_truth") = some (.ref (He.ga K (Str.ofString "_law_same_truth"))) := T.glo (T.c.fact 10 rfl)
theorem g__law_sign (T : Tx fa fn K mg) : mg (Str.ofString "_law_sign") = some (.ref (He.ga K (Str.ofString "_law_sign"))) := T.glo (T.c.fact 11 rfl)
theorem g__law_text (T : Tx fa fn K mg) : mg (Str.ofString "_law_text") = some (.ref (He.ga K (Str.ofString "_law_text"))) := T.glo (T.c.fact 12 rfl)
theorem g__law_valid (T : Tx fa fn K mg) : mg (Str.ofString "_law_valid") = some (.ref (He.ga K (Str.ofString "_law_valid"))) := T.glo (T.c.fact 13 rfl)
theorem g__law_word (T : Tx fa fn K mg) : mg (Str.ofString "_law_word") = some (.ref (He.ga K (Str.ofString "_law_word"))) := T.glo (T.c.fact 14 rfl)
theorem g_is_name (T : Tx fa fn K mg) : mg (Str.ofString "is_name") = some (.ref (He.ga K (Str.ofString "is_name"))) := T.glo (T.c.fact 15 rfl)
theorem g_law (T : Tx fa fn K mg) : mg (Str.ofString "law") = some (.ref (He.ga K (Str.ofString "law"))) := T.glo (T.c.fact 16 rfl)
theorem g_DIGITS (T : Tx fa fn K mg) : ∃ t, mg (Str.ofString "DIGITS") = some (.str (Str.ofString "0123456789") t) := T.str (T.c.fact 17 rfl)
theorem g_LETTERS (T : Tx fa fn K mg) : ∃ t, mg (Str.ofString "LETTERS") = some (.str (Str.ofString "abcdefghijklmnopqrstuvwxyz") t) := T.str (T.c.fact 18 rfl)
theorem fd_l_draw (T : Tx fa fn K mg) : FunAt K d_l_draw := T.c.def_ 0 rfl
theorem b_l_draw (T : Tx fa fn K mg) : Binds K (fdA K (d_l_draw.adr K)) [(Str.ofString "_law_pool_here"), (Str.ofString "_law_many")] [] := (fd_l_draw T).bindsN fun _ _ _ _ _ _ us hl => match us, hl with | [_, _], _ => rfl
theorem sc_l_draw : FnScope N_l_draw [(Str.ofString "_law_pool_here"), (Str.ofString "_law_many")] (defScope s_l_draw) := ⟨rfl, rfl, rfl, by decide +kernel, rfl, by decide +kernel, by decide +kernel⟩
set_option maxHeartbeats 4000000 in
theorem ok_l_draw (T : Tx fa fn K mg) : FnOk P w K mg base (L2.CX P w) 1 (d_l_draw.adr K) (fdA K (d_l_draw.adr K)) [(Str.ofString "_law_pool_here"), (Str.ofString "_law_many")] (sp_l_draw K) := by
  refine (fd_l_draw T).ok (CX := L2.CX P w) (k := 0) sc_l_draw len_l_draw (fun cdv A outer s H vs Q E hr h => ⟨t_l_draw K E, ?_, rd_l_draw h⟩)
  exact (pss_cons (ps_if (pt_cmpR op_gt (pe_ix ix_list (pv 0) pe_int (fun _ _ => rfl)) pe_int (nomark _)) (pss_cons (ps_set (i := 2) sc_l_draw.nd rfl (by first | exact Or.inl rfl | exact Or.inr rfl) (pe_op op_mod (pe_callTy call_int1 (by rfl) (g_int T) (by decide +kernel) (pa_cons (pe_ix ix_list (pv 0) pe_int (fun _ _ => rfl)) pa_nil)) (pv 1)))
  (pss_cons (ps_asg (pe_op op_fdiv (pe_ix ix_list (pv 0) pe_int (fun _ _ => rfl)) (pv 1)) (pg_sub (pv 0) pe_int set_list))
  (pss_one (ps_ret (pv 2))))) pss_nil)
  (pss_cons (ps_asg (pe_op op_add (pe_ix ix_list (pv 0) pe_int (fun _ _ => rfl)) pe_int) (pg_sub (pv 0) pe_int set_list))
  (pss_cons (ps_set (i := 3) sc_l_draw.nd rfl (by first | exact Or.inl rfl | exact Or.inr rfl) (pe_ix ix_list (pv 0) pe_int (fun _ _ => rfl)))
  (pss_cons (ps_set (i := 4) sc_l_draw.nd rfl (by first | exact Or.inl rfl | exact Or.inr rfl) pe_int)
  (pss_cons (ps_set (i := 5) sc_l_draw.nd rfl (by first | exact Or.inl rfl | exact Or.inr rfl) pe_int)
  (pss_cons (ps_if (pt_cmpR op_gt (pe_callB call_len_seq (by rfl) (g_len T) (by decide +kernel) (pa_cons (pv 3) pa_nil)) pe_int (nomark _)) (pss_cons (ps_set (i := 4) sc_l_draw.nd rfl (by first | exact Or.inl rfl | exact Or.inr rfl) (pe_ix ix_list (pv 3) (pe_op op_mod (pe_callTy call_int1 (by rfl) (g_int T) (by decide +kernel) (pa_cons (pe_ix ix_list (pv 0) pe_int (fun _ _ => rfl)) pa_nil)) (pe_callB call_len_seq (by rfl) (g_len T) (by decide +kernel) (pa_cons (pv 3) pa_nil))) (fun _ _ => rfl)))
  (pss_one (ps_set (i := 5) sc_l_draw.nd rfl (by first | exact Or.inl rfl | exact Or.inr rfl) (pe_ix ix_list (pv 3) pe_int (fun _ _ => rfl))))) pss_nil)
  (pss_cons (ps_set (i := 6) sc_l_draw.nd rfl (by first | exact Or.inl rfl | exact Or.inr rfl) (pe_op op_mod (pe_callTy call_int1 (by rfl) (g_int T) (by decide +kernel) (pa_cons (pe_op op_add (pe_op op_add (pe_op op_add (pe_op op_mul (pv 4) pe_int) (pe_op op_mul (pv 5) pe_int)) (pe_op op_mul (pe_ix ix_list (pv 0) pe_int (fun _ _ => rfl)) pe_int)) pe_int) pa_nil)) pe_int))
  (pss_cons (ps_set (i := 6) sc_l_draw.nd rfl (by first | exact Or.inl rfl | exact Or.inr rfl) (pe_op op_mod (pe_callTy call_int1 (by rfl) (g_int T) (by decide +kernel) (pa_cons (pe_op op_add (pe_op op_add (pe_op op_mul (pv 6) (pv 6)) (pe_op op_mul (pv 6) pe_int)) (pe_op op_mul (pe_ix ix_list (pv 0) pe_int (fun _ _ => rfl)) pe_int)) pa_nil)) pe_int))
  (pss_one (ps_ret (pe_op op_mod (pe_callTy call_int1 (by rfl) (g_int T) (by decide +kernel) (pa_cons (pe_op op_fdiv (pv 6) pe_int) pa_nil)) (pv 1))))))))))))
theorem fd_l_word (T : Tx fa fn K mg) : FunAt K d_l_word := T.c.def_ 1 rfl
theorem b_l_word (T : Tx fa fn K mg) : Binds K (fdA K (d_l_word.adr K)) [(Str.ofString "_law_pool_here"), (Str.ofString "_law_size")] [] := (fd_l_word T).bindsN fun _ _ _ _ _ _ us hl => match us, hl with | [_, _], _ => rfl
theorem sc_l_word : FnScope N_l_word [(Str.ofString "_law_pool_here"), (Str.ofString "_law_size")] (defScope s_l_word) := ⟨rfl, rfl, rfl, by decide +kernel, rfl, by decide +kernel, by decide +kernel⟩
set_option maxHeartbeats 4000000 in
theorem ok_l_word (T : Tx fa fn K mg) : FnOk P w K mg base (L2.CX P w) 2 (d_l_word.adr K) (fdA K (d_l_word.adr K)) [(Str.ofString "_law_pool_here"), (Str.ofString "_law_size")] (sp_l_word K) := by
  refine (fd_l_word T).ok (CX := L2.CX P w) (k := 1) sc_l_word len_l_word (fun cdv A outer s H vs Q E hr h => ⟨t_l_word K E, ?_, rd_l_word h⟩)
  exact (pss_cons (ps_set (i := 2) sc_l_word.nd rfl (by first | exact Or.inl rfl | exact Or.inr rfl) pe_str)
  (pss_cons (ps_set (i := 3) sc_l_word.nd rfl (by first | exact Or.inl rfl | exact Or.inr rfl) pe_str)
  (pss_cons (ps_for (passes_of rfl) rfl (pi_range1 (by rfl) (g_range T) (pa_cons (pv 1) pa_nil)) (pg_name (i := 4) sc_l_word.nd rfl (by first | exact Or.inl rfl | exact Or.inr rfl)) (pss_one (ps_set (i := 3) sc_l_word.nd rfl (by first | exact Or.inl rfl | exact Or.inr rfl) (pe_op op_add_str (pv 3) (pe_ix ix_str (pv 2) (pe_call (ok_l_draw T) (hr.mono (by decide)) (by rfl) (g__law_draw T) (fd_l_draw T).kp (b_l_draw T) .nil passD (pa_cons (pv 0) (pa_cons pe_int pa_nil))) (fun _ _ => rfl))))))
  (pss_one (ps_ret (pv 3))))))
theorem fd_l_names (T : Tx fa fn K mg) : FunAt K d_l_names := T.c.def_ 2 rfl
theorem b_l_names (T : Tx fa fn K mg) : Binds K (fdA K (d_l_names.adr K)) [(Str.ofString "_law_pool_here"), (Str.ofString "_law_many")] [] := (fd_l_names T).bindsN fun _ _ _ _ _ _ us hl => match us, hl with | [_, _], _ => rfl
theorem sc_l_names : FnScope N_l_names [(Str.ofString "_law_pool_here"), (Str.ofString "_law_many")] (defScope s_l_names) := ⟨rfl, rfl, rfl, by decide +kernel, rfl, by decide +kernel, by decide +kernel⟩
set_option maxHeartbeats 4000000 in
theorem ok_l_names (T : Tx fa fn K mg) : FnOk P w K mg base (L2.CX P w) 3 (d_l_names.adr K) (fdA K (d_l_names.adr K)) [(Str.ofString "_law_pool_here"), (Str.ofString "_law_many")] (sp_l_names K) := by
  refine (fd_l_names T).ok (CX := L2.CX P w) (k := 2) sc_l_names len_l_names (fun cdv A outer s H vs Q E hr h => ⟨t_l_names K E, ?_, rd_l_names h⟩)
  exact (pss_cons (ps_set (i := 2) sc_l_names.nd rfl (by first | exact Or.inl rfl | exact Or.inr rfl) pe_str)
  (pss_cons (ps_set (i := 3) sc_l_names.nd rfl (by first | exact Or.inl rfl | exact Or.inr rfl) pe_str)
  (pss_cons (ps_set (i := 4) sc_l_names.nd rfl (by first | exact Or.inl rfl | exact Or.inr rfl) (pe_call (ok_l_draw T) (hr.mono (by decide)) (by rfl) (g__law_draw T) (fd_l_draw T).kp (b_l_draw T) .nil passD (pa_cons (pv 0) (pa_cons pe_int pa_nil))))
  (pss_cons (ps_set (i := 5) sc_l_names.nd rfl (by first | exact Or.inl rfl | exact Or.inr rfl) (pe_op op_add_str (pe_ix ix_str (pv 2) (pe_call (ok_l_draw T) (hr.mono (by decide)) (by rfl) (g__law_draw T) (fd_l_draw T).kp (b_l_draw T) .nil passD (pa_cons (pv 0) (pa_cons pe_int pa_nil))) (fun _ _ => rfl)) (pe_call (ok_l_word T) (hr.mono (by decide)) (by rfl) (g__law_word T) (fd_l_word T).kp (b_l_word T) .nil passD (pa_cons (pv 0) (pa_cons (pe_call (ok_l_draw T) (hr.mono (by decide)) (by rfl) (g__law_draw T) (fd_l_draw T).kp (b_l_draw T) .nil passD (pa_cons (pv 0) (pa_cons pe_int pa_nil))) pa_nil)))))
  (pss_cons (ps_set (i := 6) sc_l_names.nd rfl (by first | exact Or.inl rfl | exact Or.inr rfl) (pe_call (ok_l_word T) (hr.mono (by decide)) (by rfl) (g__law_word T) (fd_l_word T).kp (b_l_word T) .nil passD (pa_cons (pv 0) (pa_cons (pe_call (ok_l_draw T) (hr.mono (by decide)) (by rfl) (g__law_draw T) (fd_l_draw T).kp (b_l_draw T) .nil passD (pa_cons (pv 0) (pa_cons pe_int pa_nil))) pa_nil))))
  (pss_cons (ps_set (i := 7) sc_l_names.nd rfl (by first | exact Or.inl rfl | exact Or.inr rfl) (pe_call (ok_l_draw T) (hr.mono (by decide)) (by rfl) (g__law_draw T) (fd_l_draw T).kp (b_l_draw T) .nil passD (pa_cons (pv 0) (pa_cons pe_int pa_nil))))
  (pss_cons (ps_set (i := 8) sc_l_names.nd rfl (by first | exact Or.inl rfl | exact Or.inr rfl) (pe_lst pa_nil))
  (pss_cons (ps_for (passes_of rfl) rfl (pi_range1 (by rfl) (g_range T) (pa_cons (pv 1) pa_nil)) (pg_name (i := 9) sc_l_names.nd rfl (by first | exact Or.inl rfl | exact Or.inr rfl)) (pss_cons (ps_set (i := 10) sc_l_names.nd rfl (by first | exact Or.inl rfl | exact Or.inr rfl) (pe_op op_add_str (pe_op op_add_str (pv 5) (pe_ix ix_str (pv 3) (pe_op op_mod (pe_callTy call_int1 (by rfl) (g_int T) (by decide +kernel) (pa_cons (pe_op op_add (pv 7) (pe_op op_mul pe_int (pv 9))) pa_nil)) pe_int) (fun _ _ => rfl))) (pv 6)))
  (pss_cons (ps_if (pt_cmpR op_eq (pv 4) pe_int (nomark _)) (pss_one (ps_set (i := 10) sc_l_names.nd rfl (by first | exact Or.inl rfl | exact Or.inr rfl) (pe_op op_add_str (pe_ix ix_str (pv 2) (pe_op op_mod (pe_callTy call_int1 (by rfl) (g_int T) (by decide +kernel) (pa_cons (pe_op op_add (pv 7) (pe_op op_mul pe_int (pv 9))) pa_nil)) pe_int) (fun _ _ => rfl)) (pe_call (ok_l_word T) (hr.mono (by decide)) (by rfl) (g__law_word T) (fd_l_word T).kp (b_l_word T) .nil passD (pa_cons (pv 0) (pa_cons (pe_call (ok_l_draw T) (hr.mono (by decide)) (by rfl) (g__law_draw T) (fd_l_draw T).kp (b_l_draw T) .nil passD (pa_cons (pv 0) (pa_cons pe_int pa_nil))) pa_nil)))))) pss_nil)
  (pss_cons (ps_if (pt_cmpR op_eq (pv 4) pe_int (nomark _)) (pss_one (ps_set (i := 10) sc_l_names.nd rfl (by first | exact Or.inl rfl | exact Or.inr rfl) (pe_op op_add_str (pe_ix ix_str (pv 2) (pe_call (ok_l_draw T) (hr.mono (by decide)) (by rfl) (g__law_draw T) (fd_l_draw T).kp (b_l_draw T) .nil passD (pa_cons (pv 0) (pa_cons pe_int pa_nil))) (fun _ _ => rfl)) (pe_call (ok_l_word T) (hr.mono (by decide)) (by rfl) (g__law_word T) (fd_l_word T).kp (b_l_word T) .nil passD (pa_cons (pv 0) (pa_cons (pe_call (ok_l_draw T) (hr.mono (by decide)) (by rfl) (g__law_draw T) (fd_l_draw T).kp (b_l_draw T) .nil passD (pa_cons (pv 0) (pa_cons pe_int pa_nil))) pa_nil)))))) pss_nil)
  (pss_cons (ps_for (passes_of rfl) rfl (pi_range1 (by rfl) (g_range T) (pa_cons pe_int pa_nil)) (pg_name (i := 11) sc_l_names.nd rfl (by first | exact Or.inl rfl | exact Or.inr rfl)) (pss_one (ps_if (PW.pt (pw_and (pt_cmpR op_in_seq (pv 10) (pv 8) (by rfl)) (pw_and1 (pt_cmpR op_notIn_seq (pe_op op_add_str pe_str (pe_callTy call_str_int (by rfl) (g_str T) (by decide +kernel) (pa_cons (pv 11) pa_nil))) (pv 8) (by rfl))))) (pss_one (ps_set (i := 10) sc_l_names.nd rfl (by first | exact Or.inl rfl | exact Or.inr rfl) (pe_op op_add_str pe_str (pe_callTy call_str_int (by rfl) (g_str T) (by decide +kernel) (pa_cons (pv 11) pa_nil))))) pss_nil)))
  (pss_one (ps_expr (pe_bm PySem.F.plainAttrs_list PySem.F.slot_list_append PySem.F.type_list_append mt_append (pv 8) (pa_cons (pv 10) pa_nil)))))))))
  (pss_one (ps_ret (pv 8)))))))))))
theorem fd_l_pool (T : Tx fa fn K mg) : FunAt K d_l_pool := T.c.def_ 3 rfl
theorem b_l_pool (T : Tx fa fn K mg) : Binds K (fdA K (d_l_pool.adr K)) [(Str.ofString "_law_script")] [] := (fd_l_pool T).bindsN fun _ _ _ _ _ _ us hl => match us, hl with | [_], _ => rfl
theorem sc_l_pool : FnScope N_l_pool [(Str.ofString "_law_script")] (defScope s_l_pool) := ⟨rfl, rfl, rfl, by decide +kernel, rfl, by decide +kernel, by decide +kernel⟩
set_option maxHeartbeats 4000000 in
theorem ok_l_pool (T : Tx fa fn K mg) : FnOk P w K mg base (L2.CX P w) 1 (d_l_pool.adr K) (fdA K (d_l_pool.adr K)) [(Str.ofString "_law_script")] (sp_l_pool K) := by
  refine (fd_l_pool T).ok (CX := L2.CX P w) (k := 0) sc_l_pool len_l_pool (fun cdv A outer s H vs Q E hr h => ⟨t_l_pool K E, ?_, rd_l_pool h⟩)
  exact (pss_cons (ps_setLc (i := 1) (own := [((Str.ofString "_law_cell"), 2)]) (by rfl) sc_l_pool.nd rfl rfl (sw_true rfl rfl rfl (by decide +kernel)) (pi_list (pv 0)) (blkOk_by (own := [((Str.ofString "_law_cell"), 2)]) (N := N_l_pool) (sc := defScope s_l_pool) (by decide +kernel)) (fun _ _ _ _ _ => (pg_name (i := 2) sc_l_pool.nd rfl (by first | exact Or.inl rfl | exact Or.inr rfl))) (fun _ _ _ _ _ => pts_nil) (fun _ _ _ _ _ => (pe_callTy call_int1 (by rfl) (g_int T) (by decide +kernel) (pa_cons (pv 2) pa_nil))))
  (pss_cons (ps_set (i := 3) sc_l_pool.nd rfl (by first | exact Or.inl rfl | exact Or.inr rfl) pe_int)
  (pss_cons (ps_if (PW.pt (pw_and (pt_cmpR op_gt (pe_callB call_len_seq (by rfl) (g_len T) (by decide +kernel) (pa_cons (pv 1) pa_nil)) pe_int (nomark _)) (pw_and1 (pt_cmpR op_ge (pe_ix ix_list (pv 1) pe_int (fun _ _ => rfl)) (pe_op op_pow pe_int pe_int) (nomark _))))) (pss_one (ps_set (i := 3) sc_l_pool.nd rfl (by first | exact Or.inl rfl | exact Or.inr rfl) (pe_ix ix_list (pv 1) pe_int (fun _ _ => rfl)))) pss_nil)
  (pss_one (ps_ret (pe_lst (pa_cons (pv 3) (pa_cons pe_int (pa_cons (pv 1) pa_nil)))))))))
theorem fd_l_same_truth (T : Tx fa fn K mg) : FunAt K d_l_same_truth := T.c.def_ 4 rfl
theorem b_l_same_truth (T : Tx fa fn K mg) : Binds K (fdA K (d_l_same_truth.adr K)) [(Str.ofString "_law_actual"), (Str.ofString "_law_due")] [] := (fd_l_same_truth T).bindsN fun _ _ _ _ _ _ us hl => match us, hl with | [_, _], _ => rfl
theorem sc_l_same_truth : FnScope N_l_same_truth [(Str.ofString "_law_actual"), (Str.ofString "_law_due")] (defScope s_l_same_truth) := ⟨rfl, rfl, rfl, by decide +kernel, rfl, by decide +kernel, by decide +kernel⟩
set_option maxHeartbeats 4000000 in
theorem ok_l_same_truth (T : Tx fa fn K mg) : FnOk P w K mg base (L2.CX P w) 1 (d_l_same_truth.adr K) (fdA K (d_l_same_truth.adr K)) [(Str.ofString "_law_actual"), (Str.ofString "_law_due")] (sp_l_same_truth K) := by
  refine (fd_l_same_truth T).ok (CX := L2.CX P w) (k := 0) sc_l_same_truth len_l_same_truth (fun cdv A outer s H vs Q E hr h => ⟨t_l_same_truth K E, ?_, rd_l_same_truth h⟩)
  exact (pss_one (ps_ret (pe_and (pe_callB call_isi (by rfl) (g_isinstance T) (by decide +kernel) (pa_cons (pv 0) (pa_cons (pe_bltn (by rfl) (g_bool T) (by decide +kernel) rfl) pa_nil))) (pe_one (pe_cmpR op_eq (pv 0) (pv 1) (nomark _))))))
theorem fd_l_sign (T : Tx fa fn K mg) : FunAt K d_l_sign := T.c.def_ 5 rfl
theorem b_l_sign (T : Tx fa fn K mg) : Binds K (fdA K (d_l_sign.adr K)) [(Str.ofString "_law_pool_here")] [] := (fd_l_sign T).bindsN fun _ _ _ _ _ _ us hl => match us, hl with | [_], _ => rfl
theorem sc_l_sign : FnScope N_l_sign [(Str.ofString "_law_pool_here")] (defScope s_l_sign) := ⟨rfl, rfl, rfl, by decide +kernel, rfl, by decide +kernel, by decide +kernel⟩
set_option maxHeartbeats 4000000 in
theorem ok_l_sign (T : Tx fa fn K mg) : FnOk P w K mg base (L2.CX P w) 2 (d_l_sign.adr K) (fdA K (d_l_sign.adr K)) [(Str.ofString "_law_pool_here")] (sp_l_sign K) := by
  refine (fd_l_sign T).ok (CX := L2.CX P w) (k := 1) sc_l_sign len_l_sign (fun cdv A outer s H vs Q E hr h => ⟨t_l_sign K E, ?_, rd_l_sign h⟩)
  exact (pss_cons (ps_set (i := 1) sc_l_sign.nd rfl (by first | exact Or.inl rfl | exact Or.inr rfl) pe_str)
  (pss_cons (ps_set (i := 1) sc_l_sign.nd rfl (by first | exact Or.inl rfl | exact Or.inr rfl) (pe_op op_add_str (pv 1) pe_str))
  (pss_one (ps_ret (pe_ix ix_str (pv 1) (pe_call (ok_l_draw T) (hr.mono (by decide)) (by rfl) (g__law_draw T) (fd_l_draw T).kp (b_l_draw T) .nil passD (pa_cons (pv 0) (pa_cons pe_int pa_nil))) (fun _ _ => rfl))))))
theorem fd_l_text (T : Tx fa fn K mg) : FunAt K d_l_text := T.c.def_ 6 rfl
theorem b_l_text (T : Tx fa fn K mg) : Binds K (fdA K (d_l_text.adr K)) [(Str.ofString "_law_pool_here"), (Str.ofString "_law_way")] [] := (fd_l_text T).bindsN fun _ _ _ _ _ _ us hl => match us, hl with | [_, _], _ => rfl
theorem sc_l_text : FnScope N_l_text [(Str.ofString "_law_pool_here"), (Str.ofString "_law_way")] (defScope s_l_text) := ⟨rfl, rfl, rfl, by decide +kernel, rfl, by decide +kernel, by decide +kernel⟩
set_option maxHeartbeats 4000000 in
theorem ok_l_text (T : Tx fa fn K mg) : FnOk P w K mg base (L2.CX P w) 3 (d_l_text.adr K) (fdA K (d_l_text.adr K)) [(Str.ofString "_law_pool_here"), (Str.ofString "_law_way")] (sp_l_text K) := by
  refine (fd_l_text T).ok (CX := L2.CX P w) (k := 2) sc_l_text len_l_text (fun cdv A outer s H vs Q E hr h => ⟨t_l_text K E, ?_, rd_l_text h⟩)
  exact (pss_cons (ps_set (i := 2) sc_l_text.nd rfl (by first | exact Or.inl rfl | exact Or.inr rfl) (pe_call (ok_l_draw T) (hr.mono (by decide)) (by rfl) (g__law_draw T) (fd_l_draw T).kp (b_l_draw T) .nil passD (pa_cons (pv 0) (pa_cons pe_int pa_nil))))
  (pss_cons (ps_if (pt_cmpR op_eq (pe_call (ok_l_draw T) (hr.mono (by decide)) (by rfl) (g__law_draw T) (fd_l_draw T).kp (b_l_draw T) .nil passD (pa_cons (pv 0) (pa_cons pe_int pa_nil))) pe_int (nomark _)) (pss_one (ps_set (i := 2) sc_l_text.nd rfl (by first | exact Or.inl rfl | exact Or.inr rfl) (pe_call (ok_l_draw T) (hr.mono (by decide)) (by rfl) (g__law_draw T) (fd_l_draw T).kp (b_l_draw T) .nil passD (pa_cons (pv 0) (pa_cons pe_int pa_nil))))) pss_nil)
  (pss_cons (ps_if (pt_cmpR op_eq (pv 1) pe_int (nomark _)) (pss_one (ps_ret (pe_call (ok_l_word T) (hr.mono (by decide)) (by rfl) (g__law_word T) (fd_l_word T).kp (b_l_word T) .nil passD (pa_cons (pv 0) (pa_cons (pv 2) pa_nil))))) pss_nil)
  (pss_cons (ps_set (i := 3) sc_l_text.nd rfl (by first | exact Or.inl rfl | exact Or.inr rfl) pe_str)
  (pss_cons (ps_for (passes_of rfl) rfl (pi_range1 (by rfl) (g_range T) (pa_cons (pv 2) pa_nil)) (pg_name (i := 4) sc_l_text.nd rfl (by first | exact Or.inl rfl | exact Or.inr rfl)) (pss_one (ps_set (i := 3) sc_l_text.nd rfl (by first | exact Or.inl rfl | exact Or.inr rfl) (pe_op op_add_str (pv 3) (pe_call (ok_l_sign T) (hr.mono (by decide)) (by rfl) (g__law_sign T) (fd_l_sign T).kp (b_l_sign T) .nil passD (pa_cons (pv 0) pa_nil))))))
  (pss_one (ps_ret (pv 3))))))))
theorem fd_l_valid (T : Tx fa fn K mg) : FunAt K d_l_valid := T.c.def_ 7 rfl
theorem b_l_valid (T : Tx fa fn K mg) : Binds K (fdA K (d_l_valid.adr K)) [(Str.ofString "_law_text_here")] [] := (fd_l_valid T).bindsN fun _ _ _ _ _ _ us hl => match us, hl with | [_], _ => rfl
theorem sc_l_valid : FnScope N_l_valid [(Str.ofString "_law_text_here")] (defScope s_l_valid) := ⟨rfl, rfl, rfl, by decide +kernel, rfl, by decide +kernel, by decide +kernel⟩
set_option maxHeartbeats 4000000 in
theorem ok_l_valid (T : Tx fa fn K mg) : FnOk P w K mg base (L2.CX P w) 1 (d_l_valid.adr K) (fdA K (d_l_valid.adr K)) [(Str.ofString "_law_text_here")] (sp_l_valid K) := by
  refine (fd_l_valid T).ok (CX := L2.CX P w) (k := 0) sc_l_valid len_l_valid (fun cdv A outer s H vs Q E hr h => ⟨t_l_valid K E, ?_, rd_l_valid h⟩)
  exact (pss_cons (ps_set (i := 1) sc_l_valid.nd rfl (by first | exact Or.inl rfl | exact Or.inr rfl) pe_str)
  (pss_cons (ps_setLc (i := 2) (own := [((Str.ofString "_law_sign_here"), 3)]) (by rfl) sc_l_valid.nd rfl rfl (sw_true rfl rfl rfl (by decide +kernel)) (pi_str (pv 0)) (blkOk_by (own := [((Str.ofString "_law_sign_here"), 3)]) (N := N_l_valid) (sc := defScope s_l_valid) (by decide +kernel)) (fun _ _ _ _ _ => (pg_name (i := 3) sc_l_valid.nd rfl (by first | exact Or.inl rfl | exact Or.inr rfl))) (fun _ _ _ _ _ => pts_nil) (fun _ _ _ _ _ => (pe_bm PySem.F.plainAttrs_str PySem.F.slot_str_find PySem.F.type_str_find mt_find (pv 1) (pa_cons (pv 3) pa_nil))))
  (pss_cons (ps_if (PW.pt (pw_or (pt_cmpR op_lt (pe_callB call_len_seq (by rfl) (g_len T) (by decide +kernel) (pa_cons (pv 2) pa_nil)) pe_int (nomark _)) (pw_or1 (pt_cmpR op_gt (pe_callB call_len_seq (by rfl) (g_len T) (by decide +kernel) (pa_cons (pv 2) pa_nil)) pe_int (nomark _))))) (pss_one (ps_ret pe_bl)) pss_nil)
  (pss_one (ps_ret (pe_and (pe_cmpR op_ge (pe_callB (cr_min rfl) (by rfl) (g_min T) (by decide +kernel) (pa_cons (pv 2) pa_nil)) pe_int (nomark _)) (pe_one (pe_cmpR op_lt (pe_ix ix_list (pv 2) pe_int (fun _ _ => rfl)) pe_int (nomark _)))))))))
theorem fd_is_name (T : Tx fa fn K mg) : FunAt K d_is_name := T.c.def_ 8 rfl
theorem b_is_name (T : Tx fa fn K mg) : Binds K (fdA K (d_is_name.adr K)) [(Str.ofString "text")] [] := (fd_is_name T).bindsN fun _ _ _ _ _ _ us hl => match us, hl with | [_], _ => rfl
theorem sc_is_name : FnScope N_is_name [(Str.ofString "text")] (defScope s_is_name) := ⟨rfl, rfl, rfl, by decide +kernel, rfl, by decide +kernel, by decide +kernel⟩
set_option maxHeartbeats 4000000 in
theorem ok_is_name (T : Tx fa fn K mg) : FnOk P w K mg base (L2.CX P w) 1 (d_is_name.adr K) (fdA K (d_is_name.adr K)) [(Str.ofString "text")] (sp_is_name K) := by
  refine (fd_is_name T).ok (CX := L2.CX P w) (k := 0) sc_is_name len_is_name (fun cdv A outer s H vs Q E hr h => ⟨t_is_name K E, ?_, rd_is_name h⟩)
  exact (pss_cons (ps_if (PW.pt (pw_or (pt_not (pt_chain op_le op_le pe_int (pe_callB call_len_str (by rfl) (g_len T) (by decide +kernel) (pa_cons (pv 0) pa_nil)) pe_int)) (pw_or1 (pt_cmpR op_notIn_sign (pe_ix ix_str (pv 0) pe_int (fun _ _ => rfl)) (pe_globT (by rfl) (str_rel (g_LETTERS T))) (by rfl))))) (pss_one (ps_ret pe_bl)) pss_nil)
  (pss_cons (ps_for (passes_of rfl) rfl (pi_str (pv 0)) (pg_name (i := 1) sc_is_name.nd rfl (by first | exact Or.inl rfl | exact Or.inr rfl)) (pss_one (ps_if (PW.pt (pw_and (pt_cmpR op_notIn_sign (pv 1) (pe_globT (by rfl) (str_rel (g_LETTERS T))) (by rfl)) (pw_and1 (pt_cmpR op_notIn_sign (pv 1) (pe_globT (by rfl) (str_rel (g_DIGITS T))) (by rfl))))) (pss_one (ps_ret pe_bl)) pss_nil)))
  (pss_one (ps_ret pe_bl))))
theorem fd_law (T : Tx fa fn K mg) : FunAt K d_law := T.c.def_ 9 rfl
theorem b_law (T : Tx fa fn K mg) : Binds K (fdA K (d_law.adr K)) [(Str.ofString "_law_script")] [] := (fd_law T).bindsN fun _ _ _ _ _ _ us hl => match us, hl with | [_], _ => rfl
theorem sc_law : FnScope N_law [(Str.ofString "_law_script")] (defScope s_law) := ⟨rfl, rfl, rfl, by decide +kernel, rfl, by decide +kernel, by decide +kernel⟩
set_option maxHeartbeats 4000000 in
theorem ok_law (T : Tx fa fn K mg) : FnOk P w K mg base (L2.CX P w) 4 (d_law.adr K) (fdA K (d_law.adr K)) [(Str.ofString "_law_script")] (sp_law K) := by
  refine (fd_law T).ok (CX := L2.CX P w) (k := 3) sc_law len_law (fun cdv A outer s H vs Q E hr h => ⟨t_law K E, ?_, rd_law h⟩)
  exact (pss_cons (ps_set (i := 1) sc_law.nd rfl (by first | exact Or.inl rfl | exact Or.inr rfl) (pe_call (ok_l_pool T) (hr.mono (by decide)) (by rfl) (g__law_pool T) (fd_l_pool T).kp (b_l_pool T) .nil passD (pa_cons (pv 0) pa_nil)))
  (pss_cons (ps_set (i := 2) sc_law.nd rfl (by first | exact Or.inl rfl | exact Or.inr rfl) (pe_call (ok_l_draw T) (hr.mono (by decide)) (by rfl) (g__law_draw T) (fd_l_draw T).kp (b_l_draw T) .nil passD (pa_cons (pv 1) (pa_cons pe_int pa_nil))))
  (pss_cons (ps_set (i := 3) sc_law.nd rfl (by first | exact Or.inl rfl | exact Or.inr rfl) (pe_ix ix_list (pe_call (ok_l_names T) (hr.mono (by decide)) (by rfl) (g__law_names T) (fd_l_names T).kp (b_l_names T) .nil passD (pa_cons (pv 1) (pa_cons pe_int pa_nil))) pe_int (fun _ _ => rfl)))
  (pss_cons (ps_set (i := 4) sc_law.nd rfl (by first | exact Or.inl rfl | exact Or.inr rfl) pe_str)
  (pss_cons (ps_if (pt_cmpR op_lt (pv 2) pe_int (nomark _)) (pss_one (ps_set (i := 4) sc_law.nd rfl (by first | exact Or.inl rfl | exact Or.inr rfl) (pe_call (ok_l_text T) (hr.mono (by decide)) (by rfl) (g__law_text T) (fd_l_text T).kp (b_l_text T) .nil passD (pa_cons (pv 1) (pa_cons (pv 2) pa_nil))))) (pss_one (ps_if (pt_cmpR op_eq (pv 2) pe_int (nomark _)) (pss_cons (ps_set (i := 5) sc_law.nd rfl (by first | exact Or.inl rfl | exact Or.inr rfl) (pe_call (ok_l_draw T) (hr.mono (by decide)) (by rfl) (g__law_draw T) (fd_l_draw T).kp (b_l_draw T) .nil passD (pa_cons (pv 1) (pa_cons (pe_callB call_len_str (by rfl) (g_len T) (by decide +kernel) (pa_cons (pv 3) pa_nil)) pa_nil))))
  (pss_one (ps_set (i := 4) sc_law.nd rfl (by first | exact Or.inl rfl | exact Or.inr rfl) (pe_op op_add_str (pe_op op_add_str (pe_slice sl_str (pv 3) po_none (po_some (pv 5))) (pe_call (ok_l_sign T) (hr.mono (by decide)) (by rfl) (g__law_sign T) (fd_l_sign T).kp (b_l_sign T) .nil passD (pa_cons (pv 1) pa_nil))) (pe_slice sl_str (pv 3) (po_some (pe_op op_add (pv 5) pe_int)) po_none))))) (pss_one (ps_set (i := 4) sc_law.nd rfl (by first | exact Or.inl rfl | exact Or.inr rfl) (pe_op op_add_str (pv 3) (pe_call (ok_l_sign T) (hr.mono (by decide)) (by rfl) (g__law_sign T) (fd_l_sign T).kp (b_l_sign T) .nil passD (pa_cons (pv 1) pa_nil))))))))
  (pss_cons (ps_set (i := 6) sc_law.nd rfl (by first | exact Or.inl rfl | exact Or.inr rfl) (pe_call (ok_l_valid T) (hr.mono (by decide)) (by rfl) (g__law_valid T) (fd_l_valid T).kp (b_l_valid T) .nil passD (pa_cons (pv 4) pa_nil)))
  (pss_cons (ps_if (pt_not (pt_val (pe_call (ok_l_same_truth T) (hr.mono (by decide)) (by rfl) (g__law_same_truth T) (fd_l_same_truth T).kp (b_l_same_truth T) .nil passD (pa_cons (pe_call (ok_is_name T) (hr.mono (by decide)) (by rfl) (g_is_name T) (fd_is_name T).kp (b_is_name T) .nil passD (pa_cons (pv 4) pa_nil)) (pa_cons (pv 6) pa_nil))))) (pss_one (ps_ret pe_bl)) pss_nil)
  (pss_cons (ps_if (pt_not (pt_val (pe_call (ok_l_same_truth T) (hr.mono (by decide)) (by rfl) (g__law_same_truth T) (fd_l_same_truth T).kp (b_l_same_truth T) .nil passD (pa_cons (pe_call (ok_is_name T) (hr.mono (by decide)) (by rfl) (g_is_name T) (fd_is_name T).kp (b_is_name T) .nil passD (pa_cons (pv 3) pa_nil)) (pa_cons pe_bl pa_nil))))) (pss_one (ps_ret pe_bl)) pss_nil)
  (pss_one (ps_ret (pe_call (ok_l_same_truth T) (hr.mono (by decide)) (by rfl) (g__law_same_truth T) (fd_l_same_truth T).kp (b_l_same_truth T) .nil passD (pa_cons (pe_call (ok_is_name T) (hr.mono (by decide)) (by rfl) (g_is_name T) (fd_is_name T).kp (b_is_name T) .nil passD (pa_cons (pv 4) pa_nil)) (pa_cons (pv 6) pa_nil)))))))))))))
end
end Rm

/-! ### the head and the end -/
namespace Rm
open PySem PySem.W PySem.Calls PyProof.Rows
abbrev names0 : List PySem.Str := [(Str.ofString "__name__"), (Str.ofString "LETTERS"), (Str.ofString "DIGITS"), (Str.ofString "is_name"), (Str.ofString "_law_pool"), (Str.ofString "_law_draw"), (Str.ofString "_law_word"), (Str.ofString "_law_names"), (Str.ofString "_law_sign"), (Str.ofString "_law_text"), (Str.ofString "_law_valid"), (Str.ofString "_law_same_truth")]
abbrev names : List PySem.Str := names0
abbrev RR : PySem.W.OpenRow := PySem.W.OpenLaw.row PySem.Challenge.rw_roundminutes_k01_valid_names
abbrev hk : PySem.W.Hook := hookX 4 fa fn
def ob (s : PySem.W.SharedT) : He.AlD := obsXG 4 fa fn (HandSHeadRun.getT s)
theorem ob_eq (s : PySem.W.SharedT) : ob s = hk.obs s.abs := obsXG_eq (HandSHeadRun.getT_eq s)
theorem run (w : World) : HandSHeadRun.RunEq RR (PySem.W.view RR.prog [13]) hk ob 6000 names w := by
  intro os
  kernel_rfl
theorem facts {P : Program} {w : World} {K : PySem.W.Frag} {h : Heap} {mg : PySem.Str → Option Value} {f : Addr} (X : K.In h) (G : h.Ns mainGlobals mg) (hfa : mg (PySem.Str.ofString "law") = some (.ref f)) (c : SaysX fa fn K) :
    ∃ fd : FuncData, (∀ (s : Shared) (v : Value), BindsTo s fd ⟨[v], []⟩ [(PySem.Str.ofString "_law_script", v)]) ∧ ∀ base : Heap, K.In base → base.Ns mainGlobals mg → L2.FnOk P w K mg base (L2.CX P w) 4 f fd [PySem.Str.ofString "_law_script"] (sp_law K) := by
  have T : Tx fa fn K mg := ⟨⟨h, X, G⟩, c⟩
  have e := hfa.symm.trans (g_law T)
  cases e
  have b := (fd_law T).bindsA (ps := [PySem.Str.ofString "_law_script"]) fun _ _ _ _ _ _ us hl => match us, hl with | [_], _ => rfl
  exact ⟨_, fun s v => b s [v] rfl, fun base _ _ => ok_law T⟩
end Rm
open PySem PySem.W PySem.Calls PyProof.Rows
set_option maxRecDepth 100000 in
set_option maxHeartbeats 0 in
theorem PySem.Challenge.cw_roundminutes_k01_valid_names_holds : PySem.Challenge.rw_roundminutes_k01_valid_names.Holds := by
  w_on; o_law
  refine HandSHeadRun.head_any (r := OpenLaw.row PySem.Challenge.rw_roundminutes_k01_valid_names) (q := view (OpenLaw.row PySem.Challenge.rw_roundminutes_k01_valid_names).prog [13]) (H := Rm.hk) (ob := Rm.ob) (M := 6000) (loose := Rm.names) (d := HandSHeadRun.topDef (OpenLaw.row PySem.Challenge.rw_roundminutes_k01_valid_names).prog 13) (kwd := []) Rm.ob_eq
    (by kernel_rfl) (fun s => by kernel_rfl) Rm.run (by kernel_rfl) (by kernel_rfl) (by kernel_rfl) (by rfl) (by first | assumption | decide +kernel) (by decide +kernel) ⟨rfl, rfl, rfl, rfl, rfl, by decide +kernel⟩ ?hw ?hc
  case hw => w_witness2
  case hc =>
    refine Rm.walk_ofX (l := PySem.Challenge.rw_roundminutes_k01_valid_names) (n := 63) (k := 4) (x := PySem.Str.ofString "_law_script") rfl (by decide) (by kernel_rfl) ⟨rfl, by decide, by decide⟩ ?F
    case F =>
      intro w mg fa h Y G hmg0
      obtain ⟨K, KX, c⟩ := Y
      have hmg : mg (PySem.Str.ofString "law") = some (.ref fa) := by
        have e : (HandSHeadRun.topDef (OpenLaw.row PySem.Challenge.rw_roundminutes_k01_valid_names).prog 13).name = PySem.Str.ofString "law" := by kernel_rfl
        rw [← e]
        exact hmg0
      obtain ⟨fd, hb, hF⟩ := Rm.facts (P := (PySem.Challenge.rw_roundminutes_k01_valid_names).prog) (w := w) KX G hmg c
      exact ⟨K, fd, Rm.sp_law K, KX, hb, fun H a ns hl _ hS => ⟨a, ns, rfl, hS, hl, fun _ => rfl⟩, hF⟩
