import PyProof.Rows.All
import Wide.All
import OpenK.AllK
import Wide.FinOn
import HandS.ForMost
import HandS.Evl
import HandS.IsInst
import HandS.Wide
import HandS.Property
import HandS.Deep
import HandS.Style
import HandS.Defaults
import HandS.More
import HandS.Head0
import HandS.Head1
import HandS.Head2
import HandS.HeadEnd
import HandS.HeadHook1
import HandS.HeadHook2
import HandS.Codes
import HandS.ExcInit
import HandS.Zip
import HandS.TupMul
import HandS.Star
import KE.DataFind
import PyProof.AutoSeq1
import PyProof.ListOps
import HandS.Exc
import HandS.ExcOwn
import HandS.ExcIs
import HandS.ExcField
import HandS.ExcCtx
import HandS.TryMany
import KE.KExcIs
import HandS.ExcValue
import HandS.TryOnly
import HandS.Text
import HandS.TupAny
import HandS.RaiseMore
import HandS.Conv
import KE.DataCmp
import PySem.Challenge.RW_sumslips_k81_whole_slips_as_other_result
set_option Elab.async false
set_option linter.all false
set_option maxRecDepth 100000
set_option maxHeartbeats 8000000
namespace DL
open PySem PySem.Spec PyProof.Rows L2
open Evl (Ex)

/-! ### what the head tells -/
inductive At where
  | glo (x : Str)
  | met (c m : Str)
  | prp (c m : Str)
def pga (K : PySem.W.Frag) (C : Addr) (m : Str) : Addr := match PySem.W.recIn K (He.ma K C m) "property" with
  | some (.ref g :: _) => g
  | _ => 0
def At.ad (K : PySem.W.Frag) : At → Addr
  | .glo x => He.ga K x
  | .met c m => He.ma K (He.ga K c) m
  | .prp c m => pga K (He.ga K c) m
structure DefX where
  at_ : At
  name : Str
  qual : Str
  params : Arguments
  body : List Stmt
  scope : Scope
  dfl : List He.Dv := []
  kwd : List (Str × He.Dv) := []
def fnY (K : PySem.W.Frag) (p : At) : He.FnW := match K.lookup (p.ad K) with
  | some ⟨_, _, .func fd, _⟩ => some (fd.name, fd.qualname, fd.params, fd.body, fd.scope, fd.globals, fd.closure, fd.builtins)
  | _ => none
def DefX.val (d : DefX) : He.FnW := some (d.name, d.qual, d.params, .stmts d.body, d.scope, mainGlobals, [], builtinsNs)
def DefX.dvs (K : PySem.W.Frag) (d : DefX) : List V := d.dfl.map (He.Dv.v K)
def DefX.kws (K : PySem.W.Frag) (d : DefX) : List (Str × V) := d.kwd.map fun q => (q.1, q.2.v K)
def DefX.ok (K : PySem.W.Frag) (d : DefX) : Bool := PySem.W.keepIn K (.ref (d.at_.ad K)) && (match K.lookup (d.at_.ad K) with
  | some ⟨_, _, .func fd, _⟩ => PySem.W.codeIn K fd.code d.qual && (He.dflB K fd.defaults (d.dvs K) && He.kwdB K fd.kwdefaults (d.kws K))
  | _ => false)
theorem DefX.funD {K : PySem.W.Frag} {d : DefX} (e : fnY K d.at_ = d.val) (c : d.ok K = true) : ∃ fd, FunD K d.name d.qual d.params d.body d.scope (d.dvs K) (d.kws K) (d.at_.ad K) fd := by
  obtain ⟨kp, c2⟩ := He.ba c
  unfold fnY at e
  cases q : K.lookup (d.at_.ad K) with
  | none =>
    rw [q] at c2
    cases c2
  | some o =>
    obtain ⟨oc, od, dt, osl⟩ := o
    rw [q] at c2 e
    cases dt with
    | func fd =>
      obtain ⟨n1, n2, n3, n4, n5, n6, n7, n8, n9, n10, n11, n12, n13, n14, n15⟩ := fd
      have e2 : (some (n1, n2, n3, n4, n5, n6, n7, n15) : He.FnW) = some (d.name, d.qual, d.params, .stmts d.body, d.scope, mainGlobals, [], builtinsNs) := e
      simp only [Option.some.injEq, Prod.mk.injEq] at e2
      obtain ⟨h1, h2, h3, h4, h5, h6, h7, h8⟩ := e2
      subst h1 h2 h3 h4 h5 h6 h7 h8
      have c3 : (PySem.W.codeIn K n13 d.qual && (He.dflB K n8 (d.dvs K) && He.kwdB K n9 (d.kws K))) = true := c2
      obtain ⟨k1, k2⟩ := He.ba c3
      obtain ⟨k3, k4⟩ := He.ba k2
      exact ⟨_, ⟨oc, od, n8, n9, n10, n11, n12, n13, n14, osl, rfl, q, k1, He.dflB_ok k3, He.kwdB_ok k4⟩, kp⟩
    | _ => cases c2
/-- no slot of this number operator in the class C -/
structure NoSl (K : PySem.W.Frag) (C : Addr) (nm : String) : Prop where
  cd : ∃ cd, PySem.W.clsIn K C = some cd ∧ cd.mro = [.ref C, .type "object"]
  a : PySem.W.findIn K (.ref C) (PySem.dunder nm) = some none
  b : PySem.W.findIn K (.ref C) (dunderR nm) = some none
  oa : PySem.W.findIn K (.type "object") (PySem.dunder nm) = some none
  ob : PySem.W.findIn K (.type "object") (dunderR nm) = some none
def tysB : List String := ["NoneType", "bool", "int", "str", "tuple", "list", "dict"]
/-- an own exception class with its own __init__, as its object says -/
def oexO (C : Addr) (o : Obj) : Bool := decide (o.cls = .type "type") && match o.data with
  | .cls cd => !cd.hasDel && (cd.hasDict && match cd.mro with
    | .ref C' :: bm => decide (C' = C) && (PySem.HandSPX.refsVE bm && match o.slots.toList with
      | [_, _, _, _, some (.builtin n), _] => decide (n = "ValueError.__new__")
      | _ => false)
    | _ => false)
  | _ => false
def oexB (K : PySem.W.Frag) (C : Addr) : Bool := match K.lookup C with
  | some o => oexO C o
  | none => false
inductive Fx where
  | fa (f : He.Fa)
  | prop (c f : Str)
  | sm (c m : Str)
  | fnin (c m : Str)
  | tup (x : Str) (vs : List He.Dv)
  | insc (c : Str)
  | selff (c : Str)
  | noseq (c : Str)
  | nosl (c : Str) (nm : String)
  | kto (c : Str)
  | excc (c : Str)
  | exm (c : Str) (l : List (Str × Bool))
  | kito (c : Str) (l : List (Str × Bool))
  | kitb (T : String) (l : List (Str × Bool))
  | kita (cs : List Str) (l : List (Str × Bool))
  | oex (c : Str)
  | noix (c : Str)
  | exci (c : Str)
  | nedf (c : Str)
def Fx.ok (K : PySem.W.Frag) : Fx → Bool
  | .fa f => f.ok K
  | .prop c f => He.eqO (PySem.W.findIn K (.ref (He.ga K c)) f) (some (some (.ref (He.ma K (He.ga K c) f)))) && (He.eqO (PySem.W.specialIn K (.ref (He.ma K (He.ga K c) f)) "__get__") (some (some (.builtin "property.__get__"))) &&
      (decide (PySem.W.takesIn K (.ref (He.ma K (He.ga K c) f)) = some true) && (match PySem.W.recIn K (He.ma K (He.ga K c) f) "property" with
        | some (.ref g :: _) => decide (g = pga K (He.ga K c) f)
        | _ => false)))
  | .sm c m => He.eqO (PySem.W.findIn K (.ref (He.ga K c)) m) (some (some (.ref (He.ma K (He.ga K c) m)))) && PySem.W.isFn K (.ref (He.ma K (He.ga K c) m))
  | .fnin c m => PySem.W.fnIn K (He.ma K (He.ga K c) m)
  | .tup x vs => He.tupB K x vs
  | .insc c => (He.Fa.cls c).ok K && (He.eqO (PySem.W.findIn K (.ref (He.ga K c)) "__class__") (some (some (.builtin "object.__class__"))) && (He.eqO (PySem.W.specialIn K (.builtin "object.__class__") "__get__") (some (some (.builtin "getset_descriptor.__get__"))) &&
      (decide (PySem.W.takesIn K (.builtin "object.__class__") = some true) && decide (PySem.W.mroIn K (He.ga K c) (.type "object") = some true))))
  | .selff c => PySem.W.selfFirst K (He.ga K c)
  | .nedf c => He.eqO (PySem.W.findIn K (.ref (He.ga K c)) "__ne__") (some (some (.builtin "object.__ne__"))) && decide (PySem.W.mroIn K (He.ga K c) (.type "object") = some true)
  | .noseq c => PySem.W.noSeq K (He.ga K c)
  | .nosl c nm => (match PySem.W.clsIn K (He.ga K c) with
      | some cd => decide (cd.mro = [.ref (He.ga K c), .type "object"])
      | none => false) && (He.eqO (PySem.W.findIn K (.ref (He.ga K c)) (PySem.dunder nm)) (some none) && (He.eqO (PySem.W.findIn K (.ref (He.ga K c)) (dunderR nm)) (some none) &&
      (He.eqO (PySem.W.findIn K (.type "object") (PySem.dunder nm)) (some none) && He.eqO (PySem.W.findIn K (.type "object") (dunderR nm)) (some none))))
  | .kto c => tysB.all fun a => decide (PySem.W.kitOne K (.type a) (.ref (He.ga K c)) = some false)
  | .excc c => (He.Fa.exc c).ok K && (He.eqO (PySem.W.findIn K (.ref (He.ga K c)) "__getattribute__") (some (some (.builtin "BaseException.__getattribute__"))) && (He.eqO (PySem.W.findIn K (.ref (He.ga K c)) "__getattr__") (some none) &&
      (PySem.W.hasDictIn K (He.ga K c) && (He.eqO (PySem.W.findIn K (.ref (He.ga K c)) "__class__") (some (some (.builtin "object.__class__"))) && (He.eqO (PySem.W.specialIn K (.builtin "object.__class__") "__get__") (some (some (.builtin "getset_descriptor.__get__"))) &&
      (decide (PySem.W.takesIn K (.builtin "object.__class__") = some true) && decide (PySem.W.mroIn K (He.ga K c) (.type "object") = some true)))))))
  | .exm c l => l.all fun p => decide (PySem.W.exmOne K (.ref (He.ga K p.1)) (.ref (He.ga K c)) = some p.2)
  | .kito c l => l.all fun p => decide (PySem.W.kitOne K (.ref (He.ga K p.1)) (.ref (He.ga K c)) = some p.2)
  | .kitb T l => l.all fun p => decide (PySem.W.kitOne K (.ref (He.ga K p.1)) (.type T) = some p.2)
  | .kita cs l => l.all fun p => decide (PySem.W.kitAny K (.ref (He.ga K p.1)) (cs.map fun x => .ref (He.ga K x)) = some p.2)
  | .oex c => oexB K (He.ga K c) && (He.eqO (PySem.W.findIn K (.ref (He.ga K c)) "__setattr__") (some (some (.builtin "object.__setattr__"))) && (decide (PySem.W.subIn K (.ref (He.ga K c)) (.type "BaseException") = some true) &&
      (decide (PySem.W.typeIn K (.ref (He.ga K c)) = some (.type "type")) && PySem.W.keepIn K (.ref (He.ga K c)))))
  | .exci c => decide (PySem.W.subIn K (.ref (He.ga K c)) (.type "BaseException") = some true) && (He.eqO (PySem.W.findIn K (.ref (He.ga K c)) "__getattribute__") (some (some (.builtin "BaseException.__getattribute__"))) && (He.eqO (PySem.W.findIn K (.ref (He.ga K c)) "__getattr__") (some none) &&
      (PySem.W.hasDictIn K (He.ga K c) && (He.eqO (PySem.W.findIn K (.ref (He.ga K c)) "__class__") (some (some (.builtin "object.__class__"))) && (He.eqO (PySem.W.specialIn K (.builtin "object.__class__") "__get__") (some (some (.builtin "getset_descriptor.__get__"))) &&
      (decide (PySem.W.takesIn K (.builtin "object.__class__") = some true) && decide (PySem.W.mroIn K (He.ga K c) (.type "object") = some true)))))))
  | .noix c => He.eqO (PySem.W.findIn K (.ref (He.ga K c)) "index") (some none)
/-! the addresses that are looked at: level by level, each once (a tree of marks in the place of eraseDups: the kernel's run of it is cheap) -/
inductive NT where
  | nil
  | node (b : Bool) (l r : NT)
def NT.mem : Nat → NT → Nat → Bool
  | 0, _, _ => false
  | _ + 1, .nil, _ => false
  | k + 1, .node b l r, i => match Nat.beq i 0 with
    | true => b
    | false => match Nat.beq (i % 2) 1 with
      | true => NT.mem k l (i / 2)
      | false => NT.mem k r (i / 2 - 1)
def NT.ins : Nat → NT → Nat → NT
  | 0, v, _ => v
  | k + 1, .nil, i => match Nat.beq i 0 with
    | true => .node true .nil .nil
    | false => match Nat.beq (i % 2) 1 with
      | true => .node false (NT.ins k .nil (i / 2)) .nil
      | false => .node false .nil (NT.ins k .nil (i / 2 - 1))
  | k + 1, .node b l r, i => match Nat.beq i 0 with
    | true => .node true l r
    | false => match Nat.beq (i % 2) 1 with
      | true => .node b (NT.ins k l (i / 2)) r
      | false => .node b l (NT.ins k r (i / 2 - 1))
def addF : List Addr → NT → List Addr → NT × List Addr
  | [], v, new => (v, new)
  | a :: as, v, new => match NT.mem 20 v a with
    | true => addF as v new
    | false => addF as (NT.ins 20 v a) (a :: new)
def stepF (g : Addr → Option Obj) : List Addr → NT → List Addr → NT × List Addr
  | [], v, new => (v, new)
  | a :: as, v, new => match g a with
    | none => stepF g as v new
    | some o => match addF (He.refsD o) v new with
      | (v', new') => stepF g as v' new'
def walkF (g : Addr → Option Obj) : Nat → List Addr → NT → List Addr → List Addr
  | 0, _, _, acc => acc
  | n + 1, fr, v, acc => match stepF g fr v [] with
    | (v', new) => walkF g n new v' (acc ++ new)
def asF (g : Addr → Option Obj) (n : Nat) : List Addr := walkF g n [mainGlobals] (NT.ins 20 .nil mainGlobals) [mainGlobals]
abbrev AlY : Type := Bool × List He.FnW
def obsY (fa : List Fx) (fn : List DefX) (K : PySem.W.Frag) : AlY := ((fa.all fun f => f.ok K) && fn.all fun d => d.ok K, fn.map fun d => fnY K d.at_)
def valY (fn : List DefX) : AlY := (true, fn.map DefX.val)
def SaysY (fa : List Fx) (fn : List DefX) (K : PySem.W.Frag) : Prop := obsY fa fn K = valY fn
def obsYG (n : Nat) (fa : List Fx) (fn : List DefX) (g : Addr → Option Obj) : AlY := obsY fa fn (He.frG g (asF g n))
def hookY (n : Nat) (fa : List Fx) (fn : List DefX) : PySem.W.Hook where
  α := AlY
  obs := fun s => obsYG n fa fn s.heap.get?
  val := fun _ => valY fn
  says := fun _ h => ∃ K : PySem.W.Frag, K.In h ∧ SaysY fa fn K
  of := fun _ _ e => ⟨_, He.frG_in, e⟩
  keeps := fun _ _ _ ⟨K, hK, c⟩ k => ⟨K, PySem.W.Frag.In.keeps hK k, c⟩
theorem obsYG_eq {n : Nat} {fa : List Fx} {fn : List DefX} {g : Addr → Option Obj} {s : Shared} (h : ∀ a, g a = s.heap.get? a) : obsYG n fa fn g = (hookY n fa fn).obs s := by
  have e : g = s.heap.get? := funext h
  rw [e] <;> rfl
section
variable {fa : List Fx} {fn : List DefX} {K : PySem.W.Frag}
theorem SaysY.fact (c : SaysY fa fn K) (i : Nat) {f : Fx} (h : fa[i]? = some f := by rfl) : f.ok K = true := by
  have c1 := (He.ba (show ((fa.all fun f => f.ok K) && fn.all fun d => d.ok K) = true from congrArg (fun z : AlY => z.1) c)).1
  exact List.all_eq_true.mp c1 f (List.mem_of_getElem? h)
theorem SaysY.def_ (c : SaysY fa fn K) (i : Nat) {d : DefX} (h : fn[i]? = some d := by rfl) : ∃ fd, FunD K d.name d.qual d.params d.body d.scope (d.dvs K) (d.kws K) (d.at_.ad K) fd := by
  have c2 := (He.ba (show ((fa.all fun f => f.ok K) && fn.all fun d => d.ok K) = true from congrArg (fun z : AlY => z.1) c)).2
  have e : fn.map (fun d => fnY K d.at_) = fn.map DefX.val := congrArg (fun z : AlY => z.2) c
  have e2 : (fn.map fun d => fnY K d.at_)[i]? = (fn.map DefX.val)[i]? := by rw [e]
  rw [List.getElem?_map, List.getElem?_map, h] at e2
  exact DefX.funD (Option.some.inj e2) (List.all_eq_true.mp c2 d (List.mem_of_getElem? h))
end
end DL
namespace LW
open PySem PySem.Spec PyProof.Rows L2 DL
open Evl (Ex)
abbrev Rw : PySem.W.OpenRow := PySem.W.OpenLaw.row PySem.Challenge.rw_sumslips_k81_whole_slips_as_other_result
def top (i : Nat) : Stmt := PySem.Challenge.pw_sumslips_k81_whole_slips_as_other_result.main.body.getD i (.Pass ⟨0, 0, 0, 0⟩)
abbrev s_law_bag : Stmt := top 39
abbrev N_law_bag : List Str := ["script", "k", "cell", "whole"]
theorem sc_law_bag : FnScope N_law_bag ["script", "k"] (defScope s_law_bag) := ⟨rfl, rfl, rfl, by decide +kernel, rfl, by decide +kernel, by decide +kernel⟩
abbrev s_law_take : Stmt := top 40
abbrev N_law_take : List Str := ["bag", "many", "found", "mixed"]
theorem sc_law_take : FnScope N_law_take ["bag", "many"] (defScope s_law_take) := ⟨rfl, rfl, rfl, by decide +kernel, rfl, by decide +kernel, by decide +kernel⟩
abbrev s_law_column : Stmt := top 43
abbrev N_law_column : List Str := ["bag", "base", "rows", "row"]
theorem sc_law_column : FnScope N_law_column ["bag", "base", "rows"] (defScope s_law_column) := ⟨rfl, rfl, rfl, by decide +kernel, rfl, by decide +kernel, by decide +kernel⟩
abbrev s_is_integer : Stmt := top 10
abbrev N_is_integer : List Str := ["value"]
theorem sc_is_integer : FnScope N_is_integer ["value"] (defScope s_is_integer) := ⟨rfl, rfl, rfl, by decide +kernel, rfl, by decide +kernel, by decide +kernel⟩
abbrev s_is_column : Stmt := top 11
abbrev N_is_column : List Str := ["value", "base", "rows", "figure"]
theorem sc_is_column : FnScope N_is_column ["value", "base", "rows"] (defScope s_is_column) := ⟨rfl, rfl, rfl, by decide +kernel, rfl, by decide +kernel, by decide +kernel⟩
abbrev s_Sheet_init : Stmt := inClass (top 12) 0
abbrev N_Sheet_init : List Str := ["self", "base", "rows", "columns", "column"]
theorem sc_Sheet_init : FnScope N_Sheet_init ["self", "base", "rows", "columns"] (defScope s_Sheet_init) := ⟨rfl, rfl, rfl, by decide +kernel, rfl, by decide +kernel, by decide +kernel⟩
abbrev s_taken : Stmt := top 17
abbrev N_taken : List Str := ["base", "column", "before", "deed", "figures", "j"]
theorem sc_taken : FnScope N_taken ["base", "column", "before", "deed"] (defScope s_taken) := ⟨rfl, rfl, rfl, by decide +kernel, rfl, by decide +kernel, by decide +kernel⟩
abbrev s_done : Stmt := top 18
abbrev N_done : List Str := ["base", "column", "before", "carry", "deed", "word", "total", "figure", "new_carry"]
theorem sc_done : FnScope N_done ["base", "column", "before", "carry", "deed"] (defScope s_done) := ⟨rfl, rfl, rfl, by decide +kernel, rfl, by decide +kernel, by decide +kernel⟩
abbrev s_Adding_do : Stmt := inClass (top 21) 2
abbrev N_Adding_do : List Str := ["self", "deed", "before", "found", "figures"]
theorem sc_Adding_do : FnScope N_Adding_do ["self", "deed"] (defScope s_Adding_do) := ⟨rfl, rfl, rfl, by decide +kernel, rfl, by decide +kernel, by decide +kernel⟩
abbrev s_Adding_do_until : Stmt := inClass (top 21) 3
abbrev N_Adding_do_until : List Str := ["self", "column"]
theorem sc_Adding_do_until : FnScope N_Adding_do_until ["self", "column"] (defScope s_Adding_do_until) := ⟨rfl, rfl, rfl, by decide +kernel, rfl, by decide +kernel, by decide +kernel⟩
abbrev s_Written_init : Stmt := inClass (top 20) 0
abbrev N_Written_init : List Str := ["self", "base", "figures", "last"]
theorem sc_Written_init : FnScope N_Written_init ["self", "base", "figures", "last"] (defScope s_Written_init) := ⟨rfl, rfl, rfl, by decide +kernel, rfl, by decide +kernel, by decide +kernel⟩
abbrev s_Adding_result : Stmt := inClass (top 21) 4
abbrev N_Adding_result : List Str := ["self"]
theorem sc_Adding_result : FnScope N_Adding_result ["self"] (defScope s_Adding_result) := ⟨rfl, rfl, rfl, by decide +kernel, rfl, by decide +kernel, by decide +kernel⟩
abbrev s_Sheet_base : Stmt := inClass (top 12) 1
abbrev N_Sheet_base : List Str := ["self"]
theorem sc_Sheet_base : FnScope N_Sheet_base ["self"] (defScope s_Sheet_base) := ⟨rfl, rfl, rfl, by decide +kernel, rfl, by decide +kernel, by decide +kernel⟩
abbrev s_Sheet_columns : Stmt := inClass (top 12) 3
abbrev N_Sheet_columns : List Str := ["self"]
theorem sc_Sheet_columns : FnScope N_Sheet_columns ["self"] (defScope s_Sheet_columns) := ⟨rfl, rfl, rfl, by decide +kernel, rfl, by decide +kernel, by decide +kernel⟩
abbrev s_Adding_init : Stmt := inClass (top 21) 0
abbrev N_Adding_init : List Str := ["self", "sheet"]
theorem sc_Adding_init : FnScope N_Adding_init ["self", "sheet"] (defScope s_Adding_init) := ⟨rfl, rfl, rfl, by decide +kernel, rfl, by decide +kernel, by decide +kernel⟩
abbrev s_add_right : Stmt := top 23
abbrev N_add_right : List Str := ["sheet"]
theorem sc_add_right : FnScope N_add_right ["sheet"] (defScope s_add_right) := ⟨rfl, rfl, rfl, by decide +kernel, rfl, by decide +kernel, by decide +kernel⟩
abbrev s_Written_figures : Stmt := inClass (top 20) 2
abbrev N_Written_figures : List Str := ["self"]
theorem sc_Written_figures : FnScope N_Written_figures ["self"] (defScope s_Written_figures) := ⟨rfl, rfl, rfl, by decide +kernel, rfl, by decide +kernel, by decide +kernel⟩
abbrev s_Sheet_len : Stmt := inClass (top 12) 5
abbrev N_Sheet_len : List Str := ["self"]
theorem sc_Sheet_len : FnScope N_Sheet_len ["self"] (defScope s_Sheet_len) := ⟨rfl, rfl, rfl, by decide +kernel, rfl, by decide +kernel, by decide +kernel⟩
abbrev s_law_power : Stmt := top 42
abbrev N_law_power : List Str := ["base", "many", "found", "turn"]
theorem sc_law_power : FnScope N_law_power ["base", "many"] (defScope s_law_power) := ⟨rfl, rfl, rfl, by decide +kernel, rfl, by decide +kernel, by decide +kernel⟩
abbrev s_law_marked : Stmt := top 49
abbrev N_law_marked : List Str := ["bag", "sheet", "right", "slips", "figures", "gap", "at", "lap", "way", "power", "act", "figure", "one", "other"]
theorem sc_law_marked : FnScope N_law_marked ["bag", "sheet", "right"] (defScope s_law_marked) := ⟨rfl, rfl, rfl, by decide +kernel, rfl, by decide +kernel, by decide +kernel⟩
abbrev s_is_deed : Stmt := top 16
abbrev N_is_deed : List Str := ["value", "base", "rows", "word", "part"]
theorem sc_is_deed : FnScope N_is_deed ["value", "base", "rows"] (defScope s_is_deed) := ⟨rfl, rfl, rfl, by decide +kernel, rfl, by decide +kernel, by decide +kernel⟩
abbrev s_Sheet_rows : Stmt := inClass (top 12) 2
abbrev N_Sheet_rows : List Str := ["self"]
theorem sc_Sheet_rows : FnScope N_Sheet_rows ["self"] (defScope s_Sheet_rows) := ⟨rfl, rfl, rfl, by decide +kernel, rfl, by decide +kernel, by decide +kernel⟩
abbrev s_is_slip : Stmt := top 22
abbrev N_is_slip : List Str := ["value", "sheet", "low"]
theorem sc_is_slip : FnScope N_is_slip ["value", "sheet", "low"] (defScope s_is_slip) := ⟨rfl, rfl, rfl, by decide +kernel, rfl, by decide +kernel, by decide +kernel⟩
abbrev s_Adding_free : Stmt := inClass (top 21) 1
abbrev N_Adding_free : List Str := ["self"]
theorem sc_Adding_free : FnScope N_Adding_free ["self"] (defScope s_Adding_free) := ⟨rfl, rfl, rfl, by decide +kernel, rfl, by decide +kernel, by decide +kernel⟩
abbrev s_InvalidSlips_init : Stmt := inClass (top 8) 0
abbrev N_InvalidSlips_init : List Str := ["self", "index"]
theorem sc_InvalidSlips_init : FnScope N_InvalidSlips_init ["self", "index"] (defScope s_InvalidSlips_init) := ⟨rfl, rfl, rfl, by decide +kernel, rfl, by decide +kernel, by decide +kernel⟩
abbrev s_add_with : Stmt := top 24
abbrev N_add_with : List Str := ["sheet", "slips", "adding", "index", "item"]
theorem sc_add_with : FnScope N_add_with ["sheet", "slips"] (defScope s_add_with) := ⟨rfl, rfl, rfl, by decide +kernel, rfl, by decide +kernel, by decide +kernel⟩
abbrev s_Written_eq : Stmt := inClass (top 20) 7
abbrev N_Written_eq : List Str := ["self", "other"]
theorem sc_Written_eq : FnScope N_Written_eq ["self", "other"] (defScope s_Written_eq) := ⟨rfl, rfl, rfl, by decide +kernel, rfl, by decide +kernel, by decide +kernel⟩
abbrev s_Written_last : Stmt := inClass (top 20) 3
abbrev N_Written_last : List Str := ["self"]
theorem sc_Written_last : FnScope N_Written_last ["self"] (defScope s_Written_last) := ⟨rfl, rfl, rfl, by decide +kernel, rfl, by decide +kernel, by decide +kernel⟩
abbrev s_Written_value : Stmt := inClass (top 20) 4
abbrev N_Written_value : List Str := ["self", "total", "figure"]
theorem sc_Written_value : FnScope N_Written_value ["self"] (defScope s_Written_value) := ⟨rfl, rfl, rfl, by decide +kernel, rfl, by decide +kernel, by decide +kernel⟩
abbrev s_Sheet_value : Stmt := inClass (top 12) 4
abbrev N_Sheet_value : List Str := ["self", "total", "column"]
theorem sc_Sheet_value : FnScope N_Sheet_value ["self"] (defScope s_Sheet_value) := ⟨rfl, rfl, rfl, by decide +kernel, rfl, by decide +kernel, by decide +kernel⟩
abbrev s_Written_sub : Stmt := inClass (top 20) 6
abbrev N_Written_sub : List Str := ["self", "other"]
theorem sc_Written_sub : FnScope N_Written_sub ["self", "other"] (defScope s_Written_sub) := ⟨rfl, rfl, rfl, by decide +kernel, rfl, by decide +kernel, by decide +kernel⟩
abbrev s_law_lot : Stmt := top 46
abbrev N_law_lot : List Str := ["bag", "most", "greatest", "found", "turn", "divisor"]
theorem sc_law_lot : FnScope N_law_lot ["bag", "most", "greatest"] (defScope s_law_lot) := ⟨rfl, rfl, rfl, by decide +kernel, rfl, by decide +kernel, by decide +kernel⟩
abbrev s_number_of_columns : Stmt := top 36
abbrev N_number_of_columns : List Str := ["base", "rows", "many", "j"]
theorem sc_number_of_columns : FnScope N_number_of_columns ["base", "rows"] (defScope s_number_of_columns) := ⟨rfl, rfl, rfl, by decide +kernel, rfl, by decide +kernel, by decide +kernel⟩
abbrev s_all_deeds : Stmt := top 15
abbrev N_all_deeds : List Str := ["base", "rows", "deeds", "d", "j"]
theorem sc_all_deeds : FnScope N_all_deeds ["base", "rows"] (defScope s_all_deeds) := ⟨rfl, rfl, rfl, by decide +kernel, rfl, by decide +kernel, by decide +kernel⟩
abbrev s_Kind_init : Stmt := inClass (top 37) 0
abbrev N_Kind_init : List Str := ["self", "base", "rows", "deeds", "most", "held", "deed"]
theorem sc_Kind_init : FnScope N_Kind_init ["self", "base", "rows", "deeds", "most"] (defScope s_Kind_init) := ⟨rfl, rfl, rfl, by decide +kernel, rfl, by decide +kernel, by decide +kernel⟩
abbrev s_check_lot : Stmt := top 26
abbrev N_check_lot : List Str := ["lot", "place", "divisor"]
theorem sc_check_lot : FnScope N_check_lot ["lot"] (defScope s_check_lot) := ⟨rfl, rfl, rfl, by decide +kernel, rfl, by decide +kernel, by decide +kernel⟩
abbrev s_Kind_base : Stmt := inClass (top 37) 1
abbrev N_Kind_base : List Str := ["self"]
theorem sc_Kind_base : FnScope N_Kind_base ["self"] (defScope s_Kind_base) := ⟨rfl, rfl, rfl, by decide +kernel, rfl, by decide +kernel, by decide +kernel⟩
abbrev s_Kind_rows : Stmt := inClass (top 37) 2
abbrev N_Kind_rows : List Str := ["self"]
theorem sc_Kind_rows : FnScope N_Kind_rows ["self"] (defScope s_Kind_rows) := ⟨rfl, rfl, rfl, by decide +kernel, rfl, by decide +kernel, by decide +kernel⟩
abbrev s_check_alike : Stmt := top 28
abbrev N_check_alike : List Str := ["kind", "sheet"]
theorem sc_check_alike : FnScope N_check_alike ["kind", "sheet"] (defScope s_check_alike) := ⟨rfl, rfl, rfl, by decide +kernel, rfl, by decide +kernel, by decide +kernel⟩
abbrev s_Kind_most : Stmt := inClass (top 37) 4
abbrev N_Kind_most : List Str := ["self"]
theorem sc_Kind_most : FnScope N_Kind_most ["self"] (defScope s_Kind_most) := ⟨rfl, rfl, rfl, by decide +kernel, rfl, by decide +kernel, by decide +kernel⟩
abbrev s_Kind_deeds : Stmt := inClass (top 37) 3
abbrev N_Kind_deeds : List Str := ["self"]
theorem sc_Kind_deeds : FnScope N_Kind_deeds ["self"] (defScope s_Kind_deeds) := ⟨rfl, rfl, rfl, by decide +kernel, rfl, by decide +kernel, by decide +kernel⟩
abbrev s_further_slips : Stmt := top 30
abbrev N_further_slips : List Str := ["kind", "sheet", "slips", "first", "column", "deed"]
theorem sc_further_slips : FnScope N_further_slips ["kind", "sheet", "slips"] (defScope s_further_slips) := ⟨rfl, rfl, rfl, by decide +kernel, rfl, by decide +kernel, by decide +kernel⟩
abbrev s_outcome : Stmt := top 29
abbrev N_outcome : List Str := ["sheet", "slips"]
theorem sc_outcome : FnScope N_outcome ["sheet", "slips"] (defScope s_outcome) := ⟨rfl, rfl, rfl, by decide +kernel, rfl, by decide +kernel, by decide +kernel⟩
abbrev s_all_outcomes : Stmt := top 31
abbrev N_all_outcomes : List Str := ["kind", "sheet", "found", "pile", "slips", "written"]
theorem sc_all_outcomes : FnScope N_all_outcomes ["kind", "sheet"] (defScope s_all_outcomes) := ⟨rfl, rfl, rfl, by decide +kernel, rfl, by decide +kernel, by decide +kernel⟩
abbrev s_Written_rest : Stmt := inClass (top 20) 5
abbrev N_Written_rest : List Str := ["self", "r"]
theorem sc_Written_rest : FnScope N_Written_rest ["self", "r"] (defScope s_Written_rest) := ⟨rfl, rfl, rfl, by decide +kernel, rfl, by decide +kernel, by decide +kernel⟩
abbrev s_slips_shown : Stmt := top 32
abbrev N_slips_shown : List Str := ["kind", "sheet", "lot", "shown", "rests", "slips", "result", "r"]
theorem sc_slips_shown : FnScope N_slips_shown ["kind", "sheet", "lot", "shown"] (defScope s_slips_shown) := ⟨rfl, rfl, rfl, by decide +kernel, rfl, by decide +kernel, by decide +kernel⟩
abbrev s_law_shown_right : Stmt := top 52
abbrev N_law_shown_right : List Str := ["bag", "sheet", "slips", "written", "lot", "kind", "divisor"]
theorem sc_law_shown_right : FnScope N_law_shown_right ["bag", "sheet", "slips", "written"] (defScope s_law_shown_right) := ⟨rfl, rfl, rfl, by decide +kernel, rfl, by decide +kernel, by decide +kernel⟩
abbrev s_law_mixed : Stmt := top 41
abbrev N_law_mixed : List Str := ["bag", "items", "left", "found", "lap"]
theorem sc_law_mixed : FnScope N_law_mixed ["bag", "items"] (defScope s_law_mixed) := ⟨rfl, rfl, rfl, by decide +kernel, rfl, by decide +kernel, by decide +kernel⟩
abbrev s_Sheet_cut : Stmt := inClass (top 12) 9
abbrev N_Sheet_cut : List Str := ["self", "low", "high"]
theorem sc_Sheet_cut : FnScope N_Sheet_cut ["self", "low", "high"] (defScope s_Sheet_cut) := ⟨rfl, rfl, rfl, by decide +kernel, rfl, by decide +kernel, by decide +kernel⟩
abbrev s_law_written : Stmt := top 47
abbrev N_law_written : List Str := ["sheet", "slips", "found"]
theorem sc_law_written : FnScope N_law_written ["sheet", "slips"] (defScope s_law_written) := ⟨rfl, rfl, rfl, by decide +kernel, rfl, by decide +kernel, by decide +kernel⟩
abbrev s_law_with_carry : Stmt := top 50
abbrev N_law_with_carry : List Str := ["sheet", "carry", "columns", "column"]
theorem sc_law_with_carry : FnScope N_law_with_carry ["sheet", "carry"] (defScope s_law_with_carry) := ⟨rfl, rfl, rfl, by decide +kernel, rfl, by decide +kernel, by decide +kernel⟩
abbrev s_law_carry_right : Stmt := top 51
abbrev N_law_carry_right : List Str := ["sheet", "at", "first", "second", "power", "told", "base", "other"]
theorem sc_law_carry_right : FnScope N_law_carry_right ["sheet", "at"] (defScope s_law_carry_right) := ⟨rfl, rfl, rfl, by decide +kernel, rfl, by decide +kernel, by decide +kernel⟩
abbrev s_law_right : Stmt := top 53
abbrev N_law_right : List Str := ["script", "k", "bag", "base", "rows", "size", "columns", "column", "sheet", "right", "lap", "slips", "figures", "gap", "written", "one", "total", "at", "slip"]
theorem sc_law_right : FnScope N_law_right ["script", "k"] (defScope s_law_right) := ⟨rfl, rfl, rfl, by decide +kernel, rfl, by decide +kernel, by decide +kernel⟩
abbrev s_law : Stmt := top 54
abbrev N_law : List Str := ["script", "k"]
theorem sc_law : FnScope N_law ["script"] (defScope s_law) := ⟨rfl, rfl, rfl, by decide +kernel, rfl, by decide +kernel, by decide +kernel⟩
def df_law_bag : DefX := ⟨.glo "_law_bag", "_law_bag", "_law_bag", defArgs s_law_bag, defBody s_law_bag, defScope s_law_bag, [], []⟩
def df_law_take : DefX := ⟨.glo "_law_take", "_law_take", "_law_take", defArgs s_law_take, defBody s_law_take, defScope s_law_take, [], []⟩
def df_law_column : DefX := ⟨.glo "_law_column", "_law_column", "_law_column", defArgs s_law_column, defBody s_law_column, defScope s_law_column, [], []⟩
def df_is_integer : DefX := ⟨.glo "is_integer", "is_integer", "is_integer", defArgs s_is_integer, defBody s_is_integer, defScope s_is_integer, [], []⟩
def df_is_column : DefX := ⟨.glo "is_column", "is_column", "is_column", defArgs s_is_column, defBody s_is_column, defScope s_is_column, [], []⟩
def df_Sheet_init : DefX := ⟨.met "Sheet" "__init__", "__init__", "Sheet.__init__", defArgs s_Sheet_init, defBody s_Sheet_init, defScope s_Sheet_init, [], []⟩
def df_taken : DefX := ⟨.glo "taken", "taken", "taken", defArgs s_taken, defBody s_taken, defScope s_taken, [], []⟩
def df_done : DefX := ⟨.glo "done", "done", "done", defArgs s_done, defBody s_done, defScope s_done, [], []⟩
def df_Adding_do : DefX := ⟨.met "Adding" "do", "do", "Adding.do", defArgs s_Adding_do, defBody s_Adding_do, defScope s_Adding_do, [], []⟩
def df_Adding_do_until : DefX := ⟨.met "Adding" "do_until", "do_until", "Adding.do_until", defArgs s_Adding_do_until, defBody s_Adding_do_until, defScope s_Adding_do_until, [], []⟩
def df_Written_init : DefX := ⟨.met "Written" "__init__", "__init__", "Written.__init__", defArgs s_Written_init, defBody s_Written_init, defScope s_Written_init, [], []⟩
def df_Adding_result : DefX := ⟨.met "Adding" "result", "result", "Adding.result", defArgs s_Adding_result, defBody s_Adding_result, defScope s_Adding_result, [], []⟩
def df_Sheet_base : DefX := ⟨.prp "Sheet" "base", "base", "Sheet.base", defArgs s_Sheet_base, defBody s_Sheet_base, defScope s_Sheet_base, [], []⟩
def df_Sheet_columns : DefX := ⟨.prp "Sheet" "columns", "columns", "Sheet.columns", defArgs s_Sheet_columns, defBody s_Sheet_columns, defScope s_Sheet_columns, [], []⟩
def df_Adding_init : DefX := ⟨.met "Adding" "__init__", "__init__", "Adding.__init__", defArgs s_Adding_init, defBody s_Adding_init, defScope s_Adding_init, [], []⟩
def df_add_right : DefX := ⟨.glo "add_right", "add_right", "add_right", defArgs s_add_right, defBody s_add_right, defScope s_add_right, [], []⟩
def df_Written_figures : DefX := ⟨.prp "Written" "figures", "figures", "Written.figures", defArgs s_Written_figures, defBody s_Written_figures, defScope s_Written_figures, [], []⟩
def df_Sheet_len : DefX := ⟨.met "Sheet" "__len__", "__len__", "Sheet.__len__", defArgs s_Sheet_len, defBody s_Sheet_len, defScope s_Sheet_len, [], []⟩
def df_law_power : DefX := ⟨.glo "_law_power", "_law_power", "_law_power", defArgs s_law_power, defBody s_law_power, defScope s_law_power, [], []⟩
def df_law_marked : DefX := ⟨.glo "_law_marked", "_law_marked", "_law_marked", defArgs s_law_marked, defBody s_law_marked, defScope s_law_marked, [], []⟩
def df_is_deed : DefX := ⟨.glo "is_deed", "is_deed", "is_deed", defArgs s_is_deed, defBody s_is_deed, defScope s_is_deed, [], []⟩
def df_Sheet_rows : DefX := ⟨.prp "Sheet" "rows", "rows", "Sheet.rows", defArgs s_Sheet_rows, defBody s_Sheet_rows, defScope s_Sheet_rows, [], []⟩
def df_is_slip : DefX := ⟨.glo "is_slip", "is_slip", "is_slip", defArgs s_is_slip, defBody s_is_slip, defScope s_is_slip, [], []⟩
def df_Adding_free : DefX := ⟨.met "Adding" "free", "free", "Adding.free", defArgs s_Adding_free, defBody s_Adding_free, defScope s_Adding_free, [], []⟩
def df_InvalidSlips_init : DefX := ⟨.met "InvalidSlips" "__init__", "__init__", "InvalidSlips.__init__", defArgs s_InvalidSlips_init, defBody s_InvalidSlips_init, defScope s_InvalidSlips_init, [], []⟩
def df_add_with : DefX := ⟨.glo "add_with", "add_with", "add_with", defArgs s_add_with, defBody s_add_with, defScope s_add_with, [], []⟩
def df_Written_eq : DefX := ⟨.met "Written" "__eq__", "__eq__", "Written.__eq__", defArgs s_Written_eq, defBody s_Written_eq, defScope s_Written_eq, [], []⟩
def df_Written_last : DefX := ⟨.prp "Written" "last", "last", "Written.last", defArgs s_Written_last, defBody s_Written_last, defScope s_Written_last, [], []⟩
def df_Written_value : DefX := ⟨.prp "Written" "value", "value", "Written.value", defArgs s_Written_value, defBody s_Written_value, defScope s_Written_value, [], []⟩
def df_Sheet_value : DefX := ⟨.prp "Sheet" "value", "value", "Sheet.value", defArgs s_Sheet_value, defBody s_Sheet_value, defScope s_Sheet_value, [], []⟩
def df_Written_sub : DefX := ⟨.met "Written" "__sub__", "__sub__", "Written.__sub__", defArgs s_Written_sub, defBody s_Written_sub, defScope s_Written_sub, [], []⟩
def df_law_lot : DefX := ⟨.glo "_law_lot", "_law_lot", "_law_lot", defArgs s_law_lot, defBody s_law_lot, defScope s_law_lot, [], []⟩
def df_number_of_columns : DefX := ⟨.glo "number_of_columns", "number_of_columns", "number_of_columns", defArgs s_number_of_columns, defBody s_number_of_columns, defScope s_number_of_columns, [], []⟩
def df_all_deeds : DefX := ⟨.glo "all_deeds", "all_deeds", "all_deeds", defArgs s_all_deeds, defBody s_all_deeds, defScope s_all_deeds, [], []⟩
def df_Kind_init : DefX := ⟨.met "Kind" "__init__", "__init__", "Kind.__init__", defArgs s_Kind_init, defBody s_Kind_init, defScope s_Kind_init, [], []⟩
def df_check_lot : DefX := ⟨.glo "check_lot", "check_lot", "check_lot", defArgs s_check_lot, defBody s_check_lot, defScope s_check_lot, [], []⟩
def df_Kind_base : DefX := ⟨.prp "Kind" "base", "base", "Kind.base", defArgs s_Kind_base, defBody s_Kind_base, defScope s_Kind_base, [], []⟩
def df_Kind_rows : DefX := ⟨.prp "Kind" "rows", "rows", "Kind.rows", defArgs s_Kind_rows, defBody s_Kind_rows, defScope s_Kind_rows, [], []⟩
def df_check_alike : DefX := ⟨.glo "check_alike", "check_alike", "check_alike", defArgs s_check_alike, defBody s_check_alike, defScope s_check_alike, [], []⟩
def df_Kind_most : DefX := ⟨.prp "Kind" "most", "most", "Kind.most", defArgs s_Kind_most, defBody s_Kind_most, defScope s_Kind_most, [], []⟩
def df_Kind_deeds : DefX := ⟨.prp "Kind" "deeds", "deeds", "Kind.deeds", defArgs s_Kind_deeds, defBody s_Kind_deeds, defScope s_Kind_deeds, [], []⟩
def df_further_slips : DefX := ⟨.glo "further_slips", "further_slips", "further_slips", defArgs s_further_slips, defBody s_further_slips, defScope s_further_slips, [], []⟩
def df_outcome : DefX := ⟨.glo "outcome", "outcome", "outcome", defArgs s_outcome, defBody s_outcome, defScope s_outcome, [], []⟩
def df_all_outcomes : DefX := ⟨.glo "all_outcomes", "all_outcomes", "all_outcomes", defArgs s_all_outcomes, defBody s_all_outcomes, defScope s_all_outcomes, [], []⟩
def df_Written_rest : DefX := ⟨.met "Written" "rest", "rest", "Written.rest", defArgs s_Written_rest, defBody s_Written_rest, defScope s_Written_rest, [], []⟩
def df_slips_shown : DefX := ⟨.glo "slips_shown", "slips_shown", "slips_shown", defArgs s_slips_shown, defBody s_slips_shown, defScope s_slips_shown, [], []⟩
def df_law_shown_right : DefX := ⟨.glo "_law_shown_right", "_law_shown_right", "_law_shown_right", defArgs s_law_shown_right, defBody s_law_shown_right, defScope s_law_shown_right, [], []⟩
def df_law_mixed : DefX := ⟨.glo "_law_mixed", "_law_mixed", "_law_mixed", defArgs s_law_mixed, defBody s_law_mixed, defScope s_law_mixed, [], []⟩
def df_Sheet_cut : DefX := ⟨.met "Sheet" "cut", "cut", "Sheet.cut", defArgs s_Sheet_cut, defBody s_Sheet_cut, defScope s_Sheet_cut, [], []⟩
def df_law_written : DefX := ⟨.glo "_law_written", "_law_written", "_law_written", defArgs s_law_written, defBody s_law_written, defScope s_law_written, [], []⟩
def df_law_with_carry : DefX := ⟨.glo "_law_with_carry", "_law_with_carry", "_law_with_carry", defArgs s_law_with_carry, defBody s_law_with_carry, defScope s_law_with_carry, [], []⟩
def df_law_carry_right : DefX := ⟨.glo "_law_carry_right", "_law_carry_right", "_law_carry_right", defArgs s_law_carry_right, defBody s_law_carry_right, defScope s_law_carry_right, [], []⟩
def df_law_right : DefX := ⟨.glo "_law_right", "_law_right", "_law_right", defArgs s_law_right, defBody s_law_right, defScope s_law_right, [], []⟩
def df_law : DefX := ⟨.glo "law", "law", "law", defArgs s_law, defBody s_law, defScope s_law, [], []⟩
def fns : List DefX := [df_law_bag, df_law_take, df_law_column, df_is_integer, df_is_column, df_Sheet_init, df_taken, df_done, df_Adding_do, df_Adding_do_until, df_Written_init, df_Adding_result, df_Sheet_base, df_Sheet_columns, df_Adding_init, df_add_right, df_Written_figures, df_Sheet_len, df_law_power, df_law_marked, df_is_deed, df_Sheet_rows, df_is_slip, df_Adding_free, df_InvalidSlips_init, df_add_with, df_Written_eq, df_Written_last, df_Written_value, df_Sheet_value, df_Written_sub, df_law_lot, df_number_of_columns, df_all_deeds, df_Kind_init, df_check_lot, df_Kind_base, df_Kind_rows, df_check_alike, df_Kind_most, df_Kind_deeds, df_further_slips, df_outcome, df_all_outcomes, df_Written_rest, df_slips_shown, df_law_shown_right, df_law_mixed, df_Sheet_cut, df_law_written, df_law_with_carry, df_law_carry_right, df_law_right, df_law]
def fxs : List Fx := [.fa (.glo "_law_right"), .fa (.glo "_law_bag"), .fa (.glo "_law_take"), .fa (.glo "_law_column"), .fa (.glo "Sheet"), .fa (.glo "add_right"), .fa (.glo "_law_marked"), .fa (.glo "add_with"), .fa (.glo "Written"), .fa (.glo "_law_shown_right"), .fa (.glo "_law_mixed"), .fa (.glo "_law_carry_right"), .fa (.glo "is_integer"), .fa (.glo "is_column"), .fa (.glo "Adding"), .fa (.glo "done"), .fa (.glo "taken"), .fa (.glo "_law_power"), .fa (.glo "is_slip"), .fa (.glo "InvalidSlips"), .fa (.glo "is_deed"), .fa (.glo "PLAIN"), .fa (.glo "_law_lot"), .fa (.glo "Kind"), .fa (.glo "slips_shown"), .fa (.glo "number_of_columns"), .fa (.glo "all_deeds"), .fa (.glo "check_lot"), .fa (.glo "check_alike"), .fa (.glo "all_outcomes"), .fa (.glo "further_slips"), .fa (.glo "outcome"), .fa (.glo "_law_written"), .fa (.glo "_law_with_carry"), .fa (.glo "law"), .fa (.free "range"), .fa (.free "max"), .fa (.free "min"), .fa (.free "len"), .fa (.free "int"), .fa (.free "tuple"), .fa (.cls "Sheet"), .fa (.mkr "Sheet"), .fa (.free "list"), .sm "Written" "__eq__", .nedf "Written", .fa (.cls "Written"), .fa (.mkr "Written"), .prop "Written" "last", .sm "Written" "__sub__", .selff "Written", .nosl "Sheet" "sub", .fa (.free "sum"), .fa (.free "abs"), .fa (.free "isinstance"), .fa (.free "all"), .fa (.noat "Sheet" "held_base"), .fa (.noat "Sheet" "held_rows"), .fa (.noat "Sheet" "held_columns"), .fa (.noat "Sheet" "size"), .fa (.free "bool"), .fa (.cls "Adding"), .fa (.meth "Adding" "result"), .fa (.mkr "Adding"), .fa (.meth "Adding" "do_until"), .fa (.noat "Adding" "given"), .fa (.noat "Adding" "carry"), .fa (.noat "Adding" "written"), .fa (.noat "Adding" "system"), .fa (.noat "Adding" "at"), .fa (.meth "Adding" "do"), .fa (.noat "Adding" "waiting"), .fa (.noat "Written" "held_base"), .fa (.noat "Written" "held_figures"), .fa (.noat "Written" "held_last"), .prop "Sheet" "base", .prop "Sheet" "columns", .prop "Written" "figures", .sm "Sheet" "__len__", .fa (.free "enumerate"), .fa (.meth "Adding" "free"), .oex "InvalidSlips", .noix "InvalidSlips", .sm "InvalidSlips" "__init__", .prop "Sheet" "rows", .fa (.free "str"), .tup "PLAIN" [.str "forget", .str "again", .str "swap", .str "out", .str "twice"], .insc "Written", .prop "Written" "value", .prop "Sheet" "value", .fa (.cls "Kind"), .fa (.mkr "Kind"), .fa (.meth "Written" "rest"), .fa (.int "MOST_COLUMNS" 1000), .fa (.int "MOST_DEEDS" 8), .fa (.noat "Kind" "held_base"), .fa (.noat "Kind" "held_rows"), .fa (.noat "Kind" "held_deeds"), .fa (.noat "Kind" "held_most"), .prop "Kind" "base", .prop "Kind" "rows", .prop "Kind" "most", .prop "Kind" "deeds", .exm "InvalidSlips" [("InvalidSlips", true)], .fa (.meth "Sheet" "cut")]
abbrev hk : PySem.W.Hook := hookY 6 fxs fns
def ob (s : PySem.W.SharedT) : AlY := obsYG 6 fxs fns (HandSHeadRun.getT s)
theorem ob_eq (s : PySem.W.SharedT) : ob s = hk.obs s.abs := obsYG_eq (HandSHeadRun.getT_eq s)
def names0 : List PySem.Str := ["_wall", "__name__", "SlipError", "InvalidSheet", "InvalidColumn", "InvalidKind", "InvalidLot", "NotAlike", "InvalidSlips", "is_integer", "is_column", "Sheet", "PLAIN", "all_deeds", "is_deed", "taken", "done", "Written", "Adding", "is_slip"]
def names1 : List PySem.Str := ["add_right", "add_with", "check_lot", "check_alike", "outcome", "further_slips", "all_outcomes", "slips_shown", "MOST_DEEDS", "MOST_COLUMNS", "number_of_columns", "Kind", "_law_bag", "_law_take", "_law_mixed", "_law_power", "_law_column", "_law_deed", "_law_deeds", "_law_lot"]
def names2 : List PySem.Str := ["_law_written", "_law_slips", "_law_marked", "_law_with_carry", "_law_carry_right", "_law_shown_right", "_law_right"]
def names : List PySem.Str := names0 ++ names1 ++ names2
theorem run (w : World) : HandSHeadRun.RunEq Rw (PySem.W.view Rw.prog [54]) hk ob 20000 names w := by
  intro os
  kernel_rfl
end LW
section
open PySem PySem.W PySem.Calls PyProof.Rows
set_option maxRecDepth 100000 in
set_option maxHeartbeats 8000000 in
theorem LW.headE (call : PySem.W.WalkO (view (OpenLaw.row PySem.Challenge.rw_sumslips_k81_whole_slips_as_other_result).prog [54]) LW.names (XL (view (OpenLaw.row PySem.Challenge.rw_sumslips_k81_whole_slips_as_other_result).prog [54]) []) LW.hk.says (OpenLaw.row PySem.Challenge.rw_sumslips_k81_whole_slips_as_other_result).toRowW (HandSHeadRun.topDef (OpenLaw.row PySem.Challenge.rw_sumslips_k81_whole_slips_as_other_result).prog 54) [] fun f vs => PySem.call f vs) : PySem.Challenge.rw_sumslips_k81_whole_slips_as_other_result.Holds := by
  w_on; o_law
  refine HandSHeadRun.head_any (r := OpenLaw.row PySem.Challenge.rw_sumslips_k81_whole_slips_as_other_result) (q := view (OpenLaw.row PySem.Challenge.rw_sumslips_k81_whole_slips_as_other_result).prog [54]) (H := LW.hk) (ob := LW.ob) (M := 20000) (loose := LW.names) (d := HandSHeadRun.topDef (OpenLaw.row PySem.Challenge.rw_sumslips_k81_whole_slips_as_other_result).prog 54) (kwd := []) LW.ob_eq
    (by kernel_rfl) (fun s => by kernel_rfl) LW.run (by kernel_rfl) (by kernel_rfl) (by kernel_rfl) (by rfl) (by first | assumption | decide +kernel) (by decide +kernel) ⟨rfl, rfl, rfl, rfl, rfl, by decide +kernel⟩ ?hw ?hc
  case hw => w_witness2
  case hc => exact call
end
/-! a data layer over the hand layer: values as data, lists that change as numbered cells -/
namespace DL
open PySem PySem.Spec PyProof.Rows L2
open Evl (Ex)

inductive D where
  | non
  | bl (b : Bool)
  | int (i : Int)
  | str (s : Str)
  | tup (xs : List D)
  | lst (xs : List D)
  | fro (xs : List D)
  | ins (C : Addr) (ns : List Str) (xs : List D)
  | cell (n : Nat)
  | dct
  | raw (v : V)
  | exc (C : Addr) (p : Option Int)

/-- what never changes any more, and where the cells stand -/
structure Wd where
  F : Hp
  m : List Addr
  h : List (Addr × List V)
def Wd.le (W W' : Wd) : Prop := Ex W.F W'.F ∧ (∃ more, W'.m = W.m ++ more) ∧ W'.h = W.h
theorem Wd.le_refl (W : Wd) : W.le W := ⟨Ex.refl _, ⟨[], (List.append_nil _).symm⟩, rfl⟩
theorem Wd.le.tr {W W1 W2 : Wd} (a : W.le W1) (b : W1.le W2) : W.le W2 := by
  obtain ⟨e1, ⟨m1, h1⟩, g1⟩ := a
  obtain ⟨e2, ⟨m2, h2⟩, g2⟩ := b
  exact ⟨e1.trans e2, ⟨m1 ++ m2, by rw [h2, h1, List.append_assoc]⟩, g2.trans g1⟩
theorem Wd.get_more {W W' : Wd} (l : ∃ more, W'.m = W.m ++ more) {n : Nat} {a : Addr} (h : W.m[n]? = some a) : W'.m[n]? = some a := by
  obtain ⟨more, e⟩ := l
  rw [e, List.getElem?_append_left (List.getElem?_eq_some_iff.mp h).1]
  exact h
theorem Wd.le_get {W W' : Wd} (l : W.le W') {n : Nat} {a : Addr} (h : W.m[n]? = some a) : W'.m[n]? = some a := by
  obtain ⟨_, ⟨more, e⟩, _⟩ := l
  rw [e, List.getElem?_append_left (List.getElem?_eq_some_iff.mp h).1]
  exact h

/-- an exception that is kept -/
def exV (a C : Addr) (d : Option Addr) : HO := .ext fun h => ∃ oe : Obj, h.get? a = some oe ∧ oe.cls = .ref C ∧ oe.dict = d ∧ ∃ vs, oe.data = .fields vs
def PayV (p : Option Int) (d : Option Addr) (W : Wd) : Prop := match p with
  | none => d = none
  | some i => ∃ dd, d = some dd ∧ W.F dd = some (.xd [("index", .int i)])
theorem PayV.mono {p : Option Int} {d : Option Addr} {W W' : Wd} (h : PayV p d W) (l : Ex W.F W'.F) : PayV p d W' := by
  cases p with
  | none => exact h
  | some i =>
    obtain ⟨dd, e1, e2⟩ := h
    exact ⟨dd, e1, l _ _ e2⟩
mutual
inductive R (K : PySem.W.Frag) (W : Wd) : V → D → Prop
  | non : R K W .non .non
  | bl (b : Bool) : R K W (.bl b) (.bl b)
  | int (i : Int) : R K W (.int i) (.int i)
  | str (s : Str) : R K W (.str s) (.str s)
  | tup {a : Addr} {vs : List V} {xs : List D} : SqT K W.F a vs → RAll K W vs xs → R K W (.ref a) (.tup xs)
  | lst {a : Addr} {vs : List V} {xs : List D} : W.F a = some (.lst vs) → RAll K W vs xs → R K W (.ref a) (.lst xs)
  | fro {a : Addr} {vs : List V} {xs : List D} : SqL K W.F a vs → RAll K W vs xs → R K W (.ref a) (.fro xs)
  | ins {a C dx : Addr} {gs : List (Str × V)} {xs : List D} : W.F a = some (.ins C dx gs) → RAll K W (gs.map (·.2)) xs → R K W (.ref a) (.ins C (gs.map (·.1)) xs)
  | cell {n : Nat} {a : Addr} : W.m[n]? = some a → R K W (.ref a) (.cell n)
  | dct {a : Addr} {kvs : List (Key × V)} : W.F a = some (.dK kvs) → R K W (.ref a) .dct
  | raw (v : V) : R K W v (.raw v)
  | exc {a C : Addr} {p : Option Int} {d : Option Addr} : W.F a = some (exV a C d) → PayV p d W → R K W (.ref a) (.exc C p)
inductive RAll (K : PySem.W.Frag) (W : Wd) : List V → List D → Prop
  | nil : RAll K W [] []
  | cons {v : V} {vs : List V} {d : D} {ds : List D} : R K W v d → RAll K W vs ds → RAll K W (v :: vs) (d :: ds)
end
section
variable {K : PySem.W.Frag} {W W' : Wd}
mutual
theorem R.mono' (l : Ex W.F W'.F ∧ ∃ more, W'.m = W.m ++ more) : ∀ (d : D) (v : V), R K W v d → R K W' v d
  | .non, _, h => by cases h; exact .non
  | .bl b, _, h => by cases h; exact .bl b
  | .int i, _, h => by cases h; exact .int i
  | .str s, _, h => by cases h; exact .str s
  | .tup xs, _, h => by
    cases h with
    | tup hs ha => exact .tup (Evl.ex_t l.1 hs) (RAll.mono' l xs _ ha)
  | .lst xs, _, h => by
    cases h with
    | lst hs ha => exact .lst (l.1 _ _ hs) (RAll.mono' l xs _ ha)
  | .fro xs, _, h => by
    cases h with
    | fro hs ha => exact .fro (Evl.ex_l l.1 hs) (RAll.mono' l xs _ ha)
  | .ins C ns xs, _, h => by
    cases h with
    | ins hs ha => exact .ins (l.1 _ _ hs) (RAll.mono' l xs _ ha)
  | .cell n, _, h => by
    cases h with
    | cell hs => exact .cell (Wd.get_more l.2 hs)
  | .dct, _, h => by
    cases h with
    | dct hs => exact .dct (l.1 _ _ hs)
  | .raw v, _, h => by cases h; exact .raw v
  | .exc C p, _, h => by
    cases h with
    | exc hs hp => exact .exc (l.1 _ _ hs) (hp.mono l.1)
theorem RAll.mono' (l : Ex W.F W'.F ∧ ∃ more, W'.m = W.m ++ more) : ∀ (ds : List D) (vs : List V), RAll K W vs ds → RAll K W' vs ds
  | [], _, h => by cases h; exact .nil
  | d :: ds, _, h => by
    cases h with
    | cons h1 h2 => exact .cons (R.mono' l d _ h1) (RAll.mono' l ds _ h2)
end
theorem R.mono (l : W.le W') (d : D) (v : V) (h : R K W v d) : R K W' v d := R.mono' ⟨l.1, l.2.1⟩ d v h
theorem RAll.mono (l : W.le W') (ds : List D) (vs : List V) (h : RAll K W vs ds) : RAll K W' vs ds := RAll.mono' ⟨l.1, l.2.1⟩ ds vs h
/-- what the relation leans on -/
theorem R.world {d : D} {v : V} (h : R K W v d) (hF : W'.F = W.F) (hm : W'.m = W.m) : R K W' v d := R.mono' (W := W) ⟨by rw [hF]; exact Ex.refl _, [], by rw [hm, List.append_nil]⟩ d v h
theorem RAll.world {ds : List D} {vs : List V} (h : RAll K W vs ds) (hF : W'.F = W.F) (hm : W'.m = W.m) : RAll K W' vs ds := RAll.mono' (W := W) ⟨by rw [hF]; exact Ex.refl _, [], by rw [hm, List.append_nil]⟩ ds vs h
theorem RAll.length : ∀ {vs : List V} {ds : List D}, RAll K W vs ds → vs.length = ds.length
  | _, _, .nil => rfl
  | _, _, .cons _ t => by rw [List.length_cons, List.length_cons, RAll.length t]
theorem RAll.get : ∀ {vs : List V} {ds : List D} {i : Nat} {d : D}, RAll K W vs ds → ds[i]? = some d → ∃ v, vs[i]? = some v ∧ R K W v d
  | _, _, _, _, .nil, e => by simp at e
  | _, _, 0, _, .cons r _, e => by simp at e; subst e; exact ⟨_, rfl, r⟩
  | _, _, i + 1, d, .cons _ t, e => by
    obtain ⟨v, h1, h2⟩ := RAll.get (i := i) (d := d) t (by simpa using e)
    exact ⟨v, by simpa using h1, h2⟩
theorem RAll.get' : ∀ {vs : List V} {ds : List D} {i : Nat} {v : V}, RAll K W vs ds → vs[i]? = some v → ∃ d, ds[i]? = some d ∧ R K W v d
  | _, _, _, _, .nil, e => by simp at e
  | _, _, 0, _, .cons r _, e => by simp at e; subst e; exact ⟨_, rfl, r⟩
  | _, _, i + 1, v, .cons _ t, e => by
    obtain ⟨d, h1, h2⟩ := RAll.get' (i := i) (v := v) t (by simpa using e)
    exact ⟨d, by simpa using h1, h2⟩
theorem RAll.set {v : V} {d : D} (r : R K W v d) : ∀ {vs : List V} {ds : List D} (i : Nat), RAll K W vs ds → RAll K W (vs.set i v) (ds.set i d)
  | _, _, _, .nil => .nil
  | _, _, 0, .cons _ t => .cons r t
  | _, _, i + 1, .cons q t => .cons q (RAll.set r i t)
theorem RAll.append : ∀ {vs ws : List V} {ds es : List D}, RAll K W vs ds → RAll K W ws es → RAll K W (vs ++ ws) (ds ++ es)
  | _, _, _, _, .nil, s => s
  | _, _, _, _, .cons r t, s => .cons r (RAll.append t s)
theorem RAll.take : ∀ {vs : List V} {ds : List D} (n : Nat), RAll K W vs ds → RAll K W (vs.take n) (ds.take n)
  | _, _, 0, _ => .nil
  | _, _, _ + 1, .nil => .nil
  | _, _, n + 1, .cons r t => .cons r (RAll.take n t)
theorem RAll.drop : ∀ {vs : List V} {ds : List D} (n : Nat), RAll K W vs ds → RAll K W (vs.drop n) (ds.drop n)
  | _, _, 0, r => r
  | _, _, _ + 1, .nil => .nil
  | _, _, n + 1, .cons _ t => RAll.drop n t
theorem RAll.reverse : ∀ {vs : List V} {ds : List D}, RAll K W vs ds → RAll K W vs.reverse ds.reverse
  | _, _, .nil => .nil
  | _, _, .cons r t => by
    rw [List.reverse_cons, List.reverse_cons]
    exact (RAll.reverse t).append (.cons r .nil)
theorem RAll.dropLast : ∀ {vs : List V} {ds : List D}, RAll K W vs ds → RAll K W vs.dropLast ds.dropLast
  | _, _, .nil => .nil
  | _, _, .cons _ .nil => .nil
  | _, _, .cons r (.cons q t) => .cons r (RAll.dropLast (.cons q t))
theorem RAll.app1 {vs : List V} {ds : List D} {v : V} {d : D} (h : RAll K W vs ds) (r : R K W v d) : RAll K W (vs ++ [v]) (ds ++ [d]) := h.append (.cons r .nil)
theorem RAll.snoc_inv : ∀ {vs : List V} {ds : List D} {d : D}, RAll K W vs (ds ++ [d]) → ∃ ws v, vs = ws ++ [v] ∧ RAll K W ws ds ∧ R K W v d
  | _, [], _, h => by
    cases h with
    | cons r t => cases t; exact ⟨[], _, rfl, .nil, r⟩
  | _, x :: ds, _, h => by
    cases h with
    | cons r t =>
      obtain ⟨ws, v, e, h1, h2⟩ := RAll.snoc_inv t
      subst e
      exact ⟨_ :: ws, v, rfl, .cons r h1, h2⟩
theorem RAll.ints : ∀ (ns : List Int), RAll K W (ns.map V.int) (ns.map D.int)
  | [] => .nil
  | n :: ns => .cons (.int n) (RAll.ints ns)
theorem RAll.ints_inv : ∀ {ns : List Int} {vs : List V}, RAll K W vs (ns.map D.int) → vs = ns.map V.int
  | [], _, h => by cases h; rfl
  | n :: ns, _, h => by
    cases h with
    | cons r t => cases r; rw [RAll.ints_inv t]; rfl
theorem RAll.bls_inv : ∀ {ns : List Bool} {vs : List V}, RAll K W vs (ns.map D.bl) → vs = ns.map V.bl
  | [], _, h => by cases h; rfl
  | n :: ns, _, h => by
    cases h with
    | cons r t => cases r; rw [RAll.bls_inv t]; rfl
theorem RAll.strs_inv : ∀ {ns : List Str} {vs : List V}, RAll K W vs (ns.map D.str) → vs = ns.map V.str
  | [], _, h => by cases h; rfl
  | n :: ns, _, h => by
    cases h with
    | cons r t => cases r; rw [RAll.strs_inv t]; rfl
end

/-- a cell: a list or an instance that changes; a dead one is known no more -/
inductive Cel where
  | dead
  | lst (xs : List D)
  | ins (C : Addr) (ns : List Str) (xs : List D)
  | dic (kxs : List (Int × D))

/-- a dict's pairs, int keys -/
inductive RKs (K : PySem.W.Frag) (W : Wd) : List (Key × V) → List (Int × D) → Prop
  | nil : RKs K W [] []
  | cons {k : Int} {v : V} {d : D} {ps : List (Key × V)} {kxs : List (Int × D)} : R K W v d → RKs K W ps kxs → RKs K W ((.inl k, v) :: ps) ((k, d) :: kxs)
theorem RKs.mono' {K : PySem.W.Frag} {W W' : Wd} (l : Ex W.F W'.F ∧ ∃ more, W'.m = W.m ++ more) : ∀ {ps : List (Key × V)} {kxs : List (Int × D)}, RKs K W ps kxs → RKs K W' ps kxs
  | _, _, .nil => .nil
  | _, _, .cons r t => .cons (R.mono' l _ _ r) (RKs.mono' l t)
theorem RKs.mono {K : PySem.W.Frag} {W W' : Wd} (l : W.le W') {ps : List (Key × V)} {kxs : List (Int × D)} (h : RKs K W ps kxs) : RKs K W' ps kxs := h.mono' ⟨l.1, l.2.1⟩
theorem RKs.world {K : PySem.W.Frag} {W W' : Wd} {ps : List (Key × V)} {kxs : List (Int × D)} (h : RKs K W ps kxs) (hF : W'.F = W.F) (hm : W'.m = W.m) : RKs K W' ps kxs := h.mono' (W := W) ⟨by rw [hF]; exact Ex.refl _, [], by rw [hm, List.append_nil]⟩

def ClOk (K : PySem.W.Frag) (W : Wd) (H : Hp) (a : Addr) : Cel → Prop
  | .dead => True
  | .lst xs => ∃ vs, H a = some (.lst vs) ∧ RAll K W vs xs
  | .ins C ns xs => ∃ dx gs, H a = some (.ins C dx gs) ∧ gs.map (·.1) = ns ∧ RAll K W (gs.map (·.2)) xs
  | .dic kxs => ∃ ps, H a = some (.dK ps) ∧ RKs K W ps kxs

structure Ok (K : PySem.W.Frag) (W : Wd) (H : Hp) (cs : List Cel) : Prop where
  ex : Ex W.F H
  len : W.m.length = cs.length
  nd : W.m.Nodup
  here : ∀ a ∈ W.m, ∃ o, H a = some o
  fr : ∀ (n : Nat) (a : Addr) (c : Cel), W.m[n]? = some a → cs[n]? = some c → c = .dead ∨ W.F a = none
  cl : ∀ (n : Nat) (a : Addr) (c : Cel), W.m[n]? = some a → cs[n]? = some c → ClOk K W H a c
  hd : ∀ p ∈ W.h, H p.1 = some (.lst p.2) ∧ W.F p.1 = none ∧ p.1 ∉ W.m
  hn : (W.h.map (·.1)).Nodup

def SlO (K : PySem.W.Frag) (W : Wd) (σ : L2.St) (sl : List (Option D)) : Prop :=
  σ.length = sl.length ∧ ∀ (i : Nat) (d : D), sl[i]? = some (some d) → ∃ v, σ[i]? = some (some v) ∧ R K W v d

structure En where
  sl : List (Option D)
  cs : List Cel
structure Sd (K : PySem.W.Frag) (W : Wd) (H : Hp) (σ : L2.St) (e : En) : Prop where
  ok : Ok K W H e.cs
  sl : SlO K W σ e.sl

section
variable {K : PySem.W.Frag} {W W' : Wd} {H H' : Hp} {cs cs' : List Cel} {σ : L2.St} {sl : List (Option D)} {e : En}
theorem ClOk.mono (l : W.le W') {a : Addr} : ∀ {c : Cel}, ClOk K W H a c → ClOk K W' H a c
  | .dead, _ => trivial
  | .lst _, ⟨vs, h, r⟩ => ⟨vs, h, RAll.mono l _ _ r⟩
  | .ins _ _ _, ⟨dx, gs, h, e, r⟩ => ⟨dx, gs, h, e, RAll.mono l _ _ r⟩
  | .dic _, ⟨ps, h, r⟩ => ⟨ps, h, r.mono l⟩
theorem ClOk.world {a : Addr} (hF : W'.F = W.F) (hm : W'.m = W.m) : ∀ {c : Cel}, ClOk K W H a c → ClOk K W' H a c
  | .dead, _ => trivial
  | .lst _, ⟨vs, h, r⟩ => ⟨vs, h, r.world hF hm⟩
  | .ins _ _ _, ⟨dx, gs, h, e, r⟩ => ⟨dx, gs, h, e, r.world hF hm⟩
  | .dic _, ⟨ps, h, r⟩ => ⟨ps, h, r.world hF hm⟩
theorem ClOk.to {a : Addr} {c : Cel} (x : ClOk K W H a c) (hF : W'.F = W.F) (hm : W'.m = W.m) : ClOk K W' H a c := ClOk.world hF hm x
theorem ClOk.heap {a : Addr} (e : H' a = H a) : ∀ {c : Cel}, ClOk K W H a c → ClOk K W H' a c
  | .dead, _ => trivial
  | .lst _, ⟨vs, h, r⟩ => ⟨vs, e.trans h, r⟩
  | .ins _ _ _, ⟨dx, gs, h, e', r⟩ => ⟨dx, gs, e.trans h, e', r⟩
  | .dic _, ⟨ps, h, r⟩ => ⟨ps, e.trans h, r⟩
theorem SlO.mono (l : W.le W') (h : SlO K W σ sl) : SlO K W' σ sl :=
  ⟨h.1, fun i d e => let ⟨v, a, b⟩ := h.2 i d e; ⟨v, a, R.mono l _ _ b⟩⟩
theorem SlO.set {i : Nat} {v : V} {d : D} (h : SlO K W σ sl) (r : R K W v d) : SlO K W (σ.set i (some v)) (sl.set i (some d)) := by
  refine ⟨by simp [h.1], fun j d' e => ?_⟩
  rw [List.getElem?_set] at e
  by_cases hij : i = j
  · subst hij
    rw [if_pos rfl] at e
    split at e
    · rename_i hl
      cases e
      exact ⟨v, by rw [List.getElem?_set_self (h.1 ▸ hl)], r⟩
    · cases e
  · rw [if_neg hij] at e
    obtain ⟨v', a, b⟩ := h.2 j d' e
    exact ⟨v', by rw [List.getElem?_set_ne hij]; exact a, b⟩
theorem Ok.fresh (h : Ok K W H cs) {p : Addr} (hp : H p = none) : p ∉ W.m := fun hm => by
  obtain ⟨o, e⟩ := h.here p hm
  rw [hp] at e; cases e
/-- a new object that never changes -/
theorem Ok.newF (h : Ok K W H cs) {p : Addr} {o : HO} (hp : H p = none) : Ok K ⟨upd W.F p o, W.m, W.h⟩ (upd H p o) cs ∧ W.le ⟨upd W.F p o, W.m, W.h⟩ := by
  have hF : W.F p = none := Evl.fresh_back h.ex hp
  have l : W.le ⟨upd W.F p o, W.m, W.h⟩ := ⟨Ex.new hF, ⟨[], (List.append_nil _).symm⟩, rfl⟩
  have ne : ∀ a ∈ W.m, a ≠ p := fun a ha e => h.fresh hp (e ▸ ha)
  have nem : ∀ {n : Nat} {a : Addr}, W.m[n]? = some a → a ≠ p := fun e => ne _ (List.mem_of_getElem? e)
  have neh : ∀ q ∈ W.h, q.1 ≠ p := fun q hq e => by
    have := (h.hd q hq).1
    rw [e, hp] at this; cases this
  refine ⟨⟨fun a u e => ?_, h.len, h.nd, fun a ha => ?_, fun n a c e1 e2 => ?_, fun n a c e1 e2 => ?_, fun q hq => ?_, h.hn⟩, l⟩
  · have e : upd W.F p o a = some u := e
    by_cases q : a = p
    · subst q; rw [upd_same] at e ⊢; exact e
    · rw [upd_ne q] at e ⊢; exact h.ex a u e
  · rw [upd_ne (ne a ha)]; exact h.here a ha
  · rcases h.fr n a c e1 e2 with q | q
    · exact .inl q
    · exact .inr (by show upd W.F p o a = none; rw [upd_ne (nem e1)]; exact q)
  · exact ((h.cl n a c e1 e2).heap (upd_ne (nem e1))).mono l
  · obtain ⟨h1, h2, h3⟩ := h.hd q hq
    exact ⟨by rw [upd_ne (neh q hq)]; exact h1, by show upd W.F p o q.1 = none; rw [upd_ne (neh q hq)]; exact h2, h3⟩
/-- a new cell -/
theorem Ok.newC (h : Ok K W H cs) {p : Addr} {o : HO} {c : Cel} (hp : H p = none) (hc : ∀ W', W.le W' → ClOk K W' (upd H p o) p c) : Ok K ⟨W.F, W.m ++ [p], W.h⟩ (upd H p o) (cs ++ [c]) ∧ W.le ⟨W.F, W.m ++ [p], W.h⟩ := by
  have hF : W.F p = none := Evl.fresh_back h.ex hp
  have l : W.le ⟨W.F, W.m ++ [p], W.h⟩ := ⟨Ex.refl _, ⟨[p], rfl⟩, rfl⟩
  have ne : ∀ a ∈ W.m, a ≠ p := fun a ha e => h.fresh hp (e ▸ ha)
  have cases' : ∀ {n : Nat} {a : Addr} {c' : Cel}, (W.m ++ [p])[n]? = some a → (cs ++ [c])[n]? = some c' → (W.m[n]? = some a ∧ cs[n]? = some c') ∨ (a = p ∧ c' = c) := fun {n a c'} e1 e2 => by
    by_cases hn : n < W.m.length
    · rw [List.getElem?_append_left hn] at e1
      rw [List.getElem?_append_left (h.len ▸ hn)] at e2
      exact .inl ⟨e1, e2⟩
    · have hn' : W.m.length ≤ n := Nat.le_of_not_lt hn
      rw [List.getElem?_append_right hn'] at e1
      rw [List.getElem?_append_right (h.len ▸ hn')] at e2
      rw [← h.len] at e2
      cases hk : n - W.m.length with
      | zero => rw [hk] at e1 e2; simp at e1 e2; exact .inr ⟨e1.symm, e2.symm⟩
      | succ k => rw [hk] at e1; simp at e1
  have neh : ∀ q ∈ W.h, q.1 ≠ p := fun q hq e => by
    have := (h.hd q hq).1
    rw [e, hp] at this; cases this
  refine ⟨⟨h.ex.trans (Ex.new hp), by simp [h.len], ?_, fun a ha => ?_, fun n a c' e1 e2 => ?_, fun n a c' e1 e2 => ?_, fun q hq => ?_, h.hn⟩, l⟩
  · show (W.m ++ [p]).Nodup
    rw [List.nodup_append]
    exact ⟨h.nd, by simp, fun a ha b hb => by rw [List.mem_singleton.mp hb]; exact ne a ha⟩
  · rcases List.mem_append.mp ha with ha | ha
    · rw [upd_ne (ne a ha)]; exact h.here a ha
    · rw [List.mem_singleton.mp ha]; exact ⟨o, upd_same⟩
  · rcases cases' e1 e2 with ⟨q1, q2⟩ | ⟨rfl, rfl⟩
    · exact h.fr n a c' q1 q2
    · exact .inr hF
  · rcases cases' e1 e2 with ⟨q1, q2⟩ | ⟨rfl, rfl⟩
    · exact ((h.cl n a c' q1 q2).heap (upd_ne (ne a (List.mem_of_getElem? q1)))).mono l
    · exact hc _ l
  · obtain ⟨h1, h2, h3⟩ := h.hd q hq
    exact ⟨by rw [upd_ne (neh q hq)]; exact h1, h2, fun hm => (List.mem_append.mp hm).elim h3 fun z => neh q hq (List.mem_singleton.mp z)⟩
/-- a cell is written -/
theorem Ok.setC (h : Ok K W H cs) {n : Nat} {a : Addr} {c c' : Cel} {o : HO} (hm : W.m[n]? = some a) (hc : cs[n]? = some c) (nd : c ≠ .dead) (hc' : ClOk K W (upd H a o) a c') : Ok K W (upd H a o) (cs.set n c') := by
  have hF : W.F a = none := (h.fr n a c hm hc).resolve_left nd
  have inj : ∀ {k : Nat} {b : Addr}, W.m[k]? = some b → k ≠ n → b ≠ a := fun {k b} e hk z => by
    subst z
    obtain ⟨h1, e1⟩ := List.getElem?_eq_some_iff.mp e
    obtain ⟨h2, e2⟩ := List.getElem?_eq_some_iff.mp hm
    exact hk ((List.getElem_inj h.nd).mp (e1.trans e2.symm))
  have neh : ∀ q ∈ W.h, q.1 ≠ a := fun q hq e => (h.hd q hq).2.2 (e ▸ List.mem_of_getElem? hm)
  refine ⟨h.ex.mut hF, by simp [h.len], h.nd, fun b hb => ?_, fun k b c2 e1 e2 => ?_, fun k b c2 e1 e2 => ?_, fun q hq => ?_, h.hn⟩
  · by_cases q : b = a
    · subst q; exact ⟨o, upd_same⟩
    · rw [upd_ne q]; exact h.here b hb
  · by_cases hk : k = n
    · subst hk
      rw [hm] at e1; cases e1
      exact .inr hF
    · rw [List.getElem?_set_ne (Ne.symm hk)] at e2
      exact h.fr k b c2 e1 e2
  · by_cases hk : k = n
    · subst hk
      rw [hm] at e1; cases e1
      have hl : k < cs.length := (List.getElem?_eq_some_iff.mp hc).1
      rw [List.getElem?_set_self hl] at e2; cases e2
      exact hc'
    · rw [List.getElem?_set_ne (Ne.symm hk)] at e2
      exact (h.cl k b c2 e1 e2).heap (upd_ne (inj e1 hk))
  · obtain ⟨h1, h2, h3⟩ := h.hd q hq
    exact ⟨by rw [upd_ne (neh q hq)]; exact h1, h2, h3⟩
/-- a list's cell changes no more -/
theorem Ok.freeze (h : Ok K W H cs) {n : Nat} {a : Addr} {vs : List V} {xs : List D} (hm : W.m[n]? = some a) (hc : cs[n]? = some (.lst xs)) (hv : H a = some (.lst vs)) :
    Ok K ⟨upd W.F a (.lst vs), W.m, W.h⟩ H (cs.set n .dead) ∧ W.le ⟨upd W.F a (.lst vs), W.m, W.h⟩ := by
  have hF : W.F a = none := (h.fr n a _ hm hc).resolve_left (fun z => nomatch z)
  have l : W.le ⟨upd W.F a (.lst vs), W.m, W.h⟩ := ⟨Ex.new hF, ⟨[], (List.append_nil _).symm⟩, rfl⟩
  have inj : ∀ {k : Nat} {b : Addr}, W.m[k]? = some b → k ≠ n → b ≠ a := fun {k b} e hk z => by
    subst z
    obtain ⟨h1, e1⟩ := List.getElem?_eq_some_iff.mp e
    obtain ⟨h2, e2⟩ := List.getElem?_eq_some_iff.mp hm
    exact hk ((List.getElem_inj h.nd).mp (e1.trans e2.symm))
  have neh : ∀ q ∈ W.h, q.1 ≠ a := fun q hq e => (h.hd q hq).2.2 (e ▸ List.mem_of_getElem? hm)
  refine ⟨⟨fun b u e => ?_, by simp [h.len], h.nd, h.here, fun k b c2 e1 e2 => ?_, fun k b c2 e1 e2 => ?_, fun q hq => ?_, h.hn⟩, l⟩
  · have e : upd W.F a (.lst vs) b = some u := e
    by_cases q : b = a
    · subst q; rw [upd_same] at e; rw [hv]; exact e
    · rw [upd_ne q] at e; exact h.ex b u e
  · by_cases hk : k = n
    · subst hk
      have hl : k < cs.length := (List.getElem?_eq_some_iff.mp hc).1
      rw [List.getElem?_set_self hl] at e2; cases e2
      exact .inl rfl
    · rw [List.getElem?_set_ne (Ne.symm hk)] at e2
      rcases h.fr k b c2 e1 e2 with q | q
      · exact .inl q
      · exact .inr (by show upd W.F a _ b = none; rw [upd_ne (inj e1 hk)]; exact q)
  · by_cases hk : k = n
    · subst hk
      have hl : k < cs.length := (List.getElem?_eq_some_iff.mp hc).1
      rw [List.getElem?_set_self hl] at e2; cases e2
      trivial
    · rw [List.getElem?_set_ne (Ne.symm hk)] at e2
      exact (h.cl k b c2 e1 e2).mono l
  · obtain ⟨h1, h2, h3⟩ := h.hd q hq
    exact ⟨h1, by show upd W.F a _ q.1 = none; rw [upd_ne (neh q hq)]; exact h2, h3⟩
/-- a hidden list: laid, grown, given up -/
theorem Ok.hide (h : Ok K W H cs) {p : Addr} (hp : H p = none) {vs : List V} : Ok K ⟨W.F, W.m, (p, vs) :: W.h⟩ (upd H p (.lst vs)) cs := by
  have hF : W.F p = none := Evl.fresh_back h.ex hp
  have ne : ∀ a ∈ W.m, a ≠ p := fun a ha e => h.fresh hp (e ▸ ha)
  have neh : ∀ q ∈ W.h, q.1 ≠ p := fun q hq e => by
    have := (h.hd q hq).1
    rw [e, hp] at this; cases this
  refine ⟨h.ex.trans (Ex.new hp), h.len, h.nd, fun a ha => by rw [upd_ne (ne a ha)]; exact h.here a ha, h.fr, fun n a c e1 e2 => ?_, fun q hq => ?_, ?_⟩
  · have := (h.cl n a c e1 e2).heap (H' := upd H p (.lst vs)) (upd_ne (ne a (List.mem_of_getElem? e1)))
    exact ClOk.to this rfl rfl
  · rcases List.mem_cons.mp hq with rfl | hq
    · exact ⟨upd_same, hF, h.fresh hp⟩
    · obtain ⟨h1, h2, h3⟩ := h.hd q hq
      exact ⟨by rw [upd_ne (neh q hq)]; exact h1, h2, h3⟩
  · show ((p :: W.h.map (·.1))).Nodup
    refine List.nodup_cons.mpr ⟨fun hm => ?_, h.hn⟩
    obtain ⟨q, hq, e⟩ := List.mem_map.mp hm
    exact neh q hq e
theorem Ok.grow {F : Hp} {m : List Addr} {hh : List (Addr × List V)} {p : Addr} {vs vs' : List V} (h : Ok K ⟨F, m, (p, vs) :: hh⟩ H cs) : Ok K ⟨F, m, (p, vs') :: hh⟩ (upd H p (.lst vs')) cs := by
  obtain ⟨h1, h2, h3⟩ := h.hd (p, vs) List.mem_cons_self
  have ne : ∀ a ∈ m, a ≠ p := fun a ha e => h3 (e ▸ ha)
  have hn : (p :: hh.map (·.1)).Nodup := h.hn
  have neh : ∀ q ∈ hh, q.1 ≠ p := fun q hq e => (List.nodup_cons.mp hn).1 (List.mem_map.mpr ⟨q, hq, e⟩)
  refine ⟨h.ex.mut h2, h.len, h.nd, fun a ha => by rw [upd_ne (ne a ha)]; exact h.here a ha, h.fr, fun n a c e1 e2 => ?_, fun q hq => ?_, h.hn⟩
  · have := (h.cl n a c e1 e2).heap (H' := upd H p (.lst vs')) (upd_ne (ne a (List.mem_of_getElem? e1)))
    exact ClOk.to this rfl rfl
  · rcases List.mem_cons.mp hq with rfl | hq
    · exact ⟨upd_same, h2, h3⟩
    · obtain ⟨g1, g2, g3⟩ := h.hd q (List.mem_cons_of_mem _ hq)
      exact ⟨by rw [upd_ne (neh q hq)]; exact g1, g2, g3⟩
/-- .. it changes no more -/
theorem Ok.showF {F : Hp} {m : List Addr} {hh : List (Addr × List V)} {p : Addr} {vs : List V} (h : Ok K ⟨F, m, (p, vs) :: hh⟩ H cs) : Ok K ⟨upd F p (.lst vs), m, hh⟩ H cs ∧ (⟨F, m, hh⟩ : Wd).le ⟨upd F p (.lst vs), m, hh⟩ := by
  obtain ⟨h1, h2, h3⟩ := h.hd (p, vs) List.mem_cons_self
  have ne : ∀ a ∈ m, a ≠ p := fun a ha e => h3 (e ▸ ha)
  have hn : (p :: hh.map (·.1)).Nodup := h.hn
  have neh : ∀ q ∈ hh, q.1 ≠ p := fun q hq e => (List.nodup_cons.mp hn).1 (List.mem_map.mpr ⟨q, hq, e⟩)
  have l : (⟨F, m, hh⟩ : Wd).le ⟨upd F p (.lst vs), m, hh⟩ := ⟨Ex.new h2, ⟨[], (List.append_nil _).symm⟩, rfl⟩
  refine ⟨⟨fun a u e => ?_, h.len, h.nd, h.here, fun n a c e1 e2 => ?_, fun n a c e1 e2 => ?_, fun q hq => ?_, (List.nodup_cons.mp hn).2⟩, l⟩
  · have e : upd F p (.lst vs) a = some u := e
    by_cases q : a = p
    · subst q; rw [upd_same] at e; rw [h1]; exact e
    · rw [upd_ne q] at e; exact h.ex a u e
  · rcases h.fr n a c e1 e2 with q | q
    · exact .inl q
    · exact .inr (by show upd F p _ a = none; rw [upd_ne (ne a (List.mem_of_getElem? e1))]; exact q)
  · exact (ClOk.to (W' := ⟨F, m, hh⟩) (h.cl n a c e1 e2) rfl rfl).mono l
  · obtain ⟨g1, g2, g3⟩ := h.hd q (List.mem_cons_of_mem _ hq)
    exact ⟨g1, by show upd F p _ q.1 = none; rw [upd_ne (neh q hq)]; exact g2, g3⟩
/-- .. it is a cell -/
theorem Ok.showC {F : Hp} {m : List Addr} {hh : List (Addr × List V)} {p : Addr} {vs : List V} {xs : List D} (h : Ok K ⟨F, m, (p, vs) :: hh⟩ H cs) (r : RAll K ⟨F, m, hh⟩ vs xs) : Ok K ⟨F, m ++ [p], hh⟩ H (cs ++ [.lst xs]) ∧ (⟨F, m, hh⟩ : Wd).le ⟨F, m ++ [p], hh⟩ := by
  obtain ⟨h1, h2, h3⟩ := h.hd (p, vs) List.mem_cons_self
  have hn : (p :: hh.map (·.1)).Nodup := h.hn
  have neh : ∀ q ∈ hh, q.1 ≠ p := fun q hq e => (List.nodup_cons.mp hn).1 (List.mem_map.mpr ⟨q, hq, e⟩)
  have l : (⟨F, m, hh⟩ : Wd).le ⟨F, m ++ [p], hh⟩ := ⟨Ex.refl _, ⟨[p], rfl⟩, rfl⟩
  have hl : m.length = cs.length := h.len
  have cases' : ∀ {n : Nat} {a : Addr} {c' : Cel}, (m ++ [p])[n]? = some a → (cs ++ [.lst xs])[n]? = some c' → (m[n]? = some a ∧ cs[n]? = some c') ∨ (a = p ∧ c' = .lst xs) := fun {n a c'} e1 e2 => by
    by_cases hn : n < m.length
    · rw [List.getElem?_append_left hn] at e1
      rw [List.getElem?_append_left (hl ▸ hn)] at e2
      exact .inl ⟨e1, e2⟩
    · have hn' : m.length ≤ n := Nat.le_of_not_lt hn
      rw [List.getElem?_append_right hn'] at e1
      rw [List.getElem?_append_right (hl ▸ hn')] at e2
      rw [← hl] at e2
      cases hk : n - m.length with
      | zero => rw [hk] at e1 e2; simp at e1 e2; exact .inr ⟨e1.symm, e2.symm⟩
      | succ k => rw [hk] at e1; simp at e1
  refine ⟨⟨h.ex, by simp [hl], ?_, fun a ha => ?_, fun n a c e1 e2 => ?_, fun n a c e1 e2 => ?_, fun q hq => ?_, (List.nodup_cons.mp hn).2⟩, l⟩
  · show (m ++ [p]).Nodup
    rw [List.nodup_append]
    exact ⟨h.nd, by simp, fun a ha b hb e => by rw [List.mem_singleton.mp hb] at e; exact h3 (e ▸ ha)⟩
  · rcases List.mem_append.mp ha with ha | ha
    · exact h.here a ha
    · rw [List.mem_singleton.mp ha]; exact ⟨_, h1⟩
  · rcases cases' e1 e2 with ⟨q1, q2⟩ | ⟨rfl, rfl⟩
    · exact h.fr n a c q1 q2
    · exact .inr h2
  · rcases cases' e1 e2 with ⟨q1, q2⟩ | ⟨rfl, rfl⟩
    · exact (ClOk.to (W' := ⟨F, m, hh⟩) (h.cl n a c q1 q2) rfl rfl).mono l
    · exact ⟨vs, h1, RAll.mono l _ _ r⟩
  · obtain ⟨g1, g2, g3⟩ := h.hd q (List.mem_cons_of_mem _ hq)
    exact ⟨g1, g2, fun hm => (List.mem_append.mp hm).elim g3 fun z => neh q hq (List.mem_singleton.mp z)⟩
theorem Sd.mono (h : Sd K W H σ e) (l : W.le W') (ok : Ok K W' H' cs) : Sd K W' H' σ { e with cs := cs } := ⟨ok, h.sl.mono l⟩
end

/-! ### looking at lists -/
def lk (cs : List Cel) : D → Option (List D)
  | .lst xs => some xs
  | .fro xs => some xs
  | .cell n => match cs[n]? with
    | some (.lst xs) => some xs
    | _ => none
  | _ => none
/-- not a locked one -/
def lkP (cs : List Cel) : D → Option (List D)
  | .lst xs => some xs
  | .cell n => match cs[n]? with
    | some (.lst xs) => some xs
    | _ => none
  | _ => none
section
variable {K : PySem.W.Frag} {W : Wd} {H : Hp} {cs : List Cel}
theorem Ok.cellL (h : Ok K W H cs) {n : Nat} {a : Addr} {xs : List D} (hm : W.m[n]? = some a) (hc : cs[n]? = some (.lst xs)) : ∃ vs, H a = some (.lst vs) ∧ RAll K W vs xs := h.cl n a _ hm hc
theorem Ok.lkP (h : Ok K W H cs) {d : D} {v : V} {xs : List D} (r : R K W v d) (e : lkP cs d = some xs) : ∃ a vs, v = .ref a ∧ H a = some (.lst vs) ∧ RAll K W vs xs := by
  cases r <;> simp only [DL.lkP] at e <;> try cases e
  · rename_i a vs hs ha
    exact ⟨a, vs, rfl, h.ex _ _ hs, ha⟩
  · rename_i n a hm
    split at e
    · rename_i xs' hc
      cases e
      obtain ⟨vs, h1, h2⟩ := h.cellL hm hc
      exact ⟨a, vs, rfl, h1, h2⟩
    · cases e
theorem Ok.lk (h : Ok K W H cs) {d : D} {v : V} {xs : List D} (r : R K W v d) (e : lk cs d = some xs) : ∃ a vs, v = .ref a ∧ SqL K H a vs ∧ RAll K W vs xs := by
  cases r <;> simp only [DL.lk] at e <;> try cases e
  · rename_i a vs hs ha
    exact ⟨a, vs, rfl, SqL.of (h.ex _ _ hs), ha⟩
  · rename_i a vs hs ha
    exact ⟨a, vs, rfl, Evl.ex_l h.ex hs, ha⟩
  · rename_i n a hm
    split at e
    · rename_i xs' hc
      cases e
      obtain ⟨vs, h1, h2⟩ := h.cellL hm hc
      exact ⟨a, vs, rfl, SqL.of h1, h2⟩
    · cases e
end

/-! ### lifting -/
/-- what is known of the world all along -/
structure Bs where
  p : Wd → Prop
  up : ∀ {W W' : Wd}, p W → W.le W' → p W'
def Bs.any : Bs := ⟨fun _ => True, fun _ _ => trivial⟩
def Bs.of (W0 : Wd) : Bs := ⟨fun W => W0.le W, fun a b => a.tr b⟩
abbrev DE := En → (D → En → Prop) → Prop
abbrev DT := En → (Bool → En → Prop) → Prop
abbrev DA := En → (List D → En → Prop) → Prop
structure Po where
  nx : En → Prop
  rt : D → List Cel → Prop
  bk : En → Prop := fun _ => False
  ct : En → Prop := fun _ => False
abbrev DS := Po → En → Prop
def lE (K : PySem.W.Frag) (B : Bs) (t : DE) : TE := fun σ H Q => ∃ W e P, B.p W ∧ Sd K W H σ e ∧ t e P ∧
  ∀ d e' W' H' v, P d e' → W.le W' → Sd K W' H' σ e' → R K W' v d → Q v H'
def lT (K : PySem.W.Frag) (B : Bs) (t : DT) : TT := fun σ H Q => ∃ W e P, B.p W ∧ Sd K W H σ e ∧ t e P ∧
  ∀ b e' W' H', P b e' → W.le W' → Sd K W' H' σ e' → Q b H'
def lA (K : PySem.W.Frag) (B : Bs) (t : DA) : TA := fun σ H Q => ∃ W e P, B.p W ∧ Sd K W H σ e ∧ t e P ∧
  ∀ ds e' W' H' vs, P ds e' → W.le W' → Sd K W' H' σ e' → RAll K W' vs ds → Q vs H'
def lS (K : PySem.W.Frag) (B : Bs) (t : DS) : TS := fun D σ H => ∃ W e P, B.p W ∧ Sd K W H σ e ∧ t P e ∧
  (∀ e' W' H' σ', P.nx e' → W.le W' → Sd K W' H' σ' e' → D.nx σ' H') ∧
  (∀ d cs W' H' v, P.rt d cs → W.le W' → Ok K W' H' cs → R K W' v d → D.rt v H') ∧
  (∀ e' W' H' σ', P.bk e' → W.le W' → Sd K W' H' σ' e' → D.bk σ' H') ∧
  (∀ e' W' H' σ', P.ct e' → W.le W' → Sd K W' H' σ' e' → D.ct σ' H')

section
variable {X : Cx} {ex : Expr}
theorem PE.imp {t t' : TE} (h : PE X ex t) (i : ∀ σ H Q, t' σ H Q → t σ H Q) : PE X ex t' := ⟨fun pins s σ H Q I w => h.run pins s σ H Q I (i σ H Q w)⟩
theorem PT.imp {t t' : TT} (h : PT X ex t) (i : ∀ σ H Q, t' σ H Q → t σ H Q) : PT X ex t' := ⟨fun pins s σ H Q I w => h.run pins s σ H Q I (i σ H Q w)⟩
theorem PW.imp {t t' : TT} (h : PW X ex t) (i : ∀ σ H Q, t' σ H Q → t σ H Q) : PW X ex t' := ⟨fun wh pins s σ H Q I w => h.run wh pins s σ H Q I (i σ H Q w)⟩
theorem PA.imp {es : List Expr} {t t' : TA} (h : PA X es t) (i : ∀ σ H Q, t' σ H Q → t σ H Q) : PA X es t' := ⟨fun pos pins s σ H Q I w => h.run pos pins s σ H Q I (i σ H Q w)⟩
theorem PS.imp {st : Stmt} {t t' : TS} (h : PS X st t) (i : ∀ D σ H, t' D σ H → t D σ H) : PS X st t' := ⟨fun pins s σ H D I w => h.run pins s σ H D I (i D σ H w)⟩
theorem PSs.imp {st : List Stmt} {t t' : TS} (h : PSs X st t) (i : ∀ D σ H, t' D σ H → t D σ H) : PSs X st t' := ⟨fun pins s σ H D I w => h.run pins s σ H D I (i D σ H w)⟩
end
end DL
namespace DL
open PySem PySem.Spec PyProof.Rows L2
open Evl (Ex)

/-! ### new objects -/
def newL (o : Bool) (xs : List D) : DE := fun e P => match o with
  | false => P (.lst xs) e
  | true => P (.cell e.cs.length) { e with cs := e.cs ++ [.lst xs] }
section
variable {K : PySem.W.Frag} {W : Wd} {H : Hp} {σ : L2.St} {e : En} {Q : VK} {P : D → En → Prop}
theorem newL_ok {o : Bool} {xs : List D} {vs : List V} (S : Sd K W H σ e) (r : RAll K W vs xs) (t : newL o xs e P)
    (k : ∀ d e' W' H' v, P d e' → W.le W' → Sd K W' H' σ e' → R K W' v d → Q v H') : ∀ p, H p = none → Q (.ref p) (upd H p (.lst vs)) := by
  intro p hp
  cases o with
  | false =>
    obtain ⟨ok, l⟩ := S.ok.newF (o := .lst vs) hp
    exact k _ _ _ _ _ t l ⟨ok, S.sl.mono l⟩ (.lst upd_same (RAll.mono l _ _ r))
  | true =>
    obtain ⟨ok, l⟩ := S.ok.newC (o := .lst vs) (c := .lst xs) hp fun W' l => ⟨vs, upd_same, RAll.mono l _ _ r⟩
    refine k _ _ _ _ _ t l ⟨ok, S.sl.mono l⟩ (.cell ?_)
    show (W.m ++ [p])[e.cs.length]? = some p
    rw [← S.ok.len, List.getElem?_append_right (Nat.le_refl _)]
    simp
theorem newT_ok {xs : List D} {vs : List V} (S : Sd K W H σ e) (r : RAll K W vs xs) (t : P (.tup xs) e)
    (k : ∀ d e' W' H' v, P d e' → W.le W' → Sd K W' H' σ e' → R K W' v d → Q v H') : ∀ p, H p = none → Q (.ref p) (upd H p (.tup vs)) := by
  intro p hp
  obtain ⟨ok, l⟩ := S.ok.newF (o := .tup vs) hp
  exact k _ _ _ _ _ t l ⟨ok, S.sl.mono l⟩ (.tup (SqT.of upd_same) (RAll.mono l _ _ r))
end

/-! ### names and constants -/
def eV (i : Nat) : DE := fun e P => ∃ d, e.sl[i]? = some (some d) ∧ P d e
def eC (d : D) : DE := fun e P => P d e
section
variable {X : Cx} {B : Bs} {a b c ex : Expr} {pos : Pos} {ta tb tc te : DE}
theorem de_var {i : Nat} (h : PE X ex (tVar i)) : PE X ex (lE X.K B (eV i)) := PE.imp h fun σ H Q ⟨W, e, P, _, S, ⟨d, hd, p⟩, k⟩ => by
  obtain ⟨v, hv, r⟩ := S.sl.2 i d hd
  exact ⟨v, hv, k d e W H v p W.le_refl S r⟩
theorem dv (i : Nat) {x : Str} (hN : X.N[i]? = some x := by rfl) (hv : Vis X.env.scope x := by first | exact Or.inl rfl | exact Or.inr (Or.inl rfl) | exact Or.inr (Or.inr rfl)) (hd : (x == ("__debug__" : Str)) = false := by decide)
    (hcd : (x == ("__classdict__" : Str)) = false := by decide) : PE X (.Name x pos) (lE X.K B (eV i)) := de_var (pe_var hN hv hd hcd)
theorem de_c {v : V} {d : D} (h : PE X ex (tC v)) (hr : ∀ W, R X.K W v d) : PE X ex (lE X.K B (eC d)) := PE.imp h fun σ H Q ⟨W, e, P, _, S, p, k⟩ => k d e W H v p W.le_refl S (hr W)
theorem de_int {i j} : PE X (.Constant (.int i) j pos) (lE X.K B (eC (.int i))) := de_c pe_int fun _ => .int i
theorem de_bl {i j} : PE X (.Constant (.bool i) j pos) (lE X.K B (eC (.bl i))) := de_c pe_bl fun _ => .bl i
theorem de_non {j} : PE X (.Constant .none j pos) (lE X.K B (eC .non)) := de_c pe_non fun _ => .non
theorem de_str {s j} : PE X (.Constant (.str s) j pos) (lE X.K B (eC (.str s))) := de_c pe_str fun _ => .str s
/-- a name of the module -/
theorem de_glob {x : Str} {v : V} {u : Value} {d : D} (hg : Gl X x) (hm : X.mg x = some u) (r : RelV v u) (hr : ∀ W, R X.K W v d) (hd : (x == ("__debug__" : Str)) = false := by decide) : PE X (.Name x pos) (lE X.K B (eC d)) := de_c (pe_glob hg hm r hd) hr
theorem de_ty {x : Str} {T : String} (hg : Gl X x) (hm : X.mg x = none) (hv : bootBuiltins x = some (.type T)) (hn : x ≠ "__name__" := by decide) (hd : (x == ("__debug__" : Str)) = false := by decide) : PE X (.Name x pos) (lE X.K B (eC (.raw (.ty T)))) :=
  de_c (pe_bltn (v := .ty T) hg hm hv rfl hn hd) fun _ => .raw _

/-! ### operators -/
/-- an operation by data -/
def OpD (K : PySem.W.Frag) (r : R2) (q : D → D → DE) : Prop := ∀ (W : Wd) (H : Hp) (σ : L2.St) (e : En) (x y : V) (d1 d2 : D) (P : D → En → Prop) (Q : VK), Sd K W H σ e → R K W x d1 → R K W y d2 → q d1 d2 e P →
  (∀ d e' W' H' v, P d e' → W.le W' → Sd K W' H' σ e' → R K W' v d → Q v H') → r x y H Q
def eBin (q : D → D → DE) (ta tb : DE) : DE := fun e P => ta e fun x e1 => tb e1 fun y e2 => q x y e2 P
theorem bin_ok {r : R2} {q : D → D → DE} (hq : OpD X.K r q) : ∀ σ H Q, lE X.K B (eBin q ta tb) σ H Q → tOp r (lE X.K B ta) (lE X.K B tb) σ H Q :=
  fun σ H Q ⟨W, e, P, bl, S, t, k⟩ => ⟨W, e, _, bl, S, t, fun x e1 W1 H1 v1 t1 l1 S1 r1 => ⟨W1, e1, _, (B.up bl l1), S1, t1, fun y e2 W2 H2 v2 t2 l2 S2 r2 =>
    hq W2 H2 σ e2 v1 v2 x y P Q S2 (R.mono l2 _ _ r1) r2 t2 fun d e3 W3 H3 v3 p l3 S3 r3 => k d e3 W3 H3 v3 p ((l1.tr l2).tr l3) S3 r3⟩⟩
theorem de_bin {op : Operator} {r : R2} {q : D → D → DE} (ho : OpR X (binaryOp op) r) (hq : OpD X.K r q) (ha : PE X a (lE X.K B ta)) (hb : PE X b (lE X.K B tb)) : PE X (.BinOp a op b pos) (lE X.K B (eBin q ta tb)) :=
  PE.imp (pe_op ho ha hb) (bin_ok hq)
theorem de_cmp {op : CmpOp} {r : R2} {q : D → D → DE} (ho : OpR X (compareOp op) r) (hq : OpD X.K r q) (ha : PE X a (lE X.K B ta)) (hb : PE X b (lE X.K B tb)) (hm : behindInMarks op b = false) : PE X (.Compare a [op] [b] pos) (lE X.K B (eBin q ta tb)) :=
  PE.imp (pe_cmpR ho ha hb hm) (bin_ok hq)
/-- a value that is a bool, as a test -/
def eTest (t : DE) : DT := fun e P => t e fun d e1 => ∃ k, d = .bl k ∧ P k e1
theorem R.bl_inv {K : PySem.W.Frag} {W : Wd} {v : V} {k : Bool} (r : R K W v (.bl k)) : v = .bl k := by cases r; rfl
theorem test_ok {t : TE} (h : ∀ σ H Q, lE X.K B te σ H Q → t σ H Q) : ∀ σ H Q, lT X.K B (eTest te) σ H Q → tTest t σ H Q :=
  fun σ H Q ⟨W, e, P, bl, S, t, k⟩ => h σ H _ ⟨W, e, _, bl, S, t, fun d e1 W1 H1 v ⟨kk, ed, p⟩ l1 S1 r1 => ⟨kk, by subst ed; exact r1.bl_inv, k kk e1 W1 H1 p l1 S1⟩⟩
theorem dt_cmp {op : CmpOp} {r : R2} {q : D → D → DE} (ho : OpR X (compareOp op) r) (hq : OpD X.K r q) (ha : PE X a (lE X.K B ta)) (hb : PE X b (lE X.K B tb)) (hm : behindInMarks op b = false) : PT X (.Compare a [op] [b] pos) (lT X.K B (eTest (eBin q ta tb))) :=
  PT.imp (pt_cmpR ho ha hb hm) (test_ok (bin_ok hq))
theorem dt_val {e : Expr} (h : PE X e (lE X.K B te)) (he : ∀ whole, isTrue e X.env whole = (do let v ← whole; standAt e.pos; holding [v] (truthy v)) := by intro _; rfl) : PT X e (lT X.K B (eTest te)) :=
  PT.imp (pt_val h he) (test_ok fun _ _ _ z => z)
/-- a op1 b op2 c -/
def eChain (q q' : D → D → DE) (ta tb tc : DE) : DE := fun e P => ta e fun x e1 => tb e1 fun y e2 => q x y e2 fun z e3 => ∃ k, z = .bl k ∧ if k = true then tc e3 fun w e4 => q' y w e4 P else P (.bl false) e3
theorem chain_ok {r r' : R2} {q q' : D → D → DE} (hq : OpD X.K r q) (hq' : OpD X.K r' q') : ∀ σ H Q, lE X.K B (eChain q q' ta tb tc) σ H Q → tChain r r' (lE X.K B ta) (lE X.K B tb) (lE X.K B tc) σ H Q :=
  fun σ H Q ⟨W, e, P, bl, S, t, k⟩ => ⟨W, e, _, bl, S, t, fun x e1 W1 H1 v1 t1 l1 S1 r1 => ⟨W1, e1, _, (B.up bl l1), S1, t1, fun y e2 W2 H2 v2 t2 l2 S2 r2 =>
    hq W2 H2 σ e2 v1 v2 x y _ _ S2 (R.mono l2 _ _ r1) r2 t2 fun z e3 W3 H3 v3 ⟨kk, ez, h3⟩ l3 S3 r3 => ⟨kk, by subst ez; exact r3.bl_inv, by
      have l13 := (l1.tr l2).tr l3
      cases kk with
      | false => exact iteF (k _ _ _ _ _ h3 l13 S3 (.bl false))
      | true => exact iteT ⟨W3, e3, _, (B.up bl l13), S3, h3, fun w e4 W4 H4 v4 t4 l4 S4 r4 => hq' W4 H4 σ e4 v2 v4 y w P Q S4 (R.mono (l3.tr l4) _ _ r2) r4 t4 fun d e5 W5 H5 v5 p l5 S5 r5 => k d e5 W5 H5 v5 p ((l13.tr l4).tr l5) S5 r5⟩⟩⟩⟩
theorem de_chain {op op' : CmpOp} {r r' : R2} {q q' : D → D → DE} (ho : OpR X (compareOp op) r) (ho' : OpR X (compareOp op') r') (hq : OpD X.K r q) (hq' : OpD X.K r' q') (ha : PE X a (lE X.K B ta)) (hb : PE X b (lE X.K B tb)) (hc : PE X c (lE X.K B tc))
    (hm : lastMarks [op, op'] [b, c] = false := by with_unfolding_all rfl) : PE X (.Compare a [op, op'] [b, c] pos) (lE X.K B (eChain q q' ta tb tc)) := PE.imp (pe_chain ho ho' ha hb hc hm) (chain_ok hq hq')
theorem dt_chain {op op' : CmpOp} {r r' : R2} {q q' : D → D → DE} (ho : OpR X (compareOp op) r) (ho' : OpR X (compareOp op') r') (hq : OpD X.K r q) (hq' : OpD X.K r' q') (ha : PE X a (lE X.K B ta)) (hb : PE X b (lE X.K B tb)) (hc : PE X c (lE X.K B tc))
    (hm : lastMarks [op, op'] [b, c] = false := by with_unfolding_all rfl) : PT X (.Compare a [op, op'] [b, c] pos) (lT X.K B (eTest (eChain q q' ta tb tc))) := PT.imp (pt_chain ho ho' ha hb hc hm) (test_ok (chain_ok hq hq'))

/-! the ops -/
def MulOk (i j : Int) : Prop := CMul i j ∨ CMulW i j
def FdivOk (i j : Int) : Prop := CDiv i j ∨ CDivW i j
theorem op_mulA : OpR X (binaryOp .Mult) (rI MulOk fun i j => .int (i * j)) := by
  intro pins s σ H x y v u Q I r1 r2 ⟨i, j, e1, e2, c, q⟩
  rcases c with c | c
  · exact op_mul pins s σ H x y v u Q I r1 r2 ⟨i, j, e1, e2, c, q⟩
  · exact op_mulW pins s σ H x y v u Q I r1 r2 ⟨i, j, e1, e2, c, q⟩
theorem op_fdivA : OpR X (binaryOp .FloorDiv) (rI FdivOk fun i j => .int (i / j)) := by
  intro pins s σ H x y v u Q I r1 r2 ⟨i, j, e1, e2, c, q⟩
  rcases c with c | c
  · exact op_fdiv pins s σ H x y v u Q I r1 r2 ⟨i, j, e1, e2, c, q⟩
  · exact op_fdivW pins s σ H x y v u Q I r1 r2 ⟨i, j, e1, e2, c, q⟩
def qSub : D → D → DE
  | .int i, .int j => fun e P => P (.int (i - j)) e
  | _, _ => fun _ _ => False
def qMul : D → D → DE
  | .int i, .int j => fun e P => MulOk i j ∧ P (.int (i * j)) e
  | _, _ => fun _ _ => False
def qFdiv : D → D → DE
  | .int i, .int j => fun e P => FdivOk i j ∧ P (.int (i / j)) e
  | _, _ => fun _ _ => False
def qMod : D → D → DE
  | .int i, .int j => fun e P => 0 < j ∧ P (.int (i % j)) e
  | _, _ => fun _ _ => False
def qPow : D → D → DE
  | .int i, .int j => fun e P => CPow i j ∧ P (.int (i ^ j.toNat)) e
  | _, _ => fun _ _ => False
def qAdd (o : Bool) : D → D → DE
  | .int i, .int j => fun e P => P (.int (i + j)) e
  | .str s, .str t => fun e P => s.length + t.length ≤ sizeLine ∧ P (.str (s ++ t)) e
  | .tup xs, .tup ys => fun e P => xs ≠ [] ∧ xs.length + ys.length ≤ sizeLine ∧ P (.tup (xs ++ ys)) e
  | x, y => fun e P => ∃ xs ys, lkP e.cs x = some xs ∧ lkP e.cs y = some ys ∧ xs.length + ys.length ≤ sizeLine ∧ newL o (xs ++ ys) e P
theorem R.int_inv {K : PySem.W.Frag} {W : Wd} {v : V} {k : Int} (r : R K W v (.int k)) : v = .int k := by cases r; rfl
theorem R.str_inv {K : PySem.W.Frag} {W : Wd} {v : V} {k : Str} (r : R K W v (.str k)) : v = .str k := by cases r; rfl
theorem R.non_inv {K : PySem.W.Frag} {W : Wd} {v : V} (r : R K W v .non) : v = .non := by cases r; rfl
theorem R.raw_inv {K : PySem.W.Frag} {W : Wd} {v u : V} (r : R K W v (.raw u)) : v = u := by cases r; rfl
theorem od_I0 {K : PySem.W.Frag} {f : Int → Int → D} {g : Int → Int → V} {q : D → D → DE} (hq : ∀ x y e P, q x y e P → ∃ i j, x = .int i ∧ y = .int j ∧ P (f i j) e) (hr : ∀ W i j, R K W (g i j) (f i j)) : OpD K (rI0 g) q := by
  intro W H σ e x y d1 d2 P Q S r1 r2 t k
  obtain ⟨i, j, rfl, rfl, t'⟩ := hq _ _ _ _ t
  exact ⟨i, j, r1.int_inv, r2.int_inv, k _ _ _ _ _ t' W.le_refl S (hr W i j)⟩
theorem od_I {K : PySem.W.Frag} {C : Int → Int → Prop} {f : Int → Int → D} {g : Int → Int → V} {q : D → D → DE} (hq : ∀ x y e P, q x y e P → ∃ i j, x = .int i ∧ y = .int j ∧ C i j ∧ P (f i j) e) (hr : ∀ W i j, R K W (g i j) (f i j)) : OpD K (rI C g) q := by
  intro W H σ e x y d1 d2 P Q S r1 r2 t k
  obtain ⟨i, j, rfl, rfl, c, t'⟩ := hq _ _ _ _ t
  exact ⟨i, j, r1.int_inv, r2.int_inv, c, k _ _ _ _ _ t' W.le_refl S (hr W i j)⟩
theorem od_sub {K : PySem.W.Frag} : OpD K (rI0 fun i j => .int (i - j)) qSub := od_I0 (f := fun i j => .int (i - j)) (fun x y e P h => by
  cases x <;> cases y <;> first | exact h.elim | exact ⟨_, _, rfl, rfl, h⟩) fun _ _ _ => .int _
theorem od_mul {K : PySem.W.Frag} : OpD K (rI MulOk fun i j => .int (i * j)) qMul := od_I (f := fun i j => .int (i * j)) (fun x y e P h => by
  cases x <;> cases y <;> first | exact h.elim | exact ⟨_, _, rfl, rfl, h⟩) fun _ _ _ => .int _
theorem od_fdiv {K : PySem.W.Frag} : OpD K (rI FdivOk fun i j => .int (i / j)) qFdiv := od_I (f := fun i j => .int (i / j)) (fun x y e P h => by
  cases x <;> cases y <;> first | exact h.elim | exact ⟨_, _, rfl, rfl, h⟩) fun _ _ _ => .int _
theorem od_mod {K : PySem.W.Frag} : OpD K (rI (fun _ j => 0 < j) fun i j => .int (i % j)) qMod := od_I (f := fun i j => .int (i % j)) (fun x y e P h => by
  cases x <;> cases y <;> first | exact h.elim | exact ⟨_, _, rfl, rfl, h⟩) fun _ _ _ => .int _
theorem od_pow {K : PySem.W.Frag} : OpD K (rI CPow fun i j => .int (i ^ j.toNat)) qPow := od_I (f := fun i j => .int (i ^ j.toNat)) (fun x y e P h => by
  cases x <;> cases y <;> first | exact h.elim | exact ⟨_, _, rfl, rfl, h⟩) fun _ _ _ => .int _
def rAddA (K : PySem.W.Frag) : R2 := fun x y H Q => (((rI0 fun i j => .int (i + j)) x y H Q ∨ (∃ i j, x = .str i ∧ y = .str j ∧ i.length + j.length ≤ sizeLine ∧ Q (.str (i ++ j)) H)) ∨ rCatT K x y H Q) ∨ rCat x y H Q
theorem op_addA : OpR X (binaryOp .Add) (rAddA X.K) := ((op_add.or op_add_str).or op_catT).or op_cat
theorem od_add {K : PySem.W.Frag} {o : Bool} : OpD K (rAddA K) (qAdd o) := by
  intro W H σ e x y d1 d2 P Q S r1 r2 t k
  have lists : (∃ xs ys, lkP e.cs d1 = some xs ∧ lkP e.cs d2 = some ys ∧ xs.length + ys.length ≤ sizeLine ∧ newL o (xs ++ ys) e P) → rAddA K x y H Q := fun ⟨xs, ys, e1, e2, hz, t⟩ => by
    obtain ⟨p1, vs, rfl, h1, q1⟩ := S.ok.lkP r1 e1
    obtain ⟨p2, ws, rfl, h2, q2⟩ := S.ok.lkP r2 e2
    exact .inr ⟨p1, p2, vs, ws, rfl, rfl, h1, h2, by rw [q1.length, q2.length]; exact hz, newL_ok S (q1.append q2) t k⟩
  unfold qAdd at t
  split at t
  · exact .inl (.inl (.inl ⟨_, _, r1.int_inv, r2.int_inv, k _ _ _ _ _ t W.le_refl S (.int _)⟩))
  · exact .inl (.inl (.inr ⟨_, _, r1.str_inv, r2.str_inv, t.1, k _ _ _ _ _ t.2 W.le_refl S (.str _)⟩))
  · obtain ⟨hne, hz, t⟩ := t
    cases r1 with
    | tup h1 q1 =>
      cases r2 with
      | tup h2 q2 =>
        refine .inl (.inr ⟨_, _, _, _, rfl, rfl, Evl.ex_t S.ok.ex h1, Evl.ex_t S.ok.ex h2, fun z => hne ?_, by rw [q1.length, q2.length]; exact hz, ?_⟩)
        · subst z; cases q1; rfl
        · exact ⟨fun z => k _ _ _ _ _ t W.le_refl S (by
            subst z; cases q2
            rw [List.append_nil]
            exact .tup h1 q1), fun _ => newT_ok S (q1.append q2) t k⟩
  · exact lists t
def qLt : D → D → DE
  | .int i, .int j => fun e P => P (.bl (decide (i < j))) e
  | _, _ => fun _ _ => False
def qLe : D → D → DE
  | .int i, .int j => fun e P => P (.bl (decide (i ≤ j))) e
  | _, _ => fun _ _ => False
def qGt : D → D → DE
  | .int i, .int j => fun e P => P (.bl (decide (j < i))) e
  | _, _ => fun _ _ => False
def qGe : D → D → DE
  | .int i, .int j => fun e P => P (.bl (decide (j ≤ i))) e
  | _, _ => fun _ _ => False
theorem od_lt {K : PySem.W.Frag} : OpD K (rI0 fun i j => .bl (decide (i < j))) qLt := od_I0 (f := fun i j => .bl (decide (i < j))) (fun x y e P h => by
  cases x <;> cases y <;> first | exact h.elim | exact ⟨_, _, rfl, rfl, h⟩) fun _ _ _ => .bl _
theorem od_le {K : PySem.W.Frag} : OpD K (rI0 fun i j => .bl (decide (i ≤ j))) qLe := od_I0 (f := fun i j => .bl (decide (i ≤ j))) (fun x y e P h => by
  cases x <;> cases y <;> first | exact h.elim | exact ⟨_, _, rfl, rfl, h⟩) fun _ _ _ => .bl _
theorem od_gt {K : PySem.W.Frag} : OpD K (rI0 fun i j => .bl (decide (j < i))) qGt := od_I0 (f := fun i j => .bl (decide (j < i))) (fun x y e P h => by
  cases x <;> cases y <;> first | exact h.elim | exact ⟨_, _, rfl, rfl, h⟩) fun _ _ _ => .bl _
theorem od_ge {K : PySem.W.Frag} : OpD K (rI0 fun i j => .bl (decide (j ≤ i))) qGe := od_I0 (f := fun i j => .bl (decide (j ≤ i))) (fun x y e P h => by
  cases x <;> cases y <;> first | exact h.elim | exact ⟨_, _, rfl, rfl, h⟩) fun _ _ _ => .bl _
end
end DL
namespace DL
open PySem PySem.Spec PyProof.Rows L2
open Evl (Ex)

/-! ### data that is compared -/
mutual
def toP : D → PyData
  | .non => .none
  | .bl b => .bool b
  | .int i => .int i
  | .str s => .str s
  | .tup xs => .tuple (toPs xs)
  | .lst xs => .list (toPs xs)
  | .fro xs => .list (toPs xs)
  | .ins _ _ _ => .none
  | .cell _ => .none
  | .dct => .none
  | .raw _ => .none
  | .exc _ _ => .none
def toPs : List D → List PyData
  | [] => []
  | x :: xs => toP x :: toPs xs
end
mutual
def okD : D → Bool
  | .non => true
  | .bl _ => true
  | .int _ => true
  | .str _ => true
  | .tup xs => okDs xs
  | .lst xs => okDs xs
  | .fro xs => okDs xs
  | .ins _ _ _ => false
  | .cell _ => false
  | .dct => false
  | .raw _ => false
  | .exc _ _ => false
def okDs : List D → Bool
  | [] => true
  | x :: xs => okD x && okDs xs
end
def drf (cs : List Cel) : D → D
  | .cell n => match cs[n]? with
    | some (.lst xs) => .lst xs
    | _ => .cell n
  | .fro xs => .lst xs
  | d => d
def shp (d : D) : Bool := okD d && SeqAt.shaped (toP d)
section
variable {K : PySem.W.Frag} {W : Wd} {H : Hp} {cs : List Cel}
mutual
theorem R.dp (x : Ex W.F H) : ∀ (d : D) (v : V), R K W v d → okD d = true → Dp K H v (toP d)
  | .non, _, h, _ => by cases h; exact .non
  | .bl b, _, h, _ => by cases h; exact .bl b
  | .int i, _, h, _ => by cases h; exact .int i
  | .str s, _, h, _ => by cases h; exact .str s
  | .tup xs, _, h, o => by
    cases h with
    | tup hs ha => exact .tup (Evl.ex_t x hs) (RAll.dp x xs _ ha o)
  | .lst xs, _, h, o => by
    cases h with
    | lst hs ha => exact .lst (SqL.of (x _ _ hs)) (RAll.dp x xs _ ha o)
  | .fro xs, _, h, o => by
    cases h with
    | fro hs ha => exact .lst (Evl.ex_l x hs) (RAll.dp x xs _ ha o)
  | .ins _ _ _, _, _, o => by cases o
  | .cell _, _, _, o => by cases o
  | .dct, _, _, o => by cases o
  | .raw _, _, _, o => by cases o
  | .exc _ _, _, _, o => by cases o
theorem RAll.dp (x : Ex W.F H) : ∀ (ds : List D) (vs : List V), RAll K W vs ds → okDs ds = true → DpAll K H vs (toPs ds)
  | [], _, h, _ => by cases h; exact .nil
  | d :: ds, _, h, o => by
    cases h with
    | cons h1 h2 =>
      have o' : (okD d && okDs ds) = true := o
      rw [Bool.and_eq_true] at o'
      exact .cons (R.dp x d _ h1 o'.1) (RAll.dp x ds _ h2 o'.2)
end
theorem Ok.dp (h : Ok K W H cs) {d : D} {v : V} (r : R K W v d) (o : okD (drf cs d) = true) : Dp K H v (toP (drf cs d)) := by
  cases d with
  | cell n =>
    cases r with
    | cell hm =>
      unfold drf at o ⊢
      simp only at o ⊢
      split at o
      · rename_i xs hc
        obtain ⟨vs, h1, h2⟩ := h.cellL hm hc
        exact .lst (SqL.of h1) (RAll.dp' h2 o)
      · cases o
  | non => exact R.dp h.ex _ _ r o
  | bl b => exact R.dp h.ex _ _ r o
  | int i => exact R.dp h.ex _ _ r o
  | str s => exact R.dp h.ex _ _ r o
  | tup xs => exact R.dp h.ex _ _ r o
  | lst xs => exact R.dp h.ex _ _ r o
  | fro xs => exact R.dp h.ex (.fro xs) _ r o
  | dct => cases o
  | exc _ _ => cases o
  | ins _ _ _ => exact R.dp h.ex _ _ r o
  | raw _ => exact R.dp h.ex _ _ r o
where
  RAll.dp' {vs : List V} {ds : List D} (h2 : RAll K W vs ds) (o : okDs ds = true) : DpAll K H vs (toPs ds) := RAll.dp h.ex ds vs h2 o
end
def qEq : D → D → DE
  | .int i, .int j => fun e P => P (.bl (decide (i = j))) e
  | x, y => fun e P => shp (drf e.cs x) = true ∧ shp (drf e.cs y) = true ∧ P (.bl (PyData.eqv (toP (drf e.cs x)) (toP (drf e.cs y)))) e
def qNe : D → D → DE
  | .int i, .int j => fun e P => P (.bl (!decide (i = j))) e
  | x, y => fun e P => shp (drf e.cs x) = true ∧ shp (drf e.cs y) = true ∧ P (.bl (!PyData.eqv (toP (drf e.cs x)) (toP (drf e.cs y)))) e
theorem shp_and {d : D} (h : shp d = true) : okD d = true ∧ SeqAt.shaped (toP d) = true := by
  have h' : (okD d && SeqAt.shaped (toP d)) = true := h
  rwa [Bool.and_eq_true] at h'
theorem od_eq {K : PySem.W.Frag} : OpD K (rEqD K) qEq := by
  intro W H σ e x y d1 d2 P Q S r1 r2 t k
  unfold qEq at t
  split at t
  · refine ⟨_, _, R.dp S.ok.ex _ _ r1 rfl, R.dp S.ok.ex _ _ r2 rfl, rfl, rfl, ?_⟩
    refine k _ _ _ _ _ t W.le_refl S ?_
    rename_i i j
    have e0 : PyData.eqv (toP (.int i)) (toP (.int j)) = decide (i = j) := Bool.beq_eq_decide_eq _ _
    rw [e0]
    exact .bl _
  · obtain ⟨h1, h2, t⟩ := t
    obtain ⟨o1, s1⟩ := shp_and h1
    obtain ⟨o2, s2⟩ := shp_and h2
    exact ⟨_, _, S.ok.dp r1 o1, S.ok.dp r2 o2, s1, s2, k _ _ _ _ _ t W.le_refl S (.bl _)⟩
theorem od_ne {K : PySem.W.Frag} : OpD K (rNeD K) qNe := by
  intro W H σ e x y d1 d2 P Q S r1 r2 t k
  unfold qNe at t
  split at t
  · refine ⟨_, _, R.dp S.ok.ex _ _ r1 rfl, R.dp S.ok.ex _ _ r2 rfl, rfl, rfl, ?_⟩
    refine k _ _ _ _ _ t W.le_refl S ?_
    rename_i i j
    have e0 : PyData.eqv (toP (.int i)) (toP (.int j)) = decide (i = j) := Bool.beq_eq_decide_eq _ _
    rw [e0]
    exact .bl _
  · obtain ⟨h1, h2, t⟩ := t
    obtain ⟨o1, s1⟩ := shp_and h1
    obtain ⟨o2, s2⟩ := shp_and h2
    exact ⟨_, _, S.ok.dp r1 o1, S.ok.dp r2 o2, s1, s2, k _ _ _ _ _ t W.le_refl S (.bl _)⟩

/-! is -/
def isN : D → Bool
  | .non => true
  | _ => false
def notRaw : D → Bool
  | .raw _ => false
  | _ => true
theorem R.isN {K : PySem.W.Frag} {W : Wd} {v : V} {d : D} (r : R K W v d) (n : notRaw d = true) : decide (v = .non) = isN d := by
  cases r <;> first | rfl | cases n
def qIs : D → D → DE
  | .bl a, .bl b => fun e P => P (.bl (decide (a = b))) e
  | x, y => fun e P => isN y = true ∧ notRaw x = true ∧ P (.bl (isN x)) e
def qIsNot : D → D → DE
  | .bl a, .bl b => fun e P => P (.bl (!decide (a = b))) e
  | x, y => fun e P => isN y = true ∧ notRaw x = true ∧ P (.bl (!isN x)) e
def rIsA : R2 := fun x y H Q => (y = .non ∧ Q (.bl (decide (x = .non))) H) ∨ L2.rIsB x y H Q
def rIsNotA : R2 := fun x y H Q => (y = .non ∧ Q (.bl (!decide (x = .non))) H) ∨ L2.rNotB x y H Q
theorem op_isA {X : Cx} : OpR X (compareOp .Is) rIsA := op_isN.or op_isBl
theorem op_isNotA {X : Cx} : OpR X (compareOp .IsNot) rIsNotA := op_notN.or op_notBl
theorem isN_of {d : D} (h : isN d = true) : d = .non := by cases d <;> first | rfl | cases h
theorem od_is {K : PySem.W.Frag} : OpD K rIsA qIs := by
  intro W H σ e x y d1 d2 P Q S r1 r2 t k
  unfold qIs at t
  split at t
  · exact .inr ⟨_, _, r1.bl_inv, r2.bl_inv, k _ _ _ _ _ t W.le_refl S (.bl _)⟩
  · obtain ⟨h1, h2, t⟩ := t
    cases isN_of h1
    refine .inl ⟨r2.non_inv, ?_⟩
    rw [r1.isN h2]
    exact k _ _ _ _ _ t W.le_refl S (.bl _)
theorem od_isNot {K : PySem.W.Frag} : OpD K rIsNotA qIsNot := by
  intro W H σ e x y d1 d2 P Q S r1 r2 t k
  unfold qIsNot at t
  split at t
  · exact .inr ⟨_, _, r1.bl_inv, r2.bl_inv, k _ _ _ _ _ t W.le_refl S (.bl _)⟩
  · obtain ⟨h1, h2, t⟩ := t
    cases isN_of h1
    refine .inl ⟨r2.non_inv, ?_⟩
    rw [r1.isN h2]
    exact k _ _ _ _ _ t W.le_refl S (.bl _)

/-! ### and, or, not, if -/
def dAnd (t u : DT) : DT := fun e P => t e fun c e1 => if c = true then u e1 P else P false e1
def dOr (t u : DT) : DT := fun e P => t e fun c e1 => if c = true then P true e1 else u e1 P
def dNot (t : DT) : DT := fun e P => t e fun c e1 => P (!c) e1
def eAnd (ta tb : DE) : DE := fun e P => ta e fun x e1 => ∃ c, x = .bl c ∧ if c = true then tb e1 P else P (.bl false) e1
def eOr (ta tb : DE) : DE := fun e P => ta e fun x e1 => ∃ c, x = .bl c ∧ if c = true then P (.bl true) e1 else tb e1 P
def eNot (ta : DE) : DE := fun e P => ta e fun x e1 => ∃ c, x = .bl c ∧ P (.bl (!c)) e1
def eIf (t : DT) (ta tb : DE) : DE := fun e P => t e fun c e1 => if c = true then ta e1 P else tb e1 P
section
variable {X : Cx} {B : Bs} {a b c ex : Expr} {pos : Pos} {ta tb te : DE} {t u : DT} {rest : List Expr}
theorem dw_and1 (ha : PT X a (lT X.K B t)) : PW X (.BoolOp .And [a] pos) (lT X.K B t) := pw_and1 ha
theorem dw_or1 (ha : PT X a (lT X.K B t)) : PW X (.BoolOp .Or [a] pos) (lT X.K B t) := pw_or1 ha
theorem dw_and (ha : PT X a (lT X.K B t)) (hb : PW X (.BoolOp .And (b :: rest) pos) (lT X.K B u)) : PW X (.BoolOp .And (a :: b :: rest) pos) (lT X.K B (dAnd t u)) :=
  PW.imp (pw_and ha hb) fun σ H Q ⟨W, e, P, bl, S, t, k⟩ => ⟨W, e, _, bl, S, t, fun c e1 W1 H1 h1 l1 S1 => by
    cases c with
    | true => exact iteT ⟨W1, e1, _, (B.up bl l1), S1, h1, fun c2 e2 W2 H2 p l2 S2 => k c2 e2 W2 H2 p (l1.tr l2) S2⟩
    | false => exact iteF (k _ _ _ _ h1 l1 S1)⟩
theorem dw_or (ha : PT X a (lT X.K B t)) (hb : PW X (.BoolOp .Or (b :: rest) pos) (lT X.K B u)) : PW X (.BoolOp .Or (a :: b :: rest) pos) (lT X.K B (dOr t u)) :=
  PW.imp (pw_or ha hb) fun σ H Q ⟨W, e, P, bl, S, t, k⟩ => ⟨W, e, _, bl, S, t, fun c e1 W1 H1 h1 l1 S1 => by
    cases c with
    | true => exact iteT (k _ _ _ _ h1 l1 S1)
    | false => exact iteF ⟨W1, e1, _, (B.up bl l1), S1, h1, fun c2 e2 W2 H2 p l2 S2 => k c2 e2 W2 H2 p (l1.tr l2) S2⟩⟩
theorem dt_not (ha : PT X a (lT X.K B t)) : PT X (.UnaryOp .Not a pos) (lT X.K B (dNot t)) :=
  PT.imp (pt_not ha) fun σ H Q ⟨W, e, P, bl, S, t, k⟩ => ⟨W, e, _, bl, S, t, fun c e1 W1 H1 h1 l1 S1 => k _ _ _ _ h1 l1 S1⟩
theorem de_one {op} (h : PE X a (lE X.K B te)) : PE X (.BoolOp op [a] pos) (lE X.K B te) := pe_one h
theorem de_and (ha : PE X a (lE X.K B ta)) (hb : PE X (.BoolOp .And (b :: rest) pos) (lE X.K B tb)) : PE X (.BoolOp .And (a :: b :: rest) pos) (lE X.K B (eAnd ta tb)) :=
  PE.imp (pe_and ha hb) fun σ H Q ⟨W, e, P, bl, S, t, k⟩ => ⟨W, e, _, bl, S, t, fun x e1 W1 H1 v ⟨c, ex, h1⟩ l1 S1 r1 => ⟨c, by subst ex; exact r1.bl_inv, by
    cases c with
    | true => exact iteT ⟨W1, e1, _, (B.up bl l1), S1, h1, fun d e2 W2 H2 v2 p l2 S2 r2 => k d e2 W2 H2 v2 p (l1.tr l2) S2 r2⟩
    | false => exact iteF (k _ _ _ _ _ h1 l1 S1 (.bl _))⟩⟩
theorem de_or (ha : PE X a (lE X.K B ta)) (hb : PE X (.BoolOp .Or (b :: rest) pos) (lE X.K B tb)) : PE X (.BoolOp .Or (a :: b :: rest) pos) (lE X.K B (eOr ta tb)) :=
  PE.imp (pe_or ha hb) fun σ H Q ⟨W, e, P, bl, S, t, k⟩ => ⟨W, e, _, bl, S, t, fun x e1 W1 H1 v ⟨c, ex, h1⟩ l1 S1 r1 => ⟨c, by subst ex; exact r1.bl_inv, by
    cases c with
    | true => exact iteT (k _ _ _ _ _ h1 l1 S1 (.bl _))
    | false => exact iteF ⟨W1, e1, _, (B.up bl l1), S1, h1, fun d e2 W2 H2 v2 p l2 S2 r2 => k d e2 W2 H2 v2 p (l1.tr l2) S2 r2⟩⟩⟩
theorem de_not (ha : PE X a (lE X.K B ta)) : PE X (.UnaryOp .Not a pos) (lE X.K B (eNot ta)) :=
  PE.imp (pe_not ha) fun σ H Q ⟨W, e, P, bl, S, t, k⟩ => ⟨W, e, _, bl, S, t, fun x e1 W1 H1 v ⟨c, ex, h1⟩ l1 S1 r1 => ⟨c, by subst ex; exact r1.bl_inv, k _ _ _ _ _ h1 l1 S1 (.bl _)⟩⟩
theorem de_if (hc : PT X c (lT X.K B t)) (ha : PE X a (lE X.K B ta)) (hb : PE X b (lE X.K B tb)) : PE X (.IfExp c a b pos) (lE X.K B (eIf t ta tb)) :=
  PE.imp (pe_ifExp hc ha hb) fun σ H Q ⟨W, e, P, bl, S, t, k⟩ => ⟨W, e, _, bl, S, t, fun c e1 W1 H1 h1 l1 S1 => by
    cases c with
    | true => exact iteT ⟨W1, e1, _, (B.up bl l1), S1, h1, fun d e2 W2 H2 v2 p l2 S2 r2 => k d e2 W2 H2 v2 p (l1.tr l2) S2 r2⟩
    | false => exact iteF ⟨W1, e1, _, (B.up bl l1), S1, h1, fun d e2 W2 H2 v2 p l2 S2 r2 => k d e2 W2 H2 v2 p (l1.tr l2) S2 r2⟩⟩
/-- a value of any kind, by its truth -/
def tru (cs : List Cel) : D → Option Bool
  | .non => some false
  | .bl b => some b
  | .int i => some (i != 0)
  | .str s => if s.length ≤ sizeLine then some ((s.length : Int) != 0) else none
  | .tup xs => some (!xs.isEmpty)
  | d => (lk cs d).map fun xs => !xs.isEmpty
def eTru (t : DE) : DT := fun e P => t e fun d e1 => ∃ k, tru e1.cs d = some k ∧ P k e1
theorem RAll.isEmpty {K : PySem.W.Frag} {W : Wd} {vs : List V} {ds : List D} (r : RAll K W vs ds) : vs.isEmpty = ds.isEmpty := by cases r <;> rfl
theorem tru_ok {K : PySem.W.Frag} {W : Wd} {H : Hp} {cs : List Cel} (h : Ok K W H cs) {d : D} {v : V} {k : Bool} (r : R K W v d) (e : tru cs d = some k) : TruV K v H k := by
  have lst : ∀ {xs}, lk cs d = some xs → k = (!xs.isEmpty) → TruV K v H k := fun {xs} e1 e2 => by
    obtain ⟨a, vs, rfl, h1, h2⟩ := h.lk r e1
    exact .inl ⟨vs, h1, by rw [e2, h2.isEmpty]⟩
  unfold tru at e
  split at e
  · cases e; cases r; rfl
  · cases e; cases r; rfl
  · cases e; cases r; rfl
  · cases r
    split at e
    · cases e; exact ⟨by assumption, rfl⟩
    · cases e
  · cases e
    cases r with
    | tup h1 h2 => exact .inr (.inl ⟨_, Evl.ex_t h.ex h1, by rw [h2.isEmpty]⟩)
  · obtain ⟨xs, e1, e2⟩ := Option.map_eq_some_iff.mp e
    exact lst e1 e2.symm
theorem dt_tru (ha : PE X a (lE X.K B ta)) (he : ∀ whole, isTrue a X.env whole = (do let v ← whole; standAt a.pos; holding [v] (truthy v)) := by intro _; rfl) : PT X a (lT X.K B (eTru ta)) :=
  PT.imp (pt_truth ha he) fun σ H Q ⟨W, e, P, bl, S, t, k⟩ => ⟨W, e, _, bl, S, t, fun d e1 W1 H1 v ⟨kk, et, p⟩ l1 S1 r1 => ⟨kk, tru_ok S1.ok r1 et, k _ _ _ _ p l1 S1⟩⟩

/-! ### arguments, displays -/
def aNil : DA := fun e P => P [] e
def aCons (te : DE) (tr : DA) : DA := fun e P => te e fun d e1 => tr e1 fun ds e2 => P (d :: ds) e2
variable {es : List Expr} {tr : DA}
theorem da_nil : PA X [] (lA X.K B aNil) := PA.imp pa_nil fun σ H Q ⟨W, e, P, bl, S, t, k⟩ => k [] e W H [] t W.le_refl S .nil
theorem da_cons (ha : PE X ex (lE X.K B te)) (hr : PA X es (lA X.K B tr)) (hs : starEach (ex :: es) X.env = (false, eval ex X.env) :: starEach es X.env := by rfl) : PA X (ex :: es) (lA X.K B (aCons te tr)) :=
  PA.imp (pa_cons ha hr hs) fun σ H Q ⟨W, e, P, bl, S, t, k⟩ => ⟨W, e, _, bl, S, t, fun d e1 W1 H1 v t1 l1 S1 r1 => ⟨W1, e1, _, (B.up bl l1), S1, t1, fun ds e2 W2 H2 vs p l2 S2 r2 => k _ _ _ _ _ p (l1.tr l2) S2 (.cons (R.mono l2 _ _ r1) r2)⟩⟩
def eTup (ta : DA) : DE := fun e P => ta e fun ds e1 => ds.length ≤ sizeLine ∧ P (.tup ds) e1
def eLst (o : Bool) (ta : DA) : DE := fun e P => ta e fun ds e1 => ds.length ≤ sizeLine ∧ newL o ds e1 P
theorem de_tup {x1} (h : PA X es (lA X.K B tr)) : PE X (.Tuple es x1 pos) (lE X.K B (eTup tr)) :=
  PE.imp (pe_tup h) fun σ H Q ⟨W, e, P, bl, S, t, k⟩ => ⟨W, e, _, bl, S, t, fun ds e1 W1 H1 vs ⟨hz, p⟩ l1 S1 r1 => ⟨by rw [r1.length]; exact hz, newT_ok S1 r1 p fun d e2 W2 H2 v p l2 S2 r2 => k d e2 W2 H2 v p (l1.tr l2) S2 r2⟩⟩
theorem de_lst {o : Bool} (h : PA X es (lA X.K B tr)) : PE X (.List es pos) (lE X.K B (eLst o tr)) :=
  PE.imp (pe_lst h) fun σ H Q ⟨W, e, P, bl, S, t, k⟩ => ⟨W, e, _, bl, S, t, fun ds e1 W1 H1 vs ⟨hz, p⟩ l1 S1 r1 => ⟨by rw [r1.length]; exact hz, newL_ok S1 r1 p fun d e2 W2 H2 v p l2 S2 r2 => k d e2 W2 H2 v p (l1.tr l2) S2 r2⟩⟩
end

/-! ### items and slices -/
def qIx : D → D → DE
  | .tup xs, .int i => fun e P => ∃ d, atI xs i = some d ∧ P d e
  | .str z, .int i => fun e P => z.length ≤ sizeLine ∧ ∃ c, atI z.cps.toList i = some c ∧ P (.str ⟨#[c]⟩) e
  | x, .int i => fun e P => ∃ xs, lk e.cs x = some xs ∧ ∃ d, atI xs i = some d ∧ P d e
  | _, _ => fun _ _ => False
theorem RAll.atI {K : PySem.W.Frag} {W : Wd} {vs : List V} {ds : List D} {i : Int} {d : D} (r : RAll K W vs ds) (h : L2.atI ds i = some d) : ∃ v, L2.atI vs i = some v ∧ R K W v d := by
  unfold L2.atI at h ⊢
  rw [r.length]
  cases e : ixN ds.length i with
  | none => rw [e] at h; cases h
  | some j =>
    rw [e] at h
    exact r.get h
theorem od_ix {K : PySem.W.Frag} : OpD K (rIx K) qIx := by
  intro W H σ e x y d1 d2 P Q S r1 r2 t k
  unfold qIx at t
  split at t
  · obtain ⟨d, h, p⟩ := t
    cases r1 with
    | tup h1 q1 =>
      obtain ⟨v, hv, rv⟩ := q1.atI h
      exact .inr (.inl ⟨_, _, _, v, rfl, r2.int_inv, Evl.ex_t S.ok.ex h1, hv, k _ _ _ _ _ p W.le_refl S rv⟩)
  · obtain ⟨hz, c, h, p⟩ := t
    exact .inr (.inr ⟨_, _, c, r1.str_inv, r2.int_inv, hz, h, k _ _ _ _ _ p W.le_refl S (.str _)⟩)
  · obtain ⟨xs, e1, d, h, p⟩ := t
    obtain ⟨a, vs, rfl, h1, q1⟩ := S.ok.lk r1 e1
    obtain ⟨v, hv, rv⟩ := q1.atI h
    exact .inl ⟨_, _, _, v, rfl, r2.int_inv, h1, hv, k _ _ _ _ _ p W.le_refl S rv⟩
  · exact t.elim
section
variable {X : Cx} {B : Bs} {a b ex : Expr} {pos : Pos} {ta tb te : DE}
theorem de_ix (ha : PE X a (lE X.K B ta)) (hb : PE X b (lE X.K B tb)) (hs : PlainIx b) : PE X (.Subscript a b pos) (lE X.K B (eBin qIx ta tb)) := PE.imp (pe_ix ix_seq ha hb hs) (bin_ok od_ix)
abbrev DO := En → (Option Int → En → Prop) → Prop
def lO (K : PySem.W.Frag) (B : Bs) (t : DO) : TO := fun σ H Q => ∃ W e P, B.p W ∧ Sd K W H σ e ∧ t e P ∧ ∀ o e' W' H', P o e' → W.le W' → Sd K W' H' σ e' → Q o H'
theorem PO.imp {e : Option Expr} {t t' : TO} (h : PO X e t) (i : ∀ σ H Q, t' σ H Q → t σ H Q) : PO X e t' := ⟨fun pins s σ H Q I w => h.run pins s σ H Q I (i σ H Q w)⟩
def oNone : DO := fun e P => P none e
def oSome (t : DE) : DO := fun e P => t e fun d e1 => ∃ i, d = .int i ∧ P (some i) e1
theorem do_none : PO X none (lO X.K B oNone) := PO.imp po_none fun σ H Q ⟨W, e, P, bl, S, t, k⟩ => k none e W H t W.le_refl S
theorem do_some (h : PE X ex (lE X.K B te)) : PO X (some ex) (lO X.K B (oSome te)) := PO.imp (po_some h) fun σ H Q ⟨W, e, P, bl, S, t, k⟩ =>
  ⟨W, e, _, bl, S, t, fun d e1 W1 H1 v ⟨i, ed, p⟩ l1 S1 r1 => ⟨i, by subst ed; exact r1.int_inv, k _ _ _ _ p l1 S1⟩⟩
def cutD (xs : List D) (loD hi : Option Int) : List D := (xs.drop (HT.sIx xs.length 0 loD)).take (HT.sIx xs.length xs.length hi - HT.sIx xs.length 0 loD)
theorem RAll.cut {K : PySem.W.Frag} {W : Wd} {vs : List V} {ds : List D} {loD hi : Option Int} (r : RAll K W vs ds) : RAll K W (cutV vs loD hi) (cutD ds loD hi) := by
  unfold cutV cutD
  rw [r.length]
  exact (r.drop _).take _
def qSl (o : Bool) : D → Option Int → Option Int → DE
  | .tup xs, loD, hi => fun e P => ¬ (HT.sIx xs.length 0 loD = 0 ∧ HT.sIx xs.length xs.length hi = xs.length) ∧ P (.tup (cutD xs loD hi)) e
  | .str z, loD, hi => fun e P => z.length ≤ sizeLine ∧ P (.str (cutS z loD hi)) e
  | x, loD, hi => fun e P => ∃ xs, lk e.cs x = some xs ∧ newL o (cutD xs loD hi) e P
def rSlA (K : PySem.W.Frag) : V → Option Int → Option Int → Hp → VK → Prop := fun x loD hi H Q => (rSlL K x loD hi H Q ∨ rSlT K x loD hi H Q) ∨ rSlS x loD hi H Q
theorem sl_A : SlR X (rSlA X.K) := (sl_list.or sl_tup).or sl_str
theorem qSl_ok {K : PySem.W.Frag} {W : Wd} {H : Hp} {σ : L2.St} {e : En} {o : Bool} {d : D} {v : V} {loD hi : Option Int} {P : D → En → Prop} {Q : VK} (S : Sd K W H σ e) (r : R K W v d) (t : qSl o d loD hi e P)
    (k : ∀ d e' W' H' v, P d e' → W.le W' → Sd K W' H' σ e' → R K W' v d → Q v H') : rSlA K v loD hi H Q := by
  unfold qSl at t
  split at t
  · cases r with
    | tup h1 q1 => exact .inl (.inr ⟨_, _, rfl, Evl.ex_t S.ok.ex h1, by rw [q1.length]; exact t.1, newT_ok S q1.cut t.2 k⟩)
  · cases r
    exact .inr ⟨_, rfl, t.1, k _ _ _ _ _ t.2 W.le_refl S (.str _)⟩
  · obtain ⟨xs, e1, t⟩ := t
    obtain ⟨a, vs, rfl, h1, q1⟩ := S.ok.lk r e1
    exact .inl (.inl ⟨_, _, rfl, h1, newL_ok S q1.cut t k⟩)
def eSl (o : Bool) (te : DE) (tl th : DO) : DE := fun e P => te e fun x e1 => tl e1 fun l e2 => th e2 fun h e3 => qSl o x l h e3 P
theorem de_slice {o : Bool} {loD hi : Option Expr} {tl th : DO} {p2} (he : PE X ex (lE X.K B te)) (hl : PO X loD (lO X.K B tl)) (hu : PO X hi (lO X.K B th)) : PE X (.Subscript ex (.Slice loD hi none p2) pos) (lE X.K B (eSl o te tl th)) :=
  PE.imp (pe_slice sl_A he hl hu) fun σ H Q ⟨W, e, P, bl, S, t, k⟩ => ⟨W, e, _, bl, S, t, fun x e1 W1 H1 v t1 l1 S1 r1 => ⟨W1, e1, _, (B.up bl l1), S1, t1, fun l e2 W2 H2 t2 l2 S2 => ⟨W2, e2, _, (B.up bl (l1.tr l2)), S2, t2, fun h e3 W3 H3 t3 l3 S3 =>
    qSl_ok S3 (R.mono (l2.tr l3) _ _ r1) t3 fun d e4 W4 H4 v4 p l4 S4 r4 => k d e4 W4 H4 v4 p (((l1.tr l2).tr l3).tr l4) S4 r4⟩⟩⟩
/-- xs[::-1] -/
def eRev (o : Bool) (te : DE) : DE := fun e P => te e fun x e1 => ∃ xs, lk e1.cs x = some xs ∧ newL o xs.reverse e1 P
theorem de_rev {o : Bool} {k : Nat} {p1 p2 p3 : Pos} (he : PE X ex (lE X.K B te)) : PE X (.Subscript ex (.Slice none none (some (.UnaryOp .USub (.Constant (.int 1) k p1) p2)) p3) pos) (lE X.K B (eRev o te)) :=
  PE.imp (pe_revL he) fun σ H Q ⟨W, e, P, bl, S, t, k⟩ => ⟨W, e, _, bl, S, t, fun x e1 W1 H1 v ⟨xs, e2, t1⟩ l1 S1 r1 => by
    obtain ⟨a, vs, rfl, h1, q1⟩ := S1.ok.lk r1 e2
    exact ⟨a, vs, rfl, h1, newL_ok S1 q1.reverse t1 fun d e4 W4 H4 v4 p l4 S4 r4 => k d e4 W4 H4 v4 p (l1.tr l4) S4 r4⟩⟩
end
end DL
namespace DL
open PySem PySem.Spec PyProof.Rows L2
open Evl (Ex)

/-! ### statements -/
/-- the wanted ends, by data and by values -/
structure Cv (K : PySem.W.Frag) (W : Wd) (P : Po) (E : Ends) : Prop where
  nx : ∀ e' W' H' σ', P.nx e' → W.le W' → Sd K W' H' σ' e' → E.nx σ' H'
  rt : ∀ d cs W' H' v, P.rt d cs → W.le W' → Ok K W' H' cs → R K W' v d → E.rt v H'
  bk : ∀ e' W' H' σ', P.bk e' → W.le W' → Sd K W' H' σ' e' → E.bk σ' H'
  ct : ∀ e' W' H' σ', P.ct e' → W.le W' → Sd K W' H' σ' e' → E.ct σ' H'
theorem Cv.up {K : PySem.W.Frag} {W W1 : Wd} {P : Po} {E : Ends} (c : Cv K W P E) (l : W.le W1) : Cv K W1 P E :=
  ⟨fun e' W' H' σ' p l' S => c.nx e' W' H' σ' p (l.tr l') S, fun d cs W' H' v p l' S r => c.rt d cs W' H' v p (l.tr l') S r, fun e' W' H' σ' p l' S => c.bk e' W' H' σ' p (l.tr l') S, fun e' W' H' σ' p l' S => c.ct e' W' H' σ' p (l.tr l') S⟩
theorem lS_mk {K : PySem.W.Frag} {B : Bs} {W : Wd} {t : DS} {E : Ends} {σ : L2.St} {H : Hp} {e : En} {P : Po} (bl : B.p W) (S : Sd K W H σ e) (h : t P e) (c : Cv K W P E) : lS K B t E σ H := ⟨W, e, P, bl, S, h, c.nx, c.rt, c.bk, c.ct⟩
theorem lS_un {K : PySem.W.Frag} {B : Bs} {t : DS} {E : Ends} {σ : L2.St} {H : Hp} (h : lS K B t E σ H) : ∃ W e P, B.p W ∧ Sd K W H σ e ∧ t P e ∧ Cv K W P E := by
  obtain ⟨W, e, P, bl, S, h, c1, c2, c3, c4⟩ := h
  exact ⟨W, e, P, bl, S, h, c1, c2, c3, c4⟩

/-- behind it u -/
def Po.thn (P : Po) (u : DS) : Po := { P with nx := u P }
/-- a loop's turn: from it N, a break to what follows -/
def Po.lp (P : Po) (N : En → Prop) : Po := { P with nx := N, ct := N, bk := P.nx }
def sNext : DS := fun P e => P.nx e
def sSeq (t u : DS) : DS := fun P e => t (P.thn u) e
def sDrop (t : DE) : DS := fun P e => t e fun _ e1 => P.nx e1
def sRet (t : DE) : DS := fun P e => t e fun d e1 => P.rt d e1.cs
def sRetN : DS := fun P e => P.rt .non e.cs
def sIf (c : DT) (t u : DS) : DS := fun P e => c e fun b e1 => if b = true then t P e1 else u P e1
def sBreak : DS := fun P e => P.bk e
def sCont : DS := fun P e => P.ct e
def sNever : DS := fun _ _ => False
def sAsg (t : DE) (i : Nat) : DS := fun P e => t e fun d e1 => P.nx { e1 with sl := e1.sl.set i (some d) }
/-- o[i] = v, o a list that changes -/
def sSub (tv to ti : DE) : DS := fun P e => tv e fun v e1 => to e1 fun o e2 => ti e2 fun i e3 => ∃ n xs k j, o = .cell n ∧ e3.cs[n]? = some (.lst xs) ∧ i = .int k ∧ ixN xs.length k = some j ∧ P.nx { e3 with cs := e3.cs.set n (.lst (xs.set j v)) }
def sAug (i : Nat) (t : DE) : DS := fun P e => ∃ a, e.sl[i]? = some (some (.int a)) ∧ t e fun d e1 => ∃ b, d = .int b ∧ P.nx { e1 with sl := e1.sl.set i (some (.int (a + b))) }
def sAugSub (i : Nat) (t : DE) : DS := fun P e => ∃ a, e.sl[i]? = some (some (.int a)) ∧ t e fun d e1 => ∃ b, d = .int b ∧ P.nx { e1 with sl := e1.sl.set i (some (.int (a - b))) }
section
variable {X : Cx} {B : Bs} {st : Stmt} {rest : List Stmt} {t u : DS} {ex a : Expr} {te ta tb tc : DE} {dt : DT} {pos : Pos} {K : PySem.W.Frag}
theorem dss_nil : PSs X [] (lS X.K B sNext) := PSs.imp pss_nil fun E σ H h => by
  obtain ⟨W, e, P, bl, S, h, c⟩ := lS_un h
  exact c.nx e W H σ h W.le_refl S
theorem dss_cons (h1 : PS X st (lS X.K B t)) (h2 : PSs X rest (lS X.K B u)) : PSs X (st :: rest) (lS X.K B (sSeq t u)) := PSs.imp (pss_cons h1 h2) fun E σ H h => by
  obtain ⟨W, e, P, bl, S, h, c⟩ := lS_un h
  exact lS_mk bl S h ⟨fun e' W' H' σ' p l S' => lS_mk ((B.up bl l)) S' p (c.up l), c.rt, c.bk, c.ct⟩
theorem dss_one (h1 : PS X st (lS X.K B t)) : PSs X [st] (lS X.K B t) := pss_one h1
theorem ds_pass : PS X (.Pass pos) (lS X.K B sNext) := PS.imp ps_pass fun E σ H h => by
  obtain ⟨W, e, P, bl, S, h, c⟩ := lS_un h
  exact c.nx e W H σ h W.le_refl S
theorem ds_break : PS X (.Break pos) (lS X.K B sBreak) := PS.imp ps_break fun E σ H h => by
  obtain ⟨W, e, P, bl, S, h, c⟩ := lS_un h
  exact c.bk e W H σ h W.le_refl S
theorem ds_continue : PS X (.Continue pos) (lS X.K B sCont) := PS.imp ps_continue fun E σ H h => by
  obtain ⟨W, e, P, bl, S, h, c⟩ := lS_un h
  exact c.ct e W H σ h W.le_refl S
theorem ds_never : PS X st (lS X.K B sNever) := PS.imp ps_never fun E σ H h => by
  obtain ⟨W, e, P, bl, S, h, c⟩ := lS_un h
  exact h
theorem dss_never : PSs X rest (lS X.K B sNever) := PSs.imp pss_never fun E σ H h => by
  obtain ⟨W, e, P, bl, S, h, c⟩ := lS_un h
  exact h
theorem ds_expr (he : PE X ex (lE X.K B te)) (hs : swapsWith ex none pos.line X.env = pure false := by rfl) : PS X (.Expr ex pos) (lS X.K B (sDrop te)) := PS.imp (ps_expr he hs) fun E σ H h => by
  obtain ⟨W, e, P, bl, S, h, c⟩ := lS_un h
  exact ⟨W, e, _, bl, S, h, fun d e1 W1 H1 v p l S1 r => c.nx _ _ _ _ p l S1⟩
theorem ds_ret (he : PE X ex (lE X.K B te)) : PS X (.Return (some ex) pos) (lS X.K B (sRet te)) := PS.imp (ps_ret he) fun E σ H h => by
  obtain ⟨W, e, P, bl, S, h, c⟩ := lS_un h
  exact ⟨W, e, _, bl, S, h, fun d e1 W1 H1 v p l S1 r => c.rt _ _ _ _ _ p l S1.ok r⟩
theorem ds_retN : PS X (.Return none pos) (lS X.K B sRetN) := PS.imp ps_retN fun E σ H h => by
  obtain ⟨W, e, P, bl, S, h, c⟩ := lS_un h
  exact c.rt _ _ _ _ _ h W.le_refl S.ok .non
theorem ds_if {c : Expr} {ss us : List Stmt} (hc : PT X c (lT X.K B dt)) (ha : PSs X ss (lS X.K B t)) (hb : PSs X us (lS X.K B u)) : PS X (.If c ss us pos) (lS X.K B (sIf dt t u)) := PS.imp (ps_if hc ha hb) fun E σ H h => by
  obtain ⟨W, e, P, bl, S, h, c⟩ := lS_un h
  refine ⟨W, e, _, bl, S, h, fun b e1 W1 H1 p l S1 => ?_⟩
  cases b with
  | true => exact iteT (lS_mk ((B.up bl l)) S1 p (c.up l))
  | false => exact iteF (lS_mk ((B.up bl l)) S1 p (c.up l))
theorem asg_ok {i : Nat} : ∀ E σ H, lS X.K B (sAsg te i) E σ H → tAsg (lE X.K B te) (gName i) E σ H := fun E σ H h => by
  obtain ⟨W, e, P, bl, S, h, c⟩ := lS_un h
  exact ⟨W, e, _, bl, S, h, fun d e1 W1 H1 v p l S1 r => c.nx _ _ _ _ p l ⟨S1.ok, S1.sl.set r⟩⟩
theorem ds_set {i : Nat} {x : Str} {pos' : Pos} (hN : X.N.Nodup) (hi : X.N[i]? = some x) (hx : Loc X.env.scope x) (he : PE X ex (lE X.K B te)) (hs : swapsWith ex (some (.Name x pos')) pos.line X.env = pure false := by rfl)
    (hf : X.fn x = true ∨ X.env.scope.names.lookup x = some .local := by first | exact .inl rfl | exact .inr rfl | assumption) : PS X (.Assign [.Name x pos'] ex pos) (lS X.K B (sAsg te i)) := PS.imp (ps_set hN hi hx he hs hf) asg_ok
theorem ds_aug {i : Nat} {x : Str} {pos' : Pos} (hN : X.N.Nodup) (hi : X.N[i]? = some x) (hx : Loc X.env.scope x) (he : PE X ex (lE X.K B te))
    (hf : X.fn x = true ∨ X.env.scope.names.lookup x = some .local := by first | exact .inl rfl | exact .inr rfl | assumption) : PS X (.AugAssign (.Name x pos') .Add ex pos) (lS X.K B (sAug i te)) := PS.imp (ps_aug hN hi hx he ip_add hf) fun E σ H h => by
  obtain ⟨W, e, P, bl, S, ⟨a, ha, h⟩, c⟩ := lS_un h
  obtain ⟨v, hv, r⟩ := S.sl.2 i _ ha
  exact ⟨v, hv, W, e, _, bl, S, h, fun d e1 W1 H1 v ⟨b, ed, p⟩ l S1 r1 => ⟨a, b, r.int_inv, by subst ed; exact r1.int_inv, c.nx _ _ _ _ p l ⟨S1.ok, S1.sl.set (.int _)⟩⟩⟩
theorem ds_sub {o i : Expr} {p2 : Pos} (hv : PE X ex (lE X.K B te)) (ho : PE X o (lE X.K B ta)) (hi : PE X i (lE X.K B tb))
    (ha : ∀ v, assign (.Subscript o i p2) X.env v = (do
      let ov ← holding [v] (eval o X.env)
      let iv ← holding [v, ov] (eval i X.env)
      standAt p2
      holding [v, ov, iv] (setItem ov iv v)
      release [v, ov, iv] []) := by intro _; rfl)
    (hs : swapsWithSole [.Subscript o i p2] ex pos.line X.env = pure false := by rfl) (hw : swappedStores [.Subscript o i p2] ex X.env = pure none := by rfl)
    (h1 : (assignEach [.Subscript o i p2] X.env).map (·.2) = [assign (.Subscript o i p2) X.env] := by rfl) : PS X (.Assign [.Subscript o i p2] ex pos) (lS X.K B (sSub te ta tb)) := PS.imp (ps_asg hv (pg_sub ho hi set_list ha) hs hw h1) fun E σ H h => by
  obtain ⟨W, e, P, bl, S, h, c⟩ := lS_un h
  refine ⟨W, e, _, bl, S, h, fun d e1 W1 H1 v t1 l1 S1 r1 => ⟨W1, e1, _, (B.up bl l1), S1, t1, fun o e2 W2 H2 w t2 l2 S2 r2 => ⟨W2, e2, _, (B.up bl (l1.tr l2)), S2, t2, fun i e3 W3 H3 x t3 l3 S3 r3 => ?_⟩⟩⟩
  obtain ⟨n, xs, k, j, rfl, hc, rfl, hk, p⟩ := t3
  cases r2 with
  | cell hm =>
    have hm3 := Wd.le_get l3 hm
    obtain ⟨vs, h1, h2⟩ := S3.ok.cellL hm3 hc
    refine ⟨_, vs, k, j, rfl, r3.int_inv, h1, by rw [h2.length]; exact hk, ?_⟩
    exact c.nx _ _ _ _ p ((l1.tr l2).tr l3) ⟨S3.ok.setC hm3 hc (fun z => nomatch z) ⟨_, upd_same, h2.set (R.mono (l2.tr l3) _ _ r1) j⟩, S3.sl⟩
end

/-! ### targets by slots -/
inductive Tg where
  | one (i : Nat)
  | tup (is : List Nat)
def setAll : List Nat → List D → List (Option D) → List (Option D)
  | i :: is, d :: ds, sl => setAll is ds (sl.set i (some d))
  | _, _, sl => sl
def setTg : Tg → D → List (Option D) → Option (List (Option D))
  | .one i, d, sl => some (sl.set i (some d))
  | .tup is, .tup xs, sl => if xs.length = is.length then some (setAll is xs sl) else none
  | _, _, _ => none
def gVs : List Nat → TGs
  | [] => gNil
  | i :: is => gCons (gName i) (gVs is)
def gV (K : PySem.W.Frag) : Tg → TG
  | .one i => gName i
  | .tup is => gTup K is.length (gVs is)
def Tg.on : Tg → List Nat
  | .one i => [i]
  | .tup is => is
section
variable {K : PySem.W.Frag} {W : Wd} {H : Hp} {σ : L2.St} {e : En}
def wipeD (sl : List (Option D)) : List Nat → List (Option D)
  | [] => sl
  | i :: is => (wipeD sl is).set i none
theorem SlO.wipe {σ : L2.St} {sl : List (Option D)} (h : SlO K W σ sl) : ∀ (vs : List Nat), SlO K W (L2.wipe σ vs) (wipeD sl vs)
  | [] => h
  | i :: is => by
    have h' := SlO.wipe h is
    refine ⟨by show ((L2.wipe σ is).set i none).length = ((wipeD sl is).set i none).length; simp [h'.1], fun j d e => ?_⟩
    have e : ((wipeD sl is).set i none)[j]? = some (some d) := e
    rw [List.getElem?_set] at e
    by_cases hij : i = j
    · subst hij
      rw [if_pos rfl] at e
      split at e <;> cases e
    · rw [if_neg hij] at e
      obtain ⟨v, a, b⟩ := h'.2 j d e
      exact ⟨v, by show ((L2.wipe σ is).set i none)[j]? = _; rw [List.getElem?_set_ne hij]; exact a, b⟩
theorem wipe_in {σ : L2.St} {k : Nat} : ∀ {vs : List Nat}, k ∈ vs → (wipe σ vs)[k]? = if k < σ.length then some none else none
  | [], h => by cases h
  | v :: vs, h => by
    show ((wipe σ vs).set v none)[k]? = _
    rw [List.getElem?_set]
    by_cases hv : v = k
    · subst hv
      rw [if_pos rfl, wipe_length]
    · rw [if_neg hv]
      exact wipe_in ((List.mem_cons.mp h).resolve_left fun e => hv e.symm)
theorem wipe_set {vs : List Nat} {σ : L2.St} {i : Nat} {x : Option V} (h : i ∈ vs) : wipe (σ.set i x) vs = wipe σ vs := by
  apply List.ext_getElem?
  intro k
  by_cases hk : k ∈ vs
  · rw [wipe_in hk, wipe_in hk, List.length_set]
  · rw [wipe_out hk, wipe_out hk, List.getElem?_set_ne (fun (e : i = k) => hk (e ▸ h))]
theorem wipe_wipe {vs : List Nat} {σ : L2.St} : wipe (wipe σ vs) vs = wipe σ vs := by
  apply List.ext_getElem?
  intro k
  by_cases hk : k ∈ vs
  · rw [wipe_in hk, wipe_in hk, wipe_length]
  · rw [wipe_out hk]
theorem gVs_ok {vs : List Nat} {Q : L2.St → Hp → Prop} : ∀ (is : List Nat) (xs : List V) (ds : List D) (σ : L2.St) (sl : List (Option D)), RAll K W xs ds → ds.length = is.length → SlO K W σ sl →
    (∀ σ', SlO K W σ' (setAll is ds sl) → ((∀ i ∈ is, i ∈ vs) → wipe σ' vs = wipe σ vs) → Q σ' H) → gVs is xs σ H Q
  | [], _, _, σ, sl, r, hl, S, k => by
    cases r with
    | nil => exact ⟨rfl, k σ S fun _ => rfl⟩
    | cons _ _ => cases hl
  | i :: is, _, _, σ, sl, r, hl, S, k => by
    cases r with
    | nil => cases hl
    | cons r1 r2 =>
      refine ⟨_, _, rfl, ?_⟩
      refine gVs_ok (vs := vs) is _ _ _ _ r2 (Nat.succ.inj hl) (S.set r1) fun σ' S' w => k σ' S' fun h => ?_
      rw [w fun j hj => h j (List.mem_cons_of_mem _ hj)]
      exact wipe_set (h i List.mem_cons_self)
theorem gV_ok {vs : List Nat} {tg : Tg} {v : V} {d : D} {sl' : List (Option D)} {Q : L2.St → Hp → Prop} (S : Sd K W H σ e) (r : R K W v d) (h : setTg tg d e.sl = some sl')
    (k : ∀ σ', Sd K W H σ' ⟨sl', e.cs⟩ → ((∀ i ∈ tg.on, i ∈ vs) → wipe σ' vs = wipe σ vs) → Q σ' H) : gV K tg v σ H Q := by
  cases tg with
  | one i =>
    have h' : some (e.sl.set i (some d)) = some sl' := h
    cases h'
    exact k _ ⟨S.ok, S.sl.set r⟩ fun hh => wipe_set (hh i (List.mem_singleton.mpr rfl))
  | tup is =>
    cases d with
    | tup xs =>
      have h' : (if xs.length = is.length then some (setAll is xs e.sl) else none) = some sl' := h
      split at h'
      · rename_i hl
        cases h'
        cases r with
        | tup h1 h2 =>
          refine ⟨_, _, rfl, Evl.ex_t S.ok.ex h1, by rw [h2.length]; exact hl, gVs_ok (vs := vs) is _ _ _ _ h2 hl S.sl fun σ' S' w => k σ' ⟨S.ok, S'⟩ w⟩
      · cases h'
    | _ => cases h
end
def sAsgT (t : DE) (tg : Tg) : DS := fun P e => t e fun d e1 => ∃ sl', setTg tg d e1.sl = some sl' ∧ P.nx ⟨sl', e1.cs⟩
theorem ds_asgT {X : Cx} {B : Bs} {tgE ex : Expr} {te : DE} {tg : Tg} {pos : Pos} (he : PE X ex (lE X.K B te)) (hg : PG X tgE (gV X.K tg)) (hs : swapsWithSole [tgE] ex pos.line X.env = pure false := by rfl) (hw : swappedStores [tgE] ex X.env = pure none := by rfl)
    (h1 : (assignEach [tgE] X.env).map (·.2) = [assign tgE X.env] := by rfl) : PS X (.Assign [tgE] ex pos) (lS X.K B (sAsgT te tg)) := PS.imp (ps_asg he hg hs hw h1) fun E σ H h => by
  obtain ⟨W, e, P, bl, S, h, c⟩ := lS_un h
  exact ⟨W, e, _, bl, S, h, fun d e1 W1 H1 v ⟨sl', hsl, p⟩ l S1 r => gV_ok (vs := []) S1 r hsl fun σ' S' _ => c.nx _ _ _ _ p l S'⟩

/-! ### what is walked -/
/-- .. whatever is hidden -/
def Wd.sub (W W' : Wd) : Prop := Ex W.F W'.F ∧ ∃ more, W'.m = W.m ++ more
theorem Wd.le.sub {W W' : Wd} (l : W.le W') : W.sub W' := ⟨l.1, l.2.1⟩
theorem Wd.sub.tr {W W1 W2 : Wd} (a : W.sub W1) (b : W1.sub W2) : W.sub W2 := by
  obtain ⟨e1, m1, h1⟩ := a
  obtain ⟨e2, m2, h2⟩ := b
  exact ⟨e1.trans e2, m1 ++ m2, by rw [h2, h1, List.append_assoc]⟩
/-- what is walked, and what holds while it is walked -/
abbrev DI := En → (List D → (List Cel → Prop) → En → Prop) → Prop
/-- J walks the items ds, as long as G -/
structure Wk (K : PySem.W.Frag) (W0 : Wd) (J : It) (G : List Cel → Prop) (ds : List D) : Prop where
  go : ∀ i W H σ e, W0.sub W → Sd K W H σ e → G e.cs → i < ds.length → J.go i H
  yld : ∀ i W H σ e x H' d, W0.sub W → Sd K W H σ e → G e.cs → ds[i]? = some d → J.yld i H x H' → ∃ W', W.le W' ∧ Sd K W' H' σ e ∧ R K W' x d
  stop : ∀ i W H σ e, W0.sub W → Sd K W H σ e → G e.cs → ds.length ≤ i → J.stop i H
/-- whatever the cells hold -/
def anyC : List Cel → Prop := fun _ => True
def lI (K : PySem.W.Frag) (B : Bs) (t : DI) : TI := fun σ H Q => ∃ W e P, B.p W ∧ Sd K W H σ e ∧ t e P ∧
  ∀ ds G e' W' H' J, P ds G e' → W.le W' → Sd K W' H' σ e' → Wk K W' J G ds → Q J H'
section
variable {X : Cx} {B : Bs} {tg ex a b : Expr} {te : DE} {ta : DA} {pos p : Pos} {K : PySem.W.Frag}
theorem PI.imp {t t' : TI} (h : PI X tg ex t) (i : ∀ σ H Q, t' σ H Q → t σ H Q) : PI X tg ex t' := ⟨fun pins s σ H Q I w => h.run pins s σ H Q I (i σ H Q w)⟩
theorem wk_list {W : Wd} {a : Addr} {vs : List V} {ds : List D} (h : SqL K W.F a vs) (r : RAll K W vs ds) : Wk K W (Itl K a) anyC ds where
  go := fun i W' H σ e l S _ hi => by
    have hi' : i < vs.length := by rw [r.length]; exact hi
    exact ⟨vs, vs[i], Evl.ex_l (l.1.trans S.ok.ex) h, by simp [hi']⟩
  yld := fun i W' H σ e x H' d l S _ hd y => by
    obtain ⟨rfl, y⟩ := y
    obtain ⟨v, hv, rv⟩ := r.get hd
    have e1 := y vs (Evl.ex_l (l.1.trans S.ok.ex) h)
    rw [hv] at e1
    cases e1
    exact ⟨W', W'.le_refl, S, R.mono' l _ _ rv⟩
  stop := fun i W' H σ e l S _ hi => ⟨vs, Evl.ex_l (l.1.trans S.ok.ex) h, by rw [r.length]; exact hi⟩
theorem wk_tup {W : Wd} {a : Addr} {vs : List V} {ds : List D} (h : SqT K W.F a vs) (r : RAll K W vs ds) : Wk K W (Itt K a) anyC ds where
  go := fun i W' H σ e l S _ hi => by
    have hi' : i < vs.length := by rw [r.length]; exact hi
    exact ⟨vs, vs[i], Evl.ex_t (l.1.trans S.ok.ex) h, by simp [hi']⟩
  yld := fun i W' H σ e x H' d l S _ hd y => by
    obtain ⟨rfl, y⟩ := y
    obtain ⟨v, hv, rv⟩ := r.get hd
    have e1 := y vs (Evl.ex_t (l.1.trans S.ok.ex) h)
    rw [hv] at e1
    cases e1
    exact ⟨W', W'.le_refl, S, R.mono' l _ _ rv⟩
  stop := fun i W' H σ e l S _ hi => ⟨vs, Evl.ex_t (l.1.trans S.ok.ex) h, by rw [r.length]; exact hi⟩
theorem wk_cell {W : Wd} {n : Nat} {a : Addr} {ds : List D} (hm : W.m[n]? = some a) : Wk K W (Itl K a) (fun cs => cs[n]? = some (.lst ds)) ds where
  go := fun i W' H σ e l S g hi => by
    have hm' : W'.m[n]? = some a := by
      obtain ⟨more, e2⟩ := l.2
      have := (List.getElem?_eq_some_iff.mp hm).1
      rw [e2, List.getElem?_append_left this]
      exact hm
    obtain ⟨vs, h1, h2⟩ := S.ok.cellL hm' g
    have hi' : i < vs.length := by rw [h2.length]; exact hi
    exact ⟨vs, vs[i], SqL.of h1, by simp [hi']⟩
  yld := fun i W' H σ e x H' d l S g hd y => by
    have hm' : W'.m[n]? = some a := by
      obtain ⟨more, e2⟩ := l.2
      have := (List.getElem?_eq_some_iff.mp hm).1
      rw [e2, List.getElem?_append_left this]
      exact hm
    obtain ⟨vs, h1, h2⟩ := S.ok.cellL hm' g
    obtain ⟨rfl, y⟩ := y
    obtain ⟨v, hv, rv⟩ := h2.get hd
    have e1 := y vs (SqL.of h1)
    rw [hv] at e1
    cases e1
    exact ⟨W', W'.le_refl, S, rv⟩
  stop := fun i W' H σ e l S g hi => by
    have hm' : W'.m[n]? = some a := by
      obtain ⟨more, e2⟩ := l.2
      have := (List.getElem?_eq_some_iff.mp hm).1
      rw [e2, List.getElem?_append_left this]
      exact hm
    obtain ⟨vs, h1, h2⟩ := S.ok.cellL hm' g
    exact ⟨vs, SqL.of h1, by rw [h2.length]; exact hi⟩
/-- the intsD loD, loD + 1, .. -/
def intsD (loD : Int) (n : Nat) : List D := (List.range n).map fun (i : Nat) => D.int (loD + (i : Int))
theorem intsD_len (loD : Int) (n : Nat) : (intsD loD n).length = n := by simp [intsD]
theorem intsD_get {loD : Int} {n i : Nat} {d : D} (h : (intsD loD n)[i]? = some d) : i < n ∧ d = .int (loD + i) := by
  have hl := (List.getElem?_eq_some_iff.mp h).1
  rw [intsD_len] at hl
  unfold intsD at h
  rw [List.getElem?_map, List.getElem?_range hl] at h
  exact ⟨hl, (Option.some.inj h).symm⟩
theorem wk_rng {W : Wd} {loD : Int} {n : Nat} : Wk K W (Itr loD n) anyC (intsD loD n) where
  go := fun i W' H σ e l S _ hi => by rw [intsD_len] at hi; exact hi
  yld := fun i W' H σ e x H' d l S _ hd y => by
    obtain ⟨rfl, rfl⟩ := y
    obtain ⟨_, rfl⟩ := intsD_get hd
    exact ⟨W', W'.le_refl, S, .int _⟩
  stop := fun i W' H σ e l S _ hi => by rw [intsD_len] at hi; exact hi
/-- a list (that changes no more) or a tuple -/
def fixL : D → Option (List D)
  | .lst xs => some xs
  | .fro xs => some xs
  | _ => none
def iL (t : DE) : DI := fun e P => t e fun d e1 => ∃ xs, fixL d = some xs ∧ P xs anyC e1
def iT (t : DE) : DI := fun e P => t e fun d e1 => ∃ xs, d = .tup xs ∧ P xs anyC e1
theorem di_list (h : PE X ex (lE X.K B te)) : PI X tg ex (lI X.K B (iL te)) := PI.imp (pi_list h) fun σ H Q ⟨W, e, P, bl, S, t, k⟩ => by
  refine ⟨W, e, _, bl, S, t, fun d e1 W1 H1 v ⟨xs, hx, p⟩ l S1 r => ?_⟩
  have : ∃ a vs, v = .ref a ∧ SqL X.K W1.F a vs ∧ RAll X.K W1 vs xs := by
    cases r <;> simp only [fixL] at hx <;> cases hx
    · exact ⟨_, _, rfl, SqL.of (by assumption), by assumption⟩
    · exact ⟨_, _, rfl, by assumption, by assumption⟩
  obtain ⟨a, vs, rfl, h1, h2⟩ := this
  exact ⟨a, rfl, ⟨vs, Evl.ex_l S1.ok.ex h1⟩, k _ _ _ _ _ _ p l S1 (wk_list h1 h2)⟩
theorem di_tup (h : PE X ex (lE X.K B te)) : PI X tg ex (lI X.K B (iT te)) := PI.imp (pi_tup h) fun σ H Q ⟨W, e, P, bl, S, t, k⟩ => by
  refine ⟨W, e, _, bl, S, t, fun d e1 W1 H1 v ⟨xs, hx, p⟩ l S1 r => ?_⟩
  subst hx
  cases r with
  | tup h1 h2 => exact ⟨_, rfl, ⟨_, Evl.ex_t S1.ok.ex h1⟩, k _ _ _ _ _ _ p l S1 (wk_tup h1 h2)⟩
def iR1 (t : DA) : DI := fun e P => t e fun ds e1 => ∃ j, ds = [.int j] ∧ -(2 ^ 62) ≤ j ∧ j < 2 ^ 62 ∧ P (intsD 0 j.toNat) anyC e1
def iR2 (t : DA) : DI := fun e P => t e fun ds e1 => ∃ i j, ds = [.int i, .int j] ∧ (-(2 ^ 62) ≤ i ∧ i < 2 ^ 62 ∧ -(2 ^ 62) ≤ j ∧ j < 2 ^ 62) ∧ P (intsD i (j - i).toNat) anyC e1
theorem RAll.one_int {W : Wd} {vs : List V} {j : Int} (r : RAll K W vs [.int j]) : vs = [.int j] := by
  cases r with
  | cons h t => cases h; cases t; rfl
theorem RAll.two_int {W : Wd} {vs : List V} {i j : Int} (r : RAll K W vs [.int i, .int j]) : vs = [.int i, .int j] := by
  cases r with
  | cons h t =>
    cases h
    cases t with
    | cons h t => cases h; cases t; rfl
theorem di_range1 (hg : Gl X "range") (hm : X.mg "range" = none) (ha : PA X [a] (lA X.K B ta)) (hs : starEach [a] X.env = [(false, eval a X.env)] := by rfl) : PI X tg (.Call (.Name "range" p) [a] [] pos) (lI X.K B (iR1 ta)) :=
  PI.imp (pi_range1 hg hm ha hs) fun σ H Q ⟨W, e, P, bl, S, t, k⟩ => ⟨W, e, _, bl, S, t, fun ds e1 W1 H1 vs ⟨j, ed, h1, h2, p⟩ l S1 r => by
    subst ed
    exact ⟨j, r.one_int, h1, h2, k _ _ _ _ _ _ p l S1 wk_rng⟩⟩
theorem di_range2 (hg : Gl X "range") (hm : X.mg "range" = none) (ha : PA X [a, b] (lA X.K B ta)) (hs : starEach [a, b] X.env = [(false, eval a X.env), (false, eval b X.env)] := by rfl) (hs2 : starEach [b] X.env = [(false, eval b X.env)] := by rfl) :
    PI X tg (.Call (.Name "range" p) [a, b] [] pos) (lI X.K B (iR2 ta)) :=
  PI.imp (pi_range2 hg hm ha hs hs2) fun σ H Q ⟨W, e, P, bl, S, t, k⟩ => ⟨W, e, _, bl, S, t, fun ds e1 W1 H1 vs ⟨i, j, ed, h, p⟩ l S1 r => by
    subst ed
    exact ⟨i, j, r.two_int, h, k _ _ _ _ _ _ p l S1 wk_rng⟩⟩
end

/-! ### loops -/
def sFor (it : DI) (tg : Tg) (tb : DS) : DS := fun P e => it e fun ds G e1 => ∃ I : Nat → En → Prop, I 0 e1 ∧
  (∀ i d e2, ds[i]? = some d → I i e2 → G e2.cs ∧ ∃ sl', setTg tg d e2.sl = some sl' ∧ tb (P.lp (I (i + 1))) ⟨sl', e2.cs⟩) ∧ ∀ e2, I ds.length e2 → G e2.cs ∧ P.nx e2
def sWhile (c : DT) (tb : DS) : DS := fun P e => ∃ I : Nat → En → Prop, (∃ m, I m e) ∧ ∀ m e1, I m e1 → c e1 fun b e2 => if b = true then tb (P.lp fun e3 => ∃ m', m' < m ∧ I m' e3) e2 else P.nx e2
section
variable {X : Cx} {B : Bs} {tgE iter c : Expr} {body : List Stmt} {it : DI} {dt : DT} {tb : DS} {tg : Tg} {pos : Pos}
theorem ds_for (hp : PassesOwn (model X.prog X.w) X.A X.env X.xe) (hc : X.calm = true) (hi : PI X tgE iter (lI X.K B it)) (hg : PG X tgE (gV X.K tg)) (hb : PSs X body (lS X.K B tb))
    (hs : ∀ x, foldedSetIterable iter X.env x = pure x := by intro _; rfl) : PS X (.For tgE iter body [] pos) (lS X.K B (sFor it tg tb)) := PS.imp (ps_for hp hc hi hg hb hs) fun E σ H h => by
  obtain ⟨W, e, P, bl, S, h, c⟩ := lS_un h
  refine ⟨W, e, _, bl, S, h, fun ds G e1 W1 H1 J ⟨I, i0, turn, done⟩ l1 S1 wk => ?_⟩
  refine ⟨fun i m σ H => m = ds.length - i ∧ i ≤ ds.length ∧ ∃ W2 e2, W1.le W2 ∧ Sd X.K W2 H σ e2 ∧ I i e2, ⟨_, rfl, Nat.zero_le _, W1, e1, W1.le_refl, S1, i0⟩, ?_⟩
  rintro i m σ2 H2 ⟨rfl, hi, W2, e2, l2, S2, p2⟩
  by_cases hlt : i < ds.length
  · have hd : ds[i]? = some ds[i] := by simp [hlt]
    obtain ⟨g2, sl', hsl, p3⟩ := turn i _ e2 hd p2
    refine .inr ⟨wk.go i W2 H2 σ2 e2 l2.sub S2 g2 hlt, fun σ H => ∃ W2 e2, W1.le W2 ∧ Sd X.K W2 H σ e2 ∧ I (i + 1) e2, fun σ' H' q => ⟨ds.length - (i + 1), by omega, rfl, hlt, q⟩, fun x H' y => ?_⟩
    obtain ⟨W3, l3, S3, r3⟩ := wk.yld i W2 H2 σ2 e2 x H' _ l2.sub S2 g2 hd y
    refine gV_ok (vs := []) S3 r3 hsl fun σ4 S4 _ => ?_
    have l13 := l2.tr l3
    have l03 := l1.tr l13
    exact lS_mk ((B.up bl l03)) S4 p3 ⟨fun e' W' H' σ' p l S' => ⟨W', e', l13.tr l, S', p⟩, fun d cs W' H' v p l S' r => c.rt d cs W' H' v p (l03.tr l) S' r, fun e' W' H' σ' p l S' => c.nx e' W' H' σ' p (l03.tr l) S', fun e' W' H' σ' p l S' => ⟨W', e', l13.tr l, S', p⟩⟩
  · have ei : i = ds.length := by omega
    subst ei
    obtain ⟨g2, q2⟩ := done e2 p2
    exact .inl ⟨wk.stop _ W2 H2 σ2 e2 l2.sub S2 g2 (Nat.le_refl _), c.nx _ _ _ _ q2 (l1.tr l2) S2⟩
theorem ds_while (hp : PassesOwn (model X.prog X.w) X.A X.env X.xe) (hc : PT X c (lT X.K B dt)) (hb : PSs X body (lS X.K B tb)) : PS X (.While c body [] pos) (lS X.K B (sWhile dt tb)) := PS.imp (ps_while hp hc hb) fun E σ H h => by
  obtain ⟨W, e, P, bl, S, ⟨I, ⟨m0, i0⟩, turn⟩, c⟩ := lS_un h
  refine ⟨fun m σ H => ∃ W2 e2, W.le W2 ∧ Sd X.K W2 H σ e2 ∧ I m e2, ⟨m0, W, e, W.le_refl, S, i0⟩, ?_⟩
  rintro m σ2 H2 ⟨W2, e2, l2, S2, p2⟩
  refine ⟨W2, e2, _, (B.up bl l2), S2, turn m e2 p2, fun b e3 W3 H3 p3 l3 S3 => ?_⟩
  have l03 := l2.tr l3
  cases b with
  | true =>
    refine iteT ⟨fun σ' H' => ∃ m', m' < m ∧ ∃ W2 e2, W.le W2 ∧ Sd X.K W2 H' σ' e2 ∧ I m' e2, fun _ _ q => q, lS_mk ((B.up bl l03)) S3 p3 ⟨?_, fun d cs W' H' v p l S' r => c.rt d cs W' H' v p (l03.tr l) S' r, fun e' W' H' σ' p l S' => c.nx e' W' H' σ' p (l03.tr l) S', ?_⟩⟩
    · rintro e' W' H' σ' ⟨m', hm, p⟩ l S'
      exact ⟨m', hm, W', e', l03.tr l, S', p⟩
    · rintro e' W' H' σ' ⟨m', hm, p⟩ l S'
      exact ⟨m', hm, W', e', l03.tr l, S', p⟩
  | false => exact iteF (c.nx _ _ _ _ p3 l03 S3)
end
end DL
namespace DL
open PySem PySem.Spec PyProof.Rows L2
open Evl (Ex)

/-! ### no name of a cell from k on -/
mutual
def loD (k : Nat) : D → Bool
  | .tup xs => los k xs
  | .lst xs => los k xs
  | .fro xs => los k xs
  | .ins _ _ xs => los k xs
  | .cell n => decide (n < k)
  | .non => true
  | .bl _ => true
  | .int _ => true
  | .str _ => true
  | .dct => true
  | .raw _ => true
  | .exc _ _ => true
def los (k : Nat) : List D → Bool
  | [] => true
  | x :: xs => loD k x && los k xs
end
section
variable {K : PySem.W.Frag} {W : Wd}
mutual
theorem R.low {k : Nat} : ∀ (d : D) (v : V), R K W v d → loD k d = true → R K ⟨W.F, W.m.take k, W.h⟩ v d
  | .non, _, h, _ => by cases h; exact .non
  | .bl b, _, h, _ => by cases h; exact .bl b
  | .int i, _, h, _ => by cases h; exact .int i
  | .str s, _, h, _ => by cases h; exact .str s
  | .tup xs, _, h, o => by
    cases h with
    | tup hs ha => exact .tup hs (RAll.low xs _ ha o)
  | .lst xs, _, h, o => by
    cases h with
    | lst hs ha => exact .lst hs (RAll.low xs _ ha o)
  | .fro xs, _, h, o => by
    cases h with
    | fro hs ha => exact .fro hs (RAll.low xs _ ha o)
  | .ins C ns xs, _, h, o => by
    cases h with
    | ins hs ha => exact .ins hs (RAll.low xs _ ha o)
  | .cell n, _, h, o => by
    cases h with
    | cell hs => exact .cell (by show (W.m.take k)[n]? = _; rw [List.getElem?_take_of_lt (of_decide_eq_true o)]; exact hs)
  | .dct, _, h, _ => by
    cases h with
    | dct hs => exact .dct hs
  | .raw v, _, h, _ => by cases h; exact .raw v
  | .exc C p, _, h, _ => by
    cases h with
    | exc hs hp => exact .exc hs hp
theorem RAll.low {k : Nat} : ∀ (ds : List D) (vs : List V), RAll K W vs ds → los k ds = true → RAll K ⟨W.F, W.m.take k, W.h⟩ vs ds
  | [], _, h, _ => by cases h; exact .nil
  | d :: ds, _, h, o => by
    cases h with
    | cons h1 h2 =>
      have o' : (loD k d && los k ds) = true := o
      rw [Bool.and_eq_true] at o'
      exact .cons (R.low d _ h1 o'.1) (RAll.low ds _ h2 o'.2)
end
end
def Cel.loD (k : Nat) : Cel → Bool
  | .dead => true
  | .lst xs => los k xs
  | .ins _ _ xs => los k xs
  | .dic kxs => los k (kxs.map (·.2))
theorem RKs.low {K : PySem.W.Frag} {W : Wd} {k : Nat} : ∀ {ps : List (Key × V)} {kxs : List (Int × D)}, RKs K W ps kxs → los k (kxs.map (·.2)) = true → RKs K ⟨W.F, W.m.take k, W.h⟩ ps kxs
  | _, _, .nil, _ => .nil
  | _, _, @RKs.cons _ _ _ _ d _ kxs r t, o => by
    have o' : (DL.loD k d && los k (kxs.map (·.2))) = true := o
    rw [Bool.and_eq_true] at o'
    exact .cons (R.low d _ r o'.1) (RKs.low t o'.2)
theorem ClOk.low {K : PySem.W.Frag} {W : Wd} {H : Hp} {a : Addr} {k : Nat} : ∀ {c : Cel}, ClOk K W H a c → c.loD k = true → ClOk K ⟨W.F, W.m.take k, W.h⟩ H a c
  | .dead, _, _ => trivial
  | .lst xs, ⟨vs, h, r⟩, o => ⟨vs, h, RAll.low xs _ r o⟩
  | .ins C ns xs, ⟨dx, gs, h, e, r⟩, o => ⟨dx, gs, h, e, RAll.low xs _ r o⟩
  | .dic _, ⟨ps, h, r⟩, o => ⟨ps, h, r.low o⟩
/-- the younger cells forgotten -/
theorem Ok.low {K : PySem.W.Frag} {W : Wd} {H : Hp} {cs : List Cel} {k : Nat} (h : Ok K W H cs) (o : (cs.take k).all (Cel.loD k) = true) : Ok K ⟨W.F, W.m.take k, W.h⟩ H (cs.take k) := by
  have get : ∀ {α : Type} {l : List α} {n : Nat} {x : α}, (l.take k)[n]? = some x → l[n]? = some x := fun {α l n x} e => by
    by_cases hn : n < k
    · rw [List.getElem?_take_of_lt hn] at e; exact e
    · rw [List.getElem?_eq_none (by rw [List.length_take]; omega)] at e; cases e
  refine ⟨h.ex, by simp [h.len], h.nd.sublist (List.take_sublist _ _), fun a ha => h.here a (List.mem_of_mem_take ha), fun n a c e1 e2 => h.fr n a c (get e1) (get e2), fun n a c e1 e2 => ?_, fun q hq => ?_, h.hn⟩
  · exact (h.cl n a c (get e1) (get e2)).low (List.all_eq_true.mp o c (List.mem_of_getElem? e2))
  · obtain ⟨h1, h2, h3⟩ := h.hd q hq
    exact ⟨h1, h2, fun hm => h3 (List.mem_of_mem_take hm)⟩

/-! ### comprehensions -/
def eLc (o : Bool) (it : DI) (tg : Tg) (tt : DT) (te : DE) (vs : List Nat) : DE := fun e P => it e fun ds G e1 => ds.length ≤ sizeLine ∧ ∃ I : Nat → List D → List Cel → Prop, I 0 [] e1.cs ∧
  (∀ i d acc cs, ds[i]? = some d → I i acc cs → G cs ∧ ∃ sl', setTg tg d (wipeD e1.sl vs) = some sl' ∧ tt ⟨sl', cs⟩ fun b e2 => if b = true then te e2 fun y e3 => I (i + 1) (acc ++ [y]) e3.cs else I (i + 1) acc e2.cs) ∧
  ∀ acc cs, acc.length ≤ ds.length → I ds.length acc cs → G cs ∧ newL o acc ⟨e1.sl, cs⟩ P
def dYes : DT := fun e P => P true e
section
variable {K : PySem.W.Frag} {X : Cx} {B : Bs} {elt tgE iter : Expr} {ifs : List Expr} {scope : Scope} {own : List (Str × Nat)} {pos : Pos} {it : DI} {tg : Tg} {tt : DT} {te : DE} {o : Bool}
theorem SlO.mono' {W W' : Wd} {σ : L2.St} {sl : List (Option D)} (l : W.sub W') (h : SlO K W σ sl) : SlO K W' σ sl :=
  ⟨h.1, fun i d e => let ⟨v, a, b⟩ := h.2 i d e; ⟨v, a, R.mono' l _ _ b⟩⟩
theorem lc_ok {vs : List Nat} (hv : ∀ i ∈ tg.on, i ∈ vs) : ∀ σ H Q, lE K B (eLc o it tg tt te vs) σ H Q → tLc (lI K B it) (gV K tg) (lT K Bs.any tt) (lE K Bs.any te) vs σ H Q := by
  rintro σ H Q ⟨W, e, P, bl, S, t, k⟩
  refine ⟨W, e, _, bl, S, t, fun ds G e1 W1 H1 J ⟨hz, I, i0, turn, done⟩ l1 S1 wk Dl hD => ?_⟩
  obtain ⟨F1, m1, h1⟩ := W1
  refine ⟨fun i m H => m = ds.length - i ∧ i ≤ ds.length ∧ ∃ (F : Hp) (mm : List Addr) (vs' : List V) (acc : List D) (cs : List Cel), Wd.sub ⟨F1, m1, h1⟩ ⟨F, mm, (Dl, vs') :: h1⟩ ∧ Ok K ⟨F, mm, (Dl, vs') :: h1⟩ H cs ∧ RAll K ⟨F, mm, (Dl, vs') :: h1⟩ vs' acc ∧ acc.length ≤ i ∧ I i acc cs,
    ⟨_, rfl, Nat.zero_le _, F1, m1, [], [], e1.cs, ⟨Ex.refl _, [], (List.append_nil _).symm⟩, S1.ok.hide hD, .nil, Nat.zero_le _, i0⟩, ?_⟩
  rintro i m H2 ⟨rfl, hi, F, mm, vs', acc, cs, sb, ok, ra, hacc, p⟩
  have Sx : Sd K ⟨F, mm, (Dl, vs') :: h1⟩ H2 σ ⟨e1.sl, cs⟩ := ⟨ok, S1.sl.mono' sb⟩
  by_cases hlt : i < ds.length
  · have hd : ds[i]? = some ds[i] := by simp [hlt]
    obtain ⟨g2, sl', hsl, p3⟩ := turn i _ acc cs hd p
    refine .inr ⟨wk.go i _ H2 σ _ sb Sx g2 hlt, _, fun H' q => ⟨ds.length - (i + 1), by omega, rfl, hlt, q⟩, fun x H' y => ?_⟩
    obtain ⟨W3, l3, S3, r3⟩ := wk.yld i _ H2 σ _ x H' _ sb Sx g2 hd y
    have S3w : Sd K W3 H' (wipe σ vs) ⟨wipeD e1.sl vs, cs⟩ := ⟨S3.ok, S3.sl.wipe vs⟩
    refine gV_ok (vs := vs) S3w r3 hsl fun σ4 S4 w4 => ⟨by rw [w4 hv, wipe_wipe], ?_⟩
    refine ⟨W3, _, _, trivial, S4, p3, fun b e5 W5 H5 p5 l5 S5 => ?_⟩
    have fin : ∀ (W6 : Wd) (H6 : Hp) (e6 : En) (acc' : List D) (vs6 : List V), W3.le W6 → Ok K W6 H6 e6.cs → RAll K W6 vs6 acc' → acc'.length ≤ i + 1 → I (i + 1) acc' e6.cs →
        ∀ (H7 : Hp), (H7 = upd H6 Dl (.lst vs6) ∨ (H7 = H6 ∧ vs6 = vs')) → ∃ (F : Hp) (mm : List Addr) (vs' : List V) (acc : List D) (cs : List Cel), Wd.sub ⟨F1, m1, h1⟩ ⟨F, mm, (Dl, vs') :: h1⟩ ∧ Ok K ⟨F, mm, (Dl, vs') :: h1⟩ H7 cs ∧ RAll K ⟨F, mm, (Dl, vs') :: h1⟩ vs' acc ∧ acc.length ≤ i + 1 ∧ I (i + 1) acc cs := by
      intro W6 H6 e6 acc' vs6 l6 ok6 ra6 hl6 p6 H7 hH
      have l36 := l3.tr l6
      obtain ⟨F6, m6, h6⟩ := W6
      obtain rfl : h6 = (Dl, vs') :: h1 := l36.2.2
      have sb6 : Wd.sub ⟨F1, m1, h1⟩ ⟨F6, m6, (Dl, vs6) :: h1⟩ := sb.tr (W2 := ⟨F6, m6, (Dl, vs6) :: h1⟩) ⟨l36.1, l36.2.1⟩
      refine ⟨F6, m6, vs6, acc', e6.cs, sb6, ?_, ra6.world rfl rfl, hl6, p6⟩
      rcases hH with rfl | ⟨rfl, rfl⟩
      · exact ok6.grow
      · exact ok6
    cases b with
    | false => exact iteF (fin W5 H5 e5 acc vs' l5 S5.ok (RAll.mono (l3.tr l5) _ _ ra) (by omega) p5 H5 (.inr ⟨rfl, rfl⟩))
    | true =>
      refine iteT ⟨W5, e5, _, trivial, S5, p5, fun y e6 W6 H6 v6 p6 l6 S6 r6 => ?_⟩
      have l56 := l5.tr l6
      have hD6 : H6 Dl = some (.lst vs') := (S6.ok.hd (Dl, vs') (by rw [(l3.tr l56).2.2]; exact List.mem_cons_self)).1
      have ra6 : RAll K W6 vs' acc := RAll.mono (l3.tr l56) _ _ ra
      exact ⟨vs', hD6, by rw [ra6.length]; omega, fin W6 H6 e6 (acc ++ [y]) (vs' ++ [v6]) l56 S6.ok (ra6.app1 r6) (by simp; omega) p6 _ (.inl rfl)⟩
  · have ei : i = ds.length := by omega
    subst ei
    obtain ⟨g2, q⟩ := done acc cs hacc p
    refine .inl ⟨wk.stop _ _ H2 σ _ sb Sx g2 (Nat.le_refl _), ?_⟩
    have ra' : RAll K ⟨F, mm, h1⟩ vs' acc := ra.world rfl rfl
    have lx : (⟨F1, m1, h1⟩ : Wd).le ⟨F, mm, h1⟩ := ⟨sb.1, sb.2, rfl⟩
    cases o with
    | false =>
      obtain ⟨ok', l'⟩ := ok.showF
      exact k _ _ _ _ _ q (l1.tr (lx.tr l')) ⟨ok', S1.sl.mono (lx.tr l')⟩ (.lst upd_same (RAll.mono l' _ _ ra'))
    | true =>
      obtain ⟨ok', l'⟩ := ok.showC ra'
      refine k _ _ _ _ _ q (l1.tr (lx.tr l')) ⟨ok', S1.sl.mono (lx.tr l')⟩ (.cell ?_)
      show (mm ++ [Dl])[cs.length]? = some Dl
      have hl : mm.length = cs.length := ok.len
      rw [← hl, List.getElem?_append_right (Nat.le_refl _)]
      simp
end
end DL
namespace DL
open PySem PySem.Spec PyProof.Rows L2
open Evl (Ex)

/-! ### comprehensions, as rules -/
section
variable {X : Cx} {B : Bs} {elt tgE iter : Expr} {ifs : List Expr} {scope : Scope} {own : List (Str × Nat)} {pos : Pos} {it : DI} {tg : Tg} {tt : DT} {te : DE}
theorem PTs.imp {X : Cx} {ifs : List Expr} {t t' : TT} (h : PTs X ifs t) (i : ∀ σ H Q, t' σ H Q → t σ H Q) : PTs X ifs t' := ⟨fun pins s σ H Q I w => h.run pins s σ H Q I (i σ H Q w)⟩
theorem dts_nil : PTs X [] (lT X.K B dYes) := PTs.imp pts_nil fun σ H Q ⟨W, e, P, _, S, p, k⟩ => k true e W H p W.le_refl S
theorem dts_one {c : Expr} (h : PT X c (lT X.K B tt)) : PTs X [c] (lT X.K B tt) := pts_one h
theorem de_lc {o : Bool} (hc : X.calm = true) (hN : X.N.Nodup) (hi : PI X tgE iter (lI X.K B it)) (ok : BlkOk X.N X.env.scope scope own) (hv : ∀ i ∈ tg.on, i ∈ own.map (·.2))
    (hg : ∀ (s : Shared) (H : Hp) (C : Addr) (cl : List (Str × Addr)) (fp : List Addr), PG (X.blk s H scope (compEnvC scope cl C X.env) fp) tgE (gV X.K tg)) (ht : ∀ (s : Shared) (H : Hp) (C : Addr) (cl : List (Str × Addr)) (fp : List Addr), PTs (X.blk s H scope (compEnvC scope cl C X.env) fp) ifs (lT X.K Bs.any tt))
    (he : ∀ (s : Shared) (H : Hp) (C : Addr) (cl : List (Str × Addr)) (fp : List Addr), PE (X.blk s H scope (compEnvC scope cl C X.env) fp) elt (lE X.K Bs.any te)) (hs : ∀ x, foldedSetIterable iter X.env x = pure x := by intro _; rfl) :
    PE X (.ListComp elt [⟨tgE, iter, ifs, 0⟩] scope pos) (lE X.K B (eLc o it tg tt te (own.map (·.2)))) := PE.imp (pe_lc hc hN hi ok hg ht he hs) (lc_ok hv)
theorem ds_setLc {o : Bool} {i : Nat} {y : Str} {py spos : Pos} (hc : X.calm = true) (hN : X.N.Nodup) (hy : X.N[i]? = some y) (hyl : X.env.scope.names.lookup y = some .local)
    (hsw : swapsWith (.ListComp elt [⟨tgE, iter, ifs, 0⟩] scope pos) (some (.Name y py)) spos.line X.env = pure true) (hi : PI X tgE iter (lI X.K B it)) (ok : BlkOk X.N X.env.scope scope own) (hv : ∀ i ∈ tg.on, i ∈ own.map (·.2))
    (hg : ∀ (s : Shared) (H : Hp) (C : Addr) (cl : List (Str × Addr)) (fp : List Addr), PG (X.blk s H scope (compEnvC scope cl C X.env) fp) tgE (gV X.K tg)) (ht : ∀ (s : Shared) (H : Hp) (C : Addr) (cl : List (Str × Addr)) (fp : List Addr), PTs (X.blk s H scope (compEnvC scope cl C X.env) fp) ifs (lT X.K Bs.any tt))
    (he : ∀ (s : Shared) (H : Hp) (C : Addr) (cl : List (Str × Addr)) (fp : List Addr), PE (X.blk s H scope (compEnvC scope cl C X.env) fp) elt (lE X.K Bs.any te)) (hs : ∀ x, foldedSetIterable iter X.env x = pure x := by intro _; rfl) :
    PS X (.Assign [.Name y py] (.ListComp elt [⟨tgE, iter, ifs, 0⟩] scope pos) spos) (lS X.K B (sAsg (eLc o it tg tt te (own.map (·.2))) i)) := PS.imp (ps_setLc hc hN hy hyl hsw hi ok hg ht he hs) fun E σ H h => by
  obtain ⟨W, e, P, bl, S, h, c⟩ := lS_un h
  exact lc_ok hv σ H _ ⟨W, e, _, bl, S, h, fun d e1 W1 H1 v p l S1 r => c.nx _ _ _ _ p l ⟨S1.ok, S1.sl.set r⟩⟩
end

/-! ### built-ins -/
def CallD (K : PySem.W.Frag) (r : List V → Hp → VK → Prop) (q : List D → DE) : Prop := ∀ (W : Wd) (H : Hp) (σ : L2.St) (e : En) (vs : List V) (ds : List D) (P : D → En → Prop) (Q : VK), Sd K W H σ e → RAll K W vs ds → q ds e P →
  (∀ d e' W' H' v, P d e' → W.le W' → Sd K W' H' σ e' → R K W' v d → Q v H') → r vs H Q
def eCB (q : List D → DE) (ta : DA) : DE := fun e P => ta e fun ds e1 => q ds e1 P
section
variable {K : PySem.W.Frag} {X : Cx} {B : Bs} {x : Str} {p pos : Pos} {ex : Expr} {es : List Expr} {ta : DA} {id T : String} {r : List V → Hp → VK → Prop} {q : List D → DE}
theorem cb_ok (hq : CallD K r q) : ∀ σ H Q, lE K B (eCB q ta) σ H Q → tCB r (lA K B ta) σ H Q := fun σ H Q ⟨W, e, P, bl, S, t, k⟩ =>
  ⟨W, e, _, bl, S, t, fun ds e1 W1 H1 vs t1 l1 S1 r1 => hq W1 H1 σ e1 vs ds P Q S1 r1 t1 fun d e2 W2 H2 v p l2 S2 r2 => k d e2 W2 H2 v p (l1.tr l2) S2 r2⟩
theorem de_callB (hc : CallR X (.builtin id) r) (hq : CallD X.K r q) (hg : Gl X x) (hm : X.mg x = none) (hv : bootBuiltins x = some (.builtin id)) (ha : PA X (ex :: es) (lA X.K B ta)) (hn : x ≠ "__name__" := by decide) (hdb : (x == ("__debug__" : Str)) = false := by decide)
    (he : starEach (ex :: es) X.env = (false, eval ex X.env) :: starEach es X.env := by rfl) (hpl : (backTo pos (starEach es X.env)).any (·.1) = false := by rfl) : PE X (.Call (.Name x p) (ex :: es) [] pos) (lE X.K B (eCB q ta)) := PE.imp (pe_callB hc hg hm hv ha hn hdb he hpl) (cb_ok hq)
theorem de_callTy (hc : CallR X (.type T) r) (hq : CallD X.K r q) (hg : Gl X x) (hm : X.mg x = none) (hv : bootBuiltins x = some (.type T)) (ha : PA X (ex :: es) (lA X.K B ta)) (hn : x ≠ "__name__" := by decide) (hdb : (x == ("__debug__" : Str)) = false := by decide)
    (he : starEach (ex :: es) X.env = (false, eval ex X.env) :: starEach es X.env := by rfl) (hpl : (backTo pos (starEach es X.env)).any (·.1) = false := by rfl) : PE X (.Call (.Name x p) (ex :: es) [] pos) (lE X.K B (eCB q ta)) := PE.imp (pe_callTy hc hg hm hv ha hn hdb he hpl) (cb_ok hq)
theorem RAll.one {W : Wd} {vs : List V} {d : D} (h : RAll K W vs [d]) : ∃ v, vs = [v] ∧ R K W v d := by
  cases h with
  | cons r t => cases t; exact ⟨_, rfl, r⟩
theorem RAll.two {W : Wd} {vs : List V} {d d2 : D} (h : RAll K W vs [d, d2]) : ∃ v v2, vs = [v, v2] ∧ R K W v d ∧ R K W v2 d2 := by
  cases h with
  | cons r t =>
    obtain ⟨v, rfl, r2⟩ := t.one
    exact ⟨_, v, rfl, r, r2⟩
/-- a list or a tuple -/
def seqD (cs : List Cel) : D → Option (List D)
  | .tup xs => some xs
  | d => lk cs d
theorem Ok.seq {W : Wd} {H : Hp} {cs : List Cel} (h : Ok K W H cs) {d : D} {v : V} {xs : List D} (r : R K W v d) (e : seqD cs d = some xs) : ∃ a vs, v = .ref a ∧ (SqL K H a vs ∨ SqT K H a vs) ∧ RAll K W vs xs := by
  unfold seqD at e
  split at e
  · cases e
    cases r with
    | tup h1 h2 => exact ⟨_, _, rfl, .inr (Evl.ex_t h.ex h1), h2⟩
  · obtain ⟨a, vs, rfl, h1, h2⟩ := h.lk r e
    exact ⟨a, vs, rfl, .inl h1, h2⟩
def qLen : List D → DE
  | [.str s] => fun e P => s.length ≤ sizeLine ∧ P (.int s.length) e
  | [d] => fun e P => ∃ xs, seqD e.cs d = some xs ∧ P (.int xs.length) e
  | _ => fun _ _ => False
def rLenA (K : PySem.W.Frag) : List V → Hp → VK → Prop := fun xs H Q => (∃ p ys, xs = [.ref p] ∧ (SqL K H p ys ∨ SqT K H p ys) ∧ Q (.int ys.length) H) ∨ ∃ z, xs = [.str z] ∧ z.length ≤ sizeLine ∧ Q (.int z.length) H
theorem call_lenA : CallR X (.builtin "len") (rLenA X.K) := call_len_seq.or call_len_str
theorem cd_len : CallD K (rLenA K) qLen := by
  intro W H σ e vs ds P Q S r t k
  unfold qLen at t
  split at t
  · obtain ⟨v, rfl, r1⟩ := r.one
    cases r1
    exact .inr ⟨_, rfl, t.1, k _ _ _ _ _ t.2 W.le_refl S (.int _)⟩
  · obtain ⟨v, rfl, r1⟩ := r.one
    obtain ⟨xs, e1, p⟩ := t
    obtain ⟨a, vs, rfl, h1, h2⟩ := S.ok.seq r1 e1
    exact .inl ⟨a, vs, rfl, h1, by rw [h2.length]; exact k _ _ _ _ _ p W.le_refl S (.int _)⟩
  · exact t.elim
def qList (o : Bool) : List D → DE
  | [d] => fun e P => ∃ xs, seqD e.cs d = some xs ∧ newL o xs e P
  | _ => fun _ _ => False
def rListA (K : PySem.W.Frag) : List V → Hp → VK → Prop := fun xs H Q => ∃ p ys, xs = [.ref p] ∧ (SqL K H p ys ∨ SqT K H p ys) ∧ ∀ l, H l = none → Q (.ref l) (upd H l (.lst ys))
theorem call_listA : CallR X (.type "list") (rListA X.K) := call_list_of
theorem cd_list {o : Bool} : CallD K (rListA K) (qList o) := by
  intro W H σ e vs ds P Q S r t k
  unfold qList at t
  split at t
  · obtain ⟨v, rfl, r1⟩ := r.one
    obtain ⟨xs, e1, p⟩ := t
    obtain ⟨a, vs, rfl, h1, h2⟩ := S.ok.seq r1 e1
    exact ⟨a, vs, rfl, h1, newL_ok S h2 p k⟩
  · exact t.elim
/-- either, as one likes -/
def qListE : List D → DE := fun ds e P => qList false ds e P ∨ qList true ds e P
theorem cd_listE : CallD K (rListA K) qListE := fun W H σ e vs ds P Q S r t k => t.elim (fun t => cd_list W H σ e vs ds P Q S r t k) fun t => cd_list W H σ e vs ds P Q S r t k
def qTuple : List D → DE
  | [.tup xs] => fun e P => P (.tup xs) e
  | [d] => fun e P => ∃ xs, lk e.cs d = some xs ∧ P (.tup xs) e
  | _ => fun _ _ => False
def rTupleA (K : PySem.W.Frag) : List V → Hp → VK → Prop := fun xs H Q => ∃ p ys, xs = [.ref p] ∧ ((SqL K H p ys ∧ ∀ l, H l = none → Q (.ref l) (upd H l (.tup ys))) ∨ (SqT K H p ys ∧ Q (.ref p) H))
theorem call_tupleA : CallR X (.type "tuple") (rTupleA X.K) := call_tuple_of
theorem cd_tuple : CallD K (rTupleA K) qTuple := by
  intro W H σ e vs ds P Q S r t k
  unfold qTuple at t
  split at t
  · obtain ⟨v, rfl, r1⟩ := r.one
    cases r1 with
    | tup h1 h2 => exact ⟨_, _, rfl, .inr ⟨Evl.ex_t S.ok.ex h1, k _ _ _ _ _ t W.le_refl S (.tup h1 h2)⟩⟩
  · obtain ⟨v, rfl, r1⟩ := r.one
    obtain ⟨xs, e1, p⟩ := t
    obtain ⟨a, vs, rfl, h1, h2⟩ := S.ok.lk r1 e1
    exact ⟨a, vs, rfl, .inl ⟨h1, newT_ok S h2 p k⟩⟩
  · exact t.elim
def qAll : List D → DE
  | [d] => fun e P => ∃ bs : List Bool, lk e.cs d = some (bs.map .bl) ∧ P (.bl (bs.all fun b => b)) e
  | _ => fun _ _ => False
theorem cd_all : CallD K (rAll K) qAll := by
  intro W H σ e vs ds P Q S r t k
  unfold qAll at t
  split at t
  · obtain ⟨v, rfl, r1⟩ := r.one
    obtain ⟨bs, e1, p⟩ := t
    obtain ⟨a, vs, rfl, h1, h2⟩ := S.ok.lk r1 e1
    rw [h2.bls_inv] at h1
    exact ⟨a, bs, rfl, h1, k _ _ _ _ _ p W.le_refl S (.bl _)⟩
  · exact t.elim
/-- sum of a list or a tuple of ints -/
def rSumA (K : PySem.W.Frag) : List V → Hp → VK → Prop := fun vs H Q => rSum K vs H Q ∨ ∃ (a : Addr) (ns : List Int), vs = [V.ref a] ∧ SqT K H a (ns.map V.int) ∧ Q (.int ns.sum) H
theorem call_sumT (hc : X.calm = true) : CallR X (.builtin "sum") (fun vs H Q => ∃ (a : Addr) (ns : List Int), vs = [V.ref a] ∧ SqT X.K H a (ns.map V.int) ∧ Q (.int ns.sum) H) := by
  intro pins s σ H xs us Q I r h
  obtain ⟨a, ns, rfl, hs, q⟩ := h
  obtain ⟨u, rfl, ru⟩ := vals1 r
  cases (show u = Value.ref a from ru)
  obtain ⟨its, rv, ht, hz⟩ := I.tuple hs
  have hi : IntsAre its ns := Vals.ints rv
  obtain ⟨xs, e⟩ := hi.allInts.items
  have hn : numsOf (intItems xs).toList = ns := by rw [← e]; exact hi.numsOf
  rw [nums_intItems] at hn
  rw [e] at ht
  refine PySem.W.ktm_sumG (I.ok.hd hc) ht fun h' tk t' hk => ?_
  have e2 : PySem.preSum (numAt xs) xs.size = ns.sum := by rw [preSum_eq, List.take_of_length_le (by simp), hn]
  rw [e2]
  exact ⟨.int ns.sum, H, I.kept (t' := tk) hk, ⟨_, rfl⟩, q⟩
theorem call_sumA (hc : X.calm = true) : CallR X (.builtin "sum") (rSumA X.K) := (cr_sum hc).or (call_sumT hc)
def qSum : List D → DE
  | [d] => fun e P => ∃ ns : List Int, seqD e.cs d = some (ns.map .int) ∧ P (.int ns.sum) e
  | _ => fun _ _ => False
theorem cd_sum : CallD K (rSumA K) qSum := by
  intro W H σ e vs ds P Q S r t k
  unfold qSum at t
  split at t
  · obtain ⟨v, rfl, r1⟩ := r.one
    obtain ⟨ns, e1, p⟩ := t
    obtain ⟨a, vs, rfl, h1, h2⟩ := S.ok.seq r1 e1
    rw [h2.ints_inv] at h1
    have q := k _ _ _ _ _ p W.le_refl S (.int _)
    rcases h1 with h1 | h1
    · exact .inl ⟨a, ns, rfl, h1, q⟩
    · exact .inr ⟨a, ns, rfl, h1, q⟩
  · exact t.elim
def qInt : List D → DE
  | [.int i] => fun e P => P (.int i) e
  | [.bl b] => fun e P => P (.int (if b then 1 else 0)) e
  | [.str s] => fun e P => s.length ≤ 640 ∧ ∃ n, PySem.intText? s = some n ∧ P (.int n) e
  | _ => fun _ _ => False
def rIntA : List V → Hp → VK → Prop := fun xs H Q => ((∃ i, xs = [.int i] ∧ Q (.int i) H) ∨ ∃ k, xs = [.bl k] ∧ Q (.int (if k then 1 else 0)) H) ∨ ∃ a n, xs = [.str a] ∧ PySem.intText? a = some n ∧ a.length ≤ 640 ∧ Q (.int n) H
theorem call_intA : CallR X (.type "int") rIntA := call_int1.or call_int_str
theorem cd_int : CallD K rIntA qInt := by
  intro W H σ e vs ds P Q S r t k
  unfold qInt at t
  split at t
  · obtain ⟨v, rfl, r1⟩ := r.one
    cases r1
    exact .inl (.inl ⟨_, rfl, k _ _ _ _ _ t W.le_refl S (.int _)⟩)
  · obtain ⟨v, rfl, r1⟩ := r.one
    cases r1
    exact .inl (.inr ⟨_, rfl, k _ _ _ _ _ t W.le_refl S (.int _)⟩)
  · obtain ⟨v, rfl, r1⟩ := r.one
    obtain ⟨hz, n, hn, t⟩ := t
    cases r1
    exact .inr ⟨_, n, rfl, hn, hz, k _ _ _ _ _ t W.le_refl S (.int _)⟩
  · exact t.elim
end
end DL
namespace DL
open PySem PySem.Spec PyProof.Rows L2
open Evl (Ex)

/-! ### isinstance with a built-in type -/
def tyN (cs : List Cel) : D → Option String
  | .non => some "NoneType"
  | .bl _ => some "bool"
  | .int _ => some "int"
  | .str _ => some "str"
  | .tup _ => some "tuple"
  | .lst _ => some "list"
  | .dct => some "dict"
  | .cell n => match cs[n]? with
    | some (.lst _) => some "list"
    | _ => none
  | _ => none
def isTy (a T : String) : Bool := a == T || (a == "bool" && T == "int")
def tyKnown (T : String) : Bool := ["int", "bool", "str", "tuple", "list"].contains T
theorem kit_all : (["NoneType", "bool", "int", "str", "tuple", "list", "dict"].all fun a => ["int", "bool", "str", "tuple", "list"].all fun T => decide (kitB a T = some (isTy a T))) = true := by decide +kernel
theorem kit_in {a T : String} (ha : a ∈ ["NoneType", "bool", "int", "str", "tuple", "list", "dict"]) (hT : tyKnown T = true) : kitB a T = some (isTy a T) :=
  of_decide_eq_true (List.all_eq_true.mp (List.all_eq_true.mp kit_all a ha) T (List.contains_iff_mem.mp hT))
section
variable {K : PySem.W.Frag} {W : Wd} {H : Hp} {cs : List Cel}
theorem SqT.ty {a : Addr} {vs : List V} (h : SqT K H a vs) : TyX K H (.ref a) (.type "tuple") := by
  rcases h with (h | ⟨o, h⟩) | ⟨o, its, n, h1, h2, _⟩
  · exact .base (.tup h)
  · exact .fTuple h
  · exact .kTuple h1 h2
theorem Ok.ty (h : Ok K W H cs) {d : D} {v : V} {a : String} (r : R K W v d) (e : tyN cs d = some a) : TyX K H v (.type a) ∧ a ∈ ["NoneType", "bool", "int", "str", "tuple", "list", "dict"] := by
  cases r <;> simp only [tyN] at e <;> try cases e
  · exact ⟨.base .non, by decide⟩
  · exact ⟨.base (.bl _), by decide⟩
  · exact ⟨.base (.int _), by decide⟩
  · exact ⟨.base (.str _), by decide⟩
  · rename_i a vs hs ha
    exact ⟨SqT.ty (Evl.ex_t h.ex hs), by decide⟩
  · rename_i a vs hs ha
    exact ⟨.base (.lst (h.ex _ _ hs)), by decide⟩
  · rename_i n a' hm
    split at e
    · rename_i xs hc
      cases e
      obtain ⟨vs, h1, h2⟩ := h.cellL hm hc
      exact ⟨.base (.lst h1), by decide⟩
    · cases e
  · exact ⟨.base (.dK (h.ex _ _ (by assumption))), by decide⟩
def qIsi : List D → DE
  | [d, .raw (.ty T)] => fun e P => tyKnown T = true ∧ ∃ a, tyN e.cs d = some a ∧ P (.bl (isTy a T)) e
  | _ => fun _ _ => False
theorem cd_isi : CallD K (rIsi K) qIsi := by
  intro W H σ e vs ds P Q S r t k
  unfold qIsi at t
  split at t
  · obtain ⟨v, v2, rfl, r1, r2⟩ := r.two
    obtain ⟨hT, a, ea, p⟩ := t
    obtain ⟨ty, mem⟩ := S.ok.ty r1 ea
    cases r2
    exact ⟨v, .ty _, _, _, _, rfl, .ty _, ty, kit_ty (kit_in mem hT), k _ _ _ _ _ p W.le_refl S (.bl _)⟩
  · exact t.elim
end

/-! ### instances -/
def insD (cs : List Cel) : D → Option (Addr × List Str × List D)
  | .ins C ns xs => some (C, ns, xs)
  | .cell n => match cs[n]? with
    | some (.ins C ns xs) => some (C, ns, xs)
    | _ => none
  | _ => none
def getF (f : Str) : List Str → List D → Option D
  | n :: ns, x :: xs => if f = n then some x else getF f ns xs
  | _, _ => none
section
variable {K : PySem.W.Frag} {W : Wd} {H : Hp} {cs : List Cel}
theorem RAll.fld {f : Str} : ∀ {gs : List (Str × V)} {ns : List Str} {xs : List D} {d : D}, gs.map (·.1) = ns → RAll K W (gs.map (·.2)) xs → getF f ns xs = some d → ∃ v, gs.lookup f = some v ∧ R K W v d
  | [], _, _, _, rfl, r, e => by cases r; cases e
  | (n, v) :: gs, _, _, d, rfl, r, e => by
    cases r with
    | cons r1 r2 =>
      have e : (if f = n then some _ else getF f (gs.map (·.1)) _) = some d := e
      by_cases h : f = n
      · rw [if_pos h] at e
        cases e
        exact ⟨v, by simp [List.lookup, h], r1⟩
      · rw [if_neg h] at e
        obtain ⟨w, h1, h2⟩ := RAll.fld rfl r2 e
        have hb : (f == n) = false := by simpa using h
        exact ⟨w, by simp only [List.lookup, hb]; exact h1, h2⟩
theorem lookup_none {f : Str} : ∀ {gs : List (Str × V)}, f ∉ gs.map (·.1) → gs.lookup f = none
  | [], _ => rfl
  | (n, v) :: gs, h => by
    have h1 : f ≠ n := fun e => h (by rw [e]; exact List.mem_cons_self)
    have hb : (f == n) = false := by simpa using h1
    simp only [List.lookup, hb]
    exact lookup_none fun m => h (List.mem_cons_of_mem _ m)
theorem Ok.ins (h : Ok K W H cs) {d : D} {v : V} {C : Addr} {ns : List Str} {xs : List D} (r : R K W v d) (e : insD cs d = some (C, ns, xs)) : ∃ a dx gs, v = .ref a ∧ H a = some (.ins C dx gs) ∧ gs.map (·.1) = ns ∧ RAll K W (gs.map (·.2)) xs := by
  cases r <;> simp only [insD] at e <;> try cases e
  · exact ⟨_, _, _, rfl, h.ex _ _ (by assumption), rfl, by assumption⟩
  · rename_i n a hm
    split at e
    · rename_i C' ns' xs' hc
      cases e
      obtain ⟨dx, gs, h1, h2, h3⟩ := h.cl n a _ hm hc
      exact ⟨a, dx, gs, rfl, h1, h2, h3⟩
    · cases e
end
def eFld (C : Addr) (f : Str) (t : DE) : DE := fun e P => t e fun d e1 => ∃ ns xs v, insD e1.cs d = some (C, ns, xs) ∧ getF f ns xs = some v ∧ P v e1
/-- self.f = v, self an instance that changes -/
def sFldD (C : Addr) (f : Str) (to tv : DE) : DS := fun P e => tv e fun v e1 => to e1 fun o e2 => ∃ n ns xs, o = .cell n ∧ e2.cs[n]? = some (.ins C ns xs) ∧ f ∉ ns ∧ ns.length < 900 ∧ P.nx { e2 with cs := e2.cs.set n (.ins C (ns ++ [f]) (xs ++ [v])) }
/-- a call's promise, by data -/
abbrev Spc := List D → List Cel → (D → List Cel → Prop) → Prop
def spD (K : PySem.W.Frag) (sp : Spc) : Sp := fun vs H Q _ => ∃ W cs ds P, Ok K W H cs ∧ RAll K W vs ds ∧ sp ds cs P ∧ ∀ d cs' W' H' v, P d cs' → W.le W' → Ok K W' H' cs' → R K W' v d → Q v H'
def eCall (sp : Spc) (ta : DA) : DE := fun e P => ta e fun ds e1 => sp ds e1.cs fun d cs' => P d { e1 with cs := cs' }
def eProp (C : Addr) (sp : Spc) (t : DE) : DE := fun e P => t e fun d e1 => (∃ ns xs, insD e1.cs d = some (C, ns, xs)) ∧ sp [d] e1.cs fun r cs' => P r { e1 with cs := cs' }
def eMeth (C : Addr) (m : Str) (sp : Spc) (t : DE) (ta : DA) : DE := fun e P => t e fun d e1 => (∃ ns xs, insD e1.cs d = some (C, ns, xs) ∧ m ∉ ns) ∧ ta e1 fun ds e2 => sp (d :: ds) e2.cs fun r cs' => P r { e2 with cs := cs' }
section
variable {X : Cx} {B : Bs} {ex o : Expr} {es : List Expr} {te tv : DE} {ta : DA} {C : Addr} {f m x : Str} {pos apos p : Pos} {CX : CXT} {k : Nat} {fn pp : Addr} {fd : FuncData} {ps : List Str} {sp : Spc} {dvs : List V} {ds : List Value}
theorem de_fld (c : Cls X.K C) (n : NoAttr X.K C f) (he : PE X ex (lE X.K B te)) (hb : attributeBase ex f X.env (eval ex X.env) = eval ex X.env := by rfl) : PE X (.Attribute ex f pos) (lE X.K B (eFld C f te)) :=
  PE.imp (pe_fld he hb) fun σ H Q ⟨W, e, P, bl, S, t, k⟩ => ⟨W, e, _, bl, S, t, fun d e1 W1 H1 v ⟨ns, xs, w, hi, hf, p⟩ l S1 r => by
    obtain ⟨a, dx, gs, rfl, h1, h2, h3⟩ := S1.ok.ins r hi
    obtain ⟨u, hu, ru⟩ := h3.fld h2 hf
    exact ⟨a, C, dx, gs, u, rfl, h1, c, n, hu, k _ _ _ _ _ p l S1 ru⟩⟩
theorem call_ok {E : XK} (hd : dvs = []) : ∀ σ H Q, lE X.K B (eCall sp ta) σ H Q → tCall (spD X.K sp) dvs E (lA X.K B ta) σ H Q := fun σ H Q ⟨W, e, P, bl, S, t, k⟩ =>
  ⟨W, e, _, bl, S, t, fun ds e1 W1 H1 vs h l S1 r => by
    subst hd
    rw [List.append_nil]
    exact ⟨W1, e1.cs, ds, _, S1.ok, r, h, fun d cs' W2 H2 v p l2 ok2 r2 => k _ _ _ _ _ p (l.tr l2) ⟨ok2, S1.sl.mono l2⟩ r2⟩⟩
theorem de_call (F : FnOk X.prog X.w X.K X.mg X.base CX0 k fn fd ps (spD X.K sp)) (hr : Room k X.A) (hg : Gl X x) (hm : X.mg x = some (.ref fn)) (hk : PySem.W.keepIn X.K (.ref fn) = true) (hb : Binds X.K fd ps [])
    (ha : PA X (ex :: es) (lA X.K B ta)) (hdb : (x == ("__debug__" : Str)) = false := by decide) (he : starEach (ex :: es) X.env = (false, eval ex X.env) :: starEach es X.env := by rfl) (hpl : (backTo pos (starEach es X.env)).any (·.1) = false := by rfl) :
    PE X (.Call (.Name x p) (ex :: es) [] pos) (lE X.K B (eCall sp ta)) := PE.imp (pe_call F hr hg hm hk hb .nil pass0 ha hdb he hpl) (call_ok rfl)
theorem de_prop (c : Cls X.K C) (hp : PropOf X.K C f pp fn) (F : FnOk X.prog X.w X.K X.mg X.base CX0 k fn fd ps (spD X.K sp)) (hr : Room (k + 1) X.A) (hb : Binds X.K fd ps []) (he : PE X ex (lE X.K B te))
    (hab : attributeBase ex f X.env (eval ex X.env) = eval ex X.env := by rfl) : PE X (.Attribute ex f pos) (lE X.K B (eProp C sp te)) :=
  PE.imp (pe_prop he c hp F hr hb .nil (E := E0) (fun _ _ _ _ _ _ _ h => h.elim) hab) fun σ H Q ⟨W, e, P, bl, S, t, k⟩ => ⟨W, e, _, bl, S, t, fun d e1 W1 H1 v ⟨⟨ns, xs, hi⟩, h⟩ l S1 r => by
    obtain ⟨a, dx, gs, rfl, h1, h2, h3⟩ := S1.ok.ins r hi
    exact ⟨a, dx, gs, rfl, h1, W1, e1.cs, [d], _, S1.ok, .cons r .nil, h, fun d cs' W2 H2 v p l2 ok2 r2 => k _ _ _ _ _ p (l.tr l2) ⟨ok2, S1.sl.mono l2⟩ r2⟩⟩
theorem de_meth {pl : Sem Bool} (c : Cls X.K C) (hm : Meth X.K C m fn) (F : FnOk X.prog X.w X.K X.mg X.base CX0 k fn fd ps (spD X.K sp)) (hr : Room k X.A) (hb : Binds X.K fd ps []) (ho : PE X o (lE X.K B te)) (ha : PA X (ex :: es) (lA X.K B ta))
    (hst : starEach (ex :: es) X.env = (false, eval ex X.env) :: starEach es X.env := by rfl) (hpl : (backTo pos (starEach es X.env)).any (·.1) = false := by rfl)
    (ht : eval (.Call (.Attribute o m apos) (ex :: es) [] pos) X.env = (do
      let ov ← eval o X.env
      standAt apos.atName
      let (f, first) ← holding [ov] (getMethod ov m pl)
      callWith pos f first (backTo pos (starEach (ex :: es) X.env)) (backToKw pos (keywordEach [] X.env))) := by rfl) :
    PE X (.Call (.Attribute o m apos) (ex :: es) [] pos) (lE X.K B (eMeth C m sp te ta)) :=
  PE.imp (pe_meth ho c hm F hr hb .nil pass0 ha hst hpl ht) fun σ H Q ⟨W, e, P, bl, S, t, k⟩ => ⟨W, e, _, bl, S, t, fun d e1 W1 H1 v ⟨⟨ns, xs, hi, hn⟩, h⟩ l S1 r => by
    obtain ⟨a, dx, gs, rfl, h1, h2, h3⟩ := S1.ok.ins r hi
    refine ⟨a, dx, gs, rfl, h1, lookup_none (by rw [h2]; exact hn), W1, e1, _, B.up bl l, S1, h, fun ds e2 W2 H2 vs h l2 S2 r2 => ?_⟩
    show spD X.K sp (V.ref a :: (vs ++ [])) H2 Q E0
    rw [List.append_nil]
    exact ⟨W2, e2.cs, d :: ds, _, S2.ok, .cons (R.mono l2 _ _ r) r2, h, fun d cs' W3 H3 v p l3 ok3 r3 => k _ _ _ _ _ p ((l.tr l2).tr l3) ⟨ok3, S2.sl.mono l3⟩ r3⟩⟩
theorem de_meth0 {pl : Sem Bool} (c : Cls X.K C) (hm : Meth X.K C m fn) (F : FnOk X.prog X.w X.K X.mg X.base CX0 k fn fd ps (spD X.K sp)) (hr : Room k X.A) (hb : Binds X.K fd ps []) (ho : PE X o (lE X.K B te))
    (ht : eval (.Call (.Attribute o m apos) [] [] pos) X.env = (do
      let ov ← eval o X.env
      standAt apos.atName
      let (f, first) ← holding [ov] (getMethod ov m pl)
      callWith pos f first (backTo pos (starEach [] X.env)) (backToKw pos (keywordEach [] X.env))) := by rfl) :
    PE X (.Call (.Attribute o m apos) [] [] pos) (lE X.K B (eMeth C m sp te aNil)) :=
  PE.imp (pe_meth0 ho c hm F hr hb .nil pass0 ht) fun σ H Q ⟨W, e, P, bl, S, t, k⟩ => ⟨W, e, _, bl, S, t, fun d e1 W1 H1 v ⟨⟨ns, xs, hi, hn⟩, h⟩ l S1 r => by
    obtain ⟨a, dx, gs, rfl, h1, h2, h3⟩ := S1.ok.ins r hi
    refine ⟨a, dx, gs, rfl, h1, lookup_none (by rw [h2]; exact hn), ?_⟩
    exact ⟨W1, e1.cs, [d], _, S1.ok, .cons r .nil, h, fun d cs' W3 H3 v p l3 ok3 r3 => k _ _ _ _ _ p (l.tr l3) ⟨ok3, S1.sl.mono l3⟩ r3⟩⟩
end
/-! ### a store to a field -/
section
variable {X : Cx} {B : Bs} {o ex : Expr} {te tv : DE} {C : Addr} {f : Str} {pos pos' : Pos} {K : PySem.W.Frag} {W : Wd}
theorem putF_new {f : Str} {v : V} : ∀ {gs : List (Str × V)}, f ∉ gs.map (·.1) → putF f v gs = gs ++ [(f, v)]
  | [], _ => rfl
  | (g, w) :: gs, h => by
    have h1 : f ≠ g := fun e => h (by rw [e]; exact List.mem_cons_self)
    have h2 : f ∉ gs.map (·.1) := fun m => h (List.mem_cons_of_mem _ m)
    have ih := putF_new (v := v) h2
    unfold putF
    first
      | (rw [if_neg h1, ih]; rfl)
      | (rw [if_neg (Ne.symm h1), ih]; rfl)
      | simp [h1, Ne.symm h1, ih]
theorem ds_fld (c : Cls X.K C) (n : NoAttr X.K C f) (ho : PE X o (lE X.K B te)) (hv : PE X ex (lE X.K B tv)) (hs : swapsWith ex (some (.Attribute o f pos')) pos.line X.env = pure false := by rfl) :
    PS X (.Assign [.Attribute o f pos'] ex pos) (lS X.K B (sFldD C f te tv)) := PS.imp (ps_fld ho hv hs) fun E σ H h => by
  obtain ⟨W, e, P, bl, S, h, cv⟩ := lS_un h
  refine ⟨W, e, _, bl, S, h, fun d e1 W1 H1 v t1 l1 S1 r1 => ⟨W1, e1, _, B.up bl l1, S1, t1, fun ob e2 W2 H2 w t2 l2 S2 r2 => ?_⟩⟩
  obtain ⟨n', ns, xs, rfl, hc, hf, hl, p⟩ := t2
  cases r2 with
  | cell hm =>
    obtain ⟨dx, gs, h1, h2, h3⟩ := S2.ok.cl _ _ _ hm hc
    have hgl : gs.length = ns.length := by rw [← h2, List.length_map]
    have hf' : f ∉ gs.map (·.1) := by rw [h2]; exact hf
    refine ⟨_, C, dx, gs, rfl, h1, c, n, by rw [hgl]; omega, ?_⟩
    have r1' := R.mono l2 _ _ r1
    have fin : ∀ gs', gs' = gs ++ [(f, v)] → E.nx σ (upd H2 _ (.ins C dx gs')) := fun gs' e => by
      subst e
      refine cv.nx _ _ _ _ p (l1.tr l2) ⟨S2.ok.setC hm hc (fun z => nomatch z) ⟨dx, _, upd_same, by rw [List.map_append, h2]; rfl, ?_⟩, S2.sl⟩
      rw [List.map_append]
      exact h3.append (.cons r1' .nil)
    exact fin _ (putF_new hf')
end

/-! ### a def keeps its promise -/
mutual
theorem R.lo_of {K : PySem.W.Frag} {W : Wd} : ∀ (d : D) (v : V), R K W v d → loD W.m.length d = true
  | .non, _, _ => rfl
  | .bl _, _, _ => rfl
  | .int _, _, _ => rfl
  | .str _, _, _ => rfl
  | .tup xs, _, h => by
    cases h with
    | tup hs ha => exact RAll.lo_of xs _ ha
  | .lst xs, _, h => by
    cases h with
    | lst hs ha => exact RAll.lo_of xs _ ha
  | .fro xs, _, h => by
    cases h with
    | fro hs ha => exact RAll.lo_of xs _ ha
  | .ins _ _ xs, _, h => by
    cases h with
    | ins hs ha => exact RAll.lo_of xs _ ha
  | .cell n, _, h => by
    cases h with
    | cell hs => exact decide_eq_true (List.getElem?_eq_some_iff.mp hs).1
  | .dct, _, _ => rfl
  | .raw _, _, _ => rfl
  | .exc _ _, _, _ => rfl
theorem RAll.lo_of {K : PySem.W.Frag} {W : Wd} : ∀ (ds : List D) (vs : List V), RAll K W vs ds → los W.m.length ds = true
  | [], _, _ => rfl
  | d :: ds, _, h => by
    cases h with
    | cons h1 h2 =>
      show (loD _ d && los _ ds) = true
      rw [R.lo_of d _ h1, RAll.lo_of ds _ h2] <;> rfl
end
theorem RKs.lo_of {K : PySem.W.Frag} {W : Wd} : ∀ {ps : List (Key × V)} {kxs : List (Int × D)}, RKs K W ps kxs → los W.m.length (kxs.map (·.2)) = true
  | _, _, .nil => rfl
  | _, _, @RKs.cons _ _ _ _ d _ kxs r t => by
    show (loD _ d && los _ (kxs.map (·.2))) = true
    rw [R.lo_of d _ r, RKs.lo_of t] <;> rfl
theorem Ok.cl_lo {K : PySem.W.Frag} {W : Wd} {H : Hp} {cs : List Cel} (h : Ok K W H cs) : ∀ c ∈ cs, c.loD cs.length = true := fun c hc => by
  obtain ⟨n, hn, e⟩ := List.mem_iff_getElem.mp hc
  have hm : n < W.m.length := by rw [h.len]; exact hn
  have x := h.cl n W.m[n] c (by simp [hm]) (by simp [hn, e])
  rw [← h.len]
  cases c with
  | dead => rfl
  | lst xs => obtain ⟨vs, _, r⟩ := x; exact RAll.lo_of _ _ r
  | ins C ns xs => obtain ⟨dx, gs, _, _, r⟩ := x; exact RAll.lo_of _ _ r
  | dic kxs => obtain ⟨ps, _, r⟩ := x; exact r.lo_of
/-- what the caller sees of a def's end: its own cells (from k on) are forgotten, a new list of its own is handed on -/
def FinD (cs0 : List Cel) (P : D → List Cel → Prop) (d : D) (cs : List Cel) : Prop :=
  P d cs ∨ (loD cs0.length d = true ∧ (∀ c ∈ cs.take cs0.length, c ∈ cs0 ∨ c.loD cs0.length = true) ∧ P d (cs.take cs0.length)) ∨
  ∃ n xs, d = .cell n ∧ cs0.length ≤ n ∧ cs[n]? = some (.lst xs) ∧ los cs0.length xs = true ∧ (∀ c ∈ cs.take cs0.length, c ∈ cs0 ∨ c.loD cs0.length = true) ∧
    (P (.lst xs) (cs.take cs0.length) ∨ P (.cell cs0.length) (cs.take cs0.length ++ [.lst xs]))
/-- a list that was just made: the caller takes it as one that changes no more, or as a cell -/
def fresh (xs : List D) (cs : List Cel) (P : D → List Cel → Prop) : Prop := P (.lst xs) cs ∨ P (.cell cs.length) (cs ++ [.lst xs])
section
variable {K : PySem.W.Frag} {W0 W : Wd} {H0 H : Hp} {cs0 cs : List Cel}
theorem Ok.trim (h0 : Ok K W0 H0 cs0) (h : Ok K W H cs) (l : W0.le W) (hc : ∀ c ∈ cs.take cs0.length, c ∈ cs0 ∨ c.loD cs0.length = true) :
    Ok K ⟨W.F, W.m.take cs0.length, W.h⟩ H (cs.take cs0.length) ∧ W0.le ⟨W.F, W.m.take cs0.length, W.h⟩ := by
  refine ⟨h.low (List.all_eq_true.mpr fun c hm => (hc c hm).elim (h0.cl_lo c) fun z => z), l.1, ⟨[], ?_⟩, l.2.2⟩
  obtain ⟨more, e⟩ := l.2.1
  show W.m.take cs0.length = W0.m ++ []
  rw [e, ← h0.len, List.take_left, List.append_nil]
theorem fin_ok {P : D → List Cel → Prop} {Q : VK} (h0 : Ok K W0 H0 cs0) (k : ∀ d cs' W' H' v, P d cs' → W0.le W' → Ok K W' H' cs' → R K W' v d → Q v H') :
    ∀ d cs' W' H' v, FinD cs0 P d cs' → W0.le W' → Ok K W' H' cs' → R K W' v d → Q v H' := by
  intro d cs' W' H' v f l ok r
  rcases f with p | ⟨hd, hc, p⟩ | ⟨n, xs, rfl, hn, hx, hl, hc, p⟩
  · exact k _ _ _ _ _ p l ok r
  · obtain ⟨ok2, l2⟩ := h0.trim ok l hc
    exact k _ _ _ _ _ p l2 ok2 (R.low _ _ r hd)
  · cases r with
    | @cell _ a hm =>
      obtain ⟨vs, h1, h2⟩ := ok.cellL hm hx
      obtain ⟨ok2, l2⟩ := h0.trim ok l hc
      have r2 : RAll K ⟨W'.F, W'.m.take cs0.length, W'.h⟩ vs xs := RAll.low _ _ h2 hl
      have na : a ∉ W'.m.take cs0.length := fun hm2 => by
        obtain ⟨j, hj, e⟩ := List.mem_iff_getElem.mp hm2
        have hj' : j < cs0.length := by rw [List.length_take] at hj; omega
        have e2 : W'.m[j]? = some a := by
          rw [← e]
          have : (W'.m.take cs0.length)[j]? = W'.m[j]? := List.getElem?_take_of_lt hj'
          rw [← this]; exact List.getElem?_eq_getElem hj
        obtain ⟨g1, e1⟩ := List.getElem?_eq_some_iff.mp e2
        obtain ⟨g2, e3⟩ := List.getElem?_eq_some_iff.mp hm
        have := (List.getElem_inj ok.nd).mp (e1.trans e3.symm)
        omega
      have hF : W'.F a = none := (ok.fr n a _ hm hx).resolve_left fun z => nomatch z
      have nh : ∀ q ∈ W'.h, q.1 ≠ a := fun q hq e => (ok.hd q hq).2.2 (e ▸ List.mem_of_getElem? hm)
      -- as a hidden list, then shown
      have okh : Ok K ⟨W'.F, W'.m.take cs0.length, (a, vs) :: W'.h⟩ H' (cs'.take cs0.length) := by
        refine ⟨ok2.ex, ok2.len, ok2.nd, ok2.here, ok2.fr, fun n a c e1 e2 => ClOk.to (ok2.cl n a c e1 e2) rfl rfl, fun q hq => ?_, ?_⟩
        · rcases List.mem_cons.mp hq with rfl | hq
          · exact ⟨h1, hF, na⟩
          · exact ok2.hd q hq
        · show (a :: W'.h.map (·.1)).Nodup
          refine List.nodup_cons.mpr ⟨fun hm => ?_, ok.hn⟩
          obtain ⟨q, hq, e⟩ := List.mem_map.mp hm
          exact nh q hq e
      rcases p with p | p
      · obtain ⟨ok3, l3⟩ := okh.showF
        exact k _ _ _ _ _ p (l2.tr l3) ok3 (.lst upd_same (RAll.mono l3 _ _ r2))
      · obtain ⟨ok3, l3⟩ := okh.showC r2
        refine k _ _ _ _ _ p (l2.tr l3) ok3 (.cell ?_)
        show (W'.m.take cs0.length ++ [a])[cs0.length]? = some a
        have hl : (W'.m.take cs0.length).length = cs0.length := by
          obtain ⟨more, e⟩ := l.2.1
          rw [List.length_take, e, List.length_append, h0.len]; omega
        rw [List.getElem?_append_right (by omega), hl]
        simp
end
/-- a new instance: a cell, or one that changes no more -/
def eMake (C : Addr) (sp : Spc) (ta : DA) : DE := fun e P => ta e fun ds e1 => sp (.cell e1.cs.length :: ds) (e1.cs ++ [.ins C [] []]) fun r cs' => r = .non ∧
  (P (.cell e1.cs.length) { e1 with cs := cs' } ∨ ∃ cs1 C' ns xs, cs' = cs1 ++ [.ins C' ns xs] ∧ cs1.length = e1.cs.length ∧ los e1.cs.length xs = true ∧ (∀ c ∈ cs1, c ∈ e1.cs ∨ c.loD e1.cs.length = true) ∧ P (.ins C' ns xs) { e1 with cs := cs1 })
section
variable {K : PySem.W.Frag} {W : Wd} {H : Hp} {cs : List Cel}
theorem Ok.addF (h : Ok K W H cs) {a : Addr} {o : HO} (ha : H a = some o) (hF : W.F a = none) (hm : a ∉ W.m) (hh : ∀ q ∈ W.h, q.1 ≠ a) : Ok K ⟨upd W.F a o, W.m, W.h⟩ H cs ∧ W.le ⟨upd W.F a o, W.m, W.h⟩ := by
  have l : W.le ⟨upd W.F a o, W.m, W.h⟩ := ⟨Ex.new hF, ⟨[], (List.append_nil _).symm⟩, rfl⟩
  have ne : ∀ b ∈ W.m, b ≠ a := fun b hb e => hm (e ▸ hb)
  refine ⟨⟨fun b u e => ?_, h.len, h.nd, h.here, fun n b c e1 e2 => ?_, fun n b c e1 e2 => (h.cl n b c e1 e2).mono l, fun q hq => ?_, h.hn⟩, l⟩
  · have e : upd W.F a o b = some u := e
    by_cases q : b = a
    · subst q; rw [upd_same] at e; rw [ha]; exact e
    · rw [upd_ne q] at e; exact h.ex b u e
  · rcases h.fr n b c e1 e2 with q | q
    · exact .inl q
    · exact .inr (by show upd W.F a o b = none; rw [upd_ne (ne b (List.mem_of_getElem? e1))]; exact q)
  · obtain ⟨g1, g2, g3⟩ := h.hd q hq
    exact ⟨g1, by show upd W.F a o q.1 = none; rw [upd_ne (hh q hq)]; exact g2, g3⟩
theorem Ok.old_out (h : Ok K W H cs) {n k : Nat} {a : Addr} (hm : W.m[n]? = some a) (hk : k ≤ n := by exact Nat.le_refl _) : a ∉ W.m.take k := fun hm2 => by
  obtain ⟨j, hj, e⟩ := List.mem_iff_getElem.mp hm2
  have hj' : j < k := by rw [List.length_take] at hj; omega
  have e2 : W.m[j]? = some a := by
    rw [← e]
    have : (W.m.take k)[j]? = W.m[j]? := List.getElem?_take_of_lt hj'
    rw [← this]; exact List.getElem?_eq_getElem hj
  obtain ⟨g1, e1⟩ := List.getElem?_eq_some_iff.mp e2
  obtain ⟨g2, e3⟩ := List.getElem?_eq_some_iff.mp hm
  have := (List.getElem_inj h.nd).mp (e1.trans e3.symm)
  omega
end
section
variable {X : Cx} {B : Bs} {ex o : Expr} {es : List Expr} {te tv : DE} {ta : DA} {C : Addr} {f m x : Str} {pos apos p : Pos} {CX : CXT} {k : Nat} {fn pp : Addr} {fd : FuncData} {ps : List Str} {sp : Spc} {dvs : List V} {ds : List Value}
theorem de_make (M : Mk X.K C fn) (F : FnOk X.prog X.w X.K X.mg X.base CX0 k fn fd ps (spD X.K sp)) (hr : Room (k + 1) X.A) (hg : Gl X x) (hm : X.mg x = some (.ref C)) (hb : Binds X.K fd ps [])
    (ha : PA X (ex :: es) (lA X.K B ta)) (hdb : (x == ("__debug__" : Str)) = false := by decide) (he : starEach (ex :: es) X.env = (false, eval ex X.env) :: starEach es X.env := by rfl) (hpl : (backTo pos (starEach es X.env)).any (·.1) = false := by rfl) :
    PE X (.Call (.Name x p) (ex :: es) [] pos) (lE X.K B (eMake C sp ta)) :=
  PE.imp (pe_make M F hr hg hm hb .nil pass0 ha hdb he hpl) fun σ H Q ⟨W, e, P, bl, S, t, k⟩ => ⟨W, e, _, bl, S, t, fun ds e1 W1 H1 vs h l S1 r => fun x dx hx hdx hne => by
    have hx2 : upd H1 dx (.own x) x = none := by rw [upd_ne (Ne.symm hne)]; exact hx
    have okd : Ok X.K W1 (upd H1 dx (.own x)) e1.cs := by
      have ne : ∀ a ∈ W1.m, a ≠ dx := fun a ha e => S1.ok.fresh hdx (e ▸ ha)
      have neh : ∀ q ∈ W1.h, q.1 ≠ dx := fun q hq e => by
        have := (S1.ok.hd q hq).1
        rw [e, hdx] at this; cases this
      refine ⟨S1.ok.ex.trans (Ex.new hdx), S1.ok.len, S1.ok.nd, fun a ha => by rw [upd_ne (ne a ha)]; exact S1.ok.here a ha, S1.ok.fr, fun n a c e1 e2 => (S1.ok.cl n a c e1 e2).heap (upd_ne (ne a (List.mem_of_getElem? e1))), fun q hq => ?_, S1.ok.hn⟩
      obtain ⟨g1, g2, g3⟩ := S1.ok.hd q hq
      exact ⟨by rw [upd_ne (neh q hq)]; exact g1, g2, g3⟩
    obtain ⟨ok, l2⟩ := okd.newC (o := .ins C dx []) (c := .ins C [] []) hx2 fun W' l => ⟨dx, [], upd_same, rfl, .nil⟩
    have rc : R X.K ⟨W1.F, W1.m ++ [x], W1.h⟩ (.ref x) (.cell e1.cs.length) := .cell (by
      show (W1.m ++ [x])[e1.cs.length]? = some x
      rw [← S1.ok.len, List.getElem?_append_right (Nat.le_refl _)]
      simp)
    rw [List.append_nil]
    refine ⟨_, _, _, _, ok, .cons rc (RAll.mono l2 _ _ r), h, fun d cs' W3 H3 v ⟨hd, p⟩ l3 ok3 r3 => ⟨by subst hd; exact r3.non_inv, ?_⟩⟩
    rcases p with p | ⟨cs1, C', ns, xs, rfl, hl, hx, hc, p⟩
    · exact k _ _ _ _ _ p ((l.tr l2).tr l3) ⟨ok3, S1.sl.mono (l2.tr l3)⟩ (R.mono l3 _ _ rc)
    · have l13 := l2.tr l3
      have tk : (cs1 ++ [Cel.ins C' ns xs]).take e1.cs.length = cs1 := by rw [← hl]; exact List.take_left
      obtain ⟨ok4, l4⟩ := S1.ok.trim ok3 l13 (by rw [tk]; exact hc)
      rw [tk] at ok4
      have rc3 := R.mono l3 _ _ rc
      cases rc3 with
      | cell hm =>
        have hcl : (cs1 ++ [Cel.ins C' ns xs])[e1.cs.length]? = some (Cel.ins C' ns xs) := by
          rw [← hl, List.getElem?_append_right (Nat.le_refl _)]; simp
        obtain ⟨dx', gs, g1, g2, g3⟩ := ok3.cl _ _ _ hm hcl
        have g4 : RAll X.K ⟨W3.F, W3.m.take e1.cs.length, W3.h⟩ (gs.map (·.2)) xs := RAll.low _ _ g3 hx
        have hF : W3.F x = none := (ok3.fr _ _ _ hm hcl).resolve_left fun z => nomatch z
        obtain ⟨ok5, l5⟩ := ok4.addF g1 hF (ok3.old_out hm) (fun q hq e => (ok3.hd q hq).2.2 (e ▸ List.mem_of_getElem? hm))
        subst g2
        exact k _ _ _ _ _ p (l.tr (l4.tr l5)) ⟨ok5, S1.sl.mono (l4.tr l5)⟩ (.ins upd_same (RAll.mono l5 _ _ g4))⟩
end
def startD (N : List Str) (ds : List D) : List (Option D) := ds.map some ++ List.replicate (N.length - ds.length) none
theorem start_ok {K : PySem.W.Frag} {W : Wd} {N : List Str} {vs : List V} {ds : List D} (r : RAll K W vs ds) : SlO K W (L2.start N vs) (startD N ds) := by
  refine ⟨by simp [L2.start, startD, r.length], fun i d e => ?_⟩
  unfold startD at e
  unfold L2.start
  by_cases hi : i < ds.length
  · rw [List.getElem?_append_left (by simpa using hi), List.getElem?_map] at e
    cases h : ds[i]? with
    | none => rw [h] at e; cases e
    | some d' =>
      rw [h] at e
      cases e
      obtain ⟨v, hv, rv⟩ := r.get h
      exact ⟨v, by rw [List.getElem?_append_left (by rw [List.length_map, r.length]; exact hi), List.getElem?_map, hv] <;> rfl, rv⟩
  · rw [List.getElem?_append_right (by simpa using hi), List.getElem?_replicate] at e
    split at e <;> cases e
abbrev cx0 (P : Program) (w : World) (K : PySem.W.Frag) (mg : Str → Option Value) (base : Heap) (N : List Str) (qual : Str) (scope : Scope) (f : Addr) (cd : Value) (A : Around) (outer : List Env) (s : Shared) (H : Hp) (E : XK) : Cx := (cxOf CX0 P w K mg base N qual scope f cd A outer s H E).nox
/-- a def's end -/
def Po.fn (cs : List Cel) (Q : D → List Cel → Prop) : Po := { nx := fun e => FinD cs Q .non e.cs, rt := FinD cs Q }
/-- THE RULE for a def that raises nothing -/
theorem fn_d {P : Program} {w : World} {K : PySem.W.Frag} {mg : Str → Option Value} {base : Heap} {x qual : Str} {params : Arguments} {body : List Stmt} {scope : Scope} {dvs : List V} {kws : List (Str × V)} {f : Addr} {fd : FuncData} {N ps : List Str} {k : Nat} {sp : Spc} {t : DS}
    (F : FunD K x qual params body scope dvs kws f fd) (S : FnScope N ps scope) (len : ∀ ds cs Q, sp ds cs Q → ds.length = ps.length)
    (der : ∀ (cdv : Value) (A : Around) (outer : List Env) (s : Shared) (H : Hp) (E : XK) (B : Bs), Room k (A.deeper (envOfC qual scope s.heap.objs.size f cdv)) → PSs (cx0 P w K mg base N qual scope f cdv A outer s H E) body (lS K B t))
    (vc : ∀ ds cs Q, (∀ d ∈ ds, loD cs.length d = true) → (∀ c ∈ cs, c.loD cs.length = true) → sp ds cs Q → t (Po.fn cs Q) ⟨startD N ds, cs⟩) : FnOk P w K mg base CX0 (k + 1) f fd ps (spD K sp) := by
  refine F.ok S (fun vs H Q E ⟨W, cs, ds, P', ok, r, h, _⟩ => by rw [r.length]; exact len _ _ _ h) fun cdv A outer s H vs Q E hr ⟨W, cs, ds, P', ok, r, h, kk⟩ => ?_
  refine ⟨_, PSs.nox (der cdv A outer s H E (Bs.of W) hr), W, ⟨startD N ds, cs⟩, _, W.le_refl, ⟨ok, start_ok r⟩, vc ds cs P' (fun d hd => ?_) ok.cl_lo h, ?_, fin_ok ok kk, fun _ _ _ _ z => z.elim, fun _ _ _ _ z => z.elim⟩
  · obtain ⟨i, hi, e⟩ := List.mem_iff_getElem.mp hd
    obtain ⟨v, hv, rv⟩ := r.get (i := i) (d := d) (by simp [hi, e])
    rw [← ok.len]
    exact R.lo_of _ _ rv
  · exact fun e' W' H' σ' p l S' => fin_ok ok kk .non e'.cs W' H' .non p l S'.ok .non
end DL
namespace DL
open PySem PySem.Spec PyProof.Rows L2
open Evl (Ex)

/-! ### a list's methods -/
def MtD (K : PySem.W.Frag) (r : V → List V → Hp → VK → Prop) (q : D → List D → DE) : Prop := ∀ (W : Wd) (H : Hp) (σ : L2.St) (e : En) (x : V) (vs : List V) (d : D) (ds : List D) (P : D → En → Prop) (Q : VK), Sd K W H σ e → R K W x d → RAll K W vs ds → q d ds e P →
  (∀ d e' W' H' v, P d e' → W.le W' → Sd K W' H' σ e' → R K W' v d → Q v H') → r x vs H Q
def eBM (q : D → List D → DE) (te : DE) (ta : DA) : DE := fun e P => te e fun d e1 => (∃ xs, lk e1.cs d = some xs) ∧ ta e1 fun ds e2 => q d ds e2 P
def eBM0 (q : D → List D → DE) (te : DE) : DE := fun e P => te e fun d e1 => (∃ xs, lk e1.cs d = some xs) ∧ q d [] e1 P
section
variable {K : PySem.W.Frag} {X : Cx} {B : Bs} {o ex : Expr} {es : List Expr} {te : DE} {ta : DA} {name : Str} {apos cpos : Pos} {id : String} {r : V → List V → Hp → VK → Prop} {q : D → List D → DE}
theorem Ok.tyL {W : Wd} {H : Hp} {cs : List Cel} (h : Ok K W H cs) {d : D} {v : V} {xs : List D} (r : R K W v d) (e : DL.lk cs d = some xs) : tyV K "list" v H := by
  obtain ⟨a, vs, rfl, h1, _⟩ := h.lk r e
  exact .inl ⟨rfl, vs, h1⟩
theorem de_bm (pa : PlainAttrs "list") (slot : Slot "list" name id) (hty : typeOf (.builtin id) = pure (.type "method_descriptor")) (hm : MtR X id r) (hq : MtD X.K r q) (ho : PE X o (lE X.K B te)) (ha : PA X (ex :: es) (lA X.K B ta))
    (hbase : attributeBase o name X.env (eval o X.env) = eval o X.env := by rfl)
    (hfew : ((backTo cpos (starEach (ex :: es) X.env)).all (fun x => !x.1) && (backToKw cpos (keywordEach [] X.env)).all (fun x => x.1.isSome)
      && decide ((ex :: es).length + ([] : List Keyword).length + (if ([] : List Keyword).isEmpty then 0 else 1) < 30)) = true := by rfl)
    (hline : (apos.endLine == cpos.line) = true := by rfl) (hs : starEach (ex :: es) X.env = (false, eval ex X.env) :: starEach es X.env := by rfl) (hplain : (backTo cpos (starEach es X.env)).any (·.1) = false := by rfl) :
    PE X (.Call (.Attribute o name apos) (ex :: es) [] cpos) (lE X.K B (eBM q te ta)) :=
  PE.imp (pe_bm pa slot hty hm ho ha hbase hfew hline hs hplain) fun σ H Q ⟨W, e, P, bl, S, t, k⟩ => ⟨W, e, _, bl, S, t, fun d e1 W1 H1 v ⟨⟨xs, hx⟩, t1⟩ l1 S1 r1 =>
    ⟨S1.ok.tyL r1 hx, W1, e1, _, B.up bl l1, S1, t1, fun ds e2 W2 H2 vs t2 l2 S2 r2 => hq W2 H2 σ e2 v vs d ds P Q S2 (R.mono l2 _ _ r1) r2 t2 fun d e3 W3 H3 v3 p l3 S3 r3 => k d e3 W3 H3 v3 p ((l1.tr l2).tr l3) S3 r3⟩⟩
theorem de_bm0 (pa : PlainAttrs "list") (slot : Slot "list" name id) (hty : typeOf (.builtin id) = pure (.type "method_descriptor")) (hm : MtR X id r) (hq : MtD X.K r q) (ho : PE X o (lE X.K B te))
    (hbase : attributeBase o name X.env (eval o X.env) = eval o X.env := by rfl) (hline : (apos.endLine == cpos.line) = true := by rfl) : PE X (.Call (.Attribute o name apos) [] [] cpos) (lE X.K B (eBM0 q te)) :=
  PE.imp (pe_bm0 pa slot hty hm ho hbase hline) fun σ H Q ⟨W, e, P, bl, S, t, k⟩ => ⟨W, e, _, bl, S, t, fun d e1 W1 H1 v ⟨⟨xs, hx⟩, t1⟩ l1 S1 r1 =>
    ⟨S1.ok.tyL r1 hx, hq W1 H1 σ e1 v [] d [] P Q S1 r1 .nil t1 fun d e3 W3 H3 v3 p l3 S3 r3 => k d e3 W3 H3 v3 p (l1.tr l3) S3 r3⟩⟩
def qApp : D → List D → DE := fun d ds e P => ∃ n xs y, d = .cell n ∧ ds = [y] ∧ e.cs[n]? = some (.lst xs) ∧ xs.length < sizeLine ∧ P .non { e with cs := e.cs.set n (.lst (xs ++ [y])) }
theorem md_app : MtD K rAppend qApp := by
  rintro W H σ e x vs d ds P Q S r rs ⟨n, xs, y, rfl, rfl, hc, hz, p⟩ k
  obtain ⟨v, rfl, rv⟩ := rs.one
  cases r with
  | @cell _ a hm =>
    obtain ⟨vs, h1, h2⟩ := S.ok.cellL hm hc
    refine ⟨a, vs, v, rfl, rfl, h1, by rw [h2.length]; exact hz, ?_⟩
    exact k _ _ _ _ _ p W.le_refl ⟨S.ok.setC hm hc (fun z => nomatch z) ⟨_, upd_same, h2.app1 rv⟩, S.sl⟩ .non
def qRevM : D → List D → DE := fun d ds e P => ∃ n xs, d = .cell n ∧ e.cs[n]? = some (.lst xs) ∧ P .non { e with cs := e.cs.set n (.lst xs.reverse) }
theorem md_rev : MtD K rReverse (fun d ds e P => ds = [] ∧ qRevM d ds e P) := by
  rintro W H σ e x vs d ds P Q S r rs ⟨rfl, n, xs, rfl, hc, p⟩ k
  cases rs
  cases r with
  | @cell _ a hm =>
    obtain ⟨vs, h1, h2⟩ := S.ok.cellL hm hc
    refine ⟨a, vs, rfl, rfl, h1, ?_⟩
    exact k _ _ _ _ _ p W.le_refl ⟨S.ok.setC hm hc (fun z => nomatch z) ⟨_, upd_same, h2.reverse⟩, S.sl⟩ .non
end

/-! ### what is left to show, step by step -/
section
variable {e : En} {P : D → En → Prop} {PB : Bool → En → Prop} {PA' : List D → En → Prop} {Po' : Po} {i : Nat} {d x y : D} {ta tb tc te tv to ti : DE} {t u : DT} {q q' : D → D → DE} {a b : Int} {k : Bool} {s : DS} {A C : Prop} {o : Bool} {tr : DA}
theorem v_var (h : e.sl[i]? = some (some d)) (p : P d e) : eV i e P := ⟨d, h, p⟩
theorem v_c (p : P d e) : eC d e P := p
theorem v_bin (h : ta e fun x e1 => tb e1 fun y e2 => q x y e2 P) : eBin q ta tb e P := h
theorem v_chain (h : ta e fun x e1 => tb e1 fun y e2 => q x y e2 fun z e3 => ∃ k, z = .bl k ∧ if k = true then tc e3 fun w e4 => q' y w e4 P else P (.bl false) e3) : eChain q q' ta tb tc e P := h
theorem v_test (h : te e fun d e1 => ∃ k, d = .bl k ∧ PB k e1) : eTest te e PB := h
theorem v_tru (h : te e fun d e1 => ∃ k, tru e1.cs d = some k ∧ PB k e1) : eTru te e PB := h
theorem v_dand (h : t e fun c e1 => if c = true then u e1 PB else PB false e1) : dAnd t u e PB := h
theorem v_dor (h : t e fun c e1 => if c = true then PB true e1 else u e1 PB) : dOr t u e PB := h
theorem v_dnot (h : t e fun c e1 => PB (!c) e1) : dNot t e PB := h
theorem v_dyes (h : PB true e) : dYes e PB := h
theorem v_eand (h : ta e fun x e1 => ∃ c, x = .bl c ∧ if c = true then tb e1 P else P (.bl false) e1) : eAnd ta tb e P := h
theorem v_eor (h : ta e fun x e1 => ∃ c, x = .bl c ∧ if c = true then P (.bl true) e1 else tb e1 P) : eOr ta tb e P := h
theorem v_enot (h : ta e fun x e1 => ∃ c, x = .bl c ∧ P (.bl (!c)) e1) : eNot ta e P := h
theorem v_eif (h : t e fun c e1 => if c = true then ta e1 P else tb e1 P) : eIf t ta tb e P := h
theorem v_anil (h : PA' [] e) : aNil e PA' := h
theorem v_acons (h : te e fun d e1 => tr e1 fun ds e2 => PA' (d :: ds) e2) : aCons te tr e PA' := h
theorem v_tup (h : tr e fun ds e1 => ds.length ≤ sizeLine ∧ P (.tup ds) e1) : eTup tr e P := h
theorem v_lst (h : tr e fun ds e1 => ds.length ≤ sizeLine ∧ newL o ds e1 P) : eLst o tr e P := h
theorem v_newF {xs : List D} (h : P (.lst xs) e) : newL false xs e P := h
theorem v_newC {xs : List D} (h : P (.cell e.cs.length) { e with cs := e.cs ++ [.lst xs] }) : newL true xs e P := h
theorem v_cb {qq : List D → DE} (h : tr e fun ds e1 => qq ds e1 P) : eCB qq tr e P := h
theorem v_call {sp : Spc} (h : tr e fun ds e1 => sp ds e1.cs fun d cs' => P d { e1 with cs := cs' }) : eCall sp tr e P := h
theorem v_sl {tl th : DO} (h : te e fun x e1 => tl e1 fun l e2 => th e2 fun h e3 => qSl o x l h e3 P) : eSl o te tl th e P := h
theorem v_onone {PO' : Option Int → En → Prop} (h : PO' none e) : oNone e PO' := h
theorem v_osome {PO' : Option Int → En → Prop} (h : te e fun d e1 => ∃ i, d = .int i ∧ PO' (some i) e1) : oSome te e PO' := h
theorem v_bm {qq : D → List D → DE} (h : te e fun d e1 => (∃ xs, lk e1.cs d = some xs) ∧ tr e1 fun ds e2 => qq d ds e2 P) : eBM qq te tr e P := h
theorem v_bm0 {qq : D → List D → DE} (h : te e fun d e1 => (∃ xs, lk e1.cs d = some xs) ∧ qq d [] e1 P) : eBM0 qq te e P := h
theorem v_prop {C : Addr} {sp : Spc} (h : te e fun d e1 => (∃ ns xs, insD e1.cs d = some (C, ns, xs)) ∧ sp [d] e1.cs fun r cs' => P r { e1 with cs := cs' }) : eProp C sp te e P := h
theorem v_fld {C : Addr} {f : Str} (h : te e fun d e1 => ∃ ns xs v, insD e1.cs d = some (C, ns, xs) ∧ getF f ns xs = some v ∧ P v e1) : eFld C f te e P := h
theorem v_meth {C : Addr} {m : Str} {sp : Spc} (h : te e fun d e1 => (∃ ns xs, insD e1.cs d = some (C, ns, xs) ∧ m ∉ ns) ∧ tr e1 fun ds e2 => sp (d :: ds) e2.cs fun r cs' => P r { e2 with cs := cs' }) : eMeth C m sp te tr e P := h
theorem v_make {C : Addr} {sp : Spc} (h : tr e fun ds e1 => sp (.cell e1.cs.length :: ds) (e1.cs ++ [.ins C [] []]) fun r cs' => r = .non ∧
  (P (.cell e1.cs.length) { e1 with cs := cs' } ∨ ∃ cs1 C' ns xs, cs' = cs1 ++ [.ins C' ns xs] ∧ cs1.length = e1.cs.length ∧ los e1.cs.length xs = true ∧ (∀ c ∈ cs1, c ∈ e1.cs ∨ c.loD e1.cs.length = true) ∧ P (.ins C' ns xs) { e1 with cs := cs1 })) : eMake C sp tr e P := h
-- statements
theorem v_nthn {u : DS} (h : u Po' e) : (Po'.thn u).nx e := h
theorem v_rthn {u : DS} {cs : List Cel} (h : Po'.rt d cs) : (Po'.thn u).rt d cs := h
theorem v_bthn {u : DS} (h : Po'.bk e) : (Po'.thn u).bk e := h
theorem v_cthn {u : DS} (h : Po'.ct e) : (Po'.thn u).ct e := h
theorem v_nlp {N : En → Prop} (h : N e) : (Po'.lp N).nx e := h
theorem v_rlp {N : En → Prop} {cs : List Cel} (h : Po'.rt d cs) : (Po'.lp N).rt d cs := h
theorem v_blp {N : En → Prop} (h : Po'.nx e) : (Po'.lp N).bk e := h
theorem v_clp {N : En → Prop} (h : N e) : (Po'.lp N).ct e := h
theorem v_nfn {cs : List Cel} {Q : D → List Cel → Prop} (h : FinD cs Q .non e.cs) : (Po.fn cs Q).nx e := h
theorem v_rfn {cs cs' : List Cel} {Q : D → List Cel → Prop} (h : FinD cs Q d cs') : (Po.fn cs Q).rt d cs' := h
theorem v_break (h : Po'.bk e) : sBreak Po' e := h
theorem v_cont (h : Po'.ct e) : sCont Po' e := h
theorem v_seq {s1 s2 : DS} (h : s1 (Po'.thn s2) e) : sSeq s1 s2 Po' e := h
theorem v_next (h : Po'.nx e) : sNext Po' e := h
theorem v_drop (h : te e fun _ e1 => Po'.nx e1) : sDrop te Po' e := h
theorem v_ret (h : te e fun d e1 => Po'.rt d e1.cs) : sRet te Po' e := h
theorem v_retN (h : Po'.rt .non e.cs) : sRetN Po' e := h
theorem v_if {s1 s2 : DS} (h : t e fun b e1 => if b = true then s1 Po' e1 else s2 Po' e1) : sIf t s1 s2 Po' e := h
theorem v_asg (h : te e fun d e1 => Po'.nx { e1 with sl := e1.sl.set i (some d) }) : sAsg te i Po' e := h
theorem v_asgT {tg : Tg} (h : te e fun d e1 => ∃ sl', setTg tg d e1.sl = some sl' ∧ Po'.nx ⟨sl', e1.cs⟩) : sAsgT te tg Po' e := h
theorem v_lenL {xs : List D} (h : seqD e.cs d = some xs) (hs : ∀ s, d ≠ .str s) (p : P (.int xs.length) e) : qLen [d] e P := by
  cases d <;> first | exact absurd rfl (hs _) | exact ⟨xs, h, p⟩
theorem v_listL {xs : List D} (h : seqD e.cs d = some xs) (p : newL o xs e P) : qList o [d] e P := ⟨xs, h, p⟩
theorem v_tupL {xs : List D} (h : lk e.cs d = some xs) (ht : ∀ s, d ≠ .tup s) (p : P (.tup xs) e) : qTuple [d] e P := by
  cases d <;> first | exact absurd rfl (ht _) | exact ⟨xs, h, p⟩
theorem v_tupT {xs : List D} (p : P (.tup xs) e) : qTuple [.tup xs] e P := p
theorem v_sumL {ns : List Int} (h : seqD e.cs d = some (ns.map .int)) (p : P (.int ns.sum) e) : qSum [d] e P := ⟨ns, h, p⟩
theorem v_allL {bs : List Bool} (h : lk e.cs d = some (bs.map .bl)) (p : P (.bl (bs.all fun b => b)) e) : qAll [d] e P := ⟨bs, h, p⟩
theorem v_slL {xs : List D} {l h : Option Int} (h1 : lk e.cs d = some xs) (ht : ∀ s, d ≠ .tup s) (hs : ∀ s, d ≠ .str s) (p : newL o (cutD xs l h) e P) : qSl o d l h e P := by
  unfold qSl
  split
  · exact absurd rfl (ht _)
  · exact absurd rfl (hs _)
  · exact ⟨xs, h1, p⟩
theorem v_sub {tv to ti : DE} (h : tv e fun v e1 => to e1 fun o e2 => ti e2 fun i e3 => ∃ n xs k j, o = .cell n ∧ e3.cs[n]? = some (.lst xs) ∧ i = .int k ∧ ixN xs.length k = some j ∧ Po'.nx { e3 with cs := e3.cs.set n (.lst (xs.set j v)) }) : sSub tv to ti Po' e := h
theorem v_rev (h : te e fun x e1 => ∃ xs, lk e1.cs x = some xs ∧ newL o xs.reverse e1 P) : eRev o te e P := h
theorem v_sz {xs : List D} {p : Prop} (h : decide (xs.length ≤ 1000) = true) (q : p) : xs.length ≤ sizeLine ∧ p := ⟨Nat.le_trans (of_decide_eq_true h) (by decide), q⟩
-- operators on known kinds
theorem v_addI (p : P (.int (a + b)) e) : qAdd o (.int a) (.int b) e P := p
theorem v_subI (p : P (.int (a - b)) e) : qSub (.int a) (.int b) e P := p
theorem v_mulI (c : MulOk a b) (p : P (.int (a * b)) e) : qMul (.int a) (.int b) e P := ⟨c, p⟩
theorem v_fdivI (c : FdivOk a b) (p : P (.int (a / b)) e) : qFdiv (.int a) (.int b) e P := ⟨c, p⟩
theorem v_modI (c : 0 < b) (p : P (.int (a % b)) e) : qMod (.int a) (.int b) e P := ⟨c, p⟩
theorem v_powI (c : CPow a b) (p : P (.int (a ^ b.toNat)) e) : qPow (.int a) (.int b) e P := ⟨c, p⟩
theorem v_ltI (p : P (.bl (decide (a < b))) e) : qLt (.int a) (.int b) e P := p
theorem v_leI (p : P (.bl (decide (a ≤ b))) e) : qLe (.int a) (.int b) e P := p
theorem v_gtI (p : P (.bl (decide (b < a))) e) : qGt (.int a) (.int b) e P := p
theorem v_geI (p : P (.bl (decide (b ≤ a))) e) : qGe (.int a) (.int b) e P := p
theorem v_eqI (p : P (.bl (decide (a = b))) e) : qEq (.int a) (.int b) e P := p
theorem v_neI (p : P (.bl (!decide (a = b))) e) : qNe (.int a) (.int b) e P := p
theorem v_intI (p : P (.int a) e) : qInt [.int a] e P := p
theorem v_intB (p : P (.int (if k then 1 else 0)) e) : qInt [.bl k] e P := p
theorem v_isi {T : String} {c : String} (h : tyKnown T = true) (h1 : tyN e.cs d = some c) (p : P (.bl (isTy c T)) e) : qIsi [d, .raw (.ty T)] e P := ⟨h, c, h1, p⟩
theorem v_isiT {T c : String} (h : tyKnown T = true) (h1 : tyN e.cs d = some c) (h2 : isTy c T = true) (p : P (.bl true) e) : qIsi [d, .raw (.ty T)] e P := ⟨h, c, h1, by rw [h2]; exact p⟩
theorem v_isiF {T c : String} (h : tyKnown T = true) (h1 : tyN e.cs d = some c) (h2 : isTy c T = false) (p : P (.bl false) e) : qIsi [d, .raw (.ty T)] e P := ⟨h, c, h1, by rw [h2]; exact p⟩
theorem v_ixT {xs : List D} (h : atI xs a = some d) (p : P d e) : qIx (.tup xs) (.int a) e P := ⟨d, h, p⟩
theorem v_ixL {xs : List D} (h : atI xs a = some d) (p : P d e) : qIx (.lst xs) (.int a) e P := ⟨xs, rfl, d, h, p⟩
theorem v_ixC {n : Nat} {xs : List D} (hc : e.cs[n]? = some (.lst xs)) (h : atI xs a = some d) (p : P d e) : qIx (.cell n) (.int a) e P := ⟨xs, by show (match e.cs[n]? with | some (.lst xs) => some xs | _ => none) = some xs; rw [hc], d, h, p⟩
theorem tyN_cell {cs : List Cel} {n : Nat} {a : String} (h : tyN cs (.cell n) = some a) : a = "list" := by
  simp only [tyN] at h
  split at h
  · cases h; rfl
  · cases h
theorem v_ixCx {n : Nat} (h : ∃ xs d, e.cs[n]? = some (.lst xs) ∧ atI xs a = some d ∧ P d e) : qIx (.cell n) (.int a) e P := by
  obtain ⟨xs, d, h1, h2, h3⟩ := h
  exact v_ixC h1 h2 h3
theorem v_bl {PK : Bool → Prop} (h : PK k) : ∃ k', D.bl k = .bl k' ∧ PK k' := ⟨k, rfl, h⟩
theorem v_in {PK : Int → Prop} (h : PK a) : ∃ k', D.int a = .int k' ∧ PK k' := ⟨a, rfl, h⟩
theorem v_T {A B : Prop} (h : A) : if true = true then A else B := iteT h
theorem v_F {A B : Prop} (h : B) : if false = true then A else B := iteF h
theorem v_ite {c : Bool} {A B : Prop} (h1 : c = true → A) (h2 : c = false → B) : if c = true then A else B := by
  cases c with
  | true => exact iteT (h1 rfl)
  | false => exact iteF (h2 rfl)
theorem v_itd {c : Prop} [Decidable c] {A B : Prop} (h1 : c → A) (h2 : ¬ c → B) : if decide c = true then A else B := by
  by_cases h : c
  · rw [decide_eq_true h]; exact iteT (h1 h)
  · rw [decide_eq_false h]; exact iteF (h2 h)
theorem v_itdn {c : Prop} [Decidable c] {A B : Prop} (h1 : ¬ c → A) (h2 : c → B) : if (!decide c) = true then A else B := by
  by_cases h : c
  · rw [decide_eq_true h]; exact iteF (h2 h)
  · rw [decide_eq_false h]; exact iteT (h1 h)
end
end DL
namespace DL
open PySem PySem.Spec PyProof.Rows L2
open Evl (Ex)

/-- the def at f keeps its promise, at most k deep -/
def Good (P : Program) (w : World) (K : PySem.W.Frag) (mg : Str → Option Value) (base : Heap) (k : Nat) (f : Addr) (ps : List Str) (sp : Spc) : Prop :=
  ∃ fd, FnOk P w K mg base CX0 k f fd ps (spD K sp) ∧ Binds K fd ps [] ∧ PySem.W.keepIn K (.ref f) = true
theorem Good.mono {P : Program} {w : World} {K : PySem.W.Frag} {mg : Str → Option Value} {base : Heap} {j k : Nat} {f : Addr} {ps : List Str} {sp : Spc} (g : Good P w K mg base j f ps sp) (h : j ≤ k) : Good P w K mg base k f ps sp := by
  obtain ⟨fd, F, b, kp⟩ := g
  exact ⟨fd, F.mono h, b, kp⟩
section
variable {X : Cx} {B : Bs} {ex o a b : Expr} {es : List Expr} {te tv ta' tb' : DE} {ta : DA} {C : Addr} {f m x : Str} {pos apos p : Pos} {k : Nat} {fn pp : Addr} {ps : List Str} {sp : Spc}
theorem de_callG (G : Good X.prog X.w X.K X.mg X.base k fn ps sp) (hr : Room k X.A) (hm : X.mg x = some (.ref fn)) (ha : PA X (ex :: es) (lA X.K B ta)) (hg : Gl X x := by rfl) (hdb : (x == ("__debug__" : Str)) = false := by decide)
    (he : starEach (ex :: es) X.env = (false, eval ex X.env) :: starEach es X.env := by rfl) (hpl : (backTo pos (starEach es X.env)).any (·.1) = false := by rfl) : PE X (.Call (.Name x p) (ex :: es) [] pos) (lE X.K B (eCall sp ta)) := by
  obtain ⟨fd, F, b, kp⟩ := G
  exact de_call F hr hg hm kp b ha hdb he hpl
theorem de_propG (G : Good X.prog X.w X.K X.mg X.base k fn ps sp) (hr : Room (k + 1) X.A) (c : Cls X.K C) (hp : PropOf X.K C f pp fn) (he : PE X ex (lE X.K B te)) (hab : attributeBase ex f X.env (eval ex X.env) = eval ex X.env := by rfl) :
    PE X (.Attribute ex f pos) (lE X.K B (eProp C sp te)) := by
  obtain ⟨fd, F, b, kp⟩ := G
  exact de_prop c hp F hr b he hab
theorem de_methG {pl : Sem Bool} (G : Good X.prog X.w X.K X.mg X.base k fn ps sp) (hr : Room k X.A) (c : Cls X.K C) (hm : Meth X.K C m fn) (ho : PE X o (lE X.K B te)) (ha : PA X (ex :: es) (lA X.K B ta))
    (hst : starEach (ex :: es) X.env = (false, eval ex X.env) :: starEach es X.env := by rfl) (hpl : (backTo pos (starEach es X.env)).any (·.1) = false := by rfl)
    (ht : eval (.Call (.Attribute o m apos) (ex :: es) [] pos) X.env = (do
      let ov ← eval o X.env
      standAt apos.atName
      let (f, first) ← holding [ov] (getMethod ov m pl)
      callWith pos f first (backTo pos (starEach (ex :: es) X.env)) (backToKw pos (keywordEach [] X.env))) := by rfl) :
    PE X (.Call (.Attribute o m apos) (ex :: es) [] pos) (lE X.K B (eMeth C m sp te ta)) := by
  obtain ⟨fd, F, b, kp⟩ := G
  exact de_meth (pl := pl) c hm F hr b ho ha hst hpl ht
theorem de_methG0 {pl : Sem Bool} (G : Good X.prog X.w X.K X.mg X.base k fn ps sp) (hr : Room k X.A) (c : Cls X.K C) (hm : Meth X.K C m fn) (ho : PE X o (lE X.K B te))
    (ht : eval (.Call (.Attribute o m apos) [] [] pos) X.env = (do
      let ov ← eval o X.env
      standAt apos.atName
      let (f, first) ← holding [ov] (getMethod ov m pl)
      callWith pos f first (backTo pos (starEach [] X.env)) (backToKw pos (keywordEach [] X.env))) := by rfl) :
    PE X (.Call (.Attribute o m apos) [] [] pos) (lE X.K B (eMeth C m sp te aNil)) := by
  obtain ⟨fd, F, b, kp⟩ := G
  exact de_meth0 (pl := pl) c hm F hr b ho ht
theorem de_makeG (G : Good X.prog X.w X.K X.mg X.base k fn ps sp) (hr : Room (k + 1) X.A) (M : Mk X.K C fn) (hm : X.mg x = some (.ref C)) (ha : PA X (ex :: es) (lA X.K B ta)) (hg : Gl X x := by rfl) (hdb : (x == ("__debug__" : Str)) = false := by decide)
    (he : starEach (ex :: es) X.env = (false, eval ex X.env) :: starEach es X.env := by rfl) (hpl : (backTo pos (starEach es X.env)).any (·.1) = false := by rfl) : PE X (.Call (.Name x p) (ex :: es) [] pos) (lE X.K B (eMake C sp ta)) := by
  obtain ⟨fd, F, b, kp⟩ := G
  exact de_make M F hr hg hm b ha hdb he hpl
end

/-! ### own special methods -/
/-- the class at C has the special method m, the def at f -/
structure Sm (K : PySem.W.Frag) (C : Addr) (m : Str) (f : Addr) : Prop where
  at_ : PySem.W.findIn K (.ref C) m = some (some (.ref f))
  fn : PySem.W.isFn K (.ref f) = true
theorem Inv.inst {X : Cx} {pins : List (Addr × Obj)} {σ : L2.St} {H : Hp} {s : Shared} {a C dx : Addr} {fs : List (Str × V)} (I : Inv X pins σ H s) (e : H a = some (.ins C dx fs)) : ∃ od, PySem.W.InstAt s.heap a (PySem.W.instObj C dx) C (some od) := by
  obtain ⟨mA, O, _, _, _, _⟩ := ins_get I.hok e
  obtain ⟨od, J, _⟩ := O.look
  exact ⟨od, J⟩
/-- the callee at any nearness -/
theorem run_in {X : Cx} {pins : List (Addr × Obj)} {σ : L2.St} {H : Hp} {s : Shared} {A : Around} {k : Nat} {fn : Addr} {fd : FuncData} {ps : List Str} {sp : Sp} {Q : VK} {us : List Value} {vs : List V} (F : FnOk X.prog X.w X.K X.mg X.base CX0 k fn fd ps sp) (hb : Binds X.K fd ps []) (hr : Room k A)
    (e0 : Env0 X.prog X.w X.K X.mg X.base A X.stack s H) (I : Inv X pins σ H s) (r : Vals vs us) (h : sp vs H Q E0) {E : Value → Shared → Prop} : wpAny (model X.prog X.w) A (call (.ref fn) us) (EP X pins σ Q) E s := by
  have hl : (us ++ []).length = ps.length := by rw [List.append_nil, ← r.length]; exact F.len _ _ _ _ h
  have hbt := hb s us I.kIn hl
  rw [List.append_nil] at hbt
  refine wpAny_call (codeAny_mono (F.run A X.stack s H ⟨us, []⟩ us vs Q E0 hr e0 hbt r h) fun r s' hq => ?_)
  cases r with
  | error e => exact False.elim hq
  | ok fl =>
    cases fl with
    | ret u => exact I.after hq
    | next => exact False.elim hq
    | brk => exact False.elim hq
    | cont => exact False.elim hq
/-- two values, a promise -/
def rOwn1 (K : PySem.W.Frag) (C : Addr) (sp : Spc) (T : V → Prop) : V → Hp → VK → Prop := fun x H Q => ∃ a dx gs, x = .ref a ∧ H a = some (.ins C dx gs) ∧ spD K sp [.ref a] H (fun v H' => T v ∧ Q v H') E0
def rOwn2 (K : PySem.W.Frag) (C : Addr) (sp : Spc) (T : V → Prop) : R2 := fun x y H Q => ∃ a dx gs, x = .ref a ∧ H a = some (.ins C dx gs) ∧ spD K sp [.ref a, y] H (fun v H' => T v ∧ Q v H') E0
section
variable {X : Cx} {B : Bs} {C fn : Addr} {k : Nat} {ps : List Str} {sp : Spc} {K : PySem.W.Frag}
theorem call_lenO (G : Good X.prog X.w X.K X.mg X.base k fn ps sp) (hr : Room (k + 1) X.A) (sm : Sm X.K C "__len__" fn) : CallR X (.builtin "len") (fun xs H Q => ∃ x, xs = [x] ∧ rOwn1 X.K C sp (fun v => ∃ n : Int, v = .int n ∧ 0 ≤ n ∧ n < 2 ^ 63) x H Q) := by
  intro pins s σ H xs us Q I r h
  obtain ⟨x, rfl, a, dx, gs, rfl, ha, h⟩ := h
  obtain ⟨fd, F, b, kp⟩ := G
  obtain ⟨u, rfl, ru⟩ := vals1 r
  cases (show u = Value.ref a from ru)
  obtain ⟨od, J⟩ := Inv.inst I ha
  obtain ⟨m, hF⟩ := I.fr
  refine PySem.W.len_K hF I.ok.mod.kin J sm.at_ sm.fn (wpAny_mono (run_in (us := [.ref a]) (vs := [V.ref a]) F b hr.in1 I.env0.in1 I (.cons rfl .nil) h) (fun v s' z => ?_) fun _ _ z => z)
  obtain ⟨v', H', I', rv, ⟨n, rfl, h0, h1⟩, q⟩ := z
  obtain ⟨t, rfl⟩ := rv
  exact ⟨⟨h0, h1⟩, .int n, H', I'.tok _, ⟨_, rfl⟩, q⟩
/-- what an own special method asks, by data -/
def qOwn1 (C : Addr) (sp : Spc) (T : D → Prop) : D → DE := fun d e P => (∃ ns xs, insD e.cs d = some (C, ns, xs)) ∧ sp [d] e.cs fun r cs' => T r ∧ P r { e with cs := cs' }
def qOwn2 (C : Addr) (sp : Spc) (T : D → Prop) : D → D → DE := fun d y e P => (∃ ns xs, insD e.cs d = some (C, ns, xs)) ∧ sp [d, y] e.cs fun r cs' => T r ∧ P r { e with cs := cs' }
theorem own1_ok {T : V → Prop} {T' : D → Prop} (hT : ∀ W v d, R K W v d → T' d → T v) {W : Wd} {H : Hp} {σ : L2.St} {e : En} {x : V} {d : D} {P : D → En → Prop} {Q : VK} (S : Sd K W H σ e) (r : R K W x d) (t : qOwn1 C sp T' d e P)
    (kk : ∀ d e' W' H' v, P d e' → W.le W' → Sd K W' H' σ e' → R K W' v d → Q v H') : rOwn1 K C sp T x H Q := by
  obtain ⟨⟨ns, xs, hi⟩, h⟩ := t
  obtain ⟨a, dx, gs, rfl, h1, h2, h3⟩ := S.ok.ins r hi
  exact ⟨a, dx, gs, rfl, h1, W, e.cs, [d], _, S.ok, .cons r .nil, h, fun d cs' W' H' v ⟨t, p⟩ l ok r' => ⟨hT _ _ _ r' t, kk _ _ _ _ _ p l ⟨ok, S.sl.mono l⟩ r'⟩⟩
theorem own2_ok {T : V → Prop} {T' : D → Prop} (hT : ∀ W v d, R K W v d → T' d → T v) {W : Wd} {H : Hp} {σ : L2.St} {e : En} {x y : V} {d d2 : D} {P : D → En → Prop} {Q : VK} (S : Sd K W H σ e) (r : R K W x d) (r2 : R K W y d2) (t : qOwn2 C sp T' d d2 e P)
    (kk : ∀ d e' W' H' v, P d e' → W.le W' → Sd K W' H' σ e' → R K W' v d → Q v H') : rOwn2 K C sp T x y H Q := by
  obtain ⟨⟨ns, xs, hi⟩, h⟩ := t
  obtain ⟨a, dx, gs, rfl, h1, h2, h3⟩ := S.ok.ins r hi
  exact ⟨a, dx, gs, rfl, h1, W, e.cs, [d, d2], _, S.ok, .cons r (.cons r2 .nil), h, fun d cs' W' H' v ⟨t, p⟩ l ok r' => ⟨hT _ _ _ r' t, kk _ _ _ _ _ p l ⟨ok, S.sl.mono l⟩ r'⟩⟩
def lenT (d : D) : Prop := ∃ n : Int, d = .int n ∧ 0 ≤ n ∧ n < 2 ^ 63
def qLenO (C : Addr) (sp : Spc) : List D → DE
  | [d] => qOwn1 C sp lenT d
  | _ => fun _ _ => False
theorem cd_lenO : CallD K (fun xs H Q => ∃ x, xs = [x] ∧ rOwn1 K C sp (fun v => ∃ n : Int, v = .int n ∧ 0 ≤ n ∧ n < 2 ^ 63) x H Q) (qLenO C sp) := by
  intro W H σ e vs ds P Q S r t k
  unfold qLenO at t
  split at t
  · obtain ⟨v, rfl, r1⟩ := r.one
    exact ⟨v, rfl, own1_ok (fun W v d r ⟨n, e, h⟩ => ⟨n, by subst e; exact r.int_inv, h⟩) S r1 t k⟩
  · exact t.elim
variable {a b : Expr} {ta tb : DE} {pos : Pos}
theorem od_own2 {K : PySem.W.Frag} {T : V → Prop} {T' : D → Prop} (hT : ∀ W v d, R K W v d → T' d → T v) : OpD K (rOwn2 K C sp T) (qOwn2 C sp T') := fun W H σ e x y d1 d2 P Q S r1 r2 t k => own2_ok hT S r1 r2 t k
/-- o[i] -/
theorem pe_ixO {ta tb : TE} {T : V → Prop} (G : Good X.prog X.w X.K X.mg X.base k fn ps sp) (hr : Room (k + 1) X.A) (sm : Sm X.K C "__getitem__" fn) (hf : PySem.W.fnIn X.K fn = true) (ha : PE X a ta) (hb : PE X b tb)
    (hsl : ∀ x i, subscripted b true (.ref x) i = runValue (.builtin "lifetime.subscript" ⟨[.ref x, i], []⟩)) : PE X (.Subscript a b pos) (tOp (rOwn2 X.K C sp T) ta tb) := by
  refine ⟨fun pins s σ H Q I h => ?_⟩
  obtain ⟨fd, F, bi, kp⟩ := G
  refine Subscript_ (binT ha hb I h fun v u s2 x y H2 I2 rx ry q => ?_)
  obtain ⟨a', dx, gs, rfl, h1, h⟩ := q
  cases (show v = Value.ref a' from rx)
  obtain ⟨od, J⟩ := Inv.inst I2 h1
  obtain ⟨m, hF⟩ := I2.fr
  refine PySem.W.sub_K hF I2.ok.mod.kin J sm.at_ hf sm.fn (wpAny_mono (run_in (us := [.ref a', u]) (vs := [V.ref a', y]) F bi hr.in1 I2.env0.in1 I2 (.cons rfl (.cons ry .nil)) h) (fun v s' z => ?_) fun _ _ z => z) (hsl _ _)
  obtain ⟨v', H', I', rv, _, q⟩ := z
  exact ⟨v', H', I', rv, q⟩
theorem de_ixO (G : Good X.prog X.w X.K X.mg X.base k fn ps sp) (hr : Room (k + 1) X.A) (sm : Sm X.K C "__getitem__" fn) (hf : PySem.W.fnIn X.K fn = true) (ha : PE X a (lE X.K B ta)) (hb : PE X b (lE X.K B tb))
    (hsl : ∀ x i, subscripted b true (.ref x) i = runValue (.builtin "lifetime.subscript" ⟨[.ref x, i], []⟩) := by intros; with_unfolding_all rfl) : PE X (.Subscript a b pos) (lE X.K B (eBin (qOwn2 C sp fun _ => True) ta tb)) :=
  PE.imp (pe_ixO (T := fun _ => True) G hr sm hf ha hb hsl) (bin_ok (od_own2 fun _ _ _ _ _ => trivial))
theorem RelV.cmp {P : Value → Shared → Prop} {z : V} {v : Value} {s' : Shared} (r : RelV z v) (h : P v s') : PySem.W.CmpBack P v s' := by
  cases z with
  | non => cases (show v = Value.none from r); exact h
  | bl b => cases (show v = Value.bool b from r); exact h
  | int i =>
    obtain ⟨t, e⟩ := (show ∃ t, v = Value.int i t from r)
    cases e
    exact h
  | str x =>
    obtain ⟨t, e⟩ := (show ∃ t, v = Value.str x t from r)
    cases e
    exact h
  | byt b =>
    obtain ⟨t, e⟩ := (show ∃ t, v = Value.bytes b t from r)
    cases e
    exact h
  | flt b =>
    obtain ⟨t, e⟩ := (show ∃ t, v = Value.float b t from r)
    cases e
    exact h
  | ref a => cases (show v = Value.ref a from r); exact h
  | ty n => cases (show v = Value.type n from r); exact h
end
end DL
namespace DL
open PySem PySem.Spec PyProof.Rows L2
open Evl (Ex)

/-! ### a list or a tuple walked -/
section
variable {X : Cx} {B : Bs} {tg l ex : Expr} {te : DE}
def iAny (K : PySem.W.Frag) (tl : TE) : TI := fun σ H R => tl σ H fun x H1 => (∃ a, x = .ref a ∧ (∃ xs, SqL K H1 a xs) ∧ R (Itl K a) H1) ∨ ∃ a, x = .ref a ∧ (∃ xs, SqT K H1 a xs) ∧ R (Itt K a) H1
theorem pi_any {tl : TE} (hl : PE X l tl) : PI X tg l (iAny X.K tl) := by
  refine ⟨fun pins s σ H R I h => ?_⟩
  refine thn (hl.run pins s σ H _ I h) fun v s1 ⟨x, H1, I1, r1, q1⟩ => ?_
  rcases q1 with ⟨a, e, ⟨xs, hq⟩, q⟩ | ⟨a, e, ⟨xs, hq⟩, q⟩
  · subst e
    cases r1
    obtain ⟨its, rv, p, hz⟩ := I1.list hq
    refine wpAny_pyIter_list p.isList ?_
    refine ⟨s1.heap.objs.size, [s1.heap.objs.size], _, _, H1, rfl, I1.kept (t' := s1.toks) fun b o e => Heap.get?_push_of_some _ e, turn_list a _, ⟨_, Heap.get?_push_size _ rfl, rfl, rfl⟩, fun b hb => ?_, q⟩
    have e : b = s1.heap.objs.size := by simpa using hb
    subst e
    exact I1.fpOk (Nat.le_refl _) (I1.hok.fresh (Nat.le_refl _))
  · subst e
    cases r1
    obtain ⟨its, rv, p, hz⟩ := I1.tuple hq
    refine wpAny_pyIter_tuple (show s1.heap.IsTuple a its.toArray from p) ?_
    refine ⟨s1.heap.objs.size, [s1.heap.objs.size], _, _, H1, rfl, I1.kept (t' := s1.toks) fun b o e => Heap.get?_push_of_some _ e, turn_tuple a _, ⟨_, Heap.get?_push_size _ rfl, rfl, rfl⟩, fun b hb => ?_, q⟩
    have e : b = s1.heap.objs.size := by simpa using hb
    subst e
    exact I1.fpOk (Nat.le_refl _) (I1.hok.fresh (Nat.le_refl _))
/-- a list that changes no more, or a tuple -/
def fixS : D → Option (List D)
  | .lst xs => some xs
  | .fro xs => some xs
  | .tup xs => some xs
  | _ => none
/-- what is walked, and how -/
def itS (d : D) (e : En) (P : List D → (List Cel → Prop) → En → Prop) : Prop :=
  (∃ xs, fixS d = some xs ∧ P xs anyC e) ∨ ∃ n xs, d = .cell n ∧ e.cs[n]? = some (.lst xs) ∧ P xs (fun cs => cs[n]? = some (.lst xs)) e
def iS (t : DE) : DI := fun e P => t e fun d e1 => itS d e1 P
theorem di_any (h : PE X ex (lE X.K B te)) : PI X tg ex (lI X.K B (iS te)) := PI.imp (pi_any h) fun σ H Q ⟨W, e, P, bl, S, t, k⟩ => by
  refine ⟨W, e, _, bl, S, t, fun d e1 W1 H1 v hp l S1 r => ?_⟩
  rcases hp with ⟨xs, hx, p⟩ | ⟨n, xs, rfl, hc, p⟩
  · cases r <;> simp only [fixS] at hx <;> cases hx
    · exact .inr ⟨_, rfl, ⟨_, Evl.ex_t S1.ok.ex (by assumption)⟩, k _ _ _ _ _ _ p l S1 (wk_tup (by assumption) (by assumption))⟩
    · exact .inl ⟨_, rfl, ⟨_, SqL.of (S1.ok.ex _ _ (by assumption))⟩, k _ _ _ _ _ _ p l S1 (wk_list (SqL.of (by assumption)) (by assumption))⟩
    · exact .inl ⟨_, rfl, ⟨_, Evl.ex_l S1.ok.ex (by assumption)⟩, k _ _ _ _ _ _ p l S1 (wk_list (by assumption) (by assumption))⟩
  · cases r with
    | cell hm =>
      obtain ⟨vs, h1, _⟩ := S1.ok.cellL hm hc
      exact .inl ⟨_, rfl, ⟨_, SqL.of h1⟩, k _ _ _ _ _ _ p l S1 (wk_cell hm)⟩
theorem v_iS {t : DE} {e : En} {P : List D → (List Cel → Prop) → En → Prop} (h : t e fun d e1 => itS d e1 P) : iS t e P := h
theorem v_itF {d : D} {e : En} {P : List D → (List Cel → Prop) → En → Prop} (h : ∃ xs, fixS d = some xs ∧ P xs anyC e) : itS d e P := .inl h
theorem v_itC {n : Nat} {e : En} {P : List D → (List Cel → Prop) → En → Prop} (h : ∃ xs, e.cs[n]? = some (.lst xs) ∧ P xs (fun cs => cs[n]? = some (.lst xs)) e) : itS (.cell n) e P := let ⟨xs, h1, h2⟩ := h; .inr ⟨n, xs, rfl, h1, h2⟩
theorem v_iR1 {t : DA} {e : En} {P : List D → (List Cel → Prop) → En → Prop} (h : t e fun ds e1 => ∃ j, ds = [.int j] ∧ -(2 ^ 62) ≤ j ∧ j < 2 ^ 62 ∧ P (intsD 0 j.toNat) anyC e1) : iR1 t e P := h
theorem v_iR2 {t : DA} {e : En} {P : List D → (List Cel → Prop) → En → Prop} (h : t e fun ds e1 => ∃ i j, ds = [.int i, .int j] ∧ (-(2 ^ 62) ≤ i ∧ i < 2 ^ 62 ∧ -(2 ^ 62) ≤ j ∧ j < 2 ^ 62) ∧ P (intsD i (j - i).toNat) anyC e1) : iR2 t e P := h
end

theorem prop_ok {K : PySem.W.Frag} {c f : Str} (h : (Fx.prop c f).ok K = true) : PropOf K (He.ga K c) f (He.ma K (He.ga K c) f) (pga K (He.ga K c) f) := by
  obtain ⟨h1, h2⟩ := He.ba h
  obtain ⟨h3, h4⟩ := He.ba h2
  obtain ⟨h5, h6⟩ := He.ba h4
  refine ⟨He.eqO_ok h1, He.eqO_ok h3, of_decide_eq_true h5, ?_⟩
  split at h6
  · rename_i g rest e
    exact ⟨rest, by rw [e, ← of_decide_eq_true h6]⟩
  · cases h6
theorem sm_ok {K : PySem.W.Frag} {c m : Str} (h : (Fx.sm c m).ok K = true) : Sm K (He.ga K c) m (He.ma K (He.ga K c) m) := by
  obtain ⟨h1, h2⟩ := He.ba h
  exact ⟨He.eqO_ok h1, h2⟩
theorem insc_ok {K : PySem.W.Frag} {c : Str} (h : (Fx.insc c).ok K = true) : C8.InsC K (He.ga K c) := by
  obtain ⟨h1, h2⟩ := He.ba h
  obtain ⟨h3, h4⟩ := He.ba h2
  obtain ⟨h5, h6⟩ := He.ba h4
  obtain ⟨h7, h8⟩ := He.ba h6
  exact ⟨He.cls_ok h1, He.eqO_ok h3, He.eqO_ok h5, of_decide_eq_true h7, of_decide_eq_true h8, by unfold PySem.W.kitOne; simp⟩
theorem kto_ok {K : PySem.W.Frag} {c : Str} (h : (Fx.kto c).ok K = true) : ∀ a ∈ tysB, PySem.W.kitOne K (.type a) (.ref (He.ga K c)) = some false := fun a m => of_decide_eq_true (List.all_eq_true.mp h a m)
theorem nosl_ok {K : PySem.W.Frag} {c : Str} {nm : String} (h : (Fx.nosl c nm).ok K = true) : NoSl K (He.ga K c) nm := by
  obtain ⟨h1, h2⟩ := He.ba h
  obtain ⟨h3, h4⟩ := He.ba h2
  obtain ⟨h5, h6⟩ := He.ba h4
  obtain ⟨h7, h8⟩ := He.ba h6
  refine ⟨?_, He.eqO_ok h3, He.eqO_ok h5, He.eqO_ok h7, He.eqO_ok h8⟩
  split at h1
  · rename_i cd e
    exact ⟨cd, e, of_decide_eq_true h1⟩
  · cases h1
theorem oexO_ok {C : Addr} {o : Obj} (h : oexO C o = true) : ∃ nm q N bs bm sn sub ab col dd k0 k1 k2 k3 k5, o = excClassObj nm q C N bs bm true sn sub ab col dd k0 k1 k2 k3 k5 "ValueError.__new__" ∧ PySem.HandSPX.refsVE bm = true := by
  obtain ⟨oc, od, dt, sl⟩ := o
  obtain ⟨h1, h0⟩ := Bool.and_eq_true_iff.mp (show (decide (oc = .type "type") && _) = true from h)
  have h1 : oc = .type "type" := of_decide_eq_true h1
  subst h1
  clear h
  split at h0
  · rename_i cd e
    have e : dt = .cls cd := e
    subst e
    have h2 := (Bool.and_eq_true_iff.mp h0).1
    replace h0 := (Bool.and_eq_true_iff.mp h0).2
    have h3 := (Bool.and_eq_true_iff.mp h0).1
    replace h0 := (Bool.and_eq_true_iff.mp h0).2
    obtain ⟨nm, bs, mro, ns, qn, hd, sn, sub, ab, col, del⟩ := cd
    dsimp only at h2 h3 h0
    split at h0
    · rename_i C' bm
      have h4 := (Bool.and_eq_true_iff.mp h0).1
      replace h0 := (Bool.and_eq_true_iff.mp h0).2
      have h5 := (Bool.and_eq_true_iff.mp h0).1
      replace h0 := (Bool.and_eq_true_iff.mp h0).2
      have h4 := of_decide_eq_true h4
      split at h0
      · rename_i k0 k1 k2 k3 n k5 hs
        have hn := of_decide_eq_true h0
        have hsl : sl = #[k0, k1, k2, k3, some (.builtin n), k5] := by
          obtain ⟨l⟩ := sl
          exact congrArg Array.mk hs
        have hdel : del = false := by simpa using h2
        subst h4 hn hsl hdel h3
        exact ⟨nm, qn, ns, bs, bm, sn, sub, ab, col, od, k0, k1, k2, k3, k5, rfl, h5⟩
      · exact absurd h0 Bool.false_ne_true
    · exact absurd h0 Bool.false_ne_true
  · exact absurd h0 Bool.false_ne_true
theorem oex_ok {K : PySem.W.Frag} {c : Str} (h : (Fx.oex c).ok K = true) : OexC K (He.ga K c) := by
  obtain ⟨h1, h⟩ := He.ba h
  obtain ⟨h2, h⟩ := He.ba h
  obtain ⟨h3, h⟩ := He.ba h
  obtain ⟨h4, h5⟩ := He.ba h
  refine ⟨?_, He.eqO_ok h2, of_decide_eq_true h3, of_decide_eq_true h4, h5⟩
  unfold oexB at h1
  split at h1
  · rename_i o e
    obtain ⟨nm, q, N, bs, bm, sn, sub, ab, col, dd, k0, k1, k2, k3, k5, e2, e3⟩ := oexO_ok h1
    subst e2
    exact ⟨nm, q, N, bs, bm, sn, sub, ab, col, dd, k0, k1, k2, k3, k5, e, e3⟩
  · cases h1
theorem noix_ok {K : PySem.W.Frag} {c : Str} (h : (Fx.noix c).ok K = true) : PySem.W.findIn K (.ref (He.ga K c)) "index" = some none := He.eqO_ok h
/-- a def of no defaults -/
theorem good_of {P : Program} {w : World} {K : PySem.W.Frag} {mg : Str → Option Value} {base : Heap} {x qual : Str} {params : Arguments} {body : List Stmt} {scope : Scope} {f : Addr} {N ps : List Str} {k : Nat} {sp : Spc} {t : DS}
    (F : ∃ fd, FunD K x qual params body scope [] [] f fd) (S : FnScope N ps scope) (len : ∀ ds cs Q, sp ds cs Q → ds.length = ps.length)
    (bi : ∀ (kV doc pm : Value) (an : Option Addr) (cdv ct : Value) (us : List Value), us.length = ps.length → bindArgs (PySem.W.fnOf x qual params body scope .none kV doc pm an cdv ct) ⟨us, []⟩ = pure (ps.zip us))
    (der : ∀ (cdv : Value) (A : Around) (outer : List Env) (s : Shared) (H : Hp) (E : XK) (B : Bs), Room k (A.deeper (envOfC qual scope s.heap.objs.size f cdv)) → PSs (cx0 P w K mg base N qual scope f cdv A outer s H E) body (lS K B t))
    (vc : ∀ ds cs Q, (∀ d ∈ ds, loD cs.length d = true) → (∀ c ∈ cs, c.loD cs.length = true) → sp ds cs Q → t (Po.fn cs Q) ⟨startD N ds, cs⟩) : Good P w K mg base (k + 1) f ps sp := by
  obtain ⟨fd, F⟩ := F
  exact ⟨fd, fn_d F S len der vc, F.bindsN bi, F.kp⟩
/-- what a law asks: the script, at most 63 ints; True -/
def spLaw : Spc := fun ds cs P => ∃ ns : List Int, ds = [.fro (ns.map .int)] ∧ ns.length ≤ 63 ∧ cs = [] ∧ ∀ cs', P (.bl true) cs'
theorem law_says {K : PySem.W.Frag} (H : Hp) (a : Addr) (ns : List Int) (hl : ns.length ≤ 63) (hS : SqL K H a (ns.map V.int)) : spD K spLaw [.ref a] H (fun v _ => v = .bl true) fun _ _ _ => False :=
  ⟨⟨H, [], []⟩, [], [.fro (ns.map .int)], fun d _ => d = .bl true, ⟨Ex.refl _, rfl, List.nodup_nil, fun _ h => (by cases h), fun n a c h => (by simp at h), fun n a c h => (by simp at h), fun _ h => (by cases h), List.nodup_nil⟩, .cons (.fro hS (RAll.ints ns)) .nil,
    ⟨ns, rfl, hl, rfl, fun _ => rfl⟩, fun d cs' W' H' v e _ _ r => by subst e; exact r.bl_inv⟩
theorem bt_len : bootBuiltins "len" = some (.builtin "len") := boot_len
theorem bt_all : bootBuiltins "all" = some (.builtin "all") := by decide +kernel
theorem bt_sum : bootBuiltins "sum" = some (.builtin "sum") := by decide +kernel
theorem bt_isinstance : bootBuiltins "isinstance" = some (.builtin "isinstance") := by decide +kernel
theorem bt_int : bootBuiltins "int" = some (.type "int") := by decide +kernel
theorem bt_bool : bootBuiltins "bool" = some (.type "bool") := by decide +kernel
theorem bt_tuple : bootBuiltins "tuple" = some (.type "tuple") := by decide +kernel
theorem bt_list : bootBuiltins "list" = some (.type "list") := by decide +kernel
theorem bt_str : bootBuiltins "str" = some (.type "str") := by decide +kernel
end DL
namespace DL
open PySem PySem.Spec PyProof.Rows L2
open Evl (Ex)

/-! ### data that stands for values of Lean -/
structure EqE {α : Type} [DecidableEq α] (enc : α → D) (n : Nat) : Prop where
  ok : ∀ a, okD (enc a) = true
  lay : ∀ a, (toP (enc a)).canLay0 = true
  dep : ∀ a, (toP (enc a)).depth ≤ n
  eqv : ∀ a b, PyData.eqv (toP (enc a)) (toP (enc b)) = decide (a = b)
section
variable {α : Type} [DecidableEq α] {enc : α → D} {n : Nat}
theorem EqE.shp (h : EqE enc n) (hn : n ≤ 64) (a : α) : shp (enc a) = true := by
  unfold DL.shp SeqAt.shaped
  rw [h.ok a, h.lay a, decide_eq_true (Nat.le_trans (h.dep a) hn)] <;> rfl
theorem EqE.oks (h : EqE enc n) : ∀ xs : List α, okDs (xs.map enc) = true
  | [] => rfl
  | x :: xs => by
    show (okD (enc x) && okDs (xs.map enc)) = true
    rw [h.ok x, h.oks xs] <;> rfl
theorem EqE.lays (h : EqE enc n) : ∀ xs : List α, PyData.canLayAll0 (toPs (xs.map enc)) = true
  | [] => rfl
  | x :: xs => by
    show ((toP (enc x)).canLay0 && PyData.canLayAll0 (toPs (xs.map enc))) = true
    rw [h.lay x, h.lays xs] <;> rfl
theorem EqE.deps (h : EqE enc n) : ∀ xs : List α, PyData.depthAll (toPs (xs.map enc)) ≤ n
  | [] => Nat.zero_le _
  | x :: xs => by
    have h1 := h.dep x
    have h2 := h.deps xs
    show PyData.depthAll (toP (enc x) :: toPs (xs.map enc)) ≤ n
    simp only [PyData.depthAll]
    omega
theorem EqE.eqvs (h : EqE enc n) : ∀ xs ys : List α, PyData.eqvAll (toPs (xs.map enc)) (toPs (ys.map enc)) = decide (xs = ys)
  | [], [] => rfl
  | [], y :: ys => rfl
  | x :: xs, [] => rfl
  | x :: xs, y :: ys => by
    show (PyData.eqv (toP (enc x)) (toP (enc y)) && PyData.eqvAll (toPs (xs.map enc)) (toPs (ys.map enc))) = decide (x :: xs = y :: ys)
    rw [h.eqv x y, h.eqvs xs ys]
    simp
theorem EqE.tup (h : EqE enc n) : EqE (fun xs : List α => D.tup (xs.map enc)) (n + 1) where
  ok := h.oks
  lay := fun xs => by
    show (PyData.tuple (toPs (xs.map enc))).canLay0 = true
    simp only [PyData.canLay0]
    exact h.lays xs
  dep := fun xs => by
    show (PyData.tuple (toPs (xs.map enc))).depth ≤ n + 1
    have := h.deps xs
    simp only [PyData.depth]
    omega
  eqv := fun xs ys => by
    show PyData.eqv (.tuple (toPs (xs.map enc))) (.tuple (toPs (ys.map enc))) = _
    simp only [PyData.eqv]
    exact h.eqvs xs ys
theorem EqE.lst (h : EqE enc n) : EqE (fun xs : List α => D.lst (xs.map enc)) (n + 1) where
  ok := h.oks
  lay := fun xs => by
    show (PyData.list (toPs (xs.map enc))).canLay0 = true
    simp only [PyData.canLay0]
    exact h.lays xs
  dep := fun xs => by
    show (PyData.list (toPs (xs.map enc))).depth ≤ n + 1
    have := h.deps xs
    simp only [PyData.depth]
    omega
  eqv := fun xs ys => by
    show PyData.eqv (.list (toPs (xs.map enc))) (.list (toPs (ys.map enc))) = _
    simp only [PyData.eqv]
    exact h.eqvs xs ys
end
theorem encI : EqE D.int 0 where
  ok := fun _ => rfl
  lay := fun _ => rfl
  dep := fun _ => by
    show (PyData.int _).depth ≤ 0
    simp [PyData.depth]
  eqv := fun a b => Bool.beq_eq_decide_eq a b
/-- a column of figures -/
def encC (c : List Int) : D := .tup (c.map .int)
theorem encCE : EqE encC 1 := encI.tup
/-- == of two lists or tuples, by Lean's -/
theorem v_eqE {α : Type} [DecidableEq α] {enc : α → D} {n : Nat} (h : EqE enc n) {a b : α} {e : En} {P : D → En → Prop} {x y : D} (hx : drf e.cs x = enc a) (hy : drf e.cs y = enc b) (p : P (.bl (decide (a = b))) e)
    (hn : n ≤ 64 := by decide) (hni : (∀ i, x ≠ .int i) ∨ (∀ i, y ≠ .int i) := by first | exact .inl (fun _ z => nomatch z) | exact .inr (fun _ z => nomatch z)) : qEq x y e P := by
  have q : shp (drf e.cs x) = true ∧ shp (drf e.cs y) = true ∧ P (.bl (PyData.eqv (toP (drf e.cs x)) (toP (drf e.cs y)))) e := by
    rw [hx, hy, h.eqv]
    exact ⟨h.shp hn a, h.shp hn b, p⟩
  unfold qEq
  split
  · rcases hni with z | z
    · exact absurd rfl (z _)
    · exact absurd rfl (z _)
  · exact q
theorem v_neE {α : Type} [DecidableEq α] {enc : α → D} {n : Nat} (h : EqE enc n) {a b : α} {e : En} {P : D → En → Prop} {x y : D} (hx : drf e.cs x = enc a) (hy : drf e.cs y = enc b) (p : P (.bl (!decide (a = b))) e)
    (hn : n ≤ 64 := by decide) (hni : (∀ i, x ≠ .int i) ∨ (∀ i, y ≠ .int i) := by first | exact .inl (fun _ z => nomatch z) | exact .inr (fun _ z => nomatch z)) : qNe x y e P := by
  have q : shp (drf e.cs x) = true ∧ shp (drf e.cs y) = true ∧ P (.bl (!PyData.eqv (toP (drf e.cs x)) (toP (drf e.cs y)))) e := by
    rw [hx, hy, h.eqv]
    exact ⟨h.shp hn a, h.shp hn b, p⟩
  unfold qNe
  split
  · rcases hni with z | z
    · exact absurd rfl (z _)
    · exact absurd rfl (z _)
  · exact q
/-! a list of cells' own data -/
theorem los_map {α : Type} {enc : α → D} {k : Nat} (h : ∀ a, loD k (enc a) = true) : ∀ xs : List α, los k (xs.map enc) = true
  | [] => rfl
  | x :: xs => by
    show (loD k (enc x) && los k (xs.map enc)) = true
    rw [h x, los_map h xs] <;> rfl
theorem los_int {k : Nat} (xs : List Int) : los k (xs.map .int) = true := los_map (fun _ => rfl) xs
theorem lo_encC {k : Nat} (c : List Int) : loD k (encC c) = true := los_int c
theorem los_encC {k : Nat} (cs : List (List Int)) : los k (cs.map encC) = true := los_map lo_encC cs
theorem los_bl {k : Nat} (xs : List Bool) : los k (xs.map .bl) = true := los_map (fun _ => rfl) xs
/-! looking -/
theorem lk_cell {cs : List Cel} {n : Nat} {xs : List D} (h : cs[n]? = some (.lst xs)) : lk cs (.cell n) = some xs := by
  show (match cs[n]? with | some (.lst xs) => some xs | _ => none) = some xs
  rw [h]
theorem drf_cell {cs : List Cel} {n : Nat} {xs : List D} (h : cs[n]? = some (.lst xs)) : drf cs (.cell n) = .lst xs := by
  show (match cs[n]? with | some (.lst xs) => .lst xs | _ => .cell n) = D.lst xs
  rw [h]
theorem atI_map {α : Type} {f : α → D} {xs : List α} {i : Nat} {x : α} (h : xs[i]? = some x) : atI (xs.map f) (i : Int) = some (f x) := atI_nat (by rw [List.getElem?_map, h] <;> rfl)
end DL
namespace DL
open PySem PySem.Spec PyProof.Rows L2
open Evl (Ex)

/-! ### more steps -/
theorem set_get {cs : List Cel} {n : Nat} {c0 c : Cel} (h : cs[n]? = some c0) : (cs.set n c)[n]? = some c := by
  have := (List.getElem?_eq_some_iff.mp h).1
  simp [this]
theorem app_get {cs : List Cel} {c : Cel} : (cs ++ [c])[cs.length]? = some c := by simp
theorem app_get_lt {cs : List Cel} {n : Nat} {c0 c : Cel} (h : cs[n]? = some c0) : (cs ++ [c])[n]? = some c0 := by
  have := (List.getElem?_eq_some_iff.mp h).1
  rw [List.getElem?_append_left this]; exact h
theorem cut63 (xs : List D) : cutD xs none (some 63) = xs.take 63 := by
  unfold cutD
  rw [HT.sIx_none, show (63 : Int) = ((63 : Nat) : Int) from rfl, HT.sIx_nat]
  simp
section
variable {e : En} {P : D → En → Prop} {tg : Tg} {tt : DT} {te : DE} {vs : List Nat} {o : Bool} {it : DI} {a b : Int} {G : List Cel → Prop}
theorem v_lc (h : it e fun ds G e1 => ds.length ≤ sizeLine ∧ ∃ I : Nat → List D → List Cel → Prop, I 0 [] e1.cs ∧
  (∀ i d acc cs, ds[i]? = some d → I i acc cs → G cs ∧ ∃ sl', setTg tg d (wipeD e1.sl vs) = some sl' ∧ tt ⟨sl', cs⟩ fun b e2 => if b = true then te e2 fun y e3 => I (i + 1) (acc ++ [y]) e3.cs else I (i + 1) acc e2.cs) ∧
  ∀ acc cs, acc.length ≤ ds.length → I ds.length acc cs → G cs ∧ newL o acc ⟨e1.sl, cs⟩ P) : eLc o it tg tt te vs e P := h
theorem v_for {Po' : Po} {tb : DS} (h : it e fun ds G e1 => ∃ I : Nat → En → Prop, I 0 e1 ∧
  (∀ i d e2, ds[i]? = some d → I i e2 → G e2.cs ∧ ∃ sl', setTg tg d e2.sl = some sl' ∧ tb (Po'.lp (I (i + 1))) ⟨sl', e2.cs⟩) ∧ ∀ e2, I ds.length e2 → G e2.cs ∧ Po'.nx e2) : sFor it tg tb Po' e := h
theorem v_j1 {PQ : List D → Prop} {n : Nat} (hn : n ≤ 1000) (h : PQ (intsD 0 n)) : ∃ j, [D.int n] = [.int j] ∧ -(2 ^ 62) ≤ j ∧ j < 2 ^ 62 ∧ PQ (intsD 0 j.toNat) :=
  ⟨n, rfl, by omega, by omega, h⟩
theorem v_j1i {PQ : List D → Prop} (h0 : -1000 ≤ a) (h1 : a ≤ 1000) (h : PQ (intsD 0 a.toNat)) : ∃ j, [D.int a] = [.int j] ∧ -(2 ^ 62) ≤ j ∧ j < 2 ^ 62 ∧ PQ (intsD 0 j.toNat) :=
  ⟨a, rfl, by omega, by omega, h⟩
theorem v_j2i {PQ : List D → Prop} (h0 : -1000 ≤ a) (h1 : a ≤ 1000) (h2 : -1000 ≤ b) (h3 : b ≤ 1000) (h : PQ (intsD a (b - a).toNat)) : ∃ i j, [D.int a, D.int b] = [.int i, .int j] ∧ (-(2 ^ 62) ≤ i ∧ i < 2 ^ 62 ∧ -(2 ^ 62) ≤ j ∧ j < 2 ^ 62) ∧ PQ (intsD i (j - i).toNat) :=
  ⟨a, b, rfl, ⟨by omega, by omega, by omega, by omega⟩, h⟩
theorem v_varX {i : Nat} (h : ∃ d, e.sl[i]? = some (some d) ∧ P d e) : eV i e P := h
theorem v_isXT {T : String} {d : D} (h : ∃ c, tyN e.cs d = some c ∧ isTy c T = true ∧ tyKnown T = true ∧ P (.bl true) e) : qIsi [d, .raw (.ty T)] e P := let ⟨_, h1, h2, h3, p⟩ := h; v_isiT h3 h1 h2 p
theorem v_isXF {T : String} {d : D} (h : ∃ c, tyN e.cs d = some c ∧ isTy c T = false ∧ tyKnown T = true ∧ P (.bl false) e) : qIsi [d, .raw (.ty T)] e P := let ⟨_, h1, h2, h3, p⟩ := h; v_isiF h3 h1 h2 p
theorem v_ixTX {xs : List D} (h : ∃ d, atI xs a = some d ∧ P d e) : qIx (.tup xs) (.int a) e P := h
theorem v_ixLX {xs : List D} (h : ∃ d, atI xs a = some d ∧ P d e) : qIx (.lst xs) (.int a) e P := let ⟨_, h1, p⟩ := h; v_ixL h1 p
theorem v_szX {xs : List D} {p : Prop} (h : decide (xs.length ≤ 1000) = true ∧ p) : xs.length ≤ sizeLine ∧ p := v_sz h.1 h.2
theorem v_fdivX (h : FdivOk a b ∧ P (.int (a / b)) e) : qFdiv (.int a) (.int b) e P := h
theorem v_mulX (h : MulOk a b ∧ P (.int (a * b)) e) : qMul (.int a) (.int b) e P := h
theorem v_modX (h : 0 < b ∧ P (.int (a % b)) e) : qMod (.int a) (.int b) e P := h
theorem v_powX (h : CPow a b ∧ P (.int (a ^ b.toNat)) e) : qPow (.int a) (.int b) e P := h
theorem v_j1X {PQ : Int → Prop} (h : (-1000 ≤ a ∧ a ≤ 1000) ∧ PQ a) : ∃ j, [D.int a] = [.int j] ∧ -(2 ^ 62) ≤ j ∧ j < 2 ^ 62 ∧ PQ j := ⟨a, rfl, by omega, by omega, h.2⟩
theorem v_j2X {PQ : Int → Int → Prop} (h : (-1000 ≤ a ∧ a ≤ 1000 ∧ -1000 ≤ b ∧ b ≤ 1000) ∧ PQ a b) : ∃ i j, [D.int a, D.int b] = [.int i, .int j] ∧ (-(2 ^ 62) ≤ i ∧ i < 2 ^ 62 ∧ -(2 ^ 62) ≤ j ∧ j < 2 ^ 62) ∧ PQ i j := ⟨a, b, rfl, ⟨by omega, by omega, by omega, by omega⟩, h.2⟩
theorem v_truB {b : Bool} {PK : Bool → Prop} (h : PK b) : ∃ k', tru e.cs (.bl b) = some k' ∧ PK k' := ⟨b, rfl, h⟩
theorem v_truB' {cs : List Cel} {b : Bool} {PK : Bool → Prop} (h : PK b) : ∃ k', tru cs (.bl b) = some k' ∧ PK k' := ⟨b, rfl, h⟩
theorem v_nT {A B : Prop} (h : B) : if (!true) = true then A else B := iteF h
theorem v_nF {A B : Prop} (h : A) : if (!false) = true then A else B := iteT h
theorem v_fix {d : D} {PQ : List D → Prop} (h : ∃ xs, fixS d = some xs ∧ PQ xs) : ∃ xs, fixS d = some xs ∧ PQ xs := h
theorem v_insX {cs : List Cel} {d : D} {C : Addr} {f : Str} {PQ : D → Prop} (h : ∃ ns xs v, insD cs d = some (C, ns, xs) ∧ getF f ns xs = some v ∧ PQ v) : ∃ ns xs v, insD cs d = some (C, ns, xs) ∧ getF f ns xs = some v ∧ PQ v := h
theorem v_insP {cs : List Cel} {d : D} {C : Addr} {R : Prop} (h : (∃ ns xs, insD cs d = some (C, ns, xs)) ∧ R) : (∃ ns xs, insD cs d = some (C, ns, xs)) ∧ R := h
theorem v_lkX {cs : List Cel} {d : D} {PQ : List D → Prop} (h : ∃ xs, lk cs d = some xs ∧ PQ xs) : ∃ xs, lk cs d = some xs ∧ PQ xs := h
theorem v_fldS {C : Addr} {f : Str} {to tv : DE} {Po' : Po} (h : tv e fun v e1 => to e1 fun o e2 => ∃ n ns xs, o = .cell n ∧ e2.cs[n]? = some (.ins C ns xs) ∧ f ∉ ns ∧ ns.length < 900 ∧ Po'.nx { e2 with cs := e2.cs.set n (.ins C (ns ++ [f]) (xs ++ [v])) }) : sFldD C f to tv Po' e := h
theorem v_lenK {d : D} {xs : List D} (h : lk e.cs d = some xs) (p : P (.int xs.length) e) : qLen [d] e P := by
  cases d <;> first | exact ⟨xs, h, p⟩ | cases h
theorem v_ixK {d y : D} {xs : List D} (h : lk e.cs d = some xs) (h2 : atI xs a = some y) (p : P y e) : qIx d (.int a) e P := by
  cases d <;> first | exact ⟨xs, h, y, h2, p⟩ | cases h
theorem seq_lk {cs : List Cel} {d : D} {xs : List D} (h : lk cs d = some xs) : seqD cs d = some xs := by
  cases d <;> first | exact h | cases h
theorem rep_map (k : Nat) (z : Int) : (List.range k).map (fun _ => D.int z) = (List.replicate k z).map D.int := by
  rw [List.map_replicate, List.map_const', List.length_range]
theorem v_tupK {d : D} {xs : List D} (h : lk e.cs d = some xs) (p : P (.tup xs) e) : qTuple [d] e P := by
  cases d <;> first | exact ⟨xs, h, p⟩ | cases h
theorem v_subX {cs : List Cel} {o i : D} {PQ : Nat → List D → Nat → Prop} (h : ∃ n xs k j, o = .cell n ∧ cs[n]? = some (.lst xs) ∧ i = .int k ∧ ixN xs.length k = some j ∧ PQ n xs j) : ∃ n xs k j, o = .cell n ∧ cs[n]? = some (.lst xs) ∧ i = .int k ∧ ixN xs.length k = some j ∧ PQ n xs j := h
theorem v_fldX {cs : List Cel} {o : D} {C : Addr} {f : Str} {PQ : Nat → List Str → List D → Prop} (h : ∃ n ns xs, o = .cell n ∧ cs[n]? = some (.ins C ns xs) ∧ f ∉ ns ∧ ns.length < 900 ∧ PQ n ns xs) : ∃ n ns xs, o = .cell n ∧ cs[n]? = some (.ins C ns xs) ∧ f ∉ ns ∧ ns.length < 900 ∧ PQ n ns xs := h
theorem lk_cell_iff {cs : List Cel} {n : Nat} {xs : List D} (h : lk cs (.cell n) = some xs) : cs[n]? = some (.lst xs) := by
  have h' : (match cs[n]? with | some (.lst xs) => some xs | _ => none) = some xs := h
  split at h'
  · rename_i e
    cases h'
    exact e
  · cases h'
theorem v_itK {d : D} {xs : List D} {P : List D → (List Cel → Prop) → En → Prop} (h : lk e.cs d = some xs) (p : ∀ G : List Cel → Prop, G e.cs → P xs G e) : itS d e P := by
  cases d with
  | lst ys => cases h; exact .inl ⟨_, rfl, p _ trivial⟩
  | fro ys => cases h; exact .inl ⟨_, rfl, p _ trivial⟩
  | cell n => exact .inr ⟨n, xs, rfl, lk_cell_iff h, p _ (lk_cell_iff h)⟩
  | _ => cases h
theorem lk_set {cs : List Cel} {n : Nat} {c c0 : Cel} {d : D} {xs : List D} (h : lk cs d = some xs) (hn : cs[n]? = some c0) (hc : ∀ ys, c0 ≠ .lst ys) : lk (cs.set n c) d = some xs := by
  cases d with
  | cell m =>
    have hm := lk_cell_iff h
    have hne : n ≠ m := by
      rintro rfl
      rw [hn] at hm
      cases hm
      exact hc _ rfl
    exact lk_cell (by rw [List.getElem?_set_ne hne]; exact hm)
  | _ => exact h
theorem lk_app {cs : List Cel} {c : Cel} {d : D} {xs : List D} (h : lk cs d = some xs) : lk (cs ++ [c]) d = some xs := by
  cases d with
  | cell m => exact lk_cell (app_get_lt (lk_cell_iff h))
  | _ => exact h
theorem ty_lk {cs : List Cel} {d : D} {xs : List D} (h : lk cs d = some xs) (hf : ∀ ys, d ≠ .fro ys) : tyN cs d = some "list" := by
  cases d with
  | cell m =>
    have := lk_cell_iff h
    show (match cs[m]? with | some (.lst _) => some "list" | _ => none) = some "list"
    rw [this]
  | lst ys => rfl
  | fro ys => exact absurd rfl (hf _)
  | _ => cases h
theorem trim_back {cs cs' : List Cel} {Q : D → List Cel → Prop} {d : D} (h : cs'.take cs.length = cs) (hl : loD cs.length d = true) (q : Q d cs) : FinD cs Q d cs' :=
  .inr (.inl ⟨hl, fun c hc => .inl (by rw [h] at hc; exact hc), by rw [h]; exact q⟩)
theorem sz_le {α : Type} {xs : List α} (h : xs.length ≤ 100000) : xs.length ≤ sizeLine := Nat.le_trans h (by decide)
/-- a comprehension that maps, and leaves the cells as they are -/
theorem v_lcT {α : Type} {ds : List D} {e1 : En} (xs : List α) (enc f : α → D) (hd : ds = xs.map enc) (hz : xs.length ≤ 100000)
  (turn : ∀ (Q : D → List Cel → Prop) (i : Nat) (x : α), xs[i]? = some x → Q (f x) e1.cs → ∃ sl', setTg tg (enc x) (wipeD e1.sl vs) = some sl' ∧ tt ⟨sl', e1.cs⟩ fun b e2 => b = true ∧ te e2 fun y e3 => Q y e3.cs) (hm : ∀ e (P P' : Bool → En → Prop), (∀ b e, P b e → P' b e) → tt e P → tt e P')
  (done : newL o (xs.map f) ⟨e1.sl, e1.cs⟩ P) (g : G e1.cs := by first | trivial | assumption) : ds.length ≤ sizeLine ∧ ∃ I : Nat → List D → List Cel → Prop, I 0 [] e1.cs ∧
  (∀ i d acc cs, ds[i]? = some d → I i acc cs → G cs ∧ ∃ sl', setTg tg d (wipeD e1.sl vs) = some sl' ∧ tt ⟨sl', cs⟩ fun b e2 => if b = true then te e2 fun y e3 => I (i + 1) (acc ++ [y]) e3.cs else I (i + 1) acc e2.cs) ∧
  ∀ acc cs, acc.length ≤ ds.length → I ds.length acc cs → G cs ∧ newL o acc ⟨e1.sl, cs⟩ P := by
  subst hd
  refine ⟨sz_le (by simpa using hz), fun i acc cs => acc = (xs.take i).map f ∧ cs = e1.cs, ⟨rfl, rfl⟩, ?_, ?_⟩
  · rintro i d acc cs hi ⟨rfl, rfl⟩
    simp only [List.getElem?_map, Option.map_eq_some_iff] at hi
    obtain ⟨x, hx, rfl⟩ := hi
    obtain ⟨sl', h1, h2⟩ := turn (fun y cs => (xs.take i).map f ++ [y] = (xs.take (i + 1)).map f ∧ cs = e1.cs) i x hx ⟨by rw [List.take_add_one, hx]; simp, rfl⟩
    refine ⟨g, sl', h1, hm _ _ _ ?_ h2⟩
    rintro b e2 ⟨rfl, h3⟩
    exact v_T h3
  · rintro acc cs _ ⟨rfl, rfl⟩
    exact ⟨g, by simpa using done⟩
/-- with no filter -/
theorem v_lcY {α : Type} {ds : List D} {e1 : En} (xs : List α) (enc f : α → D) (hd : ds = xs.map enc) (hz : xs.length ≤ 100000)
  (turn : ∀ (Q : D → List Cel → Prop) (i : Nat) (x : α), xs[i]? = some x → Q (f x) e1.cs → ∃ sl', setTg tg (enc x) (wipeD e1.sl vs) = some sl' ∧ te ⟨sl', e1.cs⟩ fun y e3 => Q y e3.cs)
  (done : newL o (xs.map f) ⟨e1.sl, e1.cs⟩ P) (g : G e1.cs := by first | trivial | assumption) : ds.length ≤ sizeLine ∧ ∃ I : Nat → List D → List Cel → Prop, I 0 [] e1.cs ∧
  (∀ i d acc cs, ds[i]? = some d → I i acc cs → G cs ∧ ∃ sl', setTg tg d (wipeD e1.sl vs) = some sl' ∧ dYes ⟨sl', cs⟩ fun b e2 => if b = true then te e2 fun y e3 => I (i + 1) (acc ++ [y]) e3.cs else I (i + 1) acc e2.cs) ∧
  ∀ acc cs, acc.length ≤ ds.length → I ds.length acc cs → G cs ∧ newL o acc ⟨e1.sl, cs⟩ P :=
  v_lcT xs enc f hd hz (fun Q i x hx q => let ⟨sl', h1, h2⟩ := turn Q i x hx q; ⟨sl', h1, rfl, h2⟩) (fun _ _ _ k h => k _ _ h) done g
/-- a def hands back the list it just made -/
theorem own_back {cs : List Cel} {Q : D → List Cel → Prop} {xs : List D} (h : los cs.length xs = true) (q : fresh xs cs Q) : FinD cs Q (.cell cs.length) (cs ++ [.lst xs]) := by
  have e : (cs ++ [Cel.lst xs]).take cs.length = cs := by simp
  refine .inr (.inr ⟨_, xs, rfl, Nat.le_refl _, app_get, h, ?_, ?_⟩)
  · rw [e]
    exact fun c hc => .inl hc
  · rw [e]
    exact q
theorem own_back2 {cs cs1 : List Cel} {Q : D → List Cel → Prop} {xs : List D} (hl : cs1.length = cs.length) (hc : ∀ c ∈ cs1, c ∈ cs ∨ c.loD cs.length = true) (h : los cs.length xs = true) (q : fresh xs cs1 Q) : FinD cs Q (.cell cs1.length) (cs1 ++ [.lst xs]) := by
  have e : (cs1 ++ [Cel.lst xs]).take cs.length = cs1 := by rw [← hl]; simp
  refine .inr (.inr ⟨_, xs, rfl, by rw [hl]; exact Nat.le_refl _, app_get, h, ?_, ?_⟩)
  · rw [e]
    exact hc
  · rw [e, ← hl]
    exact q
theorem set_lo {cs : List Cel} {n : Nat} {c : Cel} (h : c.loD cs.length = true) : ∀ x ∈ cs.set n c, x ∈ cs ∨ x.loD cs.length = true := fun x hx => by
  rcases List.mem_or_eq_of_mem_set hx with h1 | rfl
  · exact .inl h1
  · exact .inr h
theorem trim_back2 {cs cs' : List Cel} {Q : D → List Cel → Prop} {d : D} (hc : ∀ c ∈ cs'.take cs.length, c ∈ cs ∨ c.loD cs.length = true) (hl : loD cs.length d = true) (q : Q d (cs'.take cs.length)) : FinD cs Q d cs' := .inr (.inl ⟨hl, hc, q⟩)
end
end DL
namespace DL
open PySem PySem.Spec PyProof.Rows L2
open Evl (Ex)

/-! ### a field that is there already -/
def ixF (f : Str) : List Str → Option Nat
  | [] => none
  | n :: ns => if n = f then some 0 else (ixF f ns).map (· + 1)
theorem putF_upd {f : Str} {v : V} : ∀ {gs : List (Str × V)} {i : Nat}, ixF f (gs.map (·.1)) = some i → (putF f v gs).map (·.1) = gs.map (·.1) ∧ (putF f v gs).map (·.2) = (gs.map (·.2)).set i v
  | [], _, h => by cases h
  | (g, w) :: gs, i, h => by
    have h' : (if g = f then some 0 else (ixF f (gs.map (·.1))).map (· + 1)) = some i := h
    have e : putF f v ((g, w) :: gs) = if g = f then (g, v) :: gs else (g, w) :: putF f v gs := rfl
    rw [e]
    by_cases q : g = f
    · rw [if_pos q] at h' ⊢
      cases h'
      exact ⟨rfl, rfl⟩
    · rw [if_neg q] at h' ⊢
      rw [Option.map_eq_some_iff] at h'
      obtain ⟨j, hj, rfl⟩ := h'
      obtain ⟨h1, h2⟩ := putF_upd (v := v) hj
      exact ⟨by rw [List.map_cons, h1]; rfl, by rw [List.map_cons, h2]; rfl⟩
theorem RAll.setAt {K : PySem.W.Frag} {W : Wd} {vs : List V} {ds : List D} {v : V} {d : D} (r : RAll K W vs ds) (r1 : R K W v d) (i : Nat) : RAll K W (vs.set i v) (ds.set i d) := RAll.set r1 i r
/-- a store to a field: what is left to show -/
def updF (C : Addr) (f : Str) (o v : D) (e : En) (P : En → Prop) : Prop := ∃ n ns xs i, o = .cell n ∧ e.cs[n]? = some (.ins C ns xs) ∧ ns.length < 900 ∧ ixF f ns = some i ∧ P { e with cs := e.cs.set n (.ins C ns (xs.set i v)) }
section
variable {K : PySem.W.Frag} {W W0 : Wd} {H : Hp} {σ : L2.St} {e : En} {C : Addr} {f : Str} {o d : D} {P : En → Prop} {w v : V}
theorem updF_ok (S : Sd K W H σ e) (ro : R K W w o) (rv : R K W v d) (h : updF C f o d e P) : ∃ a dx gs, w = .ref a ∧ H a = some (.ins C dx gs) ∧ gs.length < 1000 ∧ ∃ e', P e' ∧ Sd K W (upd H a (.ins C dx (putF f v gs))) σ e' := by
  obtain ⟨n, ns, xs, i, rfl, hc, hl, hi, p⟩ := h
  cases ro with
  | cell hm =>
    obtain ⟨dx, gs, h1, h2, h3⟩ := S.ok.cl _ _ _ hm hc
    have hgl : gs.length = ns.length := by rw [← h2, List.length_map]
    have hi' : ixF f (gs.map (·.1)) = some i := by rw [h2]; exact hi
    obtain ⟨k1, k2⟩ := putF_upd (v := v) hi'
    refine ⟨_, dx, gs, rfl, h1, by omega, _, p, S.ok.setC hm hc (fun z => nomatch z) ⟨dx, _, upd_same, by rw [k1, h2], ?_⟩, S.sl⟩
    rw [k2]
    exact h3.setAt rv i
end
def sFldU (C : Addr) (f : Str) (to tv : DE) : DS := fun P e => tv e fun v e1 => to e1 fun o e2 => updF C f o v e2 P.nx
def sFldA (C : Addr) (f : Str) (q : D → D → DE) (to tv : DE) : DS := fun P e => to e fun o e1 => ∃ ns xs x, insD e1.cs o = some (C, ns, xs) ∧ getF f ns xs = some x ∧ tv e1 fun y e2 => q x y e2 fun z e3 => updF C f o z e3 P.nx
/-- a target, by data -/
abbrev DG := D → En → (En → Prop) → Prop
def lG (K : PySem.W.Frag) (B : Bs) (t : DG) : TG := fun v σ H Q => ∃ W e d P, B.p W ∧ Sd K W H σ e ∧ R K W v d ∧ t d e P ∧ ∀ e' W' H' σ', P e' → W.le W' → Sd K W' H' σ' e' → Q σ' H'
abbrev DGs := List D → En → (En → Prop) → Prop
def lGs (K : PySem.W.Frag) (B : Bs) (t : DGs) : TGs := fun vs σ H Q => ∃ W e ds P, B.p W ∧ Sd K W H σ e ∧ RAll K W vs ds ∧ t ds e P ∧ ∀ e' W' H' σ', P e' → W.le W' → Sd K W' H' σ' e' → Q σ' H'
theorem PG.imp {X : Cx} {tg : Expr} {t t' : TG} (h : PG X tg t) (i : ∀ v σ H Q, t' v σ H Q → t v σ H Q) : PG X tg t' := ⟨fun pins s σ H v u Q I r w => h.run pins s σ H v u Q I r (i v σ H Q w)⟩
theorem PGs.imp {X : Cx} {tg : List Expr} {t t' : TGs} (h : PGs X tg t) (i : ∀ v σ H Q, t' v σ H Q → t v σ H Q) : PGs X tg t' := ⟨fun pins s σ H v u Q I r w => h.run pins s σ H v u Q I r (i v σ H Q w)⟩
def gN (i : Nat) : DG := fun d e P => P { e with sl := e.sl.set i (some d) }
def gF (C : Addr) (f : Str) (to : DE) : DG := fun d e P => to e fun o e1 => updF C f o d e1 P
def gZ : DGs := fun ds e P => ds = [] ∧ P e
def gC (t : DG) (u : DGs) : DGs := fun ds e P => ∃ x xs, ds = x :: xs ∧ t x e fun e1 => u xs e1 P
def gT (n : Nat) (u : DGs) : DG := fun d e P => ∃ xs, d = .tup xs ∧ xs.length = n ∧ u xs e P
def sAsgG (t : DE) (g : DG) : DS := fun P e => t e fun d e1 => g d e1 P.nx
/-- two ints added in place -/
def qAddI : D → D → DE := fun x y e P => ∃ i j, x = .int i ∧ y = .int j ∧ P (.int (i + j)) e
section
variable {X : Cx} {B : Bs} {o ex tg : Expr} {te tv to : DE} {C : Addr} {f : Str} {pos pos' tpos : Pos} {ta : TE}
theorem ds_fldU (c : Cls X.K C) (n : NoAttr X.K C f) (ho : PE X o (lE X.K B te)) (hv : PE X ex (lE X.K B tv)) (hs : swapsWith ex (some (.Attribute o f pos')) pos.line X.env = pure false := by rfl) :
    PS X (.Assign [.Attribute o f pos'] ex pos) (lS X.K B (sFldU C f te tv)) := PS.imp (ps_fld ho hv hs) fun E σ H h => by
  obtain ⟨W, e, P, bl, S, h, cv⟩ := lS_un h
  refine ⟨W, e, _, bl, S, h, fun d e1 W1 H1 v t1 l1 S1 r1 => ⟨W1, e1, _, B.up bl l1, S1, t1, fun ob e2 W2 H2 w t2 l2 S2 r2 => ?_⟩⟩
  obtain ⟨a, dx, gs, rfl, h1, h2, e', p, S'⟩ := updF_ok S2 r2 (R.mono l2 _ _ r1) t2
  exact ⟨a, C, dx, gs, rfl, h1, c, n, h2, cv.nx _ _ _ _ p (l1.tr l2) S'⟩
theorem ds_fldA {op : Operator} {rd : V → V → Hp → VK → Prop} {q : D → D → DE} (c : Cls X.K C) (n : NoAttr X.K C f) (ho : PE X o (lE X.K B te)) (hv : PE X ex (lE X.K B tv)) (hop : InOp X op rd) (hq : OpD X.K rd q) :
    PS X (.AugAssign (.Attribute o f tpos) op ex pos) (lS X.K B (sFldA C f q te tv)) := PS.imp (ps_fldaug ho hv hop) fun E σ H h => by
  obtain ⟨W, e, P, bl, S, h, cv⟩ := lS_un h
  refine ⟨W, e, _, bl, S, h, fun ob e1 W1 H1 w t1 l1 S1 r1 => ?_⟩
  obtain ⟨ns, xs, x, hi, hx, t1⟩ := t1
  obtain ⟨a, dx, gs, rfl, h1, h2, h3⟩ := S1.ok.ins r1 hi
  obtain ⟨v, hv', rv⟩ := RAll.fld h2 h3 hx
  refine ⟨a, C, dx, gs, v, rfl, h1, c, n, hv', W1, e1, _, B.up bl l1, S1, t1, fun y e2 W2 H2 u t2 l2 S2 r2 => ?_⟩
  refine hq W2 H2 σ e2 v u x y _ _ S2 (R.mono l2 _ _ rv) r2 t2 fun z e3 W3 H3 zv t3 l3 S3 r3 => ?_
  obtain ⟨a', dx', gs', ea, h1', h2', e', p, S'⟩ := updF_ok S3 (R.mono (l2.tr l3) _ _ r1) r3 t3
  cases ea
  exact ⟨dx', gs', h1', h2', cv.nx _ _ _ _ p ((l1.tr l2).tr l3) S'⟩
theorem dg_name {i : Nat} {x : Str} (hN : X.N.Nodup) (hi : X.N[i]? = some x) (hx : Loc X.env.scope x) (hf : X.fn x = true ∨ X.env.scope.names.lookup x = some .local := by first | exact .inl rfl | exact .inr rfl | assumption) : PG X (.Name x pos) (lG X.K B (gN i)) :=
  PG.imp (pg_name hN hi hx hf) fun v σ H Q ⟨W, e, d, P, bl, S, r, p, k⟩ => k _ W H _ p W.le_refl ⟨S.ok, S.sl.set r⟩
/-- the field of an instance, a target -/
def gFldV (K : PySem.W.Frag) (ta : TE) (f : Str) : TG := fun y σ H Q => ta σ H fun x H2 => ∃ a C dx fs, x = .ref a ∧ H2 a = some (.ins C dx fs) ∧ Cls K C ∧ NoAttr K C f ∧ fs.length < 1000 ∧ Q σ (upd H2 a (.ins C dx (putF f y fs)))
theorem pg_fld (ha : PE X o ta) (hs : ∀ v, assign (.Attribute o f pos) X.env v = (do
      let ov ← holding [v] (eval o X.env)
      standAt pos.atName
      holding [v, ov] (setAttr ov f v)
      release [v, ov] []) := by intro _; rfl) : PG X (.Attribute o f pos) (gFldV X.K ta f) := by
  refine ⟨fun pins s σ H v u Q I r h => ?_⟩
  rw [hs]
  refine wpAny_bind (wpAny_holding (thn (ha.run pins s σ H _ I h) fun ov s1 ⟨x, H1, I1, r1, q1⟩ => ?_))
  obtain ⟨a, C, dx, fs, rfl, ea, c, n, l, q⟩ := q1
  obtain rfl : ov = Value.ref a := r1
  refine wpAny_bind (wpAny_standAt (wpAny_bind (wpAny_holding ?_)))
  exact setattr_ok I1 ea c n l r fun s3 I3 => wpAny_release ⟨σ, _, I3, q⟩
theorem dg_fld (c : Cls X.K C) (n : NoAttr X.K C f) (ho : PE X o (lE X.K B to)) (hs : ∀ v, assign (.Attribute o f pos) X.env v = (do
      let ov ← holding [v] (eval o X.env)
      standAt pos.atName
      holding [v, ov] (setAttr ov f v)
      release [v, ov] []) := by intro _; rfl) : PG X (.Attribute o f pos) (lG X.K B (gF C f to)) :=
  PG.imp (pg_fld ho hs) fun v σ H Q ⟨W, e, d, P, bl, S, r, t, k⟩ => ⟨W, e, _, bl, S, t, fun ob e1 W1 H1 w t1 l1 S1 r1 => by
    obtain ⟨a, dx, gs, rfl, h1, h2, e', p, S'⟩ := updF_ok S1 r1 (R.mono l1 _ _ r) t1
    exact ⟨a, C, dx, gs, rfl, h1, c, n, h2, k _ _ _ _ p l1 S'⟩⟩
theorem dg_nil : PGs X [] (lGs X.K B gZ) := PGs.imp pgs_nil fun vs σ H Q ⟨W, e, ds, P, bl, S, r, ⟨hd, p⟩, k⟩ => by
  subst hd
  cases r
  exact ⟨rfl, k _ _ _ _ p W.le_refl S⟩
theorem dg_cons {e0 : Expr} {es : List Expr} {t : DG} {u : DGs} (h1 : PG X e0 (lG X.K B t)) (h2 : PGs X es (lGs X.K B u))
    (hs : (assignEach (e0 :: es) X.env).map (·.2) = assign e0 X.env :: (assignEach es X.env).map (·.2) := by rfl) : PGs X (e0 :: es) (lGs X.K B (gC t u)) :=
  PGs.imp (pgs_cons h1 h2 hs) fun vs σ H Q ⟨W, e, ds, P, bl, S, r, ⟨x, xs, hd, p⟩, k⟩ => by
    subst hd
    cases r with
    | cons r1 r2 => exact ⟨_, _, rfl, W, e, _, _, bl, S, r1, p, fun e' W' H' σ' p' l' S' => ⟨W', e', _, _, B.up bl l', S', RAll.mono l' _ _ r2, p', fun e2 W2 H2 σ2 p2 l2 S2 => k _ _ _ _ p2 (l'.tr l2) S2⟩⟩
theorem dg_tup {es : List Expr} {k : Nat} {u : DGs} {n : Nat} (hc : X.calm = true) (h : PGs X es (lGs X.K B u))
    (hn : (assignEach es X.env).length = n := by rfl) (hst : (assignEach es X.env).findIdx? (·.1) = none := by rfl) : PG X (.Tuple es k pos) (lG X.K B (gT n u)) :=
  PG.imp (pg_tup hc h hn hst) fun v σ H Q ⟨W, e, d, P, bl, S, r, ⟨xs, hd, hl, p⟩, kk⟩ => by
    subst hd
    cases r with
    | tup h1 h2 => exact ⟨_, _, rfl, Evl.ex_t S.ok.ex h1, by rw [h2.length]; exact hl, W, e, _, _, bl, S, h2, p, kk⟩
theorem ds_asgG {g : DG} (he : PE X ex (lE X.K B te)) (hg : PG X tg (lG X.K B g)) (hs : swapsWithSole [tg] ex pos.line X.env = pure false := by rfl) (hw : swappedStores [tg] ex X.env = pure none := by rfl)
    (h1 : (assignEach [tg] X.env).map (·.2) = [assign tg X.env] := by rfl) : PS X (.Assign [tg] ex pos) (lS X.K B (sAsgG te g)) := PS.imp (ps_asg he hg hs hw h1) fun E σ H h => by
  obtain ⟨W, e, P, bl, S, h, c⟩ := lS_un h
  exact ⟨W, e, _, bl, S, h, fun d e1 W1 H1 v t1 l1 S1 r1 => ⟨W1, e1, d, _, B.up bl l1, S1, r1, t1, fun e' W' H' σ' p l S' => c.nx _ _ _ _ p (l1.tr l) S'⟩⟩
theorem od_inadd {K : PySem.W.Frag} : OpD K rAdd qAddI := fun W H σ e x y d1 d2 P Q S r1 r2 t k => by
  obtain ⟨i, j, rfl, rfl, p⟩ := t
  exact ⟨i, j, r1.int_inv, r2.int_inv, k _ _ _ _ _ p W.le_refl S (.int _)⟩
end
end DL
namespace DL
open PySem PySem.Spec PyProof.Rows L2
open Evl (Ex)

/-! ### operators of own classes -/
section
variable {K : PySem.W.Frag} {C C2 : Addr} {nm : String}
theorem NoSl.looks {M : Model} {h : Heap} (n : NoSl K C nm) (X : K.In h) : PySem.W.Looks M h (fillsNumberSlot (.ref C) nm) false := by
  intro A Q E s k q
  obtain ⟨cd, hc, hm⟩ := n.cd
  unfold fillsNumberSlot
  refine wpAny_bind ((PySem.W.looks_clsIn X hc).andThen (f := fun cd => pure cd.mro) .now A _ E s k ?_)
  rw [hm, List.anyM_cons]
  refine wpAny_bind ?_
  show wpAny M A (List.anyM _ [PySem.dunder nm, dunderR nm]) _ _ _
  rw [List.anyM_cons]
  refine wpAny_bind (wpAny_bind (PySem.W.looks_findIn X n.a A _ E s k ?_))
  dsimp only
  refine wpAny_pure ?_
  rw [if_neg (show ¬ (false = true) by simp), List.anyM_cons]
  refine wpAny_bind (wpAny_bind (PySem.W.looks_findIn X n.b A _ E s k ?_))
  dsimp only
  refine wpAny_pure ?_
  rw [if_neg (show ¬ (false = true) by simp)]
  refine wpAny_pure ?_
  rw [if_neg (show ¬ (false = true) by simp), List.anyM_cons]
  refine wpAny_bind (wpAny_bind (PySem.W.looks_findIn X n.oa A _ E s k (wpAny_bind (PySem.W.looks_findIn X n.ob A _ E s k ?_))))
  refine wpAny_pure ?_
  simp only [Option.isSome_none, Bool.false_and, Bool.or_self]
  rw [if_neg (show ¬ (false = true) by simp)]
  exact wpAny_pure q
end
section
variable {prog : Program} {w : World} {A : Around} {E : Value → Shared → Prop} {s : Shared} {K : PySem.W.Frag} {x C C2 L f : Addr} {h₀ : Heap} {m : Str → Option Value} {ox : Obj} {od : Option Obj}
open PySem.W in
/-- an operator of an own class, the other one of a class that has none -/
theorem binop_two {op : Operator} {b : Value} {Q : Value → Shared → Prop} (F : Fr h₀ L s.heap m) (X₀ : K.In h₀) (I : InstAt s.heap x ox C od) (hb : Looks (model prog w) s.heap (typeOf b) (.ref C2)) (n2 : NoSl K C2 op.info.2) (hc : selfFirst K C = true)
    (hs : findIn K (.ref C) (PySem.dunder op.info.2) = some (some (.ref f))) (hf : isFn K (.ref f) = true)
    (h : wpAny (model prog w) A (call (.ref f) [.ref x, b]) (PySem.W.CmpBack Q) E s) : wpAny (model prog w) A (binaryOp op (.ref x) b) Q E s := by
  have X := X₀.keeps F.keep
  obtain ⟨cd, hcd, hm⟩ := any_some hc
  obtain ⟨rest, hm⟩ : ∃ rest, cd.mro = .ref C :: rest := by
    cases q : cd.mro with
    | nil => rw [q] at hm; cases hm
    | cons a r => rw [q] at hm; exact ⟨r, by rw [List.head?_cons] at hm; cases (beq_iff_eq.mp hm); rfl⟩
  by_cases hcc : C = C2
  · subst hcc
    exact binop_K F X₀ I hb hc hs hf h
  have hne : (Value.ref C == Value.ref C2) = false := beq_eq_false_iff_ne.mpr fun e => hcc (by cases e; rfl)
  unfold binaryOp
  refine wpAny_holding (wpAny_bind ?_)
  unfold binaryOp1
  refine wpAny_bind (I.type.here (wpAny_bind (hb.here (wpAny_bind ((fills_K X hcd hm hs).here ?_)))))
  simp only [hne, Bool.false_eq_true, if_false]
  refine wpAny_bind ((n2.looks X).here ?_)
  simp only [Bool.and_false, Bool.false_eq_true, if_false, Bool.false_and]
  refine wpAny_bind (wpAny_pure ?_)
  simp only [Bool.and_false, Bool.false_eq_true, if_false, Bool.false_and]
  refine wpAny_bind (m := tryMethod (.ref x) _ b) ?_
  unfold tryMethod
  refine wpAny_bind (special_fn X I hs (beq_iff_eq.mp hf) (wpAny_mono h (fun v s' hv => ?_) fun _ _ e => e))
  cases v <;> first | exact hv.elim | exact wpAny_pure (wpAny_pure (wpAny_pure hv))
end
/-- a call of two values, the second one an instance of C2 -/
def rTwo (K : PySem.W.Frag) (C C2 : Addr) (sp : Spc) : R2 := fun x y H Q => ∃ a dx gs b dy gt, x = .ref a ∧ H a = some (.ins C dx gs) ∧ y = .ref b ∧ H b = some (.ins C2 dy gt) ∧ spD K sp [.ref a, .ref b] H Q E0
def qTwo (C C2 : Addr) (sp : Spc) : D → D → DE := fun d y e P => (∃ ns xs, insD e.cs d = some (C, ns, xs)) ∧ (∃ ns xs, insD e.cs y = some (C2, ns, xs)) ∧ sp [d, y] e.cs fun r cs' => P r { e with cs := cs' }
theorem od_two {K : PySem.W.Frag} {C C2 : Addr} {sp : Spc} : OpD K (rTwo K C C2 sp) (qTwo C C2 sp) := fun W H σ e x y d1 d2 P Q S r1 r2 ⟨⟨n1, x1, i1⟩, ⟨n2, x2, i2⟩, t⟩ k => by
  obtain ⟨a, dx, gs, rfl, h1, h2, h3⟩ := S.ok.ins r1 i1
  obtain ⟨b, dy, gt, rfl, h1', h2', h3'⟩ := S.ok.ins r2 i2
  exact ⟨a, dx, gs, b, dy, gt, rfl, h1, rfl, h1', W, e.cs, [d1, d2], _, S.ok, .cons r1 (.cons r2 .nil), t, fun d cs' W' H' v p l ok r' => k _ _ _ _ _ p l ⟨ok, S.sl.mono l⟩ r'⟩
section
variable {X : Cx} {C C2 fn : Addr} {k : Nat} {ps : List Str} {sp : Spc}
theorem cmp_eq {op : CmpOp} (h1 : op ≠ .Is) (h2 : op ≠ .IsNot) (h3 : op ≠ .In) (h4 : op ≠ .NotIn) (a b : Value) : compareOp op a b = richCompare op a b := by
  cases op <;> first | rfl | exact absurd rfl ‹_›
theorem op_cmpO {op : CmpOp} (G : Good X.prog X.w X.K X.mg X.base k fn ps sp) (hr : Room k X.A) (hu : X.A.units < cLine) (sm : Sm X.K C (cmpInfo op).2.1 fn) (hop : ∀ a b, compareOp op a b = richCompare op a b := by intros; rfl) : OpR X (compareOp op) (rTwo X.K C C sp) := by
  rintro pins s σ H x y v u Q I rx ry ⟨a, dx, gs, b, dy, gt, rfl, ha, rfl, hb, h⟩
  obtain ⟨fd, F, bi, kp⟩ := G
  cases (show v = Value.ref a from rx)
  cases (show u = Value.ref b from ry)
  obtain ⟨od, J⟩ := Inv.inst I ha
  obtain ⟨od2, J2⟩ := Inv.inst I hb
  obtain ⟨m, hF⟩ := I.fr
  rw [hop]
  refine PySem.W.cmp_K hu hF I.ok.mod.kin J J2.type (by unfold PySem.W.notFirst; simp) sm.at_ sm.fn (wpAny_mono (run_in (us := [.ref a, .ref b]) (vs := [V.ref a, V.ref b]) F bi hr I.env0 I (.cons rfl (.cons rfl .nil)) h) (fun v s' z => ?_) fun _ _ z => z)
  obtain ⟨v', H', I', rv, q⟩ := z
  exact RelV.cmp rv (P := EP X pins σ Q) ⟨v', H', I', rv, q⟩
theorem op_binO {op : Operator} (G : Good X.prog X.w X.K X.mg X.base k fn ps sp) (hr : Room k X.A) (sm : Sm X.K C (PySem.dunder op.info.2) fn) (hc : PySem.W.selfFirst X.K C = true) : OpR X (binaryOp op) (rTwo X.K C C sp) := by
  rintro pins s σ H x y v u Q I rx ry ⟨a, dx, gs, b, dy, gt, rfl, ha, rfl, hb, h⟩
  obtain ⟨fd, F, bi, kp⟩ := G
  cases (show v = Value.ref a from rx)
  cases (show u = Value.ref b from ry)
  obtain ⟨od, J⟩ := Inv.inst I ha
  obtain ⟨od2, J2⟩ := Inv.inst I hb
  obtain ⟨m, hF⟩ := I.fr
  refine PySem.W.binop_K hF I.ok.mod.kin J J2.type hc sm.at_ sm.fn (wpAny_mono (run_in (us := [.ref a, .ref b]) (vs := [V.ref a, V.ref b]) F bi hr I.env0 I (.cons rfl (.cons rfl .nil)) h) (fun v s' z => ?_) fun _ _ z => z)
  obtain ⟨v', H', I', rv, q⟩ := z
  exact RelV.cmp rv (P := EP X pins σ Q) ⟨v', H', I', rv, q⟩
theorem op_binT {op : Operator} (G : Good X.prog X.w X.K X.mg X.base k fn ps sp) (hr : Room k X.A) (sm : Sm X.K C (PySem.dunder op.info.2) fn) (hc : PySem.W.selfFirst X.K C = true) (n2 : NoSl X.K C2 op.info.2) : OpR X (binaryOp op) (rTwo X.K C C2 sp) := by
  rintro pins s σ H x y v u Q I rx ry ⟨a, dx, gs, b, dy, gt, rfl, ha, rfl, hb, h⟩
  obtain ⟨fd, F, bi, kp⟩ := G
  cases (show v = Value.ref a from rx)
  cases (show u = Value.ref b from ry)
  obtain ⟨od, J⟩ := Inv.inst I ha
  obtain ⟨od2, J2⟩ := Inv.inst I hb
  obtain ⟨m, hF⟩ := I.fr
  refine binop_two hF I.ok.mod.kin J J2.type n2 hc sm.at_ sm.fn (wpAny_mono (run_in (us := [.ref a, .ref b]) (vs := [V.ref a, V.ref b]) F bi hr I.env0 I (.cons rfl (.cons rfl .nil)) h) (fun v s' z => ?_) fun _ _ z => z)
  obtain ⟨v', H', I', rv, q⟩ := z
  exact RelV.cmp rv (P := EP X pins σ Q) ⟨v', H', I', rv, q⟩
end

/-! ### o[i] = v of an own class -/
section
variable {X : Cx} {B : Bs} {C fn : Addr} {k : Nat} {ps : List Str} {sp : Spc} {o i ex : Expr} {to ti tv : DE} {pos p2 : Pos}
def rSetO (K : PySem.W.Frag) (C : Addr) (sp : Spc) : TSet := fun x i v H Q => ∃ a dx gs, x = .ref a ∧ H a = some (.ins C dx gs) ∧ spD K sp [.ref a, i, v] H (fun _ H' => Q H') E0
theorem set_own (G : Good X.prog X.w X.K X.mg X.base k fn ps sp) (hr : Room k X.A) (sm : Sm X.K C "__setitem__" fn) (hq : PySem.W.noSeq X.K C = true) : PSet X (rSetO X.K C sp) := by
  rintro pins s σ H x i v ov iv u Q I rx ri rv ⟨a, dx, gs, rfl, ha, h⟩
  obtain ⟨fd, F, bi, kp⟩ := G
  cases (show ov = Value.ref a from rx)
  obtain ⟨od, J⟩ := Inv.inst I ha
  obtain ⟨m, hF⟩ := I.fr
  have KX := I.kIn
  unfold setItem sequenceKey callSpecial?
  refine wpAny_holding (wpAny_bind (wpAny_bind (J.type.here ?_)))
  refine wpAny_bind ((PySem.W.anyM_none KX hq).here ?_)
  rw [if_pos (show (!false) = true from rfl)]
  refine wpAny_pure (wpAny_bind ?_)
  refine wpAny_mono (PySem.W.special_fn (Q := fun r s' => r ≠ none ∧ ∃ H', Inv X pins σ H' s' ∧ Q H') KX J sm.at_ (beq_iff_eq.mp sm.fn) (wpAny_mono (run_in (us := [.ref a, iv, u]) (vs := [V.ref a, i, v]) F bi hr I.env0 I (.cons rfl (.cons ri (.cons rv .nil))) h) (fun v s' z => ?_) fun _ _ z => z)) (fun r s' z => ?_) fun _ _ z => z
  · obtain ⟨v', H', I', rv, q⟩ := z
    exact ⟨(fun z => nomatch z), H', I', q⟩
  · obtain ⟨h1, H', I', q⟩ := z
    cases r with
    | none => exact absurd rfl h1
    | some _ => exact wpAny_pure ⟨H', I', q⟩
def sSetO (C : Addr) (sp : Spc) (tv to ti : DE) : DS := fun P e => tv e fun v e1 => to e1 fun o e2 => ti e2 fun i e3 => (∃ ns xs, insD e3.cs o = some (C, ns, xs)) ∧ sp [o, i, v] e3.cs fun _ cs' => P.nx { e3 with cs := cs' }
theorem ds_setO (G : Good X.prog X.w X.K X.mg X.base k fn ps sp) (hr : Room k X.A) (sm : Sm X.K C "__setitem__" fn) (hq : PySem.W.noSeq X.K C = true) (hv : PE X ex (lE X.K B tv)) (ho : PE X o (lE X.K B to)) (hi : PE X i (lE X.K B ti))
    (ha : ∀ v, assign (.Subscript o i p2) X.env v = (do
      let ov ← holding [v] (eval o X.env)
      let iv ← holding [v, ov] (eval i X.env)
      standAt p2
      holding [v, ov, iv] (setItem ov iv v)
      release [v, ov, iv] []) := by intro _; rfl)
    (hs : swapsWithSole [.Subscript o i p2] ex pos.line X.env = pure false := by rfl) (hw : swappedStores [.Subscript o i p2] ex X.env = pure none := by rfl)
    (h1 : (assignEach [.Subscript o i p2] X.env).map (·.2) = [assign (.Subscript o i p2) X.env] := by rfl) : PS X (.Assign [.Subscript o i p2] ex pos) (lS X.K B (sSetO C sp tv to ti)) := PS.imp (ps_asg hv (pg_sub ho hi (set_own G hr sm hq) ha) hs hw h1) fun E σ H h => by
  obtain ⟨W, e, P, bl, S, h, c⟩ := lS_un h
  refine ⟨W, e, _, bl, S, h, fun d e1 W1 H1 v t1 l1 S1 r1 => ⟨W1, e1, _, B.up bl l1, S1, t1, fun ob e2 W2 H2 w t2 l2 S2 r2 => ⟨W2, e2, _, B.up bl (l1.tr l2), S2, t2, fun ix e3 W3 H3 x t3 l3 S3 r3 => ?_⟩⟩⟩
  obtain ⟨⟨ns, xs, hi⟩, t3⟩ := t3
  have r23 := R.mono l3 _ _ r2
  obtain ⟨a, dx, gs, rfl, h1', h2', h3'⟩ := S3.ok.ins r23 hi
  exact ⟨a, dx, gs, rfl, h1', W3, e3.cs, [ob, ix, d], _, S3.ok, .cons r23 (.cons r3 (.cons (R.mono (l2.tr l3) _ _ r1) .nil)), t3, fun d' cs' W' H' v' p l ok r' => c.nx _ _ _ _ p (((l1.tr l2).tr l3).tr l) ⟨ok, S3.sl.mono l⟩⟩
end

/-! ### isinstance with an own class -/
def qIsiC (C : Addr) : List D → DE
  | [d, .raw (.ref C')] => fun e P => C' = C ∧ (∃ ns xs, insD e.cs d = some (C, ns, xs)) ∧ P (.bl true) e
  | _ => fun _ _ => False
theorem cd_isiC {K : PySem.W.Frag} {C : Addr} : CallD K (fun xs H Q => ∃ a dx fs, xs = [.ref a, .ref C] ∧ H a = some (.ins C dx fs) ∧ Q (.bl true) H) (qIsiC C) := by
  intro W H σ e vs ds P Q S r t k
  unfold qIsiC at t
  split at t
  · obtain ⟨v, v2, rfl, r1, r2⟩ := r.two
    obtain ⟨rfl, ⟨ns, xs, hi⟩, p⟩ := t
    obtain ⟨a, dx, gs, rfl, h1, _⟩ := S.ok.ins r1 hi
    cases r2
    exact ⟨a, dx, gs, rfl, h1, k _ _ _ _ _ p W.le_refl S (.bl _)⟩
  · exact t.elim
theorem de_cls {X : Cx} {B : Bs} {x : Str} {C : Addr} {pos : Pos} (hg : Gl X x) (hm : X.mg x = some (.ref C)) (hd : (x == ("__debug__" : Str)) = false := by decide) : PE X (.Name x pos) (lE X.K B (eC (.raw (.ref C)))) :=
  de_glob hg hm (show RelV (.ref C) (.ref C) from rfl) (fun _ => .raw _) hd
end DL
namespace DL
open PySem PySem.Spec PyProof.Rows L2
open Evl (Ex)

/-! ### in, not in -/
def flD : D → Bool
  | .non => true
  | .bl _ => true
  | .int _ => true
  | .str _ => true
  | _ => false
def eqF : D → D → Bool
  | .non, .non => true
  | .bl a, .bl b => a == b
  | .bl a, .int b => (if a then 1 else 0) == b
  | .int a, .bl b => a == (if b then 1 else 0)
  | .int a, .int b => a == b
  | .str a, .str b => a == b
  | _, _ => false
def inF (x : D) (xs : List D) : Bool := xs.any fun y => eqF y x
section
variable {K : PySem.W.Frag} {W : Wd}
theorem R.flat {v : V} {d : D} (r : R K W v d) (h : flD d = true) : flatV v = true := by
  cases d <;> first | (cases h; done) | (cases r; rfl)
theorem R.eqv {v w : V} {d d' : D} (r : R K W v d) (r' : R K W w d') (h : flD d = true) (h' : flD d' = true) : eqV v w = eqF d d' := by
  cases d <;> first | (cases h; done) | (cases d' <;> first | (cases h'; done) | (cases r; cases r'; rfl))
theorem RAll.flat : ∀ {vs : List V} {ds : List D}, RAll K W vs ds → ds.all flD = true → vs.all flatV = true
  | _, _, .nil, _ => rfl
  | _, _, .cons r t, h => by
    rw [List.all_cons, Bool.and_eq_true] at h
    rw [List.all_cons, r.flat h.1, RAll.flat t h.2] <;> rfl
theorem RAll.inv {x : V} {d : D} (r : R K W x d) (h : flD d = true) : ∀ {vs : List V} {ds : List D}, RAll K W vs ds → ds.all flD = true → inV x vs = inF d ds
  | _, _, .nil, _ => rfl
  | _, _, .cons r1 t, h1 => by
    rw [List.all_cons, Bool.and_eq_true] at h1
    have ih := RAll.inv r h t h1.2
    unfold inV inF at ih ⊢
    rw [List.any_cons, List.any_cons, R.eqv r1 r h1.1 h, ih]
end
def qIn (neg : Bool) : D → D → DE := fun x y e P => (flD x = true ∧ ∃ xs, seqD e.cs y = some xs ∧ xs.all flD = true ∧ P (.bl (if neg then !inF x xs else inF x xs)) e) ∨
  ∃ ys, drf e.cs y = .lst ys ∧ shp (drf e.cs x) = true ∧ shp (.lst ys) = true ∧ P (.bl (if neg then !((toPs ys).any fun z => PyData.eqv z (toP (drf e.cs x))) else (toPs ys).any fun z => PyData.eqv z (toP (drf e.cs x)))) e
def rInA (K : PySem.W.Frag) (neg : Bool) : R2 := fun x y H Q => rIn K neg x y H Q ∨ (if neg then rNotInD K else rInD K) x y H Q
section
variable {X : Cx} {K : PySem.W.Frag}
theorem op_inA (hu : X.A.units + 65 < cLine) : OpR X (compareOp .In) (rInA X.K false) := op_in_seq.or (op_inD hu)
theorem op_notInA (hu : X.A.units + 65 < cLine) : OpR X (compareOp .NotIn) (rInA X.K true) := op_notIn_seq.or (op_notInD hu)
theorem od_in {neg : Bool} : OpD K (rInA K neg) (qIn neg) := by
  intro W H σ e x y d1 d2 P Q S r1 r2 t k
  rcases t with ⟨h1, xs, h2, h3, t⟩ | ⟨ys, h1, h2, h3, t⟩
  · obtain ⟨a, vs, rfl, h4, h5⟩ := S.ok.seq r2 h2
    refine .inl ⟨a, vs, rfl, h4, r1.flat h1, h5.flat h3, ?_⟩
    have := k _ _ _ _ (.bl (if neg then !inF d1 xs else inF d1 xs)) t W.le_refl S (.bl _)
    rw [RAll.inv r1 h1 h5 h3]
    exact this
  · obtain ⟨o1, s1⟩ := shp_and h2
    obtain ⟨o2, s2⟩ := shp_and h3
    have hx := S.ok.dp r1 o1
    have hy := S.ok.dp r2 (by rw [h1]; exact o2)
    rw [h1] at hy
    cases neg with
    | false => exact .inr ⟨_, _, hx, hy, s1, s2, k _ _ _ _ _ t W.le_refl S (.bl _)⟩
    | true => exact .inr ⟨_, _, hx, hy, s1, s2, k _ _ _ _ _ t W.le_refl S (.bl _)⟩
end
theorem units5 {k : Nat} {A : Around} (r : Room k A) : A.units + 65 < cLine := by have := r.un; omega
end DL
namespace DL
open PySem PySem.Spec PyProof.Rows L2
open Evl (Ex)

/-! ### enumerate, zip -/
/-- the list at a stays ds as long as G -/
def Stay (K : PySem.W.Frag) (W : Wd) (a : Addr) (G : List Cel → Prop) (ds : List D) : Prop := ∀ W' H σ e, W.sub W' → Sd K W' H σ e → G e.cs → ∃ vs, SqL K H a vs ∧ RAll K W' vs ds
def itL (d : D) (e : En) (P : List D → (List Cel → Prop) → En → Prop) : Prop :=
  (∃ xs, fixL d = some xs ∧ P xs anyC e) ∨ ∃ n xs, d = .cell n ∧ e.cs[n]? = some (.lst xs) ∧ P xs (fun cs => cs[n]? = some (.lst xs)) e
theorem v_itLF {d : D} {e : En} {P : List D → (List Cel → Prop) → En → Prop} (h : ∃ xs, fixL d = some xs ∧ P xs anyC e) : itL d e P := .inl h
theorem v_itLC {n : Nat} {e : En} {P : List D → (List Cel → Prop) → En → Prop} (h : ∃ xs, e.cs[n]? = some (.lst xs) ∧ P xs (fun cs => cs[n]? = some (.lst xs)) e) : itL (.cell n) e P := let ⟨xs, h1, h2⟩ := h; .inr ⟨n, xs, rfl, h1, h2⟩
section
variable {K : PySem.W.Frag} {W : Wd} {H : Hp} {σ : L2.St} {e : En}
theorem itL_stay {d : D} {v : V} {P : List D → (List Cel → Prop) → En → Prop} (S : Sd K W H σ e) (r : R K W v d) (h : itL d e P) : ∃ a xs G, v = .ref a ∧ (∃ vs, SqL K H a vs ∧ RAll K W vs xs) ∧ Stay K W a G xs ∧ P xs G e := by
  rcases h with ⟨xs, hx, p⟩ | ⟨n, xs, rfl, hc, p⟩
  · cases r <;> simp only [fixL] at hx <;> cases hx
    · rename_i a vs h1 h2
      exact ⟨a, _, _, rfl, ⟨vs, SqL.of (S.ok.ex _ _ h1), h2⟩, fun W' H' σ' e' l S' _ => ⟨vs, SqL.of (S'.ok.ex _ _ (l.1 _ _ h1)), RAll.mono' l _ _ h2⟩, p⟩
    · rename_i a vs h1 h2
      exact ⟨a, _, _, rfl, ⟨vs, Evl.ex_l S.ok.ex h1, h2⟩, fun W' H' σ' e' l S' _ => ⟨vs, Evl.ex_l (l.1.trans S'.ok.ex) h1, RAll.mono' l _ _ h2⟩, p⟩
  · cases r with
    | cell hm =>
      obtain ⟨vs, h1, h2⟩ := S.ok.cellL hm hc
      refine ⟨_, xs, _, rfl, ⟨vs, SqL.of h1, h2⟩, fun W' H' σ' e' l S' g => ?_, p⟩
      obtain ⟨more, e2⟩ := l.2
      have := (List.getElem?_eq_some_iff.mp hm).1
      obtain ⟨vs', h1', h2'⟩ := S'.ok.cellL (show W'.m[n]? = some _ by rw [e2, List.getElem?_append_left this]; exact hm) g
      exact ⟨vs', SqL.of h1', h2'⟩
def enumD : Nat → List D → List D
  | _, [] => []
  | k, x :: xs => .tup [.int (k : Int), x] :: enumD (k + 1) xs
theorem enumD_len : ∀ (k : Nat) (xs : List D), (enumD k xs).length = xs.length
  | _, [] => rfl
  | k, x :: xs => congrArg (· + 1) (enumD_len (k + 1) xs)
theorem enumD_get {d : D} : ∀ {k : Nat} {xs : List D} {i : Nat}, (enumD k xs)[i]? = some d → ∃ x, xs[i]? = some x ∧ d = .tup [.int ((k + i : Nat) : Int), x]
  | _, [], _, h => by simp [enumD] at h
  | k, x :: xs, 0, h => by
    simp [enumD] at h
    exact ⟨x, by simp, h.symm⟩
  | k, x :: xs, i + 1, h => by
    have h' : (enumD (k + 1) xs)[i]? = some d := by simpa [enumD] using h
    obtain ⟨y, h1, h2⟩ := enumD_get h'
    exact ⟨y, by simpa using h1, by rw [h2, show k + 1 + i = k + (i + 1) by omega]⟩
def zipD : List D → List D → List D
  | x :: xs, y :: ys => .tup [x, y] :: zipD xs ys
  | _, _ => []
theorem zipD_len : ∀ xs ys : List D, (zipD xs ys).length = min xs.length ys.length
  | [], _ => by simp [zipD]
  | _ :: _, [] => by simp [zipD]
  | x :: xs, y :: ys => by
    have := zipD_len xs ys
    simp only [zipD, List.length_cons]
    omega
theorem zipD_get {d : D} : ∀ {xs ys : List D} {i : Nat}, (zipD xs ys)[i]? = some d → ∃ x y, xs[i]? = some x ∧ ys[i]? = some y ∧ d = .tup [x, y]
  | [], _, _, h => by simp [zipD] at h
  | _ :: _, [], _, h => by simp [zipD] at h
  | x :: xs, y :: ys, 0, h => by
    simp [zipD] at h
    exact ⟨x, y, by simp, by simp, h.symm⟩
  | x :: xs, y :: ys, i + 1, h => by
    have h' : (zipD xs ys)[i]? = some d := by simpa [zipD] using h
    obtain ⟨a, b, h1, h2, h3⟩ := zipD_get h'
    exact ⟨a, b, by simpa using h1, by simpa using h2, h3⟩
theorem new2 (S : Sd K W H σ e) {T : Addr} {x y : V} {a b : D} (hT : H T = none) (r1 : R K W x a) (r2 : R K W y b) : ∃ W', W.le W' ∧ Sd K W' (upd H T (.tup [x, y])) σ e ∧ R K W' (.ref T) (.tup [a, b]) := by
  obtain ⟨ok, l⟩ := S.ok.newF (o := .tup [x, y]) hT
  exact ⟨_, l, ⟨ok, S.sl.mono l⟩, .tup (SqT.of upd_same) (.cons (R.mono l _ _ r1) (.cons (R.mono l _ _ r2) .nil))⟩
theorem wk_enum {a : Addr} {G : List Cel → Prop} {ds : List D} (s : Stay K W a G ds) : Wk K W (Ite K a) G (enumD 0 ds) where
  go := fun i W' H σ e l S g hi => by
    obtain ⟨vs, h1, h2⟩ := s W' H σ e l S g
    rw [enumD_len] at hi
    have hi' : i < vs.length := by rw [h2.length]; exact hi
    exact ⟨vs, vs[i], h1, by simp [hi']⟩
  yld := fun i W' H σ e x H' d l S g hd y => by
    obtain ⟨vs, h1, h2⟩ := s W' H σ e l S g
    obtain ⟨T, x', rfl, hT, rfl, y⟩ := y
    obtain ⟨z, hz, rfl⟩ := enumD_get hd
    obtain ⟨v, hv, rv⟩ := h2.get hz
    have e1 := y vs h1
    rw [hv] at e1
    cases e1
    rw [Nat.zero_add]
    exact new2 S hT (.int _) rv
  stop := fun i W' H σ e l S g hi => by
    obtain ⟨vs, h1, h2⟩ := s W' H σ e l S g
    rw [enumD_len] at hi
    exact ⟨vs, h1, by rw [h2.length]; exact hi⟩
theorem wk_zip {a b : Addr} {G G' : List Cel → Prop} {ds ds' : List D} (s : Stay K W a G ds) (s' : Stay K W b G' ds') : Wk K W (Itz K a b) (fun cs => G cs ∧ G' cs) (zipD ds ds') where
  go := fun i W' H σ e l S g hi => by
    obtain ⟨vs, h1, h2⟩ := s W' H σ e l S g.1
    obtain ⟨us, h3, h4⟩ := s' W' H σ e l S g.2
    rw [zipD_len] at hi
    have hi1 : i < vs.length := by rw [h2.length]; omega
    have hi2 : i < us.length := by rw [h4.length]; omega
    exact ⟨vs, us, vs[i], us[i], h1, h3, by simp [hi1], by simp [hi2]⟩
  yld := fun i W' H σ e x H' d l S g hd y => by
    obtain ⟨vs, h1, h2⟩ := s W' H σ e l S g.1
    obtain ⟨us, h3, h4⟩ := s' W' H σ e l S g.2
    obtain ⟨T, x', y', rfl, hT, rfl, q1, q2⟩ := y
    obtain ⟨z, z', hz, hz', rfl⟩ := zipD_get hd
    obtain ⟨v, hv, rv⟩ := h2.get hz
    obtain ⟨u, hu, ru⟩ := h4.get hz'
    have e1 := q1 vs h1
    rw [hv] at e1
    cases e1
    have e2 := q2 us h3
    rw [hu] at e2
    cases e2
    exact new2 S hT rv ru
  stop := fun i W' H σ e l S g hi => by
    obtain ⟨vs, h1, h2⟩ := s W' H σ e l S g.1
    obtain ⟨us, h3, h4⟩ := s' W' H σ e l S g.2
    rw [zipD_len] at hi
    exact ⟨vs, us, h1, h3, by rw [h2.length, h4.length]; omega⟩
theorem wk_zipT {a b : Addr} {vs us : List V} {ds ds' : List D} (h1 : SqT K W.F a vs) (h2 : RAll K W vs ds) (h3 : SqT K W.F b us) (h4 : RAll K W us ds') : Wk K W (RZ.ItzT K a b) anyC (zipD ds ds') where
  go := fun i W' H σ e l S g hi => by
    rw [zipD_len] at hi
    have hi1 : i < vs.length := by rw [h2.length]; omega
    have hi2 : i < us.length := by rw [h4.length]; omega
    exact ⟨vs, us, vs[i], us[i], Evl.ex_t (l.1.trans S.ok.ex) h1, Evl.ex_t (l.1.trans S.ok.ex) h3, by simp [hi1], by simp [hi2]⟩
  yld := fun i W' H σ e x H' d l S g hd y => by
    obtain ⟨T, x', y', rfl, hT, rfl, q1, q2⟩ := y
    obtain ⟨z, z', hz, hz', rfl⟩ := zipD_get hd
    obtain ⟨v, hv, rv⟩ := h2.get hz
    obtain ⟨u, hu, ru⟩ := h4.get hz'
    have e1 := q1 vs (Evl.ex_t (l.1.trans S.ok.ex) h1)
    rw [hv] at e1
    cases e1
    have e2 := q2 us (Evl.ex_t (l.1.trans S.ok.ex) h3)
    rw [hu] at e2
    cases e2
    exact new2 S hT (R.mono' l _ _ rv) (R.mono' l _ _ ru)
  stop := fun i W' H σ e l S g hi => by
    rw [zipD_len] at hi
    exact ⟨vs, us, Evl.ex_t (l.1.trans S.ok.ex) h1, Evl.ex_t (l.1.trans S.ok.ex) h3, by rw [h2.length, h4.length]; omega⟩
end
def iEn (t : DA) : DI := fun e P => t e fun ds e1 => ∃ d, ds = [d] ∧ itL d e1 fun xs G e2 => P (enumD 0 xs) G e2
def iZp (t : DA) : DI := fun e P => t e fun ds e1 => ∃ x y, ds = [x, y] ∧ ((itL x e1 fun xs G _ => itL y e1 fun ys G' _ => P (zipD xs ys) (fun cs => G cs ∧ G' cs) e1) ∨ ∃ xs ys, x = .tup xs ∧ y = .tup ys ∧ P (zipD xs ys) anyC e1)
section
variable {X : Cx} {B : Bs} {ex e2 : Expr} {ta : DA} {p pos tpos : Pos} {elts : List Expr} {kk : Nat}
theorem di_enum (hg : Gl X "enumerate") (hm : X.mg "enumerate" = none) (ha : PA X [ex] (lA X.K B ta)) (hs : starEach [ex] X.env = [(false, eval ex X.env)] := by rfl) : PI X (.Tuple elts kk tpos) (.Call (.Name "enumerate" p) [ex] [] pos) (lI X.K B (iEn ta)) :=
  PI.imp (pi_enum hg hm ha hs) fun σ H Q ⟨W, e, P, bl, S, t, k⟩ => ⟨W, e, _, bl, S, t, fun ds e1 W1 H1 vs ⟨d, hd, p⟩ l S1 r => by
    subst hd
    obtain ⟨v, rfl, r1⟩ := r.one
    obtain ⟨a, xs, G, rfl, ⟨us, h1, h2⟩, st, q⟩ := itL_stay S1 r1 p
    exact ⟨a, us, rfl, h1, k _ _ _ _ _ _ q l S1 (wk_enum st)⟩⟩
theorem di_zip (hg : Gl X "zip") (hm : X.mg "zip" = none) (ha : PA X [ex, e2] (lA X.K B ta)) (hs : starEach [ex, e2] X.env = (false, eval ex X.env) :: starEach [e2] X.env := by rfl) (hpl : (backTo pos (starEach [e2] X.env)).any (·.1) = false := by rfl) :
    PI X (.Tuple elts kk tpos) (.Call (.Name "zip" p) [ex, e2] [] pos) (lI X.K B (iZp ta)) :=
  PI.imp (RZ.pi_zipA hg hm ha hs hpl) fun σ H Q ⟨W, e, P, bl, S, t, k⟩ => ⟨W, e, _, bl, S, t, fun ds e1 W1 H1 vs ⟨x, y, hd, p⟩ l S1 r => by
    subst hd
    obtain ⟨v, v2, rfl, r1, r2⟩ := r.two
    rcases p with p | ⟨xs, ys, rfl, rfl, p⟩
    · obtain ⟨a, xs, G, rfl, ⟨us, h1, h2⟩, st, q⟩ := itL_stay S1 r1 p
      obtain ⟨b, ys, G', rfl, ⟨ws, h3, h4⟩, st', q'⟩ := itL_stay S1 r2 q
      exact ⟨a, b, us, ws, rfl, .inl ⟨h1, h3, k _ _ _ _ _ _ q' l S1 (wk_zip st st')⟩⟩
    · cases r1 with
      | tup h1 h2 =>
        cases r2 with
        | tup h3 h4 => exact ⟨_, _, _, _, rfl, .inr ⟨Evl.ex_t S1.ok.ex h1, Evl.ex_t S1.ok.ex h3, k _ _ _ _ _ _ p l S1 (wk_zipT h1 h2 h3 h4)⟩⟩⟩
end
/-- a tuple of the module -/
theorem de_tupG {X : Cx} {B : Bs} {x : Str} {a : Addr} {vs : List V} {ds : List D} {pos : Pos} (hg : Gl X x) (hm : X.mg x = some (.ref a)) (h : ∀ H, SqT X.K H a vs) (r : ∀ W, RAll X.K W vs ds) (hd : (x == ("__debug__" : Str)) = false := by decide) :
    PE X (.Name x pos) (lE X.K B (eC (.tup ds))) := de_glob hg hm (show RelV (.ref a) (.ref a) from rfl) (fun W => .tup (h W.F) (r W)) hd
end DL
namespace DL
open PySem PySem.Spec PyProof.Rows L2
open Evl (Ex)

/-! ### more steps -/
section
variable {e : En} {P : D → En → Prop} {x y d : D} {a b : Int} {te tv to : DE} {Po' : Po} {C : Addr} {f : Str} {PE' : En → Prop} {k : Bool}
theorem v_isN0 (p : P (.bl true) e) : qIs .non .non e P := ⟨rfl, rfl, p⟩
theorem v_isN1 (h : isN x = false ∧ notRaw x = true ∧ P (.bl false) e) : qIs x .non e P := by
  obtain ⟨h1, h2, p⟩ := h
  rw [← h1] at p
  cases x <;> first | (cases h1; done) | (cases h2; done) | exact ⟨rfl, rfl, p⟩
theorem v_isnN0 (p : P (.bl false) e) : qIsNot .non .non e P := ⟨rfl, rfl, p⟩
theorem v_isnN1 (h : isN x = false ∧ notRaw x = true ∧ P (.bl true) e) : qIsNot x .non e P := by
  obtain ⟨h1, h2, p⟩ := h
  cases x <;> first | (cases h1; done) | (cases h2; done) | exact ⟨rfl, rfl, p⟩
def noInt : D → Bool
  | .int _ => false
  | _ => true
theorem v_eqP (h : (noInt x || noInt y) = true ∧ shp (drf e.cs x) = true ∧ shp (drf e.cs y) = true ∧ PyData.eqv (toP (drf e.cs x)) (toP (drf e.cs y)) = k ∧ P (.bl k) e) : qEq x y e P := by
  obtain ⟨h0, h1, h2, h3, p⟩ := h
  have q : shp (drf e.cs x) = true ∧ shp (drf e.cs y) = true ∧ P (.bl (PyData.eqv (toP (drf e.cs x)) (toP (drf e.cs y)))) e := ⟨h1, h2, by rw [h3]; exact p⟩
  unfold qEq
  split
  · exact nomatch (show false = true from h0)
  · exact q
theorem v_neP (h : (noInt x || noInt y) = true ∧ shp (drf e.cs x) = true ∧ shp (drf e.cs y) = true ∧ PyData.eqv (toP (drf e.cs x)) (toP (drf e.cs y)) = k ∧ P (.bl (!k)) e) : qNe x y e P := by
  obtain ⟨h0, h1, h2, h3, p⟩ := h
  have q : shp (drf e.cs x) = true ∧ shp (drf e.cs y) = true ∧ P (.bl (!PyData.eqv (toP (drf e.cs x)) (toP (drf e.cs y)))) e := ⟨h1, h2, by rw [h3]; exact p⟩
  unfold qNe
  split
  · exact nomatch (show false = true from h0)
  · exact q
theorem v_eqPT (h : (noInt x || noInt y) = true ∧ shp (drf e.cs x) = true ∧ shp (drf e.cs y) = true ∧ PyData.eqv (toP (drf e.cs x)) (toP (drf e.cs y)) = true ∧ P (.bl true) e) : qEq x y e P := v_eqP h
theorem v_eqPF (h : (noInt x || noInt y) = true ∧ shp (drf e.cs x) = true ∧ shp (drf e.cs y) = true ∧ PyData.eqv (toP (drf e.cs x)) (toP (drf e.cs y)) = false ∧ P (.bl false) e) : qEq x y e P := v_eqP h
theorem v_nePT (h : (noInt x || noInt y) = true ∧ shp (drf e.cs x) = true ∧ shp (drf e.cs y) = true ∧ PyData.eqv (toP (drf e.cs x)) (toP (drf e.cs y)) = true ∧ P (.bl false) e) : qNe x y e P := v_neP h
theorem v_nePF (h : (noInt x || noInt y) = true ∧ shp (drf e.cs x) = true ∧ shp (drf e.cs y) = true ∧ PyData.eqv (toP (drf e.cs x)) (toP (drf e.cs y)) = false ∧ P (.bl true) e) : qNe x y e P := v_neP h
def nd : D → Bool
  | .cell _ => false
  | .fro _ => false
  | _ => true
theorem nd_drf {cs : List Cel} {d : D} (h : nd d = true) : drf cs d = d := by cases d <;> first | rfl | cases h
theorem v_eqN (h : (nd x = true ∧ nd y = true ∧ (noInt x || noInt y) = true) ∧ shp x = true ∧ shp y = true ∧ PyData.eqv (toP x) (toP y) = k ∧ P (.bl k) e) : qEq x y e P := by
  obtain ⟨⟨h1, h2, h3⟩, h4, h5, h6, p⟩ := h
  exact v_eqP ⟨h3, by rw [nd_drf h1]; exact h4, by rw [nd_drf h2]; exact h5, by rw [nd_drf h1, nd_drf h2]; exact h6, p⟩
theorem v_neN (h : (nd x = true ∧ nd y = true ∧ (noInt x || noInt y) = true) ∧ shp x = true ∧ shp y = true ∧ PyData.eqv (toP x) (toP y) = k ∧ P (.bl (!k)) e) : qNe x y e P := by
  obtain ⟨⟨h1, h2, h3⟩, h4, h5, h6, p⟩ := h
  exact v_neP ⟨h3, by rw [nd_drf h1]; exact h4, by rw [nd_drf h2]; exact h5, by rw [nd_drf h1, nd_drf h2]; exact h6, p⟩
theorem v_eqNT (h : (nd x = true ∧ nd y = true ∧ (noInt x || noInt y) = true) ∧ shp x = true ∧ shp y = true ∧ PyData.eqv (toP x) (toP y) = true ∧ P (.bl true) e) : qEq x y e P := v_eqN h
theorem v_eqNF (h : (nd x = true ∧ nd y = true ∧ (noInt x || noInt y) = true) ∧ shp x = true ∧ shp y = true ∧ PyData.eqv (toP x) (toP y) = false ∧ P (.bl false) e) : qEq x y e P := v_eqN h
theorem v_neNT (h : (nd x = true ∧ nd y = true ∧ (noInt x || noInt y) = true) ∧ shp x = true ∧ shp y = true ∧ PyData.eqv (toP x) (toP y) = true ∧ P (.bl false) e) : qNe x y e P := v_neN h
theorem v_neNF (h : (nd x = true ∧ nd y = true ∧ (noInt x || noInt y) = true) ∧ shp x = true ∧ shp y = true ∧ PyData.eqv (toP x) (toP y) = false ∧ P (.bl true) e) : qNe x y e P := v_neN h
theorem ins_cell {cs : List Cel} {n : Nat} {ns : List Str} {xs : List D} (h : cs[n]? = some (.ins C ns xs)) : insD cs (.cell n) = some (C, ns, xs) := by
  show (match cs[n]? with | some (.ins C ns xs) => some (C, ns, xs) | _ => none) = some (C, ns, xs)
  rw [h]
theorem v_asgG {g : DG} (h : te e fun d e1 => g d e1 Po'.nx) : sAsgG te g Po' e := h
theorem v_gN {i : Nat} (h : PE' { e with sl := e.sl.set i (some d) }) : gN i d e PE' := h
theorem v_gF (h : to e fun o e1 => updF C f o d e1 PE') : gF C f to d e PE' := h
theorem v_gZ (h : PE' e) : gZ [] e PE' := ⟨rfl, h⟩
theorem v_gC {t : DG} {u : DGs} {xs : List D} (h : t x e fun e1 => u xs e1 PE') : gC t u (x :: xs) e PE' := ⟨_, _, rfl, h⟩
theorem v_gT {n : Nat} {u : DGs} {xs : List D} (h : xs.length = n ∧ u xs e PE') : gT n u (.tup xs) e PE' := ⟨_, rfl, h⟩
theorem v_updF (h : ∃ n ns xs i, x = .cell n ∧ e.cs[n]? = some (.ins C ns xs) ∧ ns.length < 900 ∧ ixF f ns = some i ∧ PE' { e with cs := e.cs.set n (.ins C ns (xs.set i d)) }) : updF C f x d e PE' := h
theorem v_fldU (h : tv e fun v e1 => to e1 fun o e2 => updF C f o v e2 Po'.nx) : sFldU C f to tv Po' e := h
theorem v_fldA {q : D → D → DE} (h : to e fun o e1 => ∃ ns xs x, insD e1.cs o = some (C, ns, xs) ∧ getF f ns xs = some x ∧ tv e1 fun y e2 => q x y e2 fun z e3 => updF C f o z e3 Po'.nx) : sFldA C f q to tv Po' e := h
theorem v_addII (p : P (.int (a + b)) e) : qAddI (.int a) (.int b) e P := ⟨a, b, rfl, rfl, p⟩
theorem v_methX {cs : List Cel} {m : Str} {R : Prop} (h : (∃ ns xs, insD cs d = some (C, ns, xs) ∧ m ∉ ns) ∧ R) : (∃ ns xs, insD cs d = some (C, ns, xs) ∧ m ∉ ns) ∧ R := h
theorem v_while {c : DT} {tb : DS} (h : ∃ I : Nat → En → Prop, (∃ m, I m e) ∧ ∀ m e1, I m e1 → c e1 fun b e2 => if b = true then tb (Po'.lp fun e3 => ∃ m', m' < m ∧ I m' e3) e2 else Po'.nx e2) : sWhile c tb Po' e := h
theorem v_setO {ti : DE} {sp : Spc} (h : tv e fun v e1 => to e1 fun o e2 => ti e2 fun i e3 => (∃ ns xs, insD e3.cs o = some (C, ns, xs)) ∧ sp [o, i, v] e3.cs fun _ cs' => Po'.nx { e3 with cs := cs' }) : sSetO C sp tv to ti Po' e := h
theorem v_en {t : DA} {Q : List D → (List Cel → Prop) → En → Prop} (h : t e fun ds e1 => ∃ d, ds = [d] ∧ itL d e1 fun xs G e2 => Q (enumD 0 xs) G e2) : iEn t e Q := h
theorem v_oneD {PQ : D → Prop} (h : PQ d) : ∃ d', [d] = [d'] ∧ PQ d' := ⟨d, rfl, h⟩
theorem v_addL {o : Bool} {xs ys : List D} (h : xs.length + ys.length ≤ 100000 ∧ newL o (xs ++ ys) e P) : qAdd o (.lst xs) (.lst ys) e P := ⟨xs, ys, rfl, rfl, Nat.le_trans h.1 (by decide), h.2⟩
end
end DL
namespace DL
open PySem PySem.Spec PyProof.Rows L2
open Evl (Ex)

/-! ### data that may be compared -/
structure Sh (n : Nat) (d : D) : Prop where
  ok : okD d = true
  lay : (toP d).canLay0 = true
  dep : (toP d).depth ≤ n
structure Shs (n : Nat) (ds : List D) : Prop where
  ok : okDs ds = true
  lay : PyData.canLayAll0 (toPs ds) = true
  dep : PyData.depthAll (toPs ds) ≤ n
theorem Sh.shp {n : Nat} {d : D} (h : Sh n d) (hn : n ≤ 64 := by decide) : shp d = true := by
  unfold DL.shp SeqAt.shaped
  rw [h.ok, h.lay, decide_eq_true (Nat.le_trans h.dep hn)] <;> rfl
theorem Sh.mono {n m : Nat} {d : D} (h : Sh n d) (hn : n ≤ m) : Sh m d := ⟨h.ok, h.lay, Nat.le_trans h.dep hn⟩
theorem Sh.int (i : Int) : Sh 0 (.int i) := ⟨rfl, rfl, by show (PyData.int _).depth ≤ 0; simp [PyData.depth]⟩
theorem Sh.bl (b : Bool) : Sh 0 (.bl b) := ⟨rfl, rfl, by show (PyData.bool _).depth ≤ 0; simp [PyData.depth]⟩
theorem Sh.non : Sh 0 .non := ⟨rfl, rfl, by show (PyData.none).depth ≤ 0; simp [PyData.depth]⟩
theorem Sh.str {s : Str} (h : (PyData.str s).canLay0 = true) : Sh 0 (.str s) := ⟨rfl, h, by show (PyData.str _).depth ≤ 0; simp [PyData.depth]⟩
theorem Sh.ofE {α : Type} [DecidableEq α] {enc : α → D} {n : Nat} (h : EqE enc n) (a : α) : Sh n (enc a) := ⟨h.ok a, h.lay a, h.dep a⟩
theorem Shs.nil {n : Nat} : Shs n [] := ⟨rfl, rfl, Nat.zero_le _⟩
theorem Shs.cons {n : Nat} {d : D} {ds : List D} (h : Sh n d) (t : Shs n ds) : Shs n (d :: ds) := by
  refine ⟨?_, ?_, ?_⟩
  · show (okD d && okDs ds) = true
    rw [h.ok, t.ok] <;> rfl
  · show ((toP d).canLay0 && PyData.canLayAll0 (toPs ds)) = true
    rw [h.lay, t.lay] <;> rfl
  · have h1 := h.dep
    have h2 := t.dep
    show PyData.depthAll (toP d :: toPs ds) ≤ n
    simp only [PyData.depthAll]
    omega
theorem Shs.all {n : Nat} : ∀ {ds : List D}, (∀ d ∈ ds, Sh n d) → Shs n ds
  | [], _ => .nil
  | d :: ds, h => .cons (h d (List.mem_cons_self ..)) (Shs.all fun x hx => h x (List.mem_cons_of_mem _ hx))
theorem Sh.tup {n : Nat} {ds : List D} (h : Shs n ds) : Sh (n + 1) (.tup ds) := ⟨h.ok, by show (PyData.tuple (toPs ds)).canLay0 = true; simp only [PyData.canLay0]; exact h.lay, by have := h.dep; show (PyData.tuple (toPs ds)).depth ≤ n + 1; simp only [PyData.depth]; omega⟩
theorem Sh.lst {n : Nat} {ds : List D} (h : Shs n ds) : Sh (n + 1) (.lst ds) := ⟨h.ok, by show (PyData.list (toPs ds)).canLay0 = true; simp only [PyData.canLay0]; exact h.lay, by have := h.dep; show (PyData.list (toPs ds)).depth ≤ n + 1; simp only [PyData.depth]; omega⟩
mutual
theorem eqv_refl : ∀ d : PyData, d.canLay0 = true → PyData.eqv d d = true
  | .none, _ => by simp only [PyData.eqv]
  | .bool b, _ => by simp only [PyData.eqv, beq_self_eq_true]
  | .int i, _ => by simp only [PyData.eqv, beq_self_eq_true]
  | .str s, _ => by simp only [PyData.eqv, beq_self_eq_true]
  | .list xs, h => by
    simp only [PyData.canLay0] at h
    simp only [PyData.eqv]
    exact eqvs_refl xs h
  | .tuple xs, h => by
    simp only [PyData.canLay0] at h
    simp only [PyData.eqv]
    exact eqvs_refl xs h
  | .dict _, h => by simp only [PyData.canLay0] at h; cases h
theorem eqvs_refl : ∀ ds : List PyData, PyData.canLayAll0 ds = true → PyData.eqvAll ds ds = true
  | [], _ => by simp only [PyData.eqvAll]
  | d :: ds, h => by
    simp only [PyData.canLayAll0, Bool.and_eq_true] at h
    simp only [PyData.eqvAll, eqv_refl d h.1, eqvs_refl ds h.2, Bool.and_self]
end
section
variable {e : En} {P : D → En → Prop} {x y d : D} {n : Nat}
theorem drf_lk {cs : List Cel} {d : D} {xs : List D} (h : lk cs d = some xs) : drf cs d = .lst xs := by
  cases d with
  | cell n => exact drf_cell (lk_cell_iff h)
  | lst ys => cases h; rfl
  | fro ys => cases h; rfl
  | _ => cases h
theorem v_tgX {tg : Tg} {d : D} {sl : List (Option D)} {PQ : List (Option D) → Prop} (h : ∃ sl', setTg tg d sl = some sl' ∧ PQ sl') : ∃ sl', setTg tg d sl = some sl' ∧ PQ sl' := h
theorem app_set' {cs : List Cel} {c0 c : Cel} : (cs ++ [c0]).set cs.length c = cs ++ [c] := by simp
/-- the same data on both sides -/
theorem v_eqS (hx : drf e.cs x = d) (hy : drf e.cs y = d) (h : Sh n d) (p : P (.bl true) e) (hni : (noInt x || noInt y) = true := by rfl) (hn : n ≤ 64 := by decide) : qEq x y e P :=
  v_eqP ⟨hni, by rw [hx]; exact h.shp hn, by rw [hy]; exact h.shp hn, by rw [hx, hy]; exact eqv_refl _ h.lay, p⟩
theorem v_neS (hx : drf e.cs x = d) (hy : drf e.cs y = d) (h : Sh n d) (p : P (.bl false) e) (hni : (noInt x || noInt y) = true := by rfl) (hn : n ≤ 64 := by decide) : qNe x y e P :=
  v_nePT ⟨hni, by rw [hx]; exact h.shp hn, by rw [hy]; exact h.shp hn, by rw [hx, hy]; exact eqv_refl _ h.lay, p⟩
end
end DL
namespace DL
open PySem PySem.Spec PyProof.Rows L2
open Evl (Ex)

/-! ### an own class beside what is none of it -/
theorem mro_ty : ∀ a ∈ tysB, (PySem.fastBuiltinMro a).isSome = true := by decide +kernel
theorem subIn_ty {K : PySem.W.Frag} {C : Addr} {a : String} (h : a ∈ tysB) : PySem.W.subIn K (.type a) (.ref C) = some false := by
  have q := mro_ty a h
  show (PySem.fastBuiltinMro a).map (·.contains (Value.ref C)) = some false
  unfold PySem.fastBuiltinMro at q ⊢
  cases e : PySem.fastFind? a with
  | none => rw [e] at q; cases q
  | some m =>
    show some ((m.mro.map Value.type).contains (Value.ref C)) = some false
    rw [Option.some.injEq, Bool.eq_false_iff]
    intro z
    obtain ⟨n, _, e⟩ := List.mem_map.mp (List.contains_iff_mem.mp z)
    cases e
theorem nf_ty {K : PySem.W.Frag} {C : Addr} {a : String} (h : a ∈ tysB) : PySem.W.notFirst K C (.type a) = true := by
  unfold PySem.W.notFirst
  rw [subIn_ty h]
  simp
def rCmpA (K : PySem.W.Frag) (C : Addr) (sp : Spc) : R2 := fun x y H Q => ∃ a dx gs t, x = .ref a ∧ H a = some (.ins C dx gs) ∧ TyX K H y (.type t) ∧ t ∈ tysB ∧ spD K sp [.ref a, y] H Q E0
def qCmpA (C : Addr) (sp : Spc) : D → D → DE := fun d y e P => (∃ ns xs, insD e.cs d = some (C, ns, xs)) ∧ ((∃ ns xs, insD e.cs y = some (C, ns, xs)) ∨ ∃ t, tyN e.cs y = some t) ∧ sp [d, y] e.cs fun r cs' => P r { e with cs := cs' }
theorem od_cmpA {K : PySem.W.Frag} {C : Addr} {sp : Spc} : OpD K (fun x y H Q => rTwo K C C sp x y H Q ∨ rCmpA K C sp x y H Q) (qCmpA C sp) := fun W H σ e x y d1 d2 P Q S r1 r2 ⟨⟨n1, x1, i1⟩, h2, t⟩ k => by
  rcases h2 with h2 | ⟨t', h2⟩
  · exact .inl (od_two W H σ e x y d1 d2 P Q S r1 r2 ⟨⟨n1, x1, i1⟩, h2, t⟩ k)
  · obtain ⟨a, dx, gs, rfl, h1, h2', h3⟩ := S.ok.ins r1 i1
    obtain ⟨ty, mem⟩ := S.ok.ty r2 h2
    exact .inr ⟨a, dx, gs, t', rfl, h1, ty, mem, W, e.cs, [d1, d2], _, S.ok, .cons r1 (.cons r2 .nil), t, fun d cs' W' H' v p l ok r' => k _ _ _ _ _ p l ⟨ok, S.sl.mono l⟩ r'⟩
section
variable {X : Cx} {C fn : Addr} {k : Nat} {ps : List Str} {sp : Spc}
theorem op_cmpT {op : CmpOp} (G : Good X.prog X.w X.K X.mg X.base k fn ps sp) (hr : Room k X.A) (hu : X.A.units < cLine) (sm : Sm X.K C (cmpInfo op).2.1 fn) (hop : ∀ a b, compareOp op a b = richCompare op a b := by intros; rfl) : OpR X (compareOp op) (rCmpA X.K C sp) := by
  rintro pins s σ H x y v u Q I rx ry ⟨a, dx, gs, t, rfl, ha, ty, mem, h⟩
  obtain ⟨fd, F, bi, kp⟩ := G
  cases (show v = Value.ref a from rx)
  obtain ⟨od, J⟩ := Inv.inst I ha
  obtain ⟨m, hF⟩ := I.fr
  obtain ⟨Ph, Z, hz, _⟩ := kit_of I ry ty
  rw [hop]
  refine PySem.W.cmp_K hu hF I.ok.mod.kin J (Z.ty _ _ I.kIn hz) (nf_ty mem) sm.at_ sm.fn (wpAny_mono (run_in (us := [.ref a, u]) (vs := [V.ref a, y]) F bi hr I.env0 I (.cons rfl (.cons ry .nil)) h) (fun v s' z => ?_) fun _ _ z => z)
  obtain ⟨v', H', I', rv, q⟩ := z
  exact RelV.cmp rv (P := EP X pins σ Q) ⟨v', H', I', rv, q⟩
theorem op_cmpA {op : CmpOp} (G : Good X.prog X.w X.K X.mg X.base k fn ps sp) (hr : Room k X.A) (hu : X.A.units < cLine) (sm : Sm X.K C (cmpInfo op).2.1 fn) (hop : ∀ a b, compareOp op a b = richCompare op a b := by intros; rfl) :
    OpR X (compareOp op) (fun x y H Q => rTwo X.K C C sp x y H Q ∨ rCmpA X.K C sp x y H Q) := (op_cmpO G hr hu sm hop).or (op_cmpT G hr hu sm hop)
end
def qIsiA (C : Addr) : List D → DE
  | [d, .raw (.ref C')] => fun e P => C' = C ∧ (((∃ ns xs, insD e.cs d = some (C, ns, xs)) ∧ P (.bl true) e) ∨ ((∃ t, tyN e.cs d = some t) ∧ P (.bl false) e))
  | _ => fun _ _ => False
theorem cd_isiA {K : PySem.W.Frag} {C : Addr} (kt : ∀ a ∈ tysB, PySem.W.kitOne K (.type a) (.ref C) = some false) : CallD K (fun xs H Q => (∃ a dx fs, xs = [.ref a, .ref C] ∧ H a = some (.ins C dx fs) ∧ Q (.bl true) H) ∨ rIsi K xs H Q) (qIsiA C) := by
  intro W H σ e vs ds P Q S r t k
  unfold qIsiA at t
  split at t
  · obtain ⟨v, v2, rfl, r1, r2⟩ := r.two
    obtain ⟨rfl, t⟩ := t
    rcases t with ⟨⟨ns, xs, hi⟩, p⟩ | ⟨⟨a, ea⟩, p⟩
    · obtain ⟨a, dx, gs, rfl, h1, _⟩ := S.ok.ins r1 hi
      cases r2
      exact .inl ⟨a, dx, gs, rfl, h1, k _ _ _ _ _ p W.le_refl S (.bl _)⟩
    · obtain ⟨ty, mem⟩ := S.ok.ty r1 ea
      cases r2
      exact .inr ⟨v, .ref _, _, _, _, rfl, .own _, ty, kt _ mem, k _ _ _ _ _ p W.le_refl S (.bl _)⟩
  · exact t.elim
theorem v_isAT {C : Addr} {d : D} {e : En} {P : D → En → Prop} (h : ∃ ns xs, insD e.cs d = some (C, ns, xs)) (p : P (.bl true) e) : qIsiA C [d, .raw (.ref C)] e P := ⟨rfl, .inl ⟨h, p⟩⟩
theorem v_isAF {C : Addr} {d : D} {e : En} {P : D → En → Prop} (h : ∃ t, tyN e.cs d = some t) (p : P (.bl false) e) : qIsiA C [d, .raw (.ref C)] e P := ⟨rfl, .inr ⟨h, p⟩⟩

/-! ### minus -/
def eNeg (ta : DE) : DE := fun e P => ta e fun x e1 => ∃ i, x = .int i ∧ P (.int (-i)) e1
section
variable {X : Cx} {B : Bs} {a : Expr} {pos : Pos} {ta : DE}
theorem de_neg (ha : PE X a (lE X.K B ta)) : PE X (.UnaryOp .USub a pos) (lE X.K B (eNeg ta)) :=
  PE.imp (pe_un un_neg ha) fun σ H Q ⟨W, e, P, bl, S, t, k⟩ => ⟨W, e, _, bl, S, t, fun x e1 W1 H1 v ⟨c, ex, h1⟩ l1 S1 r1 => ⟨c, by subst ex; exact r1.int_inv, k _ _ _ _ _ h1 l1 S1 (.int _)⟩⟩
end
theorem v_neg {ta : DE} {e : En} {P : D → En → Prop} (h : ta e fun x e1 => ∃ i, x = .int i ∧ P (.int (-i)) e1) : eNeg ta e P := h
theorem v_oneI {i : Int} {PQ : Int → Prop} (h : PQ i) : ∃ j, D.int i = .int j ∧ PQ j := ⟨i, rfl, h⟩
section
variable {e : En} {P : D → En → Prop}
theorem v_isnB {a b : Bool} (p : P (.bl (!decide (a = b))) e) : qIsNot (.bl a) (.bl b) e P := p
theorem v_isB {a b : Bool} (p : P (.bl (decide (a = b))) e) : qIs (.bl a) (.bl b) e P := p
end
theorem cut_last {α : Type} (f : α → D) (fs : List α) : cutD (fs.map f) none (some (-1)) = (fs.take (fs.length - 1)).map f := by
  unfold cutD
  have h := HT.clip_eq (-1) fs.length fs.length
  rw [if_pos (by decide)] at h
  have h2 : HT.sIx fs.length fs.length (some (-1)) = fs.length - 1 := by omega
  rw [HT.sIx_none, List.length_map, List.drop_zero, h2, ← List.map_take, Nat.sub_zero]
theorem cut_from {α : Type} (f : α → D) (fs : List α) (k : Nat) : cutD (fs.map f) (some (k : Int)) none = (fs.drop k).map f := by
  unfold cutD
  rw [HT.sIx_none, HT.sIx_nat, List.length_map, ← List.map_drop, ← List.map_take]
  congr 1
  rcases Nat.le_total k fs.length with h | h
  · rw [Nat.min_eq_left h, List.take_of_length_le (by simp)]
  · rw [Nat.min_eq_right h, List.drop_eq_nil_of_le (Nat.le_refl _), List.drop_eq_nil_of_le h]
    simp
theorem cut_mid {α : Type} (f : α → D) (fs : List α) (i j : Nat) (h : i ≤ j) (h2 : j ≤ fs.length) : cutD (fs.map f) (some (i : Int)) (some (j : Int)) = ((fs.drop i).take (j - i)).map f := by
  unfold cutD
  rw [HT.sIx_nat, HT.sIx_nat, List.length_map, ← List.map_drop, ← List.map_take, Nat.min_eq_left h2, Nat.min_eq_left (Nat.le_trans h h2)]
theorem atI_end {α : Type} {f : α → D} {xs : List α} {x : α} (h : xs[xs.length - 1]? = some x) : atI (xs.map f) (-1) = some (f x) := by
  have hl := (List.getElem?_eq_some_iff.mp h).1
  have e : ixN (xs.map f).length (-1) = some (xs.length - 1) := by
    unfold ixN
    rw [List.length_map, if_neg (by decide), if_pos (by omega)]
    congr 1
    omega
  unfold atI
  rw [e]
  show (xs.map f)[xs.length - 1]? = some (f x)
  rw [List.getElem?_map, h]
  rfl
end DL
namespace DL
open PySem PySem.Spec PyProof.Rows L2
open Evl (Ex)

/-! ### in, of an own class -/
section
variable {prog : Program} {w : World} {A : Around} {E : Value → Shared → Prop} {s : Shared} {K : PySem.W.Frag} {x C f : Addr} {ox : Obj} {od : Option Obj} {y : Value} {Q : Bool → Shared → Prop}
open PySem.W in
theorem contains_own {M : Model} (X : K.In s.heap) (I : InstAt s.heap x ox C od) (hs : findIn K (.ref C) "__contains__" = some (some (.ref f))) (hf : typeIn K (.ref f) = some (.type "function"))
    (h : wpAny M A (call (.ref f) [.ref x, y]) (fun v s' => ∃ b, v = .bool b ∧ Q b s') E s) : wpAny M A (contains (.ref x) y) Q E s := by
  unfold contains specialOf
  refine wpAny_holding ?_
  refine wpAny_bind (wpAny_bind (I.type.here ((looks_findIn X hs).here ?_)))
  rw [if_neg (show ¬ ((some (Value.ref f) == some Value.none) = true) by simp)]
  unfold callSpecialUnlessNone? specialOf
  refine wpAny_bind (wpAny_bind (wpAny_bind (I.type.here ((looks_findIn X hs).here ?_))))
  refine wpAny_holding (wpAny_bind ((bind_fn X _ hf).here ?_))
  dsimp only
  rw [if_neg (show ¬ ((Value.ref f == Value.none) = true) by simp)]
  refine wpAny_bind (wpAny_mono h (fun v s' hv => ?_) fun _ _ z => z)
  obtain ⟨b, rfl, q⟩ := hv
  exact wpAny_pure (wpAny_truthy_bool q)
end
def isB : D → Prop := fun d => ∃ b, d = .bl b
def rInO (K : PySem.W.Frag) (C : Addr) (sp : Spc) : R2 := fun y x H Q => ∃ a dx gs, x = .ref a ∧ H a = some (.ins C dx gs) ∧ spD K sp [.ref a, y] H (fun v H' => (∃ b, v = .bl b) ∧ Q v H') E0
def qInO (C : Addr) (sp : Spc) : D → D → DE := fun y d e P => (∃ ns xs, insD e.cs d = some (C, ns, xs)) ∧ sp [d, y] e.cs fun r cs' => isB r ∧ P r { e with cs := cs' }
theorem od_inO {K : PySem.W.Frag} {C : Addr} {sp : Spc} : OpD K (rInO K C sp) (qInO C sp) := fun W H σ e x y d1 d2 P Q S r1 r2 ⟨⟨n1, x1, i1⟩, t⟩ k => by
  obtain ⟨a, dx, gs, rfl, h1, h2, h3⟩ := S.ok.ins r2 i1
  exact ⟨a, dx, gs, rfl, h1, W, e.cs, [d2, d1], _, S.ok, .cons r2 (.cons r1 .nil), t, fun d cs' W' H' v ⟨⟨b, hb⟩, p⟩ l ok r' => ⟨⟨b, by subst hb; exact r'.bl_inv⟩, k _ _ _ _ _ p l ⟨ok, S.sl.mono l⟩ r'⟩⟩
theorem op_inO {X : Cx} {C fn : Addr} {k : Nat} {ps : List Str} {sp : Spc} (G : Good X.prog X.w X.K X.mg X.base k fn ps sp) (hr : Room k X.A) (sm : Sm X.K C "__contains__" fn) : OpR X (compareOp .In) (rInO X.K C sp) := by
  rintro pins s σ H y x v u Q I ry rx ⟨a, dx, gs, rfl, ha, h⟩
  obtain ⟨fd, F, bi, kp⟩ := G
  cases (show u = Value.ref a from rx)
  obtain ⟨od, J⟩ := Inv.inst I ha
  show wpAny (model X.prog X.w) X.A ((contains (.ref a) v) >>= fun b => pure (Value.bool b)) _ _ s
  have c : wpAny (model X.prog X.w) X.A (contains (.ref a) v) (fun b s' => EP X pins σ Q (Value.bool b) s') X.xe s := by
    refine contains_own I.kIn J sm.at_ (beq_iff_eq.mp sm.fn) (wpAny_mono (run_in (us := [.ref a, v]) (vs := [V.ref a, y]) F bi hr I.env0 I (.cons rfl (.cons ry .nil)) h) (fun v s' z => ?_) fun _ _ z => z)
    obtain ⟨v', H', I', rv, ⟨b, rfl⟩, q⟩ := z
    cases rv
    exact ⟨b, rfl, .bl b, H', I', rfl, q⟩
  exact wpAny_bind (wpAny_mono c (fun b s' q => wpAny_pure q) fun _ _ z => z)

/-! ### more list methods -/
section
variable {K : PySem.W.Frag}
theorem RAll.eraseIdx {W : Wd} : ∀ {vs : List V} {ds : List D} (k : Nat), RAll K W vs ds → RAll K W (vs.eraseIdx k) (ds.eraseIdx k)
  | _, _, _, .nil => .nil
  | _, _, 0, .cons _ t => t
  | _, _, k + 1, .cons r t => .cons r (RAll.eraseIdx k t)
def qClr : D → List D → DE := fun d ds e P => ∃ n xs, d = .cell n ∧ ds = [] ∧ e.cs[n]? = some (.lst xs) ∧ P .non { e with cs := e.cs.set n (.lst []) }
theorem md_clr : MtD K rClear qClr := by
  rintro W H σ e x vs d ds P Q S r rs ⟨n, xs, rfl, rfl, hc, p⟩ k
  cases rs
  cases r with
  | @cell _ a hm =>
    obtain ⟨vs, h1, h2⟩ := S.ok.cellL hm hc
    refine ⟨a, vs, rfl, rfl, h1, ?_⟩
    exact k _ _ _ _ _ p W.le_refl ⟨S.ok.setC hm hc (fun z => nomatch z) ⟨_, upd_same, .nil⟩, S.sl⟩ .non
/-- xs.pop(i), i from the front -/
def qPopI : D → List D → DE := fun d ds e P => ∃ (n : Nat) (xs : List D) (i : Nat) (y : D), d = .cell n ∧ ds = [.int (i : Nat)] ∧ e.cs[n]? = some (.lst xs) ∧ xs[i]? = some y ∧ i < 1000000 ∧ P y { e with cs := e.cs.set n (.lst (xs.eraseIdx i)) }
theorem md_popI : MtD K rPopAt qPopI := by
  rintro W H σ e x vs d ds P Q S r rs ⟨n, xs, i, y, rfl, rfl, hc, hy, hi, p⟩ k
  obtain ⟨v, rfl, rv⟩ := rs.one
  cases rv
  cases r with
  | @cell _ a hm =>
    obtain ⟨vs, h1, h2⟩ := S.ok.cellL hm hc
    obtain ⟨z, hz, rz⟩ := h2.get hy
    have hl := (List.getElem?_eq_some_iff.mp hz).1
    refine ⟨a, vs, _, i, z, rfl, rfl, h1, by omega, by omega, ?_, hz, ?_⟩
    · exact (ixN_seq (Evl.ixN_nat hl)).1
    · exact k _ _ _ _ _ p W.le_refl ⟨S.ok.setC hm hc (fun z => nomatch z) ⟨_, upd_same, h2.eraseIdx i⟩, S.sl⟩ rz
end
/-! ### whole numbers of the module -/
theorem de_intG {X : Cx} {B : Bs} {x : Str} {i : Int} {pos : Pos} (hg : Gl X x) (hm : ∃ t, X.mg x = some (.int i t)) (hd : (x == ("__debug__" : Str)) = false := by decide) : PE X (.Name x pos) (lE X.K B (eC (.int i))) := by
  obtain ⟨t, hm⟩ := hm
  exact de_glob hg hm (show RelV (.int i) (.int i t) from ⟨t, rfl⟩) (fun _ => .int i) hd
end DL
namespace DL
open PySem PySem.Spec PyProof.Rows L2
open Evl (Ex)

/-! ### comprehensions of two clauses -/
def eLc2 (o : Bool) (it : DI) (tg : Tg) (tt : DT) (it1 : DI) (tg1 : Tg) (tt1 : DT) (te : DE) (vs vs1 : List Nat) : DE := fun e P => it e fun ds G e1 => ∃ I : Nat → List D → List Cel → Prop, I 0 [] e1.cs ∧
  (∀ i d acc cs, ds[i]? = some d → I i acc cs → G cs ∧ ∃ sl', setTg tg d (wipeD e1.sl vs) = some sl' ∧ tt ⟨sl', cs⟩ fun b e2 => if b = true then
    it1 e2 fun ds1 G1 e3 => ∃ I1 : Nat → List D → List Cel → Prop, I1 0 acc e3.cs ∧
      (∀ j d1 acc1 cs1, ds1[j]? = some d1 → I1 j acc1 cs1 → G1 cs1 ∧ ∃ sl2, setTg tg1 d1 (wipeD e3.sl vs1) = some sl2 ∧ tt1 ⟨sl2, cs1⟩ fun b1 e4 => if b1 = true then te e4 fun y e5 => acc1.length < sizeLine ∧ I1 (j + 1) (acc1 ++ [y]) e5.cs else I1 (j + 1) acc1 e4.cs) ∧
      ∀ acc1 cs1, I1 ds1.length acc1 cs1 → G1 cs1 ∧ I (i + 1) acc1 cs1
    else I (i + 1) acc e2.cs) ∧
  ∀ acc cs, I ds.length acc cs → G cs ∧ newL o acc ⟨e1.sl, cs⟩ P
section
variable {K : PySem.W.Frag} {X : Cx} {B : Bs} {elt tgE iter tgE1 iter1 : Expr} {ifs ifs1 : List Expr} {scope : Scope} {own : List (Str × Nat)} {pos : Pos} {it it1 : DI} {tg tg1 : Tg} {tt tt1 : DT} {te : DE} {o : Bool}
/-- the list that grows, hidden -/
def HidS (K : PySem.W.Frag) (F1 : Hp) (m1 : List Addr) (h1 : List (Addr × List V)) (Dl : Addr) (H : Hp) (acc : List D) (cs : List Cel) : Prop :=
  ∃ (F : Hp) (mm : List Addr) (vs' : List V), Wd.sub ⟨F1, m1, h1⟩ ⟨F, mm, (Dl, vs') :: h1⟩ ∧ Ok K ⟨F, mm, (Dl, vs') :: h1⟩ H cs ∧ RAll K ⟨F, mm, (Dl, vs') :: h1⟩ vs' acc
theorem lc2_ok {vs vs1 : List Nat} (hv : ∀ i ∈ tg.on, i ∈ vs) (hv1 : ∀ i ∈ tg1.on, i ∈ vs1) : ∀ σ H Q, lE K B (eLc2 o it tg tt it1 tg1 tt1 te vs vs1) σ H Q →
    tLc2 (lI K B it) (gV K tg) (lT K Bs.any tt) (lI K Bs.any it1) (gV K tg1) (lT K Bs.any tt1) (lE K Bs.any te) vs vs1 σ H Q := by
  rintro σ H Q ⟨W, e, P, bl, S, t, k⟩
  refine ⟨W, e, _, bl, S, t, fun ds G e1 W1 H1 J ⟨I, i0, turn, done⟩ l1 S1 wk Dl hD => ?_⟩
  obtain ⟨F1, m1, h1⟩ := W1
  refine ⟨fun i m H => m = ds.length - i ∧ i ≤ ds.length ∧ ∃ (acc : List D) (cs : List Cel), HidS K F1 m1 h1 Dl H acc cs ∧ I i acc cs,
    ⟨_, rfl, Nat.zero_le _, [], e1.cs, ⟨F1, m1, [], ⟨Ex.refl _, [], (List.append_nil _).symm⟩, S1.ok.hide hD, .nil⟩, i0⟩, ?_⟩
  rintro i m H2 ⟨rfl, hi, acc, cs, ⟨F, mm, vs', sb, ok, ra⟩, p⟩
  have Sx : Sd K ⟨F, mm, (Dl, vs') :: h1⟩ H2 σ ⟨e1.sl, cs⟩ := ⟨ok, S1.sl.mono' sb⟩
  by_cases hlt : i < ds.length
  · have hd : ds[i]? = some ds[i] := by simp [hlt]
    obtain ⟨g2, sl', hsl, p3⟩ := turn i _ acc cs hd p
    refine .inr ⟨wk.go i _ H2 σ _ sb Sx g2 hlt, fun H => ∃ (acc : List D) (cs : List Cel), HidS K F1 m1 h1 Dl H acc cs ∧ I (i + 1) acc cs, fun H' q => ⟨ds.length - (i + 1), by omega, rfl, hlt, q⟩, fun x H' y => ?_⟩
    obtain ⟨W3, l3, S3, r3⟩ := wk.yld i _ H2 σ _ x H' _ sb Sx g2 hd y
    have S3w : Sd K W3 H' (wipe σ vs) ⟨wipeD e1.sl vs, cs⟩ := ⟨S3.ok, S3.sl.wipe vs⟩
    refine gV_ok (vs := vs) S3w r3 hsl fun σ4 S4 w4 => ⟨by rw [w4 hv, wipe_wipe], ?_⟩
    refine ⟨W3, _, _, trivial, S4, p3, fun b e5 W5 H5 p5 l5 S5 => ?_⟩
    have l35 := l3.tr l5
    cases b with
    | false =>
      refine iteF ⟨acc, e5.cs, ?_, p5⟩
      have ra5 := RAll.mono l35 _ _ ra
      obtain ⟨F5, m5, h5⟩ := W5
      obtain rfl : h5 = (Dl, vs') :: h1 := l35.2.2
      exact ⟨F5, m5, vs', sb.tr (W2 := ⟨F5, m5, (Dl, vs') :: h1⟩) ⟨l35.1, l35.2.1⟩, S5.ok, ra5⟩
    | true =>
      refine iteT ⟨W5, e5, _, trivial, S5, p5, fun ds1 G1 e6 W6 H6 J1 ⟨I1, i10, turn1, done1⟩ l6 S6 wk1 => ?_⟩
      have l36 := l35.tr l6
      have ra6 := RAll.mono l36 _ _ ra
      obtain ⟨F6, m6, h6⟩ := W6
      obtain rfl : h6 = (Dl, vs') :: h1 := l36.2.2
      have sb6 : Wd.sub ⟨F1, m1, h1⟩ ⟨F6, m6, (Dl, vs') :: h1⟩ := sb.tr (W2 := ⟨F6, m6, (Dl, vs') :: h1⟩) ⟨l36.1, l36.2.1⟩
      refine ⟨fun j k H => k = ds1.length - j ∧ j ≤ ds1.length ∧ ∃ (acc1 : List D) (cs1 : List Cel), HidS K F6 m6 h1 Dl H acc1 cs1 ∧ I1 j acc1 cs1,
        ⟨_, rfl, Nat.zero_le _, acc, e6.cs, ⟨F6, m6, vs', ⟨Ex.refl _, [], (List.append_nil _).symm⟩, S6.ok, ra6⟩, i10⟩, ?_⟩
      rintro j k1 H7 ⟨rfl, hj, acc1, cs1, ⟨F7, mm7, vs7, sb7, ok7, ra7⟩, q1⟩
      have sb7' : Wd.sub ⟨F6, m6, (Dl, vs') :: h1⟩ ⟨F7, mm7, (Dl, vs7) :: h1⟩ := ⟨sb7.1, sb7.2⟩
      have Sx7 : Sd K ⟨F7, mm7, (Dl, vs7) :: h1⟩ H7 σ4 ⟨e6.sl, cs1⟩ := ⟨ok7, S6.sl.mono' sb7'⟩
      by_cases hlt1 : j < ds1.length
      · have hd1 : ds1[j]? = some ds1[j] := by simp [hlt1]
        obtain ⟨g7, sl7, hsl7, p7⟩ := turn1 j _ acc1 cs1 hd1 q1
        refine .inr ⟨wk1.go j _ H7 σ4 _ sb7' Sx7 g7 hlt1, fun H => ∃ (acc1 : List D) (cs1 : List Cel), HidS K F6 m6 h1 Dl H acc1 cs1 ∧ I1 (j + 1) acc1 cs1, fun H' q => ⟨ds1.length - (j + 1), by omega, rfl, hlt1, q⟩, fun x1 H8 y1 => ?_⟩
        obtain ⟨W8, l8, S8, r8⟩ := wk1.yld j _ H7 σ4 _ x1 H8 _ sb7' Sx7 g7 hd1 y1
        have S8w : Sd K W8 H8 (wipe σ4 vs1) ⟨wipeD e6.sl vs1, cs1⟩ := ⟨S8.ok, S8.sl.wipe vs1⟩
        refine gV_ok (vs := vs1) S8w r8 hsl7 fun σ9 S9 w9 => ⟨by rw [w9 hv1, wipe_wipe], ?_⟩
        refine ⟨W8, _, _, trivial, S9, p7, fun b1 e10 W10 H10 p10 l10 S10 => ?_⟩
        have l810 := l8.tr l10
        cases b1 with
        | false =>
          refine iteF ⟨acc1, e10.cs, ?_, p10⟩
          have ra10 := RAll.mono l810 _ _ ra7
          obtain ⟨F10, m10, h10⟩ := W10
          obtain rfl : h10 = (Dl, vs7) :: h1 := l810.2.2
          exact ⟨F10, m10, vs7, sb7.tr (W2 := ⟨F10, m10, (Dl, vs7) :: h1⟩) ⟨l810.1, l810.2.1⟩, S10.ok, ra10⟩
        | true =>
          refine iteT ⟨W10, e10, _, trivial, S10, p10, fun y e11 W11 H11 v11 ⟨hz, p11⟩ l11 S11 r11 => ?_⟩
          have l811 := l810.tr l11
          have hD11 : H11 Dl = some (.lst vs7) := (S11.ok.hd (Dl, vs7) (by rw [l811.2.2]; exact List.mem_cons_self)).1
          have ra11 := RAll.mono l811 _ _ ra7
          refine ⟨vs7, hD11, by rw [ra11.length]; exact hz, acc1 ++ [y], e11.cs, ?_, p11⟩
          have ok11 := S11.ok
          have ra12 := ra11.app1 r11
          obtain ⟨F11, m11, h11⟩ := W11
          obtain rfl : h11 = (Dl, vs7) :: h1 := l811.2.2
          exact ⟨F11, m11, vs7 ++ [v11], sb7.tr (W2 := ⟨F11, m11, (Dl, vs7 ++ [v11]) :: h1⟩) ⟨l811.1, l811.2.1⟩, ok11.grow, ra12.world rfl rfl⟩
      · have ei : j = ds1.length := by omega
        subst ei
        obtain ⟨g7, q7⟩ := done1 acc1 cs1 q1
        exact .inl ⟨wk1.stop _ _ H7 σ4 _ sb7' Sx7 g7 (Nat.le_refl _), acc1, cs1, ⟨F7, mm7, vs7, sb6.tr (W2 := ⟨F7, mm7, (Dl, vs7) :: h1⟩) sb7', ok7, ra7⟩, q7⟩
  · have ei : i = ds.length := by omega
    subst ei
    obtain ⟨g2, q⟩ := done acc cs p
    refine .inl ⟨wk.stop _ _ H2 σ _ sb Sx g2 (Nat.le_refl _), ?_⟩
    have ra' : RAll K ⟨F, mm, h1⟩ vs' acc := ra.world rfl rfl
    have lx : (⟨F1, m1, h1⟩ : Wd).le ⟨F, mm, h1⟩ := ⟨sb.1, sb.2, rfl⟩
    cases o with
    | false =>
      obtain ⟨ok', l'⟩ := ok.showF
      exact k _ _ _ _ _ q (l1.tr (lx.tr l')) ⟨ok', S1.sl.mono (lx.tr l')⟩ (.lst upd_same (RAll.mono l' _ _ ra'))
    | true =>
      obtain ⟨ok', l'⟩ := ok.showC ra'
      refine k _ _ _ _ _ q (l1.tr (lx.tr l')) ⟨ok', S1.sl.mono (lx.tr l')⟩ (.cell ?_)
      show (mm ++ [Dl])[cs.length]? = some Dl
      have hl : mm.length = cs.length := ok.len
      rw [← hl, List.getElem?_append_right (Nat.le_refl _)]
      simp
theorem de_lc2 {vs1 : List Nat} (hc : X.calm = true) (hN : X.N.Nodup) (hi : PI X tgE iter (lI X.K B it)) (ok : BlkOk X.N X.env.scope scope own) (hv : ∀ i ∈ tg.on, i ∈ own.map (·.2)) (hv1 : ∀ i ∈ tg1.on, i ∈ vs1) (hv2 : ∀ i ∈ vs1, i ∈ own.map (·.2))
    (hg : ∀ (s : Shared) (H : Hp) (C : Addr) (cl : List (Str × Addr)) (fp : List Addr), PG (X.blk s H scope (compEnvC scope cl C X.env) fp) tgE (gV X.K tg)) (ht : ∀ (s : Shared) (H : Hp) (C : Addr) (cl : List (Str × Addr)) (fp : List Addr), PTs (X.blk s H scope (compEnvC scope cl C X.env) fp) ifs (lT X.K Bs.any tt))
    (hi1 : ∀ (s : Shared) (H : Hp) (C : Addr) (cl : List (Str × Addr)) (fp : List Addr), PI (X.blk s H scope (compEnvC scope cl C X.env) fp) tgE1 iter1 (lI X.K Bs.any it1))
    (hg1 : ∀ (s : Shared) (H : Hp) (C : Addr) (cl : List (Str × Addr)) (fp : List Addr), PG (X.blk s H scope (compEnvC scope cl C X.env) fp) tgE1 (gV X.K tg1)) (ht1 : ∀ (s : Shared) (H : Hp) (C : Addr) (cl : List (Str × Addr)) (fp : List Addr), PTs (X.blk s H scope (compEnvC scope cl C X.env) fp) ifs1 (lT X.K Bs.any tt1))
    (he : ∀ (s : Shared) (H : Hp) (C : Addr) (cl : List (Str × Addr)) (fp : List Addr), PE (X.blk s H scope (compEnvC scope cl C X.env) fp) elt (lE X.K Bs.any te)) (hs : ∀ x, foldedSetIterable iter X.env x = pure x := by intro _; rfl) (hs1 : ∀ env x, foldedSetIterable iter1 env x = pure x := by intro _ _; rfl) :
    PE X (.ListComp elt [⟨tgE, iter, ifs, 0⟩, ⟨tgE1, iter1, ifs1, 0⟩] scope pos) (lE X.K B (eLc2 o it tg tt it1 tg1 tt1 te (own.map (·.2)) vs1)) := PE.imp (pe_lc2 hc hN hi ok hv2 hg ht hi1 hg1 ht1 he hs hs1) (lc2_ok hv hv1)
end
theorem v_lc2 {e : En} {P : D → En → Prop} {tg tg1 : Tg} {tt tt1 : DT} {te : DE} {vs vs1 : List Nat} {o : Bool} {it it1 : DI} (h : it e fun ds G e1 => ∃ I : Nat → List D → List Cel → Prop, I 0 [] e1.cs ∧
  (∀ i d acc cs, ds[i]? = some d → I i acc cs → G cs ∧ ∃ sl', setTg tg d (wipeD e1.sl vs) = some sl' ∧ tt ⟨sl', cs⟩ fun b e2 => if b = true then
    it1 e2 fun ds1 G1 e3 => ∃ I1 : Nat → List D → List Cel → Prop, I1 0 acc e3.cs ∧
      (∀ j d1 acc1 cs1, ds1[j]? = some d1 → I1 j acc1 cs1 → G1 cs1 ∧ ∃ sl2, setTg tg1 d1 (wipeD e3.sl vs1) = some sl2 ∧ tt1 ⟨sl2, cs1⟩ fun b1 e4 => if b1 = true then te e4 fun y e5 => acc1.length < sizeLine ∧ I1 (j + 1) (acc1 ++ [y]) e5.cs else I1 (j + 1) acc1 e4.cs) ∧
      ∀ acc1 cs1, I1 ds1.length acc1 cs1 → G1 cs1 ∧ I (i + 1) acc1 cs1
    else I (i + 1) acc e2.cs) ∧
  ∀ acc cs, I ds.length acc cs → G cs ∧ newL o acc ⟨e1.sl, cs⟩ P) : eLc2 o it tg tt it1 tg1 tt1 te vs vs1 e P := h
end DL
namespace DL
open PySem PySem.Spec PyProof.Rows L2
open Evl (Ex)

/-! ### max, min of two -/
section
variable {K : PySem.W.Frag}
def qMax2 : List D → DE
  | [.int i, .int j] => fun e P => P (.int (if j > i then j else i)) e
  | _ => fun _ _ => False
def qMin2 : List D → DE
  | [.int i, .int j] => fun e P => P (.int (if j < i then j else i)) e
  | _ => fun _ _ => False
theorem cd_max2 : CallD K (fun xs H Q => ∃ i j, xs = [.int i, .int j] ∧ Q (.int (if j > i then j else i)) H) qMax2 := by
  intro W H σ e vs ds P Q S r t k
  unfold qMax2 at t
  split at t
  · exact ⟨_, _, r.two_int, k _ _ _ _ _ t W.le_refl S (.int _)⟩
  · exact t.elim
theorem cd_min2 : CallD K (fun xs H Q => ∃ i j, xs = [.int i, .int j] ∧ Q (.int (if j < i then j else i)) H) qMin2 := by
  intro W H σ e vs ds P Q S r t k
  unfold qMin2 at t
  split at t
  · exact ⟨_, _, r.two_int, k _ _ _ _ _ t W.le_refl S (.int _)⟩
  · exact t.elim
end
section
variable {e : En} {P : D → En → Prop} {a b : Int}
theorem v_max2 (p : P (.int (if b > a then b else a)) e) : qMax2 [.int a, .int b] e P := p
theorem v_min2 (p : P (.int (if b < a then b else a)) e) : qMin2 [.int a, .int b] e P := p
end
theorem bt_max : bootBuiltins "max" = some (.builtin "max") := by rfl
theorem bt_min : bootBuiltins "min" = some (.builtin "min") := by rfl
/-! ### extend; what is never reached -/
def qExt : D → List D → DE := fun d ds e P => ∃ n xs y ys, d = .cell n ∧ ds = [y] ∧ e.cs[n]? = some (.lst xs) ∧ lkP e.cs y = some ys ∧ xs.length + ys.length ≤ 100000 ∧ P .non { e with cs := e.cs.set n (.lst (xs ++ ys)) }
theorem RAll.app {K : PySem.W.Frag} {W : Wd} : ∀ {vs ws : List V} {xs ys : List D}, RAll K W vs xs → RAll K W ws ys → RAll K W (vs ++ ws) (xs ++ ys)
  | _, _, _, _, .nil, h => h
  | _, _, _, _, .cons r t, h => .cons r (RAll.app t h)
theorem md_ext {K : PySem.W.Frag} : MtD K rExtend qExt := by
  rintro W H σ e x vs d ds P Q S r rs ⟨n, xs, y, ys, rfl, rfl, hc, hy, hz, p⟩ k
  obtain ⟨v, rfl, rv⟩ := rs.one
  cases r with
  | @cell _ a hm =>
    obtain ⟨vs, h1, h2⟩ := S.ok.cellL hm hc
    obtain ⟨b, ws, rfl, h3, h4⟩ := S.ok.lkP rv hy
    refine ⟨a, b, vs, ws, rfl, rfl, h1, h3, ?_, ?_⟩
    · rw [h2.length, h4.length]
      exact Nat.le_trans hz (by decide)
    exact k _ _ _ _ _ p W.le_refl ⟨S.ok.setC hm hc (fun z => nomatch z) ⟨_, upd_same, h2.app h4⟩, S.sl⟩ .non
def eNever : DE := fun _ _ => False
theorem de_never {X : Cx} {B : Bs} {ex : Expr} : PE X ex (lE X.K B eNever) := ⟨fun _ _ _ _ _ _ ⟨_, _, _, _, _, t, _⟩ => t.elim⟩
/-! ### a, b = x, y -/
def sPar (i j : Nat) (ta : DA) : DS := fun P e => ta e fun ds e1 => ∃ x y, ds = [x, y] ∧ P.nx { e1 with sl := (e1.sl.set i (some x)).set j (some y) }
theorem ds_par {X : Cx} {B : Bs} {i j : Nat} {x y : Str} {a b : Expr} {ta : DA} {px py pt k2p pos : Pos} {kt k2} (hc : X.calm = true) (hN : X.N.Nodup) (hi : X.N[i]? = some x) (hj : X.N[j]? = some y) (hij : i ≠ j)
    (hx : X.env.scope.names.lookup x = some .local) (hy : X.env.scope.names.lookup y = some .local) (ha : PA X [a, b] (lA X.K B ta))
    (hw : swappedStores [.Tuple [.Name x px, .Name y py] kt pt] (.Tuple [a, b] k2 k2p) X.env = pure (some [x, y]) := by rfl)
    (hs : swapsWithSole [.Tuple [.Name x px, .Name y py] kt pt] (.Tuple [a, b] k2 k2p) pos.line X.env = pure false := by rfl) :
    PS X (.Assign [.Tuple [.Name x px, .Name y py] kt pt] (.Tuple [a, b] k2 k2p) pos) (lS X.K B (sPar i j ta)) :=
  PS.imp (ps_par hc hN hi hj hij hx hy ha hw hs) fun E σ H h => by
    obtain ⟨W, e, P, bl, S, h, c⟩ := lS_un h
    refine ⟨W, e, _, bl, S, h, fun ds e1 W1 H1 vs ⟨x, y, hd, p⟩ l S1 r => ?_⟩
    subst hd
    cases r with
    | cons r1 r2 =>
      cases r2 with
      | cons r2 r3 =>
        cases r3
        exact ⟨_, _, rfl, c.nx _ _ _ _ p l ⟨S1.ok, (S1.sl.set r1).set r2⟩⟩
theorem v_par {i j : Nat} {ta : DA} {P : Po} {e : En} (h : ta e fun ds e1 => ∃ x y, ds = [x, y] ∧ P.nx { e1 with sl := (e1.sl.set i (some x)).set j (some y) }) : sPar i j ta P e := h
/-! ### xs.index(k), whole numbers -/
def qIdx : D → List D → DE := fun d ds e P => ∃ (ns : List Int) (k : Int) (j : Nat), lk e.cs d = some (ns.map .int) ∧ ds = [.int k] ∧ ns[j]? = some k ∧ (∀ (m : Nat) (z : Int), m < j → ns[m]? = some z → z ≠ k) ∧ P (.int (j : Nat)) e
theorem md_idx {K : PySem.W.Frag} : MtD K (rIndex K) qIdx := by
  rintro W H σ e x vs d ds P Q S r rs ⟨ns, k, j, hl, rfl, h1, h2, p⟩ kk
  obtain ⟨v, rfl, rv⟩ := rs.one
  cases rv
  obtain ⟨a, ws, rfl, h3, h4⟩ := S.ok.lk r hl
  cases RAll.ints_inv h4
  refine ⟨a, ns.map V.int, _, j, .int k, rfl, rfl, h3, rfl, ?_, ?_, ?_, ?_, kk _ _ _ _ _ p W.le_refl S (.int _)⟩
  · rw [List.all_map]
    exact List.all_eq_true.mpr fun _ _ => rfl
  · rw [List.getElem?_map, h1]
    rfl
  · exact beq_self_eq_true k
  · intro m z' hm hz
    rw [List.getElem?_map] at hz
    obtain ⟨z, hz1, rfl⟩ := Option.map_eq_some_iff.mp hz
    exact beq_eq_false_iff_ne.mpr (h2 m z hm hz1)
theorem v_idx {ns : List Int} {d : D} {e : En} {P : D → En → Prop} {k : Int} {j : Nat} (hl : lk e.cs d = some (ns.map .int)) (h1 : ns[j]? = some k) (h2 : ∀ (m : Nat) (z : Int), m < j → ns[m]? = some z → z ≠ k) (p : P (.int (j : Nat)) e) : qIdx d [.int k] e P := ⟨ns, k, j, hl, rfl, h1, h2, p⟩
/-! ### a dict that is only handed on: none of its keys is looked at -/
def eDct : DE := fun e P => P .dct e
theorem de_dct0 {X : Cx} {B : Bs} {pos : Pos} : PE X (.Dict [] [] pos) (lE X.K B eDct) := PE.imp pe_dnewK fun σ H Q ⟨W, e, P, _, S, t, k⟩ p hp => by
  obtain ⟨ok, l⟩ := S.ok.newF (o := .dK []) hp
  exact k .dct e _ _ _ t l ⟨ok, S.sl.mono l⟩ (.dct upd_same)
theorem de_dctI {X : Cx} {B : Bs} {pos p1 p2 : Pos} {i j : Int} {j1 j2} : PE X (.Dict [some (.Constant (.int i) j1 p1)] [.Constant (.int j) j2 p2] pos) (lE X.K B eDct) :=
  PE.imp (pe_disp (pps_cons (pe_int (i := i)) (pe_int (i := j)) pps_nil) rfl rfl (fun z => nomatch z) (by simp)) fun σ H Q ⟨W, e, P, _, S, t, k⟩ p hp => by
    obtain ⟨ok, l⟩ := S.ok.newF (o := .dK (mergeK [] [(.inl i, .int j)])) hp
    refine ⟨upd_same, [(.inl i, .int j)], rfl, by simp, ?_⟩
    rw [upd_upd]
    exact k .dct e _ _ _ t l ⟨ok, S.sl.mono l⟩ (.dct upd_same)
theorem v_dct {e : En} {P : D → En → Prop} (p : P .dct e) : eDct e P := p
end DL
/-! a dict that changes (int keys), list.remove, list.pop(), list.count, list.index of nested items, (x,) * n, [*xs, y], a, b, c = x, y, z -/
namespace DL
open PySem PySem.Spec PyProof.Rows L2
open Evl (Ex)

/-! ### a dict with int keys as a cell -/
def getI : List (Int × D) → Int → Option D
  | [], _ => none
  | p :: r, k => if p.1 = k then some p.2 else getI r k
def putI (kxs : List (Int × D)) (k : Int) (d : D) : List (Int × D) :=
  if (kxs.any fun p => decide (p.1 = k)) = true then kxs.map (fun p => if p.1 = k then (p.1, d) else p) else kxs ++ [(k, d)]
section
variable {K : PySem.W.Frag} {W : Wd}
theorem RKs.length : ∀ {ps : List (Key × V)} {kxs : List (Int × D)}, RKs K W ps kxs → ps.length = kxs.length
  | _, _, .nil => rfl
  | _, _, .cons _ t => by rw [List.length_cons, List.length_cons, RKs.length t]
theorem RKs.get (k : Int) : ∀ {ps : List (Key × V)} {kxs : List (Int × D)}, RKs K W ps kxs → (getI kxs k = none ∧ valV ps (.inl k) = none) ∨ ∃ d v, getI kxs k = some d ∧ valV ps (.inl k) = some v ∧ R K W v d
  | _, _, .nil => .inl ⟨rfl, rfl⟩
  | _, _, @RKs.cons _ _ k' v d ps kxs r t => by
    by_cases e : k' = k
    · exact .inr ⟨d, v, by unfold getI; rw [if_pos e], valV_pos (p := ((.inl k' : Key), v)) (by rw [e]), r⟩
    · have e2 : ¬ ((Sum.inl k' : Key) = .inl k) := fun z => e (Sum.inl.inj z)
      have e3 : valV (((.inl k' : Key), v) :: ps) (.inl k) = valV ps (.inl k) := valV_neg (p := ((.inl k' : Key), v)) e2
      have e4 : getI ((k', d) :: kxs) k = getI kxs k := by
        show (if k' = k then some d else getI kxs k) = _
        rw [if_neg e]
      rw [e3, e4]
      exact RKs.get k t
theorem RKs.any (k : Int) : ∀ {ps : List (Key × V)} {kxs : List (Int × D)}, RKs K W ps kxs → (ps.any fun p => decide (p.1 = (.inl k : Key))) = (kxs.any fun p => decide (p.1 = k))
  | _, _, .nil => rfl
  | _, _, @RKs.cons _ _ k' v d ps kxs r t => by
    rw [List.any_cons, List.any_cons, RKs.any k t]
    congr 1
    exact decide_eq_decide.mpr ⟨fun z => Sum.inl.inj z, fun z => by rw [show k' = k from z]⟩
theorem RKs.repl {v : V} {d : D} (rv : R K W v d) (k : Int) : ∀ {ps : List (Key × V)} {kxs : List (Int × D)}, RKs K W ps kxs → RKs K W (ps.map fun p => if p.1 = (.inl k : Key) then (p.1, v) else p) (kxs.map fun p => if p.1 = k then (p.1, d) else p)
  | _, _, .nil => .nil
  | _, _, @RKs.cons _ _ k' v' d' ps kxs r t => by
    rw [List.map_cons, List.map_cons]
    by_cases e : k' = k
    · subst e
      rw [if_pos rfl, if_pos rfl]
      exact .cons rv (RKs.repl rv k' t)
    · rw [if_neg (fun z => e (Sum.inl.inj z)), if_neg e]
      exact .cons r (RKs.repl rv k t)
theorem RKs.app1 {v : V} {d : D} (rv : R K W v d) (k : Int) : ∀ {ps : List (Key × V)} {kxs : List (Int × D)}, RKs K W ps kxs → RKs K W (ps ++ [(.inl k, v)]) (kxs ++ [(k, d)])
  | _, _, .nil => .cons rv .nil
  | _, _, .cons r t => .cons r (RKs.app1 rv k t)
theorem RKs.put {v : V} {d : D} (rv : R K W v d) (k : Int) {ps : List (Key × V)} {kxs : List (Int × D)} (h : RKs K W ps kxs) : RKs K W (putK ps (.inl k) v) (putI kxs k d) := by
  unfold putK putI
  rw [h.any k]
  split
  · exact h.repl rv k
  · exact h.app1 rv k
theorem Ok.cellD {H : Hp} {cs : List Cel} (h : Ok K W H cs) {n : Nat} {a : Addr} {kxs : List (Int × D)} (hm : W.m[n]? = some a) (hc : cs[n]? = some (.dic kxs)) : ∃ ps, H a = some (.dK ps) ∧ RKs K W ps kxs := h.cl n a _ hm hc
end
/-- {} -/
def eDnew : DE := fun e P => P (.cell e.cs.length) { e with cs := e.cs ++ [.dic []] }
theorem de_dnew {X : Cx} {B : Bs} {pos : Pos} : PE X (.Dict [] [] pos) (lE X.K B eDnew) := PE.imp pe_dnewK fun σ H Q ⟨W, e, P, _, S, t, k⟩ p hp => by
  obtain ⟨ok, l⟩ := S.ok.newC (o := .dK []) (c := .dic []) hp fun W' l => ⟨[], upd_same, .nil⟩
  refine k _ _ _ _ _ t l ⟨ok, S.sl.mono l⟩ (.cell ?_)
  show (W.m ++ [p])[e.cs.length]? = some p
  rw [← S.ok.len]
  simp
theorem v_dnew {e : En} {P : D → En → Prop} (p : P (.cell e.cs.length) { e with cs := e.cs ++ [.dic []] }) : eDnew e P := p
/-- d[k] = v -/
def sDput (td ti tv : DE) : DS := fun P e => tv e fun y e1 => td e1 fun d e2 => ti e2 fun i e3 => ∃ n kxs k, d = .cell n ∧ i = .int k ∧ e3.cs[n]? = some (.dic kxs) ∧ kxs.length < sizeLine ∧ P.nx { e3 with cs := e3.cs.set n (.dic (putI kxs k y)) }
theorem ds_dput {X : Cx} {B : Bs} {o i value : Expr} {td ti tv : DE} {pos pos' : Pos} (hu : X.A.units + 1 < cLine) (hv : PE X value (lE X.K B tv)) (ho : PE X o (lE X.K B td)) (hi : PE X i (lE X.K B ti))
    (hs : swapsWith value (some (.Subscript o i pos')) pos.line X.env = pure false := by rfl) : PS X (.Assign [.Subscript o i pos'] value pos) (lS X.K B (sDput td ti tv)) :=
  PS.imp (ps_dput hu ho hi hv hs) fun E σ H h => by
    obtain ⟨W, e, P, bl, S, h, c⟩ := lS_un h
    refine ⟨W, e, _, bl, S, h, fun y e1 W1 H1 vy t1 l1 S1 r1 => ?_⟩
    refine ⟨W1, e1, _, B.up bl l1, S1, t1, fun d e2 W2 H2 vd t2 l2 S2 r2 => ?_⟩
    refine ⟨W2, e2, _, B.up (B.up bl l1) l2, S2, t2, fun j e3 W3 H3 vj ⟨n, kxs, k, hd, hj, hc, hz, p⟩ l3 S3 r3 => ?_⟩
    subst hd hj
    cases r3
    have r2' := R.mono l3 _ _ r2
    cases r2' with
    | @cell _ a hm =>
      obtain ⟨ps, h1, h2⟩ := S3.ok.cellD hm hc
      refine ⟨a, _, rfl, DPut.k (k := .inl k) h1 (by rw [h2.length]; exact hz), ?_⟩
      have ry := R.mono l3 _ _ (R.mono l2 _ _ r1)
      exact c.nx _ _ _ _ p ((l1.tr l2).tr l3) ⟨S3.ok.setC hm hc (fun z => nomatch z) ⟨_, upd_same, h2.put ry k⟩, S3.sl⟩
theorem v_dput {td ti tv : DE} {P : Po} {e : En} (h : tv e fun y e1 => td e1 fun d e2 => ti e2 fun i e3 => ∃ n kxs k, d = .cell n ∧ i = .int k ∧ e3.cs[n]? = some (.dic kxs) ∧ kxs.length < sizeLine ∧ P.nx { e3 with cs := e3.cs.set n (.dic (putI kxs k y)) }) : sDput td ti tv P e := h
/-- d.get(k, x) -/
def eDget (td ti tx : DE) : DE := fun e P => td e fun d e1 => (∃ n kxs, d = .cell n ∧ e1.cs[n]? = some (.dic kxs)) ∧ ti e1 fun i e2 => tx e2 fun x e3 => ∃ n kxs k, d = .cell n ∧ i = .int k ∧ e3.cs[n]? = some (.dic kxs) ∧ P ((getI kxs k).getD x) e3
theorem de_dget {X : Cx} {B : Bs} {o i f : Expr} {td ti tx : DE} {apos cpos : Pos} (hu : X.A.units + 1 < cLine) (ho : PE X o (lE X.K B td)) (hi : PE X i (lE X.K B ti)) (hf : PE X f (lE X.K B tx)) (m : M2 X o "get" apos i f cpos) :
    PE X (.Call (.Attribute o "get" apos) [i, f] [] cpos) (lE X.K B (eDget td ti tx)) :=
  PE.imp (pe_dget2 hu ho hi hf m) fun σ H Q ⟨W, e, P, bl, S, t, k⟩ => ⟨W, e, _, bl, S, t, fun d e1 W1 H1 v1 ⟨⟨n, kxs, hd, hc⟩, t1⟩ l1 S1 r1 => by
    subst hd
    cases r1 with
    | @cell _ a hm =>
      obtain ⟨ps, h1, h2⟩ := S1.ok.cellD hm hc
      refine ⟨a, rfl, .inl ⟨ps, .inl h1⟩, W1, e1, _, B.up bl l1, S1, t1, fun j e2 W2 H2 v2 t2 l2 S2 r2 => ?_⟩
      refine ⟨W2, e2, _, B.up (B.up bl l1) l2, S2, t2, fun x e3 W3 H3 v3 ⟨n', kxs', kk, hn, hj, hc', p⟩ l3 S3 r3 => ?_⟩
      subst hj
      cases hn
      cases r2
      obtain ⟨ps', h3, h4⟩ := S3.ok.cellD (Wd.get_more (Wd.le.tr l2 l3).2.1 hm) hc'
      refine ⟨_, DGet.k (k := .inl kk) h3, ?_⟩
      have l := (l1.tr l2).tr l3
      rcases h4.get kk with ⟨g1, g2⟩ | ⟨dd, vv, g1, g2, g3⟩
      · rw [g2]
        rw [g1] at p
        exact k _ _ _ _ _ p l S3 r3
      · rw [g2]
        rw [g1] at p
        exact k _ _ _ _ _ p l S3 g3⟩
theorem v_dget {td ti tx : DE} {e : En} {P : D → En → Prop} (h : td e fun d e1 => (∃ n kxs, d = .cell n ∧ e1.cs[n]? = some (.dic kxs)) ∧ ti e1 fun i e2 => tx e2 fun x e3 => ∃ n kxs k, d = .cell n ∧ i = .int k ∧ e3.cs[n]? = some (.dic kxs) ∧ P ((getI kxs k).getD x) e3) : eDget td ti tx e P := h
/-- k in d -/
def eDin (ti td : DE) : DE := fun e P => ti e fun i e1 => td e1 fun d e2 => ∃ n kxs k, d = .cell n ∧ i = .int k ∧ e2.cs[n]? = some (.dic kxs) ∧ P (.bl (getI kxs k).isSome) e2
theorem dc_din {X : Cx} {B : Bs} {o i : Expr} {td ti : DE} (hu : X.A.units + 1 < cLine) (hi : PE X i (lE X.K B ti)) (ho : PE X o (lE X.K B td)) : PC X .In i o (lE X.K B (eDin ti td)) :=
  ⟨fun pins s σ H Q I ⟨W, e, P, bl, S, t, k⟩ => (pc_din hu hi ho).run pins s σ H Q I ⟨W, e, _, bl, S, t, fun j e1 W1 H1 v1 t1 l1 S1 r1 => ⟨W1, e1, _, B.up bl l1, S1, t1, fun d e2 W2 H2 v2 ⟨n, kxs, kk, hd, hj, hc, p⟩ l2 S2 r2 => by
    subst hd hj
    cases r1
    cases r2 with
    | @cell _ a hm =>
      obtain ⟨ps, h1, h2⟩ := S2.ok.cellD hm hc
      refine ⟨a, _, rfl, DGet.k (k := .inl kk) h1, ?_⟩
      have e1 : (valV ps (.inl kk)).isSome = (getI kxs kk).isSome := by
        rcases h2.get kk with ⟨g1, g2⟩ | ⟨dd, vv, g1, g2, _⟩
        · rw [g1, g2] <;> rfl
        · rw [g1, g2] <;> rfl
      rw [show (valV ps (.inl kk)).isSome = _ from e1]
      exact k _ _ _ _ _ p (l1.tr l2) S2 (.bl _)⟩⟩⟩
theorem v_din {ti td : DE} {e : En} {P : D → En → Prop} (h : ti e fun i e1 => td e1 fun d e2 => ∃ n kxs k, d = .cell n ∧ i = .int k ∧ e2.cs[n]? = some (.dic kxs) ∧ P (.bl (getI kxs k).isSome) e2) : eDin ti td e P := h
/-! ### list.pop() -/
def qPop0 : D → List D → DE := fun d ds e P => ∃ (n : Nat) (xs : List D) (y : D), d = .cell n ∧ ds = [] ∧ e.cs[n]? = some (.lst xs) ∧ xs[xs.length - 1]? = some y ∧ P y { e with cs := e.cs.set n (.lst xs.dropLast) }
theorem md_pop0 {K : PySem.W.Frag} : MtD K rPop qPop0 := by
  rintro W H σ e x vs d ds P Q S r rs ⟨n, xs, y, rfl, rfl, hc, hy, p⟩ k
  cases rs
  cases r with
  | @cell _ a hm =>
    obtain ⟨vs, h1, h2⟩ := S.ok.cellL hm hc
    obtain ⟨z, hz, rz⟩ := h2.get hy
    refine ⟨a, vs, z, rfl, rfl, h1, by rw [h2.length]; exact hz, ?_⟩
    exact k _ _ _ _ _ p W.le_refl ⟨S.ok.setC hm hc (fun z => nomatch z) ⟨_, upd_same, h2.dropLast⟩, S.sl⟩ rz
/-! ### remove, count, index: items of any depth -/
def rRemD (K : PySem.W.Frag) : V → List V → Hp → VK → Prop := fun x xs H Q => ∃ (a : Addr) (ys : List V) (y : V) (d : PyData) (ds : List PyData) (j : Nat) (z : PyData), x = V.ref a ∧ xs = [y] ∧ H a = some (.lst ys) ∧ DpAll K H ys ds ∧ Dp K H y d ∧
  SeqAt.shaped (.list ds) = true ∧ SeqAt.shaped d = true ∧ ds[j]? = some z ∧ PyData.eqv z d = true ∧ (∀ (m : Nat) (z' : PyData), m < j → ds[m]? = some z' → PyData.eqv z' d = false) ∧ Q .non (upd H a (.lst (ys.eraseIdx j)))
theorem mt_remD {X : Cx} (hu : X.A.units + 65 < cLine) : MtM X "list.remove" (rRemD X.K) := by
  intro pins s σ H x xs v us Q I rx rxs h
  obtain ⟨a, ys, y, d, ds, j, z, rfl, rfl, hH, ha, hy, sl, sd, hz, hzj, hno, q⟩ := h
  cases rx
  obtain ⟨uy, rfl, ry⟩ := rxs.one
  obtain ⟨bs, r1⟩ := Dp.reads I d y uy hy ry
  have hxs : PyData.canLayAll0 ds = true := SeqAt.canLay_of_shaped sl
  have hroom : X.A.units + 1 + min (PyData.depthAll ds) d.depth < cLine := room_in_shaped sd hu
  obtain ⟨zz, its, n, rv, hl, ho⟩ := I.lstM hH
  obtain ⟨as, h4⟩ := Dp.readsAll I ds _ its ha rv
  have hn : its.length = ds.length := SeqAt.ReadsAll.length ds its as h4
  have hmap : its.map (SeqAt.readOf s.heap) = ds := SeqAt.readsAll_map ds its as hxs h4
  obtain ⟨hjd, _⟩ := List.getElem?_eq_some_iff.mp hz
  have hjl : j < its.length := by omega
  have hj : j < its.toArray.size := by simpa using hjl
  have at_ : ∀ (m : Nat) (hm : m < its.toArray.size) (z' : PyData), ds[m]? = some z' → SeqAt.readOf s.heap its.toArray[m] = z' := by
    intro m hm z' hz'
    have hml : m < its.length := by simpa using hm
    rw [← hmap, List.getElem?_map, List.getElem?_eq_getElem hml] at hz'
    have e1 : SeqAt.readOf s.heap its[m] = z' := Option.some.inj (show some (SeqAt.readOf s.heap its[m]) = some z' from hz')
    simpa using e1
  refine call_meets PySem.F.slot_list_remove ⟨_, ho, rfl⟩ PySem.F.entry_list_remove (PySem.F.args_list_remove_2 _ _)
    (SeqAt.list_removeAt a its.toArray n none #[] uy (fun u => PyData.eqv (SeqAt.readOf s.heap u) d) j hj ?_ ?_ (by rw [List.size_toArray]; omega)) ⟨ho, SeqAt.items_eqAt (vs := its.toArray) (show ReadsAll s.heap its.toArray.toList ds as from h4) r1 hxs (SeqAt.canLay_of_shaped sd) hroom, ?_⟩
  · show PyData.eqv (SeqAt.readOf s.heap its.toArray[j]) d = true
    rw [at_ j hj z hz]
    exact hzj
  · intro m hm hmj
    have hmd : m < ds.length := by omega
    have hz' : ds[m]? = some ds[m] := List.getElem?_eq_getElem hmd
    show PyData.eqv (SeqAt.readOf s.heap its.toArray[m]) d = false
    rw [at_ m hm _ hz']
    exact hno m _ hmj hz'
  · have rr := rv.eraseIdx j
    refine ⟨.non, _, I.lset (its' := its.eraseIdx j) (t' := s.toks) hH ho ?_ rr ?_, rfl, q⟩
    · show its.toArray.eraseIdxIfInBounds j = (its.eraseIdx j).toArray
      rw [List.eraseIdxIfInBounds_toArray]
    · have z2 := List.length_eraseIdx_le ys j
      omega
/-- where the first equal item stands -/
def FstAt (xs : List D) (y : D) (j : Nat) : Prop := (∃ z, xs[j]? = some z ∧ PyData.eqv (toP z) (toP y) = true) ∧ ∀ (m : Nat) (z : D), m < j → xs[m]? = some z → PyData.eqv (toP z) (toP y) = false
theorem toPs_map : ∀ xs : List D, toPs xs = xs.map toP
  | [] => rfl
  | x :: xs => by rw [toPs, toPs_map xs] <;> rfl
theorem FstAt.at {xs : List D} {y : D} {j : Nat} (h : FstAt xs y j) : (∃ z, (toPs xs)[j]? = some z ∧ PyData.eqv z (toP y) = true) ∧ ∀ (m : Nat) (z : PyData), m < j → (toPs xs)[m]? = some z → PyData.eqv z (toP y) = false := by
  obtain ⟨⟨z, h1, h2⟩, h3⟩ := h
  refine ⟨⟨toP z, by rw [toPs_map, List.getElem?_map, h1] <;> rfl, h2⟩, fun m w hm hw => ?_⟩
  rw [toPs_map, List.getElem?_map] at hw
  obtain ⟨z', e1, rfl⟩ := Option.map_eq_some_iff.mp hw
  exact h3 m z' hm e1
def qRem : D → List D → DE := fun d ds e P => ∃ (n : Nat) (xs : List D) (y : D) (j : Nat), d = .cell n ∧ ds = [y] ∧ e.cs[n]? = some (.lst xs) ∧ shp (.lst xs) = true ∧ shp (drf e.cs y) = true ∧ FstAt xs (drf e.cs y) j ∧ P .non { e with cs := e.cs.set n (.lst (xs.eraseIdx j)) }
theorem md_rem {K : PySem.W.Frag} : MtD K (rRemD K) qRem := by
  rintro W H σ e x vs d ds P Q S r rs ⟨n, xs, y, j, rfl, rfl, hc, s1, s2, hj, p⟩ k
  obtain ⟨v, rfl, rv⟩ := rs.one
  obtain ⟨o1, t1⟩ := shp_and s1
  obtain ⟨o2, t2⟩ := shp_and s2
  obtain ⟨⟨z, hz1, hz2⟩, hno⟩ := hj.at
  cases r with
  | @cell _ a hm =>
    obtain ⟨vs, h1, h2⟩ := S.ok.cellL hm hc
    refine ⟨a, vs, v, toP (drf e.cs y), toPs xs, j, z, rfl, rfl, h1, RAll.dp S.ok.ex xs vs h2 o1, S.ok.dp rv o2, t1, t2, hz1, hz2, hno, ?_⟩
    exact k _ _ _ _ _ p W.le_refl ⟨S.ok.setC hm hc (fun z => nomatch z) ⟨_, upd_same, h2.eraseIdx j⟩, S.sl⟩ .non
/-- xs.index(y) -/
def qIdxD : D → List D → DE := fun d ds e P => ∃ (xs : List D) (y : D) (j : Nat), lk e.cs d = some xs ∧ ds = [y] ∧ shp (.lst xs) = true ∧ shp (drf e.cs y) = true ∧ FstAt xs (drf e.cs y) j ∧ P (.int (j : Nat)) e
theorem md_idxD {K : PySem.W.Frag} : MtD K (rIndexD K) qIdxD := by
  rintro W H σ e x vs d ds P Q S r rs ⟨xs, y, j, hl, rfl, s1, s2, hj, p⟩ k
  obtain ⟨v, rfl, rv⟩ := rs.one
  obtain ⟨o1, t1⟩ := shp_and s1
  obtain ⟨o2, t2⟩ := shp_and s2
  obtain ⟨⟨z, hz1, hz2⟩, hno⟩ := hj.at
  obtain ⟨a, ws, rfl, h3, h4⟩ := S.ok.lk r hl
  exact ⟨a, v, toP (drf e.cs y), toPs xs, j, z, rfl, rfl, .lst h3 (RAll.dp S.ok.ex xs ws h4 o1), S.ok.dp rv o2, t1, t2, hz1, hz2, hno, k _ _ _ _ _ p W.le_refl S (.int _)⟩
/-- xs.count(y) -/
def rCntD (K : PySem.W.Frag) : V → List V → Hp → VK → Prop := fun x xs H Q => ∃ (a : Addr) (y : V) (d : PyData) (ds : List PyData), x = V.ref a ∧ xs = [y] ∧ Dp K H (V.ref a) (.list ds) ∧ Dp K H y d ∧
  SeqAt.shaped (.list ds) = true ∧ SeqAt.shaped d = true ∧ Q (.int (ds.countP (fun z => PyData.eqv z d) : Nat)) H
theorem mt_cntD {X : Cx} (hu : X.A.units + 65 < cLine) : MtR X "list.count" (rCntD X.K) := by
  intro pins s σ H x xs v us Q I rx rxs h
  obtain ⟨a, y, d, ds, rfl, rfl, hl, hy, sl, sd, q⟩ := h
  cases rx
  obtain ⟨uy, rfl, ry⟩ := rxs.one
  obtain ⟨bs, r1⟩ := Dp.reads I d y uy hy ry
  have hxs : PyData.canLayAll0 ds = true := SeqAt.canLay_of_shaped sl
  have hroom : X.A.units + 1 + min (PyData.depthAll ds) d.depth < cLine := room_in_shaped sd hu
  cases hl with
  | lst hs ha =>
    obtain ⟨its, rv, ⟨⟨cls, dd, data, sls⟩, n, ho, hc, hdn, hdt⟩, hlen⟩ := I.list hs
    simp only at hc hdt
    subst hc hdt
    obtain ⟨as, h4⟩ := Dp.readsAll I ds _ its ha rv
    have hmap : its.map (SeqAt.readOf s.heap) = ds := SeqAt.readsAll_map ds its as hxs h4
    refine call_meets PySem.F.slot_list_count ⟨_, ho, rfl⟩ PySem.F.entry_list_count (PySem.F.args_list_count_2 _ _)
      (SeqAt.list_countAt a its.toArray n dd sls uy (fun u => PyData.eqv (SeqAt.readOf s.heap u) d)) ⟨ho, SeqAt.items_eqAt (vs := its.toArray) (show ReadsAll s.heap its.toArray.toList ds as from h4) r1 hxs (SeqAt.canLay_of_shaped sd) hroom, ?_⟩
    have ec : its.toArray.toList.countP (fun u => PyData.eqv (SeqAt.readOf s.heap u) d) = ds.countP (fun z => PyData.eqv z d) := by
      rw [← hmap, List.countP_map]
      rfl
    refine ⟨.int (ds.countP (fun z => PyData.eqv z d) : Nat), H, I.tok _, ⟨s.toks, ?_⟩, q⟩
    rw [ec]
def qCntD : D → List D → DE := fun d ds e P => ∃ (xs : List D) (y : D), lk e.cs d = some xs ∧ ds = [y] ∧ shp (.lst xs) = true ∧ shp (drf e.cs y) = true ∧ P (.int (xs.countP (fun z => PyData.eqv (toP z) (toP (drf e.cs y))) : Nat)) e
theorem md_cntD {K : PySem.W.Frag} : MtD K (rCntD K) qCntD := by
  rintro W H σ e x vs d ds P Q S r rs ⟨xs, y, hl, rfl, s1, s2, p⟩ k
  obtain ⟨v, rfl, rv⟩ := rs.one
  obtain ⟨o1, t1⟩ := shp_and s1
  obtain ⟨o2, t2⟩ := shp_and s2
  obtain ⟨a, ws, rfl, h3, h4⟩ := S.ok.lk r hl
  refine ⟨a, v, toP (drf e.cs y), toPs xs, rfl, rfl, .lst h3 (RAll.dp S.ok.ex xs ws h4 o1), S.ok.dp rv o2, t1, t2, ?_⟩
  have ec : (toPs xs).countP (fun z => PyData.eqv z (toP (drf e.cs y))) = xs.countP (fun z => PyData.eqv (toP z) (toP (drf e.cs y))) := by
    rw [toPs_map, List.countP_map]
    rfl
  rw [ec]
  exact k _ _ _ _ _ p W.le_refl S (.int _)
/-! ### [*xs, y] -/
def aStar (te : DE) (tr : DA) : DA := fun e P => te e fun d e1 => ∃ xs, lkP e1.cs d = some xs ∧ tr e1 fun ys e2 => P (xs ++ ys) e2
theorem da_star {X : Cx} {B : Bs} {ex : Expr} {es : List Expr} {te : DE} {tr : DA} {p : Pos} (he : PE X ex (lE X.K B te)) (hr : PA X es (lA X.K B tr)) (hs : starEach (.Starred ex p :: es) X.env = (true, eval ex X.env) :: starEach es X.env := by rfl) : PA X (.Starred ex p :: es) (lA X.K B (aStar te tr)) :=
  PA.imp (StX.pa_star he hr hs) fun σ H Q ⟨W, e, P, bl, S, t, k⟩ => ⟨W, e, _, bl, S, t, fun d e1 W1 H1 v ⟨xs, hx, t1⟩ l1 S1 r1 => by
    obtain ⟨a, vs, rfl, h1, h2⟩ := S1.ok.lkP r1 hx
    exact ⟨a, vs, rfl, .inr (SqL.of h1), W1, e1, _, B.up bl l1, S1, t1, fun ys e2 W2 H2 ws p l2 S2 r2 => k _ _ _ _ _ p (l1.tr l2) S2 ((RAll.mono l2 _ _ h2).append r2)⟩⟩
theorem v_star {te : DE} {tr : DA} {e : En} {P : List D → En → Prop} (h : te e fun d e1 => ∃ xs, lkP e1.cs d = some xs ∧ tr e1 fun ys e2 => P (xs ++ ys) e2) : aStar te tr e P := h
/-! ### a, b, c = x, y, z -/
def sPar3 (i j l : Nat) (ta : DA) : DS := fun P e => ta e fun ds e1 => ∃ x y z, ds = [x, y, z] ∧ P.nx { e1 with sl := ((e1.sl.set i (some x)).set j (some y)).set l (some z) }
theorem ds_par3 {X : Cx} {B : Bs} {i j l : Nat} {x y z : Str} {a b c : Expr} {ta : DA} {px py pz pt k2p pos : Pos} {kt k2} (hc : X.calm = true) (hN : X.N.Nodup) (hi : X.N[i]? = some x) (hj : X.N[j]? = some y) (hl : X.N[l]? = some z) (hij : i ≠ j) (hil : i ≠ l) (hjl : j ≠ l)
    (hx : X.env.scope.names.lookup x = some .local) (hy : X.env.scope.names.lookup y = some .local) (hz : X.env.scope.names.lookup z = some .local) (ha : PA X [a, b, c] (lA X.K B ta))
    (hw : swappedStores [.Tuple [.Name x px, .Name y py, .Name z pz] kt pt] (.Tuple [a, b, c] k2 k2p) X.env = pure (some [x, y, z]) := by rfl)
    (hs : swapsWithSole [.Tuple [.Name x px, .Name y py, .Name z pz] kt pt] (.Tuple [a, b, c] k2 k2p) pos.line X.env = pure false := by rfl) :
    PS X (.Assign [.Tuple [.Name x px, .Name y py, .Name z pz] kt pt] (.Tuple [a, b, c] k2 k2p) pos) (lS X.K B (sPar3 i j l ta)) :=
  PS.imp (ps_par3 hc hN hi hj hl hij hil hjl hx hy hz ha hw hs) fun E σ H h => by
    obtain ⟨W, e, P, bl, S, h, cc⟩ := lS_un h
    refine ⟨W, e, _, bl, S, h, fun ds e1 W1 H1 vs ⟨x, y, z, hd, p⟩ l S1 r => ?_⟩
    subst hd
    cases r with
    | cons r1 r =>
      cases r with
      | cons r2 r =>
        cases r with
        | cons r3 r4 =>
          cases r4
          exact ⟨_, _, _, rfl, cc.nx _ _ _ _ p l ⟨S1.ok, ((S1.sl.set r1).set r2).set r3⟩⟩
theorem v_par3 {i j l : Nat} {ta : DA} {P : Po} {e : En} (h : ta e fun ds e1 => ∃ x y z, ds = [x, y, z] ∧ P.nx { e1 with sl := ((e1.sl.set i (some x)).set j (some y)).set l (some z) }) : sPar3 i j l ta P e := h
/-! ### (x, ..) * n -/
theorem tuple_mul1 (l : Addr) (items : Array Value) (n : Nat) (dd : Option Addr) (sl : Array (Option Value)) (u : Tok) :
    Meets (Builtin.«tuple.__mul__» ⟨[.ref l, .int 1 u], []⟩) (fun _ R s => s.heap.get? l = some { cls := .type "tuple", dict := dd, data := .seq items n, slots := sl } ∧ R (.ok (.ret (Value.ref l))) s) :=
  .of_wp fun prog w A R s h => by
    obtain ⟨hp, g, d, tk, os⟩ := s
    obtain ⟨hl, h⟩ := h
    have f1 := AutoSeq1.idx_int
    have c0 : (decide ((1 : Int) < -(2 ^ 63)) || decide ((1 : Int) ≥ 2 ^ 63)) = false := by decide
    have c1 : (items.isEmpty || (1 : Int) == 1) = true := by simp
    wp_walk using wpAny_loadPart' hl
    repeat (first
      | (refine wpAny_ite_false (decide_eq_false (by rw [c0]; exact Bool.false_ne_true)) ?_; wp_walk using wpAny_loadPart' hl)
      | (refine wpAny_ite_true (decide_eq_true (by rw [c1])) ?_; wp_walk using wpAny_loadPart' hl))
    exact ⟨_, rfl, h⟩
def rRep1 (K : PySem.W.Frag) : R2 := fun x y H Q => ∃ l xs, x = .ref l ∧ y = .int 1 ∧ SqT K H l xs ∧ Q x H
theorem op_rep1 {X : Cx} : OpR X (binaryOp .Mult) (rRep1 X.K) := by
  intro pins s σ H x y v u Q I rx ry h
  obtain ⟨l, xs, rfl, rfl, hT, q⟩ := h
  cases rx
  obtain ⟨t, rfl⟩ := ry
  obtain ⟨its, r, ⟨⟨cls, dd, data, sl⟩, ho, hc, n, hd⟩, hs⟩ := I.tuple hT
  simp only at hc hd
  subst hc hd
  refine wpAny_binaryOp_repeat_ref (T := "tuple") (U := "int") (by decide) ⟨_, ho, rfl⟩ (fun s' => typeIs_int s' 1 t) noFill_tuple_mul PySem.F.fills_int_mul PySem.F.slot_int_rmul repeat_tuple PySem.F.slot_int_index.lookup
    (call_meets PySem.F.slot_int_rmul (typeIs_int s 1 t) PySem.F.entry_int_rmul (PySem.F.args_int_rmul_2 _ _) (int_rmul_tuple 1 t l its.toArray n dd sl)
      ⟨ho, rfl, ⟨_, ho, rfl⟩, call_meets PySem.F.slot_tuple_mul ⟨_, ho, rfl⟩ PySem.F.entry_tuple_mul (PySem.F.args_tuple_mul_2 _ _) (tuple_mul1 l its.toArray n dd sl t) ⟨ho, ?_⟩⟩)
  exact ⟨.ref l, H, I, rfl, q⟩
def rRepA (K : PySem.W.Frag) : R2 := fun x y H Q => rRepT K x y H Q ∨ rRep1 K x y H Q
theorem op_repA {X : Cx} : OpR X (binaryOp .Mult) (rRepA X.K) := op_repT.or op_rep1
def qRepT : D → D → DE
  | .tup xs, .int k => fun e P => xs ≠ [] ∧ 1 ≤ k ∧ k ≤ 1000 ∧ xs.length ≤ 1000 ∧ P (.tup (List.replicate k.toNat xs).flatten) e
  | _, _ => fun _ _ => False
theorem RAll.rep {K : PySem.W.Frag} {W : Wd} {vs : List V} {ds : List D} (h : RAll K W vs ds) : ∀ n : Nat, RAll K W (List.replicate n vs).flatten (List.replicate n ds).flatten
  | 0 => .nil
  | n + 1 => by
    rw [List.replicate_succ, List.replicate_succ, List.flatten_cons, List.flatten_cons]
    exact h.append (RAll.rep h n)
theorem od_rep {K : PySem.W.Frag} : OpD K (rRepA K) qRepT := by
  intro W H σ e x y d1 d2 P Q S r1 r2 t k
  unfold qRepT at t
  split at t
  · obtain ⟨hne, h1, h2, hz, p⟩ := t
    cases r2
    cases r1 with
    | @tup l vs _ hs ha =>
      rename_i kk
      by_cases e1 : kk = 1
      · subst e1
        refine .inr ⟨l, vs, rfl, rfl, Evl.ex_t S.ok.ex hs, ?_⟩
        refine k _ _ _ _ _ p W.le_refl S ?_
        have e2 : ∀ {α : Type} (ys : List α), (List.replicate (1 : Int).toNat ys).flatten = ys := fun ys => by simp
        rw [e2]
        exact .tup hs ha
      · refine .inl ⟨l, _, vs, rfl, rfl, Evl.ex_t S.ok.ex hs, fun z => hne ?_, by omega, h2, by rw [ha.length]; exact hz, ?_⟩
        · subst z; cases ha; rfl
        · exact newT_ok S (ha.rep kk.toNat) p k
  · exact t.elim
theorem v_rep {xs : List D} {n : Int} {e : En} {P : D → En → Prop} (hne : xs ≠ []) (h1 : 1 ≤ n) (h2 : n ≤ 1000) (hz : xs.length ≤ 1000) (p : P (.tup (List.replicate n.toNat xs).flatten) e) : qRepT (.tup xs) (.int n) e P := ⟨hne, h1, h2, hz, p⟩
/-! ### isinstance(x, (T1, T2)) -/
def rIsiS (K : PySem.W.Frag) : List V → Hp → VK → Prop := fun xs H Q => ∃ (x : V) (tp : Addr) (cs : List V) (t : Value) (us : List Value) (b : Bool), xs = [x, .ref tp] ∧ SqT K H tp cs ∧ Paired ClsV cs us ∧ TyX K H x t ∧ PySem.W.kitAny K t us = some b ∧ Q (.bl b) H
theorem call_isiS {X : Cx} : CallR X (.builtin "isinstance") (rIsiS X.K) := by
  intro pins s σ H xs us Q I r h
  obtain ⟨x, tp, cs, t, ws, b, rfl, hT, k, ty, e, q⟩ := h
  obtain ⟨u1, u2, rfl, r1, r2⟩ := vals2 r
  cases (show u2 = Value.ref tp from r2)
  obtain ⟨P, Z, p, hx⟩ := kit_of I r1 ty
  obtain ⟨its, rv, ⟨o, h1, h2, n, h3⟩, _⟩ := I.tuple hT
  have e3 := ClsV.all k rv
  subst e3
  obtain ⟨oc, od, dt, sl⟩ := o
  simp only at h2 h3
  subst h2 h3
  exact PySem.W.kia_tup Z I.kIn p h1 e hx fun tk => ⟨.bl b, H, I.tok tk, rfl, q⟩
def qIsi2 : List D → DE
  | [d, .tup [.raw (.ty T), .raw (.ty U)]] => fun e P => tyKnown T = true ∧ tyKnown U = true ∧ ∃ a, tyN e.cs d = some a ∧ P (.bl (isTy a T || isTy a U)) e
  | _ => fun _ _ => False
theorem cd_isi2 {K : PySem.W.Frag} : CallD K (rIsiS K) qIsi2 := by
  intro W H σ e vs ds P Q S r t k
  unfold qIsi2 at t
  split at t
  · obtain ⟨v, v2, rfl, r1, r2⟩ := r.two
    obtain ⟨hT, hU, a, ea, p⟩ := t
    obtain ⟨ty, mem⟩ := S.ok.ty r1 ea
    cases r2 with
    | tup hs ha =>
      cases ha with
      | cons a1 a2 =>
        cases a2 with
        | cons a2 a3 =>
          cases a1; cases a2; cases a3
          refine ⟨v, _, _, _, [.type _, .type _], _, rfl, Evl.ex_t S.ok.ex hs, .cons (.ty _) (.cons (.ty _) .nil), ty, ?_, k _ _ _ _ _ p W.le_refl S (.bl _)⟩
          have e1 := kit_ty (K := K) (kit_in mem hT)
          have e2 := kit_ty (K := K) (kit_in mem hU)
          unfold PySem.W.kitAny
          rw [e1]
          rename_i T' U' _
          cases hb : isTy a T' with
          | true => rfl
          | false =>
            show (match PySem.W.kitOne K _ _ with
              | some true => some true
              | some false => PySem.W.kitAny K _ []
              | none => none) = _
            rw [e2]
            cases hb2 : isTy a U' with
            | true => rfl
            | false => rfl
  · exact t.elim
/-! ### k in d as a test -/
theorem de_din {X : Cx} {B : Bs} {o i : Expr} {td ti : DE} {pos : Pos} (hu : X.A.units + 1 < cLine) (hi : PE X i (lE X.K B ti)) (ho : PE X o (lE X.K B td)) (hm : behindInMarks CmpOp.In o = false) : PE X (.Compare i [.In] [o] pos) (lE X.K B (eDin ti td)) := pe_cmp (dc_din hu hi ho) hm
theorem dt_din {X : Cx} {B : Bs} {o i : Expr} {td ti : DE} {pos : Pos} (hu : X.A.units + 1 < cLine) (hi : PE X i (lE X.K B ti)) (ho : PE X o (lE X.K B td)) (hm : behindInMarks CmpOp.In o = false) : PT X (.Compare i [.In] [o] pos) (lT X.K B (eTest (eDin ti td))) :=
  PT.imp (pt_cmp (dc_din hu hi ho) hm) (test_ok fun _ _ _ z => z)
theorem units1 {k : Nat} {A : Around} (r : Room k A) : A.units + 1 < cLine := by have := r.un; omega
/-! ### a list that is given up: it changes no more -/
mutual
def subC (n : Nat) (ys : List D) : D → D
  | .tup xs => .tup (subCs n ys xs)
  | .lst xs => .lst (subCs n ys xs)
  | .fro xs => .fro (subCs n ys xs)
  | .ins C ns xs => .ins C ns (subCs n ys xs)
  | .cell m => if m = n then .lst ys else .cell m
  | .non => .non
  | .bl b => .bl b
  | .int i => .int i
  | .str s => .str s
  | .dct => .dct
  | .raw v => .raw v
  | .exc C p => .exc C p
def subCs (n : Nat) (ys : List D) : List D → List D
  | [] => []
  | x :: xs => subC n ys x :: subCs n ys xs
end
section
variable {K : PySem.W.Frag} {W : Wd} {n : Nat} {a : Addr} {vs : List V} {ys : List D}
mutual
theorem R.subC (hm : W.m[n]? = some a) (hF : W.F a = some (.lst vs)) (hr : RAll K W vs ys) : ∀ (d : D) (v : V), R K W v d → R K W v (DL.subC n ys d)
  | .non, _, h => by cases h; exact .non
  | .bl b, _, h => by cases h; exact .bl b
  | .int i, _, h => by cases h; exact .int i
  | .str s, _, h => by cases h; exact .str s
  | .tup xs, _, h => by
    cases h with
    | tup hs ha => exact .tup hs (RAll.subC hm hF hr xs _ ha)
  | .lst xs, _, h => by
    cases h with
    | lst hs ha => exact .lst hs (RAll.subC hm hF hr xs _ ha)
  | .fro xs, _, h => by
    cases h with
    | fro hs ha => exact .fro hs (RAll.subC hm hF hr xs _ ha)
  | .ins C ns xs, _, h => by
    cases h with
    | ins hs ha => exact .ins hs (RAll.subC hm hF hr xs _ ha)
  | .cell m, _, h => by
    cases h with
    | cell hs =>
      unfold DL.subC
      by_cases e : m = n
      · subst e
        rw [hm] at hs
        cases hs
        rw [if_pos rfl]
        exact .lst hF hr
      · rw [if_neg e]
        exact .cell hs
  | .dct, _, h => by cases h with | dct hs => exact .dct hs
  | .raw v, _, h => by cases h; exact .raw v
  | .exc C p, _, h => by cases h with | exc hs hp => exact .exc hs hp
theorem RAll.subC (hm : W.m[n]? = some a) (hF : W.F a = some (.lst vs)) (hr : RAll K W vs ys) : ∀ (ds : List D) (us : List V), RAll K W us ds → RAll K W us (DL.subCs n ys ds)
  | [], _, h => by cases h; exact .nil
  | d :: ds, _, h => by
    cases h with
    | cons h1 h2 => exact .cons (R.subC hm hF hr d _ h1) (RAll.subC hm hF hr ds _ h2)
end
end
/-- lists given up, one after the other -/
inductive Fzs : D → List Cel → D → List Cel → Prop
  | nil {d : D} {cs : List Cel} : Fzs d cs d cs
  | one {d d' : D} {cs cs' : List Cel} {n : Nat} {xs : List D} : cs[n]? = some (.lst xs) → Fzs (subC n xs d) (cs.set n .dead) d' cs' → Fzs d cs d' cs'
def eFz (te : DE) : DE := fun e P => te e fun d e1 => ∃ d' cs', Fzs d e1.cs d' cs' ∧ P d' { e1 with cs := cs' }
theorem fz_ok {K : PySem.W.Frag} {H : Hp} {σ : L2.St} {sl : List (Option D)} {v : V} {d d' : D} {cs cs' : List Cel} (h : Fzs d cs d' cs') : ∀ {W : Wd}, Sd K W H σ ⟨sl, cs⟩ → R K W v d → ∃ W', W.le W' ∧ Sd K W' H σ ⟨sl, cs'⟩ ∧ R K W' v d' := by
  induction h with
  | nil => exact fun {W} S r => ⟨W, W.le_refl, S, r⟩
  | @one d d' cs cs' n xs hc _ ih =>
    intro W S r
    have hn : n < W.m.length := by
      rw [S.ok.len]
      exact (List.getElem?_eq_some_iff.mp hc).1
    have hm : W.m[n]? = some W.m[n] := List.getElem?_eq_getElem hn
    obtain ⟨vs, h1, h2⟩ := S.ok.cellL hm hc
    obtain ⟨ok, l⟩ := S.ok.freeze hm hc h1
    have S2 : Sd K ⟨upd W.F W.m[n] (.lst vs), W.m, W.h⟩ H σ ⟨sl, cs.set n .dead⟩ := ⟨ok, S.sl.mono l⟩
    have r2 := R.subC (W := ⟨upd W.F W.m[n] (.lst vs), W.m, W.h⟩) (n := n) hm (show upd W.F W.m[n] (.lst vs) W.m[n] = _ from upd_same) (RAll.mono l _ _ h2) d v (R.mono l _ _ r)
    obtain ⟨W', l', S', r'⟩ := ih S2 r2
    exact ⟨W', l.tr l', S', r'⟩
theorem de_fz {X : Cx} {B : Bs} {ex : Expr} {te : DE} (he : PE X ex (lE X.K B te)) : PE X ex (lE X.K B (eFz te)) :=
  PE.imp he fun σ H Q ⟨W, e, P, bl, S, t, k⟩ => ⟨W, e, _, bl, S, t, fun d e1 W1 H1 v ⟨d', cs', hz, p⟩ l1 S1 r1 => by
    obtain ⟨W2, l2, S2, r2⟩ := fz_ok hz (sl := e1.sl) S1 r1
    exact k _ _ _ _ _ p (l1.tr l2) S2 r2⟩
theorem v_fz {te : DE} {e : En} {P : D → En → Prop} (h : te e fun d e1 => ∃ d' cs', Fzs d e1.cs d' cs' ∧ P d' { e1 with cs := cs' }) : eFz te e P := h
/-! ### script + [..]: a list that is known as it is -/
theorem list_addP (l : Addr) (o1 : Obj) (items : Array Value) (n : Nat) (b : Addr) (o2 : Obj) (items2 : Array Value) (n2 : Nat) (c1 : o1.cls = .type "list") (d1 : o1.data = .seq items n) (c2 : o2.cls = .type "list") (d2 : o2.data = .seq items2 n2) (hc0 : items.size + items2.size ≤ sizeLine) :
    Meets (Builtin.«list.__add__» ⟨[.ref l, .ref b], []⟩) (fun _ R s => s.heap.get? l = some o1 ∧ s.heap.get? b = some o2 ∧ R (.ok (.ret (Value.ref s.heap.objs.size))) { s with heap := s.heap.push { cls := Value.type "list", data := Data.seq (items ++ items2) }, toks := s.toks }) :=
  .of_wp fun prog w A R s h => by
    obtain ⟨oc, od, dt, sl⟩ := o1
    obtain ⟨oc2, od2, dt2, sl2⟩ := o2
    simp only at c1 d1 c2 d2
    subst c1 d1 c2 d2
    obtain ⟨hp, g, d, tk, os⟩ := s; obtain ⟨hl, hb, h⟩ := h; have f1 := PySem.AutoSeq1.idx_int; have f2 := PySem.AutoSeq1.sub_tuple_tuple; have f3 := PySem.AutoSeq1.sub_list_list; have f4 := PySem.AutoSeq1.sub_tuple_list; have f5 := PySem.AutoSeq1.sub_list_tuple; wp_walk using wpAny_loadPart' hl, wpAny_loadPart' hb; exact ⟨_, rfl, h⟩
def rCatF (K : PySem.W.Frag) : R2 := fun x y H Q => ∃ l b xs zs, x = .ref l ∧ y = .ref b ∧ SqL K H l xs ∧ H b = some (.lst zs) ∧ xs.length + zs.length ≤ sizeLine ∧ ∀ p, H p = none → Q (.ref p) (upd H p (.lst (xs ++ zs)))
theorem op_catF {X : Cx} : OpR X (binaryOp .Add) (rCatF X.K) := by
  intro pins s σ H x y v u Q I rx ry h
  obtain ⟨l, b, xs, zs, rfl, rfl, hH, hB, hz, q⟩ := h
  cases rx
  cases ry
  obtain ⟨its, r, ⟨o, n, e, hc, _, hdt⟩, hl⟩ := I.list hH
  obtain ⟨z2, its2, n2, r2, hl2, e2⟩ := I.lstM hB
  have el := r.length
  refine concat_meets ⟨o, e, hc⟩ ⟨_, e2, rfl⟩ noFill_list_add seq_list_add F.slot_list_add F.entry_list_add (F.args_list_add_2 _ _) (list_addP l o its.toArray n b _ its2.toArray n2 hc hdt rfl rfl (by rw [List.size_toArray, List.size_toArray]; omega)) ⟨e, e2, ?_⟩
  have ea : its.toArray ++ its2.toArray = (its ++ its2).toArray := by simp
  rw [ea]
  exact ⟨.ref _, _, I.lnew (t' := s.toks) (r.append r2) (by rw [List.length_append]; omega), rfl, q _ I.fresh⟩
def qCatF (o : Bool) : D → D → DE := fun x y e P => ∃ xs ys, x = .fro xs ∧ lkP e.cs y = some ys ∧ xs.length + ys.length ≤ sizeLine ∧ newL o (xs ++ ys) e P
theorem od_catF {K : PySem.W.Frag} {o : Bool} : OpD K (rCatF K) (qCatF o) := by
  rintro W H σ e x y d1 d2 P Q S r1 r2 ⟨xs, ys, rfl, e2, hz, t⟩ k
  cases r1 with
  | fro h1 q1 =>
    obtain ⟨p2, ws, rfl, h2, q2⟩ := S.ok.lkP r2 e2
    exact ⟨_, p2, _, ws, rfl, rfl, Evl.ex_l S.ok.ex h1, h2, by rw [q1.length, q2.length]; exact hz, newL_ok S (q1.append q2) t k⟩
theorem v_catF {o : Bool} {x y : D} {e : En} {P : D → En → Prop} {xs ys : List D} (h1 : x = .fro xs) (h2 : lkP e.cs y = some ys) (hz : xs.length + ys.length ≤ 100000) (p : newL o (xs ++ ys) e P) : qCatF o x y e P := ⟨xs, ys, h1, h2, Nat.le_trans hz (by decide), p⟩
end DL
/-! exceptions: what leaves a def, by class, what it holds, and cells -/
namespace DL
open PySem PySem.Spec PyProof.Rows L2
open Evl (Ex)

/-- an exception: its class, and its field index, if its class has that -/
structure XN where
  c : Str
  p : Option Int
def xnF (i : Int) : List (Str × V) := [("index", .int i)]
def PayOk (p : Option Int) (d : Option Addr) (W : Wd) : Prop := match p with
  | none => d = none
  | some i => ∃ dd, d = some dd ∧ W.F dd = some (.xd (xnF i))
theorem PayOk.mono {p : Option Int} {d : Option Addr} {W W' : Wd} (h : PayOk p d W) (l : W.le W') : PayOk p d W' := by
  cases p with
  | none => exact h
  | some i =>
    obtain ⟨dd, e1, e2⟩ := h
    exact ⟨dd, e1, l.1 _ _ e2⟩
/-- a promise with what may be raised -/
abbrev SpX := List D → List Cel → (D → List Cel → Prop) → (XN → List Cel → Prop) → Prop
def spDX (K : PySem.W.Frag) (sp : SpX) : Sp := fun vs H Q E => ∃ W cs ds P PX, Ok K W H cs ∧ RAll K W vs ds ∧ sp ds cs P PX ∧ (∀ d cs' W' H' v, P d cs' → W.le W' → Ok K W' H' cs' → R K W' v d → Q v H') ∧
  ∀ x cs' W' H' d, PX x cs' → PayOk x.p d W' → W.le W' → Ok K W' H' cs' → E (.ref (He.ga K x.c)) d H'
def GoodX (P : Program) (w : World) (K : PySem.W.Frag) (mg : Str → Option Value) (base : Heap) (k : Nat) (f : Addr) (ps : List Str) (sp : SpX) : Prop :=
  ∃ fd, FnOk P w K mg base (L2.CX P w) k f fd ps (spDX K sp) ∧ Binds K fd ps [] ∧ PySem.W.keepIn K (.ref f) = true
theorem GoodX.mono {P : Program} {w : World} {K : PySem.W.Frag} {mg : Str → Option Value} {base : Heap} {j k : Nat} {f : Addr} {ps : List Str} {sp : SpX} (g : GoodX P w K mg base j f ps sp) (h : j ≤ k) : GoodX P w K mg base k f ps sp := by
  obtain ⟨fd, F, b, kp⟩ := g
  exact ⟨fd, F.mono h, b, kp⟩
/-- what is wished of an exception -/
def wE (K : PySem.W.Frag) (B : Bs) (XX : XN → List Cel → Prop) : XK := fun cls d H => ∃ x W cs, cls = .ref (He.ga K x.c) ∧ PayOk x.p d W ∧ B.p W ∧ Ok K W H cs ∧ XX x cs
def XT (X : Cx) (B : Bs) (XX : XN → List Cel → Prop) : Prop := L2.Takes X (fun cls d _ H => wE X.K B XX cls d H)
theorem XT.passes {X : Cx} {B : Bs} {XX : XN → List Cel → Prop} (tk : XT X B XX) : Passes (L2.CX X.prog X.w) X (wE X.K B XX) :=
  fun pins σ H s e s' I c => L2.passes_call tk (fun _ _ _ _ h => h) pins σ H s e s' I c
/-- with the slots' number -/
theorem XT.of {X : Cx} {B : Bs} {XX : XN → List Cel → Prop} {W : WX} (t : L2.Takes X W) (h : ∀ cls d σ H, σ.length = X.N.length → wE X.K B XX cls d H → W cls d σ H) : XT X B XX :=
  fun u s' ⟨a, B', sI, pins, σ, H, cls, d, e, I, nb, up, sky, na, os, ag, w⟩ => t u s' ⟨a, B', sI, pins, σ, H, cls, d, e, I, nb, up, sky, na, os, ag, h _ _ _ _ I.len w⟩

/-! ### raise -/
section
variable {X : Cx} {B : Bs} {XX : XN → List Cel → Prop} {ex a b o ix : Expr} {es : List Expr} {te tv to ti ta' tb' : DE} {ta : DA} {C : Addr} {f m x : Str} {pos apos p p2 : Pos} {k : Nat} {fn : Addr} {ps : List Str} {sp : SpX}
def sRaise (XX : XN → List Cel → Prop) (c : Str) : DS := fun _ e => XX ⟨c, none⟩ e.cs
theorem ds_raise {c : Str} {j : Nat} (hc : X.calm = true) (tk : XT X B XX) (xo : PySem.W.excIn X.K (He.ga X.K c) He.veBase "ValueError.__new__" = true ∧ PySem.W.keepIn X.K (.ref (He.ga X.K c)) = true ∧ PySem.W.subIn X.K (.ref (He.ga X.K c)) (.type "BaseException") = some true ∧ PySem.W.typeIn X.K (.ref (He.ga X.K c)) = some (.type "type"))
    (gC : X.mg c = some (.ref (He.ga X.K c))) (hg : Gl X c) (hdb : (c == ("__debug__" : Str)) = false := by decide) : PS X (.Raise (some (.Call (.Name c p) [.Constant (.str m) j p2] [] pos)) none apos) (lS X.K B (sRaise XX c)) :=
  PS.imp (L2.ps_raise hc tk (L2.pmk_own F.excBase_ValueError xo.1 gC xo.2.1 (raises_own xo.2.2.1 xo.2.2.2) hg hdb)) fun E σ H h => by
    obtain ⟨W, e, P, bl, S, h, _⟩ := lS_un h
    exact ⟨⟨c, none⟩, W, e.cs, rfl, rfl, bl, S.ok, h⟩

/-! ### calls that may raise -/
def eCallX (XX : XN → List Cel → Prop) (sp : SpX) (ta : DA) : DE := fun e P => ta e fun ds e1 => sp ds e1.cs (fun d cs' => P d { e1 with cs := cs' }) XX
theorem de_callX (G : GoodX X.prog X.w X.K X.mg X.base k fn ps sp) (tk : XT X B XX) (hr : Room k X.A) (hm : X.mg x = some (.ref fn)) (ha : PA X (ex :: es) (lA X.K B ta)) (hg : Gl X x := by rfl) (hdb : (x == ("__debug__" : Str)) = false := by decide)
    (he : starEach (ex :: es) X.env = (false, eval ex X.env) :: starEach es X.env := by rfl) (hpl : (backTo pos (starEach es X.env)).any (·.1) = false := by rfl) : PE X (.Call (.Name x p) (ex :: es) [] pos) (lE X.K B (eCallX XX sp ta)) := by
  obtain ⟨fd, F, b, kp⟩ := G
  refine PE.imp (pe_call F hr hg hm kp b .nil tk.passes ha hdb he hpl) fun σ H Q ⟨W, e, P, bl, S, t, k⟩ => ⟨W, e, _, bl, S, t, fun ds e1 W1 H1 vs h l S1 r => ?_⟩
  show spDX X.K sp (vs ++ []) H1 Q (wE X.K B XX)
  rw [List.append_nil]
  exact ⟨W1, e1.cs, ds, _, XX, S1.ok, r, h, fun d cs' W2 H2 v p l2 ok2 r2 => k _ _ _ _ _ p (l.tr l2) ⟨ok2, S1.sl.mono l2⟩ r2, fun x cs' W2 H2 d px pd l2 ok2 => ⟨x, W2, cs', rfl, pd, B.up bl (l.tr l2), ok2, px⟩⟩
/-- what the caller sees: its own cells -/
def FinX (cs0 : List Cel) (PX : XN → List Cel → Prop) (x : XN) (cs : List Cel) : Prop := PX x cs ∨ ((∀ c ∈ cs.take cs0.length, c ∈ cs0 ∨ c.loD cs0.length = true) ∧ PX x (cs.take cs0.length))
def eMakeX (C : Addr) (XX : XN → List Cel → Prop) (sp : SpX) (ta : DA) : DE := fun e P => ta e fun ds e1 => sp (.cell e1.cs.length :: ds) (e1.cs ++ [.ins C [] []])
  (fun d cs' => d = .non ∧ (P (.cell e1.cs.length) { e1 with cs := cs' } ∨ ∃ cs1 C' ns xs, cs' = cs1 ++ [.ins C' ns xs] ∧ cs1.length = e1.cs.length ∧ los e1.cs.length xs = true ∧ (∀ c ∈ cs1, c ∈ e1.cs ∨ c.loD e1.cs.length = true) ∧ P (.ins C' ns xs) { e1 with cs := cs1 }))
  (FinX e1.cs XX)
theorem de_makeX (G : GoodX X.prog X.w X.K X.mg X.base k fn ps sp) (tk : XT X B XX) (hr : Room (k + 1) X.A) (M : Mk X.K C fn) (hm : X.mg x = some (.ref C)) (ha : PA X (ex :: es) (lA X.K B ta)) (hg : Gl X x := by rfl) (hdb : (x == ("__debug__" : Str)) = false := by decide)
    (he : starEach (ex :: es) X.env = (false, eval ex X.env) :: starEach es X.env := by rfl) (hpl : (backTo pos (starEach es X.env)).any (·.1) = false := by rfl) : PE X (.Call (.Name x p) (ex :: es) [] pos) (lE X.K B (eMakeX C XX sp ta)) := by
  obtain ⟨fd, F, bb, kp⟩ := G
  refine PE.imp (pe_make M F hr hg hm bb .nil tk.passes ha hdb he hpl) fun σ H Q ⟨W, e, P, bl, S, t, k⟩ => ⟨W, e, _, bl, S, t, fun ds e1 W1 H1 vs h l S1 r => fun x dx hx hdx hne => ?_⟩
  have hx2 : upd H1 dx (.own x) x = none := by rw [upd_ne (Ne.symm hne)]; exact hx
  have okd : Ok X.K W1 (upd H1 dx (.own x)) e1.cs := by
    have ne : ∀ a ∈ W1.m, a ≠ dx := fun a ha e => S1.ok.fresh hdx (e ▸ ha)
    have neh : ∀ q ∈ W1.h, q.1 ≠ dx := fun q hq e => by
      have := (S1.ok.hd q hq).1
      rw [e, hdx] at this; cases this
    refine ⟨S1.ok.ex.trans (Ex.new hdx), S1.ok.len, S1.ok.nd, fun a ha => by rw [upd_ne (ne a ha)]; exact S1.ok.here a ha, S1.ok.fr, fun n a c e1 e2 => (S1.ok.cl n a c e1 e2).heap (upd_ne (ne a (List.mem_of_getElem? e1))), fun q hq => ?_, S1.ok.hn⟩
    obtain ⟨g1, g2, g3⟩ := S1.ok.hd q hq
    exact ⟨by rw [upd_ne (neh q hq)]; exact g1, g2, g3⟩
  obtain ⟨ok, l2⟩ := okd.newC (o := .ins C dx []) (c := .ins C [] []) hx2 fun W' l => ⟨dx, [], upd_same, rfl, .nil⟩
  have rc : R X.K ⟨W1.F, W1.m ++ [x], W1.h⟩ (.ref x) (.cell e1.cs.length) := .cell (by
    show (W1.m ++ [x])[e1.cs.length]? = some x
    rw [← S1.ok.len, List.getElem?_append_right (Nat.le_refl _)]
    simp)
  rw [List.append_nil]
  refine ⟨_, _, _, _, FinX e1.cs XX, ok, .cons rc (RAll.mono l2 _ _ r), h, fun d cs' W3 H3 v ⟨hd, p⟩ l3 ok3 r3 => ⟨by subst hd; exact r3.non_inv, ?_⟩, fun xn cs' W3 H3 dd px pd l3 ok3 => ?_⟩
  · rcases p with p | ⟨cs1, C', ns, xs, rfl, hl, hx, hc, p⟩
    · exact k _ _ _ _ _ p ((l.tr l2).tr l3) ⟨ok3, S1.sl.mono (l2.tr l3)⟩ (R.mono l3 _ _ rc)
    · have l13 := l2.tr l3
      have tk : (cs1 ++ [Cel.ins C' ns xs]).take e1.cs.length = cs1 := by rw [← hl]; exact List.take_left
      obtain ⟨ok4, l4⟩ := S1.ok.trim ok3 l13 (by rw [tk]; exact hc)
      rw [tk] at ok4
      have rc3 := R.mono l3 _ _ rc
      cases rc3 with
      | cell hm =>
        have hcl : (cs1 ++ [Cel.ins C' ns xs])[e1.cs.length]? = some (Cel.ins C' ns xs) := by
          rw [← hl, List.getElem?_append_right (Nat.le_refl _)]; simp
        obtain ⟨dx', gs, g1, g2, g3⟩ := ok3.cl _ _ _ hm hcl
        have g4 : RAll X.K ⟨W3.F, W3.m.take e1.cs.length, W3.h⟩ (gs.map (·.2)) xs := RAll.low _ _ g3 hx
        have hF : W3.F x = none := (ok3.fr _ _ _ hm hcl).resolve_left fun z => nomatch z
        obtain ⟨ok5, l5⟩ := ok4.addF g1 hF (ok3.old_out hm) (fun q hq e => (ok3.hd q hq).2.2 (e ▸ List.mem_of_getElem? hm))
        subst g2
        exact k _ _ _ _ _ p (l.tr (l4.tr l5)) ⟨ok5, S1.sl.mono (l4.tr l5)⟩ (.ins upd_same (RAll.mono l5 _ _ g4))
  · have l13 := l2.tr l3
    rcases px with px | ⟨hc, px⟩
    · exact ⟨xn, W3, cs', rfl, pd, B.up bl (l.tr l13), ok3, px⟩
    · obtain ⟨ok4, l4⟩ := S1.ok.trim ok3 l13 hc
      exact ⟨xn, ⟨W3.F, W3.m.take e1.cs.length, W3.h⟩, _, rfl, pd, B.up bl (l.tr l4), ok4, px⟩
/-- the callee at any nearness -/
theorem run_inX {pins : List (Addr × Obj)} {σ : L2.St} {H : Hp} {s : Shared} {A : Around} {fd : FuncData} {sp : Sp} {E : XK} {Q : VK} {us : List Value} {vs : List V} (F : FnOk X.prog X.w X.K X.mg X.base (L2.CX X.prog X.w) k fn fd ps sp) (hb : Binds X.K fd ps []) (hr : Room k A)
    (e0 : Env0 X.prog X.w X.K X.mg X.base A X.stack s H) (hx : Passes (L2.CX X.prog X.w) X E) (I : Inv X pins σ H s) (r : Vals vs us) (h : sp vs H Q E) : wpAny (model X.prog X.w) A (call (.ref fn) us) (EP X pins σ Q) X.xe s := by
  have hl : (us ++ []).length = ps.length := by rw [List.append_nil, ← r.length]; exact F.len _ _ _ _ h
  have hbt := hb s us I.kIn hl
  rw [List.append_nil] at hbt
  refine wpAny_call (codeAny_mono (F.run A X.stack s H ⟨us, []⟩ us vs Q E hr e0 hbt r h) fun r s' hq => ?_)
  cases r with
  | error e => exact hx _ _ _ _ _ _ I hq
  | ok fl =>
    cases fl with
    | ret u => exact I.after hq
    | next => exact False.elim hq
    | brk => exact False.elim hq
    | cont => exact False.elim hq
def rTwoX (K : PySem.W.Frag) (B : Bs) (XX : XN → List Cel → Prop) (C C2 : Addr) (sp : SpX) : R2 := fun x y H Q => ∃ a dx gs b dy gt, x = .ref a ∧ H a = some (.ins C dx gs) ∧ y = .ref b ∧ H b = some (.ins C2 dy gt) ∧ spDX K sp [.ref a, .ref b] H Q (wE K B XX)
def qTwoX (C C2 : Addr) (XX : XN → List Cel → Prop) (sp : SpX) : D → D → DE := fun d y e P => (∃ ns xs, insD e.cs d = some (C, ns, xs)) ∧ (∃ ns xs, insD e.cs y = some (C2, ns, xs)) ∧ sp [d, y] e.cs (fun r cs' => P r { e with cs := cs' }) XX
theorem op_binX {C : Addr} {op : Operator} (G : GoodX X.prog X.w X.K X.mg X.base k fn ps sp) (tk : XT X B XX) (hr : Room k X.A) (sm : Sm X.K C (PySem.dunder op.info.2) fn) (hc : PySem.W.selfFirst X.K C = true) : OpR X (binaryOp op) (rTwoX X.K B XX C C sp) := by
  rintro pins s σ H x y v u Q I rx ry ⟨a, dx, gs, b, dy, gt, rfl, ha, rfl, hb, h⟩
  obtain ⟨fd, F, bi, kp⟩ := G
  cases (show v = Value.ref a from rx)
  cases (show u = Value.ref b from ry)
  obtain ⟨od, J⟩ := Inv.inst I ha
  obtain ⟨od2, J2⟩ := Inv.inst I hb
  obtain ⟨m, hF⟩ := I.fr
  refine PySem.W.binop_K hF I.ok.mod.kin J J2.type hc sm.at_ sm.fn (wpAny_mono (run_inX (us := [.ref a, .ref b]) (vs := [V.ref a, V.ref b]) F bi hr I.env0 tk.passes I (.cons rfl (.cons rfl .nil)) h) (fun v s' z => ?_) fun _ _ z => z)
  obtain ⟨v', H', I', rv, q⟩ := z
  exact RelV.cmp rv (P := EP X pins σ Q) ⟨v', H', I', rv, q⟩
/-- such an operation: the world is known all along -/
def OpDX (K : PySem.W.Frag) (B : Bs) (r : R2) (q : D → D → DE) : Prop := ∀ (W : Wd) (H : Hp) (σ : L2.St) (e : En) (x y : V) (d1 d2 : D) (P : D → En → Prop) (Q : VK), B.p W → Sd K W H σ e → R K W x d1 → R K W y d2 → q d1 d2 e P →
  (∀ d e' W' H' v, P d e' → W.le W' → Sd K W' H' σ e' → R K W' v d → Q v H') → r x y H Q
theorem od_twoX {K : PySem.W.Frag} {C C2 : Addr} : OpDX K B (rTwoX K B XX C C2 sp) (qTwoX C C2 XX sp) := fun W H σ e x y d1 d2 P Q bl S r1 r2 ⟨⟨n1, x1, i1⟩, ⟨n2, x2, i2⟩, t⟩ k => by
  obtain ⟨a, dx, gs, rfl, h1, h2, h3⟩ := S.ok.ins r1 i1
  obtain ⟨b, dy, gt, rfl, h1', h2', h3'⟩ := S.ok.ins r2 i2
  exact ⟨a, dx, gs, b, dy, gt, rfl, h1, rfl, h1', W, e.cs, [d1, d2], _, XX, S.ok, .cons r1 (.cons r2 .nil), t, fun d cs' W' H' v p l ok r' => k _ _ _ _ _ p l ⟨ok, S.sl.mono l⟩ r', fun x cs' W' H' d px pd l ok => ⟨x, W', cs', rfl, pd, B.up bl l, ok, px⟩⟩
theorem de_binX {op : Operator} {r : R2} {q : D → D → DE} (ho : OpR X (binaryOp op) r) (hq : OpDX X.K B r q) (ha : PE X a (lE X.K B ta')) (hb : PE X b (lE X.K B tb')) : PE X (.BinOp a op b pos) (lE X.K B (eBin q ta' tb')) :=
  PE.imp (pe_op ho ha hb) fun σ H Q ⟨W, e, P, bl, S, t, k⟩ => ⟨W, e, _, bl, S, t, fun x e1 W1 H1 v1 t1 l1 S1 r1 => ⟨W1, e1, _, (B.up bl l1), S1, t1, fun y e2 W2 H2 v2 t2 l2 S2 r2 =>
    hq W2 H2 σ e2 v1 v2 x y P Q (B.up bl (l1.tr l2)) S2 (R.mono l2 _ _ r1) r2 t2 fun d e3 W3 H3 v3 p l3 S3 r3 => k d e3 W3 H3 v3 p ((l1.tr l2).tr l3) S3 r3⟩⟩
def rSetX (K : PySem.W.Frag) (B : Bs) (XX : XN → List Cel → Prop) (C : Addr) (sp : SpX) : TSet := fun x i v H Q => ∃ a dx gs, x = .ref a ∧ H a = some (.ins C dx gs) ∧ spDX K sp [.ref a, i, v] H (fun _ H' => Q H') (wE K B XX)
theorem set_ownX (G : GoodX X.prog X.w X.K X.mg X.base k fn ps sp) (tk : XT X B XX) (hr : Room k X.A) (sm : Sm X.K C "__setitem__" fn) (hq : PySem.W.noSeq X.K C = true) : PSet X (rSetX X.K B XX C sp) := by
  rintro pins s σ H x i v ov iv u Q I rx ri rv ⟨a, dx, gs, rfl, ha, h⟩
  obtain ⟨fd, F, bi, kp⟩ := G
  cases (show ov = Value.ref a from rx)
  obtain ⟨od, J⟩ := Inv.inst I ha
  obtain ⟨m, hF⟩ := I.fr
  have KX := I.kIn
  unfold setItem sequenceKey callSpecial?
  refine wpAny_holding (wpAny_bind (wpAny_bind (J.type.here ?_)))
  refine wpAny_bind ((PySem.W.anyM_none KX hq).here ?_)
  rw [if_pos (show (!false) = true from rfl)]
  refine wpAny_pure (wpAny_bind ?_)
  refine wpAny_mono (PySem.W.special_fn (Q := fun r s' => r ≠ none ∧ ∃ H', Inv X pins σ H' s' ∧ Q H') KX J sm.at_ (beq_iff_eq.mp sm.fn) (wpAny_mono (run_inX (us := [.ref a, iv, u]) (vs := [V.ref a, i, v]) F bi hr I.env0 tk.passes I (.cons rfl (.cons ri (.cons rv .nil))) h) (fun v s' z => ?_) fun _ _ z => z)) (fun r s' z => ?_) fun _ _ z => z
  · obtain ⟨v', H', I', rv, q⟩ := z
    exact ⟨(fun z => nomatch z), H', I', q⟩
  · obtain ⟨h1, H', I', q⟩ := z
    cases r with
    | none => exact absurd rfl h1
    | some _ => exact wpAny_pure ⟨H', I', q⟩
def sSetX (C : Addr) (XX : XN → List Cel → Prop) (sp : SpX) (tv to ti : DE) : DS := fun P e => tv e fun v e1 => to e1 fun o e2 => ti e2 fun i e3 => (∃ ns xs, insD e3.cs o = some (C, ns, xs)) ∧ sp [o, i, v] e3.cs (fun _ cs' => P.nx { e3 with cs := cs' }) XX
theorem ds_setX (G : GoodX X.prog X.w X.K X.mg X.base k fn ps sp) (tk : XT X B XX) (hr : Room k X.A) (sm : Sm X.K C "__setitem__" fn) (hq : PySem.W.noSeq X.K C = true) (hv : PE X ex (lE X.K B tv)) (ho : PE X o (lE X.K B to)) (hi : PE X ix (lE X.K B ti))
    (ha : ∀ v, assign (.Subscript o ix p2) X.env v = (do
      let ov ← holding [v] (eval o X.env)
      let iv ← holding [v, ov] (eval ix X.env)
      standAt p2
      holding [v, ov, iv] (setItem ov iv v)
      release [v, ov, iv] []) := by intro _; rfl)
    (hs : swapsWithSole [.Subscript o ix p2] ex pos.line X.env = pure false := by rfl) (hw : swappedStores [.Subscript o ix p2] ex X.env = pure none := by rfl)
    (h1 : (assignEach [.Subscript o ix p2] X.env).map (·.2) = [assign (.Subscript o ix p2) X.env] := by rfl) : PS X (.Assign [.Subscript o ix p2] ex pos) (lS X.K B (sSetX C XX sp tv to ti)) := PS.imp (ps_asg hv (pg_sub ho hi (set_ownX G tk hr sm hq) ha) hs hw h1) fun E σ H h => by
  obtain ⟨W, e, P, bl, S, h, c⟩ := lS_un h
  refine ⟨W, e, _, bl, S, h, fun d e1 W1 H1 v t1 l1 S1 r1 => ⟨W1, e1, _, B.up bl l1, S1, t1, fun ob e2 W2 H2 w t2 l2 S2 r2 => ⟨W2, e2, _, B.up bl (l1.tr l2), S2, t2, fun ix e3 W3 H3 x t3 l3 S3 r3 => ?_⟩⟩⟩
  obtain ⟨⟨ns, xs, hi⟩, t3⟩ := t3
  have r23 := R.mono l3 _ _ r2
  have b3 := B.up bl ((l1.tr l2).tr l3)
  obtain ⟨a, dx, gs, rfl, h1', h2', h3'⟩ := S3.ok.ins r23 hi
  exact ⟨a, dx, gs, rfl, h1', W3, e3.cs, [ob, ix, d], _, XX, S3.ok, .cons r23 (.cons r3 (.cons (R.mono (l2.tr l3) _ _ r1) .nil)), t3, fun d' cs' W' H' v' p l ok r' => c.nx _ _ _ _ p (((l1.tr l2).tr l3).tr l) ⟨ok, S3.sl.mono l⟩,
    fun x cs' W' H' d px pd l ok => ⟨x, W', cs', rfl, pd, B.up b3 l, ok, px⟩⟩
end

/-! ### a def that may raise -/
abbrev cxX (P : Program) (w : World) (K : PySem.W.Frag) (mg : Str → Option Value) (base : Heap) (N : List Str) (qual : Str) (scope : Scope) (f : Addr) (cd : Value) (A : Around) (outer : List Env) (s : Shared) (H : Hp) (E : XK) : Cx := cxOf (L2.CX P w) P w K mg base N qual scope f cd A outer s H E
theorem fn_dX {P : Program} {w : World} {K : PySem.W.Frag} {mg : Str → Option Value} {base : Heap} {x qual : Str} {params : Arguments} {body : List Stmt} {scope : Scope} {dvs : List V} {kws : List (Str × V)} {f : Addr} {fd : FuncData} {N ps : List Str} {k : Nat} {sp : SpX} {t : (XN → List Cel → Prop) → DS}
    (F : FunD K x qual params body scope dvs kws f fd) (S : FnScope N ps scope) (len : ∀ ds cs Q QX, sp ds cs Q QX → ds.length = ps.length)
    (der : ∀ (cdv : Value) (A : Around) (outer : List Env) (s : Shared) (H : Hp) (E : XK) (B : Bs) (XX : XN → List Cel → Prop), Room k (A.deeper (envOfC qual scope s.heap.objs.size f cdv)) → XT (cxX P w K mg base N qual scope f cdv A outer s H E) B XX →
      PassesOwn (model P w) (A.deeper (envOfC qual scope s.heap.objs.size f cdv)) (envOfC qual scope s.heap.objs.size f cdv) (cxX P w K mg base N qual scope f cdv A outer s H E).xe → PSs (cxX P w K mg base N qual scope f cdv A outer s H E) body (lS K B (t XX)))
    (vc : ∀ ds cs Q QX, (∀ d ∈ ds, loD cs.length d = true) → (∀ c ∈ cs, c.loD cs.length = true) → sp ds cs Q QX → t (FinX cs QX) (Po.fn cs Q) ⟨startD N ds, cs⟩) : FnOk P w K mg base (L2.CX P w) (k + 1) f fd ps (spDX K sp) := by
  refine F.ok S (fun vs H Q E ⟨W, cs, ds, P', PX, ok, r, h, _⟩ => by rw [r.length]; exact len _ _ _ _ h) fun cdv A outer s H vs Q E hr ⟨W, cs, ds, P', PX, ok, r, h, kk, kx⟩ => ?_
  have tk0 : L2.Takes (cxX P w K mg base N qual scope f cdv A outer s H E) (fun cls d _ H => E cls d H) := L2.takes_of (X := cxX P w K mg base N qual scope f cdv A outer s H E) rfl rfl rfl rfl
  have tk : XT (cxX P w K mg base N qual scope f cdv A outer s H E) (Bs.of W) (FinX cs PX) := L2.Takes.imp tk0 fun cls d σ H' ⟨c, W', cs', e1, e2, bp, ok', px⟩ => by
    subst e1
    rcases px with px | ⟨hc, px⟩
    · exact kx c cs' W' H' d px e2 bp ok'
    · obtain ⟨ok4, l4⟩ := ok.trim ok' bp hc
      exact kx c _ ⟨W'.F, W'.m.take cs.length, W'.h⟩ H' d px e2 l4 ok4
  refine ⟨_, der cdv A outer s H E (Bs.of W) (FinX cs PX) hr tk (passes_of (X := cxX P w K mg base N qual scope f cdv A outer s H E) rfl), W, ⟨startD N ds, cs⟩, _, W.le_refl, ⟨ok, start_ok r⟩, vc ds cs P' PX (fun d hd => ?_) ok.cl_lo h, ?_, fin_ok ok kk, fun _ _ _ _ z => z.elim, fun _ _ _ _ z => z.elim⟩
  · obtain ⟨i, hi, e⟩ := List.mem_iff_getElem.mp hd
    obtain ⟨v, hv, rv⟩ := r.get (i := i) (d := d) (by simp [hi, e])
    rw [← ok.len]
    exact R.lo_of _ _ rv
  · exact fun e' W' H' σ' p l S' => fin_ok ok kk .non e'.cs W' H' .non p l S'.ok .non
theorem good_ofX {P : Program} {w : World} {K : PySem.W.Frag} {mg : Str → Option Value} {base : Heap} {x qual : Str} {params : Arguments} {body : List Stmt} {scope : Scope} {f : Addr} {N ps : List Str} {k : Nat} {sp : SpX} {t : (XN → List Cel → Prop) → DS}
    (F : ∃ fd, FunD K x qual params body scope [] [] f fd) (S : FnScope N ps scope) (len : ∀ ds cs Q QX, sp ds cs Q QX → ds.length = ps.length)
    (bi : ∀ (kV doc pm : Value) (an : Option Addr) (cdv ct : Value) (us : List Value), us.length = ps.length → bindArgs (PySem.W.fnOf x qual params body scope .none kV doc pm an cdv ct) ⟨us, []⟩ = pure (ps.zip us))
    (der : ∀ (cdv : Value) (A : Around) (outer : List Env) (s : Shared) (H : Hp) (E : XK) (B : Bs) (XX : XN → List Cel → Prop), Room k (A.deeper (envOfC qual scope s.heap.objs.size f cdv)) → XT (cxX P w K mg base N qual scope f cdv A outer s H E) B XX →
      PassesOwn (model P w) (A.deeper (envOfC qual scope s.heap.objs.size f cdv)) (envOfC qual scope s.heap.objs.size f cdv) (cxX P w K mg base N qual scope f cdv A outer s H E).xe → PSs (cxX P w K mg base N qual scope f cdv A outer s H E) body (lS K B (t XX)))
    (vc : ∀ ds cs Q QX, (∀ d ∈ ds, loD cs.length d = true) → (∀ c ∈ cs, c.loD cs.length = true) → sp ds cs Q QX → t (FinX cs QX) (Po.fn cs Q) ⟨startD N ds, cs⟩) : GoodX P w K mg base (k + 1) f ps sp := by
  obtain ⟨fd, F⟩ := F
  exact ⟨fd, fn_dX F S len der vc, F.bindsN bi, F.kp⟩

/-! ### try .. except C as n -/
def Po.un (P : Po) (i : Nat) : Po := { nx := fun e => P.nx { e with sl := e.sl.set i none }, rt := P.rt, bk := fun e => P.bk { e with sl := e.sl.set i none }, ct := fun e => P.ct { e with sl := e.sl.set i none } }
def sTryAs (tbl : List (Str × Bool)) (i L : Nat) (tb : (XN → List Cel → Prop) → DS) (ts : XN → Addr → DS) (XXo : XN → List Cel → Prop) : DS := fun P e => ∃ XX, tb XX P e ∧
  ∀ x cs', XX x cs' → ∃ b, (x.c, b) ∈ tbl ∧ (b = true → ∀ a, ts x a (P.un i) ⟨(List.replicate L none).set i (some (.raw (.ref a))), cs'⟩) ∧ (b = false → XXo x cs')
theorem SlO.none_ {K : PySem.W.Frag} {W : Wd} {σ : L2.St} {L : Nat} (h : σ.length = L) : SlO K W σ (List.replicate L none) := ⟨by rw [h, List.length_replicate], fun i d e => by
  rw [List.getElem?_replicate] at e
  split at e <;> cases e⟩
theorem SlO.unset {K : PySem.W.Frag} {W : Wd} {σ : L2.St} {sl : List (Option D)} {i : Nat} (h : SlO K W σ sl) : SlO K W (σ.set i none) (sl.set i none) := by
  refine ⟨by simp [h.1], fun j d e => ?_⟩
  rw [List.getElem?_set] at e
  by_cases hij : i = j
  · subst hij
    rw [if_pos rfl] at e
    split at e <;> cases e
  · rw [if_neg hij] at e
    obtain ⟨v, a, b⟩ := h.2 j d e
    exact ⟨v, by rw [List.getElem?_set_ne hij]; exact a, b⟩
theorem PSs.ofEx {X : Cx} {ss : List Stmt} {α : Type} {t : TS} {q : α → Prop} {u : α → TS} (h : ∀ x, q x → PSs X ss (u x)) (i : ∀ D σ H, t D σ H → ∃ x, q x ∧ u x D σ H) : PSs X ss t := ⟨fun pins s σ H D I w => by
  obtain ⟨x, hq, hu⟩ := i D σ H w
  exact (h x hq).run pins s σ H D I hu⟩
/-- an own exception class: isinstance, and no attribute index of its own -/
structure ExcZ (K : PySem.W.Frag) (D : Addr) : Prop where
  e : ExcC K D
  n : PySem.W.findIn K (.ref D) "index" = some none
theorem ExcZ.xf {K : PySem.W.Frag} {D : Addr} (h : ExcZ K D) : XfC K D := ⟨h.e.hg, h.e.hk, h.e.hs, h.e.hd⟩
theorem ds_tryAs {X : Cx} {B : Bs} {x n : Str} {C : Addr} {i : Nat} {body suite : List Stmt} {b₀ : Stmt} {np pos pos' : Pos} {tbl : List (Str × Bool)} {tb : (XN → List Cel → Prop) → DS} {ts : XN → Addr → DS} {XXo : XN → List Cel → Prop}
    (hs : X.stack = X.env :: X.outer) (hf : X.env.frame = some X.env.locals) (hN : X.N.Nodup) (hi : X.N[i]? = some n) (hln : X.env.kindOf n = some .local) (hm : X.mg x = some (.ref C)) (hg : Gl X x) (tko : XT X B XXo)
    (hx : ∀ p ∈ tbl, PySem.W.exmOne X.K (.ref (He.ga X.K p.1)) (.ref C) = some p.2) (hE : ∀ p ∈ tbl, ExcZ X.K (He.ga X.K p.1))
    (hb : ∀ (B : Bs) (XX : XN → List Cel → Prop) (pn : List (Addr × Obj)) (xe : Value → Shared → Prop), XT (X.tr pn xe) B XX → PassesOwn (model X.prog X.w) X.A X.env xe → PSs (X.tr pn xe) body (lS X.K B (tb XX)))
    (hsu : ∀ (B : Bs) (x : XN) (a : Addr) (oe : Obj) (d : Option Addr) (pn : List (Addr × Obj)), ExcZ X.K (He.ga X.K x.c) → Zc (.ref (He.ga X.K x.c)) d oe → (∃ vs, oe.data = .fields vs) → (∀ W, B.p W → PayOk x.p d W) → PSs (X.suite a ((a, oe) :: pn)) (b₀ :: suite) (lS X.K B (ts x a)))
    (hdb : (x == ("__debug__" : Str)) = false := by decide) :
    PS X (.Try body [.ExceptHandler (some (.Name x np)) (some n) (b₀ :: suite) pos'] [] [] pos) (lS X.K B (sTryAs tbl i X.N.length tb ts XXo)) := by
  refine PS.imp (L2.ps_try_as (x := x) (n := n) (c := .ref C) (i := i) (Wout := fun cls d _ H => wE X.K B XXo cls d H)
    (tb := fun W D σ H => ∃ p : Bs × (XN → List Cel → Prop), (∀ cls d σ H, σ.length = X.N.length → wE X.K p.1 p.2 cls d H → W cls d σ H) ∧ lS X.K p.1 (tb p.2) D σ H)
    (ts := fun a cls d D σ H => ∃ p : Bs × XN, (cls = .ref (He.ga X.K p.2.c) ∧ ExcZ X.K (He.ga X.K p.2.c) ∧ ∀ W, p.1.p W → PayOk p.2.p d W) ∧ lS X.K p.1 (ts p.2 a) D σ H)
    hs hf hN hi hln ⟨hg, hdb, .inl hm⟩ tko (fun W pn xe tk po => ?_) (fun a oe cls d pn hz hfd => ?_)) fun E σ H h => ?_
  · exact PSs.ofEx (q := fun p : Bs × (XN → List Cel → Prop) => ∀ cls d σ H, σ.length = X.N.length → wE X.K p.1 p.2 cls d H → W cls d σ H) (u := fun p => lS X.K p.1 (tb p.2)) (fun p hp => hb p.1 p.2 pn xe (XT.of (X := X.tr pn xe) tk hp) po) fun D σ H h => h
  · exact PSs.ofEx (q := fun p : Bs × XN => cls = .ref (He.ga X.K p.2.c) ∧ ExcZ X.K (He.ga X.K p.2.c) ∧ ∀ W, p.1.p W → PayOk p.2.p d W) (u := fun p => lS X.K p.1 (ts p.2 a)) (fun p ⟨h1, h2, h3⟩ => by
      subst h1
      exact hsu p.1 p.2 a oe d pn h2 hz hfd h3) fun D σ H h => h
  · obtain ⟨W, e, P, bl, S, ⟨XX, h, hc⟩, c⟩ := lS_un h
    refine ⟨(Bs.of W, XX), fun cls d σ' H' hl ⟨cc, W', cs', e1, e2, bp, ok', px⟩ => ?_, lS_mk W.le_refl S h c⟩
    subst e1
    obtain ⟨b, hbm, hy, hn⟩ := hc cc cs' px
    refine ⟨b, hx _ hbm, fun eb a na => ?_, fun eb => ⟨cc, W', cs', rfl, e2, B.up bl bp, ok', hn eb⟩⟩
    refine ⟨(Bs.of W', cc), ⟨rfl, hE _ hbm, fun W1 l1 => e2.mono l1⟩, lS_mk (P := P.un i) W'.le_refl ⟨ok', (SlO.none_ hl).set (.raw (.ref a))⟩ (hy eb a) ?_⟩
    exact ⟨fun e' W2 H2 σ2 p l S2 => c.nx _ _ _ _ p (bp.tr l) ⟨S2.ok, S2.sl.unset⟩, fun d cs W2 H2 v p l ok r => c.rt _ _ _ _ _ p (bp.tr l) ok r, fun e' W2 H2 σ2 p l S2 => c.bk _ _ _ _ p (bp.tr l) ⟨S2.ok, S2.sl.unset⟩, fun e' W2 H2 σ2 p l S2 => c.ct _ _ _ _ p (bp.tr l) ⟨S2.ok, S2.sl.unset⟩⟩
/-! ### the field of what was caught -/
def eXf (x : XN) (a : Addr) (te : DE) : DE := fun e P => te e fun d e1 => d = .raw (.ref a) ∧ ∃ i, x.p = some i ∧ P (.int i) e1
theorem de_xf {X : Cx} {B : Bs} {x : XN} {a : Addr} {oe : Obj} {d : Option Addr} {pn : List (Addr × Obj)} {ex : Expr} {te : DE} {pos : Pos} (T : ExcZ X.K (He.ga X.K x.c)) (hz : Zc (.ref (He.ga X.K x.c)) d oe) (hf : ∃ vs, oe.data = .fields vs)
    (hp : ∀ W, B.p W → PayOk x.p d W) (he : PE (X.suite a ((a, oe) :: pn)) ex (lE X.K B te)) (hb : attributeBase ex "index" X.env (eval ex X.env) = eval ex X.env := by rfl) : PE (X.suite a ((a, oe) :: pn)) (.Attribute ex "index" pos) (lE X.K B (eXf x a te)) :=
  PE.imp (pe_xf T.xf T.n hz hf he hb) fun σ H Q ⟨W, e, P, bl, S, t, k⟩ => ⟨W, e, _, bl, S, t, fun dd e1 W1 H1 v ⟨hd, i, hi, p⟩ l S1 r => by
    subst hd
    cases r
    have h := hp W1 (B.up bl l)
    rw [hi] at h
    obtain ⟨q, e1', e2⟩ := h
    exact ⟨rfl, rfl, q, xnF i, .int i, e1', S1.ok.ex _ _ e2, rfl, k _ _ _ _ _ p l S1 (.int i)⟩⟩
/-! ### raise C(i), C having its own __init__ -/
def spIx (C : Addr) : Sp := fun vs H Q _ => ∃ (a : Addr) (i : Int), vs = [.ref a, .int i] ∧ H a = some (exo a C none) ∧ ∀ dx, H dx = none → dx ≠ a → Q .non (upd (upd H dx (exd dx (xnF i))) a (exo a C (some dx)))
def GoodIx (P : Program) (w : World) (K : PySem.W.Frag) (mg : Str → Option Value) (base : Heap) (k : Nat) (f : Addr) (c : Str) : Prop :=
  ∃ fd, FnOk P w K mg base CX0 k f fd ["self", "index"] (spIx (He.ga K c)) ∧ Binds K fd ["self", "index"] [] ∧ OexC K (He.ga K c) ∧ PySem.W.findIn K (.ref (He.ga K c)) "__init__" = some (some (.ref f)) ∧ PySem.W.typeIn K (.ref f) = some (.type "function")
theorem goodIx_of {P : Program} {w : World} {K : PySem.W.Frag} {mg : Str → Option Value} {base : Heap} {x qual c : Str} {params : Arguments} {body : List Stmt} {scope : Scope} {f : Addr} {k : Nat}
    (F : ∃ fd, FunD K x qual params body scope [] [] f fd) (S : FnScope ["self", "index"] ["self", "index"] scope)
    (bi : ∀ (kV doc pm : Value) (an : Option Addr) (cdv ct : Value) (us : List Value), us.length = 2 → bindArgs (PySem.W.fnOf x qual params body scope .none kV doc pm an cdv ct) ⟨us, []⟩ = pure ((["self", "index"] : List Str).zip us))
    (der : ∀ (cdv : Value) (A : Around) (outer : List Env) (s : Shared) (H : Hp) (E : XK), PSs (cxOf CX0 P w K mg base ["self", "index"] qual scope f cdv A outer s H E) body (tOst K "index" (tVar 0) (tVar 1)))
    (T : OexC K (He.ga K c)) (hno : PySem.W.findIn K (.ref (He.ga K c)) "index" = some none) (sm : Sm K (He.ga K c) "__init__" f) : GoodIx P w K mg base (k + 1) f c := by
  obtain ⟨fd, F⟩ := F
  refine ⟨fd, F.ok S (fun vs H Q E ⟨a, i, e, _⟩ => by rw [e]; rfl) fun cdv A outer s H vs Q E hr ⟨a, i, e, h1, h2⟩ => ⟨tOst K "index" (tVar 0) (tVar 1), der cdv A outer s H E, ?_⟩, F.bindsN bi, T, sm.at_, beq_iff_eq.mp sm.fn⟩
  subst e
  exact ⟨.int i, rfl, .ref a, rfl, a, _, rfl, T, hno, .inl ⟨h1, h2⟩⟩
def sRaiseI (XX : XN → List Cel → Prop) (c : Str) (te : DE) : DS := fun _ e => te e fun d e1 => ∃ i, [d] = [D.int i] ∧ XX ⟨c, some i⟩ e1.cs
theorem ds_raiseI {X : Cx} {B : Bs} {XX : XN → List Cel → Prop} {c : Str} {ex : Expr} {te : DE} {k : Nat} {f : Addr} {p pos apos : Pos} (G : GoodIx X.prog X.w X.K X.mg X.base k f c) (hc : X.calm = true) (tk : XT X B XX) (hr : Room (k + 1) X.A) (gC : X.mg c = some (.ref (He.ga X.K c))) (hg : Gl X c)
    (he : PE X ex (lE X.K B te)) (hdb : (c == ("__debug__" : Str)) = false := by decide) (hse : starEach [ex] X.env = (false, eval ex X.env) :: starEach [] X.env := by rfl) (hpl : (backTo pos (starEach ([] : List Expr) X.env)).any (·.1) = false := by rfl) :
    PS X (.Raise (some (.Call (.Name c p) [ex] [] pos)) none apos) (lS X.K B (sRaiseI XX c te)) := by
  obtain ⟨fd, F, bi, T, iC, tI⟩ := G
  refine PS.imp (L2.ps_raise hc tk (L2.pmk_oex T iC tI F hr bi .nil pass0 hg gC (da_cons he da_nil hse) hdb hse hpl)) fun E σ H h => ?_
  obtain ⟨W, e, P, bl, S, h, _⟩ := lS_un h
  refine ⟨W, e, _, bl, S, (show aCons te aNil e (fun ds e1 => ∃ i, ds = [.int i] ∧ XX ⟨c, some i⟩ e1.cs) from ?_), fun ds e1 W1 H1 vs ⟨i, hd, px⟩ l S1 r => ?_⟩
  · exact h
  subst hd
  obtain ⟨v, rfl, r1⟩ : ∃ v, vs = [v] ∧ R X.K W1 v (.int i) := by
    cases r with
    | cons r1 r2 => cases r2; exact ⟨_, rfl, r1⟩
  cases r1
  refine ⟨by simp, fun a ha => ⟨a, i, rfl, upd_same, fun dx hdx hne => ⟨rfl, dx, xnF i, upd_same, ?_, ?_, ?_⟩⟩⟩
  · rw [upd_ne hne, upd_same]
  · rw [upd_ne hne] at hdx
    exact hdx
  · rw [upd_ne hne] at hdx
    obtain ⟨ok2, l2⟩ := S1.ok.newF (o := .xd (xnF i)) hdx
    have eh : upd (del (upd (upd (upd H1 a (exo a (He.ga X.K c) none)) dx (exd dx (xnF i))) a (exo a (He.ga X.K c) (some dx))) a) dx (.xd (xnF i)) = upd H1 dx (.xd (xnF i)) := by
      funext b
      by_cases h1 : b = dx
      · subst h1
        rw [upd_same, upd_same]
      · rw [upd_ne h1, upd_ne h1]
        by_cases h2 : b = a
        · subst h2
          rw [del_same, ha]
        · rw [del_ne h2, upd_ne h2, upd_ne h1, upd_ne h2]
    rw [eh]
    exact ⟨⟨c, some i⟩, _, e1.cs, rfl, ⟨dx, rfl, upd_same⟩, B.up bl (l.tr l2), ok2, px⟩
/-! ### what the head tells -/
theorem excc_ok {K : PySem.W.Frag} {c : Str} (h : (Fx.excc c).ok K = true) : ExcC K (He.ga K c) := by
  obtain ⟨h1, h2⟩ := He.ba h
  obtain ⟨h3, h4⟩ := He.ba h2
  obtain ⟨h5, h6⟩ := He.ba h4
  obtain ⟨h7, h8⟩ := He.ba h6
  obtain ⟨h9, h10⟩ := He.ba h8
  obtain ⟨h11, h12⟩ := He.ba h10
  obtain ⟨h13, h14⟩ := He.ba h12
  exact ⟨He.eqO_ok h3, He.eqO_ok h5, (He.exc_ok h1).2.2.1, h7, He.eqO_ok h9, He.eqO_ok h11, of_decide_eq_true h13, of_decide_eq_true h14⟩
theorem exci_ok {K : PySem.W.Frag} {c : Str} (h : (Fx.exci c).ok K = true) : ExcC K (He.ga K c) := by
  obtain ⟨h1, h2⟩ := He.ba h
  obtain ⟨h3, h4⟩ := He.ba h2
  obtain ⟨h5, h6⟩ := He.ba h4
  obtain ⟨h7, h8⟩ := He.ba h6
  obtain ⟨h9, h10⟩ := He.ba h8
  obtain ⟨h11, h12⟩ := He.ba h10
  obtain ⟨h13, h14⟩ := He.ba h12
  exact ⟨He.eqO_ok h3, He.eqO_ok h5, of_decide_eq_true h1, h7, He.eqO_ok h9, He.eqO_ok h11, of_decide_eq_true h13, of_decide_eq_true h14⟩
theorem kitb_ok {K : PySem.W.Frag} {T : String} {l : List (Str × Bool)} (h : (Fx.kitb T l).ok K = true) : ∀ p ∈ l, PySem.W.kitOne K (.ref (He.ga K p.1)) (.type T) = some p.2 := fun p m => of_decide_eq_true (List.all_eq_true.mp h p m)
theorem exm_okT {K : PySem.W.Frag} {c : Str} {l : List (Str × Bool)} (h : (Fx.exm c l).ok K = true) : ∀ p ∈ l, PySem.W.exmOne K (.ref (He.ga K p.1)) (.ref (He.ga K c)) = some p.2 := fun p m => of_decide_eq_true (List.all_eq_true.mp h p m)
theorem excL_nil {K : PySem.W.Frag} : ∀ p ∈ ([] : List (Str × Bool)), ExcZ K (He.ga K p.1) := fun _ h => nomatch h
theorem excL_cons {K : PySem.W.Frag} {c : Str} {b : Bool} {l : List (Str × Bool)} (h : ExcZ K (He.ga K c)) (t : ∀ p ∈ l, ExcZ K (He.ga K p.1)) : ∀ p ∈ (c, b) :: l, ExcZ K (He.ga K p.1) := fun p m => by
  rcases List.mem_cons.mp m with rfl | m
  · exact h
  · exact t p m
theorem XT.never {X : Cx} {B : Bs} : XT X B (fun _ _ => False) := fun _ _ ⟨_, _, _, _, _, _, _, _, _, _, _, _, _, _, _, _, _, _, _, _, _, _, _, w⟩ => w.elim
section
variable {XX : XN → List Cel → Prop} {sp : SpX} {ta : DA} {tv to ti te : DE} {e : En} {P : D → En → Prop} {Po' : Po} {C C2 : Addr} {d y tg : D} {ds : List D} {c : Str} {a : Addr} {tbl : List (Str × Bool)}
theorem v_callX (h : ta e fun ds e1 => sp ds e1.cs (fun d cs' => P d { e1 with cs := cs' }) XX) : eCallX XX sp ta e P := h
theorem v_makeX (h : ta e fun ds e1 => sp (.cell e1.cs.length :: ds) (e1.cs ++ [.ins C [] []])
  (fun d cs' => d = .non ∧ (P (.cell e1.cs.length) { e1 with cs := cs' } ∨ ∃ cs1 C' ns xs, cs' = cs1 ++ [.ins C' ns xs] ∧ cs1.length = e1.cs.length ∧ los e1.cs.length xs = true ∧ (∀ c ∈ cs1, c ∈ e1.cs ∨ c.loD e1.cs.length = true) ∧ P (.ins C' ns xs) { e1 with cs := cs1 }))
  (FinX e1.cs XX)) : eMakeX C XX sp ta e P := h
theorem v_setX (h : tv e fun v e1 => to e1 fun o e2 => ti e2 fun i e3 => (∃ ns xs, insD e3.cs o = some (C, ns, xs)) ∧ sp [o, i, v] e3.cs (fun _ cs' => Po'.nx { e3 with cs := cs' }) XX) : sSetX C XX sp tv to ti Po' e := h
theorem v_twoX (h : (∃ ns xs, insD e.cs d = some (C, ns, xs)) ∧ (∃ ns xs, insD e.cs y = some (C2, ns, xs)) ∧ sp [d, y] e.cs (fun r cs' => P r { e with cs := cs' }) XX) : qTwoX C C2 XX sp d y e P := h
theorem v_raise (h : XX ⟨c, none⟩ e.cs) : sRaise XX c Po' e := h
theorem v_raiseI (h : te e fun d e1 => ∃ i, [d] = [D.int i] ∧ XX ⟨c, some i⟩ e1.cs) : sRaiseI XX c te Po' e := h
theorem v_xf {x : XN} (h : te e fun d e1 => d = .raw (.ref a) ∧ ∃ i, x.p = some i ∧ P (.int i) e1) : eXf x a te e P := h
theorem v_tryAs {i L : Nat} {tb : (XN → List Cel → Prop) → DS} {ts : XN → Addr → DS} {XXo : XN → List Cel → Prop} (XX : XN → List Cel → Prop) (h1 : tb XX Po' e)
    (h2 : ∀ x cs', XX x cs' → ∃ b, (x.c, b) ∈ tbl ∧ (b = true → ∀ a, ts x a (Po'.un i) ⟨(List.replicate L none).set i (some (.raw (.ref a))), cs'⟩) ∧ (b = false → XXo x cs')) : sTryAs tbl i L tb ts XXo Po' e := ⟨XX, h1, h2⟩
end
theorem v_unx {P : Po} {i : Nat} {e : En} (h : P.nx { e with sl := e.sl.set i none }) : (P.un i).nx e := h
theorem v_urt {P : Po} {i : Nat} {d : D} {cs : List Cel} (h : P.rt d cs) : (P.un i).rt d cs := h
theorem encB : EqE D.bl 0 where
  ok := fun _ => rfl
  lay := fun _ => rfl
  dep := fun _ => by
    show (PyData.bool _).depth ≤ 0
    simp [PyData.depth]
  eqv := fun a b => by
    show PyData.eqv (.bool a) (.bool b) = _
    simp only [PyData.eqv]
    exact Bool.beq_eq_decide_eq a b
theorem encBL : EqE (fun xs : List Bool => D.lst (xs.map D.bl)) 1 := encB.lst
theorem atI_zero {x : D} {xs : List D} : atI (x :: xs) 0 = some x := atI_nat (j := 0) rfl
theorem atI_one {x y : D} {xs : List D} : atI (x :: y :: xs) 1 = some y := atI_nat (j := 1) rfl
/-! ### a comprehension in a comprehension -/
def relS (scope sc : Scope) : Scope := { scope with names := scope.names.map fun (n, k) => if (k == .free && sc.kind == .function && sc.names.lookup n == some .cell) then (n, .cell) else (n, k) }
theorem blkOk_in {N : List Str} {scope0 sc0 scope : Scope} {env : PySem.Env} {own : List (Str × Nat)} (he : env.scope = sc0) (h : blkC N (relS scope0 sc0) scope own = true) : BlkOk N (relabel scope0 env) scope own := by
  subst he
  exact blkOk_by h
/-! ### isinstance(x, T), x one of an own class, or a plain value -/
def qIsiO (C : Addr) (T : String) : List D → DE
  | [d, .raw (.ty T')] => fun e P => T' = T ∧ (((∃ ns xs, insD e.cs d = some (C, ns, xs)) ∧ P (.bl false) e) ∨ (tyKnown T = true ∧ ∃ a, tyN e.cs d = some a ∧ P (.bl (isTy a T)) e))
  | _ => fun _ _ => False
theorem cd_isiO {K : PySem.W.Frag} {C : Addr} {T : String} (ic : C8.InsC K C) (kt : PySem.W.kitOne K (.ref C) (.type T) = some false) : CallD K (rIsi K) (qIsiO C T) := by
  intro W H σ e vs ds P Q S r t k
  unfold qIsiO at t
  split at t
  · obtain ⟨v, v2, rfl, r1, r2⟩ := r.two
    obtain ⟨rfl, t⟩ := t
    cases r2
    rcases t with ⟨⟨ns, xs, hi⟩, p⟩ | ⟨hT, a, ea, p⟩
    · obtain ⟨a, dx, gs, rfl, h1, h2, h3⟩ := S.ok.ins r1 hi
      exact ⟨.ref a, .ty _, .ref C, _, false, rfl, .ty _, .base (TyOf.ins h1 ic.cl ic.ha ic.hn ic.htk ic.hm), kt, k _ _ _ _ _ p W.le_refl S (.bl _)⟩
    · obtain ⟨ty, mem⟩ := S.ok.ty r1 ea
      exact ⟨v, .ty _, _, _, _, rfl, .ty _, ty, kit_ty (kit_in mem hT), k _ _ _ _ _ p W.le_refl S (.bl _)⟩
  · exact t.elim
theorem v_isiOF {C : Addr} {T : String} {d : D} {e : En} {P : D → En → Prop} (h : ∃ ns xs, insD e.cs d = some (C, ns, xs)) (p : P (.bl false) e) : qIsiO C T [d, .raw (.ty T)] e P := ⟨rfl, .inl ⟨h, p⟩⟩
theorem v_isiOT {C : Addr} {T : String} {d : D} {e : En} {P : D → En → Prop} {a : String} (hT : tyKnown T = true) (h : tyN e.cs d = some a) (p : P (.bl (isTy a T)) e) : qIsiO C T [d, .raw (.ty T)] e P := ⟨rfl, .inr ⟨hT, a, h, p⟩⟩
end DL
/-! isinstance of what was caught, with a field or without; try .. except C without a name -/
namespace DL
open PySem PySem.Spec PyProof.Rows L2
open Evl (Ex)
/-- the caught one's dict, as the heap has it -/
def HasD (d : Option Addr) (H : Hp) : Prop := d = none ∨ ∃ dd fs, d = some dd ∧ H dd = some (.xd fs)
theorem inst_of {X : Cx} {a D : Addr} {oe : Obj} {d : Option Addr} {pn pins : List (Addr × Obj)} {σ : L2.St} {H : Hp} {s : Shared} (I : Inv (X.suite a ((a, oe) :: pn)) pins σ H s) (hz : Zc (.ref D) d oe) (hf : ∃ vs, oe.data = .fields vs) (hd : HasD d H) : ∃ od, PySem.W.InstAt s.heap a oe D od := by
  obtain ⟨hget, _⟩ := I.pin (a, oe) (List.mem_append.mpr (.inl List.mem_cons_self))
  obtain ⟨vs, hv⟩ := hf
  rcases hd with rfl | ⟨dd, fs, rfl, ea⟩
  · refine ⟨none, hget, hz.1, by unfold PySem.W.notCls; rw [hv] <;> rfl, ?_⟩
    rw [hz.2]
    trivial
  · obtain ⟨mA, hns, hr⟩ := (I.hok dd _ ea : ObjOk X.prog X.w H s.heap dd (.xd fs))
    obtain ⟨od, ho, hl⟩ := lookIn_ns hns
    refine ⟨some od, hget, hz.1, by unfold PySem.W.notCls; rw [hv] <;> rfl, ?_⟩
    rw [hz.2]
    exact ho
theorem cls_some {K : PySem.W.Frag} {D : Addr} (h : PySem.W.hasDictIn K D = true) : (PySem.W.clsIn K D).isSome = true := by
  obtain ⟨cd, hc, _⟩ := PySem.W.any_some h
  rw [hc]
  rfl
def rIsEz (K : PySem.W.Frag) (D a : Addr) (d : Option Addr) : List V → Hp → VK → Prop := fun xs H Q => HasD d H ∧ rIsE K D a xs H Q
theorem call_isEz {X : Cx} {a D : Addr} {oe : Obj} {d : Option Addr} {pn : List (Addr × Obj)} (C : ExcC X.K D) (hz : Zc (.ref D) d oe) (hf : ∃ vs, oe.data = .fields vs) : CallR (X.suite a ((a, oe) :: pn)) (.builtin "isinstance") (rIsEz X.K D a d) := by
  intro pins s σ H xs us Q I r ⟨hd, h⟩
  obtain ⟨c, cv, b, rfl, hcv, e, q⟩ := h
  cases r with
  | cons rx rr =>
    cases rr with
    | cons rt rr =>
      cases rr
      cases rx
      have ec := hcv _ rt
      subst ec
      obtain ⟨od, J⟩ := inst_of I hz hf hd
      exact PySem.W.kia_one (PySem.W.kitx_exc (cls_some C.hd) C.hg C.hk C.hs C.ha C.hn C.ht C.hm) I.kIn J e (fun z => nomatch z) fun tk => ⟨.bl b, H, I.kept (t' := tk) fun _ _ z => z, rfl, q⟩
def rIsETz (K : PySem.W.Frag) (D a : Addr) (d : Option Addr) : List V → Hp → VK → Prop := fun xs H Q => HasD d H ∧ ∃ (tp : Addr) (vs : List V) (us : List Value) (b : Bool), xs = [.ref a, .ref tp] ∧ SqT K H tp vs ∧ Paired ClsV vs us ∧ PySem.W.kitAny K (.ref D) us = some b ∧ Q (.bl b) H
theorem call_isETz {X : Cx} {a D : Addr} {oe : Obj} {d : Option Addr} {pn : List (Addr × Obj)} (C : ExcC X.K D) (hz : Zc (.ref D) d oe) (hf : ∃ vs, oe.data = .fields vs) : CallR (X.suite a ((a, oe) :: pn)) (.builtin "isinstance") (rIsETz X.K D a d) := by
  intro pins s σ H xs us Q I r ⟨hd, h⟩
  obtain ⟨tp, vs, ws, b, rfl, hT, k, e, q⟩ := h
  obtain ⟨u1, u2, rfl, r1, r2⟩ := vals2 r
  cases (show u1 = Value.ref a from r1)
  cases (show u2 = Value.ref tp from r2)
  obtain ⟨its, rv, ⟨o, h1, h2, n, h3⟩, _⟩ := I.tuple hT
  have e3 := ClsV.all k rv
  subst e3
  obtain ⟨oc, od0, dt, sl⟩ := o
  simp only at h2 h3
  subst h2 h3
  obtain ⟨od, J⟩ := inst_of I hz hf hd
  exact PySem.W.kia_tup (PySem.W.kitx_exc (cls_some C.hd) C.hg C.hk C.hs C.ha C.hn C.ht C.hm) I.kIn J h1 e (fun z => nomatch z) fun tk => ⟨.bl b, H, I.kept (t' := tk) fun _ _ z => z, rfl, q⟩
/-- the answer for the class c stands in the table -/
def qIsE (x : XN) (a : Addr) (tbl : List (Str × Bool)) (tg : D) : List D → DE := fun ds e P => ∃ d, ds = [.raw (.ref a), d] ∧ d = tg ∧ ∃ b, (x.c, b) ∈ tbl ∧ P (.bl b) e
/-- the same, where the caught one's dict is known -/
def CallDB (K : PySem.W.Frag) (B : Bs) (r : List V → Hp → VK → Prop) (q : List D → DE) : Prop := ∀ (W : Wd) (H : Hp) (σ : L2.St) (e : En) (vs : List V) (ds : List D) (P : D → En → Prop) (Q : VK), B.p W → Sd K W H σ e → RAll K W vs ds → q ds e P →
  (∀ d e' W' H' v, P d e' → W.le W' → Sd K W' H' σ e' → R K W' v d → Q v H') → r vs H Q
section
variable {K : PySem.W.Frag} {X : Cx} {B : Bs} {x : Str} {p pos : Pos} {ex : Expr} {es : List Expr} {ta : DA} {id T : String} {r : List V → Hp → VK → Prop} {q : List D → DE}
theorem de_callBB (hc : CallR X (.builtin id) r) (hq : CallDB X.K B r q) (hg : Gl X x) (hm : X.mg x = none) (hv : bootBuiltins x = some (.builtin id)) (ha : PA X (ex :: es) (lA X.K B ta)) (hn : x ≠ "__name__" := by decide) (hdb : (x == ("__debug__" : Str)) = false := by decide)
    (he : starEach (ex :: es) X.env = (false, eval ex X.env) :: starEach es X.env := by rfl) (hpl : (backTo pos (starEach es X.env)).any (·.1) = false := by rfl) : PE X (.Call (.Name x p) (ex :: es) [] pos) (lE X.K B (eCB q ta)) :=
  PE.imp (pe_callB hc hg hm hv ha hn hdb he hpl) fun σ H Q ⟨W, e, P, bl, S, t, k⟩ =>
    ⟨W, e, _, bl, S, t, fun ds e1 W1 H1 vs t1 l1 S1 r1 => hq W1 H1 σ e1 vs ds P Q (B.up bl l1) S1 r1 t1 fun d e2 W2 H2 v p l2 S2 r2 => k d e2 W2 H2 v p (l1.tr l2) S2 r2⟩
end
theorem hasD_of {x : XN} {d : Option Addr} {W : Wd} {H : Hp} (hp : PayOk x.p d W) (ex : Ex W.F H) : HasD d H := by
  unfold PayOk at hp
  split at hp
  · exact .inl hp
  · obtain ⟨dd, e1, e2⟩ := hp
    exact .inr ⟨dd, _, e1, ex _ _ e2⟩
section
variable {K : PySem.W.Frag} {B : Bs} {x : XN} {a : Addr} {d : Option Addr} {tbl : List (Str × Bool)}
theorem cd_isE {C : Addr} (hp : ∀ W, B.p W → PayOk x.p d W) (h : ∀ p ∈ tbl, PySem.W.kitOne K (.ref (He.ga K p.1)) (.ref C) = some p.2) : CallDB K B (rIsEz K (He.ga K x.c) a d) (qIsE x a tbl (.raw (.ref C))) := by
  rintro W H σ e vs ds P Q bw S r ⟨d, rfl, rfl, b, hb, p⟩ k
  obtain ⟨v, v2, rfl, r1, r2⟩ := r.two
  cases r1
  cases r2
  exact ⟨hasD_of (hp W bw) S.ok.ex, .ref C, .ref C, b, rfl, fun u hu => hu, h _ hb, k _ _ _ _ _ p W.le_refl S (.bl _)⟩
theorem cd_isEB {T : String} (hp : ∀ W, B.p W → PayOk x.p d W) (h : ∀ p ∈ tbl, PySem.W.kitOne K (.ref (He.ga K p.1)) (.type T) = some p.2) : CallDB K B (rIsEz K (He.ga K x.c) a d) (qIsE x a tbl (.raw (.ty T))) := by
  rintro W H σ e vs ds P Q bw S r ⟨d, rfl, rfl, b, hb, p⟩ k
  obtain ⟨v, v2, rfl, r1, r2⟩ := r.two
  cases r1
  cases r2
  exact ⟨hasD_of (hp W bw) S.ok.ex, .ty T, .type T, b, rfl, fun u hu => hu, h _ hb, k _ _ _ _ _ p W.le_refl S (.bl _)⟩
theorem clsv_map {W : Wd} : ∀ {Cs : List Addr} {vs : List V}, RAll K W vs (Cs.map fun C => D.raw (.ref C)) → Paired ClsV vs (Cs.map fun C => Value.ref C)
  | [], _, .nil => .nil
  | C :: Cs, _, .cons r t => by
    cases r
    exact .cons (.own C) (clsv_map t)
theorem cd_isET {Cs : List Addr} (hp : ∀ W, B.p W → PayOk x.p d W) (h : ∀ p ∈ tbl, PySem.W.kitAny K (.ref (He.ga K p.1)) (Cs.map fun C => .ref C) = some p.2) : CallDB K B (rIsETz K (He.ga K x.c) a d) (qIsE x a tbl (.tup (Cs.map fun C => .raw (.ref C)))) := by
  rintro W H σ e vs ds P Q bw S r ⟨d, rfl, rfl, b, hb, p⟩ k
  obtain ⟨v, v2, rfl, r1, r2⟩ := r.two
  cases r1
  cases r2 with
  | tup h1 h2 => exact ⟨hasD_of (hp W bw) S.ok.ex, _, _, _, b, rfl, Evl.ex_t S.ok.ex h1, clsv_map h2, h _ hb, k _ _ _ _ _ p W.le_refl S (.bl _)⟩
end
theorem kito_ok {K : PySem.W.Frag} {c : Str} {l : List (Str × Bool)} (h : (Fx.kito c l).ok K = true) : ∀ p ∈ l, PySem.W.kitOne K (.ref (He.ga K p.1)) (.ref (He.ga K c)) = some p.2 := fun p m => of_decide_eq_true (List.all_eq_true.mp h p m)
theorem kita_ok {K : PySem.W.Frag} {cs : List Str} {l : List (Str × Bool)} (h : (Fx.kita cs l).ok K = true) : ∀ p ∈ l, PySem.W.kitAny K (.ref (He.ga K p.1)) (cs.map fun x => .ref (He.ga K x)) = some p.2 := fun p m => of_decide_eq_true (List.all_eq_true.mp h p m)
theorem bt_ValueError : bootBuiltins "ValueError" = some (.type "ValueError") := by decide +kernel
theorem v_isEX {x : XN} {a : Addr} {tbl : List (Str × Bool)} {tg : D} {ds : List D} {e : En} {P : D → En → Prop} (h : ∃ d, ds = [.raw (.ref a), d] ∧ d = tg ∧ ∃ b, (x.c, b) ∈ tbl ∧ P (.bl b) e) : qIsE x a tbl tg ds e P := h
/-! ### without a name -/
def sTryN (tbl : List (Str × Bool)) (L : Nat) (tb : (XN → List Cel → Prop) → DS) (ts : DS) (XXo : XN → List Cel → Prop) : DS := fun P e => ∃ XX, tb XX P e ∧
  ∀ x cs', XX x cs' → ∃ b, (x.c, b) ∈ tbl ∧ (b = true → ts P ⟨List.replicate L none, cs'⟩) ∧ (b = false → XXo x cs')
theorem ds_tryN {X : Cx} {B : Bs} {x : Str} {C : Addr} {body suite : List Stmt} {b₀ : Stmt} {np pos pos' : Pos} {tbl : List (Str × Bool)} {tb : (XN → List Cel → Prop) → DS} {ts : DS} {XXo : XN → List Cel → Prop}
    (hs : X.stack = X.env :: X.outer) (hf : X.env.frame = some X.env.locals) (hm : X.mg x = some (.ref C)) (hg : Gl X x) (tko : XT X B XXo)
    (hx : ∀ p ∈ tbl, PySem.W.exmOne X.K (.ref (He.ga X.K p.1)) (.ref C) = some p.2)
    (hb : ∀ (B : Bs) (XX : XN → List Cel → Prop) (pn : List (Addr × Obj)) (xe : Value → Shared → Prop), XT (X.tr pn xe) B XX → PassesOwn (model X.prog X.w) X.A X.env xe → PSs (X.tr pn xe) body (lS X.K B (tb XX)))
    (hsu : ∀ (B : Bs) (a : Addr) (oe : Obj) (pn : List (Addr × Obj)), PSs (X.suite a ((a, oe) :: pn)) (b₀ :: suite) (lS X.K B ts))
    (hdb : (x == ("__debug__" : Str)) = false := by decide) :
    PS X (.Try body [.ExceptHandler (some (.Name x np)) none (b₀ :: suite) pos'] [] [] pos) (lS X.K B (sTryN tbl X.N.length tb ts XXo)) := by
  refine PS.imp (L2.ps_try_many (Wout := fun cls d _ H => wE X.K B XXo cls d H)
    (tb := fun W D σ H => ∃ p : Bs × (XN → List Cel → Prop), (∀ cls d σ H, σ.length = X.N.length → wE X.K p.1 p.2 cls d H → W cls d σ H) ∧ lS X.K p.1 (tb p.2) D σ H)
    (l := [(.ref C, fun a cls d D σ H => ∃ p : Bs, lS X.K p ts D σ H)])
    hs hf tko (fun W pn xe tk po => ?_) (.cons ⟨hg, hdb, .inl hm⟩ (fun a oe cls d pn hz hfd => ?_) .nil)) fun E σ H h => ?_
  · exact PSs.ofEx (q := fun p : Bs × (XN → List Cel → Prop) => ∀ cls d σ H, σ.length = X.N.length → wE X.K p.1 p.2 cls d H → W cls d σ H) (u := fun p => lS X.K p.1 (tb p.2)) (fun p hp => hb p.1 p.2 pn xe (XT.of (X := X.tr pn xe) tk hp) po) fun D σ H h => h
  · exact PSs.ofEx (q := fun _ : Bs => True) (u := fun p => lS X.K p ts) (fun p _ => hsu p a oe pn) fun D σ H ⟨p, h⟩ => ⟨p, trivial, h⟩
  · obtain ⟨W, e, P, bl, S, ⟨XX, h, hc⟩, c⟩ := lS_un h
    refine ⟨(Bs.of W, XX), fun cls d σ' H' hl ⟨cc, W', cs', e1, e2, bp, ok', px⟩ => ?_, lS_mk W.le_refl S h c⟩
    subst e1
    obtain ⟨b, hbm, hy, hn⟩ := hc cc cs' px
    refine ⟨b, hx _ hbm, fun eb a na => ?_, fun eb => ⟨cc, W', cs', rfl, e2, B.up bl bp, ok', hn eb⟩⟩
    refine ⟨Bs.any, lS_mk (P := P) trivial ⟨ok', SlO.none_ hl⟩ (hy eb) ?_⟩
    exact ⟨fun e' W2 H2 σ2 p l S2 => c.nx _ _ _ _ p (bp.tr l) S2, fun d cs W2 H2 v p l ok r => c.rt _ _ _ _ _ p (bp.tr l) ok r, fun e' W2 H2 σ2 p l S2 => c.bk _ _ _ _ p (bp.tr l) S2, fun e' W2 H2 σ2 p l S2 => c.ct _ _ _ _ p (bp.tr l) S2⟩
theorem v_tryN {e : En} {Po' : Po} {tbl : List (Str × Bool)} {L : Nat} {tb : (XN → List Cel → Prop) → DS} {ts : DS} {XXo : XN → List Cel → Prop} (XX : XN → List Cel → Prop) (h1 : tb XX Po' e)
    (h2 : ∀ x cs', XX x cs' → ∃ b, (x.c, b) ∈ tbl ∧ (b = true → ts Po' ⟨List.replicate L none, cs'⟩) ∧ (b = false → XXo x cs')) : sTryN tbl L tb ts XXo Po' e := ⟨XX, h1, h2⟩
theorem set_self {cs : List Cel} {n : Nat} {c : Cel} (h : cs[n]? = some c) : cs.set n c = cs := by
  apply List.ext_getElem?
  intro k
  rw [List.getElem?_set]
  by_cases hk : n = k
  · subst hk
    rw [if_pos rfl, if_pos (List.getElem?_eq_some_iff.mp h).1, h]
  · rw [if_neg hk]
end DL
/-! a caught exception that is kept behind its suite: try .. except C as e: x = e, and isinstance(x, T) later -/
namespace DL
open PySem PySem.Spec PyProof.Rows L2
open Evl (Ex)
section
variable {X : Cx} {pins : List (Addr × Obj)} {σ : L2.St} {H : Hp} {s : Shared}
theorem inv_keep {a C : Addr} {d : Option Addr} {oe : Obj} (I : Inv X pins σ H s) (na : H a = none) (e : s.heap.get? a = some oe) (hz : Zc (.ref C) d oe) (hf : ∃ vs, oe.data = .fields vs)
    (n0 : X.s_0.heap.get? a = none) (nL : a ≠ X.env.locals) (np : ∀ p ∈ X.pn ++ pins, p.1 ≠ a) : Inv X pins σ (upd H a (exV a C d)) s where
  ok := I.ok
  os := I.os
  bare := I.bare
  base := by
    have ne : ∀ {b : Addr} {u : HO}, H b = some u → b ≠ a := fun {b u} q z => by rw [z, na] at q; cases q
    refine ⟨I.base.keep, I.base.slot, fun b o q n x => ?_, I.base.there, fun b xs q => ?_, fun b o u q => ?_, fun b ps q => ?_⟩
    · have hb : b ≠ a := fun z => by rw [z, n0] at q; cases q
      rw [upd_ne hb]
      exact I.base.free b o q n x
    · have z := I.base.tups b xs q
      rw [upd_ne (ne z)]
      exact z
    · have z := I.base.frzs b o u q
      rw [upd_ne (ne z)]
      exact z
    · obtain ⟨more, z⟩ := I.base.tbls b ps q
      exact ⟨more, by rw [upd_ne (ne z)]; exact z⟩
  loc := I.loc
  cell := I.cell
  free := by rw [upd_ne (Ne.symm nL)]; exact I.free
  freeC := fun x c hc => by
    have hca : c ≠ a := fun z => by
      obtain ⟨v, o, q1, q2⟩ := I.cell x c hc
      obtain ⟨vs, q3⟩ := hf
      rw [z, e] at q1
      cases q1
      rw [q3] at q2
      cases q2
    rw [upd_ne hca]
    exact I.freeC x c hc
  pin := fun p hp => by
    obtain ⟨p1, p2, p3⟩ := I.pin p hp
    exact ⟨p1, by rw [upd_ne (np p hp)]; exact p2, p3⟩
  hok := I.hok.laidN (fun _ _ q => q) na ⟨⟨oe, e, hz.1, hz.2, hf⟩, ⟨oe, e⟩, fun h1 h2 ⟨o, q, r⟩ k => ⟨o, k o q, r⟩⟩
  len := I.len
end
/-- the ends behind a suite whose exception is kept -/
def keepE (i : Nat) (a C : Addr) (d : Option Addr) (D : Ends) : Ends where
  nx := fun σ H => H a = none → D.nx (σ.set i none) (upd H a (exV a C d))
  rt := fun v H => H a = none → D.rt v (upd H a (exV a C d))
  bk := fun σ H => H a = none → D.bk (σ.set i none) (upd H a (exV a C d))
  ct := fun σ H => H a = none → D.ct (σ.set i none) (upd H a (exV a C d))
def wKe (K : PySem.W.Frag) (c : Value) (i : Nat) (ts : Addr → Addr → Option Addr → TS) (Wout : WX) (D : Ends) : WX := fun cls d σ H =>
  ∃ C : Addr, cls = .ref C ∧ ∃ b, PySem.W.exmOne K cls c = some b ∧ (b = true → ∀ a, H a = none → ts a C d (keepE i a C d D) (σ.set i (some (.ref a))) H) ∧ (b = false → Wout cls d σ H)
theorem ps_try_keep {X : Cx} {x n : Str} {c : Value} {i : Nat} {body suite : List Stmt} {b₀ : Stmt} {np pos pos' : Pos} {tb : WX → TS} {ts : Addr → Addr → Option Addr → TS} {Wout : WX}
    (hx0 : X.ex = []) (hs : X.stack = X.env :: X.outer) (hf : X.env.frame = some X.env.locals) (nd : X.N.Nodup) (hi : X.N[i]? = some n) (kl : X.env.kindOf n = some .local) (nm : Names X x c) (tko : Takes X Wout)
    (tB : ∀ (W : WX) (pn : List (Addr × Obj)) (xe : Value → Shared → Prop), Takes (X.tr pn xe) W → PassesOwn (model X.prog X.w) X.A X.env xe → PSs (X.tr pn xe) body (tb W))
    (tS : ∀ (a : Addr) (oe : Obj) (C : Addr) (d : Option Addr) (pn : List (Addr × Obj)), Zc (.ref C) d oe → (∃ vs, oe.data = .fields vs) → PSs (X.suite a ((a, oe) :: pn)) (b₀ :: suite) (ts a C d)) :
    PS X (.Try body [.ExceptHandler (some (.Name x np)) (some n) (b₀ :: suite) pos'] [] [] pos) (fun D σ H => tb (wKe X.K c i ts Wout D) D σ H) := by
  refine ⟨fun pins s σ H D I start => ?_⟩
  have XO := I.ok
  have frm : X.A.frames = some (X.env :: X.outer) := (XO.frames).trans (by rw [hs])
  let hd : List ExceptHandler := [.ExceptHandler (some (.Name x np)) (some n) (b₀ :: suite) pos']
  refine wpAny_Try_except (wpAny_mono ((tB (wKe X.K c i ts Wout D) (X.pn ++ pins) (fun e t1 => wpAny (model X.prog X.w) X.A (noteFrame e X.env) (fun _ t2 => wpAny (model X.prog X.w) X.A (setFlight e none) (fun _ t3 =>
    wpAny (model X.prog X.w) X.A (handleBy e X.env hd) (SP X pins D) X.xe t3) X.xe t2) X.xe t1) (fun u s' air => ?caught) PassesOwn.looking).run [] s σ H D (I.toTry _) start) (fun f t post => ?through) fun _ _ z => z)
  case caught =>
    obtain ⟨a, B, sI, pins', σ1, H1, cls, d, rfl, JJ, low, up, sky, na, osE, bareE, C, rfl, b, hb, yes, no⟩ := air
    have J := JJ.ofTry (pins := pins) XO
    have sky1 : Sky B (X.env :: X.outer) a (Zc (.ref C) d) X.env.locals s'.heap := by rw [← hs]; exact sky
    show wpAny (model X.prog X.w) X.A (noteFrame (.ref a) X.env) _ _ _
    refine Sky.land Zc.steady frm hf sky1 fun g1 land1 up1 => ?_
    have J1 : Inv X pins σ1 H1 { s' with heap := g1 } := J.landed low land1.1 (up.trans up1) osE bareE
    obtain ⟨o1, vs1, e1, z1, f1⟩ := land1.there
    have nst : a ∉ frs (X.env :: X.outer) := fun hm => by
      obtain ⟨_, o', e', nf⟩ := land1.2.2.1.mem hm
      rw [e1] at e'
      cases e'
      exact nf _ f1
    have nLoc : a ≠ X.env.locals := fun z => nst (List.mem_filterMap.mpr ⟨X.env, List.mem_cons_self, by rw [hf, z]⟩)
    have nFs : a ∉ X.fs := fun hm => by
      obtain ⟨v, hv, q⟩ := List.mem_filterMap.mp hm
      exact nst (List.mem_filterMap.mpr ⟨v, List.mem_cons_of_mem _ hv, q⟩)
    -- nothing stood there before
    have Bnone : B.get? a = none := by
      rcases sky with h | h | h
      · exact h.2.1
      · exact h.2.1
      · exact h.2.1
    have none1 : ∀ o, sI.heap.get? a = some o → False := fun o q => by
      have := low a o q (by rw [hs]; exact nst)
      rw [Bnone] at this
      cases this
    have none0 : X.s_0.heap.get? a = none := by
      cases q : X.s_0.heap.get? a with
      | none => rfl
      | some o =>
        obtain ⟨o', q'⟩ := J.base.there a o q (by rw [hx0]; exact fun z => nomatch z)
        exact (none1 o' q').elim
    have nPin : ∀ p ∈ X.pn ++ pins, p.1 ≠ a := fun p hp z => by
      have := (J.pin p hp).1
      rw [z] at this
      exact none1 _ this
    have S1 := J1.suite e1 f1 na nLoc nFs
    refine wpAny_handleBy_cons (codeAny_handlers_test ?_) (by intro q; cases q)
    have LT : PySem.W.Looks (model X.prog X.w) g1 (typeOf (.ref a)) (.ref C) := fun _ _ _ _ k q => wpAny_typeOf_ref (k _ _ e1) (by rw [z1.1]; exact q)
    have LM := PySem.W.exm_one (M := model X.prog X.w) J1.kIn LT hb
    have ask : ∀ {Q : Value → Shared → Prop} {E : Value → Shared → Prop}, Q c { s' with heap := g1 } → wpAny (model X.prog X.w) (X.A.mark (some (.ref a))) (eval (.Name x np) X.env) Q E { s' with heap := g1 } := fun {Q E} q => by
      obtain ⟨gx, db, m | ⟨m, v, nn⟩⟩ := nm
      · exact ld_glob (X := X.suite a ((a, o1) :: (X.pn ++ pins))) S1 gx m q db
      · exact ld_blt (X := X.suite a ((a, o1) :: (X.pn ++ pins))) S1 gx m v q nn db
    refine ask (LM.here ?_)
    cases b with
    | true =>
      refine codeAny_handlers_suite_as (HandSPX.lands_againZ land1 fun g2 land2 up2 => ?_)
      have J2 : Inv X pins σ1 H1 { s' with heap := g2 } := J.landed low land2.1 ((up.trans up1).trans up2) osE bareE
      obtain ⟨o2, vs2, e2, z2, f2⟩ := land2.there
      refine store_ok (X := X.suite a ((a, o2) :: (X.pn ++ pins))) (v := .ref a) (J2.suite e2 f2 na nLoc nFs) nd hi (.inl kl) rfl (fun t5 T5 => ?_) (.inr kl)
      refine wpAny_mono ((tS a o2 C d (X.pn ++ pins) z2 ⟨_, f2⟩).run [] t5 _ H1 _ T5 (yes rfl a na)) (fun f t6 post => ?_) fun _ _ z => z.elim
      have pinned : ∀ {σ6 : L2.St} {H6 : Hp}, Inv (X.suite a ((a, o2) :: (X.pn ++ pins))) [] σ6 H6 t6 → t6.heap.get? a = some o2 ∧ H6 a = none := fun T6 =>
        let z := T6.pin (a, o2) (List.mem_append_left _ List.mem_cons_self)
        ⟨z.1, z.2.1⟩
      have away : ∀ {σ6 : L2.St} {H6 : Hp} {Q : Shared → Prop}, Inv (X.suite a ((a, o2) :: (X.pn ++ pins))) [] σ6 H6 t6 → (∀ t7, Inv X pins (σ6.set i none) (upd H6 a (exV a C d)) t7 → Q t7) →
          wpAny (model X.prog X.w) X.A (do bindName X.env n .none; unbindBehindTheSuite X.env n pos') (fun _ t7 => Q t7) X.xe t6 := fun {σ6 H6 Q} T6 hq =>
        gone_ok (inv_keep (T6.unsuite XO) (pinned T6).2 (pinned T6).1 z2 ⟨_, f2⟩ none0 nLoc nPin) nd hi kl hq
      match f, post with
      | .next, ⟨σ6, H6, T6, q6⟩ => exact away T6 fun t7 J7 => ⟨_, _, J7, q6 (pinned T6).2⟩
      | .brk, ⟨σ6, H6, T6, q6⟩ => exact away T6 fun t7 J7 => ⟨_, _, J7, q6 (pinned T6).2⟩
      | .cont, ⟨σ6, H6, T6, q6⟩ => exact away T6 fun t7 J7 => ⟨_, _, J7, q6 (pinned T6).2⟩
      | .ret u, ⟨v6, σ6, H6, T6, r6, q6⟩ => exact away T6 fun t7 J7 => ⟨_, _, _, J7, r6, q6 (pinned T6).2⟩
    | false =>
      show wpAny _ X.A (handleBy (.ref a) X.env []) _ _ _
      refine wpAny_handleBy_nil ?_
      obtain ⟨_, _, _, ob, vb, T, oT, tt, eb, zb, fb, v1, _⟩ := id land1
      unfold PySem.passOn
      refine wpAny_bind (wpAny_field eb fb v1 ?_)
      rw [if_neg (show ¬ ((Value.ref T == Value.none) = true) by simp)]
      have out : wpAny (model X.prog X.w) X.A (setFlight (.ref a) X.env.frame) (fun _ t4 => wpAny (model X.prog X.w) X.A (throw (.ref a) : Sem Flow) (SP X pins D) X.xe t4) X.xe { s' with heap := g1 } := by
        rw [hf]
        exact HandSPX.setFlight_upZ land1 fun g2 held up2 => wpAny_throw (tko _ _ ⟨a, B, sI, pins, σ1, H1, .ref C, d, rfl, J, low, (up.trans up1).trans up2, .inr (.inr (by rw [hs]; exact held)), na, osE, bareE, no rfl⟩)
      first
        | exact wpAny_bind (wpAny_pure (wpAny_bind out))
        | exact wpAny_bind out
  case through =>
    match f, post with
    | .next, ⟨σ1, H1, J1, q⟩ => exact wpAny_execs_nil ⟨σ1, H1, J1.ofTry XO, q⟩
    | .brk, ⟨σ1, H1, J1, q⟩ => exact ⟨σ1, H1, J1.ofTry XO, q⟩
    | .cont, ⟨σ1, H1, J1, q⟩ => exact ⟨σ1, H1, J1.ofTry XO, q⟩
    | .ret u, ⟨v, σ1, H1, J1, r, q⟩ => exact ⟨v, σ1, H1, J1.ofTry XO, r, q⟩
/-! ### by data -/
/-- what was caught is an exception from now on -/
inductive ConvE (a C : Addr) (p : Option Int) : List (Option D) → List (Option D) → Prop
  | nil : ConvE a C p [] []
  | same {x : Option D} {xs ys : List (Option D)} : ConvE a C p xs ys → ConvE a C p (x :: xs) (x :: ys)
  | exc {xs ys : List (Option D)} : ConvE a C p xs ys → ConvE a C p (some (.raw (.ref a)) :: xs) (some (.exc C p) :: ys)
theorem ConvE.len {a C : Addr} {p : Option Int} : ∀ {xs ys : List (Option D)}, ConvE a C p xs ys → xs.length = ys.length
  | _, _, .nil => rfl
  | _, _, .same h => by rw [List.length_cons, List.length_cons, h.len]
  | _, _, .exc h => by rw [List.length_cons, List.length_cons, h.len]
theorem ConvE.get {a C : Addr} {p : Option Int} : ∀ {xs ys : List (Option D)} {j : Nat} {d : D}, ConvE a C p xs ys → ys[j]? = some (some d) → xs[j]? = some (some d) ∨ (d = .exc C p ∧ xs[j]? = some (some (.raw (.ref a))))
  | _, _, _, _, .nil, e => by simp at e
  | _, _, 0, _, .same _, e => by simp at e; subst e; exact .inl rfl
  | _, _, j + 1, _, .same h, e => by simpa using h.get (j := j) (by simpa using e)
  | _, _, 0, _, .exc _, e => by simp at e; subst e; exact .inr ⟨rfl, rfl⟩
  | _, _, j + 1, _, .exc h, e => by simpa using h.get (j := j) (by simpa using e)
theorem ConvE.refl {a C : Addr} {p : Option Int} : ∀ xs : List (Option D), ConvE a C p xs xs
  | [] => .nil
  | _ :: xs => .same (ConvE.refl xs)
def Po.kp (P : Po) (i : Nat) (a C : Addr) (p : Option Int) : Po where
  nx := fun e => ∃ sl, ConvE a C p (e.sl.set i none) sl ∧ P.nx ⟨sl, e.cs⟩
  rt := P.rt
  bk := fun e => ∃ sl, ConvE a C p (e.sl.set i none) sl ∧ P.bk ⟨sl, e.cs⟩
  ct := fun e => ∃ sl, ConvE a C p (e.sl.set i none) sl ∧ P.ct ⟨sl, e.cs⟩
def sTryKe (K : PySem.W.Frag) (tbl : List (Str × Bool)) (i L : Nat) (tb : (XN → List Cel → Prop) → DS) (ts : XN → Addr → DS) (XXo : XN → List Cel → Prop) : DS := fun P e => ∃ XX, tb XX P e ∧
  ∀ x cs', XX x cs' → ∃ b, (x.c, b) ∈ tbl ∧ (b = true → ∀ a, ts x a (P.kp i a (He.ga K x.c) x.p) ⟨(List.replicate L none).set i (some (.raw (.ref a))), cs'⟩) ∧ (b = false → XXo x cs')
theorem SlO.conv {K : PySem.W.Frag} {W : Wd} {σ : L2.St} {a C : Addr} {p : Option Int} {d : Option Addr} {sl sl' : List (Option D)} (h : SlO K W σ sl) (hF : W.F a = some (exV a C d)) (hp : PayV p d W) (c : ConvE a C p sl sl') : SlO K W σ sl' := by
  refine ⟨by rw [h.1, c.len], fun j y e => ?_⟩
  rcases c.get e with q | ⟨rfl, q⟩
  · exact h.2 j y q
  · obtain ⟨v, e1, r⟩ := h.2 j _ q
    cases r
    exact ⟨_, e1, .exc hF hp⟩
theorem pay_of {p : Option Int} {d : Option Addr} {W : Wd} (h : PayOk p d W) : PayV p d W := by
  cases p <;> exact h
theorem ds_tryKeep {X : Cx} {B : Bs} {x n : Str} {C : Addr} {i : Nat} {body suite : List Stmt} {b₀ : Stmt} {np pos pos' : Pos} {tbl : List (Str × Bool)} {tb : (XN → List Cel → Prop) → DS} {ts : XN → Addr → DS} {XXo : XN → List Cel → Prop}
    (hx0 : X.ex = []) (hs : X.stack = X.env :: X.outer) (hf : X.env.frame = some X.env.locals) (hN : X.N.Nodup) (hi : X.N[i]? = some n) (hln : X.env.kindOf n = some .local) (hm : X.mg x = some (.ref C)) (hg : Gl X x) (tko : XT X B XXo)
    (hx : ∀ p ∈ tbl, PySem.W.exmOne X.K (.ref (He.ga X.K p.1)) (.ref C) = some p.2) (hE : ∀ p ∈ tbl, ExcZ X.K (He.ga X.K p.1))
    (hb : ∀ (B : Bs) (XX : XN → List Cel → Prop) (pn : List (Addr × Obj)) (xe : Value → Shared → Prop), XT (X.tr pn xe) B XX → PassesOwn (model X.prog X.w) X.A X.env xe → PSs (X.tr pn xe) body (lS X.K B (tb XX)))
    (hsu : ∀ (B : Bs) (x : XN) (a : Addr) (oe : Obj) (d : Option Addr) (pn : List (Addr × Obj)), ExcZ X.K (He.ga X.K x.c) → Zc (.ref (He.ga X.K x.c)) d oe → (∃ vs, oe.data = .fields vs) → (∀ W, B.p W → PayOk x.p d W) → PSs (X.suite a ((a, oe) :: pn)) (b₀ :: suite) (lS X.K B (ts x a)))
    (hdb : (x == ("__debug__" : Str)) = false := by decide) :
    PS X (.Try body [.ExceptHandler (some (.Name x np)) (some n) (b₀ :: suite) pos'] [] [] pos) (lS X.K B (sTryKe X.K tbl i X.N.length tb ts XXo)) := by
  refine PS.imp (ps_try_keep (x := x) (n := n) (c := .ref C) (i := i) (Wout := fun cls d _ H => wE X.K B XXo cls d H)
    (tb := fun W D σ H => ∃ p : Bs × (XN → List Cel → Prop), (∀ cls d σ H, σ.length = X.N.length → wE X.K p.1 p.2 cls d H → W cls d σ H) ∧ lS X.K p.1 (tb p.2) D σ H)
    (ts := fun a E d D σ H => ∃ p : Bs × XN, (E = He.ga X.K p.2.c ∧ ExcZ X.K (He.ga X.K p.2.c) ∧ ∀ W, p.1.p W → PayOk p.2.p d W) ∧ lS X.K p.1 (ts p.2 a) D σ H)
    hx0 hs hf hN hi hln ⟨hg, hdb, .inl hm⟩ tko (fun W pn xe tk po => ?_) (fun a oe E d pn hz hfd => ?_)) fun E σ H h => ?_
  · exact PSs.ofEx (q := fun p : Bs × (XN → List Cel → Prop) => ∀ cls d σ H, σ.length = X.N.length → wE X.K p.1 p.2 cls d H → W cls d σ H) (u := fun p => lS X.K p.1 (tb p.2)) (fun p hp => hb p.1 p.2 pn xe (XT.of (X := X.tr pn xe) tk hp) po) fun D σ H h => h
  · exact PSs.ofEx (q := fun p : Bs × XN => E = He.ga X.K p.2.c ∧ ExcZ X.K (He.ga X.K p.2.c) ∧ ∀ W, p.1.p W → PayOk p.2.p d W) (u := fun p => lS X.K p.1 (ts p.2 a)) (fun p ⟨h1, h2, h3⟩ => by
      subst h1
      exact hsu p.1 p.2 a oe d pn h2 hz hfd h3) fun D σ H h => h
  · obtain ⟨W, e, P, bl, S, ⟨XX, h, hc⟩, c⟩ := lS_un h
    refine ⟨(Bs.of W, XX), fun cls d σ' H' hl ⟨cc, W', cs', e1, e2, bp, ok', px⟩ => ?_, lS_mk W.le_refl S h c⟩
    subst e1
    obtain ⟨b, hbm, hy, hn⟩ := hc cc cs' px
    refine ⟨_, rfl, b, hx _ hbm, fun eb a na => ?_, fun eb => ⟨cc, W', cs', rfl, e2, B.up bl bp, ok', hn eb⟩⟩
    refine ⟨(Bs.of W', cc), ⟨rfl, hE _ hbm, fun W1 l1 => e2.mono l1⟩, lS_mk (P := P.kp i a (He.ga X.K cc.c) cc.p) W'.le_refl ⟨ok', (SlO.none_ hl).set (.raw (.ref a))⟩ (hy eb a) ?_⟩
    have next : ∀ {e' : En} {W2 : Wd} {H2 : Hp} {σ2 : L2.St} {sl : List (Option D)}, W'.le W2 → Sd X.K W2 H2 σ2 e' → H2 a = none → ConvE a (He.ga X.K cc.c) cc.p (e'.sl.set i none) sl → ∃ W3, W'.le W3 ∧ Sd X.K W3 (upd H2 a (exV a (He.ga X.K cc.c) d)) (σ2.set i none) ⟨sl, e'.cs⟩ := by
      intro e' W2 H2 σ2 sl l S2 na2 cv
      obtain ⟨ok3, l3⟩ := S2.ok.newF (o := exV a (He.ga X.K cc.c) d) na2
      exact ⟨_, l.tr l3, ok3, SlO.conv (S2.sl.unset.mono l3) upd_same ((pay_of (e2.mono l)).mono l3.1) cv⟩
    refine ⟨fun e' W2 H2 σ2 ⟨sl, cv, p⟩ l S2 na2 => ?_, fun y cs W2 H2 v p l ok r na2 => ?_, fun e' W2 H2 σ2 ⟨sl, cv, p⟩ l S2 na2 => ?_, fun e' W2 H2 σ2 ⟨sl, cv, p⟩ l S2 na2 => ?_⟩
    · obtain ⟨W3, l3, S3⟩ := next l S2 na2 cv
      exact c.nx _ _ _ _ p (bp.tr l3) S3
    · obtain ⟨ok3, l3⟩ := ok.newF (o := exV a (He.ga X.K cc.c) d) na2
      exact c.rt _ _ _ _ _ p (bp.tr (l.tr l3)) ok3 (R.mono l3 _ _ r)
    · obtain ⟨W3, l3, S3⟩ := next l S2 na2 cv
      exact c.bk _ _ _ _ p (bp.tr l3) S3
    · obtain ⟨W3, l3, S3⟩ := next l S2 na2 cv
      exact c.ct _ _ _ _ p (bp.tr l3) S3
theorem v_tryKe {K : PySem.W.Frag} {e : En} {Po' : Po} {tbl : List (Str × Bool)} {i L : Nat} {tb : (XN → List Cel → Prop) → DS} {ts : XN → Addr → DS} {XXo : XN → List Cel → Prop} (XX : XN → List Cel → Prop) (h1 : tb XX Po' e)
    (h2 : ∀ x cs', XX x cs' → ∃ b, (x.c, b) ∈ tbl ∧ (b = true → ∀ a, ts x a (Po'.kp i a (He.ga K x.c) x.p) ⟨(List.replicate L none).set i (some (.raw (.ref a))), cs'⟩) ∧ (b = false → XXo x cs')) : sTryKe K tbl i L tb ts XXo Po' e := ⟨XX, h1, h2⟩
theorem v_kpn {P : Po} {i : Nat} {a C : Addr} {p : Option Int} {e : En} (h : ∃ sl, ConvE a C p (e.sl.set i none) sl ∧ P.nx ⟨sl, e.cs⟩) : (P.kp i a C p).nx e := h
theorem v_kpr {P : Po} {i : Nat} {a C : Addr} {p : Option Int} {d : D} {cs : List Cel} (h : P.rt d cs) : (P.kp i a C p).rt d cs := h
/-! ### isinstance(x, T), x an exception that is kept -/
theorem inst_kept {X : Cx} {a C : Addr} {d : Option Addr} {pins : List (Addr × Obj)} {σ : L2.St} {H : Hp} {s : Shared} (I : Inv X pins σ H s) (h : H a = some (exV a C d)) (hd : HasD d H) : ∃ oe od, PySem.W.InstAt s.heap a oe C od := by
  obtain ⟨⟨oe, g1, g2, g3, vs, g4⟩, _⟩ := (show ObjOk X.prog X.w H s.heap a (exV a C d) from I.hok a _ h)
  rcases hd with rfl | ⟨dd, fs, rfl, ea⟩
  · refine ⟨oe, none, g1, g2, by unfold PySem.W.notCls; rw [g4] <;> rfl, ?_⟩
    rw [g3]
    trivial
  · obtain ⟨mA, hns, hr⟩ := (show ObjOk X.prog X.w H s.heap dd (.xd fs) from I.hok dd _ ea)
    obtain ⟨od, ho, hl⟩ := lookIn_ns hns
    refine ⟨oe, some od, g1, g2, by unfold PySem.W.notCls; rw [g4] <;> rfl, ?_⟩
    rw [g3]
    exact ho
def rIsK (K : PySem.W.Frag) : List V → Hp → VK → Prop := fun xs H Q => ∃ (a C : Addr) (d : Option Addr) (c : V) (cv : Value) (b : Bool), xs = [.ref a, c] ∧ H a = some (exV a C d) ∧ HasD d H ∧ ExcC K C ∧ (∀ u, RelV c u → u = cv) ∧ PySem.W.kitOne K (.ref C) cv = some b ∧ Q (.bl b) H
theorem call_isK {X : Cx} : CallR X (.builtin "isinstance") (rIsK X.K) := by
  intro pins s σ H xs us Q I r h
  obtain ⟨a, D, d, c, cv, b, rfl, ha, hd, C, hcv, e, q⟩ := h
  cases r with
  | cons rx rr =>
    cases rr with
    | cons rt rr =>
      cases rr
      cases rx
      have ec := hcv _ rt
      subst ec
      obtain ⟨oe, od, J⟩ := inst_kept I ha hd
      exact PySem.W.kia_one (PySem.W.kitx_exc (cls_some C.hd) C.hg C.hk C.hs C.ha C.hn C.ht C.hm) I.kIn J e (fun z => nomatch z) fun tk => ⟨.bl b, H, I.kept (t' := tk) fun _ _ z => z, rfl, q⟩
def rIsKT (K : PySem.W.Frag) : List V → Hp → VK → Prop := fun xs H Q => ∃ (a C : Addr) (d : Option Addr) (tp : Addr) (vs : List V) (us : List Value) (b : Bool), xs = [.ref a, .ref tp] ∧ H a = some (exV a C d) ∧ HasD d H ∧ ExcC K C ∧ SqT K H tp vs ∧ Paired ClsV vs us ∧ PySem.W.kitAny K (.ref C) us = some b ∧ Q (.bl b) H
theorem call_isKT {X : Cx} : CallR X (.builtin "isinstance") (rIsKT X.K) := by
  intro pins s σ H xs us Q I r h
  obtain ⟨a, D, d, tp, vs, ws, b, rfl, ha, hd, C, hT, k, e, q⟩ := h
  obtain ⟨u1, u2, rfl, r1, r2⟩ := vals2 r
  cases (show u1 = Value.ref a from r1)
  cases (show u2 = Value.ref tp from r2)
  obtain ⟨its, rv, ⟨o, h1, h2, n, h3⟩, _⟩ := I.tuple hT
  have e3 := ClsV.all k rv
  subst e3
  obtain ⟨oc, od0, dt, sl⟩ := o
  simp only at h2 h3
  subst h2 h3
  obtain ⟨oe, od, J⟩ := inst_kept I ha hd
  exact PySem.W.kia_tup (PySem.W.kitx_exc (cls_some C.hd) C.hg C.hk C.hs C.ha C.hn C.ht C.hm) I.kIn J h1 e (fun z => nomatch z) fun tk => ⟨.bl b, H, I.kept (t' := tk) fun _ _ z => z, rfl, q⟩
/-- the answer for the class stands in the table -/
def qIsK (K : PySem.W.Frag) (tbl : List (Str × Bool)) (tg : D) : List D → DE := fun ds e P => ∃ (c : Str) (p : Option Int) (d : D), ds = [.exc (He.ga K c) p, d] ∧ d = tg ∧ ∃ b, (c, b) ∈ tbl ∧ P (.bl b) e
theorem hasD_pay {p : Option Int} {d : Option Addr} {W : Wd} {H : Hp} (hp : PayV p d W) (ex : Ex W.F H) : HasD d H := hasD_of (x := ⟨"", p⟩) (show PayOk p d W by cases p <;> exact hp) ex
section
variable {K : PySem.W.Frag} {tbl : List (Str × Bool)}
theorem cd_isK {C : Addr} (hE : ∀ p ∈ tbl, ExcZ K (He.ga K p.1)) (h : ∀ p ∈ tbl, PySem.W.kitOne K (.ref (He.ga K p.1)) (.ref C) = some p.2) : CallD K (rIsK K) (qIsK K tbl (.raw (.ref C))) := by
  rintro W H σ e vs ds P Q S r ⟨c, p, d, rfl, rfl, b, hb, t⟩ k
  obtain ⟨v, v2, rfl, r1, r2⟩ := r.two
  cases r2
  cases r1 with
  | exc hF hp => exact ⟨_, _, _, .ref C, .ref C, b, rfl, S.ok.ex _ _ hF, hasD_pay hp S.ok.ex, (hE _ hb).e, fun u hu => hu, h _ hb, k _ _ _ _ _ t W.le_refl S (.bl _)⟩
theorem cd_isKB {T : String} (hE : ∀ p ∈ tbl, ExcZ K (He.ga K p.1)) (h : ∀ p ∈ tbl, PySem.W.kitOne K (.ref (He.ga K p.1)) (.type T) = some p.2) : CallD K (rIsK K) (qIsK K tbl (.raw (.ty T))) := by
  rintro W H σ e vs ds P Q S r ⟨c, p, d, rfl, rfl, b, hb, t⟩ k
  obtain ⟨v, v2, rfl, r1, r2⟩ := r.two
  cases r2
  cases r1 with
  | exc hF hp => exact ⟨_, _, _, .ty T, .type T, b, rfl, S.ok.ex _ _ hF, hasD_pay hp S.ok.ex, (hE _ hb).e, fun u hu => hu, h _ hb, k _ _ _ _ _ t W.le_refl S (.bl _)⟩
theorem cd_isKT {Cs : List Addr} (hE : ∀ p ∈ tbl, ExcZ K (He.ga K p.1)) (h : ∀ p ∈ tbl, PySem.W.kitAny K (.ref (He.ga K p.1)) (Cs.map fun C => .ref C) = some p.2) : CallD K (rIsKT K) (qIsK K tbl (.tup (Cs.map fun C => .raw (.ref C)))) := by
  rintro W H σ e vs ds P Q S r ⟨c, p, d, rfl, rfl, b, hb, t⟩ k
  obtain ⟨v, v2, rfl, r1, r2⟩ := r.two
  cases r2 with
  | tup h1 h2 =>
    cases r1 with
    | exc hF hp => exact ⟨_, _, _, _, _, _, b, rfl, S.ok.ex _ _ hF, hasD_pay hp S.ok.ex, (hE _ hb).e, Evl.ex_t S.ok.ex h1, clsv_map h2, h _ hb, k _ _ _ _ _ t W.le_refl S (.bl _)⟩
end
theorem v_isK {K : PySem.W.Frag} {tbl : List (Str × Bool)} {tg : D} {ds : List D} {e : En} {P : D → En → Prop} (h : ∃ (c : Str) (p : Option Int) (d : D), ds = [.exc (He.ga K c) p, d] ∧ d = tg ∧ ∃ b, (c, b) ∈ tbl ∧ P (.bl b) e) : qIsK K tbl tg ds e P := h
/-! ### xs.insert(i, y) -/
def qIns : D → List D → DE := fun d ds e P => ∃ (n : Nat) (xs : List D) (i : Int) (y : D), d = .cell n ∧ ds = [.int i, y] ∧ e.cs[n]? = some (.lst xs) ∧ xs.length < 100000 ∧ 0 ≤ i ∧ i < 1000000 ∧ P .non { e with cs := e.cs.set n (.lst (xs.take i.toNat ++ [y] ++ xs.drop i.toNat)) }
theorem md_ins {K : PySem.W.Frag} : MtD K (fun x vs H Q => ∃ (l : Addr) (xs : List V) (i : Int) (y : V), x = .ref l ∧ vs = [.int i, y] ∧ H l = some (.lst xs) ∧ xs.length < sizeLine ∧ 0 ≤ i ∧ i < 2 ^ 63 ∧ Q .non (upd H l (.lst (xs.take i.toNat ++ [y] ++ xs.drop i.toNat)))) qIns := by
  rintro W H σ e x vs d ds P Q S r rs ⟨n, xs, i, y, rfl, rfl, hc, hz, h0, h1, p⟩ k
  obtain ⟨v, v2, rfl, rv, r2⟩ := rs.two
  cases rv
  cases r with
  | @cell _ a hm =>
    obtain ⟨vs, g1, g2⟩ := S.ok.cellL hm hc
    refine ⟨a, vs, i, v2, rfl, rfl, g1, ?_, h0, by omega, ?_⟩
    · rw [g2.length]
      exact Nat.lt_of_lt_of_le hz (by decide)
    · exact k _ _ _ _ _ p W.le_refl ⟨S.ok.setC hm hc (fun z => nomatch z) ⟨_, upd_same, ((g2.take i.toNat).append (.cons r2 .nil)).append (g2.drop i.toNat)⟩, S.sl⟩ .non
/-! ### [x, ..] * n -/
def qRepL (o : Bool) : D → D → DE := fun x y e P => ∃ xs k, lkP e.cs x = some xs ∧ y = .int k ∧ -1000000 ≤ k ∧ k ≤ 1000000 ∧ xs.length * k.toNat ≤ 100000 ∧ newL o (List.replicate k.toNat xs).flatten e P
theorem rep_all {K : PySem.W.Frag} {W : Wd} {vs : List V} {xs : List D} (h : RAll K W vs xs) : ∀ n : Nat, RAll K W (List.replicate n vs).flatten (List.replicate n xs).flatten
  | 0 => .nil
  | n + 1 => by
    rw [List.replicate_succ, List.replicate_succ, List.flatten_cons, List.flatten_cons]
    exact h.append (rep_all h n)
theorem od_repL {K : PySem.W.Frag} {o : Bool} : OpD K rRep (qRepL o) := by
  rintro W H σ e x y d1 d2 P Q S r1 r2 ⟨xs, k0, h1, rfl, g1, g2, g3, t⟩ k
  obtain ⟨p1, vs, rfl, e1, q1⟩ := S.ok.lkP r1 h1
  cases r2
  exact ⟨p1, k0, vs, rfl, rfl, e1, by omega, by omega, by rw [q1.length]; exact Nat.le_trans g3 (by decide), newL_ok S (rep_all q1 _) t k⟩
theorem v_repL {o : Bool} {x : D} {k : Int} {xs : List D} {e : En} {P : D → En → Prop} (h : lkP e.cs x = some xs) (h1 : -1000000 ≤ k) (h2 : k ≤ 1000000) (hz : xs.length * k.toNat ≤ 100000) (p : newL o (List.replicate k.toNat xs).flatten e P) : qRepL o x (.int k) e P := ⟨xs, k, h, rfl, h1, h2, hz, p⟩
/-! ### a, b = a list -/
def sAsgL (t : DE) (is : List Nat) : DS := fun P e => t e fun d e1 => ∃ xs, lk e1.cs d = some xs ∧ xs.length = is.length ∧ P.nx ⟨setAll is xs e1.sl, e1.cs⟩
theorem lk_seq {K : PySem.W.Frag} {W : Wd} {H : Hp} {cs : List Cel} {d : D} {v : V} {xs : List D} (ok : Ok K W H cs) (r : R K W v d) (h : lk cs d = some xs) : ∃ a vs, v = .ref a ∧ SqL K H a vs ∧ RAll K W vs xs := by
  cases d with
  | lst ys =>
    cases h
    cases r with
    | lst h1 h2 => exact ⟨_, _, rfl, SqL.of (ok.ex _ _ h1), h2⟩
  | fro ys =>
    cases h
    cases r with
    | fro h1 h2 => exact ⟨_, _, rfl, Evl.ex_l ok.ex h1, h2⟩
  | cell n =>
    cases r with
    | cell hm =>
      have h' : (match cs[n]? with | some (.lst xs) => some xs | _ => none) = some xs := h
      split at h'
      · rename_i ys hc
        cases h'
        obtain ⟨vs, h1, h2⟩ := ok.cellL hm hc
        exact ⟨_, _, rfl, SqL.of h1, h2⟩
      · cases h'
  | _ => cases h
theorem ds_asgL {X : Cx} {B : Bs} {es : List Expr} {ex : Expr} {te : DE} {is : List Nat} {k : Nat} {tp pos : Pos} (he : PE X ex (lE X.K B te)) (hg : PG X (.Tuple es k tp) (gLst X.K is.length (gVs is))) (hs : swapsWithSole [.Tuple es k tp] ex pos.line X.env = pure false := by rfl) (hw : swappedStores [.Tuple es k tp] ex X.env = pure none := by rfl)
    (h1 : (assignEach [.Tuple es k tp] X.env).map (·.2) = [assign (.Tuple es k tp) X.env] := by rfl) : PS X (.Assign [.Tuple es k tp] ex pos) (lS X.K B (sAsgL te is)) := PS.imp (ps_asg he hg hs hw h1) fun E σ H h => by
  obtain ⟨W, e, P, bl, S, h, c⟩ := lS_un h
  refine ⟨W, e, _, bl, S, h, fun d e1 W1 H1 v ⟨xs, hx, hl, p⟩ l S1 r => ?_⟩
  obtain ⟨a, vs, rfl, h2, h3⟩ := lk_seq S1.ok r hx
  exact ⟨a, vs, rfl, h2, by rw [h3.length]; exact hl, gVs_ok (vs := []) is _ _ _ _ h3 hl S1.sl fun σ' S' _ => c.nx _ _ _ _ p l ⟨S1.ok, S'⟩⟩
theorem v_asgL {t : DE} {is : List Nat} {Po' : Po} {e : En} (h : t e fun d e1 => ∃ xs, lk e1.cs d = some xs ∧ xs.length = is.length ∧ Po'.nx ⟨setAll is xs e1.sl, e1.cs⟩) : sAsgL t is Po' e := h
/-! ### a list that changes no more from here on -/
def sFrz (t : DS) : DS := fun P e => t { P with nx := fun e1 => ∃ n xs, e1.cs[n]? = some (.lst xs) ∧ P.nx ⟨e1.sl.map (Option.map (subC n xs)), e1.cs.set n .dead⟩ } e
theorem frz_ok {K : PySem.W.Frag} {W : Wd} {H : Hp} {σ : L2.St} {sl : List (Option D)} {cs : List Cel} {n : Nat} {xs : List D} (S : Sd K W H σ ⟨sl, cs⟩) (hc : cs[n]? = some (.lst xs)) : ∃ W', W.le W' ∧ Sd K W' H σ ⟨sl.map (Option.map (subC n xs)), cs.set n .dead⟩ := by
  have hn : n < W.m.length := by
    rw [S.ok.len]
    exact (List.getElem?_eq_some_iff.mp hc).1
  have hm : W.m[n]? = some W.m[n] := List.getElem?_eq_getElem hn
  obtain ⟨vs, h1, h2⟩ := S.ok.cellL hm hc
  obtain ⟨ok, l⟩ := S.ok.freeze hm hc h1
  refine ⟨_, l, ok, ⟨by rw [S.sl.1, List.length_map], fun j d' e => ?_⟩⟩
  rw [List.getElem?_map, Option.map_eq_some_iff] at e
  obtain ⟨y, e1, e2⟩ := e
  obtain ⟨d, rfl, rfl⟩ := Option.map_eq_some_iff.mp e2
  obtain ⟨v, g1, g2⟩ := S.sl.2 j d e1
  exact ⟨v, g1, R.subC (W := ⟨upd W.F W.m[n] (.lst vs), W.m, W.h⟩) (n := n) hm (show upd W.F W.m[n] (.lst vs) W.m[n] = _ from upd_same) (RAll.mono l _ _ h2) d v (R.mono l _ _ g2)⟩
theorem ds_frz {X : Cx} {B : Bs} {st : Stmt} {t : DS} (h : PS X st (lS X.K B t)) : PS X st (lS X.K B (sFrz t)) := PS.imp h fun E σ H z => by
  obtain ⟨W, e, P, bl, S, h, c⟩ := lS_un z
  refine ⟨W, e, _, bl, S, h, ⟨fun e' W' H' σ' ⟨n, xs, hc, p⟩ l S' => ?_, c.rt, c.bk, c.ct⟩⟩
  obtain ⟨W2, l2, S2⟩ := frz_ok S' hc
  exact c.nx _ _ _ _ p (l.tr l2) S2
theorem v_frz {t : DS} {Po' : Po} {e : En} (h : t { Po' with nx := fun e1 => ∃ n xs, e1.cs[n]? = some (.lst xs) ∧ Po'.nx ⟨e1.sl.map (Option.map (subC n xs)), e1.cs.set n .dead⟩ } e) : sFrz t Po' e := h
end DL
/-! methods that may raise, with one keyword-only parameter and its default -/
namespace L2
open PySem PySem.Spec PyProof.Rows
section
variable {X : Cx} {CX : CXT} {k n : Nat} {f C : Addr} {fd : FuncData} {ps ks : List Str} {sp : Sp} {E : XK} {m : Str} {pos apos : Pos} {e o : Expr} {es : List Expr} {kws : List Keyword} {ta : TE} {t tk : TA} {g : List Value → List Value → List Value} {gV : List V → List V → List V}
theorem PK.imp (h : PK X kws t) (f : ∀ σ H Q, tk σ H Q → t σ H Q) : PK X kws tk := ⟨fun pos pins s σ H Q I p => h.run pos pins s σ H Q I (f σ H Q p)⟩
def tMethK (C : Addr) (m : Str) (n k : Nat) (sp : Sp) (gV : List V → List V → List V) (E : XK) (ta : TE) (t tk : TA) : TE := fun σ H Q => ta σ H fun x H1 => ∃ a dx fs, x = .ref a ∧ H1 a = some (.ins C dx fs) ∧ fs.lookup m = none ∧
  t σ H1 fun vs H2 => tk σ H2 fun zs H3 => vs.length + 1 = n ∧ zs.length = k ∧ sp (gV (x :: vs) zs) H3 Q E
/-- o.m(e, .., k = v) -/
theorem pe_methK {pl : Sem Bool} (he : PE X o ta) (c : Cls X.K C) (hm : Meth X.K C m f) (F : FnOk X.prog X.w X.K X.mg X.base CX k f fd ps sp) (hr : Room k X.A) (hb : KBn X.K fd ps n ks g gV) (hx : Passes CX X E) (ha : PA X (e :: es) t) (hkw : PK X kws tk)
    (hall : (backToKw pos (keywordEach kws X.env)).all (·.1.isSome) = true := by rfl) (hks : (backToKw pos (keywordEach kws X.env)).filterMap (·.1) = ks := by rfl)
    (hst : starEach (e :: es) X.env = (false, eval e X.env) :: starEach es X.env := by rfl) (hpl : ((backTo pos (starEach (e :: es) X.env)).any (·.1) || (backToKw pos (keywordEach kws X.env)).any (·.1.isNone)) = false := by rfl)
    (ht : eval (.Call (.Attribute o m apos) (e :: es) kws pos) X.env = (do
      let ov ← eval o X.env
      standAt apos.atName
      let (f, first) ← holding [ov] (getMethod ov m pl)
      callWith pos f first (backTo pos (starEach (e :: es) X.env)) (backToKw pos (keywordEach kws X.env))) := by rfl) :
    PE X (.Call (.Attribute o m apos) (e :: es) kws pos) (tMethK C m n ks.length sp gV E ta t tk) := by
  refine ⟨fun pins s σ H Q I h => ?_⟩
  refine PySem.W.methodCall_KW (pl := pl) (thn (he.run pins s σ H _ I h) fun u s1 ⟨x, H1, I1, rx, a, dx, fs, ex, ea, l, q⟩ => ?_) ht
  subst ex
  obtain rfl : u = Value.ref a := rx
  refine getmeth_ok I1 ea c hm l ?_
  refine PySem.W.callWith_KW (first := [.ref a]) (h₀ := X.base) I.ok.mod.kin hm.kp hall (thn (ha.run pos pins s1 σ H1 _ I1 q) fun us s2 ⟨vs, H2, I2, r, q2⟩ => ?_) hpl hst
  refine thn (hkw.run pos pins s2 σ H2 _ I2 q2) fun ws s3 ⟨zs, H3, I3, rz, l1, l2, q3⟩ => ⟨I3.kIn, ?_⟩
  rw [hks]
  exact run_fnN (us := .ref a :: us) (vs := .ref a :: vs) F hr hb hx I3 (.cons rfl r) rz l1 l2 q3
/-- o.m(k = v) -/
theorem pe_methK0 {pl : Sem Bool} (he : PE X o ta) (c : Cls X.K C) (hm : Meth X.K C m f) (F : FnOk X.prog X.w X.K X.mg X.base CX k f fd ps sp) (hr : Room k X.A) (hb : KBn X.K fd ps n ks g gV) (hx : Passes CX X E) (hkw : PK X kws tk)
    (hall : (backToKw pos (keywordEach kws X.env)).all (·.1.isSome) = true := by rfl) (hks : (backToKw pos (keywordEach kws X.env)).filterMap (·.1) = ks := by rfl)
    (hpl : ((backTo pos (starEach [] X.env)).any (·.1) || (backToKw pos (keywordEach kws X.env)).any (·.1.isNone)) = false := by rfl)
    (ht : eval (.Call (.Attribute o m apos) [] kws pos) X.env = (do
      let ov ← eval o X.env
      standAt apos.atName
      let (f, first) ← holding [ov] (getMethod ov m pl)
      callWith pos f first (backTo pos (starEach [] X.env)) (backToKw pos (keywordEach kws X.env))) := by rfl) :
    PE X (.Call (.Attribute o m apos) [] kws pos) (tMethK C m n ks.length sp gV E ta tNil tk) := by
  refine ⟨fun pins s σ H Q I h => ?_⟩
  refine PySem.W.methodCall_KW (pl := pl) (thn (he.run pins s σ H _ I h) fun u s1 ⟨x, H1, I1, rx, a, dx, fs, ex, ea, l, q⟩ => ?_) ht
  subst ex
  obtain rfl : u = Value.ref a := rx
  refine getmeth_ok I1 ea c hm l ?_
  refine PySem.W.callWith_KW0 (first := [.ref a]) (h₀ := X.base) I.ok.mod.kin hm.kp hall ?_ hpl
  refine thn (hkw.run pos pins s1 σ H1 _ I1 q) fun ws s3 ⟨zs, H3, I3, rz, l1, l2, q3⟩ => ⟨I3.kIn, ?_⟩
  rw [hks]
  exact run_fnN (us := [.ref a]) (vs := [.ref a]) F hr hb hx I3 (.cons rfl .nil) rz l1 l2 q3
end
end L2
namespace DL
open PySem PySem.Spec PyProof.Rows L2
open Evl (Ex)
/-- a method with n parameters and one more, keyword-only, kw, with a default (dd as data) -/
def GoodK (P : Program) (w : World) (K : PySem.W.Frag) (mg : Str → Option Value) (base : Heap) (k : Nat) (f : Addr) (ps : List Str) (n : Nat) (kw : Str) (dd : D) (sp : SpX) : Prop :=
  ∃ fd us0 dv, FnOk P w K mg base (L2.CX P w) k f fd ps (spDX K sp) ∧ PySem.W.keepIn K (.ref f) = true ∧ Binds K fd ps us0 ∧ Vals [dv] us0 ∧ (∀ W, R K W dv dd) ∧ KBn K fd ps n [kw] (fun us ws => us ++ ws) (fun vs zs => vs ++ zs)
theorem GoodK.mono {P : Program} {w : World} {K : PySem.W.Frag} {mg : Str → Option Value} {base : Heap} {j k n : Nat} {f : Addr} {ps : List Str} {kw : Str} {dd : D} {sp : SpX} (g : GoodK P w K mg base j f ps n kw dd sp) (h : j ≤ k) : GoodK P w K mg base k f ps n kw dd sp := by
  obtain ⟨fd, us0, dv, F, r⟩ := g
  exact ⟨fd, us0, dv, F.mono h, r⟩
def eMethX (C : Addr) (m : Str) (XX : XN → List Cel → Prop) (sp : SpX) (dd : List D) (t : DE) (ta : DA) : DE := fun e P => t e fun d e1 => (∃ ns xs, insD e1.cs d = some (C, ns, xs) ∧ m ∉ ns) ∧ ta e1 fun ds e2 => sp (d :: (ds ++ dd)) e2.cs (fun r cs' => P r { e2 with cs := cs' }) XX
/-- with the keyword: its value stands behind the others -/
def eMethK (C : Addr) (m : Str) (XX : XN → List Cel → Prop) (sp : SpX) (n : Nat) (t : DE) (ta tk : DA) : DE := fun e P => t e fun d e1 => (∃ ns xs, insD e1.cs d = some (C, ns, xs) ∧ m ∉ ns) ∧ ta e1 fun ds e2 => tk e2 fun zs e3 => ds.length + 1 = n ∧ zs.length = 1 ∧ sp (d :: (ds ++ zs)) e3.cs (fun r cs' => P r { e3 with cs := cs' }) XX
section
variable {X : Cx} {B : Bs} {XX : XN → List Cel → Prop} {ex o : Expr} {es : List Expr} {kws : List Keyword} {te t1 : DE} {ta t2 tk' : DA} {C : Addr} {f m x kw : Str} {pos apos p kpos : Pos} {k n : Nat} {fn : Addr} {ps ks : List Str} {sp : SpX} {dd : D} {nm : Option Str}
/-- the keywords' values, as data -/
theorem dk_nil : PK X [] (lA X.K B aNil) := PK.imp pk_nil fun σ H Q ⟨W, e, P, bl, S, t, k⟩ => k [] e W H [] t W.le_refl S .nil
theorem dk_cons (ha : PE X ex (lE X.K B t1)) (hr : PK X kws (lA X.K B t2)) : PK X (⟨nm, ex, kpos⟩ :: kws) (lA X.K B (aCons t1 t2)) :=
  PK.imp (pk_cons ha hr) fun σ H Q ⟨W, e, P, bl, S, t, k⟩ => ⟨W, e, _, bl, S, t, fun d e1 W1 H1 v t1 l1 S1 r1 => ⟨W1, e1, _, (B.up bl l1), S1, t1, fun ds e2 W2 H2 vs p l2 S2 r2 => k _ _ _ _ _ p (l1.tr l2) S2 (.cons (R.mono l2 _ _ r1) r2)⟩⟩
theorem de_methX {pl : Sem Bool} (G : GoodK X.prog X.w X.K X.mg X.base k fn ps n kw dd sp) (tk : XT X B XX) (hr : Room k X.A) (c : Cls X.K C) (hm : Meth X.K C m fn) (ho : PE X o (lE X.K B te)) (ha : PA X (ex :: es) (lA X.K B ta))
    (hst : starEach (ex :: es) X.env = (false, eval ex X.env) :: starEach es X.env := by rfl) (hpl : (backTo pos (starEach es X.env)).any (·.1) = false := by rfl)
    (ht : eval (.Call (.Attribute o m apos) (ex :: es) [] pos) X.env = (do
      let ov ← eval o X.env
      standAt apos.atName
      let (f, first) ← holding [ov] (getMethod ov m pl)
      callWith pos f first (backTo pos (starEach (ex :: es) X.env)) (backToKw pos (keywordEach [] X.env))) := by rfl) :
    PE X (.Call (.Attribute o m apos) (ex :: es) [] pos) (lE X.K B (eMethX C m XX sp [dd] te ta)) := by
  obtain ⟨fd, us0, dv, F, kp, b, rv, rd, _⟩ := G
  refine PE.imp (pe_meth ho c hm F hr b rv tk.passes ha hst hpl ht) fun σ H Q ⟨W, e, P, bl, S, t, k⟩ => ⟨W, e, _, bl, S, t, fun d e1 W1 H1 v ⟨⟨ns, xs, hi, hn⟩, h⟩ l S1 r => ?_⟩
  obtain ⟨a, dx, gs, rfl, h1, h2, h3⟩ := S1.ok.ins r hi
  refine ⟨a, dx, gs, rfl, h1, lookup_none (by rw [h2]; exact hn), W1, e1, _, B.up bl l, S1, h, fun ds e2 W2 H2 vs h l2 S2 r2 => ?_⟩
  exact ⟨W2, e2.cs, d :: (ds ++ [dd]), _, XX, S2.ok, .cons (R.mono l2 _ _ r) (r2.append (.cons (rd W2) .nil)), h, fun d cs' W3 H3 v p l3 ok3 r3 => k _ _ _ _ _ p ((l.tr l2).tr l3) ⟨ok3, S2.sl.mono l3⟩ r3, fun y cs' W3 H3 d' px pd l3 ok3 => ⟨y, W3, cs', rfl, pd, B.up bl ((l.tr l2).tr l3), ok3, px⟩⟩
theorem de_methX0 {pl : Sem Bool} (G : GoodK X.prog X.w X.K X.mg X.base k fn ps n kw dd sp) (tk : XT X B XX) (hr : Room k X.A) (c : Cls X.K C) (hm : Meth X.K C m fn) (ho : PE X o (lE X.K B te))
    (ht : eval (.Call (.Attribute o m apos) [] [] pos) X.env = (do
      let ov ← eval o X.env
      standAt apos.atName
      let (f, first) ← holding [ov] (getMethod ov m pl)
      callWith pos f first (backTo pos (starEach [] X.env)) (backToKw pos (keywordEach [] X.env))) := by rfl) :
    PE X (.Call (.Attribute o m apos) [] [] pos) (lE X.K B (eMethX C m XX sp [dd] te aNil)) := by
  obtain ⟨fd, us0, dv, F, kp, b, rv, rd, _⟩ := G
  refine PE.imp (pe_meth0 ho c hm F hr b rv tk.passes ht) fun σ H Q ⟨W, e, P, bl, S, t, k⟩ => ⟨W, e, _, bl, S, t, fun d e1 W1 H1 v ⟨⟨ns, xs, hi, hn⟩, h⟩ l S1 r => ?_⟩
  obtain ⟨a, dx, gs, rfl, h1, h2, h3⟩ := S1.ok.ins r hi
  refine ⟨a, dx, gs, rfl, h1, lookup_none (by rw [h2]; exact hn), ?_⟩
  exact ⟨W1, e1.cs, [d, dd], _, XX, S1.ok, .cons r (.cons (rd W1) .nil), h, fun d cs' W3 H3 v p l3 ok3 r3 => k _ _ _ _ _ p (l.tr l3) ⟨ok3, S1.sl.mono l3⟩ r3, fun y cs' W3 H3 d' px pd l3 ok3 => ⟨y, W3, cs', rfl, pd, B.up bl (l.tr l3), ok3, px⟩⟩
theorem de_methXK {pl : Sem Bool} (G : GoodK X.prog X.w X.K X.mg X.base k fn ps n kw dd sp) (tk : XT X B XX) (hr : Room k X.A) (c : Cls X.K C) (hm : Meth X.K C m fn) (ho : PE X o (lE X.K B te)) (ha : PA X (ex :: es) (lA X.K B ta)) (hk : PK X kws (lA X.K B tk'))
    (hall : (backToKw pos (keywordEach kws X.env)).all (·.1.isSome) = true := by rfl) (hks : (backToKw pos (keywordEach kws X.env)).filterMap (·.1) = [kw] := by rfl)
    (hst : starEach (ex :: es) X.env = (false, eval ex X.env) :: starEach es X.env := by rfl) (hpl : ((backTo pos (starEach (ex :: es) X.env)).any (·.1) || (backToKw pos (keywordEach kws X.env)).any (·.1.isNone)) = false := by rfl)
    (ht : eval (.Call (.Attribute o m apos) (ex :: es) kws pos) X.env = (do
      let ov ← eval o X.env
      standAt apos.atName
      let (f, first) ← holding [ov] (getMethod ov m pl)
      callWith pos f first (backTo pos (starEach (ex :: es) X.env)) (backToKw pos (keywordEach kws X.env))) := by rfl) :
    PE X (.Call (.Attribute o m apos) (ex :: es) kws pos) (lE X.K B (eMethK C m XX sp n te ta tk')) := by
  obtain ⟨fd, us0, dv, F, kp, _, _, _, b⟩ := G
  refine PE.imp (pe_methK ho c hm F hr b tk.passes ha hk hall hks hst hpl ht) fun σ H Q ⟨W, e, P, bl, S, t, k⟩ => ⟨W, e, _, bl, S, t, fun d e1 W1 H1 v ⟨⟨ns, xs, hi, hn⟩, h⟩ l S1 r => ?_⟩
  obtain ⟨a, dx, gs, rfl, h1, h2, h3⟩ := S1.ok.ins r hi
  refine ⟨a, dx, gs, rfl, h1, lookup_none (by rw [h2]; exact hn), W1, e1, _, B.up bl l, S1, h, fun ds e2 W2 H2 vs h l2 S2 r2 => ⟨W2, e2, _, B.up bl (l.tr l2), S2, h, fun zs e3 W3 H3 ws ⟨z1, z2, h⟩ l3 S3 r3 => ⟨by rw [r2.length]; exact z1, by rw [r3.length]; exact z2, ?_⟩⟩⟩
  exact ⟨W3, e3.cs, d :: (ds ++ zs), _, XX, S3.ok, .cons (R.mono (l2.tr l3) _ _ r) ((r2.mono l3).append r3), h, fun d cs' W4 H4 v p l4 ok4 r4 => k _ _ _ _ _ p (((l.tr l2).tr l3).tr l4) ⟨ok4, S3.sl.mono l4⟩ r4, fun y cs' W4 H4 d' px pd l4 ok4 => ⟨y, W4, cs', rfl, pd, B.up bl (((l.tr l2).tr l3).tr l4), ok4, px⟩⟩
theorem de_methXK0 {pl : Sem Bool} (G : GoodK X.prog X.w X.K X.mg X.base k fn ps n kw dd sp) (tk : XT X B XX) (hr : Room k X.A) (c : Cls X.K C) (hm : Meth X.K C m fn) (ho : PE X o (lE X.K B te)) (hk : PK X kws (lA X.K B tk'))
    (hall : (backToKw pos (keywordEach kws X.env)).all (·.1.isSome) = true := by rfl) (hks : (backToKw pos (keywordEach kws X.env)).filterMap (·.1) = [kw] := by rfl)
    (hpl : ((backTo pos (starEach [] X.env)).any (·.1) || (backToKw pos (keywordEach kws X.env)).any (·.1.isNone)) = false := by rfl)
    (ht : eval (.Call (.Attribute o m apos) [] kws pos) X.env = (do
      let ov ← eval o X.env
      standAt apos.atName
      let (f, first) ← holding [ov] (getMethod ov m pl)
      callWith pos f first (backTo pos (starEach [] X.env)) (backToKw pos (keywordEach kws X.env))) := by rfl) :
    PE X (.Call (.Attribute o m apos) [] kws pos) (lE X.K B (eMethK C m XX sp n te aNil tk')) := by
  obtain ⟨fd, us0, dv, F, kp, _, _, _, b⟩ := G
  refine PE.imp (pe_methK0 ho c hm F hr b tk.passes hk hall hks hpl ht) fun σ H Q ⟨W, e, P, bl, S, t, k⟩ => ⟨W, e, _, bl, S, t, fun d e1 W1 H1 v ⟨⟨ns, xs, hi, hn⟩, h⟩ l S1 r => ?_⟩
  obtain ⟨a, dx, gs, rfl, h1, h2, h3⟩ := S1.ok.ins r hi
  refine ⟨a, dx, gs, rfl, h1, lookup_none (by rw [h2]; exact hn), W1, e1, _, B.up bl l, S1, h, fun zs e3 W3 H3 ws ⟨z1, z2, h⟩ l3 S3 r3 => ⟨z1, by rw [r3.length]; exact z2, ?_⟩⟩
  exact ⟨W3, e3.cs, d :: zs, _, XX, S3.ok, .cons (R.mono l3 _ _ r) r3, h, fun d cs' W4 H4 v p l4 ok4 r4 => k _ _ _ _ _ p ((l.tr l3).tr l4) ⟨ok4, S3.sl.mono l4⟩ r4, fun y cs' W4 H4 d' px pd l4 ok4 => ⟨y, W4, cs', rfl, pd, B.up bl ((l.tr l3).tr l4), ok4, px⟩⟩
end
/-! ### x not in o of an own class -/
def rNinO (K : PySem.W.Frag) (C : Addr) (sp : Spc) : R2 := fun y x H Q => rInO K C sp y x H fun v H' => ∃ b, v = .bl b ∧ Q (.bl (!b)) H'
def qNinO (C : Addr) (sp : Spc) : D → D → DE := fun y d => fun e P => qInO C sp y d e fun r e' => ∃ b, r = .bl b ∧ P (.bl (!b)) e'
theorem od_ninO {K : PySem.W.Frag} {C : Addr} {sp : Spc} : OpD K (rNinO K C sp) (qNinO C sp) := fun W H σ e x y d1 d2 P Q S r1 r2 t k =>
  od_inO W H σ e x y d1 d2 _ _ S r1 r2 t fun d e1 W1 H1 v ⟨b, hb, p⟩ l S1 r => by
    subst hb
    exact ⟨b, r.bl_inv, k _ _ _ _ _ p l S1 (.bl _)⟩
theorem op_ninO {X : Cx} {C fn : Addr} {k : Nat} {ps : List Str} {sp : Spc} (G : Good X.prog X.w X.K X.mg X.base k fn ps sp) (hr : Room k X.A) (sm : Sm X.K C "__contains__" fn) : OpR X (compareOp .NotIn) (rNinO X.K C sp) := by
  rintro pins s σ H y x v u Q I ry rx ⟨a, dx, gs, rfl, ha, h⟩
  obtain ⟨fd, F, bi, kp⟩ := G
  cases (show u = Value.ref a from rx)
  obtain ⟨od, J⟩ := Inv.inst I ha
  show wpAny (model X.prog X.w) X.A ((contains (.ref a) v) >>= fun b => pure (Value.bool (!b))) _ _ s
  have c : wpAny (model X.prog X.w) X.A (contains (.ref a) v) (fun b s' => EP X pins σ Q (Value.bool (!b)) s') X.xe s := by
    refine contains_own I.kIn J sm.at_ (beq_iff_eq.mp sm.fn) (wpAny_mono (run_in (us := [.ref a, v]) (vs := [V.ref a, y]) F bi hr I.env0 I (.cons rfl (.cons ry .nil)) h) (fun v s' z => ?_) fun _ _ z => z)
    obtain ⟨v', H', I', rv, ⟨b, rfl⟩, ⟨b2, e2, q⟩⟩ := z
    cases e2
    cases rv
    exact ⟨b, rfl, .bl (!b), H', I', rfl, q⟩
  exact wpAny_bind (wpAny_mono c (fun b s' q => wpAny_pure q) fun _ _ z => z)
section
variable {X : Cx} {B : Bs} {XX : XN → List Cel → Prop} {ex o : Expr} {es : List Expr} {te : DE} {ta : DA} {C : Addr} {m : Str} {pos apos : Pos} {k : Nat} {fn : Addr} {ps : List Str} {sp : SpX}
/-- a method of that kind without such a parameter -/
theorem de_methGX {pl : Sem Bool} (G : GoodX X.prog X.w X.K X.mg X.base k fn ps sp) (tk : XT X B XX) (hr : Room k X.A) (c : Cls X.K C) (hm : Meth X.K C m fn) (ho : PE X o (lE X.K B te)) (ha : PA X (ex :: es) (lA X.K B ta))
    (hst : starEach (ex :: es) X.env = (false, eval ex X.env) :: starEach es X.env := by rfl) (hpl : (backTo pos (starEach es X.env)).any (·.1) = false := by rfl)
    (ht : eval (.Call (.Attribute o m apos) (ex :: es) [] pos) X.env = (do
      let ov ← eval o X.env
      standAt apos.atName
      let (f, first) ← holding [ov] (getMethod ov m pl)
      callWith pos f first (backTo pos (starEach (ex :: es) X.env)) (backToKw pos (keywordEach [] X.env))) := by rfl) :
    PE X (.Call (.Attribute o m apos) (ex :: es) [] pos) (lE X.K B (eMethX C m XX sp [] te ta)) := by
  obtain ⟨fd, F, b, _⟩ := G
  refine PE.imp (pe_meth ho c hm F hr b .nil tk.passes ha hst hpl ht) fun σ H Q ⟨W, e, P, bl, S, t, k⟩ => ⟨W, e, _, bl, S, t, fun d e1 W1 H1 v ⟨⟨ns, xs, hi, hn⟩, h⟩ l S1 r => ?_⟩
  obtain ⟨a, dx, gs, rfl, h1, h2, h3⟩ := S1.ok.ins r hi
  refine ⟨a, dx, gs, rfl, h1, lookup_none (by rw [h2]; exact hn), W1, e1, _, B.up bl l, S1, h, fun ds e2 W2 H2 vs h l2 S2 r2 => ?_⟩
  exact ⟨W2, e2.cs, d :: (ds ++ []), _, XX, S2.ok, .cons (R.mono l2 _ _ r) (r2.append .nil), h, fun d cs' W3 H3 v p l3 ok3 r3 => k _ _ _ _ _ p ((l.tr l2).tr l3) ⟨ok3, S2.sl.mono l3⟩ r3, fun y cs' W3 H3 d' px pd l3 ok3 => ⟨y, W3, cs', rfl, pd, B.up bl ((l.tr l2).tr l3), ok3, px⟩⟩
theorem de_methGX0 {pl : Sem Bool} (G : GoodX X.prog X.w X.K X.mg X.base k fn ps sp) (tk : XT X B XX) (hr : Room k X.A) (c : Cls X.K C) (hm : Meth X.K C m fn) (ho : PE X o (lE X.K B te))
    (ht : eval (.Call (.Attribute o m apos) [] [] pos) X.env = (do
      let ov ← eval o X.env
      standAt apos.atName
      let (f, first) ← holding [ov] (getMethod ov m pl)
      callWith pos f first (backTo pos (starEach [] X.env)) (backToKw pos (keywordEach [] X.env))) := by rfl) :
    PE X (.Call (.Attribute o m apos) [] [] pos) (lE X.K B (eMethX C m XX sp [] te aNil)) := by
  obtain ⟨fd, F, b, _⟩ := G
  refine PE.imp (pe_meth0 ho c hm F hr b .nil tk.passes ht) fun σ H Q ⟨W, e, P, bl, S, t, k⟩ => ⟨W, e, _, bl, S, t, fun d e1 W1 H1 v ⟨⟨ns, xs, hi, hn⟩, h⟩ l S1 r => ?_⟩
  obtain ⟨a, dx, gs, rfl, h1, h2, h3⟩ := S1.ok.ins r hi
  refine ⟨a, dx, gs, rfl, h1, lookup_none (by rw [h2]; exact hn), ?_⟩
  exact ⟨W1, e1.cs, [d], _, XX, S1.ok, .cons r .nil, h, fun d cs' W3 H3 v p l3 ok3 r3 => k _ _ _ _ _ p (l.tr l3) ⟨ok3, S1.sl.mono l3⟩ r3, fun y cs' W3 H3 d' px pd l3 ok3 => ⟨y, W3, cs', rfl, pd, B.up bl (l.tr l3), ok3, px⟩⟩
end
theorem goodK_of {P : Program} {w : World} {K : PySem.W.Frag} {mg : Str → Option Value} {base : Heap} {x qual kw : Str} {params : Arguments} {body : List Stmt} {scope : Scope} {f : Addr} {N ps : List Str} {k n : Nat} {dv : V} {dd : D} {sp : SpX} {t : (XN → List Cel → Prop) → DS}
    (F : ∃ fd, FunD K x qual params body scope [] [(kw, dv)] f fd) (S : FnScope N ps scope) (len : ∀ ds cs Q QX, sp ds cs Q QX → ds.length = ps.length) (hn : n + 1 = ps.length) (rd : ∀ W, R K W dv dd)
    (b0 : ∀ (D : Addr) (doc pm : Value) (an : Option Addr) (cdv ct : Value) (us ks : List Value), us.length = n → ks.length = 1 → KwChain D ([kw].zip ks) (bindArgs (PySem.W.fnOf x qual params body scope .none (.ref D) doc pm an cdv ct) ⟨us, []⟩) (ps.zip (us ++ ks)))
    (b1 : ∀ (kV doc pm : Value) (an : Option Addr) (cdv ct : Value) (us ks : List Value), us.length = n → ks.length = 1 → bindArgs (PySem.W.fnOf x qual params body scope .none kV doc pm an cdv ct) ⟨us, [kw].zip ks⟩ = pure (ps.zip (us ++ ks)))
    (der : ∀ (cdv : Value) (A : Around) (outer : List Env) (s : Shared) (H : Hp) (E : XK) (B : Bs) (XX : XN → List Cel → Prop), Room k (A.deeper (envOfC qual scope s.heap.objs.size f cdv)) → XT (cxX P w K mg base N qual scope f cdv A outer s H E) B XX →
      PassesOwn (model P w) (A.deeper (envOfC qual scope s.heap.objs.size f cdv)) (envOfC qual scope s.heap.objs.size f cdv) (cxX P w K mg base N qual scope f cdv A outer s H E).xe → PSs (cxX P w K mg base N qual scope f cdv A outer s H E) body (lS K B (t XX)))
    (vc : ∀ ds cs Q QX, (∀ d ∈ ds, loD cs.length d = true) → (∀ c ∈ cs, c.loD cs.length = true) → sp ds cs Q QX → t (FinX cs QX) (Po.fn cs Q) ⟨startD N ds, cs⟩) : GoodK P w K mg base (k + 1) f ps n kw dd sp := by
  obtain ⟨fd, F⟩ := F
  obtain ⟨us0, rv, b⟩ := F.binds0 (ps := ps) n (by simp) hn fun D doc pm an cdv ct us ks h1 h2 => b0 D doc pm an cdv ct us ks h1 h2
  refine ⟨fd, us0, dv, fn_dX F S len der vc, F.kp, b, rv, rd, ⟨fun s us ws X h1 h2 => ?_, fun r1 r2 => r1.append r2⟩⟩
  obtain ⟨oc, od, dV, kV, doc, pm, an, cdv, ct, osl, rfl, lk, hcd, hD, hK⟩ := F.ex
  rcases hD with ⟨_, rfl⟩ | ⟨e, _⟩
  · exact BindsTo.of_looks fun M => PySem.W.Looks.of_pure (b1 kV doc pm an cdv ct us ws h1 h2)
  · exact absurd rfl e
end DL
/-! strings: sep.join(a list); t + u of any two tuples -/
namespace DL
open PySem PySem.Spec PyProof.Rows L2
open Evl (Ex)
def eJoin (to te : DE) : DE := fun e P => to e fun d e1 => ∃ a : Str, d = .str a ∧ te e1 fun x e2 => ∃ ys : List Str, lk e2.cs x = some (ys.map .str) ∧ (ys.map (·.length)).sum + ys.length * a.length ≤ 16777216 ∧ P (.str (Txt.join a ys)) e2
section
variable {X : Cx} {B : Bs} {o ex : Expr} {to te : DE} {pos apos : Pos}
theorem de_join (ho : PE X o (lE X.K B to)) (he : PE X ex (lE X.K B te)) (hs : starEach [ex] X.env = [(false, eval ex X.env)] := by rfl) (hbase : attributeBase o "join" X.env (eval o X.env) = eval o X.env := by rfl) (hline : (apos.endLine == pos.line) = true := by rfl) :
    PE X (.Call (.Attribute o "join" apos) [ex] [] pos) (lE X.K B (eJoin to te)) := by
  refine PE.imp (pe_join ho he hs hbase hline) fun σ H Q ⟨W, e, P, bl, S, t, k⟩ => ⟨W, e, _, bl, S, t, fun d e1 W1 H1 v ⟨a, hd, t2⟩ l1 S1 r1 => ?_⟩
  subst hd
  cases r1
  refine ⟨⟨a, rfl⟩, W1, e1, _, B.up bl l1, S1, t2, fun x e2 W2 H2 u ⟨ys, hl, hz, p⟩ l2 S2 r2 => ?_⟩
  obtain ⟨q, ws, rfl, h3, h4⟩ := S2.ok.lk r2 hl
  cases RAll.strs_inv h4
  exact ⟨a, q, ys, rfl, rfl, .inl h3, hz, k _ _ _ _ _ p (l1.tr l2) S2 (.str _)⟩
end
/-! t + u -/
def qAddT : D → D → DE := fun x y e P => ∃ xs ys, x = .tup xs ∧ y = .tup ys ∧ xs.length + ys.length ≤ 100000 ∧ P (.tup (xs ++ ys)) e
theorem od_addT {K : PySem.W.Frag} : OpD K (rCatA K) qAddT := by
  rintro W H σ e x y d1 d2 P Q S r1 r2 ⟨xs, ys, rfl, rfl, hz, t⟩ k
  cases r1 with
  | tup h1 q1 =>
    cases r2 with
    | tup h2 q2 =>
      refine ⟨_, _, _, _, rfl, rfl, Evl.ex_t S.ok.ex h1, Evl.ex_t S.ok.ex h2, by rw [q1.length, q2.length]; exact Nat.le_trans hz (by decide), ?_, ?_, ?_⟩
      · exact fun z => k _ _ _ _ _ t W.le_refl S (by
          subst z; cases q1
          exact .tup h2 q2)
      · exact fun _ z => k _ _ _ _ _ t W.le_refl S (by
          subst z; cases q2
          rw [List.append_nil]
          exact .tup h1 q1)
      · exact fun _ _ => newT_ok S (q1.append q2) t k
theorem v_addT {xs ys : List D} {e : En} {P : D → En → Prop} (hz : xs.length + ys.length ≤ 100000) (p : P (.tup (xs ++ ys)) e) : qAddT (.tup xs) (.tup ys) e P := ⟨xs, ys, rfl, rfl, hz, p⟩
end DL
/-! strings: for c in s, str(s), a in s, s.split(t) -/
namespace DL
open PySem PySem.Spec PyProof.Rows L2
open Evl (Ex)
/-! ### for c in a string -/
def chars (x : Str) : List D := x.cps.toList.map fun c => .str ⟨#[c]⟩
theorem chars_len (x : Str) : (chars x).length = x.cps.size := by unfold chars; rw [List.length_map, Array.length_toList]
theorem chars_get {x : Str} {i : Nat} {d : D} (h : (chars x)[i]? = some d) : ∃ c, x.cps[i]? = some c ∧ d = .str ⟨#[c]⟩ := by
  unfold chars at h
  rw [List.getElem?_map, Option.map_eq_some_iff] at h
  obtain ⟨c, h1, rfl⟩ := h
  exact ⟨c, by rw [← Array.getElem?_toList]; exact h1, rfl⟩
theorem wk_str {K : PySem.W.Frag} {W : Wd} {x : Str} : Wk K W (Its x) anyC (chars x) where
  go := fun i W' H σ e l S _ hi => by rw [chars_len] at hi; exact hi
  yld := fun i W' H σ e y H' d l S _ hd yl => by
    obtain ⟨rfl, c, hc, rfl⟩ := yl
    obtain ⟨c', hc', rfl⟩ := chars_get hd
    rw [hc] at hc'
    cases hc'
    exact ⟨W', W'.le_refl, S, .str _⟩
  stop := fun i W' H σ e l S _ hi => by rw [chars_len] at hi; exact hi
def iSt (t : DE) : DI := fun e P => t e fun d e1 => ∃ x : Str, d = .str x ∧ P (chars x) anyC e1
theorem di_str {X : Cx} {B : Bs} {tg ex : Expr} {te : DE} (h : PE X ex (lE X.K B te)) : PI X tg ex (lI X.K B (iSt te)) := PI.imp (pi_str h) fun σ H Q ⟨W, e, P, bl, S, t, k⟩ => by
  refine ⟨W, e, _, bl, S, t, fun d e1 W1 H1 v ⟨x, hd, p⟩ l S1 r => ?_⟩
  subst hd
  cases r
  exact ⟨x, rfl, k _ _ _ _ _ _ p l S1 wk_str⟩
/-! ### str of an integer or a string -/
def rStrA2 : List V → Hp → VK → Prop := fun xs H Q => (∃ i, xs = [.int i] ∧ i.natAbs.log2 < 1920 ∧ Q (.str (toString i)) H) ∨ ∃ a, xs = [.str a] ∧ Q (.str a) H
theorem call_strA2 {X : Cx} : CallR X (.type "str") rStrA2 := call_str_int.or SkE.call_str_str
def qStr2 : List D → DE
  | [.int i] => fun e P => i.natAbs.log2 < 1920 ∧ P (.str (toString i)) e
  | [.str a] => fun e P => P (.str a) e
  | _ => fun _ _ => False
theorem cd_str2 {K : PySem.W.Frag} : CallD K rStrA2 qStr2 := by
  intro W H σ e vs ds P Q S r t k
  unfold qStr2 at t
  split at t
  · obtain ⟨v, rfl, r1⟩ := r.one
    obtain ⟨h, p⟩ := t
    cases r1
    exact .inl ⟨_, rfl, h, k _ _ _ _ _ p W.le_refl S (.str _)⟩
  · obtain ⟨v, rfl, r1⟩ := r.one
    cases r1
    exact .inr ⟨_, rfl, k _ _ _ _ _ t W.le_refl S (.str _)⟩
  · exact t.elim
theorem v_str2I {i : Int} {e : En} {P : D → En → Prop} (h : i.natAbs.log2 < 1920) (p : P (.str (toString i)) e) : qStr2 [.int i] e P := ⟨h, p⟩
/-! ### a in b -/
def inS (a b : Str) : Bool := !(Builtin.Str.occurrences b a 0 b.length 1).isEmpty
def rInS (neg : Bool) : R2 := fun x y H Q => ∃ i j, x = .str i ∧ y = .str j ∧ Q (.bl (if neg then !inS i j else inS i j)) H
theorem op_inS {X : Cx} : OpR X (compareOp .In) (rInS false) := op_in_str
theorem op_notInS {X : Cx} : OpR X (compareOp .NotIn) (rInS true) := op_notin_str
def qInS (neg : Bool) : D → D → DE := fun x y e P => ∃ a b : Str, x = .str a ∧ y = .str b ∧ P (.bl (if neg then !inS a b else inS a b)) e
theorem od_inS {K : PySem.W.Frag} {neg : Bool} : OpD K (rInS neg) (qInS neg) := by
  rintro W H σ e x y d1 d2 P Q S r1 r2 ⟨a, b, rfl, rfl, t⟩ k
  exact ⟨a, b, r1.str_inv, r2.str_inv, k _ _ _ _ _ t W.le_refl S (.bl _)⟩
theorem v_inS {a b : Str} {e : En} {P : D → En → Prop} (p : P (.bl (inS a b)) e) : qInS false (.str a) (.str b) e P := ⟨a, b, rfl, rfl, p⟩
/-! ### x.split(y) -/
theorem strs_all {K : PySem.W.Frag} {W : Wd} : ∀ ys : List Str, RAll K W (ys.map V.str) (ys.map D.str)
  | [] => .nil
  | y :: ys => .cons (.str y) (strs_all ys)
def eSplit (o : Bool) (to te : DE) : DE := fun e P => to e fun d e1 => ∃ a : Str, d = .str a ∧ te e1 fun x e2 => ∃ b : Str, x = .str b ∧ (b.length == 0) = false ∧ a.length ≤ 99998 ∧ newL o ((Txt.split a b).map .str) e2 P
/-! ### x.find(y) -/
def eFind (to te : DE) : DE := fun e P => to e fun d e1 => ∃ a : Str, d = .str a ∧ te e1 fun x e2 => ∃ b : Str, x = .str b ∧ P (.int (Txt.find a b)) e2
section
variable {X : Cx} {B : Bs} {o ex : Expr} {to te : DE} {pos apos : Pos}
theorem de_split {ob : Bool} (ho : PE X o (lE X.K B to)) (he : PE X ex (lE X.K B te)) (hs : starEach [ex] X.env = [(false, eval ex X.env)] := by rfl) (hbase : attributeBase o "split" X.env (eval o X.env) = eval o X.env := by rfl) (hline : (apos.endLine == pos.line) = true := by rfl) :
    PE X (.Call (.Attribute o "split" apos) [ex] [] pos) (lE X.K B (eSplit ob to te)) := by
  refine PE.imp (pe_split ho he hs hbase hline) fun σ H Q ⟨W, e, P, bl, S, t, k⟩ => ⟨W, e, _, bl, S, t, fun d e1 W1 H1 v ⟨a, hd, t2⟩ l1 S1 r1 => ?_⟩
  subst hd
  cases r1
  refine ⟨⟨a, rfl⟩, W1, e1, _, B.up bl l1, S1, t2, fun x e2 W2 H2 u ⟨b, hx, hb, hz, p⟩ l2 S2 r2 => ?_⟩
  subst hx
  cases r2
  exact ⟨a, b, rfl, rfl, hb, Nat.le_trans (Nat.add_le_add_right hz 2) (by decide), newL_ok S2 (strs_all _) p fun d e' W' H' v p' l' S' r' => k _ _ _ _ _ p' ((l1.tr l2).tr l') S' r'⟩
theorem de_find (ho : PE X o (lE X.K B to)) (he : PE X ex (lE X.K B te)) (hs : starEach [ex] X.env = [(false, eval ex X.env)] := by rfl) (hbase : attributeBase o "find" X.env (eval o X.env) = eval o X.env := by rfl) (hline : (apos.endLine == pos.line) = true := by rfl) :
    PE X (.Call (.Attribute o "find" apos) [ex] [] pos) (lE X.K B (eFind to te)) := by
  refine PE.imp (pe_m1 PySem.F.slot_str_find PySem.F.type_str_find mt_find ho he hs hbase hline) fun σ H Q ⟨W, e, P, bl, S, t, k⟩ => ⟨W, e, _, bl, S, t, fun d e1 W1 H1 v ⟨a, hd, t2⟩ l1 S1 r1 => ?_⟩
  subst hd
  cases r1
  refine ⟨⟨a, rfl⟩, W1, e1, _, B.up bl l1, S1, t2, fun x e2 W2 H2 u ⟨b, hx, p⟩ l2 S2 r2 => ?_⟩
  subst hx
  cases r2
  exact ⟨a, b, rfl, rfl, k _ _ _ _ _ p (l1.tr l2) S2 (.int _)⟩
theorem de_strG {x z : Str} {pos : Pos} (hg : Gl X x) (hm : ∃ t, X.mg x = some (.str z t)) (hd : (x == ("__debug__" : Str)) = false := by decide) : PE X (.Name x pos) (lE X.K B (eC (.str z))) := by
  obtain ⟨t, hm⟩ := hm
  exact de_glob hg hm (show RelV (.str z) (.str z t) from ⟨t, rfl⟩) (fun _ => .str z) hd
end
end DL
/-! exceptions that are made as values: C(e), and their field index -/
namespace DL
open PySem PySem.Spec PyProof.Rows L2
open Evl (Ex)

theorem exV_ok {P : Program} {w : World} {H : Hp} {h : Heap} {a C : Addr} {d : Option Addr} {oe : Obj} {vs : Array Value} (e : h.get? a = some oe) (c : oe.cls = .ref C) (q : oe.dict = d) (v : oe.data = .fields vs) : ObjOk P w H h a (exV a C d) :=
  ⟨⟨oe, e, c, q, vs, v⟩, ⟨oe, e⟩, fun _ _ ⟨o, g, r⟩ k => ⟨o, k o g, r⟩⟩
section
variable {X : Cx} {x : Str} {e ex : Expr} {es : List Expr} {ta : TA} {te : TE} {p pos : Pos}
/-- C(e), an own class without own __init__ -/
theorem pe_excV {C : Addr} {bmB : List Value} {B newId initId : String} (F : ExcBaseFacts B newId initId bmB) (q : PySem.W.excIn X.K C bmB newId = true) (gC : X.mg x = some (.ref C)) (kC : PySem.W.keepIn X.K (.ref C) = true) (hg : Gl X x)
    (he : PE X e te) (hs : starEach [e] X.env = (false, eval e X.env) :: starEach [] X.env := by rfl) (hdb : (x == ("__debug__" : Str)) = false := by decide) :
    PE X (.Call (.Name x p) [e] [] pos) (fun σ H Q => te σ H fun _ H1 => ∀ a, H1 a = none → Q (.ref a) (upd H1 a (exV a C none))) := by
  refine ⟨fun pins s σ H Q I h => ?_⟩
  refine wpAny_Call_Name_kw (ld_glob I hg gC ?_ hdb)
  refine PySem.W.callWith_K (h₀ := X.base) I.ok.mod.kin kC ?_ hs (by rfl)
  rw [hs]
  show wpAny _ _ (spliced ((false, eval e X.env) :: backTo pos (starEach [] X.env))) _ _ s
  refine Calls.spliced_cons (thn (he.run pins s σ H _ I h) fun u s1 ⟨v, H1, I1, r1, q1⟩ => ?_)
  refine Calls.spliced_nil ⟨I1.kIn, ?_⟩
  show wpAny _ _ (call (.ref C) [u]) _ _ _
  obtain ⟨bm, N, nm, qn, bs, hdct, sn, sub, ab, col, dd, k0, k1, k2, k3, k5, mN, hC, hN, hni, T⟩ := exc_obj I1.kIn q
  refine wpAny_call_exc_subT F T hC hN hni (fun h' a hm => ?_) (by show 1 ≤ sizeLine; rw [sizeLine_eq]; omega)
  have hn : H1 a = none := I1.hok.gone hm.new
  obtain ⟨t, ht, _, _⟩ := hm.there
  exact ⟨.ref a, upd H1 a (exV a C none), I1.laidN hm.keeps hm.new hn (exV_ok ht rfl rfl rfl), rfl, q1 a hn⟩
/-- the end of C(e): it stays, its dict stands as an exception's dict -/
theorem mk_endV {pins : List (Addr × Obj)} {σ : L2.St} {H1 H2 : Hp} {hp hp2 h2 : Heap} {g1 g2 : Array GenState} {d1 d2 : Drawn} {t1 t2 : Nat} {os1 os2 : OsState} {a C d : Addr} {fs : List (Str × V)} (I1 : Inv X pins σ H1 ⟨hp, g1, d1, t1, os1⟩)
    (ha : hp.objs.size ≤ a) (k : ∀ b o, hp.get? b = some o → hp2.get? b = some o) (un : Un (frs X.stack) [] (upd H1 a (exo a C none)) H2 hp2 h2) (hok : HOk X.prog X.w H2 h2) (ho : os2 = os1) (hb : AllBare g2)
    (ea : H2 a = some (exo a C (some d))) (ed : H2 d = some (exd d fs)) (hd1 : H1 d = none) : Inv X pins σ (upd (upd H2 d (.xd fs)) a (exV a C (some d))) ⟨h2, g2, d2, t2, os2⟩ := by
  obtain ⟨t0, hoe⟩ := exo_at hok ea
  obtain ⟨mA, hns, rel⟩ := exd_at hok ed
  have hn : H1 a = none := I1.hok.fresh ha
  have nha : ∀ {b : Addr} {o : Obj}, hp.get? b = some o → b ≠ a := fun {b o} z => Nat.ne_of_lt (Nat.lt_of_lt_of_le (Heap.lt_size z) ha)
  have up : ∀ {b : Addr}, b ≠ a → H1 b = none → upd H1 a (exo a C none) b = none := fun {b} hb n => by rw [upd_ne hb]; exact n
  have nd : ∀ {b : Addr} {o : Obj}, hp.get? b = some o → H1 b = none → b ≠ d := fun {b o} z n e => by
    have y := un.free b o (k b o z) (up (nha z) n) (by simp)
    rw [e, ed] at y
    cases y
  have U : Un (frs X.stack) [] H1 (upd (upd H2 d (.xd fs)) a (exV a C (some d))) hp h2 := {
    keep := fun b o z n hf hx => un.keep b o (k b o z) (up (nha z) n) hf hx
    slot := fun b o z n hf hx => un.slot b o (k b o z) (up (nha z) n) hf hx
    free := fun b o z n hx => by
      rw [upd_ne (nha z), upd_ne (nd z n)]
      exact un.free b o (k b o z) (up (nha z) n) hx
    there := fun b o z hx => un.there b o (k b o z) hx
    tups := fun b xs z => by
      rw [upd_ne (ne_of_none z hn), upd_ne (ne_of_none z hd1)]
      exact un.tups b xs (by rw [upd_ne (ne_of_none z hn)]; exact z)
    frzs := fun b o v z => by
      rw [upd_ne (ne_of_none z hn), upd_ne (ne_of_none z hd1)]
      exact un.frzs b o v (by rw [upd_ne (ne_of_none z hn)]; exact z)
    tbls := fun b ps z => by
      rw [upd_ne (ne_of_none z hn), upd_ne (ne_of_none z hd1)]
      exact un.tbls b ps (by rw [upd_ne (ne_of_none z hn)]; exact z) }
  refine I1.call' (ch := []) ho U (fun b o z => ?_) hb (fun b z => absurd z (by simp))
  by_cases hba : b = a
  · subst hba
    rw [upd_same] at z
    cases z
    exact exV_ok hoe rfl rfl rfl
  · rw [upd_ne hba] at z
    by_cases hbd : b = d
    · subst hbd
      rw [upd_same] at z
      cases z
      exact ⟨mA, hns, rel⟩
    · rw [upd_ne hbd] at z
      exact (hok b o z).stay (fun c v _ y => y) (fun c hc => by rw [upd_ne (at_ne ea hc exo_own), upd_ne (at_ne ed hc exd_own)]; exact hc) (fun c xs hc => by rw [upd_ne (at_ne ea hc exo_tup), upd_ne (at_ne ed hc exd_tup)]; exact hc)
def tMkV (C : Addr) (sp : Sp) (dvs : List V) (ta : TA) : L2.St → Hp → VK → Prop := fun σ H Q => ta σ H fun vs H1 => vs.length ≤ 1000 ∧ ∀ a, H1 a = none → sp (.ref a :: (vs ++ dvs)) (upd H1 a (exo a C none))
  (fun v H2 => v = .non ∧ ∃ (d : Addr) (fs : List (Str × V)), H2 a = some (exo a C (some d)) ∧ H2 d = some (exd d fs) ∧ H1 d = none ∧ Q (.ref a) (upd (upd H2 d (.xd fs)) a (exV a C (some d)))) (fun _ _ _ => False)
/-- C(e, ..), C having its own __init__ -/
theorem pe_oexV {CX : CXT} {C fI : Addr} {k : Nat} {fd : FuncData} {ps : List Str} {sp : Sp} {ds : List Value} {dvs : List V} (T : OexC X.K C) (iC : PySem.W.findIn X.K (.ref C) "__init__" = some (some (.ref fI))) (tI : PySem.W.typeIn X.K (.ref fI) = some (.type "function"))
    (F1 : FnOk X.prog X.w X.K X.mg X.base CX k fI fd ps sp) (hr : Room (k + 1) X.A) (hb : Binds X.K fd ps ds) (hd : Vals dvs ds) (hx : Passes CX X (fun _ _ _ => False)) (hg : Gl X x) (hm : X.mg x = some (.ref C)) (ha : PA X (e :: es) ta)
    (hdb : (x == ("__debug__" : Str)) = false := by decide) (he : starEach (e :: es) X.env = (false, eval e X.env) :: starEach es X.env := by rfl) (hpl : (backTo pos (starEach es X.env)).any (·.1) = false := by rfl) :
    PE X (.Call (.Name x p) (e :: es) [] pos) (tMkV C sp dvs ta) := by
  refine ⟨fun pins s σ H Q I h => ?_⟩
  obtain ⟨nm, q, N, bs, bm, sn, sub, ab, col, dd, k0, k1, k2, k3, k5, hC, hbm⟩ := T.cls
  refine wpAny_Call_Name_kw (ld_glob I hg hm ?_ hdb)
  refine PySem.W.callWith_K (h₀ := X.base) I.ok.mod.kin T.kC (thn (ha.run pos pins s σ H _ I h) fun us s1 ⟨vs, H1, I1, r1, hz, q1⟩ => ⟨I1.kIn, ?_⟩) he hpl
  show wpAny _ _ (call (.ref C) us) _ _ _
  obtain ⟨hp, g, dr, tk, os⟩ := s1
  have hsz : hp.objs.size ≤ hp.objs.size + 1 := Nat.le_succ _
  have hn : H1 (hp.objs.size + 1) = none := I1.hok.fresh hsz
  have hq := q1 (hp.objs.size + 1) hn
  have kk : ∀ b o, hp.get? b = some o → ((hp.push (PySem.W.kdv_tup us)).push (PySem.HandSPX.excO C hp.objs.size)).get? b = some o := fun b o e => Heap.get?_push_of_some _ (Heap.get?_push_of_some _ e)
  have hget : ((hp.push (PySem.W.kdv_tup us)).push (PySem.HandSPX.excO C hp.objs.size)).get? (hp.objs.size + 1) = some (PySem.HandSPX.excO C hp.objs.size) := by heap_get
  have I2 : Inv X pins σ (upd H1 (hp.objs.size + 1) (exo (hp.objs.size + 1) C none)) ⟨(hp.push (PySem.W.kdv_tup us)).push (PySem.HandSPX.excO C hp.objs.size), g, dr, tk, os⟩ :=
    I1.laid (t' := tk) (a := hp.objs.size + 1) (o := exo (hp.objs.size + 1) C none) (h' := (hp.push (PySem.W.kdv_tup us)).push (PySem.HandSPX.excO C hp.objs.size)) kk hsz (exo_ok hget)
  have r2 : Vals (V.ref (hp.objs.size + 1) :: (vs ++ dvs)) (Value.ref (hp.objs.size + 1) :: (us ++ ds)) := .cons rfl (r1.append hd)
  have hl : (Value.ref (hp.objs.size + 1) :: us ++ ds).length = ps.length := by
    have e := r2.length
    rw [F1.len _ _ _ _ hq] at e
    exact e.symm
  have hus : us.length ≤ sizeLine := by
    rw [← Paired.length r1, sizeLine_eq]
    omega
  refine wpAny_call (PySem.HandSPX.call_own F.excBase_ValueError (fun Y => PySem.HandSPX.refsVE_contains Y bm hbm) (I1.kIn _ _ hC) (PySem.W.looks_findIn I1.kIn iC) (fun self => PySem.W.bind_fn I1.kIn self tI) hus
    (codeAny_mono (F1.run _ X.stack _ _ ⟨Value.ref (hp.objs.size + 1) :: us, []⟩ (Value.ref (hp.objs.size + 1) :: (us ++ ds)) _ _ (fun _ _ _ => False) (hr.make C us []) (I2.env0.make C us []) (hb _ (Value.ref (hp.objs.size + 1) :: us) I2.kIn hl) r2 hq) fun r s' hq' => ?_))
  cases r with
  | error er => exact hx pins σ _ _ er s' I2 hq'
  | ok fl =>
    cases fl with
    | ret u =>
      obtain ⟨v, H2, os2, bare2, un2, hok2, rv, ev, d, fs, ea, ed, hd1, q2⟩ := hq'
      subst ev
      obtain ⟨h2, g2, d2, t2, os'⟩ := s'
      exact ⟨rv, .ref (hp.objs.size + 1), _, mk_endV I1 hsz kk un2 hok2 os2 bare2 ea ed hd1, rfl, q2⟩
    | next => exact False.elim hq'
    | brk => exact False.elim hq'
    | cont => exact False.elim hq'
/-- e.n of such -/
def tXfV (K : PySem.W.Frag) (n : Str) (te : TE) : TE := fun σ H Q => te σ H fun x H1 => ∃ (a C dd : Addr) (fs : List (Str × V)) (v : V), x = .ref a ∧ XfC K C ∧ PySem.W.findIn K (.ref C) n = some none ∧ H1 a = some (exV a C (some dd)) ∧ H1 dd = some (.xd fs) ∧ fs.lookup n = some v ∧ Q v H1
theorem pe_xfV {n : Str} (he : PE X e te) (hb : attributeBase e n X.env (eval e X.env) = eval e X.env := by rfl) : PE X (.Attribute e n pos) (tXfV X.K n te) := by
  refine ⟨fun pins s σ H Q I h => ?_⟩
  refine attr_of hb (thn (he.run pins s σ H _ I h) fun u s1 hh => ?_)
  obtain ⟨x, H1, I1, rx, a, C, dd, fs, v, ex, T, hno, hA, ea, l, q⟩ := hh
  subst ex
  obtain rfl : u = Value.ref a := rx
  obtain ⟨⟨oe, g1, g2, g3, vs, g4⟩, _⟩ := (show ObjOk X.prog X.w H1 s1.heap a (exV a C (some dd)) from I1.hok a _ hA)
  have hx : ObjOk X.prog X.w H1 s1.heap dd (.xd fs) := I1.hok dd _ ea
  obtain ⟨mA, hns, hr⟩ := hx
  obtain ⟨od, ho, hl⟩ := lookIn_ns hns
  obtain ⟨u, hu, ru⟩ := RelO.some_of (v := v) (o := mA n) (by rw [← l]; exact hr n)
  have J : PySem.W.InstAt s1.heap a oe C (some od) := ⟨g1, g2, by unfold PySem.W.notCls; rw [g4] <;> rfl, by rw [g3]; exact ho⟩
  exact HandSPX.exc_get I1.kIn J T.ga T.gg T.exC (PySem.W.findObj_own T.hdC hno rfl (by rw [hl, hu])) (handed_of ru) ⟨v, H1, I1.tok _, ru, q⟩
end
/-! ### by data -/
def eExcV (C : Addr) (te : DE) : DE := fun e P => te e fun _ e1 => P (.exc C none) e1
theorem de_excV {X : Cx} {B : Bs} {c : Str} {ex : Expr} {te : DE} {p pos : Pos} (xo : PySem.W.excIn X.K (He.ga X.K c) He.veBase "ValueError.__new__" = true ∧ PySem.W.keepIn X.K (.ref (He.ga X.K c)) = true ∧ PySem.W.subIn X.K (.ref (He.ga X.K c)) (.type "BaseException") = some true ∧ PySem.W.typeIn X.K (.ref (He.ga X.K c)) = some (.type "type"))
    (gC : X.mg c = some (.ref (He.ga X.K c))) (he : PE X ex (lE X.K B te)) (hg : Gl X c := by rfl) (hs : starEach [ex] X.env = (false, eval ex X.env) :: starEach [] X.env := by rfl) (hdb : (c == ("__debug__" : Str)) = false := by decide) :
    PE X (.Call (.Name c p) [ex] [] pos) (lE X.K B (eExcV (He.ga X.K c) te)) :=
  PE.imp (pe_excV F.excBase_ValueError xo.1 gC xo.2.1 hg he hs hdb) fun σ H Q ⟨W, e, P, bl, S, t, k⟩ => ⟨W, e, _, bl, S, t, fun d e1 W1 H1 v p l S1 r => fun a ha => by
    obtain ⟨ok2, l2⟩ := S1.ok.newF (o := exV a (He.ga X.K c) none) ha
    exact k _ _ _ _ _ p (l.tr l2) ⟨ok2, S1.sl.mono l2⟩ (.exc upd_same rfl)⟩
def eExcI (C : Addr) (te : DE) : DE := fun e P => te e fun d e1 => ∃ i, d = .int i ∧ P (.exc C (some i)) e1
theorem de_excI {X : Cx} {B : Bs} {c : Str} {ex : Expr} {te : DE} {k : Nat} {f : Addr} {p pos : Pos} (G : GoodIx X.prog X.w X.K X.mg X.base k f c) (hr : Room (k + 1) X.A) (gC : X.mg c = some (.ref (He.ga X.K c)))
    (he : PE X ex (lE X.K B te)) (hg : Gl X c := by rfl) (hdb : (c == ("__debug__" : Str)) = false := by decide) (hse : starEach [ex] X.env = (false, eval ex X.env) :: starEach [] X.env := by rfl) (hpl : (backTo pos (starEach ([] : List Expr) X.env)).any (·.1) = false := by rfl) :
    PE X (.Call (.Name c p) [ex] [] pos) (lE X.K B (eExcI (He.ga X.K c) te)) := by
  obtain ⟨fd, F, bi, T, iC, tI⟩ := G
  refine PE.imp (pe_oexV T iC tI F hr bi .nil pass0 hg gC (da_cons he da_nil hse) hdb hse hpl) fun σ H Q h => ?_
  obtain ⟨W, e, P, bl, S, t, k⟩ := h
  refine ⟨W, e, _, bl, S, (show aCons te aNil e (fun ds e1 => ∃ i, ds = [.int i] ∧ P (.exc (He.ga X.K c) (some i)) e1) from ?_), fun ds e1 W1 H1 vs ⟨i, hd, px⟩ l S1 r => ?_⟩
  · show te e fun d e1 => ∃ i, [d] = [D.int i] ∧ P (.exc (He.ga X.K c) (some i)) e1
    have eq : (fun d e1 => ∃ i, [d] = [D.int i] ∧ P (.exc (He.ga X.K c) (some i)) e1) = fun d e1 => ∃ i, d = D.int i ∧ P (.exc (He.ga X.K c) (some i)) e1 := by
      funext d e1
      simp only [List.cons.injEq, and_true]
    rw [eq]
    exact t
  subst hd
  obtain ⟨v, rfl, r1⟩ : ∃ v, vs = [v] ∧ R X.K W1 v (.int i) := by
    cases r with
    | cons r1 r2 => cases r2; exact ⟨_, rfl, r1⟩
  cases r1
  refine ⟨by simp, fun a ha => ⟨a, i, rfl, upd_same, fun dx hdx hne => ⟨rfl, dx, xnF i, upd_same, ?_, ?_, ?_⟩⟩⟩
  · rw [upd_ne hne, upd_same]
  · rw [upd_ne hne] at hdx
    exact hdx
  · rw [upd_ne hne] at hdx
    obtain ⟨ok2, l2⟩ := S1.ok.newF (o := .xd (xnF i)) hdx
    have ha2 : upd H1 dx (.xd (xnF i)) a = none := by rw [upd_ne (Ne.symm hne)]; exact ha
    obtain ⟨ok3, l3⟩ := ok2.newF (o := exV a (He.ga X.K c) (some dx)) ha2
    have eh : upd (upd (upd (upd (upd H1 a (exo a (He.ga X.K c) none)) dx (exd dx (xnF i))) a (exo a (He.ga X.K c) (some dx))) dx (.xd (xnF i))) a (exV a (He.ga X.K c) (some dx)) = upd (upd H1 dx (.xd (xnF i))) a (exV a (He.ga X.K c) (some dx)) := by
      funext b
      by_cases h2 : b = a
      · subst h2
        rw [upd_same, upd_same]
      · rw [upd_ne h2, upd_ne h2]
        by_cases h1 : b = dx
        · subst h1
          rw [upd_same, upd_same]
        · rw [upd_ne h1, upd_ne h1, upd_ne h2, upd_ne h1, upd_ne h2]
    rw [eh]
    exact k _ _ _ _ _ px ((l.tr l2).tr l3) ⟨ok3, S1.sl.mono (l2.tr l3)⟩ (.exc upd_same ⟨dx, rfl, l3.1 _ _ upd_same⟩)
def eXfV (C : Addr) (te : DE) : DE := fun e P => te e fun d e1 => ∃ i, d = .exc C (some i) ∧ P (.int i) e1
theorem de_xfV {X : Cx} {B : Bs} {C : Addr} {ex : Expr} {te : DE} {pos : Pos} (T : XfC X.K C) (hn : PySem.W.findIn X.K (.ref C) "index" = some none) (he : PE X ex (lE X.K B te)) (hb : attributeBase ex "index" X.env (eval ex X.env) = eval ex X.env := by rfl) :
    PE X (.Attribute ex "index" pos) (lE X.K B (eXfV C te)) :=
  PE.imp (pe_xfV he hb) fun σ H Q ⟨W, e, P, bl, S, t, k⟩ => ⟨W, e, _, bl, S, t, fun dd e1 W1 H1 v ⟨i, hd, p⟩ l S1 r => by
    subst hd
    cases r with
    | exc hF hp =>
      obtain ⟨d2, rfl, e2⟩ := hp
      exact ⟨_, C, d2, xnF i, .int i, rfl, T, hn, S1.ok.ex _ _ hF, S1.ok.ex _ _ e2, rfl, k _ _ _ _ _ p l S1 (.int i)⟩⟩
theorem v_excV {C : Addr} {te : DE} {e : En} {P : D → En → Prop} (h : te e fun _ e1 => P (.exc C none) e1) : eExcV C te e P := h
theorem v_excI {C : Addr} {te : DE} {e : En} {P : D → En → Prop} (h : te e fun d e1 => ∃ i, d = .int i ∧ P (.exc C (some i)) e1) : eExcI C te e P := h
theorem v_xfV {C : Addr} {te : DE} {e : En} {P : D → En → Prop} (h : te e fun d e1 => ∃ i, d = .exc C (some i) ∧ P (.int i) e1) : eXfV C te e P := h
end DL
/-! strings: s.partition(t), s.upper() -/
namespace DL
open PySem PySem.Spec PyProof.Rows L2
open Evl (Ex)
def ePart (to te : DE) : DE := fun e P => to e fun d e1 => ∃ a : Str, d = .str a ∧ te e1 fun x e2 => ∃ b : Str, x = .str b ∧ (b.length == 0) = false ∧ a.length ≤ 99998 ∧ P (.tup [.str (Txt.partition a b).1, .str (Txt.partition a b).2.1, .str (Txt.partition a b).2.2]) e2
def eUpper (to : DE) : DE := fun e P => to e fun d e1 => ∃ a : Str, d = .str a ∧ a.length ≤ 99998 ∧ P (.str (Txt.upper a)) e1
section
variable {X : Cx} {B : Bs} {o ex : Expr} {to te : DE} {pos apos : Pos}
theorem de_part (ho : PE X o (lE X.K B to)) (he : PE X ex (lE X.K B te)) (hs : starEach [ex] X.env = [(false, eval ex X.env)] := by rfl) (hbase : attributeBase o "partition" X.env (eval o X.env) = eval o X.env := by rfl) (hline : (apos.endLine == pos.line) = true := by rfl) :
    PE X (.Call (.Attribute o "partition" apos) [ex] [] pos) (lE X.K B (ePart to te)) := by
  refine PE.imp (pe_partition ho he hs hbase hline) fun σ H Q ⟨W, e, P, bl, S, t, k⟩ => ⟨W, e, _, bl, S, t, fun d e1 W1 H1 v ⟨a, hd, t2⟩ l1 S1 r1 => ?_⟩
  subst hd
  cases r1
  refine ⟨⟨a, rfl⟩, W1, e1, _, B.up bl l1, S1, t2, fun x e2 W2 H2 u ⟨b, hx, hb, hz, p⟩ l2 S2 r2 => ?_⟩
  subst hx
  cases r2
  exact ⟨a, b, rfl, rfl, hb, Nat.le_trans hz (by decide), newT_ok S2 (.cons (.str _) (.cons (.str _) (.cons (.str _) .nil))) p fun d e' W' H' v p' l' S' r' => k _ _ _ _ _ p' ((l1.tr l2).tr l') S' r'⟩
theorem de_upper (ho : PE X o (lE X.K B to)) (hbase : attributeBase o "upper" X.env (eval o X.env) = eval o X.env := by rfl) (hline : (apos.endLine == pos.line) = true := by rfl) :
    PE X (.Call (.Attribute o "upper" apos) [] [] pos) (lE X.K B (eUpper to)) := by
  refine PE.imp (pe_upper ho hbase hline) fun σ H Q ⟨W, e, P, bl, S, t, k⟩ => ⟨W, e, _, bl, S, t, fun d e1 W1 H1 v ⟨a, hd, hz, p⟩ l1 S1 r1 => ?_⟩
  subst hd
  cases r1
  exact ⟨⟨a, rfl⟩, a, rfl, rfl, Nat.le_trans hz (by decide), k _ _ _ _ _ p l1 S1 (.str _)⟩
theorem de_callG0 {k : Nat} {fn : Addr} {ps : List Str} {sp : Spc} {x : Str} {p : Pos} (G : Good X.prog X.w X.K X.mg X.base k fn ps sp) (hr : Room k X.A) (hm : X.mg x = some (.ref fn)) (hg : Gl X x := by rfl) (hdb : (x == ("__debug__" : Str)) = false := by decide) :
    PE X (.Call (.Name x p) [] [] pos) (lE X.K B (eCall sp aNil)) := by
  obtain ⟨fd, F, b, kp⟩ := G
  refine PE.imp (pe_call0 F hr hg hm kp b .nil pass0 hdb) fun σ H Q ⟨W, e, P, bl, S, t, kk⟩ => ?_
  exact ⟨W, e.cs, [], _, S.ok, .nil, t, fun d cs' W2 H2 v p l ok r => kk _ _ _ _ _ p l ⟨ok, S.sl.mono l⟩ r⟩
end
end DL
/-! abs of an int; d.get(k); d[k] of a dict with int keys; four names at once -/
namespace DL
open PySem PySem.Spec PyProof.Rows L2
open Evl (Ex)
def qAbs : List D → DE
  | [.int i] => fun e P => P (.int (if i < 0 then -i else i)) e
  | _ => fun _ _ => False
theorem cd_abs {K : PySem.W.Frag} : CallD K (fun xs H Q => ∃ i, xs = [.int i] ∧ Q (.int (if i < 0 then -i else i)) H) qAbs := by
  intro W H σ e vs ds P Q S r t k
  unfold qAbs at t
  split at t
  · obtain ⟨v, rfl, r1⟩ := r.one
    cases r1
    exact ⟨_, rfl, k _ _ _ _ _ t W.le_refl S (.int _)⟩
  · exact t.elim
theorem bt_abs : bootBuiltins "abs" = some (.builtin "abs") := by rfl
theorem v_abs {i : Int} {e : En} {P : D → En → Prop} (p : P (.int (if i < 0 then -i else i)) e) : qAbs [.int i] e P := p
/-! powers of wide bases -/
def CPowW (i j : Int) : Prop := 0 ≤ j ∧ ((i.natAbs.log2 + 1 : Nat) : Int) * j ≤ 2 ^ 27
theorem op_powW {X : Cx} : OpR X (binaryOp .Pow) (rI CPowW fun i j => .int (i ^ j.toNat)) := opI fun _ _ _ _ _ _ _ hc q => pow_int hc.1 (by
  refine Int.le_trans (Int.mul_le_mul_of_nonneg_right ?_ hc.1) hc.2
  unfold Builtin.Int.intBits
  split <;> omega) q
def qPowW : D → D → DE
  | .int i, .int j => fun e P => CPowW i j ∧ P (.int (i ^ j.toNat)) e
  | _, _ => fun _ _ => False
theorem od_powW {K : PySem.W.Frag} : OpD K (rI CPowW fun i j => .int (i ^ j.toNat)) qPowW := od_I (f := fun i j => .int (i ^ j.toNat)) (fun x y e P h => by
  cases x <;> cases y <;> first | exact h.elim | exact ⟨_, _, rfl, rfl, h⟩) fun _ _ _ => .int _
theorem cpowW {i j : Int} (h0 : 0 ≤ i) (h1 : i < 2 ^ 1000) (h2 : 0 ≤ j) (h3 : j ≤ 100) : CPowW i j := by
  refine ⟨h2, ?_⟩
  have hl : i.natAbs.log2 < 1000 := by
    by_cases e : i.natAbs = 0
    · rw [e]; decide
    · rw [Nat.log2_lt e]
      have : (i.natAbs : Int) < 2 ^ 1000 := by omega
      exact_mod_cast this
  have h4 : ((i.natAbs.log2 + 1 : Nat) : Int) * j ≤ 1000 * 100 := Int.mul_le_mul (by omega) h3 h2 (by decide)
  omega
theorem v_powW {a b : Int} {e : En} {P : D → En → Prop} (h0 : 0 ≤ a) (h1 : a < 2 ^ 1000) (h2 : 0 ≤ b) (h3 : b ≤ 100) (p : P (.int (a ^ b.toNat)) e) : qPowW (.int a) (.int b) e P := ⟨cpowW h0 h1 h2 h3, p⟩
/-! d.get(k), d[k] -/
def eDget1 (td ti : DE) : DE := fun e P => td e fun d e1 => (∃ n kxs, d = .cell n ∧ e1.cs[n]? = some (.dic kxs)) ∧ ti e1 fun i e2 => ∃ n kxs k, d = .cell n ∧ i = .int k ∧ e2.cs[n]? = some (.dic kxs) ∧ P ((getI kxs k).getD .non) e2
theorem de_dget1 {X : Cx} {B : Bs} {o i : Expr} {td ti : DE} {apos cpos : Pos} (hu : X.A.units + 1 < cLine) (ho : PE X o (lE X.K B td)) (hi : PE X i (lE X.K B ti)) (m : M1 X o "get" apos i cpos) :
    PE X (.Call (.Attribute o "get" apos) [i] [] cpos) (lE X.K B (eDget1 td ti)) :=
  PE.imp (pe_dget1 hu ho hi m) fun σ H Q ⟨W, e, P, bl, S, t, k⟩ => ⟨W, e, _, bl, S, t, fun d e1 W1 H1 v1 ⟨⟨n, kxs, hd, hc⟩, t1⟩ l1 S1 r1 => by
    subst hd
    cases r1 with
    | @cell _ a hm =>
      obtain ⟨ps, h1, h2⟩ := S1.ok.cellD hm hc
      refine ⟨a, rfl, .inl ⟨ps, .inl h1⟩, W1, e1, _, B.up bl l1, S1, t1, fun j e2 W2 H2 v2 ⟨n', kxs', kk, hn, hj, hc', p⟩ l2 S2 r2 => ?_⟩
      subst hj
      cases hn
      cases r2
      obtain ⟨ps', h3, h4⟩ := S2.ok.cellD (Wd.get_more l2.2.1 hm) hc'
      refine ⟨_, DGet.k (k := .inl kk) h3, ?_⟩
      have l := l1.tr l2
      rcases h4.get kk with ⟨g1, g2⟩ | ⟨dd, vv, g1, g2, g3⟩
      · rw [g2]
        rw [g1] at p
        exact k _ _ _ _ _ p l S2 .non
      · rw [g2]
        rw [g1] at p
        exact k _ _ _ _ _ p l S2 g3⟩
theorem v_dget1 {td ti : DE} {e : En} {P : D → En → Prop} (h : td e fun d e1 => (∃ n kxs, d = .cell n ∧ e1.cs[n]? = some (.dic kxs)) ∧ ti e1 fun i e2 => ∃ n kxs k, d = .cell n ∧ i = .int k ∧ e2.cs[n]? = some (.dic kxs) ∧ P ((getI kxs k).getD .non) e2) : eDget1 td ti e P := h
def eDsub (td ti : DE) : DE := fun e P => td e fun d e1 => ti e1 fun i e2 => ∃ n kxs k y, d = .cell n ∧ i = .int k ∧ e2.cs[n]? = some (.dic kxs) ∧ getI kxs k = some y ∧ P y e2
theorem de_dsub {X : Cx} {B : Bs} {o i : Expr} {td ti : DE} {pos : Pos} (hu : X.A.units + 1 < cLine) (ho : PE X o (lE X.K B td)) (hi : PE X i (lE X.K B ti)) (hs : L2.NoSl i) : PE X (.Subscript o i pos) (lE X.K B (eDsub td ti)) :=
  PE.imp (pe_dget hu ho hi hs) fun σ H Q ⟨W, e, P, bl, S, t, k⟩ => ⟨W, e, _, bl, S, t, fun d e1 W1 H1 v1 t1 l1 S1 r1 => ⟨W1, e1, _, B.up bl l1, S1, t1, fun j e2 W2 H2 v2 ⟨n, kxs, kk, y, hn, hj, hc, hg, p⟩ l2 S2 r2 => by
    subst hn hj
    cases r2
    have r1' := R.mono l2 _ _ r1
    cases r1' with
    | @cell _ a hm =>
      obtain ⟨ps, h3, h4⟩ := S2.ok.cellD hm hc
      rcases h4.get kk with ⟨g1, g2⟩ | ⟨dd, vv, g1, g2, g3⟩
      · rw [g1] at hg; cases hg
      · rw [g1] at hg
        cases hg
        exact ⟨a, vv, rfl, by have := DGet.k (k := .inl kk) h3; rw [g2] at this; exact this, k _ _ _ _ _ p (l1.tr l2) S2 g3⟩⟩⟩
theorem v_dsub {td ti : DE} {e : En} {P : D → En → Prop} (h : td e fun d e1 => ti e1 fun i e2 => ∃ n kxs k y, d = .cell n ∧ i = .int k ∧ e2.cs[n]? = some (.dic kxs) ∧ getI kxs k = some y ∧ P y e2) : eDsub td ti e P := h
/-! x != y of an own class that has == alone -/
structure SmNe (K : PySem.W.Frag) (C : Addr) : Prop where
  ne : PySem.W.findIn K (.ref C) "__ne__" = some (some (.builtin "object.__ne__"))
  top : PySem.W.mroIn K C (.type "object") = some true
theorem nedf_ok {K : PySem.W.Frag} {c : Str} (h : (Fx.nedf c).ok K = true) : SmNe K (He.ga K c) := by
  obtain ⟨h1, h2⟩ := He.ba h
  exact ⟨He.eqO_ok h1, of_decide_eq_true h2⟩
theorem ne_K {prog : Program} {w : World} {A : Around} {E : Value → Shared → Prop} {s : Shared} {K : PySem.W.Frag} {x C L f : Addr} {h₀ : Heap} {m : Str → Option Value} {ox : Obj} {od : Option Obj} {b tb : Value} {Q : Value → Shared → Prop}
    (hu : A.units + 1 < cLine) (F : Fr h₀ L s.heap m) (X₀ : K.In h₀) (I : PySem.W.InstAt s.heap x ox C od) (hb : PySem.W.Looks (model prog w) s.heap (typeOf b) tb) (hn : PySem.W.notFirst K C tb = true)
    (N : SmNe K C) (S : Sm K C "__eq__" f)
    (h : wpAny (model prog w) A.in1 (call (.ref f) [.ref x, b]) (fun v s' => ∃ k, v = .bool k ∧ Q (.bool (!k)) s') E s) : wpAny (model prog w) A (richCompare .NotEq (.ref x) b) Q E s := by
  have X := X₀.keeps F.keep
  have entry : wpAny (model prog w) A.in1 (Builtin.«object.__ne__» ⟨[.ref x, b], []⟩) (fun fin s' => ∃ k, fin = .done (.ret (.bool k)) ∧ Q (.bool k) s') E s := by
    unfold Builtin.«object.__ne__»
    repeat (first | with_reducible refine wpAny_cRoomFor hu ?_ | (with_reducible refine PySem.W.ifBound_K X I S.at_ S.fn (wpAny_mono h (fun v s' hv => ?_) fun _ _ e => e); rcases hv with ⟨kk, rfl, qq⟩) | wp_step)
    all_goals (repeat (first | with_reducible refine wpAny_truthy_bool ?_ | wp_step))
    exact ⟨_, rfl, qq⟩
  have cl : wpAny (model prog w) A (call (.builtin "object.__ne__") [.ref x, b]) (fun v s' => ∃ k, v = .bool k ∧ Q (.bool k) s') E s := by
    refine wpAny_call (codeAny_call_builtin PySem.F.cmp_object.ne.plain PySem.F.cmpEntry_ne (PySem.W.check_slot PySem.F.cmpKind_ne PySem.F.cmpSplit_ne (I.type.andThen (PySem.W.looks_mroIn X N.top)) (PySem.F.cmpArgs_ne _ _) (wpAny_mono entry (fun v s' hv => ?_) fun _ _ e => e)))
    obtain ⟨k, rfl, q⟩ := hv
    exact ⟨k, rfl, q⟩
  have bound : ∀ R : Option Value → Shared → Prop, (∀ k s', Q (.bool k) s' → R (some (.bool k)) s') → wpAny (model prog w) A (callSpecialIfBound? (.ref x) "__ne__" [b]) R E s := by
    intro R hR
    simp only [callSpecialIfBound?, bindSpecialIfBound?]
    refine wpAny_holding (wpAny_bind (wpAny_bind (wpAny_bind (I.type.here ((PySem.W.looks_findIn X N.ne).here ?_)))))
    refine wpAny_bind (wpAny_askSetting (wpAny_ite ?_))
    have fin : wpAny (model prog w) A (call (.builtin "object.__ne__") ([.ref x] ++ [b]) >>= fun v => pure (some v)) R E s :=
      wpAny_bind (wpAny_mono cl (fun v s' hv => by obtain ⟨k, rfl, q⟩ := hv; exact wpAny_pure (hR _ _ q)) fun _ _ h' => h')
    have bd : PySem.W.Looks (model prog w) s.heap (bindSpecial (.builtin "object.__ne__") (.ref x)) (.builtin "object.__ne__", [.ref x]) := PySem.W.Looks.of_pure (PySem.F.cmp_object.ne.bind _)
    split
    · exact wpAny_bind (bd.here (wpAny_pure (by exact fin)))
    · exact wpAny_tryCatch (wpAny_bind (bd.here (wpAny_pure (by exact fin))))
  have one : wpAny (model prog w) A (tryCompare (.ref x) (cmpInfo .NotEq).2.1 b) (fun r s' => ∃ v, r = some v ∧ Q v s') E s := by
    unfold tryCompare
    exact wpAny_bind (bound _ fun k s' q => wpAny_pure ⟨_, rfl, q⟩)
  unfold richCompare
  simp only [oneThing_ref]
  refine wpAny_holding (wpAny_bind (wpAny_cRoomFor (Nat.lt_of_succ_lt hu) ?_))
  refine wpAny_bind (I.type.here (wpAny_bind (hb.here ?_)))
  split
  · rename_i q
    have e : PySem.W.subIn K tb (.ref C) = some false := by
      rcases Bool.or_eq_true_iff.mp hn with e | e
      · rw [beq_iff_eq.mp e] at q; simp at q
      · exact beq_iff_eq.mp e
    refine wpAny_bind ((PySem.W.looks_subIn X e).here ?_)
    simp only [Bool.false_eq_true, if_false]
    refine wpAny_bind (wpAny_mono one (fun r s' z => ?_) fun _ _ e => e)
    obtain ⟨v, rfl, hq⟩ := z
    exact wpAny_pure hq
  · refine wpAny_bind (wpAny_pure ?_)
    simp only [Bool.false_eq_true, if_false]
    refine wpAny_bind (wpAny_mono one (fun r s' z => ?_) fun _ _ e => e)
    obtain ⟨v, rfl, hq⟩ := z
    exact wpAny_pure hq
def rNeO (K : PySem.W.Frag) (C : Addr) (sp : Spc) : R2 := fun x y H Q => ∃ a dx gs b dy gt, x = .ref a ∧ H a = some (.ins C dx gs) ∧ y = .ref b ∧ H b = some (.ins C dy gt) ∧ spD K sp [.ref a, .ref b] H (fun v H' => ∃ k, v = .bl k ∧ Q (.bl (!k)) H') E0
def qNeO (C : Addr) (sp : Spc) : D → D → DE := fun d y e P => (∃ ns xs, insD e.cs d = some (C, ns, xs)) ∧ (∃ ns xs, insD e.cs y = some (C, ns, xs)) ∧ sp [d, y] e.cs fun r cs' => ∃ k, r = .bl k ∧ P (.bl (!k)) { e with cs := cs' }
theorem op_neO {X : Cx} {C fn : Addr} {k : Nat} {ps : List Str} {sp : Spc} (G : Good X.prog X.w X.K X.mg X.base k fn ps sp) (hr : Room (k + 1) X.A) (hu : X.A.units + 1 < cLine) (sm : Sm X.K C "__eq__" fn) (N : SmNe X.K C) : OpR X (compareOp .NotEq) (rNeO X.K C sp) := by
  rintro pins s σ H x y v u Q I rx ry ⟨a, dx, gs, b, dy, gt, rfl, ha, rfl, hb, h⟩
  obtain ⟨fd, F, bi, kp⟩ := G
  cases (show v = Value.ref a from rx)
  cases (show u = Value.ref b from ry)
  obtain ⟨od, J⟩ := Inv.inst I ha
  obtain ⟨od2, J2⟩ := Inv.inst I hb
  obtain ⟨m, hF⟩ := I.fr
  show wpAny _ _ (richCompare .NotEq (.ref a) (.ref b)) _ _ _
  refine ne_K hu hF I.ok.mod.kin J J2.type (by unfold PySem.W.notFirst; simp) N sm (wpAny_mono (run_in (us := [.ref a, .ref b]) (vs := [V.ref a, V.ref b]) F bi hr.in1 I.env0.in1 I (.cons rfl (.cons rfl .nil)) h) (fun v s' z => ?_) fun _ _ z => z)
  obtain ⟨v', H', I', rv, k, rfl, q⟩ := z
  cases rv
  exact ⟨k, rfl, .bl (!k), H', I', rfl, q⟩
theorem od_neO {K : PySem.W.Frag} {C : Addr} {sp : Spc} : OpD K (rNeO K C sp) (qNeO C sp) := by
  rintro W H σ e x y d1 d2 P Q S r1 r2 ⟨⟨ns, xs, h1⟩, ⟨ns2, xs2, h2⟩, t⟩ k
  obtain ⟨a, dx, gs, rfl, h3, _, _⟩ := S.ok.ins r1 h1
  obtain ⟨b, dy, gt, rfl, h4, _, _⟩ := S.ok.ins r2 h2
  refine ⟨a, dx, gs, b, dy, gt, rfl, h3, rfl, h4, W, e.cs, [d1, d2], _, S.ok, .cons r1 (.cons r2 .nil), t, fun d cs' W' H' v ⟨kk, ed, p⟩ l ok r => ?_⟩
  subst ed
  cases r
  exact ⟨kk, rfl, k _ _ _ _ _ p l ⟨ok, S.sl.mono l⟩ (.bl _)⟩
/-! ### list(range(n)) -/
def eListRg (o : Bool) (ta : DE) : DE := fun e P => ta e fun d e1 => ∃ n : Int, d = .int n ∧ 0 ≤ n ∧ n ≤ 16777216 ∧ newL o (intsD 0 n.toNat) e1 P
theorem rall_ints {K : PySem.W.Frag} {W : Wd} : ∀ l : List Nat, RAll K W (l.map fun (i : Nat) => V.int (0 + (i : Int))) (l.map fun (i : Nat) => D.int (0 + (i : Int)))
  | [] => .nil
  | _ :: l => .cons (.int _) (rall_ints l)
theorem de_listRg {o : Bool} {X : Cx} {B : Bs} {ta : DE} {a : Expr} {p p2 pos pos2 : Pos} (hc : X.calm = true) (hg : Gl X "list") (hm : X.mg "list" = none) (hgr : Gl X "range") (hmr : X.mg "range" = none) (ha : PE X a (lE X.K B ta))
    (na : starEach [a] X.env = (false, eval a X.env) :: starEach [] X.env := by rfl) (nb : starEach [.Call (.Name "range" p2) [a] [] pos2] X.env = (false, eval (.Call (.Name "range" p2) [a] [] pos2) X.env) :: starEach [] X.env := by rfl) :
    PE X (.Call (.Name "list" p) [.Call (.Name "range" p2) [a] [] pos2] [] pos) (lE X.K B (eListRg o ta)) :=
  PE.imp (pe_listRg hc hg hm (prg_1 hgr hmr ha na) nb) fun σ H Q ⟨W, e, P, bl, S, t, k⟩ => ⟨W, e, _, bl, S, t, fun d e1 W1 H1 v ⟨n, ed, h0, h1, p⟩ l1 S1 r1 => by
    subst ed
    cases r1
    refine ⟨n, rfl, RgOk.of_le (by decide) h1 (by decide) h0, ?_⟩
    refine newL_ok S1 ?_ p fun d e2 W2 H2 v p l2 S2 r2 => k d e2 W2 H2 v p (l1.tr l2) S2 r2
    unfold rgV intsD
    rw [Int.sub_zero]
    exact rall_ints _⟩
theorem v_listRg {o : Bool} {ta : DE} {e : En} {P : D → En → Prop} (h : ta e fun d e1 => ∃ n : Int, d = .int n ∧ 0 ≤ n ∧ n ≤ 16777216 ∧ newL o (intsD 0 n.toNat) e1 P) : eListRg o ta e P := h
end DL
/-! order of nested data -/
namespace DL
open PySem PySem.Spec PyProof.Rows L2
def rOrd (lt : Bool) (neg : Bool) (K : PySem.W.Frag) : R2 := fun x y H Q => ∃ d e, Dp K H x d ∧ Dp K H y e ∧ PySem.W.alike d e = true ∧ d ≠ .none ∧ min d.depth e.depth ≤ 64 ∧ Q (.bl (xor neg (if lt = true then PySem.W.dataLt d e else PySem.W.dataLt e d))) H
section
variable {X : Cx} (hu : X.A.units + 64 < cLine)
include hu
theorem op_ltN : OpR X (compareOp .Lt) (rOrd true false X.K) := by
  intro pins s σ H x y v u Q I rx ry ⟨d, e, hd, he, ha, hn, hm, q⟩
  obtain ⟨as, r1⟩ := Dp.reads I d x v hd rx
  obtain ⟨bs, r2⟩ := Dp.reads I e y u he ry
  rw [Bool.false_xor, if_pos rfl] at q
  exact PySem.W.lt_data r1 r2 ha hn (by omega) ⟨.bl _, H, I, rfl, q⟩
theorem op_gtN : OpR X (compareOp .Gt) (rOrd false false X.K) := by
  intro pins s σ H x y v u Q I rx ry ⟨d, e, hd, he, ha, hn, hm, q⟩
  obtain ⟨as, r1⟩ := Dp.reads I d x v hd rx
  obtain ⟨bs, r2⟩ := Dp.reads I e y u he ry
  rw [Bool.false_xor, if_neg (by decide)] at q
  exact PySem.W.gt_data r1 r2 ha hn (by omega) ⟨.bl _, H, I, rfl, q⟩
theorem op_leN : OpR X (compareOp .LtE) (rOrd false true X.K) := by
  intro pins s σ H x y v u Q I rx ry ⟨d, e, hd, he, ha, hn, hm, q⟩
  obtain ⟨as, r1⟩ := Dp.reads I d x v hd rx
  obtain ⟨bs, r2⟩ := Dp.reads I e y u he ry
  rw [Bool.true_xor, if_neg (by decide)] at q
  exact PySem.W.le_data r1 r2 ha hn (by omega) ⟨.bl _, H, I, rfl, q⟩
theorem op_geN : OpR X (compareOp .GtE) (rOrd true true X.K) := by
  intro pins s σ H x y v u Q I rx ry ⟨d, e, hd, he, ha, hn, hm, q⟩
  obtain ⟨as, r1⟩ := Dp.reads I d x v hd rx
  obtain ⟨bs, r2⟩ := Dp.reads I e y u he ry
  rw [Bool.true_xor, if_pos rfl] at q
  exact PySem.W.ge_data r1 r2 ha hn (by omega) ⟨.bl _, H, I, rfl, q⟩
end
/-- the answer of an order of data -/
def ordD (lt neg : Bool) (x y : D) : Bool := xor neg (if lt = true then PySem.W.dataLt (toP x) (toP y) else PySem.W.dataLt (toP y) (toP x))
def qOrd (lt neg : Bool) : D → D → DE := fun x y e P => shp (drf e.cs x) = true ∧ shp (drf e.cs y) = true ∧ PySem.W.alike (toP (drf e.cs x)) (toP (drf e.cs y)) = true ∧ toP (drf e.cs x) ≠ .none ∧ min (toP (drf e.cs x)).depth (toP (drf e.cs y)).depth ≤ 64 ∧ P (.bl (ordD lt neg (drf e.cs x) (drf e.cs y))) e
theorem od_ord {lt neg : Bool} {K : PySem.W.Frag} : OpD K (rOrd lt neg K) (qOrd lt neg) := by
  intro W H σ e x y d1 d2 P Q S r1 r2 ⟨h1, h2, ha, hn, hm, t⟩ k
  obtain ⟨o1, s1⟩ := shp_and h1
  obtain ⟨o2, s2⟩ := shp_and h2
  exact ⟨_, _, S.ok.dp r1 o1, S.ok.dp r2 o2, ha, hn, hm, k _ _ _ _ _ t W.le_refl S (.bl _)⟩
end DL
namespace DL
open PySem PySem.Spec PyProof.Rows L2
/-! ### tuples with changing lists in them -/
def drf2 (cs : List Cel) : D → D
  | .tup xs => .tup (xs.map (drf cs))
  | d => drf cs d
theorem dp_all {K : PySem.W.Frag} {W : Wd} {H : Hp} {cs : List Cel} (h : Ok K W H cs) : ∀ {xs : List D} {vs : List V}, RAll K W vs xs → okDs (xs.map (drf cs)) = true → DpAll K H vs (toPs (xs.map (drf cs)))
  | [], _, r, _ => by cases r; exact .nil
  | x :: xs, _, r, o => by
    cases r with
    | cons r1 r2 =>
      have o' : (okD (drf cs x) && okDs (xs.map (drf cs))) = true := o
      rw [Bool.and_eq_true] at o'
      exact .cons (h.dp r1 o'.1) (dp_all h r2 o'.2)
theorem Ok.dp2 {K : PySem.W.Frag} {W : Wd} {H : Hp} {cs : List Cel} (h : Ok K W H cs) {d : D} {v : V} (r : R K W v d) (o : okD (drf2 cs d) = true) : Dp K H v (toP (drf2 cs d)) := by
  cases d with
  | tup xs =>
    cases r with
    | tup hs ha => exact .tup (Evl.ex_t h.ex hs) (dp_all h ha o)
  | _ => exact h.dp r o
def qOrd2 (lt neg : Bool) : D → D → DE := fun x y e P => shp (drf2 e.cs x) = true ∧ shp (drf2 e.cs y) = true ∧ PySem.W.alike (toP (drf2 e.cs x)) (toP (drf2 e.cs y)) = true ∧ toP (drf2 e.cs x) ≠ .none ∧ min (toP (drf2 e.cs x)).depth (toP (drf2 e.cs y)).depth ≤ 64 ∧ P (.bl (ordD lt neg (drf2 e.cs x) (drf2 e.cs y))) e
theorem od_ord2 {lt neg : Bool} {K : PySem.W.Frag} : OpD K (rOrd lt neg K) (qOrd2 lt neg) := by
  intro W H σ e x y d1 d2 P Q S r1 r2 ⟨h1, h2, ha, hn, hm, t⟩ k
  obtain ⟨o1, s1⟩ := shp_and h1
  obtain ⟨o2, s2⟩ := shp_and h2
  exact ⟨_, _, S.ok.dp2 r1 o1, S.ok.dp2 r2 o2, ha, hn, hm, k _ _ _ _ _ t W.le_refl S (.bl _)⟩
def qEq2 : D → D → DE := fun x y e P => shp (drf2 e.cs x) = true ∧ shp (drf2 e.cs y) = true ∧ P (.bl (PyData.eqv (toP (drf2 e.cs x)) (toP (drf2 e.cs y)))) e
theorem od_eq2 {K : PySem.W.Frag} : OpD K (rEqD K) qEq2 := by
  intro W H σ e x y d1 d2 P Q S r1 r2 ⟨h1, h2, t⟩ k
  obtain ⟨o1, s1⟩ := shp_and h1
  obtain ⟨o2, s2⟩ := shp_and h2
  exact ⟨_, _, S.ok.dp2 r1 o1, S.ok.dp2 r2 o2, s1, s2, k _ _ _ _ _ t W.le_refl S (.bl _)⟩
end DL
namespace LW
open PySem PySem.Spec PyProof.Rows L2 DL
open Evl (Ex)
/-! ### what each def promises -/
inductive Op where
  | right | forget | again | off (d : Int) | read (j : Nat) (d : Int) | copy (j : Nat) | swap | out | twice
deriving DecidableEq
def encO : Op → D
  | .right => .tup [.str "right"]
  | .forget => .tup [.str "forget"]
  | .again => .tup [.str "again"]
  | .off d => .tup [.str "off", .int d]
  | .read j d => .tup [.str "read", .int (j : Nat), .int d]
  | .copy j => .tup [.str "copy", .int (j : Nat)]
  | .swap => .tup [.str "swap"]
  | .out => .tup [.str "out"]
  | .twice => .tup [.str "twice"]
def encSo (s : Nat × Op) : D := .tup [.int (s.1 : Nat), encO s.2]
inductive Wo where
  | forget | again | off | read | copy | swap | out | twice
deriving DecidableEq
def Wo.s : Wo → Str
  | .forget => "forget"
  | .again => "again"
  | .off => "off"
  | .read => "read"
  | .copy => "copy"
  | .swap => "swap"
  | .out => "out"
  | .twice => "twice"
/-- slips: columns and deeds -/
abbrev Sl : Type := List (Nat × Op)
def encSl (S : Sl) : D := .lst (S.map encSo)
def isIn {α : Type} [DecidableEq α] (x : α) (xs : List α) : Bool := decide (x ∈ xs)
def dg (b : Int) : Nat → Int → List Int
  | 0, _ => []
  | n + 1, v => v % b :: dg b n (v / b)
def valW (b : Int) (l : Int) : List Int → Int
  | [] => l
  | x :: xs => x + b * valW b l xs
abbrev Dd : Type := Wo × List Int
def okC (b r : Int) (c : List Int) : Bool := decide ((c.length : Int) = r) && c.all fun n => decide (0 ≤ n) && decide (n < b)
abbrev Pl : Type := List Int × Option Dd
def copies (r : Int) : List Dd := (List.range r.toNat).map fun (j : Nat) => (.copy, [0 + (j : Int)])
def offs (b : Int) : List Dd := (List.range (b - 1).toNat).map fun (i : Nat) => (.off, [1 + (i : Int)])
def reads (b j : Int) : List Dd := (List.range (b - 1).toNat).map fun (i : Nat) => (.read, [j, 1 + (i : Int)])
def readsA (b : Int) (k : Nat) : List Dd := (List.range k).flatMap fun (j : Nat) => reads b (0 + (j : Int))
def allD (b r : Int) : List Dd := [(.forget, []), (.again, [])] ++ offs b ++ readsA b r.toNat ++ copies r ++ [(.swap, []), (.out, []), (.twice, [])]
structure Gn (b r : Int) : Prop where
  b2 : 2 ≤ b
  b12 : b ≤ 12
  r1 : 1 ≤ r
  r4 : r ≤ 4
  c : b ^ r.toNat ≤ 1000
structure Gk (b r : Int) (some : List Dd) (m : Int) : Prop where
  n : Gn b r
  sub : ∀ t ∈ some, t ∈ allD b r
  nd : some.Nodup
  l1 : 1 ≤ some.length
  l8 : some.length ≤ 8
  m1 : 1 ≤ m
  m3 : m ≤ 3
def slF : Nat → List Pl → List (Nat × Dd)
  | _, [] => []
  | n, (_, none) :: p => slF (n + 1) p
  | n, (_, some t) :: p => (n, t) :: slF (n + 1) p
structure Wr where
  figs : List Int
  wt : Option Int
  k : Int
def dx (t : Dd) : Int := t.2.getD 1 0
def jx (t : Dd) : Nat := (t.2.getD 0 0).toNat
def adF (b : Int) (pv c : List Int) : Option Dd → List Int
  | none => c
  | some t => match t.1 with
    | .read => c.set (jx t) ((c.getD (jx t) 0 + dx t) % b)
    | .copy => c.set (jx t) (pv.getD (jx t) 0)
    | _ => c
def wdOf : Option Dd → Option Wo := Option.map (·.1)
def w2F (b : Int) (w : Wr) (sum : Int) (od : Option Dd) : Wr := match wdOf od with
  | some .twice => ⟨w.figs ++ [(sum + w.k) % b], w.wt, (sum + w.k) / b⟩
  | some .forget => ⟨w.figs, w.wt, 0⟩
  | some .again => ⟨w.figs, w.wt, w.k + 1⟩
  | _ => w
def ax (t : Dd) : Int := t.2.getD 0 0
def w1F (b : Int) (w : Wr) (sum : Int) (od : Option Dd) : Wr := if wdOf od = some .out then w else match w.wt with
  | some x => ⟨w.figs ++ [(sum + w.k) % b, x], none, (sum + w.k) / b⟩
  | none => match od with
    | none => ⟨w.figs ++ [(sum + w.k) % b], none, (sum + w.k) / b⟩
    | some t => match t.1 with
      | .swap => ⟨w.figs, some ((sum + w.k) % b), (sum + w.k) / b⟩
      | .off => ⟨w.figs ++ [((sum + w.k) % b + ax t) % b], none, (sum + w.k) / b⟩
      | _ => ⟨w.figs ++ [(sum + w.k) % b], none, (sum + w.k) / b⟩
def wrS (b : Int) (x : Wr × List Int) (y : Pl) : Wr × List Int := (w2F b (w1F b x.1 (adF b x.2 y.1 y.2).sum y.2) (adF b x.2 y.1 y.2).sum y.2, y.1)
def wrF (b : Int) (pl : List Pl) : Wr := (pl.foldl (wrS b) (⟨[], none, 0⟩, [])).1
def psL (b m : Int) (pl : List Pl) (col : List Int) (t : Dd) : Bool := if (wrF b pl).wt ≠ none ∨ ((slF 0 pl).length : Int) ≥ m then false else match t.1 with
  | .copy => decide (0 < pl.length)
  | .forget => decide (col.sum + (wrF b pl).k ≥ b)
  | _ => true
structure Po1 (b r : Int) (s : List Dd) (m : Int) (pl : List Pl) : Prop where
  k : Gk b r s m
  c : ∀ x ∈ pl, okC b r x.1 = true
  d : ∀ (i : Nat) (x : Pl) (t : Dd), pl[i]? = some x → x.2 = some t → t ∈ s ∧ psL b m (pl.take i) x.1 t = true
/-- all done rightly -/
def rts (n : Nat) : List Op := List.replicate n .right
def opAt (ops : List Op) (i : Nat) : Op := ops.getD i .right
def colAt (cols : List (List Int)) (i : Nat) : List Int := cols.getD i []
def takeF (b : Int) (c bf : List Int) : Op → List Int
  | .read j d => c.set j ((c.getD j 0 + d) % b)
  | .copy j => c.set j (bf.getD j 0)
  | _ => c
def tot (b : Int) (c bf : List Int) (o : Op) (k : Int) : Int := (takeF b c bf o).sum + k
def stepT (b : Int) (c bf : List Int) (o : Op) (k : Int) : List Int × Int := match o with
  | .out => ([], k)
  | .forget => ([tot b c bf o k % b], 0)
  | .again => ([tot b c bf o k % b], tot b c bf o k / b + 1)
  | .off d => ([(tot b c bf o k % b + d) % b], tot b c bf o k / b)
  | .twice => ([tot b c bf o k % b, (c.sum + tot b c bf o k / b) % b], (c.sum + tot b c bf o k / b) / b)
  | _ => ([tot b c bf o k % b], tot b c bf o k / b)
abbrev St : Type := List Int × Int × Option Int
def advo (st : St) (f : List Int × Int) (o : Op) : St := match st.2.2 with
  | some w => (st.1 ++ (f.1 ++ [w]), f.2, none)
  | none => if o = .swap then (st.1, f.2, some (f.1.headD 0)) else (st.1 ++ f.1, f.2, none)
def stFo (b : Int) (cols : List (List Int)) (ops : List Op) : Nat → St
  | 0 => ([], 0, none)
  | i + 1 => advo (stFo b cols ops i) (stepT b (colAt cols i) (colAt cols (i - 1)) (opAt ops i) (stFo b cols ops i).2.1) (opAt ops i)
def okS (b : Int) (c bf : List Int) (i n : Nat) (o : Op) (k : Int) : Prop := match o with
  | .forget => tot b c bf o k / b ≠ 0
  | .copy _ => i ≠ 0
  | .swap => i + 1 ≠ n
  | _ => True
def okO (b r : Int) : Op → Prop
  | .off d => 1 ≤ d ∧ d < b
  | .read j d => (j : Int) < r ∧ 1 ≤ d ∧ d < b
  | .copy j => (j : Int) < r
  | _ => True
structure Plan (b r : Int) (cols : List (List Int)) (ops : List Op) : Prop where
  len : ops.length = cols.length
  ok : ∀ i, i < cols.length → okO b r (opAt ops i)
  st : ∀ i, i < cols.length → okS b (colAt cols i) (colAt cols (i - 1)) i cols.length (opAt ops i) (stFo b cols ops i).2.1
  sw : ∀ i, i + 1 < cols.length → opAt ops i = .swap → opAt ops (i + 1) = .right
structure Gd (b r : Int) (cols : List (List Int)) : Prop where
  b2 : 2 ≤ b
  b12 : b ≤ 12
  r1 : 1 ≤ r
  r4 : r ≤ 4
  c : ∀ c ∈ cols, okC b r c = true
  n : cols.length ≤ 1000
def val (b : Int) : List (List Int) → Int
  | [] => 0
  | c :: cs => c.sum + b * val b cs
def slFo : Nat → List Op → List (Nat × Op)
  | _, [] => []
  | k, o :: t => (if o = .right then [] else [(k, o)]) ++ slFo (k + 1) t
def wrN : List Str := ["held_base", "held_figures", "held_last"]
def wrD (K : PySem.W.Frag) (b : Int) (fs : List Int) (l : Int) : D := .ins (He.ga K "Written") wrN [.int b, .lst (fs.map .int), .int l]
/-- what is written rightly -/
def wrR (K : PySem.W.Frag) (b : Int) (cols : List (List Int)) : D := wrD K b (dg b cols.length (val b cols)) (val b cols / b ^ cols.length)
def shN : List Str := ["held_base", "held_rows", "held_columns", "size"]
structure Gl0 (l : List Int) : Prop where
  nd : l.Nodup
  ge : ∀ x ∈ l, 2 ≤ x ∧ x ≤ 60
  len : l.length ≤ 8
def encD (t : Dd) : D := .tup (.str t.1.s :: t.2.map .int)
def oD : Option Dd → D
  | none => .non
  | some t => encD t
def oI : Option Int → D
  | none => .non
  | some i => .int i
def oT : Option (List Int) → D
  | none => .non
  | some xs => .tup (xs.map .int)
def encR (t : Int × Int × Int) : D := .tup [.int t.1, .int t.2.1, .int t.2.2]
structure Std where
  left : Int
  wt : Option Int
  bf : Option (List Int)
  k : Int
  gap : Int
  near : Option Int
  rs : List (Int × Int × Int)
def encSt (s : Std) : D := .tup [.int s.left, oI s.wt, oT s.bf, .int s.k, .int s.gap, oI s.near, .tup (s.rs.map encR)]
def cpF (r : Int) (s : List Dd) : List Nat := (List.range r.toNat).filter fun (j : Nat) => isIn ((.copy, [0 + (j : Int)]) : Dd) s
def vlF (b : Int) (last : Int) : List Int → Int
  | [] => last
  | x :: xs => vlF b last xs * b + x
def oL : Option Int → List Int
  | none => []
  | some i => [i]
def erF (b : Int) (pl : List Pl) : Int := vlF b (wrF b pl).k ((wrF b pl).figs ++ oL (wrF b pl).wt) - vlF b 0 (pl.map (·.1.sum))
def docF (b r : Int) (s : List Dd) (m : Int) (l : List Int) (pl : List Pl) : Std :=
  ⟨m - (slF 0 pl).length, (wrF b pl).wt, if pl = [] then none else some ((cpF r s).map fun j => ((pl.getLast?.map (·.1)).getD []).getD j 0), (wrF b pl).k, ((wrF b pl).figs.length : Int) - pl.length,
    if erF b pl % b ^ min pl.length (wrF b pl).figs.length = 0 then some (erF b pl / b ^ min pl.length (wrF b pl).figs.length) else none,
    l.map fun d => (erF b pl % d, b ^ pl.length % d, b ^ (wrF b pl).figs.length % d)⟩
/-- an entry of the history: the column, its deed, the standing behind it -/
def hsE (b r : Int) (es : List Dd) (m : Int) (l : List Int) (pl : List Pl) (i : Nat) : D := .tup [encC (pl.getD i ([], none)).1, oD (pl.getD i ([], none)).2, encSt (docF b r es m l (pl.take (i + 1)))]
def hsF (b r : Int) (es : List Dd) (m : Int) (l : List Int) (pl : List Pl) : List D := (List.range pl.length).map (hsE b r es m l pl)
def ldN : List Str := ["own_kind", "own_lot", "history"]
def keep (b r : Int) (some : List Dd) : List Dd := (allD b r).filter fun t => isIn t some
/-- a kind's deeds, in its order -/
structure Ge (b r : Int) (es : List Dd) (m : Int) : Prop where
  k : Gk b r es m
  ke : keep b r es = es
def kiN : List Str := ["held_base", "held_rows", "held_deeds", "held_most"]
def kiD (K : PySem.W.Frag) (b r : Int) (ds : List Dd) (m : Int) : D := .ins (He.ga K "Kind") kiN [.int b, .int r, .lst (ds.map encD), .int m]
/-- a ledger at n, its history at h: the plan so far -/
structure Ld (K : PySem.W.Frag) (cs : List Cel) (n h : Nat) (b r : Int) (es : List Dd) (m : Int) (l : List Int) (pl : List Pl) : Prop where
  at_ : cs[n]? = some (.ins (He.ga K "Ledger") ldN [kiD K b r es m, .lst (l.map .int), .cell h])
  hs : cs[h]? = some (.lst (hsF b r es m l pl))
  e : Ge b r es m
  p : Po1 b r es m pl
  n2 : pl.length ≤ 200
  l : Gl0 l
def sp_Sheet_init (K : PySem.W.Frag) : Spc := fun ds cs P => ∃ n d cols b r, ds = [.cell n, .int b, .int r, d] ∧ cs[n]? = some (.ins (He.ga K "Sheet") [] []) ∧ lk cs d = some (cols.map encC) ∧ (∀ ys, d ≠ .fro ys) ∧ Gd b r cols ∧
  (P .non (cs.set n (.ins (He.ga K "Sheet") shN [.int b, .int r, .lst (cols.map encC), .int cols.length])) ∨
    P .non (cs.set n (.ins (He.ga K "Sheet") shN [.int b, .int r, .cell cs.length, .int cols.length]) ++ [.lst (cols.map encC)]))
def shD (K : PySem.W.Frag) (b r : Int) (cols : List (List Int)) : D := .ins (He.ga K "Sheet") shN [.int b, .int r, .lst (cols.map encC), .int cols.length]
def isSh (K : PySem.W.Frag) (cs : List Cel) (d : D) (b r : Int) (cols : List (List Int)) : Prop := ∃ hc, insD cs d = some (He.ga K "Sheet", shN, [.int b, .int r, hc, .int cols.length]) ∧ lk cs hc = some (cols.map encC) ∧ ∀ ys, hc ≠ .fro ys
abbrev bgC (a b c : Int) : Cel := .lst [.int a, .int b, .int c]
/-- a bag, from which at most so many numbers were drawn -/
def Bg (c : Int) (x : Cel) : Prop := ∃ a b k : Int, x = bgC a b k ∧ 0 ≤ b ∧ b < 2 ^ 140 ∧ 0 ≤ k ∧ k ≤ c
def trsC (rs : List (List Int)) (i : Nat) : List Int := rs.map fun r => r.getD i 0
def trs (m : Nat) (rs : List (List Int)) : List (List Int) := (List.range m).map (trsC rs)
/-- a deed of a kind as a deed of the adding -/
def toO (t : Dd) : Op := match t.1 with
  | .forget => .forget
  | .again => .again
  | .off => .off (t.2.getD 0 0)
  | .read => .read (t.2.getD 0 0).toNat (t.2.getD 1 0)
  | .copy => .copy (t.2.getD 0 0).toNat
  | .swap => .swap
  | .out => .out
  | .twice => .twice
structure Gs (b r : Int) (n : Nat) (S : Sl) : Prop where
  asc : S.Pairwise fun x y => x.1 < y.1
  lt : ∀ x ∈ S, x.1 < n
  ok : ∀ x ∈ S, okO b r x.2
  ne : ∀ x ∈ S, x.2 ≠ .right
def nxC (S : Sl) : Nat := match S.getLast? with
  | none => 0
  | some x => x.1 + 1
/-- the lists with one slip more -/
def fur (n : Nat) (os : List Op) (m : Nat) (S : Sl) : List Sl := if S.length = m then [] else (List.range (n - nxC S)).flatMap fun i => os.map fun o => S ++ [(nxC S + i, o)]
/-- a list and all that begin with it -/
def pre (n : Nat) (os : List Op) (m : Nat) : Nat → Sl → List Sl
  | 0, S => [S]
  | k + 1, S => S :: (fur n os m S).flatMap (pre n os m k)
/-- all lists of one slip or more -/
def ordF (n : Nat) (os : List Op) (m : Nat) : List Sl := (fur n os m []).flatMap (pre n os m m)
/-- (column, number of the deed) -/
def numD (os : List Op) (x : Nat × Op) : D := .tup [.int (x.1 : Nat), .int (os.idxOf x.2 : Nat)]
/-- one comes ahead of the other -/
def ltN (os : List Op) (S T : Sl) : Prop := PySem.W.dataLt (toP (.lst (S.map (numD os)))) (toP (.lst (T.map (numD os)))) = true
def opIn (S : Sl) (k : Nat) : Op := ((S.find? fun x => decide (x.1 = k)).map (·.2)).getD .right
def opsN (n : Nat) (S : Sl) : List Op := (List.range n).map (opIn S)
/-- what is written with these slips, if they are possible -/
noncomputable def outF (b r : Int) (cols : List (List Int)) (S : Sl) : Option (List Int × Int) := @ite _ (Plan b r cols (opsN cols.length S)) (Classical.propDecidable _) (some ((stFo b cols (opsN cols.length S) cols.length).1, (stFo b cols (opsN cols.length S) cols.length).2.1)) none
noncomputable def allF (b r : Int) (cols : List (List Int)) (os : List Op) (m : Nat) : List (Sl × (List Int × Int)) := (ordF cols.length os m).filterMap fun S => (outF b r cols S).map fun x => (S, x)
def isI : D → Bool
  | .int _ => true
  | _ => false
def sp_is_integer (K : PySem.W.Frag) : Spc := fun ds cs P => ∃ d, ds = [d] ∧ (∃ a, tyN cs d = some a) ∧ P (.bl (isI d)) cs
abbrev LoC (cs : List Cel) : Prop := (∀ c ∈ cs, c.loD cs.length = true)
abbrev Lo (ds : List D) (cs : List Cel) : Prop := (∀ d ∈ ds, loD cs.length d = true)
def layH : List D → Bool
  | .str w :: _ => (PyData.str w).canLay0
  | _ => true
def plT : D → Bool
  | .non => true
  | .bl _ => true
  | .int _ => true
  | .str _ => true
  | .tup _ => true
  | .lst _ => true
  | .dct => true
  | _ => false
/-- a plain value, and what it holds -/
def okV : D → Bool
  | .tup xs => decide (xs.length ≤ 1000) && (xs.all plT && layH xs)
  | d => plT d
/-- a figure, asked of any plain value -/
def figB (b : Int) : D → Bool
  | .int i => decide (0 ≤ i) && decide (i < b)
  | _ => false
/-- a column, asked of any plain value -/
def sp_is_column (K : PySem.W.Frag) : Spc := fun ds cs P => ∃ (v : D) (b r : Int), ds = [v, .int b, .int r] ∧ ((∃ c : List Int, v = encC c ∧ c.length ≤ 1000 ∧ P (.bl (okC b r c)) cs) ∨
  (∃ xs, v = .tup xs ∧ xs.length ≤ 1000 ∧ (∀ x ∈ xs, okV x = true) ∧ P (.bl (decide ((xs.length : Int) = r) && xs.all (figB b))) cs) ∨ ((∃ T, tyN cs v = some T ∧ T ≠ "tuple") ∧ P (.bl false) cs))
def encP : Op → D
  | .right => .non
  | o => encO o
def sp_taken (K : PySem.W.Frag) : Spc := fun ds cs P => ∃ (b r : Int) (c bf : List Int) (o : Op) (d : D), ds = [.int b, encC c, d, encP o] ∧ 2 ≤ b ∧ b ≤ 12 ∧ (c.length : Int) = r ∧ c.length ≤ 1000 ∧ okO b r o ∧ ((∃ j, o = .copy j) → d = encC bf ∧ bf.length = c.length) ∧ P (encC (takeF b c bf o)) cs
def sp_done (K : PySem.W.Frag) : Spc := fun ds cs P => ∃ (b r k : Int) (c bf : List Int) (o : Op) (d : D), ds = [.int b, encC c, d, .int k, encP o] ∧ 2 ≤ b ∧ b ≤ 12 ∧ (c.length : Int) = r ∧ c.length ≤ 1000 ∧ okO b r o ∧
  ((((∃ j, o = .copy j) → d = encC bf ∧ bf.length = c.length) ∧ (o = .forget → tot b c bf o k / b ≠ 0) ∧ P (.tup [.lst ((stepT b c bf o k).1.map .int), .int (stepT b c bf o k).2]) cs) ∨
    ((((∃ j, o = .copy j) ∧ d = .non) ∨ (o = .forget ∧ tot b c bf o k / b = 0)) ∧ P .non cs))
def adN : List Str := ["system", "given", "at", "written", "carry", "waiting"]
def wD : Option Int → D
  | none => .non
  | some w => .int w
def adC (K : PySem.W.Frag) (b : Int) (cols : List (List Int)) (i : Nat) (st : St) : Cel := .ins (He.ga K "Adding") adN [.int b, .lst (cols.map encC), .int (i : Nat), .lst (st.1.map .int), .int st.2.1, wD st.2.2]
def sp_Adding_do (K : PySem.W.Frag) : Spc := fun ds cs P => ∃ (n : Nat) (b r : Int) (cols : List (List Int)) (i : Nat) (st : St) (o : Op), ds = [.cell n, encP o] ∧ cs[n]? = some (adC K b cols i st) ∧ Gd b r cols ∧ i < cols.length ∧ okO b r o ∧ (st.2.2 ≠ none → o = .right) ∧ st.1.length ≤ 10000 ∧
  (okS b (colAt cols i) (colAt cols (i - 1)) i cols.length o st.2.1 → P (.bl true) (cs.set n (adC K b cols (i + 1) (advo st (stepT b (colAt cols i) (colAt cols (i - 1)) o st.2.1) o)))) ∧
  (¬ okS b (colAt cols i) (colAt cols (i - 1)) i cols.length o st.2.1 → P (.bl false) cs)
def sp_Adding_do_until (K : PySem.W.Frag) : Spc := fun ds cs P => ∃ (n : Nat) (b r : Int) (cols : List (List Int)) (ops : List Op) (i j : Nat), ds = [.cell n, .int (j : Nat)] ∧ cs[n]? = some (adC K b cols i (stFo b cols ops i)) ∧ Gd b r cols ∧ Plan b r cols ops ∧ i ≤ j ∧ j ≤ cols.length ∧ (∀ k, i ≤ k → k < j → opAt ops k = .right) ∧ P .non (cs.set n (adC K b cols j (stFo b cols ops j)))
def sp_Written_init (K : PySem.W.Frag) : Spc := fun ds cs P => ∃ (n : Nat) (b : Int) (fs : List Int) (l : Int), ds = [.cell n, .int b, .lst (fs.map .int), .int l] ∧ cs[n]? = some (.ins (He.ga K "Written") [] []) ∧ P .non (cs.set n (.ins (He.ga K "Written") wrN [.int b, .lst (fs.map .int), .int l]))
def sp_Adding_result (K : PySem.W.Frag) : Spc := fun ds cs P => ∃ (n : Nat) (b r : Int) (cols : List (List Int)) (ops : List Op) (i : Nat), ds = [.cell n] ∧ cs[n]? = some (adC K b cols i (stFo b cols ops i)) ∧ Gd b r cols ∧ Plan b r cols ops ∧ i ≤ cols.length ∧ (∀ k, i ≤ k → k < cols.length → opAt ops k = .right) ∧
  P (wrD K b (stFo b cols ops cols.length).1 (stFo b cols ops cols.length).2.1) (cs.set n (adC K b cols cols.length (stFo b cols ops cols.length)))
def sp_Sheet_base (K : PySem.W.Frag) : Spc := fun ds cs P => ∃ (d : D) (b r : Int) (cols : List (List Int)), ds = [d] ∧ isSh K cs d b r cols ∧ P (.int b) cs
def sp_Sheet_columns (K : PySem.W.Frag) : Spc := fun ds cs P => ∃ (d : D) (b r : Int) (cols : List (List Int)), ds = [d] ∧ isSh K cs d b r cols ∧ fresh (cols.map encC) cs P
def sp_Adding_init (K : PySem.W.Frag) : Spc := fun ds cs P => ∃ (n : Nat) (d : D) (b r : Int) (cols : List (List Int)), ds = [.cell n, d] ∧ cs[n]? = some (.ins (He.ga K "Adding") [] []) ∧ isSh K cs d b r cols ∧ P .non (cs.set n (adC K b cols 0 ([], 0, none)))
def sp_add_right (K : PySem.W.Frag) : Spc := fun ds cs P => ∃ (d : D) (b r : Int) (cols : List (List Int)), ds = [d] ∧ isSh K cs d b r cols ∧ Gd b r cols ∧ P (wrD K b (stFo b cols (rts cols.length) cols.length).1 (stFo b cols (rts cols.length) cols.length).2.1) cs
def sp_Written_figures (K : PySem.W.Frag) : Spc := fun ds cs P => ∃ (b : Int) (fs : List Int) (l : Int), ds = [wrD K b fs l] ∧ fresh (fs.map .int) cs P
def sp_Sheet_len (K : PySem.W.Frag) : Spc := fun ds cs P => ∃ (d : D) (b r : Int) (cols : List (List Int)), ds = [d] ∧ isSh K cs d b r cols ∧ P (.int cols.length) cs
def plW (w : Str) : Bool := inF (.str w) [.str "forget", .str "again", .str "swap", .str "out", .str "twice"]
def oneN (lo hi : Int) : List D → Bool
  | [.int d] => decide (lo ≤ d) && decide (d < hi)
  | _ => false
def twoN (r b : Int) : List D → Bool
  | [.int j, .int d] => (decide (0 ≤ j) && decide (j < r)) && (decide (1 ≤ d) && decide (d < b))
  | _ => false
def isDd (b r : Int) : D → Bool
  | .tup (.str w :: rest) => rest.all isI && (if plW w = true then rest.isEmpty else if (w == "off") = true then oneN 1 b rest else if (w == "copy") = true then oneN 0 r rest else (w == "read") && twoN r b rest)
  | _ => false
def sp_is_deed (K : PySem.W.Frag) : Spc := fun ds cs P => ∃ (d : D) (b r : Int), ds = [d, .int b, .int r] ∧ okV d = true ∧ P (.bl (isDd b r d)) cs
def sp_Sheet_rows (K : PySem.W.Frag) : Spc := fun ds cs P => ∃ (d : D) (b r : Int) (cols : List (List Int)), ds = [d] ∧ isSh K cs d b r cols ∧ P (.int r) cs
def okV2 : D → Bool
  | .tup xs => decide (xs.length ≤ 1000) && xs.all okV
  | d => plT d
def isSl (b r : Int) (n : Nat) (l : Int) : D → Bool
  | .tup [.int i, d] => (decide (l ≤ i) && decide (i < (n : Int))) && isDd b r d
  | _ => false
def sp_is_slip (K : PySem.W.Frag) : Spc := fun ds cs P => ∃ (v d : D) (l b r : Int) (cols : List (List Int)), ds = [v, d, .int l] ∧ okV2 v = true ∧ isSh K cs d b r cols ∧ Gd b r cols ∧ P (.bl (isSl b r cols.length l v)) cs
def sp_Adding_free (K : PySem.W.Frag) : Spc := fun ds cs P => ∃ (n : Nat) (b : Int) (cols : List (List Int)) (i : Nat) (st : St), ds = [.cell n] ∧ cs[n]? = some (adC K b cols i st) ∧ P (.int ((if st.2.2 = none then i else i + 1 : Nat) : Int)) cs
def cutO (n : Nat) (ops : List Op) (l : Nat) : List Op := (List.range n).map fun k => if k < l then opAt ops k else .right
def BadL (b r : Int) (cols : List (List Int)) (ops : List Op) (l : Nat) (v : D) : Prop := isSl b r cols.length l v = false ∨ ∃ (i : Nat) (o : Op), v = encSo (i, o) ∧ l ≤ i ∧ i < cols.length ∧ okO b r o ∧ o ≠ .right ∧ ¬ okS b (colAt cols i) (colAt cols (i - 1)) i cols.length o (stFo b cols (cutO cols.length ops l) i).2.1
def lowN (ops : List Op) : Nat → Nat
  | 0 => 0
  | k + 1 => ((slFo 0 ops).getD k (0, .right)).1 + 1 + (if ((slFo 0 ops).getD k (0, .right)).2 = .swap then 1 else 0)
structure BadS (b r : Int) (cols : List (List Int)) (ops : List Op) (items : List D) (x : Nat) : Prop where
  le : x ≤ (slFo 0 ops).length
  e : ∃ v rest, items = ((slFo 0 ops).take x).map encSo ++ v :: rest ∧ okV2 v = true ∧ BadL b r cols ops (lowN ops x) v ∧ rest.length ≤ 2000
def sp_add_with (K : PySem.W.Frag) : SpX := fun ds cs P PX => ∃ (d d2 : D) (b r : Int) (cols : List (List Int)) (ops : List Op) (items : List D), ds = [d, d2] ∧ lk cs d2 = some items ∧ isSh K cs d b r cols ∧ Gd b r cols ∧ Plan b r cols ops ∧
  ((items = (slFo 0 ops).map encSo ∧ P (wrD K b (stFo b cols ops cols.length).1 (stFo b cols ops cols.length).2.1) cs) ∨ ∃ x, BadS b r cols ops items x ∧ PX ⟨"InvalidSlips", some ((x : Nat) : Int)⟩ cs)
def sp_Written_eq (K : PySem.W.Frag) : Spc := fun ds cs P => ∃ (b : Int) (fs : List Int) (l : Int), ds = [wrD K b fs l, wrD K b fs l] ∧ P (.bl true) cs
def sp_Written_last (K : PySem.W.Frag) : Spc := fun ds cs P => ∃ (b : Int) (fs : List Int) (l : Int), ds = [wrD K b fs l] ∧ P (.int l) cs
def sp_Written_value (K : PySem.W.Frag) : Spc := fun ds cs P => ∃ (b : Int) (fs : List Int) (l : Int), ds = [wrD K b fs l] ∧ 2 ≤ b ∧ b ≤ 12 ∧ P (.int (valW b l fs)) cs
def sp_Sheet_value (K : PySem.W.Frag) : Spc := fun ds cs P => ∃ (d : D) (b r : Int) (cols : List (List Int)), ds = [d] ∧ isSh K cs d b r cols ∧ Gd b r cols ∧ P (.int (val b cols)) cs
def sp_Written_sub (K : PySem.W.Frag) : Spc := fun ds cs P => ∃ (b : Int) (fs : List Int) (l : Int) (d : D) (r : Int) (cols : List (List Int)), ds = [wrD K b fs l, d] ∧ isSh K cs d b r cols ∧ Gd b r cols ∧ P (.int (valW b l fs - val b cols)) cs
def sp_number_of_columns (K : PySem.W.Frag) : Spc := fun ds cs P => ∃ b r : Int, ds = [.int b, .int r] ∧ 2 ≤ b ∧ b ≤ 12 ∧ 1 ≤ r ∧ r ≤ 4 ∧ P (.int (b ^ r.toNat)) cs
def sp_all_deeds (K : PySem.W.Frag) : Spc := fun ds cs P => ∃ b r : Int, ds = [.int b, .int r] ∧ 2 ≤ b ∧ b ≤ 12 ∧ 1 ≤ r ∧ r ≤ 4 ∧ P (.lst ((allD b r).map encD)) cs
def sp_Kind_init (K : PySem.W.Frag) : Spc := fun ds cs P => ∃ (n : Nat) (b r m : Int) (d : D) (some_ : List Dd), ds = [.cell n, .int b, .int r, d, .int m] ∧ lk cs d = some (some_.map encD) ∧ (∀ ys, d ≠ .fro ys) ∧ cs[n]? = some (.ins (He.ga K "Kind") [] []) ∧ Gk b r some_ m ∧
  P .non (cs.set n (.ins (He.ga K "Kind") kiN [.int b, .int r, .lst ((keep b r some_).map encD), .int m]))
def sp_check_lot (K : PySem.W.Frag) : Spc := fun ds cs P => ∃ (d : D) (l : List Int), ds = [d] ∧ lk cs d = some (l.map .int) ∧ (∀ ys, d ≠ .fro ys) ∧ Gl0 l ∧ P .non cs
def sp_Kind_base (K : PySem.W.Frag) : Spc := fun ds cs P => ∃ (b r m : Int) (es : List Dd), ds = [kiD K b r es m] ∧ P (.int b) cs
def sp_Kind_rows (K : PySem.W.Frag) : Spc := fun ds cs P => ∃ (b r m : Int) (es : List Dd), ds = [kiD K b r es m] ∧ P (.int r) cs
def sp_check_alike (K : PySem.W.Frag) : Spc := fun ds cs P => ∃ (d : D) (b r m : Int) (cols : List (List Int)) (es : List Dd), ds = [kiD K b r es m, d] ∧ isSh K cs d b r cols ∧ P .non cs
def sp_Kind_most (K : PySem.W.Frag) : Spc := fun ds cs P => ∃ (b r m : Int) (es : List Dd), ds = [kiD K b r es m] ∧ P (.int m) cs
def sp_Kind_deeds (K : PySem.W.Frag) : Spc := fun ds cs P => ∃ (b r m : Int) (es : List Dd), ds = [kiD K b r es m] ∧ es.length ≤ 8 ∧ fresh (es.map encD) cs P
def sp_further_slips (K : PySem.W.Frag) : Spc := fun ds cs P => ∃ (d : D) (b r : Int) (cols : List (List Int)) (es : List Dd) (m : Nat) (S : Sl), ds = [kiD K b r es (m : Nat), d, encSl S] ∧ isSh K cs d b r cols ∧ (∀ t ∈ es, t ∈ allD b r) ∧ es.length ≤ 8 ∧ S.length ≤ m ∧ m ≤ 3 ∧ cols.length ≤ 1000 ∧ nxC S ≤ 2000 ∧
  P (.lst ((fur cols.length (es.map toO) m S).map encSl)) cs
def outD (K : PySem.W.Frag) (b : Int) : Option (List Int × Int) → D
  | none => .non
  | some x => wrD K b x.1 x.2
def sp_outcome (K : PySem.W.Frag) : Spc := fun ds cs P => ∃ (d d2 : D) (b r : Int) (cols : List (List Int)) (S : Sl), ds = [d, d2] ∧ lk cs d2 = some (S.map encSo) ∧ isSh K cs d b r cols ∧ Gd b r cols ∧ Gs b r cols.length S ∧ P (outD K b (outF b r cols S)) cs
def encW (K : PySem.W.Frag) (b : Int) (t : Sl × (List Int × Int)) : D := .tup [encSl t.1, wrD K b t.2.1 t.2.2]
structure Gz (n : Nat) (os : List Op) (m : Nat) : Prop where
  n12 : n ≤ 12
  m1 : 1 ≤ m
  m3 : m ≤ 3
  z : (ordF n os m).length ≤ 20000
def sp_all_outcomes (K : PySem.W.Frag) : Spc := fun ds cs P => ∃ (d : D) (b r : Int) (cols : List (List Int)) (es : List Dd) (m : Nat), ds = [kiD K b r es (m : Nat), d] ∧ isSh K cs d b r cols ∧ Gd b r cols ∧ (∀ t ∈ es, t ∈ allD b r) ∧ es.length ≤ 8 ∧ Gz cols.length (es.map toO) m ∧
  P (.lst ((allF b r cols (es.map toO) m).map (encW K b))) cs
/-- a kind's deeds as deeds of the adding -/
structure Go (b r : Int) (os : List Op) : Prop where
  ok : ∀ o ∈ os, okO b r o
  ne : ∀ o ∈ os, o ≠ .right
  l8 : os.length ≤ 8
def sp_Written_rest (K : PySem.W.Frag) : Spc := fun ds cs P => ∃ (b : Int) (fs : List Int) (l r : Int), ds = [wrD K b fs l, .int r] ∧ 2 ≤ b ∧ b ≤ 12 ∧ 0 < r ∧ P (.int (valW b l fs % r)) cs
/-- the lists whose results leave these rests -/
noncomputable def shownF (b r : Int) (cols : List (List Int)) (os : List Op) (m : Nat) (l rs : List Int) : List Sl := ((allF b r cols os m).filter fun t => decide (l.map (fun d => valW b t.2.2 t.2.1 % d) = rs)).map (·.1)
def sp_slips_shown (K : PySem.W.Frag) : Spc := fun ds cs P => ∃ (d : D) (b r : Int) (cols : List (List Int)) (es : List Dd) (m : Nat) (l rs : List Int), ds = [kiD K b r es (m : Nat), d, .lst (l.map .int), .lst (rs.map .int)] ∧ isSh K cs d b r cols ∧ Gd b r cols ∧ (∀ t ∈ es, t ∈ allD b r) ∧ es.length ≤ 8 ∧ Gz cols.length (es.map toO) m ∧ Gl0 l ∧ rs.length ≤ 100 ∧
  P (.lst ((shownF b r cols (es.map toO) m l rs).map encSl)) cs
/-- a sheet that changes: its list is the cell m -/
abbrev shC (K : PySem.W.Frag) (b r : Int) (m : Nat) (z : Int) : Cel := .ins (He.ga K "Sheet") shN [.int b, .int r, .cell m, .int z]
def sp_Sheet_cut (K : PySem.W.Frag) : Spc := fun ds cs P => ∃ (d : D) (b r : Int) (cols : List (List Int)) (lo hi : Nat), ds = [d, .int (lo : Nat), .int (hi : Nat)] ∧ isSh K cs d b r cols ∧ Gd b r cols ∧ lo ≤ hi ∧ hi ≤ cols.length ∧
  (P (shD K b r ((cols.drop lo).take (hi - lo))) cs ∨ P (.cell cs.length) (cs ++ [shC K b r (cs.length + 1) (((cols.drop lo).take (hi - lo)).length : Int)] ++ [.lst (((cols.drop lo).take (hi - lo)).map encC)]))
def sp_law_bag (K : PySem.W.Frag) : Spc := fun ds cs P => ∃ (ns : List Int) (k : Int), ds = [.fro (ns.map .int), .int k] ∧ 0 ≤ k ∧ k ≤ 100 ∧ ∀ x, Bg 0 x → P (.cell cs.length) (cs ++ [x])
def sp_law_take (K : PySem.W.Frag) : Spc := fun ds cs P => ∃ (n : Nat) (x : Cel) (c m : Int), ds = [.cell n, .int m] ∧ cs[n]? = some x ∧ Bg c x ∧ c ≤ 1000000000 ∧ 0 < m ∧ m ≤ 1000000000 ∧ ∀ (r : Int) (x' : Cel), 0 ≤ r → r < m → Bg (c + 1) x' → P (.int r) (cs.set n x')
def sp_law_mixed (K : PySem.W.Frag) : Spc := fun ds cs P => ∃ (n : Nat) (x : Cel) (c : Int) (d : D) (xs : List D), ds = [.cell n, d] ∧ cs[n]? = some x ∧ Bg c x ∧ c ≤ 100000000 ∧ lk cs d = some xs ∧ xs.length ≤ 1000 ∧
  ∀ ys x', ys.Perm xs → Bg (c + xs.length) x' → fresh ys (cs.set n x') P
def effO (b : Int) (i : Nat) (V : Int) : Op → Int
  | .off d => ((V / b ^ i % b + d) % b - V / b ^ i % b) * b ^ i
  | .swap => (V / b ^ (i + 1) % b - V / b ^ i % b) * b ^ i + (V / b ^ i % b - V / b ^ (i + 1) % b) * b ^ (i + 1)
  | .again => b ^ (i + 1)
  | _ => 0
def sp_law_column (K : PySem.W.Frag) : Spc := fun ds cs P => ∃ (n : Nat) (x : Cel) (c b r : Int), ds = [.cell n, .int b, .int r] ∧ cs[n]? = some x ∧ Bg c x ∧ c ≤ 100000000 ∧ 2 ≤ b ∧ b ≤ 12 ∧ 1 ≤ r ∧ r ≤ 4 ∧ ∀ (col : List Int) (x' : Cel), okC b r col = true → Bg (c + 4) x' → P (encC col) (cs.set n x')
def sp_law_power (K : PySem.W.Frag) : Spc := fun ds cs P => ∃ b k : Int, ds = [.int b, .int k] ∧ 2 ≤ b ∧ b ≤ 12 ∧ 0 ≤ k ∧ k ≤ 1000 ∧ P (.int (b ^ k.toNat)) cs
def sp_law_lot (K : PySem.W.Frag) : Spc := fun ds cs P => ∃ (n : Nat) (x : Cel) (c m g : Int), ds = [.cell n, .int m, .int g] ∧ cs[n]? = some x ∧ Bg c x ∧ c ≤ 100000000 ∧ 0 ≤ m ∧ m ≤ 8 ∧ 2 ≤ g ∧ g ≤ 60 ∧ ∀ (l : List Int) (x' : Cel), Gl0 l → (l.length : Int) ≤ m → Bg (c + 20) x' → fresh (l.map .int) (cs.set n x') P
def sp_law_written (K : PySem.W.Frag) : Spc := fun ds cs P => ∃ (d d2 : D) (b r : Int) (cols : List (List Int)) (ops : List Op) (items : List D), ds = [d, d2] ∧ lk cs d2 = some items ∧ isSh K cs d b r cols ∧ Gd b r cols ∧ Plan b r cols ops ∧
  ((items = (slFo 0 ops).map encSo ∧ P (wrD K b (stFo b cols ops cols.length).1 (stFo b cols ops cols.length).2.1) cs) ∨ ∃ x, BadS b r cols ops items x ∧ P .non cs)
/-- one row more: a carry at the first column -/
def cryC (k : Int) : List (List Int) → List (List Int)
  | [] => []
  | c :: cols => (c ++ [k]) :: cols.map fun c => c ++ [0]
def sp_law_with_carry (K : PySem.W.Frag) : Spc := fun ds cs P => ∃ (b r k : Int) (cols : List (List Int)), ds = [shD K b r cols, .int k] ∧ Gd b r cols ∧ cols ≠ [] ∧ r ≤ 3 ∧ 0 ≤ k ∧ k < b ∧ cols.length ≤ 100 ∧ P (shD K b (r + 1) (cryC k cols)) cs
/-- slips off and swap alone, and the figures with them -/
structure Mkd (b r : Int) (cols : List (List Int)) (ops : List Op) (F : List Int) : Prop where
  p : Plan b r cols ops
  st : stFo b cols ops cols.length = (F, val b cols / b ^ cols.length, none)
  only : ∀ x ∈ slFo 0 ops, x.1 < cols.length ∧ ((∃ d, x.2 = .off d ∧ 1 ≤ d ∧ d < b) ∨ (x.2 = .swap ∧ x.1 + 1 < cols.length))
  fl : F.length = cols.length
  eff : ((slFo 0 ops).map fun x => effO b x.1 (val b cols) x.2).sum = valW b 0 F - valW b 0 (dg b cols.length (val b cols))
def sp_law_marked (K : PySem.W.Frag) : Spc := fun ds cs P => ∃ (n : Nat) (x : Cel) (c b r : Int) (cols : List (List Int)), ds = [.cell n, shD K b r cols, wrR K b cols] ∧ cs[n]? = some x ∧ Bg c x ∧ c ≤ 1000000 ∧ Gd b r cols ∧ cols.length ≤ 60 ∧
  ∀ (ops : List Op) (F : List Int) (x' : Cel), Mkd b r cols ops F → Bg (c + 200) x' → P (.lst [.lst ((slFo 0 ops).map encSo), .lst (F.map .int), .int (valW b 0 F - valW b 0 (dg b cols.length (val b cols)))]) (cs.set n x')
def sp_law_carry_right (K : PySem.W.Frag) : Spc := fun ds cs P => ∃ (b r : Int) (cols : List (List Int)) (i : Nat), ds = [shD K b r cols, .int (i : Nat)] ∧ Gd b r cols ∧ r ≤ 3 ∧ cols.length ≤ 60 ∧ i < cols.length ∧ P (.bl true) cs
def sp_law_shown_right (K : PySem.W.Frag) : Spc := fun ds cs P => ∃ (n : Nat) (x : Cel) (c b r : Int) (cols : List (List Int)) (ops : List Op) (items : List D), ds = [.cell n, shD K b r cols, .lst items, wrD K b (stFo b cols ops cols.length).1 (stFo b cols ops cols.length).2.1] ∧ cs[n]? = some x ∧ Bg c x ∧ c ≤ 1000000 ∧ Gd b r cols ∧ cols.length ≤ 60 ∧ r ≤ 3 ∧
  Plan b r cols ops ∧ items = (slFo 0 ops).map encSo ∧ (slFo 0 ops).length ≤ 1 ∧ (∀ x ∈ slFo 0 ops, x.1 < cols.length ∧ ((∃ d, x.2 = .off d ∧ 1 ≤ d ∧ d < b) ∨ (x.2 = .swap ∧ x.1 + 1 < cols.length))) ∧
  ∀ x', Bg (c + 30) x' → P (.bl true) (cs.set n x')
def sp_law_right (K : PySem.W.Frag) : Spc := fun ds cs P => ∃ (ns : List Int) (k : Int), ds = [.fro (ns.map .int), .int k] ∧ 0 ≤ k ∧ k ≤ 100 ∧ P (.bl true) cs
def sp_law (K : PySem.W.Frag) : Spc := spLaw
structure Txt (K : PySem.W.Frag) (mg : Str → Option Value) : Prop where
  g_law_right : mg "_law_right" = some (.ref (He.ga K "_law_right"))
  g_law_bag : mg "_law_bag" = some (.ref (He.ga K "_law_bag"))
  g_law_take : mg "_law_take" = some (.ref (He.ga K "_law_take"))
  g_law_column : mg "_law_column" = some (.ref (He.ga K "_law_column"))
  g_Sheet : mg "Sheet" = some (.ref (He.ga K "Sheet"))
  g_add_right : mg "add_right" = some (.ref (He.ga K "add_right"))
  g_law_marked : mg "_law_marked" = some (.ref (He.ga K "_law_marked"))
  g_add_with : mg "add_with" = some (.ref (He.ga K "add_with"))
  g_Written : mg "Written" = some (.ref (He.ga K "Written"))
  g_law_shown_right : mg "_law_shown_right" = some (.ref (He.ga K "_law_shown_right"))
  g_law_mixed : mg "_law_mixed" = some (.ref (He.ga K "_law_mixed"))
  g_law_carry_right : mg "_law_carry_right" = some (.ref (He.ga K "_law_carry_right"))
  g_is_integer : mg "is_integer" = some (.ref (He.ga K "is_integer"))
  g_is_column : mg "is_column" = some (.ref (He.ga K "is_column"))
  g_Adding : mg "Adding" = some (.ref (He.ga K "Adding"))
  g_done : mg "done" = some (.ref (He.ga K "done"))
  g_taken : mg "taken" = some (.ref (He.ga K "taken"))
  g_law_power : mg "_law_power" = some (.ref (He.ga K "_law_power"))
  g_is_slip : mg "is_slip" = some (.ref (He.ga K "is_slip"))
  g_InvalidSlips : mg "InvalidSlips" = some (.ref (He.ga K "InvalidSlips"))
  g_is_deed : mg "is_deed" = some (.ref (He.ga K "is_deed"))
  g_PLAIN : mg "PLAIN" = some (.ref (He.ga K "PLAIN"))
  g_law_lot : mg "_law_lot" = some (.ref (He.ga K "_law_lot"))
  g_Kind : mg "Kind" = some (.ref (He.ga K "Kind"))
  g_slips_shown : mg "slips_shown" = some (.ref (He.ga K "slips_shown"))
  g_number_of_columns : mg "number_of_columns" = some (.ref (He.ga K "number_of_columns"))
  g_all_deeds : mg "all_deeds" = some (.ref (He.ga K "all_deeds"))
  g_check_lot : mg "check_lot" = some (.ref (He.ga K "check_lot"))
  g_check_alike : mg "check_alike" = some (.ref (He.ga K "check_alike"))
  g_all_outcomes : mg "all_outcomes" = some (.ref (He.ga K "all_outcomes"))
  g_further_slips : mg "further_slips" = some (.ref (He.ga K "further_slips"))
  g_outcome : mg "outcome" = some (.ref (He.ga K "outcome"))
  g_law_written : mg "_law_written" = some (.ref (He.ga K "_law_written"))
  g_law_with_carry : mg "_law_with_carry" = some (.ref (He.ga K "_law_with_carry"))
  g_law : mg "law" = some (.ref (He.ga K "law"))
  n_range : mg "range" = none
  n_max : mg "max" = none
  n_min : mg "min" = none
  n_len : mg "len" = none
  n_int : mg "int" = none
  n_tuple : mg "tuple" = none
  c_Sheet : Cls K (He.ga K "Sheet")
  mk_Sheet : Mk K (He.ga K "Sheet") (He.ma K (He.ga K "Sheet") "__init__")
  n_list : mg "list" = none
  sm_Written_eq : Sm K (He.ga K "Written") "__eq__" (He.ma K (He.ga K "Written") "__eq__")
  nf_Written : SmNe K (He.ga K "Written")
  c_Written : Cls K (He.ga K "Written")
  mk_Written : Mk K (He.ga K "Written") (He.ma K (He.ga K "Written") "__init__")
  p_Written_last : PropOf K (He.ga K "Written") "last" (He.ma K (He.ga K "Written") "last") (pga K (He.ga K "Written") "last")
  sm_Written_sub : Sm K (He.ga K "Written") "__sub__" (He.ma K (He.ga K "Written") "__sub__")
  sf_Written : PySem.W.selfFirst K (He.ga K "Written") = true
  ns_Sheet_sub : NoSl K (He.ga K "Sheet") "sub"
  n_sum : mg "sum" = none
  n_abs : mg "abs" = none
  n_isinstance : mg "isinstance" = none
  n_all : mg "all" = none
  na_Sheet_held_base : NoAttr K (He.ga K "Sheet") "held_base"
  na_Sheet_held_rows : NoAttr K (He.ga K "Sheet") "held_rows"
  na_Sheet_held_columns : NoAttr K (He.ga K "Sheet") "held_columns"
  na_Sheet_size : NoAttr K (He.ga K "Sheet") "size"
  n_bool : mg "bool" = none
  c_Adding : Cls K (He.ga K "Adding")
  m_Adding_result : Meth K (He.ga K "Adding") "result" (He.ma K (He.ga K "Adding") "result")
  mk_Adding : Mk K (He.ga K "Adding") (He.ma K (He.ga K "Adding") "__init__")
  m_Adding_do_until : Meth K (He.ga K "Adding") "do_until" (He.ma K (He.ga K "Adding") "do_until")
  na_Adding_given : NoAttr K (He.ga K "Adding") "given"
  na_Adding_carry : NoAttr K (He.ga K "Adding") "carry"
  na_Adding_written : NoAttr K (He.ga K "Adding") "written"
  na_Adding_system : NoAttr K (He.ga K "Adding") "system"
  na_Adding_at : NoAttr K (He.ga K "Adding") "at"
  m_Adding_do : Meth K (He.ga K "Adding") "do" (He.ma K (He.ga K "Adding") "do")
  na_Adding_waiting : NoAttr K (He.ga K "Adding") "waiting"
  na_Written_held_base : NoAttr K (He.ga K "Written") "held_base"
  na_Written_held_figures : NoAttr K (He.ga K "Written") "held_figures"
  na_Written_held_last : NoAttr K (He.ga K "Written") "held_last"
  p_Sheet_base : PropOf K (He.ga K "Sheet") "base" (He.ma K (He.ga K "Sheet") "base") (pga K (He.ga K "Sheet") "base")
  p_Sheet_columns : PropOf K (He.ga K "Sheet") "columns" (He.ma K (He.ga K "Sheet") "columns") (pga K (He.ga K "Sheet") "columns")
  p_Written_figures : PropOf K (He.ga K "Written") "figures" (He.ma K (He.ga K "Written") "figures") (pga K (He.ga K "Written") "figures")
  sm_Sheet_len : Sm K (He.ga K "Sheet") "__len__" (He.ma K (He.ga K "Sheet") "__len__")
  n_enumerate : mg "enumerate" = none
  m_Adding_free : Meth K (He.ga K "Adding") "free" (He.ma K (He.ga K "Adding") "free")
  ox_InvalidSlips : OexC K (He.ga K "InvalidSlips")
  nx_InvalidSlips : PySem.W.findIn K (.ref (He.ga K "InvalidSlips")) "index" = some none
  sm_InvalidSlips_init : Sm K (He.ga K "InvalidSlips") "__init__" (He.ma K (He.ga K "InvalidSlips") "__init__")
  p_Sheet_rows : PropOf K (He.ga K "Sheet") "rows" (He.ma K (He.ga K "Sheet") "rows") (pga K (He.ga K "Sheet") "rows")
  n_str : mg "str" = none
  tg_PLAIN : ∀ H, SqT K H (He.ga K "PLAIN") [.str "forget", .str "again", .str "swap", .str "out", .str "twice"]
  ic_Written : C8.InsC K (He.ga K "Written")
  p_Written_value : PropOf K (He.ga K "Written") "value" (He.ma K (He.ga K "Written") "value") (pga K (He.ga K "Written") "value")
  p_Sheet_value : PropOf K (He.ga K "Sheet") "value" (He.ma K (He.ga K "Sheet") "value") (pga K (He.ga K "Sheet") "value")
  c_Kind : Cls K (He.ga K "Kind")
  mk_Kind : Mk K (He.ga K "Kind") (He.ma K (He.ga K "Kind") "__init__")
  m_Written_rest : Meth K (He.ga K "Written") "rest" (He.ma K (He.ga K "Written") "rest")
  ig_MOST_COLUMNS : ∃ t, mg "MOST_COLUMNS" = some (.int 1000 t)
  ig_MOST_DEEDS : ∃ t, mg "MOST_DEEDS" = some (.int 8 t)
  na_Kind_held_base : NoAttr K (He.ga K "Kind") "held_base"
  na_Kind_held_rows : NoAttr K (He.ga K "Kind") "held_rows"
  na_Kind_held_deeds : NoAttr K (He.ga K "Kind") "held_deeds"
  na_Kind_held_most : NoAttr K (He.ga K "Kind") "held_most"
  p_Kind_base : PropOf K (He.ga K "Kind") "base" (He.ma K (He.ga K "Kind") "base") (pga K (He.ga K "Kind") "base")
  p_Kind_rows : PropOf K (He.ga K "Kind") "rows" (He.ma K (He.ga K "Kind") "rows") (pga K (He.ga K "Kind") "rows")
  p_Kind_most : PropOf K (He.ga K "Kind") "most" (He.ma K (He.ga K "Kind") "most") (pga K (He.ga K "Kind") "most")
  p_Kind_deeds : PropOf K (He.ga K "Kind") "deeds" (He.ma K (He.ga K "Kind") "deeds") (pga K (He.ga K "Kind") "deeds")
  xm_InvalidSlips : ∀ p ∈ ([("InvalidSlips", true)] : List (Str × Bool)), PySem.W.exmOne K (.ref (He.ga K p.1)) (.ref (He.ga K "InvalidSlips")) = some p.2
  m_Sheet_cut : Meth K (He.ga K "Sheet") "cut" (He.ma K (He.ga K "Sheet") "cut")
  F_law_bag : ∃ fd, FunD K "_law_bag" "_law_bag" (defArgs s_law_bag) (defBody s_law_bag) (defScope s_law_bag) [] [] (He.ga K "_law_bag") fd
  F_law_take : ∃ fd, FunD K "_law_take" "_law_take" (defArgs s_law_take) (defBody s_law_take) (defScope s_law_take) [] [] (He.ga K "_law_take") fd
  F_law_column : ∃ fd, FunD K "_law_column" "_law_column" (defArgs s_law_column) (defBody s_law_column) (defScope s_law_column) [] [] (He.ga K "_law_column") fd
  F_is_integer : ∃ fd, FunD K "is_integer" "is_integer" (defArgs s_is_integer) (defBody s_is_integer) (defScope s_is_integer) [] [] (He.ga K "is_integer") fd
  F_is_column : ∃ fd, FunD K "is_column" "is_column" (defArgs s_is_column) (defBody s_is_column) (defScope s_is_column) [] [] (He.ga K "is_column") fd
  F_Sheet_init : ∃ fd, FunD K "__init__" "Sheet.__init__" (defArgs s_Sheet_init) (defBody s_Sheet_init) (defScope s_Sheet_init) [] [] (He.ma K (He.ga K "Sheet") "__init__") fd
  F_taken : ∃ fd, FunD K "taken" "taken" (defArgs s_taken) (defBody s_taken) (defScope s_taken) [] [] (He.ga K "taken") fd
  F_done : ∃ fd, FunD K "done" "done" (defArgs s_done) (defBody s_done) (defScope s_done) [] [] (He.ga K "done") fd
  F_Adding_do : ∃ fd, FunD K "do" "Adding.do" (defArgs s_Adding_do) (defBody s_Adding_do) (defScope s_Adding_do) [] [] (He.ma K (He.ga K "Adding") "do") fd
  F_Adding_do_until : ∃ fd, FunD K "do_until" "Adding.do_until" (defArgs s_Adding_do_until) (defBody s_Adding_do_until) (defScope s_Adding_do_until) [] [] (He.ma K (He.ga K "Adding") "do_until") fd
  F_Written_init : ∃ fd, FunD K "__init__" "Written.__init__" (defArgs s_Written_init) (defBody s_Written_init) (defScope s_Written_init) [] [] (He.ma K (He.ga K "Written") "__init__") fd
  F_Adding_result : ∃ fd, FunD K "result" "Adding.result" (defArgs s_Adding_result) (defBody s_Adding_result) (defScope s_Adding_result) [] [] (He.ma K (He.ga K "Adding") "result") fd
  F_Sheet_base : ∃ fd, FunD K "base" "Sheet.base" (defArgs s_Sheet_base) (defBody s_Sheet_base) (defScope s_Sheet_base) [] [] (pga K (He.ga K "Sheet") "base") fd
  F_Sheet_columns : ∃ fd, FunD K "columns" "Sheet.columns" (defArgs s_Sheet_columns) (defBody s_Sheet_columns) (defScope s_Sheet_columns) [] [] (pga K (He.ga K "Sheet") "columns") fd
  F_Adding_init : ∃ fd, FunD K "__init__" "Adding.__init__" (defArgs s_Adding_init) (defBody s_Adding_init) (defScope s_Adding_init) [] [] (He.ma K (He.ga K "Adding") "__init__") fd
  F_add_right : ∃ fd, FunD K "add_right" "add_right" (defArgs s_add_right) (defBody s_add_right) (defScope s_add_right) [] [] (He.ga K "add_right") fd
  F_Written_figures : ∃ fd, FunD K "figures" "Written.figures" (defArgs s_Written_figures) (defBody s_Written_figures) (defScope s_Written_figures) [] [] (pga K (He.ga K "Written") "figures") fd
  F_Sheet_len : ∃ fd, FunD K "__len__" "Sheet.__len__" (defArgs s_Sheet_len) (defBody s_Sheet_len) (defScope s_Sheet_len) [] [] (He.ma K (He.ga K "Sheet") "__len__") fd
  F_law_power : ∃ fd, FunD K "_law_power" "_law_power" (defArgs s_law_power) (defBody s_law_power) (defScope s_law_power) [] [] (He.ga K "_law_power") fd
  F_law_marked : ∃ fd, FunD K "_law_marked" "_law_marked" (defArgs s_law_marked) (defBody s_law_marked) (defScope s_law_marked) [] [] (He.ga K "_law_marked") fd
  F_is_deed : ∃ fd, FunD K "is_deed" "is_deed" (defArgs s_is_deed) (defBody s_is_deed) (defScope s_is_deed) [] [] (He.ga K "is_deed") fd
  F_Sheet_rows : ∃ fd, FunD K "rows" "Sheet.rows" (defArgs s_Sheet_rows) (defBody s_Sheet_rows) (defScope s_Sheet_rows) [] [] (pga K (He.ga K "Sheet") "rows") fd
  F_is_slip : ∃ fd, FunD K "is_slip" "is_slip" (defArgs s_is_slip) (defBody s_is_slip) (defScope s_is_slip) [] [] (He.ga K "is_slip") fd
  F_Adding_free : ∃ fd, FunD K "free" "Adding.free" (defArgs s_Adding_free) (defBody s_Adding_free) (defScope s_Adding_free) [] [] (He.ma K (He.ga K "Adding") "free") fd
  F_InvalidSlips_init : ∃ fd, FunD K "__init__" "InvalidSlips.__init__" (defArgs s_InvalidSlips_init) (defBody s_InvalidSlips_init) (defScope s_InvalidSlips_init) [] [] (He.ma K (He.ga K "InvalidSlips") "__init__") fd
  F_add_with : ∃ fd, FunD K "add_with" "add_with" (defArgs s_add_with) (defBody s_add_with) (defScope s_add_with) [] [] (He.ga K "add_with") fd
  F_Written_eq : ∃ fd, FunD K "__eq__" "Written.__eq__" (defArgs s_Written_eq) (defBody s_Written_eq) (defScope s_Written_eq) [] [] (He.ma K (He.ga K "Written") "__eq__") fd
  F_Written_last : ∃ fd, FunD K "last" "Written.last" (defArgs s_Written_last) (defBody s_Written_last) (defScope s_Written_last) [] [] (pga K (He.ga K "Written") "last") fd
  F_Written_value : ∃ fd, FunD K "value" "Written.value" (defArgs s_Written_value) (defBody s_Written_value) (defScope s_Written_value) [] [] (pga K (He.ga K "Written") "value") fd
  F_Sheet_value : ∃ fd, FunD K "value" "Sheet.value" (defArgs s_Sheet_value) (defBody s_Sheet_value) (defScope s_Sheet_value) [] [] (pga K (He.ga K "Sheet") "value") fd
  F_Written_sub : ∃ fd, FunD K "__sub__" "Written.__sub__" (defArgs s_Written_sub) (defBody s_Written_sub) (defScope s_Written_sub) [] [] (He.ma K (He.ga K "Written") "__sub__") fd
  F_law_lot : ∃ fd, FunD K "_law_lot" "_law_lot" (defArgs s_law_lot) (defBody s_law_lot) (defScope s_law_lot) [] [] (He.ga K "_law_lot") fd
  F_number_of_columns : ∃ fd, FunD K "number_of_columns" "number_of_columns" (defArgs s_number_of_columns) (defBody s_number_of_columns) (defScope s_number_of_columns) [] [] (He.ga K "number_of_columns") fd
  F_all_deeds : ∃ fd, FunD K "all_deeds" "all_deeds" (defArgs s_all_deeds) (defBody s_all_deeds) (defScope s_all_deeds) [] [] (He.ga K "all_deeds") fd
  F_Kind_init : ∃ fd, FunD K "__init__" "Kind.__init__" (defArgs s_Kind_init) (defBody s_Kind_init) (defScope s_Kind_init) [] [] (He.ma K (He.ga K "Kind") "__init__") fd
  F_check_lot : ∃ fd, FunD K "check_lot" "check_lot" (defArgs s_check_lot) (defBody s_check_lot) (defScope s_check_lot) [] [] (He.ga K "check_lot") fd
  F_Kind_base : ∃ fd, FunD K "base" "Kind.base" (defArgs s_Kind_base) (defBody s_Kind_base) (defScope s_Kind_base) [] [] (pga K (He.ga K "Kind") "base") fd
  F_Kind_rows : ∃ fd, FunD K "rows" "Kind.rows" (defArgs s_Kind_rows) (defBody s_Kind_rows) (defScope s_Kind_rows) [] [] (pga K (He.ga K "Kind") "rows") fd
  F_check_alike : ∃ fd, FunD K "check_alike" "check_alike" (defArgs s_check_alike) (defBody s_check_alike) (defScope s_check_alike) [] [] (He.ga K "check_alike") fd
  F_Kind_most : ∃ fd, FunD K "most" "Kind.most" (defArgs s_Kind_most) (defBody s_Kind_most) (defScope s_Kind_most) [] [] (pga K (He.ga K "Kind") "most") fd
  F_Kind_deeds : ∃ fd, FunD K "deeds" "Kind.deeds" (defArgs s_Kind_deeds) (defBody s_Kind_deeds) (defScope s_Kind_deeds) [] [] (pga K (He.ga K "Kind") "deeds") fd
  F_further_slips : ∃ fd, FunD K "further_slips" "further_slips" (defArgs s_further_slips) (defBody s_further_slips) (defScope s_further_slips) [] [] (He.ga K "further_slips") fd
  F_outcome : ∃ fd, FunD K "outcome" "outcome" (defArgs s_outcome) (defBody s_outcome) (defScope s_outcome) [] [] (He.ga K "outcome") fd
  F_all_outcomes : ∃ fd, FunD K "all_outcomes" "all_outcomes" (defArgs s_all_outcomes) (defBody s_all_outcomes) (defScope s_all_outcomes) [] [] (He.ga K "all_outcomes") fd
  F_Written_rest : ∃ fd, FunD K "rest" "Written.rest" (defArgs s_Written_rest) (defBody s_Written_rest) (defScope s_Written_rest) [] [] (He.ma K (He.ga K "Written") "rest") fd
  F_slips_shown : ∃ fd, FunD K "slips_shown" "slips_shown" (defArgs s_slips_shown) (defBody s_slips_shown) (defScope s_slips_shown) [] [] (He.ga K "slips_shown") fd
  F_law_shown_right : ∃ fd, FunD K "_law_shown_right" "_law_shown_right" (defArgs s_law_shown_right) (defBody s_law_shown_right) (defScope s_law_shown_right) [] [] (He.ga K "_law_shown_right") fd
  F_law_mixed : ∃ fd, FunD K "_law_mixed" "_law_mixed" (defArgs s_law_mixed) (defBody s_law_mixed) (defScope s_law_mixed) [] [] (He.ga K "_law_mixed") fd
  F_Sheet_cut : ∃ fd, FunD K "cut" "Sheet.cut" (defArgs s_Sheet_cut) (defBody s_Sheet_cut) (defScope s_Sheet_cut) [] [] (He.ma K (He.ga K "Sheet") "cut") fd
  F_law_written : ∃ fd, FunD K "_law_written" "_law_written" (defArgs s_law_written) (defBody s_law_written) (defScope s_law_written) [] [] (He.ga K "_law_written") fd
  F_law_with_carry : ∃ fd, FunD K "_law_with_carry" "_law_with_carry" (defArgs s_law_with_carry) (defBody s_law_with_carry) (defScope s_law_with_carry) [] [] (He.ga K "_law_with_carry") fd
  F_law_carry_right : ∃ fd, FunD K "_law_carry_right" "_law_carry_right" (defArgs s_law_carry_right) (defBody s_law_carry_right) (defScope s_law_carry_right) [] [] (He.ga K "_law_carry_right") fd
  F_law_right : ∃ fd, FunD K "_law_right" "_law_right" (defArgs s_law_right) (defBody s_law_right) (defScope s_law_right) [] [] (He.ga K "_law_right") fd
  F_law : ∃ fd, FunD K "law" "law" (defArgs s_law) (defBody s_law) (defScope s_law) [] [] (He.ga K "law") fd
section
variable {P : Program} {w : World} {K : PySem.W.Frag} {mg : Str → Option Value} {base : Heap}
def t_law_bag (K : PySem.W.Frag) : DS := (sSeq (sAsg (eIf (eTest (eBin qLt (eV 1) (eCB qLen (aCons (eV 0) aNil)))) (eBin qIx (eV 0) (eV 1)) (eC (.int 0))) 2) (sSeq (sAsg (eBin (qAdd false) (eBin (qMul) (eC (.int 2)) (eCB qAbs (aCons (eV 2) aNil))) (eCB qInt (aCons (eBin qLt (eV 2) (eC (.int 0))) aNil))) 3) (sRet (eLst true (aCons (eCB qMax2 (aCons (eC (.int 0)) (aCons (eBin (qSub) (eV 2) (eBin (qPow) (eC (.int 10)) (eC (.int 18)))) aNil))) (aCons (eBin (qAdd false) (eBin (qMul) (eBin (qMod) (eCB qInt (aCons (eV 3) aNil)) (eBin (qAdd false) (eBin (qPow) (eC (.int 10)) (eC (.int 39))) (eC (.int 3)))) (eC (.int 64))) (eBin (qMod) (eCB qInt (aCons (eV 1) aNil)) (eC (.int 64)))) (aCons (eC (.int 0)) aNil)))))))
theorem d_law_bag (T : Txt K mg) : ∀ (cdv : Value) (A : Around) (outer : List Env) (s : Shared) (H : Hp) (E : XK) (B : Bs), Room 1 (A.deeper (envOfC "_law_bag" (defScope s_law_bag) s.heap.objs.size (He.ga K "_law_bag") cdv)) → PSs (cx0 P w K mg base N_law_bag "_law_bag" (defScope s_law_bag) (He.ga K "_law_bag") cdv A outer s H E) (defBody s_law_bag) (lS K B (t_law_bag K)) := by
  intro cdv A outer s H E B hr
  exact (dss_cons (ds_set (i := 2) sc_law_bag.nd rfl (Or.inl rfl) (de_if (dt_cmp op_lt od_lt (dv 1) (de_callB call_lenA cd_len rfl T.n_len bt_len (da_cons (dv 0) da_nil)) (nomark _)) (de_ix (dv 0) (dv 1) (fun _ _ => rfl)) de_int)) (dss_cons (ds_set (i := 3) sc_law_bag.nd rfl (Or.inl rfl) (de_bin op_addA (od_add (o := false)) (de_bin op_mulA od_mul de_int (de_callB call_abs cd_abs rfl T.n_abs bt_abs (da_cons (dv 2) da_nil))) (de_callTy call_intA cd_int rfl T.n_int bt_int (da_cons (de_cmp op_lt od_lt (dv 2) de_int (nomark _)) da_nil)))) (dss_one (ds_ret (de_lst (o := true) (da_cons (de_callB (call_max2 rfl) cd_max2 rfl T.n_max bt_max (da_cons de_int (da_cons (de_bin op_sub od_sub (dv 2) (de_bin op_pow od_pow de_int de_int)) da_nil))) (da_cons (de_bin op_addA (od_add (o := false)) (de_bin op_mulA od_mul (de_bin op_mod od_mod (de_callTy call_intA cd_int rfl T.n_int bt_int (da_cons (dv 3) da_nil)) (de_bin op_addA (od_add (o := false)) (de_bin op_pow od_pow de_int de_int) de_int)) de_int) (de_bin op_mod od_mod (de_callTy call_intA cd_int rfl T.n_int bt_int (da_cons (dv 1) da_nil)) de_int)) (da_cons de_int da_nil))))))))
def t_law_take (K : PySem.W.Frag) : DS := (sSeq (sIf (eTest (eBin qGt (eBin qIx (eV 0) (eC (.int 0))) (eC (.int 0)))) (sSeq (sAsg (eBin (qMod) (eCB qInt (aCons (eBin qIx (eV 0) (eC (.int 0))) aNil)) (eV 1)) 2) (sSeq (sSub (eBin (qFdiv) (eBin qIx (eV 0) (eC (.int 0))) (eV 1)) (eV 0) (eC (.int 0))) (sRet (eV 2)))) sNext) (sSeq (sSub (eBin (qAdd false) (eBin qIx (eV 0) (eC (.int 2))) (eC (.int 1))) (eV 0) (eC (.int 2))) (sSeq (sAsg (eBin (qMod) (eCB qInt (aCons (eBin (qAdd false) (eBin (qPowW) (eBin (qAdd false) (eBin qIx (eV 0) (eC (.int 1))) (eBin (qMul) (eC (.int 7368787)) (eBin qIx (eV 0) (eC (.int 2))))) (eC (.int 2))) (eBin (qMul) (eC (.int 1299709)) (eBin qIx (eV 0) (eC (.int 2))))) aNil)) (eBin (qAdd false) (eBin (qPow) (eC (.int 10)) (eC (.int 40))) (eC (.int 121)))) 3) (sSeq (sAsg (eBin (qMod) (eCB qInt (aCons (eBin (qAdd false) (eBin (qPowW) (eV 3) (eC (.int 3))) (eBin qIx (eV 0) (eC (.int 1)))) aNil)) (eBin (qAdd false) (eBin (qPow) (eC (.int 10)) (eC (.int 38))) (eC (.int 133)))) 3) (sRet (eBin (qMod) (eCB qInt (aCons (eBin (qFdiv) (eV 3) (eC (.int 9973))) aNil)) (eV 1)))))))
theorem d_law_take (T : Txt K mg) : ∀ (cdv : Value) (A : Around) (outer : List Env) (s : Shared) (H : Hp) (E : XK) (B : Bs), Room 1 (A.deeper (envOfC "_law_take" (defScope s_law_take) s.heap.objs.size (He.ga K "_law_take") cdv)) → PSs (cx0 P w K mg base N_law_take "_law_take" (defScope s_law_take) (He.ga K "_law_take") cdv A outer s H E) (defBody s_law_take) (lS K B (t_law_take K)) := by
  intro cdv A outer s H E B hr
  exact (dss_cons (ds_if (dt_cmp op_gt od_gt (de_ix (dv 0) de_int (fun _ _ => rfl)) de_int (nomark _)) (dss_cons (ds_set (i := 2) sc_law_take.nd rfl (Or.inl rfl) (de_bin op_mod od_mod (de_callTy call_intA cd_int rfl T.n_int bt_int (da_cons (de_ix (dv 0) de_int (fun _ _ => rfl)) da_nil)) (dv 1))) (dss_cons (ds_sub (de_bin op_fdivA od_fdiv (de_ix (dv 0) de_int (fun _ _ => rfl)) (dv 1)) (dv 0) de_int) (dss_one (ds_ret (dv 2))))) dss_nil) (dss_cons (ds_sub (de_bin op_addA (od_add (o := false)) (de_ix (dv 0) de_int (fun _ _ => rfl)) de_int) (dv 0) de_int) (dss_cons (ds_set (i := 3) sc_law_take.nd rfl (Or.inl rfl) (de_bin op_mod od_mod (de_callTy call_intA cd_int rfl T.n_int bt_int (da_cons (de_bin op_addA (od_add (o := false)) (de_bin op_powW od_powW (de_bin op_addA (od_add (o := false)) (de_ix (dv 0) de_int (fun _ _ => rfl)) (de_bin op_mulA od_mul de_int (de_ix (dv 0) de_int (fun _ _ => rfl)))) de_int) (de_bin op_mulA od_mul de_int (de_ix (dv 0) de_int (fun _ _ => rfl)))) da_nil)) (de_bin op_addA (od_add (o := false)) (de_bin op_pow od_pow de_int de_int) de_int))) (dss_cons (ds_set (i := 3) sc_law_take.nd rfl (Or.inl rfl) (de_bin op_mod od_mod (de_callTy call_intA cd_int rfl T.n_int bt_int (da_cons (de_bin op_addA (od_add (o := false)) (de_bin op_powW od_powW (dv 3) de_int) (de_ix (dv 0) de_int (fun _ _ => rfl))) da_nil)) (de_bin op_addA (od_add (o := false)) (de_bin op_pow od_pow de_int de_int) de_int))) (dss_one (ds_ret (de_bin op_mod od_mod (de_callTy call_intA cd_int rfl T.n_int bt_int (da_cons (de_bin op_fdivA od_fdiv (dv 3) de_int) da_nil)) (dv 1))))))))
def t_law_column (K : PySem.W.Frag) : DS := (sRet (eCB qTuple (aCons (eLc false (iR1 (aCons (eV 2) aNil)) (.one 3) dYes (eCall (sp_law_take K) (aCons (eV 0) (aCons (eV 1) aNil))) [3]) aNil)))
theorem d_law_column (T : Txt K mg) (G_law_take : Good P w K mg base 2 (He.ga K "_law_take") ["bag", "many"] (sp_law_take K)) : ∀ (cdv : Value) (A : Around) (outer : List Env) (s : Shared) (H : Hp) (E : XK) (B : Bs), Room 4 (A.deeper (envOfC "_law_column" (defScope s_law_column) s.heap.objs.size (He.ga K "_law_column") cdv)) → PSs (cx0 P w K mg base N_law_column "_law_column" (defScope s_law_column) (He.ga K "_law_column") cdv A outer s H E) (defBody s_law_column) (lS K B (t_law_column K)) := by
  intro cdv A outer s H E B hr
  exact (dss_one (ds_ret (de_callTy call_tupleA cd_tuple rfl T.n_tuple bt_tuple (da_cons (de_lc (o := false) (own := [("row", 3)]) (tg := (.one 3)) rfl sc_law_column.nd (di_range1 rfl T.n_range (da_cons (dv 2) da_nil)) (blkOk_by (own := [("row", 3)]) (N := N_law_column) (sc := defScope s_law_column) (by decide +kernel)) (by decide) (fun _ _ _ _ _ => (pg_name (i := 3) sc_law_column.nd rfl (Or.inl rfl))) (fun _ _ _ _ _ => dts_nil) (fun _ _ _ _ _ => (de_callG G_law_take (hr.mono (by decide)) T.g_law_take (da_cons (dv 0) (da_cons (dv 1) da_nil))))) da_nil))))
def t_is_integer (K : PySem.W.Frag) : DS := (sRet (eAnd (eCB qIsi (aCons (eV 0) (aCons (eC (.raw (.ty "int"))) aNil))) (eNot (eCB qIsi (aCons (eV 0) (aCons (eC (.raw (.ty "bool"))) aNil))))))
theorem d_is_integer (T : Txt K mg) : ∀ (cdv : Value) (A : Around) (outer : List Env) (s : Shared) (H : Hp) (E : XK) (B : Bs), Room 1 (A.deeper (envOfC "is_integer" (defScope s_is_integer) s.heap.objs.size (He.ga K "is_integer") cdv)) → PSs (cx0 P w K mg base N_is_integer "is_integer" (defScope s_is_integer) (He.ga K "is_integer") cdv A outer s H E) (defBody s_is_integer) (lS K B (t_is_integer K)) := by
  intro cdv A outer s H E B hr
  exact (dss_one (ds_ret (de_and (de_callB call_isi cd_isi rfl T.n_isinstance bt_isinstance (da_cons (dv 0) (da_cons (de_ty rfl T.n_int bt_int) da_nil))) (de_one (de_not (de_callB call_isi cd_isi rfl T.n_isinstance bt_isinstance (da_cons (dv 0) (da_cons (de_ty rfl T.n_bool bt_bool) da_nil))))))))
def t_is_column (K : PySem.W.Frag) : DS := (sSeq (sIf (dOr (dNot (eTru (eCB qIsi (aCons (eV 0) (aCons (eC (.raw (.ty "tuple"))) aNil))))) (eTest (eBin qNe (eCB qLen (aCons (eV 0) aNil)) (eV 2)))) (sRet (eC (.bl false))) sNext) (sRet (eCB qAll (aCons (eLc false (iS (eV 0)) (.one 3) dYes (eAnd (eCall (sp_is_integer K) (aCons (eV 3) aNil)) (eChain qLe qLt (eC (.int 0)) (eV 3) (eV 1))) [3]) aNil))))
theorem d_is_column (T : Txt K mg) (G_is_integer : Good P w K mg base 2 (He.ga K "is_integer") ["value"] (sp_is_integer K)) : ∀ (cdv : Value) (A : Around) (outer : List Env) (s : Shared) (H : Hp) (E : XK) (B : Bs), Room 4 (A.deeper (envOfC "is_column" (defScope s_is_column) s.heap.objs.size (He.ga K "is_column") cdv)) → PSs (cx0 P w K mg base N_is_column "is_column" (defScope s_is_column) (He.ga K "is_column") cdv A outer s H E) (defBody s_is_column) (lS K B (t_is_column K)) := by
  intro cdv A outer s H E B hr
  exact (dss_cons (ds_if (PW.pt (dw_or (dt_not (dt_tru (de_callB call_isi cd_isi rfl T.n_isinstance bt_isinstance (da_cons (dv 0) (da_cons (de_ty rfl T.n_tuple bt_tuple) da_nil))))) (dw_or1 (dt_cmp (op_neD hr.units) od_ne (de_callB call_lenA cd_len rfl T.n_len bt_len (da_cons (dv 0) da_nil)) (dv 2) (nomark _))))) (dss_one (ds_ret de_bl)) dss_nil) (dss_one (ds_ret (de_callB (cr_all rfl) cd_all rfl T.n_all bt_all (da_cons (de_lc (o := false) (own := [("figure", 3)]) (tg := (.one 3)) rfl sc_is_column.nd (di_any (dv 0)) (blkOk_by (own := [("figure", 3)]) (N := N_is_column) (sc := defScope s_is_column) (by decide +kernel)) (by decide) (fun _ _ _ _ _ => (pg_name (i := 3) sc_is_column.nd rfl (Or.inl rfl))) (fun _ _ _ _ _ => dts_nil) (fun _ _ _ _ _ => (de_and (de_callG G_is_integer (hr.mono (by decide)) T.g_is_integer (da_cons (dv 3) da_nil)) (de_one (de_chain op_le op_lt od_le od_lt de_int (dv 3) (dv 1)))))) da_nil)))))
def t_Sheet_init (K : PySem.W.Frag) : DS := (sSeq (sIf (dOr (dNot (eTru (eCall (sp_is_integer K) (aCons (eV 1) aNil)))) (dNot (eTest (eChain qLe qLe (eC (.int 2)) (eV 1) (eC (.int 12)))))) sNever sNext) (sSeq (sIf (dOr (dNot (eTru (eCall (sp_is_integer K) (aCons (eV 2) aNil)))) (dNot (eTest (eChain qLe qLe (eC (.int 1)) (eV 2) (eC (.int 4)))))) sNever sNext) (sSeq (sIf (dOr (dNot (eTru (eCB qIsi (aCons (eV 3) (aCons (eC (.raw (.ty "list"))) aNil))))) (dNot (eTru (eCB qAll (aCons (eLc false (iS (eV 3)) (.one 4) dYes (eCall (sp_is_column K) (aCons (eV 4) (aCons (eV 1) (aCons (eV 2) aNil)))) [4]) aNil))))) sNever sNext) (sSeq (sFldD (He.ga K "Sheet") "held_base" (eV 0) (eV 1)) (sSeq (sFldD (He.ga K "Sheet") "held_rows" (eV 0) (eV 2)) (sSeq (sFldD (He.ga K "Sheet") "held_columns" (eV 0) (eCB qListE (aCons (eV 3) aNil))) (sFldD (He.ga K "Sheet") "size" (eV 0) (eCB qLen (aCons (eV 3) aNil)))))))))
theorem d_Sheet_init (T : Txt K mg) (G_is_integer : Good P w K mg base 2 (He.ga K "is_integer") ["value"] (sp_is_integer K)) (G_is_column : Good P w K mg base 5 (He.ga K "is_column") ["value", "base", "rows"] (sp_is_column K)) : ∀ (cdv : Value) (A : Around) (outer : List Env) (s : Shared) (H : Hp) (E : XK) (B : Bs), Room 7 (A.deeper (envOfC "Sheet.__init__" (defScope s_Sheet_init) s.heap.objs.size (He.ma K (He.ga K "Sheet") "__init__") cdv)) → PSs (cx0 P w K mg base N_Sheet_init "Sheet.__init__" (defScope s_Sheet_init) (He.ma K (He.ga K "Sheet") "__init__") cdv A outer s H E) (defBody s_Sheet_init) (lS K B (t_Sheet_init K)) := by
  intro cdv A outer s H E B hr
  exact (dss_cons (ds_if (PW.pt (dw_or (dt_not (dt_tru (de_callG G_is_integer (hr.mono (by decide)) T.g_is_integer (da_cons (dv 1) da_nil)))) (dw_or1 (dt_not (dt_chain op_le op_le od_le od_le de_int (dv 1) de_int))))) (dss_one ds_never) dss_nil) (dss_cons (ds_if (PW.pt (dw_or (dt_not (dt_tru (de_callG G_is_integer (hr.mono (by decide)) T.g_is_integer (da_cons (dv 2) da_nil)))) (dw_or1 (dt_not (dt_chain op_le op_le od_le od_le de_int (dv 2) de_int))))) (dss_one ds_never) dss_nil) (dss_cons (ds_if (PW.pt (dw_or (dt_not (dt_tru (de_callB call_isi cd_isi rfl T.n_isinstance bt_isinstance (da_cons (dv 3) (da_cons (de_ty rfl T.n_list bt_list) da_nil))))) (dw_or1 (dt_not (dt_tru (de_callB (cr_all rfl) cd_all rfl T.n_all bt_all (da_cons (de_lc (o := false) (own := [("column", 4)]) (tg := (.one 4)) rfl sc_Sheet_init.nd (di_any (dv 3)) (blkOk_by (own := [("column", 4)]) (N := N_Sheet_init) (sc := defScope s_Sheet_init) (by decide +kernel)) (by decide) (fun _ _ _ _ _ => (pg_name (i := 4) sc_Sheet_init.nd rfl (Or.inl rfl))) (fun _ _ _ _ _ => dts_nil) (fun _ _ _ _ _ => (de_callG G_is_column (hr.mono (by decide)) T.g_is_column (da_cons (dv 4) (da_cons (dv 1) (da_cons (dv 2) da_nil)))))) da_nil))))))) (dss_one ds_never) dss_nil) (dss_cons (ds_fld T.c_Sheet T.na_Sheet_held_base (dv 0) (dv 1)) (dss_cons (ds_fld T.c_Sheet T.na_Sheet_held_rows (dv 0) (dv 2)) (dss_cons (ds_fld T.c_Sheet T.na_Sheet_held_columns (dv 0) (de_callTy call_listA cd_listE rfl T.n_list bt_list (da_cons (dv 3) da_nil))) (dss_one (ds_fld T.c_Sheet T.na_Sheet_size (dv 0) (de_callB call_lenA cd_len rfl T.n_len bt_len (da_cons (dv 3) da_nil))))))))))
def t_taken (K : PySem.W.Frag) : DS := (sSeq (sIf (dOr (eTest (eBin qIs (eV 3) (eC .non))) (eTest (eBin (qIn true) (eBin qIx (eV 3) (eC (.int 0))) (eTup (aCons (eC (.str "read")) (aCons (eC (.str "copy")) aNil)))))) (sRet (eV 1)) sNext) (sSeq (sAsg (eCB (qList true) (aCons (eV 1) aNil)) 4) (sSeq (sAsg (eBin qIx (eV 3) (eC (.int 1))) 5) (sSeq (sIf (eTest (eBin qEq (eBin qIx (eV 3) (eC (.int 0))) (eC (.str "read")))) (sSub (eBin (qMod) (eBin (qAdd false) (eBin qIx (eV 4) (eV 5)) (eBin qIx (eV 3) (eC (.int 2)))) (eV 0)) (eV 4) (eV 5)) (sSub (eBin qIx (eV 2) (eV 5)) (eV 4) (eV 5))) (sRet (eCB qTuple (aCons (eV 4) aNil)))))))
theorem d_taken (T : Txt K mg) : ∀ (cdv : Value) (A : Around) (outer : List Env) (s : Shared) (H : Hp) (E : XK) (B : Bs), Room 1 (A.deeper (envOfC "taken" (defScope s_taken) s.heap.objs.size (He.ga K "taken") cdv)) → PSs (cx0 P w K mg base N_taken "taken" (defScope s_taken) (He.ga K "taken") cdv A outer s H E) (defBody s_taken) (lS K B (t_taken K)) := by
  intro cdv A outer s H E B hr
  exact (dss_cons (ds_if (PW.pt (dw_or (dt_cmp op_isA od_is (dv 3) de_non (nomark _)) (dw_or1 (dt_cmp (op_notInA (units5 hr)) od_in (de_ix (dv 3) de_int (fun _ _ => rfl)) (de_tup (da_cons de_str (da_cons de_str da_nil))) rfl)))) (dss_one (ds_ret (dv 1))) dss_nil) (dss_cons (ds_set (i := 4) sc_taken.nd rfl (Or.inl rfl) (de_callTy call_listA (cd_list (o := true)) rfl T.n_list bt_list (da_cons (dv 1) da_nil))) (dss_cons (ds_set (i := 5) sc_taken.nd rfl (Or.inl rfl) (de_ix (dv 3) de_int (fun _ _ => rfl))) (dss_cons (ds_if (dt_cmp (op_eqD hr.units) od_eq (de_ix (dv 3) de_int (fun _ _ => rfl)) de_str (nomark _)) (dss_one (ds_sub (de_bin op_mod od_mod (de_bin op_addA (od_add (o := false)) (de_ix (dv 4) (dv 5) (fun _ _ => rfl)) (de_ix (dv 3) de_int (fun _ _ => rfl))) (dv 0)) (dv 4) (dv 5))) (dss_one (ds_sub (de_ix (dv 2) (dv 5) (fun _ _ => rfl)) (dv 4) (dv 5)))) (dss_one (ds_ret (de_callTy call_tupleA cd_tuple rfl T.n_tuple bt_tuple (da_cons (dv 4) da_nil))))))))
def t_done (K : PySem.W.Frag) : DS := (sSeq (sAsg (eC .non) 5) (sSeq (sIf (eTest (eBin qIsNot (eV 4) (eC .non))) (sAsg (eBin qIx (eV 4) (eC (.int 0))) 5) sNext) (sSeq (sIf (eTest (eBin qEq (eV 5) (eC (.str "out")))) (sRet (eTup (aCons (eLst false aNil) (aCons (eV 3) aNil)))) sNext) (sSeq (sIf (dAnd (eTest (eBin qEq (eV 5) (eC (.str "copy")))) (eTest (eBin qIs (eV 2) (eC .non)))) (sRet (eC .non)) sNext) (sSeq (sAsg (eBin (qAdd false) (eCB qSum (aCons (eCall (sp_taken K) (aCons (eV 0) (aCons (eV 1) (aCons (eV 2) (aCons (eV 4) aNil))))) aNil)) (eV 3)) 6) (sSeq (sAsg (eBin (qMod) (eV 6) (eV 0)) 7) (sSeq (sAsg (eBin (qFdiv) (eV 6) (eV 0)) 8) (sSeq (sIf (eTest (eBin qEq (eV 5) (eC (.str "forget")))) (sSeq (sIf (eTest (eBin qEq (eV 8) (eC (.int 0)))) (sRet (eC .non)) sNext) (sRet (eTup (aCons (eLst false (aCons (eV 7) aNil)) (aCons (eC (.int 0)) aNil))))) sNext) (sSeq (sIf (eTest (eBin qEq (eV 5) (eC (.str "again")))) (sRet (eTup (aCons (eLst false (aCons (eV 7) aNil)) (aCons (eBin (qAdd false) (eV 8) (eC (.int 1))) aNil)))) sNext) (sSeq (sIf (eTest (eBin qEq (eV 5) (eC (.str "off")))) (sRet (eTup (aCons (eLst false (aCons (eBin (qMod) (eBin (qAdd false) (eV 7) (eBin qIx (eV 4) (eC (.int 1)))) (eV 0)) aNil)) (aCons (eV 8) aNil)))) sNext) (sSeq (sIf (eTest (eBin qEq (eV 5) (eC (.str "twice")))) (sSeq (sAsg (eBin (qAdd false) (eCB qSum (aCons (eV 1) aNil)) (eV 8)) 6) (sRet (eTup (aCons (eLst false (aCons (eV 7) (aCons (eBin (qMod) (eV 6) (eV 0)) aNil))) (aCons (eBin (qFdiv) (eV 6) (eV 0)) aNil))))) sNext) (sRet (eTup (aCons (eLst false (aCons (eV 7) aNil)) (aCons (eV 8) aNil)))))))))))))))
theorem d_done (T : Txt K mg) (G_taken : Good P w K mg base 2 (He.ga K "taken") ["base", "column", "before", "deed"] (sp_taken K)) : ∀ (cdv : Value) (A : Around) (outer : List Env) (s : Shared) (H : Hp) (E : XK) (B : Bs), Room 4 (A.deeper (envOfC "done" (defScope s_done) s.heap.objs.size (He.ga K "done") cdv)) → PSs (cx0 P w K mg base N_done "done" (defScope s_done) (He.ga K "done") cdv A outer s H E) (defBody s_done) (lS K B (t_done K)) := by
  intro cdv A outer s H E B hr
  exact (dss_cons (ds_set (i := 5) sc_done.nd rfl (Or.inl rfl) de_non) (dss_cons (ds_if (dt_cmp op_isNotA od_isNot (dv 4) de_non (nomark _)) (dss_one (ds_set (i := 5) sc_done.nd rfl (Or.inl rfl) (de_ix (dv 4) de_int (fun _ _ => rfl)))) dss_nil) (dss_cons (ds_if (dt_cmp (op_eqD hr.units) od_eq (dv 5) de_str (nomark _)) (dss_one (ds_ret (de_tup (da_cons (de_lst (o := false) da_nil) (da_cons (dv 3) da_nil))))) dss_nil) (dss_cons (ds_if (PW.pt (dw_and (dt_cmp (op_eqD hr.units) od_eq (dv 5) de_str (nomark _)) (dw_and1 (dt_cmp op_isA od_is (dv 2) de_non (nomark _))))) (dss_one (ds_ret de_non)) dss_nil) (dss_cons (ds_set (i := 6) sc_done.nd rfl (Or.inl rfl) (de_bin op_addA (od_add (o := false)) (de_callB (call_sumA rfl) cd_sum rfl T.n_sum bt_sum (da_cons (de_callG G_taken (hr.mono (by decide)) T.g_taken (da_cons (dv 0) (da_cons (dv 1) (da_cons (dv 2) (da_cons (dv 4) da_nil))))) da_nil)) (dv 3))) (dss_cons (ds_set (i := 7) sc_done.nd rfl (Or.inl rfl) (de_bin op_mod od_mod (dv 6) (dv 0))) (dss_cons (ds_set (i := 8) sc_done.nd rfl (Or.inl rfl) (de_bin op_fdivA od_fdiv (dv 6) (dv 0))) (dss_cons (ds_if (dt_cmp (op_eqD hr.units) od_eq (dv 5) de_str (nomark _)) (dss_cons (ds_if (dt_cmp (op_eqD hr.units) od_eq (dv 8) de_int (nomark _)) (dss_one (ds_ret de_non)) dss_nil) (dss_one (ds_ret (de_tup (da_cons (de_lst (o := false) (da_cons (dv 7) da_nil)) (da_cons de_int da_nil)))))) dss_nil) (dss_cons (ds_if (dt_cmp (op_eqD hr.units) od_eq (dv 5) de_str (nomark _)) (dss_one (ds_ret (de_tup (da_cons (de_lst (o := false) (da_cons (dv 7) da_nil)) (da_cons (de_bin op_addA (od_add (o := false)) (dv 8) de_int) da_nil))))) dss_nil) (dss_cons (ds_if (dt_cmp (op_eqD hr.units) od_eq (dv 5) de_str (nomark _)) (dss_one (ds_ret (de_tup (da_cons (de_lst (o := false) (da_cons (de_bin op_mod od_mod (de_bin op_addA (od_add (o := false)) (dv 7) (de_ix (dv 4) de_int (fun _ _ => rfl))) (dv 0)) da_nil)) (da_cons (dv 8) da_nil))))) dss_nil) (dss_cons (ds_if (dt_cmp (op_eqD hr.units) od_eq (dv 5) de_str (nomark _)) (dss_cons (ds_set (i := 6) sc_done.nd rfl (Or.inl rfl) (de_bin op_addA (od_add (o := false)) (de_callB (call_sumA rfl) cd_sum rfl T.n_sum bt_sum (da_cons (dv 1) da_nil)) (dv 8))) (dss_one (ds_ret (de_tup (da_cons (de_lst (o := false) (da_cons (dv 7) (da_cons (de_bin op_mod od_mod (dv 6) (dv 0)) da_nil))) (da_cons (de_bin op_fdivA od_fdiv (dv 6) (dv 0)) da_nil)))))) dss_nil) (dss_one (ds_ret (de_tup (da_cons (de_lst (o := false) (da_cons (dv 7) da_nil)) (da_cons (dv 8) da_nil))))))))))))))))
def u_Adding_do_1 (K : PySem.W.Frag) : DS := (sSeq (sIf (eTest (eBin qIsNot (eFld (He.ga K "Adding") "waiting" (eV 0)) (eC .non))) (sSeq (sAsg (eBin (qAdd false) (eV 4) (eLst false (aCons (eFld (He.ga K "Adding") "waiting" (eV 0)) aNil))) 4) (sFldU (He.ga K "Adding") "waiting" (eV 0) (eC .non))) (sIf (eTest (eBin qEq (eV 1) (eTup (aCons (eC (.str "swap")) aNil)))) (sSeq (sFldU (He.ga K "Adding") "waiting" (eV 0) (eBin qIx (eV 4) (eC (.int 0)))) (sAsg (eLst false aNil) 4)) sNext)) (sSeq (sFldU (He.ga K "Adding") "written" (eV 0) (eBin (qAdd false) (eFld (He.ga K "Adding") "written" (eV 0)) (eV 4))) (sRet (eC (.bl true)))))
def u_Adding_do_2 (K : PySem.W.Frag) : DS := (sSeq (sAsg (eCall (sp_done K) (aCons (eFld (He.ga K "Adding") "system" (eV 0)) (aCons (eBin qIx (eFld (He.ga K "Adding") "given" (eV 0)) (eFld (He.ga K "Adding") "at" (eV 0))) (aCons (eV 2) (aCons (eFld (He.ga K "Adding") "carry" (eV 0)) (aCons (eV 1) aNil)))))) 3) (sSeq (sIf (eTest (eBin qIs (eV 3) (eC .non))) (sRet (eC (.bl false))) sNext) (sSeq (sAsgG (eV 3) (gT 2 (gC (gN 4) (gC (gF (He.ga K "Adding") "carry" (eV 0)) gZ)))) (sSeq (sFldA (He.ga K "Adding") "at" qAddI (eV 0) (eC (.int 1))) (u_Adding_do_1 K)))))
def u_Adding_do_0 (K : PySem.W.Frag) : DS := (sSeq (sIf (dAnd (eTest (eBin qEq (eV 1) (eTup (aCons (eC (.str "swap")) aNil)))) (eTest (eBin qEq (eBin (qAdd false) (eFld (He.ga K "Adding") "at" (eV 0)) (eC (.int 1))) (eCB qLen (aCons (eFld (He.ga K "Adding") "given" (eV 0)) aNil))))) (sRet (eC (.bl false))) sNext) (u_Adding_do_2 K))
def t_Adding_do (K : PySem.W.Frag) : DS := (sSeq (sAsg (eC .non) 2) (sSeq (sIf (eTest (eBin qGt (eFld (He.ga K "Adding") "at" (eV 0)) (eC (.int 0)))) (sAsg (eBin qIx (eFld (He.ga K "Adding") "given" (eV 0)) (eBin (qSub) (eFld (He.ga K "Adding") "at" (eV 0)) (eC (.int 1)))) 2) sNext) (u_Adding_do_0 K)))
theorem d_Adding_do (T : Txt K mg) (G_done : Good P w K mg base 5 (He.ga K "done") ["base", "column", "before", "carry", "deed"] (sp_done K)) : ∀ (cdv : Value) (A : Around) (outer : List Env) (s : Shared) (H : Hp) (E : XK) (B : Bs), Room 7 (A.deeper (envOfC "Adding.do" (defScope s_Adding_do) s.heap.objs.size (He.ma K (He.ga K "Adding") "do") cdv)) → PSs (cx0 P w K mg base N_Adding_do "Adding.do" (defScope s_Adding_do) (He.ma K (He.ga K "Adding") "do") cdv A outer s H E) (defBody s_Adding_do) (lS K B (t_Adding_do K)) := by
  intro cdv A outer s H E B hr
  have h : PSs (cx0 P w K mg base N_Adding_do "Adding.do" (defScope s_Adding_do) (He.ma K (He.ga K "Adding") "do") cdv A outer s H E) (defBody s_Adding_do) (lS K B (sSeq (sAsg (eC .non) 2) (sSeq (sIf (eTest (eBin qGt (eFld (He.ga K "Adding") "at" (eV 0)) (eC (.int 0)))) (sAsg (eBin qIx (eFld (He.ga K "Adding") "given" (eV 0)) (eBin (qSub) (eFld (He.ga K "Adding") "at" (eV 0)) (eC (.int 1)))) 2) sNext) (sSeq (sIf (dAnd (eTest (eBin qEq (eV 1) (eTup (aCons (eC (.str "swap")) aNil)))) (eTest (eBin qEq (eBin (qAdd false) (eFld (He.ga K "Adding") "at" (eV 0)) (eC (.int 1))) (eCB qLen (aCons (eFld (He.ga K "Adding") "given" (eV 0)) aNil))))) (sRet (eC (.bl false))) sNext) (sSeq (sAsg (eCall (sp_done K) (aCons (eFld (He.ga K "Adding") "system" (eV 0)) (aCons (eBin qIx (eFld (He.ga K "Adding") "given" (eV 0)) (eFld (He.ga K "Adding") "at" (eV 0))) (aCons (eV 2) (aCons (eFld (He.ga K "Adding") "carry" (eV 0)) (aCons (eV 1) aNil)))))) 3) (sSeq (sIf (eTest (eBin qIs (eV 3) (eC .non))) (sRet (eC (.bl false))) sNext) (sSeq (sAsgG (eV 3) (gT 2 (gC (gN 4) (gC (gF (He.ga K "Adding") "carry" (eV 0)) gZ)))) (sSeq (sFldA (He.ga K "Adding") "at" qAddI (eV 0) (eC (.int 1))) (sSeq (sIf (eTest (eBin qIsNot (eFld (He.ga K "Adding") "waiting" (eV 0)) (eC .non))) (sSeq (sAsg (eBin (qAdd false) (eV 4) (eLst false (aCons (eFld (He.ga K "Adding") "waiting" (eV 0)) aNil))) 4) (sFldU (He.ga K "Adding") "waiting" (eV 0) (eC .non))) (sIf (eTest (eBin qEq (eV 1) (eTup (aCons (eC (.str "swap")) aNil)))) (sSeq (sFldU (He.ga K "Adding") "waiting" (eV 0) (eBin qIx (eV 4) (eC (.int 0)))) (sAsg (eLst false aNil) 4)) sNext)) (sSeq (sFldU (He.ga K "Adding") "written" (eV 0) (eBin (qAdd false) (eFld (He.ga K "Adding") "written" (eV 0)) (eV 4))) (sRet (eC (.bl true))))))))))))) := (dss_cons (ds_set (i := 2) sc_Adding_do.nd rfl (Or.inl rfl) de_non) (dss_cons (ds_if (dt_cmp op_gt od_gt (de_fld T.c_Adding T.na_Adding_at (dv 0)) de_int (nomark _)) (dss_one (ds_set (i := 2) sc_Adding_do.nd rfl (Or.inl rfl) (de_ix (de_fld T.c_Adding T.na_Adding_given (dv 0)) (de_bin op_sub od_sub (de_fld T.c_Adding T.na_Adding_at (dv 0)) de_int) (fun _ _ => rfl)))) dss_nil) (dss_cons (ds_if (PW.pt (dw_and (dt_cmp (op_eqD hr.units) od_eq (dv 1) (de_tup (da_cons de_str da_nil)) (nomark _)) (dw_and1 (dt_cmp (op_eqD hr.units) od_eq (de_bin op_addA (od_add (o := false)) (de_fld T.c_Adding T.na_Adding_at (dv 0)) de_int) (de_callB call_lenA cd_len rfl T.n_len bt_len (da_cons (de_fld T.c_Adding T.na_Adding_given (dv 0)) da_nil)) (nomark _))))) (dss_one (ds_ret de_bl)) dss_nil) (dss_cons (ds_set (i := 3) sc_Adding_do.nd rfl (Or.inl rfl) (de_callG G_done (hr.mono (by decide)) T.g_done (da_cons (de_fld T.c_Adding T.na_Adding_system (dv 0)) (da_cons (de_ix (de_fld T.c_Adding T.na_Adding_given (dv 0)) (de_fld T.c_Adding T.na_Adding_at (dv 0)) (fun _ _ => rfl)) (da_cons (dv 2) (da_cons (de_fld T.c_Adding T.na_Adding_carry (dv 0)) (da_cons (dv 1) da_nil))))))) (dss_cons (ds_if (dt_cmp op_isA od_is (dv 3) de_non (nomark _)) (dss_one (ds_ret de_bl)) dss_nil) (dss_cons (ds_asgG (dv 3) (dg_tup rfl (dg_cons (dg_name (i := 4) sc_Adding_do.nd rfl (Or.inl rfl)) (dg_cons (dg_fld T.c_Adding T.na_Adding_carry (dv 0)) dg_nil)))) (dss_cons (ds_fldA T.c_Adding T.na_Adding_at (dv 0) de_int in_add od_inadd) (dss_cons (ds_if (dt_cmp op_isNotA od_isNot (de_fld T.c_Adding T.na_Adding_waiting (dv 0)) de_non (nomark _)) (dss_cons (ds_set (i := 4) sc_Adding_do.nd rfl (Or.inl rfl) (de_bin op_addA (od_add (o := false)) (dv 4) (de_lst (o := false) (da_cons (de_fld T.c_Adding T.na_Adding_waiting (dv 0)) da_nil)))) (dss_one (ds_fldU T.c_Adding T.na_Adding_waiting (dv 0) de_non))) (dss_one (ds_if (dt_cmp (op_eqD hr.units) od_eq (dv 1) (de_tup (da_cons de_str da_nil)) (nomark _)) (dss_cons (ds_fldU T.c_Adding T.na_Adding_waiting (dv 0) (de_ix (dv 4) de_int (fun _ _ => rfl))) (dss_one (ds_set (i := 4) sc_Adding_do.nd rfl (Or.inl rfl) (de_lst (o := false) da_nil)))) dss_nil))) (dss_cons (ds_fldU T.c_Adding T.na_Adding_written (dv 0) (de_bin op_addA (od_add (o := false)) (de_fld T.c_Adding T.na_Adding_written (dv 0)) (dv 4))) (dss_one (ds_ret de_bl)))))))))))
  exact h
def t_Adding_do_until (K : PySem.W.Frag) : DS := (sWhile (eTest (eBin qLt (eFld (He.ga K "Adding") "at" (eV 0)) (eV 1))) (sDrop (eMeth (He.ga K "Adding") "do" (sp_Adding_do K) (eV 0) (aCons (eC .non) aNil))))
theorem d_Adding_do_until (T : Txt K mg) (G_Adding_do : Good P w K mg base 8 (He.ma K (He.ga K "Adding") "do") ["self", "deed"] (sp_Adding_do K)) : ∀ (cdv : Value) (A : Around) (outer : List Env) (s : Shared) (H : Hp) (E : XK) (B : Bs), Room 10 (A.deeper (envOfC "Adding.do_until" (defScope s_Adding_do_until) s.heap.objs.size (He.ma K (He.ga K "Adding") "do_until") cdv)) → PSs (cx0 P w K mg base N_Adding_do_until "Adding.do_until" (defScope s_Adding_do_until) (He.ma K (He.ga K "Adding") "do_until") cdv A outer s H E) (defBody s_Adding_do_until) (lS K B (t_Adding_do_until K)) := by
  intro cdv A outer s H E B hr
  exact (dss_one (ds_while PassesOwn.never (dt_cmp op_lt od_lt (de_fld T.c_Adding T.na_Adding_at (dv 0)) (dv 1) (nomark _)) (dss_one (ds_expr (de_methG G_Adding_do (hr.mono (by decide)) T.c_Adding T.m_Adding_do (dv 0) (da_cons de_non da_nil))))))
def t_Written_init (K : PySem.W.Frag) : DS := (sSeq (sFldD (He.ga K "Written") "held_base" (eV 0) (eV 1)) (sSeq (sFldD (He.ga K "Written") "held_figures" (eV 0) (eCB (qList false) (aCons (eV 2) aNil))) (sFldD (He.ga K "Written") "held_last" (eV 0) (eV 3))))
theorem d_Written_init (T : Txt K mg) : ∀ (cdv : Value) (A : Around) (outer : List Env) (s : Shared) (H : Hp) (E : XK) (B : Bs), Room 1 (A.deeper (envOfC "Written.__init__" (defScope s_Written_init) s.heap.objs.size (He.ma K (He.ga K "Written") "__init__") cdv)) → PSs (cx0 P w K mg base N_Written_init "Written.__init__" (defScope s_Written_init) (He.ma K (He.ga K "Written") "__init__") cdv A outer s H E) (defBody s_Written_init) (lS K B (t_Written_init K)) := by
  intro cdv A outer s H E B hr
  exact (dss_cons (ds_fld T.c_Written T.na_Written_held_base (dv 0) (dv 1)) (dss_cons (ds_fld T.c_Written T.na_Written_held_figures (dv 0) (de_callTy call_listA (cd_list (o := false)) rfl T.n_list bt_list (da_cons (dv 2) da_nil))) (dss_one (ds_fld T.c_Written T.na_Written_held_last (dv 0) (dv 3)))))
def t_Adding_result (K : PySem.W.Frag) : DS := (sSeq (sDrop (eMeth (He.ga K "Adding") "do_until" (sp_Adding_do_until K) (eV 0) (aCons (eCB qLen (aCons (eFld (He.ga K "Adding") "given" (eV 0)) aNil)) aNil))) (sRet (eMake (He.ga K "Written") (sp_Written_init K) (aCons (eFld (He.ga K "Adding") "system" (eV 0)) (aCons (eFld (He.ga K "Adding") "written" (eV 0)) (aCons (eFld (He.ga K "Adding") "carry" (eV 0)) aNil))))))
theorem d_Adding_result (T : Txt K mg) (G_Adding_do_until : Good P w K mg base 11 (He.ma K (He.ga K "Adding") "do_until") ["self", "column"] (sp_Adding_do_until K)) (G_Written_init : Good P w K mg base 2 (He.ma K (He.ga K "Written") "__init__") ["self", "base", "figures", "last"] (sp_Written_init K)) : ∀ (cdv : Value) (A : Around) (outer : List Env) (s : Shared) (H : Hp) (E : XK) (B : Bs), Room 13 (A.deeper (envOfC "Adding.result" (defScope s_Adding_result) s.heap.objs.size (He.ma K (He.ga K "Adding") "result") cdv)) → PSs (cx0 P w K mg base N_Adding_result "Adding.result" (defScope s_Adding_result) (He.ma K (He.ga K "Adding") "result") cdv A outer s H E) (defBody s_Adding_result) (lS K B (t_Adding_result K)) := by
  intro cdv A outer s H E B hr
  exact (dss_cons (ds_expr (de_methG G_Adding_do_until (hr.mono (by decide)) T.c_Adding T.m_Adding_do_until (dv 0) (da_cons (de_callB call_lenA cd_len rfl T.n_len bt_len (da_cons (de_fld T.c_Adding T.na_Adding_given (dv 0)) da_nil)) da_nil))) (dss_one (ds_ret (de_makeG G_Written_init (hr.mono (by decide)) T.mk_Written T.g_Written (da_cons (de_fld T.c_Adding T.na_Adding_system (dv 0)) (da_cons (de_fld T.c_Adding T.na_Adding_written (dv 0)) (da_cons (de_fld T.c_Adding T.na_Adding_carry (dv 0)) da_nil)))))))
def t_Sheet_base (K : PySem.W.Frag) : DS := (sRet (eFld (He.ga K "Sheet") "held_base" (eV 0)))
theorem d_Sheet_base (T : Txt K mg) : ∀ (cdv : Value) (A : Around) (outer : List Env) (s : Shared) (H : Hp) (E : XK) (B : Bs), Room 1 (A.deeper (envOfC "Sheet.base" (defScope s_Sheet_base) s.heap.objs.size (pga K (He.ga K "Sheet") "base") cdv)) → PSs (cx0 P w K mg base N_Sheet_base "Sheet.base" (defScope s_Sheet_base) (pga K (He.ga K "Sheet") "base") cdv A outer s H E) (defBody s_Sheet_base) (lS K B (t_Sheet_base K)) := by
  intro cdv A outer s H E B hr
  exact (dss_one (ds_ret (de_fld T.c_Sheet T.na_Sheet_held_base (dv 0))))
def t_Sheet_columns (K : PySem.W.Frag) : DS := (sRet (eCB (qList true) (aCons (eFld (He.ga K "Sheet") "held_columns" (eV 0)) aNil)))
theorem d_Sheet_columns (T : Txt K mg) : ∀ (cdv : Value) (A : Around) (outer : List Env) (s : Shared) (H : Hp) (E : XK) (B : Bs), Room 1 (A.deeper (envOfC "Sheet.columns" (defScope s_Sheet_columns) s.heap.objs.size (pga K (He.ga K "Sheet") "columns") cdv)) → PSs (cx0 P w K mg base N_Sheet_columns "Sheet.columns" (defScope s_Sheet_columns) (pga K (He.ga K "Sheet") "columns") cdv A outer s H E) (defBody s_Sheet_columns) (lS K B (t_Sheet_columns K)) := by
  intro cdv A outer s H E B hr
  exact (dss_one (ds_ret (de_callTy call_listA (cd_list (o := true)) rfl T.n_list bt_list (da_cons (de_fld T.c_Sheet T.na_Sheet_held_columns (dv 0)) da_nil))))
def t_Adding_init (K : PySem.W.Frag) : DS := (sSeq (sFldD (He.ga K "Adding") "system" (eV 0) (eProp (He.ga K "Sheet") (sp_Sheet_base K) (eV 1))) (sSeq (sFldD (He.ga K "Adding") "given" (eV 0) (eProp (He.ga K "Sheet") (sp_Sheet_columns K) (eV 1))) (sSeq (sFldD (He.ga K "Adding") "at" (eV 0) (eC (.int 0))) (sSeq (sFldD (He.ga K "Adding") "written" (eV 0) (eLst false aNil)) (sSeq (sFldD (He.ga K "Adding") "carry" (eV 0) (eC (.int 0))) (sFldD (He.ga K "Adding") "waiting" (eV 0) (eC .non)))))))
theorem d_Adding_init (T : Txt K mg) (G_Sheet_base : Good P w K mg base 2 (pga K (He.ga K "Sheet") "base") ["self"] (sp_Sheet_base K)) (G_Sheet_columns : Good P w K mg base 2 (pga K (He.ga K "Sheet") "columns") ["self"] (sp_Sheet_columns K)) : ∀ (cdv : Value) (A : Around) (outer : List Env) (s : Shared) (H : Hp) (E : XK) (B : Bs), Room 4 (A.deeper (envOfC "Adding.__init__" (defScope s_Adding_init) s.heap.objs.size (He.ma K (He.ga K "Adding") "__init__") cdv)) → PSs (cx0 P w K mg base N_Adding_init "Adding.__init__" (defScope s_Adding_init) (He.ma K (He.ga K "Adding") "__init__") cdv A outer s H E) (defBody s_Adding_init) (lS K B (t_Adding_init K)) := by
  intro cdv A outer s H E B hr
  exact (dss_cons (ds_fld T.c_Adding T.na_Adding_system (dv 0) (de_propG G_Sheet_base (hr.mono (by decide)) T.c_Sheet T.p_Sheet_base (dv 1))) (dss_cons (ds_fld T.c_Adding T.na_Adding_given (dv 0) (de_propG G_Sheet_columns (hr.mono (by decide)) T.c_Sheet T.p_Sheet_columns (dv 1))) (dss_cons (ds_fld T.c_Adding T.na_Adding_at (dv 0) de_int) (dss_cons (ds_fld T.c_Adding T.na_Adding_written (dv 0) (de_lst (o := false) da_nil)) (dss_cons (ds_fld T.c_Adding T.na_Adding_carry (dv 0) de_int) (dss_one (ds_fld T.c_Adding T.na_Adding_waiting (dv 0) de_non)))))))
def t_add_right (K : PySem.W.Frag) : DS := (sRet (eMeth (He.ga K "Adding") "result" (sp_Adding_result K) (eMake (He.ga K "Adding") (sp_Adding_init K) (aCons (eV 0) aNil)) aNil))
theorem d_add_right (T : Txt K mg) (G_Adding_result : Good P w K mg base 14 (He.ma K (He.ga K "Adding") "result") ["self"] (sp_Adding_result K)) (G_Adding_init : Good P w K mg base 5 (He.ma K (He.ga K "Adding") "__init__") ["self", "sheet"] (sp_Adding_init K)) : ∀ (cdv : Value) (A : Around) (outer : List Env) (s : Shared) (H : Hp) (E : XK) (B : Bs), Room 16 (A.deeper (envOfC "add_right" (defScope s_add_right) s.heap.objs.size (He.ga K "add_right") cdv)) → PSs (cx0 P w K mg base N_add_right "add_right" (defScope s_add_right) (He.ga K "add_right") cdv A outer s H E) (defBody s_add_right) (lS K B (t_add_right K)) := by
  intro cdv A outer s H E B hr
  exact (dss_one (ds_ret (de_methG0 G_Adding_result (hr.mono (by decide)) T.c_Adding T.m_Adding_result (de_makeG G_Adding_init (hr.mono (by decide)) T.mk_Adding T.g_Adding (da_cons (dv 0) da_nil)))))
def t_Written_figures (K : PySem.W.Frag) : DS := (sRet (eCB (qList true) (aCons (eFld (He.ga K "Written") "held_figures" (eV 0)) aNil)))
theorem d_Written_figures (T : Txt K mg) : ∀ (cdv : Value) (A : Around) (outer : List Env) (s : Shared) (H : Hp) (E : XK) (B : Bs), Room 1 (A.deeper (envOfC "Written.figures" (defScope s_Written_figures) s.heap.objs.size (pga K (He.ga K "Written") "figures") cdv)) → PSs (cx0 P w K mg base N_Written_figures "Written.figures" (defScope s_Written_figures) (pga K (He.ga K "Written") "figures") cdv A outer s H E) (defBody s_Written_figures) (lS K B (t_Written_figures K)) := by
  intro cdv A outer s H E B hr
  exact (dss_one (ds_ret (de_callTy call_listA (cd_list (o := true)) rfl T.n_list bt_list (da_cons (de_fld T.c_Written T.na_Written_held_figures (dv 0)) da_nil))))
def t_Sheet_len (K : PySem.W.Frag) : DS := (sRet (eCB qLen (aCons (eFld (He.ga K "Sheet") "held_columns" (eV 0)) aNil)))
theorem d_Sheet_len (T : Txt K mg) : ∀ (cdv : Value) (A : Around) (outer : List Env) (s : Shared) (H : Hp) (E : XK) (B : Bs), Room 1 (A.deeper (envOfC "Sheet.__len__" (defScope s_Sheet_len) s.heap.objs.size (He.ma K (He.ga K "Sheet") "__len__") cdv)) → PSs (cx0 P w K mg base N_Sheet_len "Sheet.__len__" (defScope s_Sheet_len) (He.ma K (He.ga K "Sheet") "__len__") cdv A outer s H E) (defBody s_Sheet_len) (lS K B (t_Sheet_len K)) := by
  intro cdv A outer s H E B hr
  exact (dss_one (ds_ret (de_callB call_lenA cd_len rfl T.n_len bt_len (da_cons (de_fld T.c_Sheet T.na_Sheet_held_columns (dv 0)) da_nil))))
def t_law_power (K : PySem.W.Frag) : DS := (sSeq (sAsg (eC (.int 1)) 2) (sSeq (sFor (iR1 (aCons (eV 1) aNil)) (.one 3) (sAsg (eBin (qMul) (eV 2) (eV 0)) 2)) (sRet (eV 2))))
theorem d_law_power (T : Txt K mg) : ∀ (cdv : Value) (A : Around) (outer : List Env) (s : Shared) (H : Hp) (E : XK) (B : Bs), Room 1 (A.deeper (envOfC "_law_power" (defScope s_law_power) s.heap.objs.size (He.ga K "_law_power") cdv)) → PSs (cx0 P w K mg base N_law_power "_law_power" (defScope s_law_power) (He.ga K "_law_power") cdv A outer s H E) (defBody s_law_power) (lS K B (t_law_power K)) := by
  intro cdv A outer s H E B hr
  exact (dss_cons (ds_set (i := 2) sc_law_power.nd rfl (Or.inl rfl) de_int) (dss_cons (ds_for (tg := (.one 3)) PassesOwn.never rfl (di_range1 rfl T.n_range (da_cons (dv 1) da_nil)) (pg_name (i := 3) sc_law_power.nd rfl (Or.inl rfl)) (dss_one (ds_set (i := 2) sc_law_power.nd rfl (Or.inl rfl) (de_bin op_mulA od_mul (dv 2) (dv 0))))) (dss_one (ds_ret (dv 2)))))
def t_law_marked (K : PySem.W.Frag) : DS := (sSeq (sAsgT (eTup (aCons (eLst true aNil) (aCons (eCB (qList false) (aCons (eProp (He.ga K "Written") (sp_Written_figures K) (eV 2)) aNil)) (aCons (eC (.int 0)) (aCons (eC (.int 0)) aNil))))) (.tup [3, 4, 5, 6])) (sSeq (sFor (iR1 (aCons (eCB (qLenO (He.ga K "Sheet") (sp_Sheet_len K)) (aCons (eV 1) aNil)) aNil)) (.one 7) (sIf (eTest (eBin qLt (eV 6) (eCB (qLenO (He.ga K "Sheet") (sp_Sheet_len K)) (aCons (eV 1) aNil)))) (sSeq (sPar 8 9 (aCons (eCall (sp_law_take K) (aCons (eV 0) (aCons (eC (.int 4)) aNil))) (aCons (eCall (sp_law_power K) (aCons (eProp (He.ga K "Sheet") (sp_Sheet_base K) (eV 1)) (aCons (eV 6) aNil))) aNil))) (sSeq (sIf (eTest (eBin qEq (eV 8) (eC (.int 0)))) (sSeq (sAsg (eTup (aCons (eC (.str "off")) (aCons (eBin (qAdd false) (eC (.int 1)) (eCall (sp_law_take K) (aCons (eV 0) (aCons (eBin (qSub) (eProp (He.ga K "Sheet") (sp_Sheet_base K) (eV 1)) (eC (.int 1))) aNil)))) aNil))) 10) (sSeq (sAsg (eBin (qMod) (eCB qInt (aCons (eBin (qAdd false) (eBin qIx (eV 4) (eV 6)) (eBin qIx (eV 10) (eC (.int 1)))) aNil)) (eProp (He.ga K "Sheet") (sp_Sheet_base K) (eV 1))) 11) (sSeq (sPar 5 4 (aCons (eBin (qAdd false) (eV 5) (eBin (qMul) (eBin (qSub) (eV 11) (eBin qIx (eV 4) (eV 6))) (eV 9))) (aCons (eBin (qAdd false) (eBin (qAdd false) (eSl false (eV 4) oNone (oSome (eV 6))) (eLst false (aCons (eV 11) aNil))) (eSl false (eV 4) (oSome (eBin (qAdd false) (eV 6) (eC (.int 1)))) oNone)) aNil))) (sDrop (eBM qApp (eV 3) (aCons (eTup (aCons (eV 6) (aCons (eV 10) aNil))) aNil)))))) sNext) (sSeq (sIf (dAnd (eTest (eBin qEq (eV 8) (eC (.int 1)))) (eTest (eBin qLt (eBin (qAdd false) (eV 6) (eC (.int 1))) (eCB (qLenO (He.ga K "Sheet") (sp_Sheet_len K)) (aCons (eV 1) aNil))))) (sSeq (sPar 12 13 (aCons (eBin qIx (eV 4) (eV 6)) (aCons (eBin qIx (eV 4) (eBin (qAdd false) (eV 6) (eC (.int 1)))) aNil))) (sSeq (sPar 5 4 (aCons (eBin (qAdd false) (eV 5) (eBin (qMul) (eBin (qMul) (eBin (qSub) (eV 12) (eV 13)) (eBin (qSub) (eProp (He.ga K "Sheet") (sp_Sheet_base K) (eV 1)) (eC (.int 1)))) (eV 9))) (aCons (eBin (qAdd false) (eBin (qAdd false) (eSl false (eV 4) oNone (oSome (eV 6))) (eLst false (aCons (eV 13) (aCons (eV 12) aNil)))) (eSl false (eV 4) (oSome (eBin (qAdd false) (eV 6) (eC (.int 2)))) oNone)) aNil))) (sSeq (sDrop (eBM qApp (eV 3) (aCons (eTup (aCons (eV 6) (aCons (eTup (aCons (eC (.str "swap")) aNil)) aNil))) aNil))) (sAsg (eBin (qAdd false) (eV 6) (eC (.int 1))) 6)))) sNext) (sAsg (eBin (qAdd false) (eV 6) (eC (.int 1))) 6)))) sNext)) (sRet (eFz (eLst false (aCons (eV 3) (aCons (eV 4) (aCons (eV 5) aNil))))))))
theorem d_law_marked (T : Txt K mg) (G_Written_figures : Good P w K mg base 2 (pga K (He.ga K "Written") "figures") ["self"] (sp_Written_figures K)) (G_Sheet_len : Good P w K mg base 2 (He.ma K (He.ga K "Sheet") "__len__") ["self"] (sp_Sheet_len K)) (G_law_power : Good P w K mg base 2 (He.ga K "_law_power") ["base", "many"] (sp_law_power K)) (G_Sheet_base : Good P w K mg base 2 (pga K (He.ga K "Sheet") "base") ["self"] (sp_Sheet_base K)) (G_law_take : Good P w K mg base 2 (He.ga K "_law_take") ["bag", "many"] (sp_law_take K)) : ∀ (cdv : Value) (A : Around) (outer : List Env) (s : Shared) (H : Hp) (E : XK) (B : Bs), Room 4 (A.deeper (envOfC "_law_marked" (defScope s_law_marked) s.heap.objs.size (He.ga K "_law_marked") cdv)) → PSs (cx0 P w K mg base N_law_marked "_law_marked" (defScope s_law_marked) (He.ga K "_law_marked") cdv A outer s H E) (defBody s_law_marked) (lS K B (t_law_marked K)) := by
  intro cdv A outer s H E B hr
  exact (dss_cons (ds_asgT (tg := (.tup [3, 4, 5, 6])) (de_tup (da_cons (de_lst (o := true) da_nil) (da_cons (de_callTy call_listA (cd_list (o := false)) rfl T.n_list bt_list (da_cons (de_propG G_Written_figures (hr.mono (by decide)) T.c_Written T.p_Written_figures (dv 2)) da_nil)) (da_cons de_int (da_cons de_int da_nil))))) (pg_tup rfl (pgs_cons (pg_name (i := 3) sc_law_marked.nd rfl (Or.inl rfl)) (pgs_cons (pg_name (i := 4) sc_law_marked.nd rfl (Or.inl rfl)) (pgs_cons (pg_name (i := 5) sc_law_marked.nd rfl (Or.inl rfl)) (pgs_cons (pg_name (i := 6) sc_law_marked.nd rfl (Or.inl rfl)) pgs_nil)))))) (dss_cons (ds_for (tg := (.one 7)) PassesOwn.never rfl (di_range1 rfl T.n_range (da_cons (de_callB (call_lenO G_Sheet_len (hr.mono (by decide)) T.sm_Sheet_len) cd_lenO rfl T.n_len bt_len (da_cons (dv 1) da_nil)) da_nil)) (pg_name (i := 7) sc_law_marked.nd rfl (Or.inl rfl)) (dss_one (ds_if (dt_cmp op_lt od_lt (dv 6) (de_callB (call_lenO G_Sheet_len (hr.mono (by decide)) T.sm_Sheet_len) cd_lenO rfl T.n_len bt_len (da_cons (dv 1) da_nil)) (nomark _)) (dss_cons (ds_par (i := 8) (j := 9) rfl sc_law_marked.nd rfl rfl (by decide) rfl rfl (da_cons (de_callG G_law_take (hr.mono (by decide)) T.g_law_take (da_cons (dv 0) (da_cons de_int da_nil))) (da_cons (de_callG G_law_power (hr.mono (by decide)) T.g_law_power (da_cons (de_propG G_Sheet_base (hr.mono (by decide)) T.c_Sheet T.p_Sheet_base (dv 1)) (da_cons (dv 6) da_nil))) da_nil))) (dss_cons (ds_if (dt_cmp (op_eqD hr.units) od_eq (dv 8) de_int (nomark _)) (dss_cons (ds_set (i := 10) sc_law_marked.nd rfl (Or.inl rfl) (de_tup (da_cons de_str (da_cons (de_bin op_addA (od_add (o := false)) de_int (de_callG G_law_take (hr.mono (by decide)) T.g_law_take (da_cons (dv 0) (da_cons (de_bin op_sub od_sub (de_propG G_Sheet_base (hr.mono (by decide)) T.c_Sheet T.p_Sheet_base (dv 1)) de_int) da_nil)))) da_nil)))) (dss_cons (ds_set (i := 11) sc_law_marked.nd rfl (Or.inl rfl) (de_bin op_mod od_mod (de_callTy call_intA cd_int rfl T.n_int bt_int (da_cons (de_bin op_addA (od_add (o := false)) (de_ix (dv 4) (dv 6) (fun _ _ => rfl)) (de_ix (dv 10) de_int (fun _ _ => rfl))) da_nil)) (de_propG G_Sheet_base (hr.mono (by decide)) T.c_Sheet T.p_Sheet_base (dv 1)))) (dss_cons (ds_par (i := 5) (j := 4) rfl sc_law_marked.nd rfl rfl (by decide) rfl rfl (da_cons (de_bin op_addA (od_add (o := false)) (dv 5) (de_bin op_mulA od_mul (de_bin op_sub od_sub (dv 11) (de_ix (dv 4) (dv 6) (fun _ _ => rfl))) (dv 9))) (da_cons (de_bin op_addA (od_add (o := false)) (de_bin op_addA (od_add (o := false)) (de_slice (o := false) (dv 4) do_none (do_some (dv 6))) (de_lst (o := false) (da_cons (dv 11) da_nil))) (de_slice (o := false) (dv 4) (do_some (de_bin op_addA (od_add (o := false)) (dv 6) de_int)) do_none)) da_nil))) (dss_one (ds_expr (de_bm PySem.F.plainAttrs_list PySem.F.slot_list_append PySem.F.type_list_append mt_append md_app (dv 3) (da_cons (de_tup (da_cons (dv 6) (da_cons (dv 10) da_nil))) da_nil))))))) dss_nil) (dss_cons (ds_if (PW.pt (dw_and (dt_cmp (op_eqD hr.units) od_eq (dv 8) de_int (nomark _)) (dw_and1 (dt_cmp op_lt od_lt (de_bin op_addA (od_add (o := false)) (dv 6) de_int) (de_callB (call_lenO G_Sheet_len (hr.mono (by decide)) T.sm_Sheet_len) cd_lenO rfl T.n_len bt_len (da_cons (dv 1) da_nil)) (nomark _))))) (dss_cons (ds_par (i := 12) (j := 13) rfl sc_law_marked.nd rfl rfl (by decide) rfl rfl (da_cons (de_ix (dv 4) (dv 6) (fun _ _ => rfl)) (da_cons (de_ix (dv 4) (de_bin op_addA (od_add (o := false)) (dv 6) de_int) (fun _ _ => rfl)) da_nil))) (dss_cons (ds_par (i := 5) (j := 4) rfl sc_law_marked.nd rfl rfl (by decide) rfl rfl (da_cons (de_bin op_addA (od_add (o := false)) (dv 5) (de_bin op_mulA od_mul (de_bin op_mulA od_mul (de_bin op_sub od_sub (dv 12) (dv 13)) (de_bin op_sub od_sub (de_propG G_Sheet_base (hr.mono (by decide)) T.c_Sheet T.p_Sheet_base (dv 1)) de_int)) (dv 9))) (da_cons (de_bin op_addA (od_add (o := false)) (de_bin op_addA (od_add (o := false)) (de_slice (o := false) (dv 4) do_none (do_some (dv 6))) (de_lst (o := false) (da_cons (dv 13) (da_cons (dv 12) da_nil)))) (de_slice (o := false) (dv 4) (do_some (de_bin op_addA (od_add (o := false)) (dv 6) de_int)) do_none)) da_nil))) (dss_cons (ds_expr (de_bm PySem.F.plainAttrs_list PySem.F.slot_list_append PySem.F.type_list_append mt_append md_app (dv 3) (da_cons (de_tup (da_cons (dv 6) (da_cons (de_tup (da_cons de_str da_nil)) da_nil))) da_nil))) (dss_one (ds_set (i := 6) sc_law_marked.nd rfl (Or.inl rfl) (de_bin op_addA (od_add (o := false)) (dv 6) de_int)))))) dss_nil) (dss_one (ds_set (i := 6) sc_law_marked.nd rfl (Or.inl rfl) (de_bin op_addA (od_add (o := false)) (dv 6) de_int)))))) dss_nil))) (dss_one (ds_ret (de_fz (de_lst (o := false) (da_cons (dv 3) (da_cons (dv 4) (da_cons (dv 5) da_nil)))))))))
def t_is_deed (K : PySem.W.Frag) : DS := (sSeq (sIf (dOr (dNot (eTru (eCB qIsi (aCons (eV 0) (aCons (eC (.raw (.ty "tuple"))) aNil))))) (dOr (eTest (eBin qEq (eCB qLen (aCons (eV 0) aNil)) (eC (.int 0)))) (dNot (eTru (eCB qIsi (aCons (eBin qIx (eV 0) (eC (.int 0))) (aCons (eC (.raw (.ty "str"))) aNil))))))) (sRet (eC (.bl false))) sNext) (sSeq (sIf (dNot (eTru (eCB qAll (aCons (eLc false (iS (eSl false (eV 0) (oSome (eC (.int 1))) oNone)) (.one 4) dYes (eCall (sp_is_integer K) (aCons (eV 4) aNil)) [4]) aNil)))) (sRet (eC (.bl false))) sNext) (sSeq (sAsg (eBin qIx (eV 0) (eC (.int 0))) 3) (sSeq (sIf (eTest (eBin (qIn false) (eV 3) (eC (.tup [.str "forget", .str "again", .str "swap", .str "out", .str "twice"])))) (sRet (eBin qEq (eCB qLen (aCons (eV 0) aNil)) (eC (.int 1)))) sNext) (sSeq (sIf (eTest (eBin qEq (eV 3) (eC (.str "off")))) (sRet (eAnd (eBin qEq (eCB qLen (aCons (eV 0) aNil)) (eC (.int 2))) (eChain qLe qLt (eC (.int 1)) (eBin qIx (eV 0) (eC (.int 1))) (eV 1)))) sNext) (sSeq (sIf (eTest (eBin qEq (eV 3) (eC (.str "copy")))) (sRet (eAnd (eBin qEq (eCB qLen (aCons (eV 0) aNil)) (eC (.int 2))) (eChain qLe qLt (eC (.int 0)) (eBin qIx (eV 0) (eC (.int 1))) (eV 2)))) sNext) (sRet (eAnd (eBin qEq (eV 3) (eC (.str "read"))) (eAnd (eBin qEq (eCB qLen (aCons (eV 0) aNil)) (eC (.int 3))) (eAnd (eChain qLe qLt (eC (.int 0)) (eBin qIx (eV 0) (eC (.int 1))) (eV 2)) (eChain qLe qLt (eC (.int 1)) (eBin qIx (eV 0) (eC (.int 2))) (eV 1))))))))))))
theorem d_is_deed (T : Txt K mg) (G_is_integer : Good P w K mg base 2 (He.ga K "is_integer") ["value"] (sp_is_integer K)) : ∀ (cdv : Value) (A : Around) (outer : List Env) (s : Shared) (H : Hp) (E : XK) (B : Bs), Room 4 (A.deeper (envOfC "is_deed" (defScope s_is_deed) s.heap.objs.size (He.ga K "is_deed") cdv)) → PSs (cx0 P w K mg base N_is_deed "is_deed" (defScope s_is_deed) (He.ga K "is_deed") cdv A outer s H E) (defBody s_is_deed) (lS K B (t_is_deed K)) := by
  intro cdv A outer s H E B hr
  exact (dss_cons (ds_if (PW.pt (dw_or (dt_not (dt_tru (de_callB call_isi cd_isi rfl T.n_isinstance bt_isinstance (da_cons (dv 0) (da_cons (de_ty rfl T.n_tuple bt_tuple) da_nil))))) (dw_or (dt_cmp (op_eqD hr.units) od_eq (de_callB call_lenA cd_len rfl T.n_len bt_len (da_cons (dv 0) da_nil)) de_int (nomark _)) (dw_or1 (dt_not (dt_tru (de_callB call_isi cd_isi rfl T.n_isinstance bt_isinstance (da_cons (de_ix (dv 0) de_int (fun _ _ => rfl)) (da_cons (de_ty rfl T.n_str bt_str) da_nil))))))))) (dss_one (ds_ret de_bl)) dss_nil) (dss_cons (ds_if (dt_not (dt_tru (de_callB (cr_all rfl) cd_all rfl T.n_all bt_all (da_cons (de_lc (o := false) (own := [("part", 4)]) (tg := (.one 4)) rfl sc_is_deed.nd (di_any (de_slice (o := false) (dv 0) (do_some de_int) do_none)) (blkOk_by (own := [("part", 4)]) (N := N_is_deed) (sc := defScope s_is_deed) (by decide +kernel)) (by decide) (fun _ _ _ _ _ => (pg_name (i := 4) sc_is_deed.nd rfl (Or.inl rfl))) (fun _ _ _ _ _ => dts_nil) (fun _ _ _ _ _ => (de_callG G_is_integer (hr.mono (by decide)) T.g_is_integer (da_cons (dv 4) da_nil)))) da_nil)))) (dss_one (ds_ret de_bl)) dss_nil) (dss_cons (ds_set (i := 3) sc_is_deed.nd rfl (Or.inl rfl) (de_ix (dv 0) de_int (fun _ _ => rfl))) (dss_cons (ds_if (dt_cmp (op_inA (units5 hr)) od_in (dv 3) (de_tupG rfl T.g_PLAIN T.tg_PLAIN (fun _ => (.cons (.str _) (.cons (.str _) (.cons (.str _) (.cons (.str _) (.cons (.str _) .nil))))))) rfl) (dss_one (ds_ret (de_cmp (op_eqD hr.units) od_eq (de_callB call_lenA cd_len rfl T.n_len bt_len (da_cons (dv 0) da_nil)) de_int (nomark _)))) dss_nil) (dss_cons (ds_if (dt_cmp (op_eqD hr.units) od_eq (dv 3) de_str (nomark _)) (dss_one (ds_ret (de_and (de_cmp (op_eqD hr.units) od_eq (de_callB call_lenA cd_len rfl T.n_len bt_len (da_cons (dv 0) da_nil)) de_int (nomark _)) (de_one (de_chain op_le op_lt od_le od_lt de_int (de_ix (dv 0) de_int (fun _ _ => rfl)) (dv 1)))))) dss_nil) (dss_cons (ds_if (dt_cmp (op_eqD hr.units) od_eq (dv 3) de_str (nomark _)) (dss_one (ds_ret (de_and (de_cmp (op_eqD hr.units) od_eq (de_callB call_lenA cd_len rfl T.n_len bt_len (da_cons (dv 0) da_nil)) de_int (nomark _)) (de_one (de_chain op_le op_lt od_le od_lt de_int (de_ix (dv 0) de_int (fun _ _ => rfl)) (dv 2)))))) dss_nil) (dss_one (ds_ret (de_and (de_cmp (op_eqD hr.units) od_eq (dv 3) de_str (nomark _)) (de_and (de_cmp (op_eqD hr.units) od_eq (de_callB call_lenA cd_len rfl T.n_len bt_len (da_cons (dv 0) da_nil)) de_int (nomark _)) (de_and (de_chain op_le op_lt od_le od_lt de_int (de_ix (dv 0) de_int (fun _ _ => rfl)) (dv 2)) (de_one (de_chain op_le op_lt od_le od_lt de_int (de_ix (dv 0) de_int (fun _ _ => rfl)) (dv 1))))))))))))))
def t_Sheet_rows (K : PySem.W.Frag) : DS := (sRet (eFld (He.ga K "Sheet") "held_rows" (eV 0)))
theorem d_Sheet_rows (T : Txt K mg) : ∀ (cdv : Value) (A : Around) (outer : List Env) (s : Shared) (H : Hp) (E : XK) (B : Bs), Room 1 (A.deeper (envOfC "Sheet.rows" (defScope s_Sheet_rows) s.heap.objs.size (pga K (He.ga K "Sheet") "rows") cdv)) → PSs (cx0 P w K mg base N_Sheet_rows "Sheet.rows" (defScope s_Sheet_rows) (pga K (He.ga K "Sheet") "rows") cdv A outer s H E) (defBody s_Sheet_rows) (lS K B (t_Sheet_rows K)) := by
  intro cdv A outer s H E B hr
  exact (dss_one (ds_ret (de_fld T.c_Sheet T.na_Sheet_held_rows (dv 0))))
def t_is_slip (K : PySem.W.Frag) : DS := (sSeq (sIf (dOr (dNot (eTru (eCB qIsi (aCons (eV 0) (aCons (eC (.raw (.ty "tuple"))) aNil))))) (dOr (eTest (eBin qNe (eCB qLen (aCons (eV 0) aNil)) (eC (.int 2)))) (dNot (eTru (eCall (sp_is_integer K) (aCons (eBin qIx (eV 0) (eC (.int 0))) aNil)))))) (sRet (eC (.bl false))) sNext) (sRet (eAnd (eChain qLe qLt (eV 2) (eBin qIx (eV 0) (eC (.int 0))) (eCB (qLenO (He.ga K "Sheet") (sp_Sheet_len K)) (aCons (eV 1) aNil))) (eCall (sp_is_deed K) (aCons (eBin qIx (eV 0) (eC (.int 1))) (aCons (eProp (He.ga K "Sheet") (sp_Sheet_base K) (eV 1)) (aCons (eProp (He.ga K "Sheet") (sp_Sheet_rows K) (eV 1)) aNil)))))))
theorem d_is_slip (T : Txt K mg) (G_is_integer : Good P w K mg base 2 (He.ga K "is_integer") ["value"] (sp_is_integer K)) (G_Sheet_len : Good P w K mg base 2 (He.ma K (He.ga K "Sheet") "__len__") ["self"] (sp_Sheet_len K)) (G_is_deed : Good P w K mg base 5 (He.ga K "is_deed") ["value", "base", "rows"] (sp_is_deed K)) (G_Sheet_rows : Good P w K mg base 2 (pga K (He.ga K "Sheet") "rows") ["self"] (sp_Sheet_rows K)) (G_Sheet_base : Good P w K mg base 2 (pga K (He.ga K "Sheet") "base") ["self"] (sp_Sheet_base K)) : ∀ (cdv : Value) (A : Around) (outer : List Env) (s : Shared) (H : Hp) (E : XK) (B : Bs), Room 7 (A.deeper (envOfC "is_slip" (defScope s_is_slip) s.heap.objs.size (He.ga K "is_slip") cdv)) → PSs (cx0 P w K mg base N_is_slip "is_slip" (defScope s_is_slip) (He.ga K "is_slip") cdv A outer s H E) (defBody s_is_slip) (lS K B (t_is_slip K)) := by
  intro cdv A outer s H E B hr
  exact (dss_cons (ds_if (PW.pt (dw_or (dt_not (dt_tru (de_callB call_isi cd_isi rfl T.n_isinstance bt_isinstance (da_cons (dv 0) (da_cons (de_ty rfl T.n_tuple bt_tuple) da_nil))))) (dw_or (dt_cmp (op_neD hr.units) od_ne (de_callB call_lenA cd_len rfl T.n_len bt_len (da_cons (dv 0) da_nil)) de_int (nomark _)) (dw_or1 (dt_not (dt_tru (de_callG G_is_integer (hr.mono (by decide)) T.g_is_integer (da_cons (de_ix (dv 0) de_int (fun _ _ => rfl)) da_nil)))))))) (dss_one (ds_ret de_bl)) dss_nil) (dss_one (ds_ret (de_and (de_chain op_le op_lt od_le od_lt (dv 2) (de_ix (dv 0) de_int (fun _ _ => rfl)) (de_callB (call_lenO G_Sheet_len (hr.mono (by decide)) T.sm_Sheet_len) cd_lenO rfl T.n_len bt_len (da_cons (dv 1) da_nil))) (de_one (de_callG G_is_deed (hr.mono (by decide)) T.g_is_deed (da_cons (de_ix (dv 0) de_int (fun _ _ => rfl)) (da_cons (de_propG G_Sheet_base (hr.mono (by decide)) T.c_Sheet T.p_Sheet_base (dv 1)) (da_cons (de_propG G_Sheet_rows (hr.mono (by decide)) T.c_Sheet T.p_Sheet_rows (dv 1)) da_nil)))))))))
def t_Adding_free (K : PySem.W.Frag) : DS := (sSeq (sIf (eTest (eBin qIs (eFld (He.ga K "Adding") "waiting" (eV 0)) (eC .non))) (sRet (eFld (He.ga K "Adding") "at" (eV 0))) sNext) (sRet (eBin (qAdd false) (eFld (He.ga K "Adding") "at" (eV 0)) (eC (.int 1)))))
theorem d_Adding_free (T : Txt K mg) : ∀ (cdv : Value) (A : Around) (outer : List Env) (s : Shared) (H : Hp) (E : XK) (B : Bs), Room 1 (A.deeper (envOfC "Adding.free" (defScope s_Adding_free) s.heap.objs.size (He.ma K (He.ga K "Adding") "free") cdv)) → PSs (cx0 P w K mg base N_Adding_free "Adding.free" (defScope s_Adding_free) (He.ma K (He.ga K "Adding") "free") cdv A outer s H E) (defBody s_Adding_free) (lS K B (t_Adding_free K)) := by
  intro cdv A outer s H E B hr
  exact (dss_cons (ds_if (dt_cmp op_isA od_is (de_fld T.c_Adding T.na_Adding_waiting (dv 0)) de_non (nomark _)) (dss_one (ds_ret (de_fld T.c_Adding T.na_Adding_at (dv 0)))) dss_nil) (dss_one (ds_ret (de_bin op_addA (od_add (o := false)) (de_fld T.c_Adding T.na_Adding_at (dv 0)) de_int))))
theorem d_InvalidSlips_init : ∀ (cdv : Value) (A : Around) (outer : List Env) (s : Shared) (H : Hp) (E : XK), PSs (cxOf CX0 P w K mg base ["self", "index"] "InvalidSlips.__init__" (defScope s_InvalidSlips_init) (He.ma K (He.ga K "InvalidSlips") "__init__") cdv A outer s H E) (defBody s_InvalidSlips_init) (tOst K "index" (tVar 0) (tVar 1)) := by
  intro cdv A outer s H E
  exact pss_one (ps_ost (pe_var rfl (Or.inl rfl)) (pe_var rfl (Or.inl rfl)))
def t_add_with (K : PySem.W.Frag) (XX : XN → List Cel → Prop) : DS := (sSeq (sAsg (eMake (He.ga K "Adding") (sp_Adding_init K) (aCons (eV 0) aNil)) 2) (sSeq (sFor (iEn (aCons (eV 1) aNil)) (.tup [3, 4]) (sSeq (sIf (dNot (eTru (eCall (sp_is_slip K) (aCons (eV 4) (aCons (eV 0) (aCons (eMeth (He.ga K "Adding") "free" (sp_Adding_free K) (eV 2) aNil) aNil)))))) (sRaiseI XX "InvalidSlips" (eV 3)) sNext) (sSeq (sDrop (eMeth (He.ga K "Adding") "do_until" (sp_Adding_do_until K) (eV 2) (aCons (eBin qIx (eV 4) (eC (.int 0))) aNil))) (sIf (dNot (eTru (eMeth (He.ga K "Adding") "do" (sp_Adding_do K) (eV 2) (aCons (eBin qIx (eV 4) (eC (.int 1))) aNil)))) (sRaiseI XX "InvalidSlips" (eV 3)) sNext)))) (sRet (eMeth (He.ga K "Adding") "result" (sp_Adding_result K) (eV 2) aNil))))
theorem d_add_with (T : Txt K mg) (G_Adding_init : Good P w K mg base 5 (He.ma K (He.ga K "Adding") "__init__") ["self", "sheet"] (sp_Adding_init K)) (G_is_slip : Good P w K mg base 8 (He.ga K "is_slip") ["value", "sheet", "low"] (sp_is_slip K)) (G_Adding_free : Good P w K mg base 2 (He.ma K (He.ga K "Adding") "free") ["self"] (sp_Adding_free K)) (G_InvalidSlips_init : GoodIx P w K mg base 2 (He.ma K (He.ga K "InvalidSlips") "__init__") "InvalidSlips") (G_Adding_do_until : Good P w K mg base 11 (He.ma K (He.ga K "Adding") "do_until") ["self", "column"] (sp_Adding_do_until K)) (G_Adding_do : Good P w K mg base 8 (He.ma K (He.ga K "Adding") "do") ["self", "deed"] (sp_Adding_do K)) (G_Adding_result : Good P w K mg base 14 (He.ma K (He.ga K "Adding") "result") ["self"] (sp_Adding_result K)) : ∀ (cdv : Value) (A : Around) (outer : List Env) (s : Shared) (H : Hp) (E : XK) (B : Bs) (XX : XN → List Cel → Prop), Room 16 (A.deeper (envOfC "add_with" (defScope s_add_with) s.heap.objs.size (He.ga K "add_with") cdv)) → XT (cxX P w K mg base N_add_with "add_with" (defScope s_add_with) (He.ga K "add_with") cdv A outer s H E) B XX → PassesOwn (model P w) (A.deeper (envOfC "add_with" (defScope s_add_with) s.heap.objs.size (He.ga K "add_with") cdv)) (envOfC "add_with" (defScope s_add_with) s.heap.objs.size (He.ga K "add_with") cdv) (cxX P w K mg base N_add_with "add_with" (defScope s_add_with) (He.ga K "add_with") cdv A outer s H E).xe → PSs (cxX P w K mg base N_add_with "add_with" (defScope s_add_with) (He.ga K "add_with") cdv A outer s H E) (defBody s_add_with) (lS K B (t_add_with K XX)) := by
  intro cdv A outer s H E B XX hr tk po
  exact (dss_cons (ds_set (i := 2) sc_add_with.nd rfl (Or.inl rfl) (de_makeG G_Adding_init (hr.mono (by decide)) T.mk_Adding T.g_Adding (da_cons (dv 0) da_nil))) (dss_cons (ds_for (tg := (.tup [3, 4])) po rfl (di_enum rfl T.n_enumerate (da_cons (dv 1) da_nil)) (pg_tup rfl (pgs_cons (pg_name (i := 3) sc_add_with.nd rfl (Or.inl rfl)) (pgs_cons (pg_name (i := 4) sc_add_with.nd rfl (Or.inl rfl)) pgs_nil))) (dss_cons (ds_if (dt_not (dt_tru (de_callG G_is_slip (hr.mono (by decide)) T.g_is_slip (da_cons (dv 4) (da_cons (dv 0) (da_cons (de_methG0 G_Adding_free (hr.mono (by decide)) T.c_Adding T.m_Adding_free (dv 2)) da_nil)))))) (dss_one (ds_raiseI G_InvalidSlips_init rfl tk (hr.mono (by decide)) T.g_InvalidSlips rfl (dv 3))) dss_nil) (dss_cons (ds_expr (de_methG G_Adding_do_until (hr.mono (by decide)) T.c_Adding T.m_Adding_do_until (dv 2) (da_cons (de_ix (dv 4) de_int (fun _ _ => rfl)) da_nil))) (dss_one (ds_if (dt_not (dt_tru (de_methG G_Adding_do (hr.mono (by decide)) T.c_Adding T.m_Adding_do (dv 2) (da_cons (de_ix (dv 4) de_int (fun _ _ => rfl)) da_nil)))) (dss_one (ds_raiseI G_InvalidSlips_init rfl tk (hr.mono (by decide)) T.g_InvalidSlips rfl (dv 3))) dss_nil))))) (dss_one (ds_ret (de_methG0 G_Adding_result (hr.mono (by decide)) T.c_Adding T.m_Adding_result (dv 2))))))
def t_Written_eq (K : PySem.W.Frag) : DS := (sSeq (sIf (dNot (eTru (eCB (qIsiC (He.ga K "Written")) (aCons (eV 1) (aCons (eC (.raw (.ref (He.ga K "Written")))) aNil))))) (sRet (eC (.bl false))) sNext) (sRet (eBin qEq (eTup (aCons (eFld (He.ga K "Written") "held_base" (eV 0)) (aCons (eFld (He.ga K "Written") "held_figures" (eV 0)) (aCons (eFld (He.ga K "Written") "held_last" (eV 0)) aNil)))) (eTup (aCons (eFld (He.ga K "Written") "held_base" (eV 1)) (aCons (eFld (He.ga K "Written") "held_figures" (eV 1)) (aCons (eFld (He.ga K "Written") "held_last" (eV 1)) aNil)))))))
theorem d_Written_eq (T : Txt K mg) : ∀ (cdv : Value) (A : Around) (outer : List Env) (s : Shared) (H : Hp) (E : XK) (B : Bs), Room 1 (A.deeper (envOfC "Written.__eq__" (defScope s_Written_eq) s.heap.objs.size (He.ma K (He.ga K "Written") "__eq__") cdv)) → PSs (cx0 P w K mg base N_Written_eq "Written.__eq__" (defScope s_Written_eq) (He.ma K (He.ga K "Written") "__eq__") cdv A outer s H E) (defBody s_Written_eq) (lS K B (t_Written_eq K)) := by
  intro cdv A outer s H E B hr
  exact (dss_cons (ds_if (dt_not (dt_tru (de_callB (C8.call_isC T.ic_Written) cd_isiC rfl T.n_isinstance bt_isinstance (da_cons (dv 1) (da_cons (de_cls rfl T.g_Written) da_nil))))) (dss_one (ds_ret de_bl)) dss_nil) (dss_one (ds_ret (de_cmp (op_eqD hr.units) od_eq (de_tup (da_cons (de_fld T.c_Written T.na_Written_held_base (dv 0)) (da_cons (de_fld T.c_Written T.na_Written_held_figures (dv 0)) (da_cons (de_fld T.c_Written T.na_Written_held_last (dv 0)) da_nil)))) (de_tup (da_cons (de_fld T.c_Written T.na_Written_held_base (dv 1)) (da_cons (de_fld T.c_Written T.na_Written_held_figures (dv 1)) (da_cons (de_fld T.c_Written T.na_Written_held_last (dv 1)) da_nil)))) (nomark _)))))
def t_Written_last (K : PySem.W.Frag) : DS := (sRet (eFld (He.ga K "Written") "held_last" (eV 0)))
theorem d_Written_last (T : Txt K mg) : ∀ (cdv : Value) (A : Around) (outer : List Env) (s : Shared) (H : Hp) (E : XK) (B : Bs), Room 1 (A.deeper (envOfC "Written.last" (defScope s_Written_last) s.heap.objs.size (pga K (He.ga K "Written") "last") cdv)) → PSs (cx0 P w K mg base N_Written_last "Written.last" (defScope s_Written_last) (pga K (He.ga K "Written") "last") cdv A outer s H E) (defBody s_Written_last) (lS K B (t_Written_last K)) := by
  intro cdv A outer s H E B hr
  exact (dss_one (ds_ret (de_fld T.c_Written T.na_Written_held_last (dv 0))))
def t_Written_value (K : PySem.W.Frag) : DS := (sSeq (sAsg (eFld (He.ga K "Written") "held_last" (eV 0)) 1) (sSeq (sFor (iS (eRev false (eFld (He.ga K "Written") "held_figures" (eV 0)))) (.one 2) (sAsg (eBin (qAdd false) (eBin (qMul) (eV 1) (eFld (He.ga K "Written") "held_base" (eV 0))) (eV 2)) 1)) (sRet (eV 1))))
theorem d_Written_value (T : Txt K mg) : ∀ (cdv : Value) (A : Around) (outer : List Env) (s : Shared) (H : Hp) (E : XK) (B : Bs), Room 1 (A.deeper (envOfC "Written.value" (defScope s_Written_value) s.heap.objs.size (pga K (He.ga K "Written") "value") cdv)) → PSs (cx0 P w K mg base N_Written_value "Written.value" (defScope s_Written_value) (pga K (He.ga K "Written") "value") cdv A outer s H E) (defBody s_Written_value) (lS K B (t_Written_value K)) := by
  intro cdv A outer s H E B hr
  exact (dss_cons (ds_set (i := 1) sc_Written_value.nd rfl (Or.inl rfl) (de_fld T.c_Written T.na_Written_held_last (dv 0))) (dss_cons (ds_for (tg := (.one 2)) PassesOwn.never rfl (di_any (de_rev (o := false) (de_fld T.c_Written T.na_Written_held_figures (dv 0)))) (pg_name (i := 2) sc_Written_value.nd rfl (Or.inl rfl)) (dss_one (ds_set (i := 1) sc_Written_value.nd rfl (Or.inl rfl) (de_bin op_addA (od_add (o := false)) (de_bin op_mulA od_mul (dv 1) (de_fld T.c_Written T.na_Written_held_base (dv 0))) (dv 2))))) (dss_one (ds_ret (dv 1)))))
def t_Sheet_value (K : PySem.W.Frag) : DS := (sSeq (sAsg (eC (.int 0)) 1) (sSeq (sFor (iS (eRev false (eFld (He.ga K "Sheet") "held_columns" (eV 0)))) (.one 2) (sAsg (eBin (qAdd false) (eBin (qMul) (eV 1) (eFld (He.ga K "Sheet") "held_base" (eV 0))) (eCB qSum (aCons (eV 2) aNil))) 1)) (sRet (eV 1))))
theorem d_Sheet_value (T : Txt K mg) : ∀ (cdv : Value) (A : Around) (outer : List Env) (s : Shared) (H : Hp) (E : XK) (B : Bs), Room 1 (A.deeper (envOfC "Sheet.value" (defScope s_Sheet_value) s.heap.objs.size (pga K (He.ga K "Sheet") "value") cdv)) → PSs (cx0 P w K mg base N_Sheet_value "Sheet.value" (defScope s_Sheet_value) (pga K (He.ga K "Sheet") "value") cdv A outer s H E) (defBody s_Sheet_value) (lS K B (t_Sheet_value K)) := by
  intro cdv A outer s H E B hr
  exact (dss_cons (ds_set (i := 1) sc_Sheet_value.nd rfl (Or.inl rfl) de_int) (dss_cons (ds_for (tg := (.one 2)) PassesOwn.never rfl (di_any (de_rev (o := false) (de_fld T.c_Sheet T.na_Sheet_held_columns (dv 0)))) (pg_name (i := 2) sc_Sheet_value.nd rfl (Or.inl rfl)) (dss_one (ds_set (i := 1) sc_Sheet_value.nd rfl (Or.inl rfl) (de_bin op_addA (od_add (o := false)) (de_bin op_mulA od_mul (dv 1) (de_fld T.c_Sheet T.na_Sheet_held_base (dv 0))) (de_callB (call_sumA rfl) cd_sum rfl T.n_sum bt_sum (da_cons (dv 2) da_nil)))))) (dss_one (ds_ret (dv 1)))))
def t_Written_sub (K : PySem.W.Frag) : DS := (sRet (eBin (qSub) (eProp (He.ga K "Written") (sp_Written_value K) (eV 0)) (eProp (He.ga K "Sheet") (sp_Sheet_value K) (eV 1))))
theorem d_Written_sub (T : Txt K mg) (G_Written_value : Good P w K mg base 2 (pga K (He.ga K "Written") "value") ["self"] (sp_Written_value K)) (G_Sheet_value : Good P w K mg base 2 (pga K (He.ga K "Sheet") "value") ["self"] (sp_Sheet_value K)) : ∀ (cdv : Value) (A : Around) (outer : List Env) (s : Shared) (H : Hp) (E : XK) (B : Bs), Room 4 (A.deeper (envOfC "Written.__sub__" (defScope s_Written_sub) s.heap.objs.size (He.ma K (He.ga K "Written") "__sub__") cdv)) → PSs (cx0 P w K mg base N_Written_sub "Written.__sub__" (defScope s_Written_sub) (He.ma K (He.ga K "Written") "__sub__") cdv A outer s H E) (defBody s_Written_sub) (lS K B (t_Written_sub K)) := by
  intro cdv A outer s H E B hr
  exact (dss_one (ds_ret (de_bin op_sub od_sub (de_propG G_Written_value (hr.mono (by decide)) T.c_Written T.p_Written_value (dv 0)) (de_propG G_Sheet_value (hr.mono (by decide)) T.c_Sheet T.p_Sheet_value (dv 1)))))
def t_law_lot (K : PySem.W.Frag) : DS := (sSeq (sAsg (eLst true aNil) 3) (sSeq (sFor (iR1 (aCons (eCall (sp_law_take K) (aCons (eV 0) (aCons (eBin (qAdd false) (eV 1) (eC (.int 1))) aNil))) aNil)) (.one 4) (sSeq (sAsg (eBin (qAdd false) (eC (.int 2)) (eCall (sp_law_take K) (aCons (eV 0) (aCons (eBin (qSub) (eV 2) (eC (.int 1))) aNil)))) 5) (sIf (eTest (eBin (qIn true) (eV 5) (eV 3))) (sDrop (eBM qApp (eV 3) (aCons (eV 5) aNil))) sNext))) (sRet (eV 3))))
theorem d_law_lot (T : Txt K mg) (G_law_take : Good P w K mg base 2 (He.ga K "_law_take") ["bag", "many"] (sp_law_take K)) : ∀ (cdv : Value) (A : Around) (outer : List Env) (s : Shared) (H : Hp) (E : XK) (B : Bs), Room 4 (A.deeper (envOfC "_law_lot" (defScope s_law_lot) s.heap.objs.size (He.ga K "_law_lot") cdv)) → PSs (cx0 P w K mg base N_law_lot "_law_lot" (defScope s_law_lot) (He.ga K "_law_lot") cdv A outer s H E) (defBody s_law_lot) (lS K B (t_law_lot K)) := by
  intro cdv A outer s H E B hr
  exact (dss_cons (ds_set (i := 3) sc_law_lot.nd rfl (Or.inl rfl) (de_lst (o := true) da_nil)) (dss_cons (ds_for (tg := (.one 4)) PassesOwn.never rfl (di_range1 rfl T.n_range (da_cons (de_callG G_law_take (hr.mono (by decide)) T.g_law_take (da_cons (dv 0) (da_cons (de_bin op_addA (od_add (o := false)) (dv 1) de_int) da_nil))) da_nil)) (pg_name (i := 4) sc_law_lot.nd rfl (Or.inl rfl)) (dss_cons (ds_set (i := 5) sc_law_lot.nd rfl (Or.inl rfl) (de_bin op_addA (od_add (o := false)) de_int (de_callG G_law_take (hr.mono (by decide)) T.g_law_take (da_cons (dv 0) (da_cons (de_bin op_sub od_sub (dv 2) de_int) da_nil))))) (dss_one (ds_if (dt_cmp (op_notInA (units5 hr)) od_in (dv 5) (dv 3) rfl) (dss_one (ds_expr (de_bm PySem.F.plainAttrs_list PySem.F.slot_list_append PySem.F.type_list_append mt_append md_app (dv 3) (da_cons (dv 5) da_nil)))) dss_nil)))) (dss_one (ds_ret (dv 3)))))
def t_number_of_columns (K : PySem.W.Frag) : DS := (sSeq (sAsg (eC (.int 1)) 2) (sSeq (sFor (iR1 (aCons (eV 1) aNil)) (.one 3) (sAsg (eBin (qMul) (eV 2) (eV 0)) 2)) (sRet (eV 2))))
theorem d_number_of_columns (T : Txt K mg) : ∀ (cdv : Value) (A : Around) (outer : List Env) (s : Shared) (H : Hp) (E : XK) (B : Bs), Room 1 (A.deeper (envOfC "number_of_columns" (defScope s_number_of_columns) s.heap.objs.size (He.ga K "number_of_columns") cdv)) → PSs (cx0 P w K mg base N_number_of_columns "number_of_columns" (defScope s_number_of_columns) (He.ga K "number_of_columns") cdv A outer s H E) (defBody s_number_of_columns) (lS K B (t_number_of_columns K)) := by
  intro cdv A outer s H E B hr
  exact (dss_cons (ds_set (i := 2) sc_number_of_columns.nd rfl (Or.inl rfl) de_int) (dss_cons (ds_for (tg := (.one 3)) PassesOwn.never rfl (di_range1 rfl T.n_range (da_cons (dv 1) da_nil)) (pg_name (i := 3) sc_number_of_columns.nd rfl (Or.inl rfl)) (dss_one (ds_set (i := 2) sc_number_of_columns.nd rfl (Or.inl rfl) (de_bin op_mulA od_mul (dv 2) (dv 0))))) (dss_one (ds_ret (dv 2)))))
def t_all_deeds (K : PySem.W.Frag) : DS := (sSeq (sAsg (eLst false (aCons (eTup (aCons (eC (.str "forget")) aNil)) (aCons (eTup (aCons (eC (.str "again")) aNil)) aNil))) 2) (sSeq (sAsg (eBin (qAdd false) (eV 2) (eLc false (iR2 (aCons (eC (.int 1)) (aCons (eV 0) aNil))) (.one 3) dYes (eTup (aCons (eC (.str "off")) (aCons (eV 3) aNil))) [3])) 2) (sSeq (sAsg (eBin (qAdd false) (eV 2) (eLc2 false (iR1 (aCons (eV 1) aNil)) (.one 4) dYes (iR2 (aCons (eC (.int 1)) (aCons (eV 0) aNil))) (.one 3) dYes (eTup (aCons (eC (.str "read")) (aCons (eV 4) (aCons (eV 3) aNil)))) [4, 3] [3])) 2) (sSeq (sAsg (eBin (qAdd false) (eV 2) (eLc false (iR1 (aCons (eV 1) aNil)) (.one 4) dYes (eTup (aCons (eC (.str "copy")) (aCons (eV 4) aNil))) [4])) 2) (sRet (eBin (qAdd false) (eV 2) (eLst false (aCons (eTup (aCons (eC (.str "swap")) aNil)) (aCons (eTup (aCons (eC (.str "out")) aNil)) (aCons (eTup (aCons (eC (.str "twice")) aNil)) aNil))))))))))
theorem d_all_deeds (T : Txt K mg) : ∀ (cdv : Value) (A : Around) (outer : List Env) (s : Shared) (H : Hp) (E : XK) (B : Bs), Room 1 (A.deeper (envOfC "all_deeds" (defScope s_all_deeds) s.heap.objs.size (He.ga K "all_deeds") cdv)) → PSs (cx0 P w K mg base N_all_deeds "all_deeds" (defScope s_all_deeds) (He.ga K "all_deeds") cdv A outer s H E) (defBody s_all_deeds) (lS K B (t_all_deeds K)) := by
  intro cdv A outer s H E B hr
  exact (dss_cons (ds_set (i := 2) sc_all_deeds.nd rfl (Or.inl rfl) (de_lst (o := false) (da_cons (de_tup (da_cons de_str da_nil)) (da_cons (de_tup (da_cons de_str da_nil)) da_nil)))) (dss_cons (ds_set (i := 2) sc_all_deeds.nd rfl (Or.inl rfl) (de_bin op_addA (od_add (o := false)) (dv 2) (de_lc (o := false) (own := [("d", 3)]) (tg := (.one 3)) rfl sc_all_deeds.nd (di_range2 rfl T.n_range (da_cons de_int (da_cons (dv 0) da_nil))) (blkOk_by (own := [("d", 3)]) (N := N_all_deeds) (sc := defScope s_all_deeds) (by decide +kernel)) (by decide) (fun _ _ _ _ _ => (pg_name (i := 3) sc_all_deeds.nd rfl (Or.inl rfl))) (fun _ _ _ _ _ => dts_nil) (fun _ _ _ _ _ => (de_tup (da_cons de_str (da_cons (dv 3) da_nil))))))) (dss_cons (ds_set (i := 2) sc_all_deeds.nd rfl (Or.inl rfl) (de_bin op_addA (od_add (o := false)) (dv 2) (de_lc2 (o := false) (own := [("j", 4), ("d", 3)]) (tg := (.one 4)) (tg1 := (.one 3)) (vs1 := [3]) rfl sc_all_deeds.nd (di_range1 rfl T.n_range (da_cons (dv 1) da_nil)) (blkOk_by (own := [("j", 4), ("d", 3)]) (N := N_all_deeds) (sc := defScope s_all_deeds) (by decide +kernel)) (by decide) (by decide) (by decide) (fun _ _ _ _ _ => (pg_name (i := 4) sc_all_deeds.nd rfl (Or.inl rfl))) (fun _ _ _ _ _ => dts_nil) (fun _ _ _ _ _ => (di_range2 rfl T.n_range (da_cons de_int (da_cons (dv 0) da_nil)))) (fun _ _ _ _ _ => (pg_name (i := 3) sc_all_deeds.nd rfl (Or.inl rfl))) (fun _ _ _ _ _ => dts_nil) (fun _ _ _ _ _ => (de_tup (da_cons de_str (da_cons (dv 4) (da_cons (dv 3) da_nil)))))))) (dss_cons (ds_set (i := 2) sc_all_deeds.nd rfl (Or.inl rfl) (de_bin op_addA (od_add (o := false)) (dv 2) (de_lc (o := false) (own := [("j", 4)]) (tg := (.one 4)) rfl sc_all_deeds.nd (di_range1 rfl T.n_range (da_cons (dv 1) da_nil)) (blkOk_by (own := [("j", 4)]) (N := N_all_deeds) (sc := defScope s_all_deeds) (by decide +kernel)) (by decide) (fun _ _ _ _ _ => (pg_name (i := 4) sc_all_deeds.nd rfl (Or.inl rfl))) (fun _ _ _ _ _ => dts_nil) (fun _ _ _ _ _ => (de_tup (da_cons de_str (da_cons (dv 4) da_nil))))))) (dss_one (ds_ret (de_bin op_addA (od_add (o := false)) (dv 2) (de_lst (o := false) (da_cons (de_tup (da_cons de_str da_nil)) (da_cons (de_tup (da_cons de_str da_nil)) (da_cons (de_tup (da_cons de_str da_nil)) da_nil)))))))))))
def t_Kind_init (K : PySem.W.Frag) : DS := (sSeq (sIf (dOr (dNot (eTru (eCall (sp_is_integer K) (aCons (eV 1) aNil)))) (dNot (eTest (eChain qLe qLe (eC (.int 2)) (eV 1) (eC (.int 12)))))) sNever sNext) (sSeq (sIf (dOr (dNot (eTru (eCall (sp_is_integer K) (aCons (eV 2) aNil)))) (dNot (eTest (eChain qLe qLe (eC (.int 1)) (eV 2) (eC (.int 4)))))) sNever sNext) (sSeq (sIf (eTest (eBin qGt (eCall (sp_number_of_columns K) (aCons (eV 1) (aCons (eV 2) aNil))) (eC (.int 1000)))) sNever sNext) (sSeq (sIf (dOr (dNot (eTru (eCB qIsi (aCons (eV 3) (aCons (eC (.raw (.ty "list"))) aNil))))) (dNot (eTru (eCB qAll (aCons (eLc false (iS (eV 3)) (.one 6) dYes (eCall (sp_is_deed K) (aCons (eV 6) (aCons (eV 1) (aCons (eV 2) aNil)))) [6]) aNil))))) sNever sNext) (sSeq (sAsg (eLc false (iS (eCall (sp_all_deeds K) (aCons (eV 1) (aCons (eV 2) aNil)))) (.one 6) (eTest (eBin (qIn false) (eV 6) (eV 3))) (eV 6) [6]) 5) (sSeq (sIf (dOr (eTest (eBin qNe (eCB qLen (aCons (eV 5) aNil)) (eCB qLen (aCons (eV 3) aNil)))) (dNot (eTest (eChain qLe qLe (eC (.int 1)) (eCB qLen (aCons (eV 5) aNil)) (eC (.int 8)))))) sNever sNext) (sSeq (sIf (dOr (dNot (eTru (eCall (sp_is_integer K) (aCons (eV 4) aNil)))) (dNot (eTest (eChain qLe qLe (eC (.int 1)) (eV 4) (eC (.int 3)))))) sNever sNext) (sSeq (sFldD (He.ga K "Kind") "held_base" (eV 0) (eV 1)) (sSeq (sFldD (He.ga K "Kind") "held_rows" (eV 0) (eV 2)) (sSeq (sFldD (He.ga K "Kind") "held_deeds" (eV 0) (eV 5)) (sFldD (He.ga K "Kind") "held_most" (eV 0) (eV 4))))))))))))
theorem d_Kind_init (T : Txt K mg) (G_is_integer : Good P w K mg base 2 (He.ga K "is_integer") ["value"] (sp_is_integer K)) (G_number_of_columns : Good P w K mg base 2 (He.ga K "number_of_columns") ["base", "rows"] (sp_number_of_columns K)) (G_is_deed : Good P w K mg base 5 (He.ga K "is_deed") ["value", "base", "rows"] (sp_is_deed K)) (G_all_deeds : Good P w K mg base 2 (He.ga K "all_deeds") ["base", "rows"] (sp_all_deeds K)) : ∀ (cdv : Value) (A : Around) (outer : List Env) (s : Shared) (H : Hp) (E : XK) (B : Bs), Room 7 (A.deeper (envOfC "Kind.__init__" (defScope s_Kind_init) s.heap.objs.size (He.ma K (He.ga K "Kind") "__init__") cdv)) → PSs (cx0 P w K mg base N_Kind_init "Kind.__init__" (defScope s_Kind_init) (He.ma K (He.ga K "Kind") "__init__") cdv A outer s H E) (defBody s_Kind_init) (lS K B (t_Kind_init K)) := by
  intro cdv A outer s H E B hr
  exact (dss_cons (ds_if (PW.pt (dw_or (dt_not (dt_tru (de_callG G_is_integer (hr.mono (by decide)) T.g_is_integer (da_cons (dv 1) da_nil)))) (dw_or1 (dt_not (dt_chain op_le op_le od_le od_le de_int (dv 1) de_int))))) (dss_one ds_never) dss_nil) (dss_cons (ds_if (PW.pt (dw_or (dt_not (dt_tru (de_callG G_is_integer (hr.mono (by decide)) T.g_is_integer (da_cons (dv 2) da_nil)))) (dw_or1 (dt_not (dt_chain op_le op_le od_le od_le de_int (dv 2) de_int))))) (dss_one ds_never) dss_nil) (dss_cons (ds_if (dt_cmp op_gt od_gt (de_callG G_number_of_columns (hr.mono (by decide)) T.g_number_of_columns (da_cons (dv 1) (da_cons (dv 2) da_nil))) (de_intG rfl T.ig_MOST_COLUMNS) (nomark _)) (dss_one ds_never) dss_nil) (dss_cons (ds_if (PW.pt (dw_or (dt_not (dt_tru (de_callB call_isi cd_isi rfl T.n_isinstance bt_isinstance (da_cons (dv 3) (da_cons (de_ty rfl T.n_list bt_list) da_nil))))) (dw_or1 (dt_not (dt_tru (de_callB (cr_all rfl) cd_all rfl T.n_all bt_all (da_cons (de_lc (o := false) (own := [("deed", 6)]) (tg := (.one 6)) rfl sc_Kind_init.nd (di_any (dv 3)) (blkOk_by (own := [("deed", 6)]) (N := N_Kind_init) (sc := defScope s_Kind_init) (by decide +kernel)) (by decide) (fun _ _ _ _ _ => (pg_name (i := 6) sc_Kind_init.nd rfl (Or.inl rfl))) (fun _ _ _ _ _ => dts_nil) (fun _ _ _ _ _ => (de_callG G_is_deed (hr.mono (by decide)) T.g_is_deed (da_cons (dv 6) (da_cons (dv 1) (da_cons (dv 2) da_nil)))))) da_nil))))))) (dss_one ds_never) dss_nil) (dss_cons (ds_setLc (o := false) (i := 5) (own := [("deed", 6)]) (tg := (.one 6)) rfl sc_Kind_init.nd rfl rfl (sw_true rfl rfl rfl (by decide +kernel)) (di_any (de_callG G_all_deeds (hr.mono (by decide)) T.g_all_deeds (da_cons (dv 1) (da_cons (dv 2) da_nil)))) (blkOk_by (own := [("deed", 6)]) (N := N_Kind_init) (sc := defScope s_Kind_init) (by decide +kernel)) (by decide) (fun _ _ _ _ _ => (pg_name (i := 6) sc_Kind_init.nd rfl (Or.inl rfl))) (fun _ _ _ _ _ => (dts_one (dt_cmp (op_inA (units5 hr)) od_in (dv 6) (dv 3) rfl))) (fun _ _ _ _ _ => (dv 6))) (dss_cons (ds_if (PW.pt (dw_or (dt_cmp (op_neD hr.units) od_ne (de_callB call_lenA cd_len rfl T.n_len bt_len (da_cons (dv 5) da_nil)) (de_callB call_lenA cd_len rfl T.n_len bt_len (da_cons (dv 3) da_nil)) (nomark _)) (dw_or1 (dt_not (dt_chain op_le op_le od_le od_le de_int (de_callB call_lenA cd_len rfl T.n_len bt_len (da_cons (dv 5) da_nil)) (de_intG rfl T.ig_MOST_DEEDS)))))) (dss_one ds_never) dss_nil) (dss_cons (ds_if (PW.pt (dw_or (dt_not (dt_tru (de_callG G_is_integer (hr.mono (by decide)) T.g_is_integer (da_cons (dv 4) da_nil)))) (dw_or1 (dt_not (dt_chain op_le op_le od_le od_le de_int (dv 4) de_int))))) (dss_one ds_never) dss_nil) (dss_cons (ds_fld T.c_Kind T.na_Kind_held_base (dv 0) (dv 1)) (dss_cons (ds_fld T.c_Kind T.na_Kind_held_rows (dv 0) (dv 2)) (dss_cons (ds_fld T.c_Kind T.na_Kind_held_deeds (dv 0) (dv 5)) (dss_one (ds_fld T.c_Kind T.na_Kind_held_most (dv 0) (dv 4)))))))))))))
def t_check_lot (K : PySem.W.Frag) : DS := (sSeq (sIf (dNot (eTru (eCB qIsi (aCons (eV 0) (aCons (eC (.raw (.ty "list"))) aNil))))) sNever sNext) (sFor (iR1 (aCons (eCB qLen (aCons (eV 0) aNil)) aNil)) (.one 1) (sSeq (sAsg (eBin qIx (eV 0) (eV 1)) 2) (sSeq (sIf (dOr (dNot (eTru (eCB qIsi (aCons (eV 2) (aCons (eC (.raw (.ty "int"))) aNil))))) (dOr (eTru (eCB qIsi (aCons (eV 2) (aCons (eC (.raw (.ty "bool"))) aNil)))) (eTest (eBin qLt (eV 2) (eC (.int 2)))))) sNever sNext) (sIf (eTest (eBin (qIn false) (eV 2) (eSl false (eV 0) oNone (oSome (eV 1))))) sNever sNext)))))
theorem d_check_lot (T : Txt K mg) : ∀ (cdv : Value) (A : Around) (outer : List Env) (s : Shared) (H : Hp) (E : XK) (B : Bs), Room 1 (A.deeper (envOfC "check_lot" (defScope s_check_lot) s.heap.objs.size (He.ga K "check_lot") cdv)) → PSs (cx0 P w K mg base N_check_lot "check_lot" (defScope s_check_lot) (He.ga K "check_lot") cdv A outer s H E) (defBody s_check_lot) (lS K B (t_check_lot K)) := by
  intro cdv A outer s H E B hr
  exact (dss_cons (ds_if (dt_not (dt_tru (de_callB call_isi cd_isi rfl T.n_isinstance bt_isinstance (da_cons (dv 0) (da_cons (de_ty rfl T.n_list bt_list) da_nil))))) (dss_one ds_never) dss_nil) (dss_one (ds_for (tg := (.one 1)) PassesOwn.never rfl (di_range1 rfl T.n_range (da_cons (de_callB call_lenA cd_len rfl T.n_len bt_len (da_cons (dv 0) da_nil)) da_nil)) (pg_name (i := 1) sc_check_lot.nd rfl (Or.inl rfl)) (dss_cons (ds_set (i := 2) sc_check_lot.nd rfl (Or.inl rfl) (de_ix (dv 0) (dv 1) (fun _ _ => rfl))) (dss_cons (ds_if (PW.pt (dw_or (dt_not (dt_tru (de_callB call_isi cd_isi rfl T.n_isinstance bt_isinstance (da_cons (dv 2) (da_cons (de_ty rfl T.n_int bt_int) da_nil))))) (dw_or (dt_tru (de_callB call_isi cd_isi rfl T.n_isinstance bt_isinstance (da_cons (dv 2) (da_cons (de_ty rfl T.n_bool bt_bool) da_nil)))) (dw_or1 (dt_cmp op_lt od_lt (dv 2) de_int (nomark _)))))) (dss_one ds_never) dss_nil) (dss_one (ds_if (dt_cmp (op_inA (units5 hr)) od_in (dv 2) (de_slice (o := false) (dv 0) do_none (do_some (dv 1))) rfl) (dss_one ds_never) dss_nil)))))))
def t_Kind_base (K : PySem.W.Frag) : DS := (sRet (eFld (He.ga K "Kind") "held_base" (eV 0)))
theorem d_Kind_base (T : Txt K mg) : ∀ (cdv : Value) (A : Around) (outer : List Env) (s : Shared) (H : Hp) (E : XK) (B : Bs), Room 1 (A.deeper (envOfC "Kind.base" (defScope s_Kind_base) s.heap.objs.size (pga K (He.ga K "Kind") "base") cdv)) → PSs (cx0 P w K mg base N_Kind_base "Kind.base" (defScope s_Kind_base) (pga K (He.ga K "Kind") "base") cdv A outer s H E) (defBody s_Kind_base) (lS K B (t_Kind_base K)) := by
  intro cdv A outer s H E B hr
  exact (dss_one (ds_ret (de_fld T.c_Kind T.na_Kind_held_base (dv 0))))
def t_Kind_rows (K : PySem.W.Frag) : DS := (sRet (eFld (He.ga K "Kind") "held_rows" (eV 0)))
theorem d_Kind_rows (T : Txt K mg) : ∀ (cdv : Value) (A : Around) (outer : List Env) (s : Shared) (H : Hp) (E : XK) (B : Bs), Room 1 (A.deeper (envOfC "Kind.rows" (defScope s_Kind_rows) s.heap.objs.size (pga K (He.ga K "Kind") "rows") cdv)) → PSs (cx0 P w K mg base N_Kind_rows "Kind.rows" (defScope s_Kind_rows) (pga K (He.ga K "Kind") "rows") cdv A outer s H E) (defBody s_Kind_rows) (lS K B (t_Kind_rows K)) := by
  intro cdv A outer s H E B hr
  exact (dss_one (ds_ret (de_fld T.c_Kind T.na_Kind_held_rows (dv 0))))
def t_check_alike (K : PySem.W.Frag) : DS := (sIf (dOr (eTest (eBin qNe (eProp (He.ga K "Kind") (sp_Kind_base K) (eV 0)) (eProp (He.ga K "Sheet") (sp_Sheet_base K) (eV 1)))) (eTest (eBin qNe (eProp (He.ga K "Kind") (sp_Kind_rows K) (eV 0)) (eProp (He.ga K "Sheet") (sp_Sheet_rows K) (eV 1))))) sNever sNext)
theorem d_check_alike (T : Txt K mg) (G_Kind_base : Good P w K mg base 2 (pga K (He.ga K "Kind") "base") ["self"] (sp_Kind_base K)) (G_Sheet_base : Good P w K mg base 2 (pga K (He.ga K "Sheet") "base") ["self"] (sp_Sheet_base K)) (G_Kind_rows : Good P w K mg base 2 (pga K (He.ga K "Kind") "rows") ["self"] (sp_Kind_rows K)) (G_Sheet_rows : Good P w K mg base 2 (pga K (He.ga K "Sheet") "rows") ["self"] (sp_Sheet_rows K)) : ∀ (cdv : Value) (A : Around) (outer : List Env) (s : Shared) (H : Hp) (E : XK) (B : Bs), Room 4 (A.deeper (envOfC "check_alike" (defScope s_check_alike) s.heap.objs.size (He.ga K "check_alike") cdv)) → PSs (cx0 P w K mg base N_check_alike "check_alike" (defScope s_check_alike) (He.ga K "check_alike") cdv A outer s H E) (defBody s_check_alike) (lS K B (t_check_alike K)) := by
  intro cdv A outer s H E B hr
  exact (dss_one (ds_if (PW.pt (dw_or (dt_cmp (op_neD hr.units) od_ne (de_propG G_Kind_base (hr.mono (by decide)) T.c_Kind T.p_Kind_base (dv 0)) (de_propG G_Sheet_base (hr.mono (by decide)) T.c_Sheet T.p_Sheet_base (dv 1)) (nomark _)) (dw_or1 (dt_cmp (op_neD hr.units) od_ne (de_propG G_Kind_rows (hr.mono (by decide)) T.c_Kind T.p_Kind_rows (dv 0)) (de_propG G_Sheet_rows (hr.mono (by decide)) T.c_Sheet T.p_Sheet_rows (dv 1)) (nomark _))))) (dss_one ds_never) dss_nil))
def t_Kind_most (K : PySem.W.Frag) : DS := (sRet (eFld (He.ga K "Kind") "held_most" (eV 0)))
theorem d_Kind_most (T : Txt K mg) : ∀ (cdv : Value) (A : Around) (outer : List Env) (s : Shared) (H : Hp) (E : XK) (B : Bs), Room 1 (A.deeper (envOfC "Kind.most" (defScope s_Kind_most) s.heap.objs.size (pga K (He.ga K "Kind") "most") cdv)) → PSs (cx0 P w K mg base N_Kind_most "Kind.most" (defScope s_Kind_most) (pga K (He.ga K "Kind") "most") cdv A outer s H E) (defBody s_Kind_most) (lS K B (t_Kind_most K)) := by
  intro cdv A outer s H E B hr
  exact (dss_one (ds_ret (de_fld T.c_Kind T.na_Kind_held_most (dv 0))))
def t_Kind_deeds (K : PySem.W.Frag) : DS := (sRet (eCB (qList true) (aCons (eFld (He.ga K "Kind") "held_deeds" (eV 0)) aNil)))
theorem d_Kind_deeds (T : Txt K mg) : ∀ (cdv : Value) (A : Around) (outer : List Env) (s : Shared) (H : Hp) (E : XK) (B : Bs), Room 1 (A.deeper (envOfC "Kind.deeds" (defScope s_Kind_deeds) s.heap.objs.size (pga K (He.ga K "Kind") "deeds") cdv)) → PSs (cx0 P w K mg base N_Kind_deeds "Kind.deeds" (defScope s_Kind_deeds) (pga K (He.ga K "Kind") "deeds") cdv A outer s H E) (defBody s_Kind_deeds) (lS K B (t_Kind_deeds K)) := by
  intro cdv A outer s H E B hr
  exact (dss_one (ds_ret (de_callTy call_listA (cd_list (o := true)) rfl T.n_list bt_list (da_cons (de_fld T.c_Kind T.na_Kind_held_deeds (dv 0)) da_nil))))
def t_further_slips (K : PySem.W.Frag) : DS := (sSeq (sIf (eTest (eBin qEq (eCB qLen (aCons (eV 2) aNil)) (eProp (He.ga K "Kind") (sp_Kind_most K) (eV 0)))) (sRet (eLst false aNil)) sNext) (sSeq (sAsg (eC (.int 0)) 3) (sSeq (sIf (eTru (eV 2)) (sAsg (eBin (qAdd false) (eBin qIx (eBin qIx (eV 2) (eNeg (eC (.int 1)))) (eC (.int 0))) (eC (.int 1))) 3) sNext) (sRet (eLc2 false (iR2 (aCons (eV 3) (aCons (eCB (qLenO (He.ga K "Sheet") (sp_Sheet_len K)) (aCons (eV 1) aNil)) aNil))) (.one 4) dYes (iS (eProp (He.ga K "Kind") (sp_Kind_deeds K) (eV 0))) (.one 5) dYes (eLst false (aStar (eV 2) (aCons (eTup (aCons (eV 4) (aCons (eV 5) aNil))) aNil))) [4, 5] [5])))))
theorem d_further_slips (T : Txt K mg) (G_Kind_most : Good P w K mg base 2 (pga K (He.ga K "Kind") "most") ["self"] (sp_Kind_most K)) (G_Sheet_len : Good P w K mg base 2 (He.ma K (He.ga K "Sheet") "__len__") ["self"] (sp_Sheet_len K)) (G_Kind_deeds : Good P w K mg base 2 (pga K (He.ga K "Kind") "deeds") ["self"] (sp_Kind_deeds K)) : ∀ (cdv : Value) (A : Around) (outer : List Env) (s : Shared) (H : Hp) (E : XK) (B : Bs), Room 4 (A.deeper (envOfC "further_slips" (defScope s_further_slips) s.heap.objs.size (He.ga K "further_slips") cdv)) → PSs (cx0 P w K mg base N_further_slips "further_slips" (defScope s_further_slips) (He.ga K "further_slips") cdv A outer s H E) (defBody s_further_slips) (lS K B (t_further_slips K)) := by
  intro cdv A outer s H E B hr
  exact (dss_cons (ds_if (dt_cmp (op_eqD hr.units) od_eq (de_callB call_lenA cd_len rfl T.n_len bt_len (da_cons (dv 2) da_nil)) (de_propG G_Kind_most (hr.mono (by decide)) T.c_Kind T.p_Kind_most (dv 0)) (nomark _)) (dss_one (ds_ret (de_lst (o := false) da_nil))) dss_nil) (dss_cons (ds_set (i := 3) sc_further_slips.nd rfl (Or.inl rfl) de_int) (dss_cons (ds_if (dt_tru (dv 2)) (dss_one (ds_set (i := 3) sc_further_slips.nd rfl (Or.inl rfl) (de_bin op_addA (od_add (o := false)) (de_ix (de_ix (dv 2) (de_neg de_int) (fun _ _ => rfl)) de_int (fun _ _ => rfl)) de_int))) dss_nil) (dss_one (ds_ret (de_lc2 (o := false) (own := [("column", 4), ("deed", 5)]) (tg := (.one 4)) (tg1 := (.one 5)) (vs1 := [5]) rfl sc_further_slips.nd (di_range2 rfl T.n_range (da_cons (dv 3) (da_cons (de_callB (call_lenO G_Sheet_len (hr.mono (by decide)) T.sm_Sheet_len) cd_lenO rfl T.n_len bt_len (da_cons (dv 1) da_nil)) da_nil))) (blkOk_by (own := [("column", 4), ("deed", 5)]) (N := N_further_slips) (sc := defScope s_further_slips) (by decide +kernel)) (by decide) (by decide) (by decide) (fun _ _ _ _ _ => (pg_name (i := 4) sc_further_slips.nd rfl (Or.inl rfl))) (fun _ _ _ _ _ => dts_nil) (fun _ _ _ _ _ => (di_any (de_propG G_Kind_deeds (hr.mono (by decide)) T.c_Kind T.p_Kind_deeds (dv 0)))) (fun _ _ _ _ _ => (pg_name (i := 5) sc_further_slips.nd rfl (Or.inl rfl))) (fun _ _ _ _ _ => dts_nil) (fun _ _ _ _ _ => (de_lst (o := false) (da_star (dv 2) (da_cons (de_tup (da_cons (dv 4) (da_cons (dv 5) da_nil))) da_nil))))))))))
def t_outcome (K : PySem.W.Frag) : DS := (sTryN [("InvalidSlips", true)] (List.length N_outcome) (fun XX => (sRet (eCallX XX (sp_add_with K) (aCons (eV 0) (aCons (eV 1) aNil))))) (sRet (eC .non)) (fun _ _ => False))
theorem d_outcome (T : Txt K mg) (G_add_with : GoodX P w K mg base 17 (He.ga K "add_with") ["sheet", "slips"] (sp_add_with K)) : ∀ (cdv : Value) (A : Around) (outer : List Env) (s : Shared) (H : Hp) (E : XK) (B : Bs), Room 19 (A.deeper (envOfC "outcome" (defScope s_outcome) s.heap.objs.size (He.ga K "outcome") cdv)) → PSs (cx0 P w K mg base N_outcome "outcome" (defScope s_outcome) (He.ga K "outcome") cdv A outer s H E) (defBody s_outcome) (lS K B (t_outcome K)) := by
  intro cdv A outer s H E B hr
  exact (dss_one (ds_tryN (tbl := [("InvalidSlips", true)]) (tb := fun XX => (sRet (eCallX XX (sp_add_with K) (aCons (eV 0) (aCons (eV 1) aNil))))) (ts := (sRet (eC .non))) rfl rfl T.g_InvalidSlips rfl XT.never T.xm_InvalidSlips (fun B XX pn xe tk po => (dss_one (ds_ret (de_callX G_add_with tk (hr.mono (by decide)) T.g_add_with (da_cons (dv 0) (da_cons (dv 1) da_nil)))))) (fun B a oe pn => (dss_one (ds_ret de_non)))))
def t_all_outcomes (K : PySem.W.Frag) : DS := (sSeq (sAsg (eLst true aNil) 2) (sSeq (sAsg (eRev true (eCall (sp_further_slips K) (aCons (eV 0) (aCons (eV 1) (aCons (eLst false aNil) aNil))))) 3) (sSeq (sWhile (eTru (eV 3)) (sSeq (sAsg (eBM0 qPop0 (eV 3)) 4) (sSeq (sAsg (eCall (sp_outcome K) (aCons (eV 1) (aCons (eV 4) aNil))) 5) (sIf (eTest (eBin qIsNot (eV 5) (eC .non))) (sSeq (sDrop (eBM qApp (eV 2) (aCons (eTup (aCons (eV 4) (aCons (eV 5) aNil))) aNil))) (sDrop (eBM qExt (eV 3) (aCons (eRev false (eCall (sp_further_slips K) (aCons (eV 0) (aCons (eV 1) (aCons (eV 4) aNil))))) aNil)))) sNext)))) (sRet (eV 2)))))
theorem d_all_outcomes (T : Txt K mg) (G_further_slips : Good P w K mg base 5 (He.ga K "further_slips") ["kind", "sheet", "slips"] (sp_further_slips K)) (G_outcome : Good P w K mg base 20 (He.ga K "outcome") ["sheet", "slips"] (sp_outcome K)) : ∀ (cdv : Value) (A : Around) (outer : List Env) (s : Shared) (H : Hp) (E : XK) (B : Bs), Room 22 (A.deeper (envOfC "all_outcomes" (defScope s_all_outcomes) s.heap.objs.size (He.ga K "all_outcomes") cdv)) → PSs (cx0 P w K mg base N_all_outcomes "all_outcomes" (defScope s_all_outcomes) (He.ga K "all_outcomes") cdv A outer s H E) (defBody s_all_outcomes) (lS K B (t_all_outcomes K)) := by
  intro cdv A outer s H E B hr
  exact (dss_cons (ds_set (i := 2) sc_all_outcomes.nd rfl (Or.inl rfl) (de_lst (o := true) da_nil)) (dss_cons (ds_set (i := 3) sc_all_outcomes.nd rfl (Or.inl rfl) (de_rev (o := true) (de_callG G_further_slips (hr.mono (by decide)) T.g_further_slips (da_cons (dv 0) (da_cons (dv 1) (da_cons (de_lst (o := false) da_nil) da_nil)))))) (dss_cons (ds_while PassesOwn.never (dt_tru (dv 3)) (dss_cons (ds_set (i := 4) sc_all_outcomes.nd rfl (Or.inl rfl) (de_bm0 PySem.F.plainAttrs_list PySem.F.slot_list_pop PySem.F.type_list_pop mt_pop md_pop0 (dv 3))) (dss_cons (ds_set (i := 5) sc_all_outcomes.nd rfl (Or.inl rfl) (de_callG G_outcome (hr.mono (by decide)) T.g_outcome (da_cons (dv 1) (da_cons (dv 4) da_nil)))) (dss_one (ds_if (dt_cmp op_isNotA od_isNot (dv 5) de_non (nomark _)) (dss_cons (ds_expr (de_bm PySem.F.plainAttrs_list PySem.F.slot_list_append PySem.F.type_list_append mt_append md_app (dv 2) (da_cons (de_tup (da_cons (dv 4) (da_cons (dv 5) da_nil))) da_nil))) (dss_one (ds_expr (de_bm PySem.F.plainAttrs_list PySem.F.slot_list_extend PySem.F.type_list_extend mt_extend md_ext (dv 3) (da_cons (de_rev (o := false) (de_callG G_further_slips (hr.mono (by decide)) T.g_further_slips (da_cons (dv 0) (da_cons (dv 1) (da_cons (dv 4) da_nil))))) da_nil))))) dss_nil))))) (dss_one (ds_ret (dv 2))))))
def t_Written_rest (K : PySem.W.Frag) : DS := (sRet (eBin (qMod) (eProp (He.ga K "Written") (sp_Written_value K) (eV 0)) (eV 1)))
theorem d_Written_rest (T : Txt K mg) (G_Written_value : Good P w K mg base 2 (pga K (He.ga K "Written") "value") ["self"] (sp_Written_value K)) : ∀ (cdv : Value) (A : Around) (outer : List Env) (s : Shared) (H : Hp) (E : XK) (B : Bs), Room 4 (A.deeper (envOfC "Written.rest" (defScope s_Written_rest) s.heap.objs.size (He.ma K (He.ga K "Written") "rest") cdv)) → PSs (cx0 P w K mg base N_Written_rest "Written.rest" (defScope s_Written_rest) (He.ma K (He.ga K "Written") "rest") cdv A outer s H E) (defBody s_Written_rest) (lS K B (t_Written_rest K)) := by
  intro cdv A outer s H E B hr
  exact (dss_one (ds_ret (de_bin op_mod od_mod (de_propG G_Written_value (hr.mono (by decide)) T.c_Written T.p_Written_value (dv 0)) (dv 1))))
def t_slips_shown (K : PySem.W.Frag) : DS := (sSeq (sDrop (eCall (sp_check_lot K) (aCons (eV 2) aNil))) (sSeq (sDrop (eCall (sp_check_alike K) (aCons (eV 0) (aCons (eV 1) aNil)))) (sSeq (sAsg (eCB (qList false) (aCons (eV 3) aNil)) 4) (sRet (eLc false (iS (eCall (sp_all_outcomes K) (aCons (eV 0) (aCons (eV 1) aNil)))) (.tup [5, 6]) (eTest (eBin qEq (eLc false (iS (eV 2)) (.one 7) dYes (eMeth (He.ga K "Written") "rest" (sp_Written_rest K) (eV 6) (aCons (eV 7) aNil)) [7]) (eV 4))) (eV 5) [5, 6])))))
theorem d_slips_shown (T : Txt K mg) (G_check_lot : Good P w K mg base 2 (He.ga K "check_lot") ["lot"] (sp_check_lot K)) (G_check_alike : Good P w K mg base 5 (He.ga K "check_alike") ["kind", "sheet"] (sp_check_alike K)) (G_all_outcomes : Good P w K mg base 23 (He.ga K "all_outcomes") ["kind", "sheet"] (sp_all_outcomes K)) (G_Written_rest : Good P w K mg base 5 (He.ma K (He.ga K "Written") "rest") ["self", "r"] (sp_Written_rest K)) : ∀ (cdv : Value) (A : Around) (outer : List Env) (s : Shared) (H : Hp) (E : XK) (B : Bs), Room 25 (A.deeper (envOfC "slips_shown" (defScope s_slips_shown) s.heap.objs.size (He.ga K "slips_shown") cdv)) → PSs (cx0 P w K mg base N_slips_shown "slips_shown" (defScope s_slips_shown) (He.ga K "slips_shown") cdv A outer s H E) (defBody s_slips_shown) (lS K B (t_slips_shown K)) := by
  intro cdv A outer s H E B hr
  exact (dss_cons (ds_expr (de_callG G_check_lot (hr.mono (by decide)) T.g_check_lot (da_cons (dv 2) da_nil))) (dss_cons (ds_expr (de_callG G_check_alike (hr.mono (by decide)) T.g_check_alike (da_cons (dv 0) (da_cons (dv 1) da_nil)))) (dss_cons (ds_set (i := 4) sc_slips_shown.nd rfl (Or.inr rfl) (de_callTy call_listA (cd_list (o := false)) rfl T.n_list bt_list (da_cons (dv 3) da_nil))) (dss_one (ds_ret (de_lc (o := false) (own := [("slips", 5), ("result", 6)]) (tg := (.tup [5, 6])) rfl sc_slips_shown.nd (di_any (de_callG G_all_outcomes (hr.mono (by decide)) T.g_all_outcomes (da_cons (dv 0) (da_cons (dv 1) da_nil)))) (blkOk_by (own := [("slips", 5), ("result", 6)]) (N := N_slips_shown) (sc := defScope s_slips_shown) (by decide +kernel)) (by decide) (fun _ _ _ _ _ => (pg_tup rfl (pgs_cons (pg_name (i := 5) sc_slips_shown.nd rfl (Or.inl rfl)) (pgs_cons (pg_name (i := 6) sc_slips_shown.nd rfl (Or.inr rfl)) pgs_nil)))) (fun _ _ _ _ _ => (dts_one (dt_cmp (op_eqD hr.units) od_eq (de_lc (o := false) (own := [("r", 7)]) (tg := (.one 7)) rfl sc_slips_shown.nd (di_any (dv 2)) (blkOk_in (own := [("r", 7)]) (N := N_slips_shown) (sc0 := defScope s_slips_shown) rfl (by decide +kernel)) (by decide) (fun _ _ _ _ _ => (pg_name (i := 7) sc_slips_shown.nd rfl (Or.inl rfl))) (fun _ _ _ _ _ => dts_nil) (fun _ _ _ _ _ => (de_methG G_Written_rest (hr.mono (by decide)) T.c_Written T.m_Written_rest (dv 6) (da_cons (dv 7) da_nil)))) (dv 4) (nomark _)))) (fun _ _ _ _ _ => (dv 5))))))))
def t_law_shown_right (K : PySem.W.Frag) : DS := (sSeq (sIf (dOr (eTest (eBin qGt (eCB (qLenO (He.ga K "Sheet") (sp_Sheet_len K)) (aCons (eV 1) aNil)) (eC (.int 8)))) (dOr (eTest (eBin qNe (eCB qLen (aCons (eV 2) aNil)) (eC (.int 1)))) (eTest (eBin qGt (eCall (sp_law_power K) (aCons (eProp (He.ga K "Sheet") (sp_Sheet_base K) (eV 1)) (aCons (eProp (He.ga K "Sheet") (sp_Sheet_rows K) (eV 1)) aNil))) (eC (.int 1000)))))) (sRet (eC (.bl true))) sNext) (sSeq (sAsg (eCall (sp_law_lot K) (aCons (eV 0) (aCons (eC (.int 2)) (aCons (eC (.int 40)) aNil)))) 4) (sSeq (sAsg (eMake (He.ga K "Kind") (sp_Kind_init K) (aCons (eProp (He.ga K "Sheet") (sp_Sheet_base K) (eV 1)) (aCons (eProp (He.ga K "Sheet") (sp_Sheet_rows K) (eV 1)) (aCons (eLst false (aCons (eBin qIx (eBin qIx (eV 2) (eC (.int 0))) (eC (.int 1))) aNil)) (aCons (eC (.int 1)) aNil))))) 5) (sRet (eBin (qIn false) (eV 2) (eCall (sp_slips_shown K) (aCons (eV 5) (aCons (eV 1) (aCons (eCB (qList false) (aCons (eV 4) aNil)) (aCons (eLc false (iS (eV 4)) (.one 6) dYes (eMeth (He.ga K "Written") "rest" (sp_Written_rest K) (eV 3) (aCons (eV 6) aNil)) [6]) aNil))))))))))
theorem d_law_shown_right (T : Txt K mg) (G_Sheet_len : Good P w K mg base 2 (He.ma K (He.ga K "Sheet") "__len__") ["self"] (sp_Sheet_len K)) (G_law_power : Good P w K mg base 2 (He.ga K "_law_power") ["base", "many"] (sp_law_power K)) (G_Sheet_rows : Good P w K mg base 2 (pga K (He.ga K "Sheet") "rows") ["self"] (sp_Sheet_rows K)) (G_Sheet_base : Good P w K mg base 2 (pga K (He.ga K "Sheet") "base") ["self"] (sp_Sheet_base K)) (G_law_lot : Good P w K mg base 5 (He.ga K "_law_lot") ["bag", "most", "greatest"] (sp_law_lot K)) (G_Kind_init : Good P w K mg base 8 (He.ma K (He.ga K "Kind") "__init__") ["self", "base", "rows", "deeds", "most"] (sp_Kind_init K)) (G_slips_shown : Good P w K mg base 26 (He.ga K "slips_shown") ["kind", "sheet", "lot", "shown"] (sp_slips_shown K)) (G_Written_rest : Good P w K mg base 5 (He.ma K (He.ga K "Written") "rest") ["self", "r"] (sp_Written_rest K)) : ∀ (cdv : Value) (A : Around) (outer : List Env) (s : Shared) (H : Hp) (E : XK) (B : Bs), Room 28 (A.deeper (envOfC "_law_shown_right" (defScope s_law_shown_right) s.heap.objs.size (He.ga K "_law_shown_right") cdv)) → PSs (cx0 P w K mg base N_law_shown_right "_law_shown_right" (defScope s_law_shown_right) (He.ga K "_law_shown_right") cdv A outer s H E) (defBody s_law_shown_right) (lS K B (t_law_shown_right K)) := by
  intro cdv A outer s H E B hr
  exact (dss_cons (ds_if (PW.pt (dw_or (dt_cmp op_gt od_gt (de_callB (call_lenO G_Sheet_len (hr.mono (by decide)) T.sm_Sheet_len) cd_lenO rfl T.n_len bt_len (da_cons (dv 1) da_nil)) de_int (nomark _)) (dw_or (dt_cmp (op_neD hr.units) od_ne (de_callB call_lenA cd_len rfl T.n_len bt_len (da_cons (dv 2) da_nil)) de_int (nomark _)) (dw_or1 (dt_cmp op_gt od_gt (de_callG G_law_power (hr.mono (by decide)) T.g_law_power (da_cons (de_propG G_Sheet_base (hr.mono (by decide)) T.c_Sheet T.p_Sheet_base (dv 1)) (da_cons (de_propG G_Sheet_rows (hr.mono (by decide)) T.c_Sheet T.p_Sheet_rows (dv 1)) da_nil))) de_int (nomark _)))))) (dss_one (ds_ret de_bl)) dss_nil) (dss_cons (ds_set (i := 4) sc_law_shown_right.nd rfl (Or.inl rfl) (de_callG G_law_lot (hr.mono (by decide)) T.g_law_lot (da_cons (dv 0) (da_cons de_int (da_cons de_int da_nil))))) (dss_cons (ds_set (i := 5) sc_law_shown_right.nd rfl (Or.inl rfl) (de_makeG G_Kind_init (hr.mono (by decide)) T.mk_Kind T.g_Kind (da_cons (de_propG G_Sheet_base (hr.mono (by decide)) T.c_Sheet T.p_Sheet_base (dv 1)) (da_cons (de_propG G_Sheet_rows (hr.mono (by decide)) T.c_Sheet T.p_Sheet_rows (dv 1)) (da_cons (de_lst (o := false) (da_cons (de_ix (de_ix (dv 2) de_int (fun _ _ => rfl)) de_int (fun _ _ => rfl)) da_nil)) (da_cons de_int da_nil)))))) (dss_one (ds_ret (de_cmp (op_inA (units5 hr)) od_in (dv 2) (de_callG G_slips_shown (hr.mono (by decide)) T.g_slips_shown (da_cons (dv 5) (da_cons (dv 1) (da_cons (de_callTy call_listA (cd_list (o := false)) rfl T.n_list bt_list (da_cons (dv 4) da_nil)) (da_cons (de_lc (o := false) (own := [("divisor", 6)]) (tg := (.one 6)) rfl sc_law_shown_right.nd (di_any (dv 4)) (blkOk_by (own := [("divisor", 6)]) (N := N_law_shown_right) (sc := defScope s_law_shown_right) (by decide +kernel)) (by decide) (fun _ _ _ _ _ => (pg_name (i := 6) sc_law_shown_right.nd rfl (Or.inl rfl))) (fun _ _ _ _ _ => dts_nil) (fun _ _ _ _ _ => (de_methG G_Written_rest (hr.mono (by decide)) T.c_Written T.m_Written_rest (dv 3) (da_cons (dv 6) da_nil)))) da_nil))))) rfl))))))
def t_law_mixed (K : PySem.W.Frag) : DS := (sSeq (sPar 2 3 (aCons (eCB (qList true) (aCons (eV 1) aNil)) (aCons (eLst true aNil) aNil))) (sSeq (sFor (iR1 (aCons (eCB qLen (aCons (eV 1) aNil)) aNil)) (.one 4) (sDrop (eBM qApp (eV 3) (aCons (eBM qPopI (eV 2) (aCons (eCall (sp_law_take K) (aCons (eV 0) (aCons (eCB qLen (aCons (eV 2) aNil)) aNil))) aNil)) aNil)))) (sRet (eV 3))))
theorem d_law_mixed (T : Txt K mg) (G_law_take : Good P w K mg base 2 (He.ga K "_law_take") ["bag", "many"] (sp_law_take K)) : ∀ (cdv : Value) (A : Around) (outer : List Env) (s : Shared) (H : Hp) (E : XK) (B : Bs), Room 4 (A.deeper (envOfC "_law_mixed" (defScope s_law_mixed) s.heap.objs.size (He.ga K "_law_mixed") cdv)) → PSs (cx0 P w K mg base N_law_mixed "_law_mixed" (defScope s_law_mixed) (He.ga K "_law_mixed") cdv A outer s H E) (defBody s_law_mixed) (lS K B (t_law_mixed K)) := by
  intro cdv A outer s H E B hr
  exact (dss_cons (ds_par (i := 2) (j := 3) rfl sc_law_mixed.nd rfl rfl (by decide) rfl rfl (da_cons (de_callTy call_listA (cd_list (o := true)) rfl T.n_list bt_list (da_cons (dv 1) da_nil)) (da_cons (de_lst (o := true) da_nil) da_nil))) (dss_cons (ds_for (tg := (.one 4)) PassesOwn.never rfl (di_range1 rfl T.n_range (da_cons (de_callB call_lenA cd_len rfl T.n_len bt_len (da_cons (dv 1) da_nil)) da_nil)) (pg_name (i := 4) sc_law_mixed.nd rfl (Or.inl rfl)) (dss_one (ds_expr (de_bm PySem.F.plainAttrs_list PySem.F.slot_list_append PySem.F.type_list_append mt_append md_app (dv 3) (da_cons (de_bm PySem.F.plainAttrs_list PySem.F.slot_list_pop PySem.F.type_list_pop mt_popAt md_popI (dv 2) (da_cons (de_callG G_law_take (hr.mono (by decide)) T.g_law_take (da_cons (dv 0) (da_cons (de_callB call_lenA cd_len rfl T.n_len bt_len (da_cons (dv 2) da_nil)) da_nil))) da_nil)) da_nil))))) (dss_one (ds_ret (dv 3)))))
def t_Sheet_cut (K : PySem.W.Frag) : DS := (sRet (eMake (He.ga K "Sheet") (sp_Sheet_init K) (aCons (eFld (He.ga K "Sheet") "held_base" (eV 0)) (aCons (eFld (He.ga K "Sheet") "held_rows" (eV 0)) (aCons (eSl false (eFld (He.ga K "Sheet") "held_columns" (eV 0)) (oSome (eV 1)) (oSome (eV 2))) aNil)))))
theorem d_Sheet_cut (T : Txt K mg) (G_Sheet_init : Good P w K mg base 8 (He.ma K (He.ga K "Sheet") "__init__") ["self", "base", "rows", "columns"] (sp_Sheet_init K)) : ∀ (cdv : Value) (A : Around) (outer : List Env) (s : Shared) (H : Hp) (E : XK) (B : Bs), Room 10 (A.deeper (envOfC "Sheet.cut" (defScope s_Sheet_cut) s.heap.objs.size (He.ma K (He.ga K "Sheet") "cut") cdv)) → PSs (cx0 P w K mg base N_Sheet_cut "Sheet.cut" (defScope s_Sheet_cut) (He.ma K (He.ga K "Sheet") "cut") cdv A outer s H E) (defBody s_Sheet_cut) (lS K B (t_Sheet_cut K)) := by
  intro cdv A outer s H E B hr
  exact (dss_one (ds_ret (de_makeG G_Sheet_init (hr.mono (by decide)) T.mk_Sheet T.g_Sheet (da_cons (de_fld T.c_Sheet T.na_Sheet_held_base (dv 0)) (da_cons (de_fld T.c_Sheet T.na_Sheet_held_rows (dv 0)) (da_cons (de_slice (o := false) (de_fld T.c_Sheet T.na_Sheet_held_columns (dv 0)) (do_some (dv 1)) (do_some (dv 2))) da_nil))))))
def t_law_written (K : PySem.W.Frag) : DS := (sSeq (sAsg (eC .non) 2) (sSeq (sTryN [("InvalidSlips", true)] (List.length N_law_written) (fun XX => (sAsg (eCallX XX (sp_add_with K) (aCons (eV 0) (aCons (eV 1) aNil))) 2)) (sAsg (eC .non) 2) (fun _ _ => False)) (sRet (eV 2))))
theorem d_law_written (T : Txt K mg) (G_add_with : GoodX P w K mg base 17 (He.ga K "add_with") ["sheet", "slips"] (sp_add_with K)) : ∀ (cdv : Value) (A : Around) (outer : List Env) (s : Shared) (H : Hp) (E : XK) (B : Bs), Room 19 (A.deeper (envOfC "_law_written" (defScope s_law_written) s.heap.objs.size (He.ga K "_law_written") cdv)) → PSs (cx0 P w K mg base N_law_written "_law_written" (defScope s_law_written) (He.ga K "_law_written") cdv A outer s H E) (defBody s_law_written) (lS K B (t_law_written K)) := by
  intro cdv A outer s H E B hr
  exact (dss_cons (ds_set (i := 2) sc_law_written.nd rfl (Or.inl rfl) de_non) (dss_cons (ds_tryN (tbl := [("InvalidSlips", true)]) (tb := fun XX => (sAsg (eCallX XX (sp_add_with K) (aCons (eV 0) (aCons (eV 1) aNil))) 2)) (ts := (sAsg (eC .non) 2)) rfl rfl T.g_InvalidSlips rfl XT.never T.xm_InvalidSlips (fun B XX pn xe tk po => (dss_one (ds_set (i := 2) sc_law_written.nd rfl (Or.inl rfl) (de_callX G_add_with tk (hr.mono (by decide)) T.g_add_with (da_cons (dv 0) (da_cons (dv 1) da_nil)))))) (fun B a oe pn => (dss_one (ds_set (i := 2) sc_law_written.nd rfl (Or.inl rfl) de_non)))) (dss_one (ds_ret (dv 2)))))
def t_law_with_carry (K : PySem.W.Frag) : DS := (sSeq (sAsg (eBin (qAdd false) (eLst false (aCons (eBin (qAdd false) (eBin qIx (eProp (He.ga K "Sheet") (sp_Sheet_columns K) (eV 0)) (eC (.int 0))) (eTup (aCons (eV 1) aNil))) aNil)) (eLc false (iS (eSl false (eProp (He.ga K "Sheet") (sp_Sheet_columns K) (eV 0)) (oSome (eC (.int 1))) oNone)) (.one 3) dYes (eBin (qAdd false) (eV 3) (eTup (aCons (eC (.int 0)) aNil))) [3])) 2) (sRet (eMake (He.ga K "Sheet") (sp_Sheet_init K) (aCons (eProp (He.ga K "Sheet") (sp_Sheet_base K) (eV 0)) (aCons (eBin (qAdd false) (eProp (He.ga K "Sheet") (sp_Sheet_rows K) (eV 0)) (eC (.int 1))) (aCons (eV 2) aNil))))))
theorem d_law_with_carry (T : Txt K mg) (G_Sheet_columns : Good P w K mg base 2 (pga K (He.ga K "Sheet") "columns") ["self"] (sp_Sheet_columns K)) (G_Sheet_init : Good P w K mg base 8 (He.ma K (He.ga K "Sheet") "__init__") ["self", "base", "rows", "columns"] (sp_Sheet_init K)) (G_Sheet_rows : Good P w K mg base 2 (pga K (He.ga K "Sheet") "rows") ["self"] (sp_Sheet_rows K)) (G_Sheet_base : Good P w K mg base 2 (pga K (He.ga K "Sheet") "base") ["self"] (sp_Sheet_base K)) : ∀ (cdv : Value) (A : Around) (outer : List Env) (s : Shared) (H : Hp) (E : XK) (B : Bs), Room 10 (A.deeper (envOfC "_law_with_carry" (defScope s_law_with_carry) s.heap.objs.size (He.ga K "_law_with_carry") cdv)) → PSs (cx0 P w K mg base N_law_with_carry "_law_with_carry" (defScope s_law_with_carry) (He.ga K "_law_with_carry") cdv A outer s H E) (defBody s_law_with_carry) (lS K B (t_law_with_carry K)) := by
  intro cdv A outer s H E B hr
  exact (dss_cons (ds_set (i := 2) sc_law_with_carry.nd rfl (Or.inl rfl) (de_bin op_addA (od_add (o := false)) (de_lst (o := false) (da_cons (de_bin op_addA (od_add (o := false)) (de_ix (de_propG G_Sheet_columns (hr.mono (by decide)) T.c_Sheet T.p_Sheet_columns (dv 0)) de_int (fun _ _ => rfl)) (de_tup (da_cons (dv 1) da_nil))) da_nil)) (de_lc (o := false) (own := [("column", 3)]) (tg := (.one 3)) rfl sc_law_with_carry.nd (di_any (de_slice (o := false) (de_propG G_Sheet_columns (hr.mono (by decide)) T.c_Sheet T.p_Sheet_columns (dv 0)) (do_some de_int) do_none)) (blkOk_by (own := [("column", 3)]) (N := N_law_with_carry) (sc := defScope s_law_with_carry) (by decide +kernel)) (by decide) (fun _ _ _ _ _ => (pg_name (i := 3) sc_law_with_carry.nd rfl (Or.inl rfl))) (fun _ _ _ _ _ => dts_nil) (fun _ _ _ _ _ => (de_bin op_addA (od_add (o := false)) (dv 3) (de_tup (da_cons de_int da_nil))))))) (dss_one (ds_ret (de_makeG G_Sheet_init (hr.mono (by decide)) T.mk_Sheet T.g_Sheet (da_cons (de_propG G_Sheet_base (hr.mono (by decide)) T.c_Sheet T.p_Sheet_base (dv 0)) (da_cons (de_bin op_addA (od_add (o := false)) (de_propG G_Sheet_rows (hr.mono (by decide)) T.c_Sheet T.p_Sheet_rows (dv 0)) de_int) (da_cons (dv 2) da_nil)))))))
def u_law_carry_right_0 (K : PySem.W.Frag) : DS := (sSeq (sAsg (eCallX (fun _ _ => False) (sp_add_with K) (aCons (eV 0) (aCons (eLst false (aCons (eTup (aCons (eV 1) (aCons (eTup (aCons (eC (.str "again")) aNil)) aNil))) aNil)) aNil))) 5) (sSeq (sIf (eTest (eBin qNe (eBin (qTwo (He.ga K "Written") (He.ga K "Sheet") (sp_Written_sub K)) (eV 5) (eV 0)) (eV 4))) (sRet (eC (.bl false))) sNext) (sSeq (sIf (eTest (eBin qEq (eCB (qLenO (He.ga K "Sheet") (sp_Sheet_len K)) (aCons (eV 3) aNil)) (eC (.int 0)))) (sRet (eBin (qTwo (He.ga K "Written") (He.ga K "Written") (sp_Written_eq K)) (eV 5) (eMake (He.ga K "Written") (sp_Written_init K) (aCons (eV 6) (aCons (eProp (He.ga K "Written") (sp_Written_figures K) (eV 2)) (aCons (eBin (qAdd false) (eProp (He.ga K "Written") (sp_Written_last K) (eV 2)) (eC (.int 1))) aNil)))))) sNext) (sSeq (sIf (eTest (eBin qGe (eBin (qAdd false) (eProp (He.ga K "Written") (sp_Written_last K) (eV 2)) (eC (.int 1))) (eV 6))) (sRet (eC (.bl true))) sNext) (sSeq (sAsg (eCall (sp_add_right K) (aCons (eCall (sp_law_with_carry K) (aCons (eV 3) (aCons (eBin (qAdd false) (eProp (He.ga K "Written") (sp_Written_last K) (eV 2)) (eC (.int 1))) aNil))) aNil)) 7) (sRet (eBin (qTwo (He.ga K "Written") (He.ga K "Written") (sp_Written_eq K)) (eV 5) (eMake (He.ga K "Written") (sp_Written_init K) (aCons (eV 6) (aCons (eBin (qAdd false) (eProp (He.ga K "Written") (sp_Written_figures K) (eV 2)) (eProp (He.ga K "Written") (sp_Written_figures K) (eV 7))) (aCons (eProp (He.ga K "Written") (sp_Written_last K) (eV 7)) aNil)))))))))))
def t_law_carry_right (K : PySem.W.Frag) : DS := (sSeq (sPar3 2 3 4 (aCons (eCall (sp_add_right K) (aCons (eMeth (He.ga K "Sheet") "cut" (sp_Sheet_cut K) (eV 0) (aCons (eC (.int 0)) (aCons (eBin (qAdd false) (eV 1) (eC (.int 1))) aNil))) aNil)) (aCons (eMeth (He.ga K "Sheet") "cut" (sp_Sheet_cut K) (eV 0) (aCons (eBin (qAdd false) (eV 1) (eC (.int 1))) (aCons (eCB (qLenO (He.ga K "Sheet") (sp_Sheet_len K)) (aCons (eV 0) aNil)) aNil))) (aCons (eCall (sp_law_power K) (aCons (eProp (He.ga K "Sheet") (sp_Sheet_base K) (eV 0)) (aCons (eBin (qAdd false) (eV 1) (eC (.int 1))) aNil))) aNil)))) (sSeq (sPar 5 6 (aCons (eCall (sp_law_written K) (aCons (eV 0) (aCons (eLst false (aCons (eTup (aCons (eV 1) (aCons (eTup (aCons (eC (.str "forget")) aNil)) aNil))) aNil)) aNil))) (aCons (eProp (He.ga K "Sheet") (sp_Sheet_base K) (eV 0)) aNil))) (sSeq (sIf (eTest (eBin qNe (eBin qIs (eV 5) (eC .non)) (eBin qEq (eProp (He.ga K "Written") (sp_Written_last K) (eV 2)) (eC (.int 0))))) (sRet (eC (.bl false))) sNext) (sSeq (sIf (eTest (eBin qIsNot (eV 5) (eC .non))) (sSeq (sAsg (eCall (sp_add_right K) (aCons (eV 3) aNil)) 7) (sIf (dOr (eTest (eBin (qNeO (He.ga K "Written") (sp_Written_eq K)) (eV 5) (eMake (He.ga K "Written") (sp_Written_init K) (aCons (eV 6) (aCons (eBin (qAdd false) (eProp (He.ga K "Written") (sp_Written_figures K) (eV 2)) (eProp (He.ga K "Written") (sp_Written_figures K) (eV 7))) (aCons (eProp (He.ga K "Written") (sp_Written_last K) (eV 7)) aNil)))))) (eTest (eBin qNe (eBin (qTwo (He.ga K "Written") (He.ga K "Sheet") (sp_Written_sub K)) (eV 5) (eV 0)) (eBin (qSub) (eC (.int 0)) (eBin (qMul) (eProp (He.ga K "Written") (sp_Written_last K) (eV 2)) (eV 4)))))) (sRet (eC (.bl false))) sNext)) sNext) (u_law_carry_right_0 K)))))
theorem d_law_carry_right (T : Txt K mg) (G_law_power : Good P w K mg base 2 (He.ga K "_law_power") ["base", "many"] (sp_law_power K)) (G_Sheet_base : Good P w K mg base 2 (pga K (He.ga K "Sheet") "base") ["self"] (sp_Sheet_base K)) (G_Sheet_cut : Good P w K mg base 11 (He.ma K (He.ga K "Sheet") "cut") ["self", "low", "high"] (sp_Sheet_cut K)) (G_Sheet_len : Good P w K mg base 2 (He.ma K (He.ga K "Sheet") "__len__") ["self"] (sp_Sheet_len K)) (G_add_right : Good P w K mg base 17 (He.ga K "add_right") ["sheet"] (sp_add_right K)) (G_law_written : Good P w K mg base 20 (He.ga K "_law_written") ["sheet", "slips"] (sp_law_written K)) (G_Written_last : Good P w K mg base 2 (pga K (He.ga K "Written") "last") ["self"] (sp_Written_last K)) (G_Written_eq : Good P w K mg base 2 (He.ma K (He.ga K "Written") "__eq__") ["self", "other"] (sp_Written_eq K)) (G_Written_init : Good P w K mg base 2 (He.ma K (He.ga K "Written") "__init__") ["self", "base", "figures", "last"] (sp_Written_init K)) (G_Written_figures : Good P w K mg base 2 (pga K (He.ga K "Written") "figures") ["self"] (sp_Written_figures K)) (G_Written_sub : Good P w K mg base 5 (He.ma K (He.ga K "Written") "__sub__") ["self", "other"] (sp_Written_sub K)) (G_add_with : GoodX P w K mg base 17 (He.ga K "add_with") ["sheet", "slips"] (sp_add_with K)) (G_law_with_carry : Good P w K mg base 11 (He.ga K "_law_with_carry") ["sheet", "carry"] (sp_law_with_carry K)) : ∀ (cdv : Value) (A : Around) (outer : List Env) (s : Shared) (H : Hp) (E : XK) (B : Bs), Room 22 (A.deeper (envOfC "_law_carry_right" (defScope s_law_carry_right) s.heap.objs.size (He.ga K "_law_carry_right") cdv)) → PSs (cx0 P w K mg base N_law_carry_right "_law_carry_right" (defScope s_law_carry_right) (He.ga K "_law_carry_right") cdv A outer s H E) (defBody s_law_carry_right) (lS K B (t_law_carry_right K)) := by
  intro cdv A outer s H E B hr
  have h : PSs (cx0 P w K mg base N_law_carry_right "_law_carry_right" (defScope s_law_carry_right) (He.ga K "_law_carry_right") cdv A outer s H E) (defBody s_law_carry_right) (lS K B (sSeq (sPar3 2 3 4 (aCons (eCall (sp_add_right K) (aCons (eMeth (He.ga K "Sheet") "cut" (sp_Sheet_cut K) (eV 0) (aCons (eC (.int 0)) (aCons (eBin (qAdd false) (eV 1) (eC (.int 1))) aNil))) aNil)) (aCons (eMeth (He.ga K "Sheet") "cut" (sp_Sheet_cut K) (eV 0) (aCons (eBin (qAdd false) (eV 1) (eC (.int 1))) (aCons (eCB (qLenO (He.ga K "Sheet") (sp_Sheet_len K)) (aCons (eV 0) aNil)) aNil))) (aCons (eCall (sp_law_power K) (aCons (eProp (He.ga K "Sheet") (sp_Sheet_base K) (eV 0)) (aCons (eBin (qAdd false) (eV 1) (eC (.int 1))) aNil))) aNil)))) (sSeq (sPar 5 6 (aCons (eCall (sp_law_written K) (aCons (eV 0) (aCons (eLst false (aCons (eTup (aCons (eV 1) (aCons (eTup (aCons (eC (.str "forget")) aNil)) aNil))) aNil)) aNil))) (aCons (eProp (He.ga K "Sheet") (sp_Sheet_base K) (eV 0)) aNil))) (sSeq (sIf (eTest (eBin qNe (eBin qIs (eV 5) (eC .non)) (eBin qEq (eProp (He.ga K "Written") (sp_Written_last K) (eV 2)) (eC (.int 0))))) (sRet (eC (.bl false))) sNext) (sSeq (sIf (eTest (eBin qIsNot (eV 5) (eC .non))) (sSeq (sAsg (eCall (sp_add_right K) (aCons (eV 3) aNil)) 7) (sIf (dOr (eTest (eBin (qNeO (He.ga K "Written") (sp_Written_eq K)) (eV 5) (eMake (He.ga K "Written") (sp_Written_init K) (aCons (eV 6) (aCons (eBin (qAdd false) (eProp (He.ga K "Written") (sp_Written_figures K) (eV 2)) (eProp (He.ga K "Written") (sp_Written_figures K) (eV 7))) (aCons (eProp (He.ga K "Written") (sp_Written_last K) (eV 7)) aNil)))))) (eTest (eBin qNe (eBin (qTwo (He.ga K "Written") (He.ga K "Sheet") (sp_Written_sub K)) (eV 5) (eV 0)) (eBin (qSub) (eC (.int 0)) (eBin (qMul) (eProp (He.ga K "Written") (sp_Written_last K) (eV 2)) (eV 4)))))) (sRet (eC (.bl false))) sNext)) sNext) (sSeq (sAsg (eCallX (fun _ _ => False) (sp_add_with K) (aCons (eV 0) (aCons (eLst false (aCons (eTup (aCons (eV 1) (aCons (eTup (aCons (eC (.str "again")) aNil)) aNil))) aNil)) aNil))) 5) (sSeq (sIf (eTest (eBin qNe (eBin (qTwo (He.ga K "Written") (He.ga K "Sheet") (sp_Written_sub K)) (eV 5) (eV 0)) (eV 4))) (sRet (eC (.bl false))) sNext) (sSeq (sIf (eTest (eBin qEq (eCB (qLenO (He.ga K "Sheet") (sp_Sheet_len K)) (aCons (eV 3) aNil)) (eC (.int 0)))) (sRet (eBin (qTwo (He.ga K "Written") (He.ga K "Written") (sp_Written_eq K)) (eV 5) (eMake (He.ga K "Written") (sp_Written_init K) (aCons (eV 6) (aCons (eProp (He.ga K "Written") (sp_Written_figures K) (eV 2)) (aCons (eBin (qAdd false) (eProp (He.ga K "Written") (sp_Written_last K) (eV 2)) (eC (.int 1))) aNil)))))) sNext) (sSeq (sIf (eTest (eBin qGe (eBin (qAdd false) (eProp (He.ga K "Written") (sp_Written_last K) (eV 2)) (eC (.int 1))) (eV 6))) (sRet (eC (.bl true))) sNext) (sSeq (sAsg (eCall (sp_add_right K) (aCons (eCall (sp_law_with_carry K) (aCons (eV 3) (aCons (eBin (qAdd false) (eProp (He.ga K "Written") (sp_Written_last K) (eV 2)) (eC (.int 1))) aNil))) aNil)) 7) (sRet (eBin (qTwo (He.ga K "Written") (He.ga K "Written") (sp_Written_eq K)) (eV 5) (eMake (He.ga K "Written") (sp_Written_init K) (aCons (eV 6) (aCons (eBin (qAdd false) (eProp (He.ga K "Written") (sp_Written_figures K) (eV 2)) (eProp (He.ga K "Written") (sp_Written_figures K) (eV 7))) (aCons (eProp (He.ga K "Written") (sp_Written_last K) (eV 7)) aNil)))))))))))))))) := (dss_cons (ds_par3 (i := 2) (j := 3) (l := 4) rfl sc_law_carry_right.nd rfl rfl rfl (by decide) (by decide) (by decide) rfl rfl rfl (da_cons (de_callG G_add_right (hr.mono (by decide)) T.g_add_right (da_cons (de_methG G_Sheet_cut (hr.mono (by decide)) T.c_Sheet T.m_Sheet_cut (dv 0) (da_cons de_int (da_cons (de_bin op_addA (od_add (o := false)) (dv 1) de_int) da_nil))) da_nil)) (da_cons (de_methG G_Sheet_cut (hr.mono (by decide)) T.c_Sheet T.m_Sheet_cut (dv 0) (da_cons (de_bin op_addA (od_add (o := false)) (dv 1) de_int) (da_cons (de_callB (call_lenO G_Sheet_len (hr.mono (by decide)) T.sm_Sheet_len) cd_lenO rfl T.n_len bt_len (da_cons (dv 0) da_nil)) da_nil))) (da_cons (de_callG G_law_power (hr.mono (by decide)) T.g_law_power (da_cons (de_propG G_Sheet_base (hr.mono (by decide)) T.c_Sheet T.p_Sheet_base (dv 0)) (da_cons (de_bin op_addA (od_add (o := false)) (dv 1) de_int) da_nil))) da_nil)))) (dss_cons (ds_par (i := 5) (j := 6) rfl sc_law_carry_right.nd rfl rfl (by decide) rfl rfl (da_cons (de_callG G_law_written (hr.mono (by decide)) T.g_law_written (da_cons (dv 0) (da_cons (de_lst (o := false) (da_cons (de_tup (da_cons (dv 1) (da_cons (de_tup (da_cons de_str da_nil)) da_nil))) da_nil)) da_nil))) (da_cons (de_propG G_Sheet_base (hr.mono (by decide)) T.c_Sheet T.p_Sheet_base (dv 0)) da_nil))) (dss_cons (ds_if (dt_cmp (op_neD hr.units) od_ne (de_cmp op_isA od_is (dv 5) de_non (nomark _)) (de_cmp (op_eqD hr.units) od_eq (de_propG G_Written_last (hr.mono (by decide)) T.c_Written T.p_Written_last (dv 2)) de_int (nomark _)) (nomark _)) (dss_one (ds_ret de_bl)) dss_nil) (dss_cons (ds_if (dt_cmp op_isNotA od_isNot (dv 5) de_non (nomark _)) (dss_cons (ds_set (i := 7) sc_law_carry_right.nd rfl (Or.inl rfl) (de_callG G_add_right (hr.mono (by decide)) T.g_add_right (da_cons (dv 3) da_nil))) (dss_one (ds_if (PW.pt (dw_or (dt_cmp (op_neO G_Written_eq (hr.mono (by decide)) (units1 hr) T.sm_Written_eq T.nf_Written) od_neO (dv 5) (de_makeG G_Written_init (hr.mono (by decide)) T.mk_Written T.g_Written (da_cons (dv 6) (da_cons (de_bin op_addA (od_add (o := false)) (de_propG G_Written_figures (hr.mono (by decide)) T.c_Written T.p_Written_figures (dv 2)) (de_propG G_Written_figures (hr.mono (by decide)) T.c_Written T.p_Written_figures (dv 7))) (da_cons (de_propG G_Written_last (hr.mono (by decide)) T.c_Written T.p_Written_last (dv 7)) da_nil)))) (nomark _)) (dw_or1 (dt_cmp (op_neD hr.units) od_ne (de_bin (op_binT G_Written_sub (hr.mono (by decide)) T.sm_Written_sub T.sf_Written T.ns_Sheet_sub) od_two (dv 5) (dv 0)) (de_bin op_sub od_sub de_int (de_bin op_mulA od_mul (de_propG G_Written_last (hr.mono (by decide)) T.c_Written T.p_Written_last (dv 2)) (dv 4))) (nomark _))))) (dss_one (ds_ret de_bl)) dss_nil))) dss_nil) (dss_cons (ds_set (i := 5) sc_law_carry_right.nd rfl (Or.inl rfl) (de_callX G_add_with XT.never (hr.mono (by decide)) T.g_add_with (da_cons (dv 0) (da_cons (de_lst (o := false) (da_cons (de_tup (da_cons (dv 1) (da_cons (de_tup (da_cons de_str da_nil)) da_nil))) da_nil)) da_nil)))) (dss_cons (ds_if (dt_cmp (op_neD hr.units) od_ne (de_bin (op_binT G_Written_sub (hr.mono (by decide)) T.sm_Written_sub T.sf_Written T.ns_Sheet_sub) od_two (dv 5) (dv 0)) (dv 4) (nomark _)) (dss_one (ds_ret de_bl)) dss_nil) (dss_cons (ds_if (dt_cmp (op_eqD hr.units) od_eq (de_callB (call_lenO G_Sheet_len (hr.mono (by decide)) T.sm_Sheet_len) cd_lenO rfl T.n_len bt_len (da_cons (dv 3) da_nil)) de_int (nomark _)) (dss_one (ds_ret (de_cmp (op_cmpO G_Written_eq (hr.mono (by decide)) hr.units0 T.sm_Written_eq) od_two (dv 5) (de_makeG G_Written_init (hr.mono (by decide)) T.mk_Written T.g_Written (da_cons (dv 6) (da_cons (de_propG G_Written_figures (hr.mono (by decide)) T.c_Written T.p_Written_figures (dv 2)) (da_cons (de_bin op_addA (od_add (o := false)) (de_propG G_Written_last (hr.mono (by decide)) T.c_Written T.p_Written_last (dv 2)) de_int) da_nil)))) (nomark _)))) dss_nil) (dss_cons (ds_if (dt_cmp op_ge od_ge (de_bin op_addA (od_add (o := false)) (de_propG G_Written_last (hr.mono (by decide)) T.c_Written T.p_Written_last (dv 2)) de_int) (dv 6) (nomark _)) (dss_one (ds_ret de_bl)) dss_nil) (dss_cons (ds_set (i := 7) sc_law_carry_right.nd rfl (Or.inl rfl) (de_callG G_add_right (hr.mono (by decide)) T.g_add_right (da_cons (de_callG G_law_with_carry (hr.mono (by decide)) T.g_law_with_carry (da_cons (dv 3) (da_cons (de_bin op_addA (od_add (o := false)) (de_propG G_Written_last (hr.mono (by decide)) T.c_Written T.p_Written_last (dv 2)) de_int) da_nil))) da_nil))) (dss_one (ds_ret (de_cmp (op_cmpO G_Written_eq (hr.mono (by decide)) hr.units0 T.sm_Written_eq) od_two (dv 5) (de_makeG G_Written_init (hr.mono (by decide)) T.mk_Written T.g_Written (da_cons (dv 6) (da_cons (de_bin op_addA (od_add (o := false)) (de_propG G_Written_figures (hr.mono (by decide)) T.c_Written T.p_Written_figures (dv 2)) (de_propG G_Written_figures (hr.mono (by decide)) T.c_Written T.p_Written_figures (dv 7))) (da_cons (de_propG G_Written_last (hr.mono (by decide)) T.c_Written T.p_Written_last (dv 7)) da_nil)))) (nomark _)))))))))))))
  exact h
def t_law_right (K : PySem.W.Frag) : DS := (sSeq (sAsg (eCall (sp_law_bag K) (aCons (eV 0) (aCons (eV 1) aNil))) 2) (sSeq (sPar 3 4 (aCons (eBin (qAdd false) (eC (.int 2)) (eCall (sp_law_take K) (aCons (eV 2) (aCons (eC (.int 11)) aNil)))) (aCons (eBin (qAdd false) (eC (.int 1)) (eCall (sp_law_take K) (aCons (eV 2) (aCons (eC (.int 3)) aNil)))) aNil))) (sSeq (sPar 5 6 (aCons (eBin (qAdd false) (eC (.int 1)) (eCall (sp_law_take K) (aCons (eV 2) (aCons (eBin qIx (eLst false (aCons (eC (.int 10)) (aCons (eC (.int 40)) aNil))) (eCB qInt (aCons (eBin qEq (eV 1) (eC (.int 0))) aNil))) aNil)))) (aCons (eLst true aNil) aNil))) (sSeq (sFor (iR1 (aCons (eV 5) aNil)) (.one 7) (sDrop (eBM qApp (eV 6) (aCons (eBin qIx (eLst false (aCons (eCall (sp_law_column K) (aCons (eV 2) (aCons (eV 3) (aCons (eV 4) aNil)))) (aCons (eCB qTuple (aCons (eBin (qRepL false) (eLst false (aCons (eBin (qSub) (eV 3) (eC (.int 1))) aNil)) (eV 4)) aNil)) aNil))) (eCall (sp_law_take K) (aCons (eV 2) (aCons (eC (.int 2)) aNil)))) aNil)))) (sSeq (sAsg (eMake (He.ga K "Sheet") (sp_Sheet_init K) (aCons (eV 3) (aCons (eV 4) (aCons (eV 6) aNil)))) 8) (sSeq (sAsg (eCall (sp_add_right K) (aCons (eV 8) aNil)) 9) (sSeq (sFor (iR1 (aCons (eC (.int 2)) aNil)) (.one 10) (sSeq (sAsgL (eCall (sp_law_marked K) (aCons (eV 2) (aCons (eV 8) (aCons (eV 9) aNil)))) [11, 12, 13]) (sSeq (sAsg (eCallX (fun _ _ => False) (sp_add_with K) (aCons (eV 8) (aCons (eCB (qList false) (aCons (eV 11) aNil)) aNil))) 14) (sSeq (sIf (dOr (eTest (eBin (qNeO (He.ga K "Written") (sp_Written_eq K)) (eV 14) (eMake (He.ga K "Written") (sp_Written_init K) (aCons (eV 3) (aCons (eV 12) (aCons (eProp (He.ga K "Written") (sp_Written_last K) (eV 9)) aNil)))))) (eTest (eBin qNe (eBin (qTwo (He.ga K "Written") (He.ga K "Sheet") (sp_Written_sub K)) (eV 14) (eV 8)) (eV 13)))) (sRet (eC (.bl false))) sNext) (sSeq (sAsg (eSl false (eV 11) oNone (oSome (eC (.int 1)))) 15) (sSeq (sIf (dNot (eTru (eCall (sp_law_shown_right K) (aCons (eV 2) (aCons (eV 8) (aCons (eV 15) (aCons (eCallX (fun _ _ => False) (sp_add_with K) (aCons (eV 8) (aCons (eCB (qList false) (aCons (eV 15) aNil)) aNil))) aNil))))))) (sRet (eC (.bl false))) sNext) (sSeq (sAsg (eCB qSum (aCons (eLc false (iS (eV 11)) (.one 18) dYes (eBin (qTwo (He.ga K "Written") (He.ga K "Sheet") (sp_Written_sub K)) (eCallX (fun _ _ => False) (sp_add_with K) (aCons (eV 8) (aCons (eLst false (aCons (eV 18) aNil)) aNil))) (eV 8)) [18]) aNil)) 16) (sIf (eTest (eBin qNe (eV 16) (eV 13))) (sRet (eC (.bl false))) sNext)))))))) (sSeq (sFor (iS (eSl false (eCall (sp_law_mixed K) (aCons (eV 2) (aCons (eListRg false (eV 5)) aNil))) oNone (oSome (eC (.int 8))))) (.one 17) (sIf (dNot (eTru (eCall (sp_law_carry_right K) (aCons (eV 8) (aCons (eV 17) aNil))))) (sRet (eC (.bl false))) sNext)) (sRet (eC (.bl true)))))))))))
theorem d_law_right (T : Txt K mg) (G_law_bag : Good P w K mg base 2 (He.ga K "_law_bag") ["script", "k"] (sp_law_bag K)) (G_law_take : Good P w K mg base 2 (He.ga K "_law_take") ["bag", "many"] (sp_law_take K)) (G_law_column : Good P w K mg base 5 (He.ga K "_law_column") ["bag", "base", "rows"] (sp_law_column K)) (G_Sheet_init : Good P w K mg base 8 (He.ma K (He.ga K "Sheet") "__init__") ["self", "base", "rows", "columns"] (sp_Sheet_init K)) (G_add_right : Good P w K mg base 17 (He.ga K "add_right") ["sheet"] (sp_add_right K)) (G_law_marked : Good P w K mg base 5 (He.ga K "_law_marked") ["bag", "sheet", "right"] (sp_law_marked K)) (G_add_with : GoodX P w K mg base 17 (He.ga K "add_with") ["sheet", "slips"] (sp_add_with K)) (G_Written_eq : Good P w K mg base 2 (He.ma K (He.ga K "Written") "__eq__") ["self", "other"] (sp_Written_eq K)) (G_Written_init : Good P w K mg base 2 (He.ma K (He.ga K "Written") "__init__") ["self", "base", "figures", "last"] (sp_Written_init K)) (G_Written_last : Good P w K mg base 2 (pga K (He.ga K "Written") "last") ["self"] (sp_Written_last K)) (G_Written_sub : Good P w K mg base 5 (He.ma K (He.ga K "Written") "__sub__") ["self", "other"] (sp_Written_sub K)) (G_law_shown_right : Good P w K mg base 29 (He.ga K "_law_shown_right") ["bag", "sheet", "slips", "written"] (sp_law_shown_right K)) (G_law_mixed : Good P w K mg base 5 (He.ga K "_law_mixed") ["bag", "items"] (sp_law_mixed K)) (G_law_carry_right : Good P w K mg base 23 (He.ga K "_law_carry_right") ["sheet", "at"] (sp_law_carry_right K)) : ∀ (cdv : Value) (A : Around) (outer : List Env) (s : Shared) (H : Hp) (E : XK) (B : Bs), Room 31 (A.deeper (envOfC "_law_right" (defScope s_law_right) s.heap.objs.size (He.ga K "_law_right") cdv)) → PSs (cx0 P w K mg base N_law_right "_law_right" (defScope s_law_right) (He.ga K "_law_right") cdv A outer s H E) (defBody s_law_right) (lS K B (t_law_right K)) := by
  intro cdv A outer s H E B hr
  exact (dss_cons (ds_set (i := 2) sc_law_right.nd rfl (Or.inl rfl) (de_callG G_law_bag (hr.mono (by decide)) T.g_law_bag (da_cons (dv 0) (da_cons (dv 1) da_nil)))) (dss_cons (ds_par (i := 3) (j := 4) rfl sc_law_right.nd rfl rfl (by decide) rfl rfl (da_cons (de_bin op_addA (od_add (o := false)) de_int (de_callG G_law_take (hr.mono (by decide)) T.g_law_take (da_cons (dv 2) (da_cons de_int da_nil)))) (da_cons (de_bin op_addA (od_add (o := false)) de_int (de_callG G_law_take (hr.mono (by decide)) T.g_law_take (da_cons (dv 2) (da_cons de_int da_nil)))) da_nil))) (dss_cons (ds_par (i := 5) (j := 6) rfl sc_law_right.nd rfl rfl (by decide) rfl rfl (da_cons (de_bin op_addA (od_add (o := false)) de_int (de_callG G_law_take (hr.mono (by decide)) T.g_law_take (da_cons (dv 2) (da_cons (de_ix (de_lst (o := false) (da_cons de_int (da_cons de_int da_nil))) (de_callTy call_intA cd_int rfl T.n_int bt_int (da_cons (de_cmp (op_eqD hr.units) od_eq (dv 1) de_int (nomark _)) da_nil)) (fun _ _ => rfl)) da_nil)))) (da_cons (de_lst (o := true) da_nil) da_nil))) (dss_cons (ds_for (tg := (.one 7)) PassesOwn.never rfl (di_range1 rfl T.n_range (da_cons (dv 5) da_nil)) (pg_name (i := 7) sc_law_right.nd rfl (Or.inl rfl)) (dss_one (ds_expr (de_bm PySem.F.plainAttrs_list PySem.F.slot_list_append PySem.F.type_list_append mt_append md_app (dv 6) (da_cons (de_ix (de_lst (o := false) (da_cons (de_callG G_law_column (hr.mono (by decide)) T.g_law_column (da_cons (dv 2) (da_cons (dv 3) (da_cons (dv 4) da_nil)))) (da_cons (de_callTy call_tupleA cd_tuple rfl T.n_tuple bt_tuple (da_cons (de_bin op_rep (od_repL (o := false)) (de_lst (o := false) (da_cons (de_bin op_sub od_sub (dv 3) de_int) da_nil)) (dv 4)) da_nil)) da_nil))) (de_callG G_law_take (hr.mono (by decide)) T.g_law_take (da_cons (dv 2) (da_cons de_int da_nil))) (fun _ _ => rfl)) da_nil))))) (dss_cons (ds_set (i := 8) sc_law_right.nd rfl (Or.inr rfl) (de_makeG G_Sheet_init (hr.mono (by decide)) T.mk_Sheet T.g_Sheet (da_cons (dv 3) (da_cons (dv 4) (da_cons (dv 6) da_nil))))) (dss_cons (ds_set (i := 9) sc_law_right.nd rfl (Or.inl rfl) (de_callG G_add_right (hr.mono (by decide)) T.g_add_right (da_cons (dv 8) da_nil))) (dss_cons (ds_for (tg := (.one 10)) PassesOwn.never rfl (di_range1 rfl T.n_range (da_cons de_int da_nil)) (pg_name (i := 10) sc_law_right.nd rfl (Or.inl rfl)) (dss_cons (ds_asgL (is := [11, 12, 13]) (de_callG G_law_marked (hr.mono (by decide)) T.g_law_marked (da_cons (dv 2) (da_cons (dv 8) (da_cons (dv 9) da_nil)))) (pg_lst rfl (pgs_cons (pg_name (i := 11) sc_law_right.nd rfl (Or.inl rfl)) (pgs_cons (pg_name (i := 12) sc_law_right.nd rfl (Or.inl rfl)) (pgs_cons (pg_name (i := 13) sc_law_right.nd rfl (Or.inl rfl)) pgs_nil))))) (dss_cons (ds_set (i := 14) sc_law_right.nd rfl (Or.inl rfl) (de_callX G_add_with XT.never (hr.mono (by decide)) T.g_add_with (da_cons (dv 8) (da_cons (de_callTy call_listA (cd_list (o := false)) rfl T.n_list bt_list (da_cons (dv 11) da_nil)) da_nil)))) (dss_cons (ds_if (PW.pt (dw_or (dt_cmp (op_neO G_Written_eq (hr.mono (by decide)) (units1 hr) T.sm_Written_eq T.nf_Written) od_neO (dv 14) (de_makeG G_Written_init (hr.mono (by decide)) T.mk_Written T.g_Written (da_cons (dv 3) (da_cons (dv 12) (da_cons (de_propG G_Written_last (hr.mono (by decide)) T.c_Written T.p_Written_last (dv 9)) da_nil)))) (nomark _)) (dw_or1 (dt_cmp (op_neD hr.units) od_ne (de_bin (op_binT G_Written_sub (hr.mono (by decide)) T.sm_Written_sub T.sf_Written T.ns_Sheet_sub) od_two (dv 14) (dv 8)) (dv 13) (nomark _))))) (dss_one (ds_ret de_bl)) dss_nil) (dss_cons (ds_set (i := 15) sc_law_right.nd rfl (Or.inl rfl) (de_slice (o := false) (dv 11) do_none (do_some de_int))) (dss_cons (ds_if (dt_not (dt_tru (de_callG G_law_shown_right (hr.mono (by decide)) T.g_law_shown_right (da_cons (dv 2) (da_cons (dv 8) (da_cons (dv 15) (da_cons (de_callX G_add_with XT.never (hr.mono (by decide)) T.g_add_with (da_cons (dv 8) (da_cons (de_callTy call_listA (cd_list (o := false)) rfl T.n_list bt_list (da_cons (dv 15) da_nil)) da_nil))) da_nil))))))) (dss_one (ds_ret de_bl)) dss_nil) (dss_cons (ds_set (i := 16) sc_law_right.nd rfl (Or.inl rfl) (de_callB (call_sumA rfl) cd_sum rfl T.n_sum bt_sum (da_cons (de_lc (o := false) (own := [("slip", 18)]) (tg := (.one 18)) rfl sc_law_right.nd (di_any (dv 11)) (blkOk_by (own := [("slip", 18)]) (N := N_law_right) (sc := defScope s_law_right) (by decide +kernel)) (by decide) (fun _ _ _ _ _ => (pg_name (i := 18) sc_law_right.nd rfl (Or.inl rfl))) (fun _ _ _ _ _ => dts_nil) (fun _ _ _ _ _ => (de_bin (op_binT G_Written_sub (hr.mono (by decide)) T.sm_Written_sub T.sf_Written T.ns_Sheet_sub) od_two (de_callX G_add_with XT.never (hr.mono (by decide)) T.g_add_with (da_cons (dv 8) (da_cons (de_lst (o := false) (da_cons (dv 18) da_nil)) da_nil))) (dv 8)))) da_nil))) (dss_one (ds_if (dt_cmp (op_neD hr.units) od_ne (dv 16) (dv 13) (nomark _)) (dss_one (ds_ret de_bl)) dss_nil))))))))) (dss_cons (ds_for (tg := (.one 17)) PassesOwn.never rfl (di_any (de_slice (o := false) (de_callG G_law_mixed (hr.mono (by decide)) T.g_law_mixed (da_cons (dv 2) (da_cons (de_listRg (o := false) rfl rfl T.n_list rfl T.n_range (dv 5)) da_nil))) do_none (do_some de_int))) (pg_name (i := 17) sc_law_right.nd rfl (Or.inl rfl)) (dss_one (ds_if (dt_not (dt_tru (de_callG G_law_carry_right (hr.mono (by decide)) T.g_law_carry_right (da_cons (dv 8) (da_cons (dv 17) da_nil))))) (dss_one (ds_ret de_bl)) dss_nil))) (dss_one (ds_ret de_bl))))))))))
def t_law (K : PySem.W.Frag) : DS := (sSeq (sFor (iR1 (aCons (eCB qMax2 (aCons (eC (.int 1)) (aCons (eCB qMin2 (aCons (eC (.int 6)) (aCons (eCB qLen (aCons (eV 0) aNil)) aNil))) aNil))) aNil)) (.one 1) (sIf (dNot (eTru (eCall (sp_law_right K) (aCons (eV 0) (aCons (eV 1) aNil))))) (sRet (eC (.bl false))) sNext)) (sRet (eC (.bl true))))
theorem d_law (T : Txt K mg) (G_law_right : Good P w K mg base 32 (He.ga K "_law_right") ["script", "k"] (sp_law_right K)) : ∀ (cdv : Value) (A : Around) (outer : List Env) (s : Shared) (H : Hp) (E : XK) (B : Bs), Room 34 (A.deeper (envOfC "law" (defScope s_law) s.heap.objs.size (He.ga K "law") cdv)) → PSs (cx0 P w K mg base N_law "law" (defScope s_law) (He.ga K "law") cdv A outer s H E) (defBody s_law) (lS K B (t_law K)) := by
  intro cdv A outer s H E B hr
  exact (dss_cons (ds_for (tg := (.one 1)) PassesOwn.never rfl (di_range1 rfl T.n_range (da_cons (de_callB (call_max2 rfl) cd_max2 rfl T.n_max bt_max (da_cons de_int (da_cons (de_callB (call_min2 rfl) cd_min2 rfl T.n_min bt_min (da_cons de_int (da_cons (de_callB call_lenA cd_len rfl T.n_len bt_len (da_cons (dv 0) da_nil)) da_nil))) da_nil))) da_nil)) (pg_name (i := 1) sc_law.nd rfl (Or.inl rfl)) (dss_one (ds_if (dt_not (dt_tru (de_callG G_law_right (hr.mono (by decide)) T.g_law_right (da_cons (dv 0) (da_cons (dv 1) da_nil))))) (dss_one (ds_ret de_bl)) dss_nil))) (dss_one (ds_ret de_bl)))
end
local macro_rules | `(tactic| walk_at "v") => `(tactic| repeat' (first
  | ((with_reducible refine v_varX ?_); (refine ⟨_, rfl, ?_⟩))
  | with_reducible refine v_c ?_
  | with_reducible refine v_seq ?_
  | with_reducible refine v_bin ?_
  | with_reducible refine v_asg ?_
  | with_reducible refine v_acons ?_
  | with_reducible refine v_anil ?_
  | with_reducible refine v_test ?_
  | with_reducible refine v_bl ?_
  | with_reducible refine v_in ?_
  | with_reducible refine v_call ?_
  | with_reducible refine v_cb ?_
  | with_reducible refine v_if ?_
  | with_reducible refine v_ret ?_
  | with_reducible refine v_addI ?_
  | with_reducible refine v_subI ?_
  | with_reducible refine v_eqI ?_
  | with_reducible refine v_neI ?_
  | with_reducible refine v_ltI ?_
  | with_reducible refine v_leI ?_
  | with_reducible refine v_gtI ?_
  | with_reducible refine v_geI ?_
  | with_reducible refine v_intI ?_
  | with_reducible refine v_intB ?_
  | with_reducible refine v_T ?_
  | with_reducible refine v_F ?_
  | with_reducible refine v_dnot ?_
  | with_reducible refine v_dand ?_
  | with_reducible refine v_dor ?_
  | with_reducible refine v_dyes ?_
  | with_reducible refine v_enot ?_
  | with_reducible refine v_eand ?_
  | with_reducible refine v_eor ?_
  | with_reducible refine v_eif ?_
  | with_reducible refine v_chain ?_
  | with_reducible refine v_tru ?_
  | with_reducible refine v_tup ?_
  | with_reducible refine v_lst ?_
  | with_reducible refine v_lc ?_
  | with_reducible refine v_for ?_
  | ((with_reducible refine v_j1X ?_); (refine ⟨by omega, ?_⟩))
  | ((with_reducible refine v_j2X ?_); (refine ⟨by omega, ?_⟩))
  | with_reducible refine v_newF ?_
  | with_reducible refine v_newC ?_
  | with_reducible refine v_sl ?_
  | with_reducible refine v_onone ?_
  | with_reducible refine v_osome ?_
  | with_reducible refine v_bm ?_
  | with_reducible refine v_bm0 ?_
  | with_reducible refine v_next ?_
  | with_reducible refine v_drop ?_
  | with_reducible refine v_retN ?_
  | with_reducible refine v_asgT ?_
  | with_reducible refine v_iS ?_
  | with_reducible refine v_iR1 ?_
  | with_reducible refine v_iR2 ?_
  | with_reducible refine v_prop ?_
  | with_reducible refine v_fld ?_
  | with_reducible refine v_meth ?_
  | with_reducible refine v_make ?_
  | with_reducible refine v_nthn ?_
  | with_reducible refine v_rthn ?_
  | with_reducible refine v_bthn ?_
  | with_reducible refine v_cthn ?_
  | with_reducible refine v_nlp ?_
  | with_reducible refine v_rlp ?_
  | with_reducible refine v_blp ?_
  | with_reducible refine v_clp ?_
  | with_reducible refine v_nfn ?_
  | with_reducible refine v_rfn ?_
  | ((with_reducible refine v_isXT ?_); (refine ⟨_, (by first | exact rfl | assumption), ?_⟩); (refine ⟨rfl, rfl, ?_⟩))
  | ((with_reducible refine v_isXF ?_); (refine ⟨_, (by first | exact rfl | assumption), ?_⟩); (refine ⟨rfl, rfl, ?_⟩))
  | ((with_reducible refine v_ixTX ?_); (refine ⟨_, rfl, ?_⟩))
  | ((with_reducible refine v_ixCx ?_); (refine ⟨_, _, (by first | assumption | exact DL.app_get | exact DL.set_get (by first | assumption | exact DL.app_get | exact DL.set_get (by first | assumption | exact DL.app_get | exact DL.set_get (by first | assumption | exact DL.app_get | exact DL.set_get (by first | assumption | exact DL.app_get | exact DL.set_get (by first | assumption | exact DL.app_get) | exact DL.app_get_lt (by first | assumption | exact DL.app_get)) | exact DL.app_get_lt (by first | assumption | exact DL.app_get | exact DL.set_get (by first | assumption | exact DL.app_get) | exact DL.app_get_lt (by first | assumption | exact DL.app_get))) | exact DL.app_get_lt (by first | assumption | exact DL.app_get | exact DL.set_get (by first | assumption | exact DL.app_get | exact DL.set_get (by first | assumption | exact DL.app_get) | exact DL.app_get_lt (by first | assumption | exact DL.app_get)) | exact DL.app_get_lt (by first | assumption | exact DL.app_get | exact DL.set_get (by first | assumption | exact DL.app_get) | exact DL.app_get_lt (by first | assumption | exact DL.app_get)))) | exact DL.app_get_lt (by first | assumption | exact DL.app_get | exact DL.set_get (by first | assumption | exact DL.app_get | exact DL.set_get (by first | assumption | exact DL.app_get | exact DL.set_get (by first | assumption | exact DL.app_get) | exact DL.app_get_lt (by first | assumption | exact DL.app_get)) | exact DL.app_get_lt (by first | assumption | exact DL.app_get | exact DL.set_get (by first | assumption | exact DL.app_get) | exact DL.app_get_lt (by first | assumption | exact DL.app_get))) | exact DL.app_get_lt (by first | assumption | exact DL.app_get | exact DL.set_get (by first | assumption | exact DL.app_get | exact DL.set_get (by first | assumption | exact DL.app_get) | exact DL.app_get_lt (by first | assumption | exact DL.app_get)) | exact DL.app_get_lt (by first | assumption | exact DL.app_get | exact DL.set_get (by first | assumption | exact DL.app_get) | exact DL.app_get_lt (by first | assumption | exact DL.app_get))))) | exact DL.app_get_lt (by first | assumption | exact DL.app_get | exact DL.set_get (by first | assumption | exact DL.app_get | exact DL.set_get (by first | assumption | exact DL.app_get | exact DL.set_get (by first | assumption | exact DL.app_get | exact DL.set_get (by first | assumption | exact DL.app_get) | exact DL.app_get_lt (by first | assumption | exact DL.app_get)) | exact DL.app_get_lt (by first | assumption | exact DL.app_get | exact DL.set_get (by first | assumption | exact DL.app_get) | exact DL.app_get_lt (by first | assumption | exact DL.app_get))) | exact DL.app_get_lt (by first | assumption | exact DL.app_get | exact DL.set_get (by first | assumption | exact DL.app_get | exact DL.set_get (by first | assumption | exact DL.app_get) | exact DL.app_get_lt (by first | assumption | exact DL.app_get)) | exact DL.app_get_lt (by first | assumption | exact DL.app_get | exact DL.set_get (by first | assumption | exact DL.app_get) | exact DL.app_get_lt (by first | assumption | exact DL.app_get)))) | exact DL.app_get_lt (by first | assumption | exact DL.app_get | exact DL.set_get (by first | assumption | exact DL.app_get | exact DL.set_get (by first | assumption | exact DL.app_get | exact DL.set_get (by first | assumption | exact DL.app_get) | exact DL.app_get_lt (by first | assumption | exact DL.app_get)) | exact DL.app_get_lt (by first | assumption | exact DL.app_get | exact DL.set_get (by first | assumption | exact DL.app_get) | exact DL.app_get_lt (by first | assumption | exact DL.app_get))) | exact DL.app_get_lt (by first | assumption | exact DL.app_get | exact DL.set_get (by first | assumption | exact DL.app_get | exact DL.set_get (by first | assumption | exact DL.app_get) | exact DL.app_get_lt (by first | assumption | exact DL.app_get)) | exact DL.app_get_lt (by first | assumption | exact DL.app_get | exact DL.set_get (by first | assumption | exact DL.app_get) | exact DL.app_get_lt (by first | assumption | exact DL.app_get)))))), rfl, ?_⟩))
  | ((with_reducible refine v_szX ?_); (refine ⟨rfl, ?_⟩))
  | ((with_reducible refine v_fdivX ?_); (refine ⟨.inl ⟨by omega, by omega⟩, ?_⟩))
  | ((with_reducible refine v_mulX ?_); (first | refine ⟨.inl (.inr ⟨by omega, by omega⟩), ?_⟩ | refine ⟨.inl (.inl ⟨by omega, by omega⟩), ?_⟩))
  | ((with_reducible refine v_powX ?_); (refine ⟨⟨by decide, by decide, by decide⟩, ?_⟩))
  | ((with_reducible refine v_modX ?_); (refine ⟨by omega, ?_⟩))
  | with_reducible refine v_sub ?_
  | with_reducible refine v_rev ?_
  | with_reducible refine v_tupT ?_
  | ((with_reducible refine v_subX ?_); refine ⟨_, _, _, _, rfl, (by first | assumption | exact DL.app_get | exact DL.set_get (by first | assumption | exact DL.app_get | exact DL.set_get (by first | assumption | exact DL.app_get | exact DL.set_get (by first | assumption | exact DL.app_get | exact DL.set_get (by first | assumption | exact DL.app_get | exact DL.set_get (by first | assumption | exact DL.app_get) | exact DL.app_get_lt (by first | assumption | exact DL.app_get)) | exact DL.app_get_lt (by first | assumption | exact DL.app_get | exact DL.set_get (by first | assumption | exact DL.app_get) | exact DL.app_get_lt (by first | assumption | exact DL.app_get))) | exact DL.app_get_lt (by first | assumption | exact DL.app_get | exact DL.set_get (by first | assumption | exact DL.app_get | exact DL.set_get (by first | assumption | exact DL.app_get) | exact DL.app_get_lt (by first | assumption | exact DL.app_get)) | exact DL.app_get_lt (by first | assumption | exact DL.app_get | exact DL.set_get (by first | assumption | exact DL.app_get) | exact DL.app_get_lt (by first | assumption | exact DL.app_get)))) | exact DL.app_get_lt (by first | assumption | exact DL.app_get | exact DL.set_get (by first | assumption | exact DL.app_get | exact DL.set_get (by first | assumption | exact DL.app_get | exact DL.set_get (by first | assumption | exact DL.app_get) | exact DL.app_get_lt (by first | assumption | exact DL.app_get)) | exact DL.app_get_lt (by first | assumption | exact DL.app_get | exact DL.set_get (by first | assumption | exact DL.app_get) | exact DL.app_get_lt (by first | assumption | exact DL.app_get))) | exact DL.app_get_lt (by first | assumption | exact DL.app_get | exact DL.set_get (by first | assumption | exact DL.app_get | exact DL.set_get (by first | assumption | exact DL.app_get) | exact DL.app_get_lt (by first | assumption | exact DL.app_get)) | exact DL.app_get_lt (by first | assumption | exact DL.app_get | exact DL.set_get (by first | assumption | exact DL.app_get) | exact DL.app_get_lt (by first | assumption | exact DL.app_get))))) | exact DL.app_get_lt (by first | assumption | exact DL.app_get | exact DL.set_get (by first | assumption | exact DL.app_get | exact DL.set_get (by first | assumption | exact DL.app_get | exact DL.set_get (by first | assumption | exact DL.app_get | exact DL.set_get (by first | assumption | exact DL.app_get) | exact DL.app_get_lt (by first | assumption | exact DL.app_get)) | exact DL.app_get_lt (by first | assumption | exact DL.app_get | exact DL.set_get (by first | assumption | exact DL.app_get) | exact DL.app_get_lt (by first | assumption | exact DL.app_get))) | exact DL.app_get_lt (by first | assumption | exact DL.app_get | exact DL.set_get (by first | assumption | exact DL.app_get | exact DL.set_get (by first | assumption | exact DL.app_get) | exact DL.app_get_lt (by first | assumption | exact DL.app_get)) | exact DL.app_get_lt (by first | assumption | exact DL.app_get | exact DL.set_get (by first | assumption | exact DL.app_get) | exact DL.app_get_lt (by first | assumption | exact DL.app_get)))) | exact DL.app_get_lt (by first | assumption | exact DL.app_get | exact DL.set_get (by first | assumption | exact DL.app_get | exact DL.set_get (by first | assumption | exact DL.app_get | exact DL.set_get (by first | assumption | exact DL.app_get) | exact DL.app_get_lt (by first | assumption | exact DL.app_get)) | exact DL.app_get_lt (by first | assumption | exact DL.app_get | exact DL.set_get (by first | assumption | exact DL.app_get) | exact DL.app_get_lt (by first | assumption | exact DL.app_get))) | exact DL.app_get_lt (by first | assumption | exact DL.app_get | exact DL.set_get (by first | assumption | exact DL.app_get | exact DL.set_get (by first | assumption | exact DL.app_get) | exact DL.app_get_lt (by first | assumption | exact DL.app_get)) | exact DL.app_get_lt (by first | assumption | exact DL.app_get | exact DL.set_get (by first | assumption | exact DL.app_get) | exact DL.app_get_lt (by first | assumption | exact DL.app_get)))))), rfl, rfl, ?_⟩)
  | with_reducible refine v_break ?_
  | with_reducible refine v_cont ?_
  | with_reducible refine v_truB' ?_
  | with_reducible refine v_nT ?_
  | with_reducible refine v_nF ?_
  | ((with_reducible refine v_itF ?_); (refine ⟨_, (by first | exact rfl | assumption), ?_⟩))
  | ((with_reducible refine v_itC ?_); (refine ⟨_, (by first | assumption | exact DL.app_get | exact DL.set_get (by first | assumption | exact DL.app_get | exact DL.set_get (by first | assumption | exact DL.app_get | exact DL.set_get (by first | assumption | exact DL.app_get | exact DL.set_get (by first | assumption | exact DL.app_get | exact DL.set_get (by first | assumption | exact DL.app_get) | exact DL.app_get_lt (by first | assumption | exact DL.app_get)) | exact DL.app_get_lt (by first | assumption | exact DL.app_get | exact DL.set_get (by first | assumption | exact DL.app_get) | exact DL.app_get_lt (by first | assumption | exact DL.app_get))) | exact DL.app_get_lt (by first | assumption | exact DL.app_get | exact DL.set_get (by first | assumption | exact DL.app_get | exact DL.set_get (by first | assumption | exact DL.app_get) | exact DL.app_get_lt (by first | assumption | exact DL.app_get)) | exact DL.app_get_lt (by first | assumption | exact DL.app_get | exact DL.set_get (by first | assumption | exact DL.app_get) | exact DL.app_get_lt (by first | assumption | exact DL.app_get)))) | exact DL.app_get_lt (by first | assumption | exact DL.app_get | exact DL.set_get (by first | assumption | exact DL.app_get | exact DL.set_get (by first | assumption | exact DL.app_get | exact DL.set_get (by first | assumption | exact DL.app_get) | exact DL.app_get_lt (by first | assumption | exact DL.app_get)) | exact DL.app_get_lt (by first | assumption | exact DL.app_get | exact DL.set_get (by first | assumption | exact DL.app_get) | exact DL.app_get_lt (by first | assumption | exact DL.app_get))) | exact DL.app_get_lt (by first | assumption | exact DL.app_get | exact DL.set_get (by first | assumption | exact DL.app_get | exact DL.set_get (by first | assumption | exact DL.app_get) | exact DL.app_get_lt (by first | assumption | exact DL.app_get)) | exact DL.app_get_lt (by first | assumption | exact DL.app_get | exact DL.set_get (by first | assumption | exact DL.app_get) | exact DL.app_get_lt (by first | assumption | exact DL.app_get))))) | exact DL.app_get_lt (by first | assumption | exact DL.app_get | exact DL.set_get (by first | assumption | exact DL.app_get | exact DL.set_get (by first | assumption | exact DL.app_get | exact DL.set_get (by first | assumption | exact DL.app_get | exact DL.set_get (by first | assumption | exact DL.app_get) | exact DL.app_get_lt (by first | assumption | exact DL.app_get)) | exact DL.app_get_lt (by first | assumption | exact DL.app_get | exact DL.set_get (by first | assumption | exact DL.app_get) | exact DL.app_get_lt (by first | assumption | exact DL.app_get))) | exact DL.app_get_lt (by first | assumption | exact DL.app_get | exact DL.set_get (by first | assumption | exact DL.app_get | exact DL.set_get (by first | assumption | exact DL.app_get) | exact DL.app_get_lt (by first | assumption | exact DL.app_get)) | exact DL.app_get_lt (by first | assumption | exact DL.app_get | exact DL.set_get (by first | assumption | exact DL.app_get) | exact DL.app_get_lt (by first | assumption | exact DL.app_get)))) | exact DL.app_get_lt (by first | assumption | exact DL.app_get | exact DL.set_get (by first | assumption | exact DL.app_get | exact DL.set_get (by first | assumption | exact DL.app_get | exact DL.set_get (by first | assumption | exact DL.app_get) | exact DL.app_get_lt (by first | assumption | exact DL.app_get)) | exact DL.app_get_lt (by first | assumption | exact DL.app_get | exact DL.set_get (by first | assumption | exact DL.app_get) | exact DL.app_get_lt (by first | assumption | exact DL.app_get))) | exact DL.app_get_lt (by first | assumption | exact DL.app_get | exact DL.set_get (by first | assumption | exact DL.app_get | exact DL.set_get (by first | assumption | exact DL.app_get) | exact DL.app_get_lt (by first | assumption | exact DL.app_get)) | exact DL.app_get_lt (by first | assumption | exact DL.app_get | exact DL.set_get (by first | assumption | exact DL.app_get) | exact DL.app_get_lt (by first | assumption | exact DL.app_get)))))), ?_⟩))
  | ((with_reducible refine v_insX ?_); (refine ⟨_, _, _, (by first | assumption | exact DL.ins_cell (by first | assumption | exact DL.app_get | exact DL.set_get (by first | assumption | exact DL.app_get | exact DL.set_get (by first | assumption | exact DL.app_get | exact DL.set_get (by first | assumption | exact DL.app_get | exact DL.set_get (by first | assumption | exact DL.app_get) | exact DL.app_get_lt (by first | assumption | exact DL.app_get)) | exact DL.app_get_lt (by first | assumption | exact DL.app_get | exact DL.set_get (by first | assumption | exact DL.app_get) | exact DL.app_get_lt (by first | assumption | exact DL.app_get))) | exact DL.app_get_lt (by first | assumption | exact DL.app_get | exact DL.set_get (by first | assumption | exact DL.app_get | exact DL.set_get (by first | assumption | exact DL.app_get) | exact DL.app_get_lt (by first | assumption | exact DL.app_get)) | exact DL.app_get_lt (by first | assumption | exact DL.app_get | exact DL.set_get (by first | assumption | exact DL.app_get) | exact DL.app_get_lt (by first | assumption | exact DL.app_get)))) | exact DL.app_get_lt (by first | assumption | exact DL.app_get | exact DL.set_get (by first | assumption | exact DL.app_get | exact DL.set_get (by first | assumption | exact DL.app_get | exact DL.set_get (by first | assumption | exact DL.app_get) | exact DL.app_get_lt (by first | assumption | exact DL.app_get)) | exact DL.app_get_lt (by first | assumption | exact DL.app_get | exact DL.set_get (by first | assumption | exact DL.app_get) | exact DL.app_get_lt (by first | assumption | exact DL.app_get))) | exact DL.app_get_lt (by first | assumption | exact DL.app_get | exact DL.set_get (by first | assumption | exact DL.app_get | exact DL.set_get (by first | assumption | exact DL.app_get) | exact DL.app_get_lt (by first | assumption | exact DL.app_get)) | exact DL.app_get_lt (by first | assumption | exact DL.app_get | exact DL.set_get (by first | assumption | exact DL.app_get) | exact DL.app_get_lt (by first | assumption | exact DL.app_get)))))), rfl, ?_⟩))
  | ((with_reducible refine v_insP ?_); (refine ⟨⟨_, _, (by first | assumption | exact DL.ins_cell (by first | assumption | exact DL.app_get | exact DL.set_get (by first | assumption | exact DL.app_get | exact DL.set_get (by first | assumption | exact DL.app_get | exact DL.set_get (by first | assumption | exact DL.app_get | exact DL.set_get (by first | assumption | exact DL.app_get) | exact DL.app_get_lt (by first | assumption | exact DL.app_get)) | exact DL.app_get_lt (by first | assumption | exact DL.app_get | exact DL.set_get (by first | assumption | exact DL.app_get) | exact DL.app_get_lt (by first | assumption | exact DL.app_get))) | exact DL.app_get_lt (by first | assumption | exact DL.app_get | exact DL.set_get (by first | assumption | exact DL.app_get | exact DL.set_get (by first | assumption | exact DL.app_get) | exact DL.app_get_lt (by first | assumption | exact DL.app_get)) | exact DL.app_get_lt (by first | assumption | exact DL.app_get | exact DL.set_get (by first | assumption | exact DL.app_get) | exact DL.app_get_lt (by first | assumption | exact DL.app_get)))) | exact DL.app_get_lt (by first | assumption | exact DL.app_get | exact DL.set_get (by first | assumption | exact DL.app_get | exact DL.set_get (by first | assumption | exact DL.app_get | exact DL.set_get (by first | assumption | exact DL.app_get) | exact DL.app_get_lt (by first | assumption | exact DL.app_get)) | exact DL.app_get_lt (by first | assumption | exact DL.app_get | exact DL.set_get (by first | assumption | exact DL.app_get) | exact DL.app_get_lt (by first | assumption | exact DL.app_get))) | exact DL.app_get_lt (by first | assumption | exact DL.app_get | exact DL.set_get (by first | assumption | exact DL.app_get | exact DL.set_get (by first | assumption | exact DL.app_get) | exact DL.app_get_lt (by first | assumption | exact DL.app_get)) | exact DL.app_get_lt (by first | assumption | exact DL.app_get | exact DL.set_get (by first | assumption | exact DL.app_get) | exact DL.app_get_lt (by first | assumption | exact DL.app_get))))))⟩, ?_⟩))
  | ((with_reducible refine v_lkX ?_); (refine ⟨_, (by first | exact rfl | assumption), ?_⟩))
  | with_reducible refine v_fldS ?_
  | ((with_reducible refine v_fldX ?_); refine ⟨_, _, _, rfl, (by first | assumption | exact DL.app_get | exact DL.set_get (by first | assumption | exact DL.app_get | exact DL.set_get (by first | assumption | exact DL.app_get | exact DL.set_get (by first | assumption | exact DL.app_get | exact DL.set_get (by first | assumption | exact DL.app_get | exact DL.set_get (by first | assumption | exact DL.app_get) | exact DL.app_get_lt (by first | assumption | exact DL.app_get)) | exact DL.app_get_lt (by first | assumption | exact DL.app_get | exact DL.set_get (by first | assumption | exact DL.app_get) | exact DL.app_get_lt (by first | assumption | exact DL.app_get))) | exact DL.app_get_lt (by first | assumption | exact DL.app_get | exact DL.set_get (by first | assumption | exact DL.app_get | exact DL.set_get (by first | assumption | exact DL.app_get) | exact DL.app_get_lt (by first | assumption | exact DL.app_get)) | exact DL.app_get_lt (by first | assumption | exact DL.app_get | exact DL.set_get (by first | assumption | exact DL.app_get) | exact DL.app_get_lt (by first | assumption | exact DL.app_get)))) | exact DL.app_get_lt (by first | assumption | exact DL.app_get | exact DL.set_get (by first | assumption | exact DL.app_get | exact DL.set_get (by first | assumption | exact DL.app_get | exact DL.set_get (by first | assumption | exact DL.app_get) | exact DL.app_get_lt (by first | assumption | exact DL.app_get)) | exact DL.app_get_lt (by first | assumption | exact DL.app_get | exact DL.set_get (by first | assumption | exact DL.app_get) | exact DL.app_get_lt (by first | assumption | exact DL.app_get))) | exact DL.app_get_lt (by first | assumption | exact DL.app_get | exact DL.set_get (by first | assumption | exact DL.app_get | exact DL.set_get (by first | assumption | exact DL.app_get) | exact DL.app_get_lt (by first | assumption | exact DL.app_get)) | exact DL.app_get_lt (by first | assumption | exact DL.app_get | exact DL.set_get (by first | assumption | exact DL.app_get) | exact DL.app_get_lt (by first | assumption | exact DL.app_get))))) | exact DL.app_get_lt (by first | assumption | exact DL.app_get | exact DL.set_get (by first | assumption | exact DL.app_get | exact DL.set_get (by first | assumption | exact DL.app_get | exact DL.set_get (by first | assumption | exact DL.app_get | exact DL.set_get (by first | assumption | exact DL.app_get) | exact DL.app_get_lt (by first | assumption | exact DL.app_get)) | exact DL.app_get_lt (by first | assumption | exact DL.app_get | exact DL.set_get (by first | assumption | exact DL.app_get) | exact DL.app_get_lt (by first | assumption | exact DL.app_get))) | exact DL.app_get_lt (by first | assumption | exact DL.app_get | exact DL.set_get (by first | assumption | exact DL.app_get | exact DL.set_get (by first | assumption | exact DL.app_get) | exact DL.app_get_lt (by first | assumption | exact DL.app_get)) | exact DL.app_get_lt (by first | assumption | exact DL.app_get | exact DL.set_get (by first | assumption | exact DL.app_get) | exact DL.app_get_lt (by first | assumption | exact DL.app_get)))) | exact DL.app_get_lt (by first | assumption | exact DL.app_get | exact DL.set_get (by first | assumption | exact DL.app_get | exact DL.set_get (by first | assumption | exact DL.app_get | exact DL.set_get (by first | assumption | exact DL.app_get) | exact DL.app_get_lt (by first | assumption | exact DL.app_get)) | exact DL.app_get_lt (by first | assumption | exact DL.app_get | exact DL.set_get (by first | assumption | exact DL.app_get) | exact DL.app_get_lt (by first | assumption | exact DL.app_get))) | exact DL.app_get_lt (by first | assumption | exact DL.app_get | exact DL.set_get (by first | assumption | exact DL.app_get | exact DL.set_get (by first | assumption | exact DL.app_get) | exact DL.app_get_lt (by first | assumption | exact DL.app_get)) | exact DL.app_get_lt (by first | assumption | exact DL.app_get | exact DL.set_get (by first | assumption | exact DL.app_get) | exact DL.app_get_lt (by first | assumption | exact DL.app_get)))))), by decide, by decide, ?_⟩)
  | with_reducible refine v_isN0 ?_
  | with_reducible refine v_isnN0 ?_
  | ((with_reducible refine v_isN1 ?_); (refine ⟨rfl, rfl, ?_⟩))
  | ((with_reducible refine v_isnN1 ?_); (refine ⟨rfl, rfl, ?_⟩))
  | ((with_reducible refine v_eqNF ?_); (refine ⟨⟨rfl, rfl, rfl⟩, (by first | rfl | decide +kernel), (by first | rfl | decide +kernel), (by first | rfl | decide +kernel), ?_⟩))
  | ((with_reducible refine v_eqNT ?_); (refine ⟨⟨rfl, rfl, rfl⟩, (by first | rfl | decide +kernel), (by first | rfl | decide +kernel), (by first | rfl | decide +kernel), ?_⟩))
  | ((with_reducible refine v_neNF ?_); (refine ⟨⟨rfl, rfl, rfl⟩, (by first | rfl | decide +kernel), (by first | rfl | decide +kernel), (by first | rfl | decide +kernel), ?_⟩))
  | ((with_reducible refine v_neNT ?_); (refine ⟨⟨rfl, rfl, rfl⟩, (by first | rfl | decide +kernel), (by first | rfl | decide +kernel), (by first | rfl | decide +kernel), ?_⟩))
  | with_reducible refine v_asgG ?_
  | with_reducible refine v_gN ?_
  | with_reducible refine v_gF ?_
  | with_reducible refine v_gZ ?_
  | with_reducible refine v_gC ?_
  | ((with_reducible refine v_gT ?_); (refine ⟨rfl, ?_⟩))
  | ((with_reducible refine v_updF ?_); (refine ⟨_, _, _, _, rfl, (by first | assumption | exact DL.app_get | exact DL.set_get (by first | assumption | exact DL.app_get | exact DL.set_get (by first | assumption | exact DL.app_get | exact DL.set_get (by first | assumption | exact DL.app_get | exact DL.set_get (by first | assumption | exact DL.app_get | exact DL.set_get (by first | assumption | exact DL.app_get) | exact DL.app_get_lt (by first | assumption | exact DL.app_get)) | exact DL.app_get_lt (by first | assumption | exact DL.app_get | exact DL.set_get (by first | assumption | exact DL.app_get) | exact DL.app_get_lt (by first | assumption | exact DL.app_get))) | exact DL.app_get_lt (by first | assumption | exact DL.app_get | exact DL.set_get (by first | assumption | exact DL.app_get | exact DL.set_get (by first | assumption | exact DL.app_get) | exact DL.app_get_lt (by first | assumption | exact DL.app_get)) | exact DL.app_get_lt (by first | assumption | exact DL.app_get | exact DL.set_get (by first | assumption | exact DL.app_get) | exact DL.app_get_lt (by first | assumption | exact DL.app_get)))) | exact DL.app_get_lt (by first | assumption | exact DL.app_get | exact DL.set_get (by first | assumption | exact DL.app_get | exact DL.set_get (by first | assumption | exact DL.app_get | exact DL.set_get (by first | assumption | exact DL.app_get) | exact DL.app_get_lt (by first | assumption | exact DL.app_get)) | exact DL.app_get_lt (by first | assumption | exact DL.app_get | exact DL.set_get (by first | assumption | exact DL.app_get) | exact DL.app_get_lt (by first | assumption | exact DL.app_get))) | exact DL.app_get_lt (by first | assumption | exact DL.app_get | exact DL.set_get (by first | assumption | exact DL.app_get | exact DL.set_get (by first | assumption | exact DL.app_get) | exact DL.app_get_lt (by first | assumption | exact DL.app_get)) | exact DL.app_get_lt (by first | assumption | exact DL.app_get | exact DL.set_get (by first | assumption | exact DL.app_get) | exact DL.app_get_lt (by first | assumption | exact DL.app_get))))) | exact DL.app_get_lt (by first | assumption | exact DL.app_get | exact DL.set_get (by first | assumption | exact DL.app_get | exact DL.set_get (by first | assumption | exact DL.app_get | exact DL.set_get (by first | assumption | exact DL.app_get | exact DL.set_get (by first | assumption | exact DL.app_get) | exact DL.app_get_lt (by first | assumption | exact DL.app_get)) | exact DL.app_get_lt (by first | assumption | exact DL.app_get | exact DL.set_get (by first | assumption | exact DL.app_get) | exact DL.app_get_lt (by first | assumption | exact DL.app_get))) | exact DL.app_get_lt (by first | assumption | exact DL.app_get | exact DL.set_get (by first | assumption | exact DL.app_get | exact DL.set_get (by first | assumption | exact DL.app_get) | exact DL.app_get_lt (by first | assumption | exact DL.app_get)) | exact DL.app_get_lt (by first | assumption | exact DL.app_get | exact DL.set_get (by first | assumption | exact DL.app_get) | exact DL.app_get_lt (by first | assumption | exact DL.app_get)))) | exact DL.app_get_lt (by first | assumption | exact DL.app_get | exact DL.set_get (by first | assumption | exact DL.app_get | exact DL.set_get (by first | assumption | exact DL.app_get | exact DL.set_get (by first | assumption | exact DL.app_get) | exact DL.app_get_lt (by first | assumption | exact DL.app_get)) | exact DL.app_get_lt (by first | assumption | exact DL.app_get | exact DL.set_get (by first | assumption | exact DL.app_get) | exact DL.app_get_lt (by first | assumption | exact DL.app_get))) | exact DL.app_get_lt (by first | assumption | exact DL.app_get | exact DL.set_get (by first | assumption | exact DL.app_get | exact DL.set_get (by first | assumption | exact DL.app_get) | exact DL.app_get_lt (by first | assumption | exact DL.app_get)) | exact DL.app_get_lt (by first | assumption | exact DL.app_get | exact DL.set_get (by first | assumption | exact DL.app_get) | exact DL.app_get_lt (by first | assumption | exact DL.app_get)))))), by decide, rfl, ?_⟩))
  | with_reducible refine v_fldU ?_
  | with_reducible refine v_fldA ?_
  | with_reducible refine v_addII ?_
  | ((with_reducible refine v_methX ?_); (refine ⟨⟨_, _, (by first | assumption | exact DL.ins_cell (by first | assumption | exact DL.app_get | exact DL.set_get (by first | assumption | exact DL.app_get | exact DL.set_get (by first | assumption | exact DL.app_get | exact DL.set_get (by first | assumption | exact DL.app_get | exact DL.set_get (by first | assumption | exact DL.app_get) | exact DL.app_get_lt (by first | assumption | exact DL.app_get)) | exact DL.app_get_lt (by first | assumption | exact DL.app_get | exact DL.set_get (by first | assumption | exact DL.app_get) | exact DL.app_get_lt (by first | assumption | exact DL.app_get))) | exact DL.app_get_lt (by first | assumption | exact DL.app_get | exact DL.set_get (by first | assumption | exact DL.app_get | exact DL.set_get (by first | assumption | exact DL.app_get) | exact DL.app_get_lt (by first | assumption | exact DL.app_get)) | exact DL.app_get_lt (by first | assumption | exact DL.app_get | exact DL.set_get (by first | assumption | exact DL.app_get) | exact DL.app_get_lt (by first | assumption | exact DL.app_get)))) | exact DL.app_get_lt (by first | assumption | exact DL.app_get | exact DL.set_get (by first | assumption | exact DL.app_get | exact DL.set_get (by first | assumption | exact DL.app_get | exact DL.set_get (by first | assumption | exact DL.app_get) | exact DL.app_get_lt (by first | assumption | exact DL.app_get)) | exact DL.app_get_lt (by first | assumption | exact DL.app_get | exact DL.set_get (by first | assumption | exact DL.app_get) | exact DL.app_get_lt (by first | assumption | exact DL.app_get))) | exact DL.app_get_lt (by first | assumption | exact DL.app_get | exact DL.set_get (by first | assumption | exact DL.app_get | exact DL.set_get (by first | assumption | exact DL.app_get) | exact DL.app_get_lt (by first | assumption | exact DL.app_get)) | exact DL.app_get_lt (by first | assumption | exact DL.app_get | exact DL.set_get (by first | assumption | exact DL.app_get) | exact DL.app_get_lt (by first | assumption | exact DL.app_get)))))), by decide⟩, ?_⟩))
  | with_reducible refine v_while ?_
  | with_reducible refine v_setO ?_
  | with_reducible refine v_en ?_
  | with_reducible refine v_oneD ?_
  | ((with_reducible refine v_itLF ?_); (refine ⟨_, rfl, ?_⟩))
  | ((with_reducible refine v_tgX ?_); (refine ⟨_, rfl, ?_⟩))
  | with_reducible refine v_neg ?_
  | with_reducible refine v_oneI ?_
  | with_reducible refine v_isnB ?_
  | with_reducible refine v_isB ?_
  | with_reducible refine v_lc2 ?_
  | with_reducible refine v_max2 ?_
  | with_reducible refine v_min2 ?_
  | with_reducible refine v_callX ?_
  | with_reducible refine v_makeX ?_
  | with_reducible refine v_setX ?_
  | with_reducible refine v_twoX ?_
  | ((with_reducible refine v_isEX ?_); (refine ⟨_, rfl, rfl, _, List.mem_cons_self, ?_⟩))
  | with_reducible refine v_raise ?_
  | ((with_reducible refine v_par ?_); skip)
  | with_reducible refine v_raiseI ?_
  | with_reducible refine v_xf ?_
  | with_reducible refine v_unx ?_
  | with_reducible refine v_urt ?_
  | with_reducible refine v_dct ?_
  | with_reducible refine v_dnew ?_
  | with_reducible refine v_dput ?_
  | with_reducible refine v_dget ?_
  | with_reducible refine v_din ?_
  | with_reducible refine v_star ?_
  | with_reducible refine v_par3 ?_
  | with_reducible refine v_fz ?_))
local macro_rules | `(tactic| walk_at "w") => `(tactic| (walk_at "v"; all_goals try dsimp only [List.set]))
section
variable {K : PySem.W.Frag}
theorem los_sh {k : Nat} {b r z : Int} {cols : List (List Int)} : los k [.int b, .int r, .lst (cols.map encC), .int z] = true := by
  show (true && (true && (los k (cols.map encC) && (true && true)))) = true
  rw [los_encC]; rfl
def opW : Op → Str
  | .right => "right"
  | .forget => "forget"
  | .again => "again"
  | .off _ => "off"
  | .read _ _ => "read"
  | .copy _ => "copy"
  | .swap => "swap"
  | .out => "out"
  | .twice => "twice"
def opN : Op → List Int
  | .off d => [d]
  | .read j d => [(j : Int), d]
  | .copy j => [(j : Int)]
  | _ => []
theorem encO_eq (o : Op) : encO o = .tup (.str (opW o) :: (opN o).map .int) := by cases o <;> rfl
theorem opW_lay (o : Op) : (PyData.str (opW o)).canLay0 = true := by cases o <;> dsimp only [opW] <;> first | rfl | decide +kernel
theorem shs_int (n : Nat) (ns : List Int) : Shs n (ns.map .int) := .all fun d hd => by
  obtain ⟨i, _, rfl⟩ := List.mem_map.mp hd
  exact (Sh.int i).mono (Nat.zero_le _)
theorem sh_O (o : Op) : Sh 1 (encO o) := by rw [encO_eq]; exact .tup (.cons (Sh.str (opW_lay _)) (shs_int 0 _))
theorem sh_S (s : Nat × Op) : Sh 2 (encSo s) := .tup (.cons ((Sh.int _).mono (by decide)) (.cons ((sh_O _).mono (by decide)) .nil))
theorem opW_eqv (a c : Op) : PyData.eqv (.str (opW a)) (.str (opW c)) = decide (opW a = opW c) := by cases a <;> cases c <;> first | rfl | decide +kernel
theorem op_ext (a c : Op) : a = c ↔ opW a = opW c ∧ opN a = opN c := by
  constructor
  · rintro rfl
    exact ⟨rfl, rfl⟩
  · rintro ⟨h1, h2⟩
    cases a <;> cases c <;> first | rfl | (exfalso; dsimp only [opW] at h1; revert h1; decide +kernel) | (simp [opN] at h2; simp [h2]; done) | (simp [opN] at h2; simp [h2]; omega)
theorem eqv_O (a c : Op) : PyData.eqv (toP (encO a)) (toP (encO c)) = decide (a = c) := by
  rw [encO_eq, encO_eq]
  show (PyData.eqv (.str (opW a)) (.str (opW c)) && PyData.eqvAll (toPs ((opN a).map .int)) (toPs ((opN c).map .int))) = _
  rw [opW_eqv, encI.eqvs, ← Bool.decide_and]
  exact decide_eq_decide.mpr (op_ext a c).symm
theorem eqv_S (x y : Nat × Op) : PyData.eqv (toP (encSo x)) (toP (encSo y)) = decide (x = y) := by
  obtain ⟨a, o⟩ := x
  obtain ⟨c, p⟩ := y
  show (decide ((a : Int) = (c : Int)) && (PyData.eqv (toP (encO o)) (toP (encO p)) && true)) = _
  rw [eqv_O, Bool.and_true, ← Bool.decide_and]
  exact decide_eq_decide.mpr ⟨fun h => by rw [show a = c by omega, h.2], fun h => by cases h; exact ⟨rfl, rfl⟩⟩
theorem Wo.lay : ∀ a : Wo, (PyData.str a.s).canLay0 = true := by
  intro a
  cases a <;> first | rfl | decide +kernel
theorem encSE : EqE encSo 2 := ⟨fun t => (sh_S t).ok, fun t => (sh_S t).lay, fun t => (sh_S t).dep, eqv_S⟩
theorem encSlE : EqE encSl 3 := encSE.lst
theorem any_mem {α : Type} [DecidableEq α] {enc : α → D} {n : Nat} (h : EqE enc n) (a : α) : ∀ xs : List α, ((toPs (xs.map enc)).any fun z => PyData.eqv z (toP (enc a))) = decide (a ∈ xs)
  | [] => rfl
  | x :: xs => by
    show (PyData.eqv (toP (enc x)) (toP (enc a)) || (toPs (xs.map enc)).any fun z => PyData.eqv z (toP (enc a))) = _
    rw [h.eqv, any_mem h a xs]
    simp [eq_comm]
theorem v_inE {α : Type} [DecidableEq α] {enc : α → D} {n : Nat} (h : EqE enc n) {a : α} {xs : List α} {e : En} {P : D → En → Prop} {x y : D} (hx : drf e.cs x = enc a) (hy : drf e.cs y = .lst (xs.map enc)) (p : P (.bl (isIn a xs)) e) (hn : n + 1 ≤ 64 := by decide) : qIn false x y e P := by
  refine .inr ⟨_, hy, ?_, h.lst.shp hn xs, ?_⟩
  · rw [hx]
    exact h.shp (by omega) a
  · rw [hx, any_mem h]
    exact p
end
theorem dg_len (b : Int) : ∀ (n : Nat) (v : Int), (dg b n v).length = n
  | 0, _ => rfl
  | n + 1, v => by rw [dg, List.length_cons, dg_len b n]
theorem dg_add (b : Int) (hb : 0 < b) : ∀ (n m : Nat) (v : Int), dg b (n + m) v = dg b n v ++ dg b m (v / b ^ n)
  | 0, m, v => by rw [Nat.zero_add, Int.pow_zero, Int.ediv_one]; rfl
  | n + 1, m, v => by
    rw [show n + 1 + m = (n + m) + 1 by omega, dg, dg_add b hb n m, dg, List.cons_append, Int.ediv_ediv_of_nonneg (Int.le_of_lt hb), Int.pow_succ, Int.mul_comm (b ^ n) b]
theorem dg_val (b : Int) : ∀ (n : Nat) (v : Int), 0 < b → valW b (v / b ^ n) (dg b n v) = v
  | 0, v, _ => by rw [Int.pow_zero, Int.ediv_one]; rfl
  | n + 1, v, hb => by
    have ih := dg_val b n (v / b) hb
    rw [Int.ediv_ediv_of_nonneg (Int.le_of_lt hb)] at ih
    rw [dg, valW, Int.pow_succ, Int.mul_comm (b ^ n) b, ih]
    exact Int.emod_add_mul_ediv v b
theorem dg_uniq {b : Int} (hb : 0 < b) : ∀ (fs : List Int) (l v : Int), (∀ x ∈ fs, 0 ≤ x ∧ x < b) → valW b l fs = v → fs = dg b fs.length v ∧ l = v / b ^ fs.length
  | [], l, v, _, h => ⟨rfl, by rw [← h]; show l = l / b ^ 0; rw [Int.pow_zero, Int.ediv_one]⟩
  | x :: fs, l, v, hx, h => by
    obtain ⟨x0, x1⟩ := hx x List.mem_cons_self
    have h' : x + b * valW b l fs = v := h
    have e1 : v % b = x := by rw [← h', Int.add_mul_emod_self_left]; exact Int.emod_eq_of_lt x0 x1
    have e2 : v / b = valW b l fs := by rw [← h', Int.add_mul_ediv_left _ _ (by omega), Int.ediv_eq_zero_of_lt x0 x1, Int.zero_add]
    obtain ⟨i1, i2⟩ := dg_uniq hb fs l (v / b) (fun y hy => hx y (List.mem_cons_of_mem _ hy)) e2.symm
    refine ⟨?_, ?_⟩
    · rw [List.length_cons, dg, e1, ← i1]
    · rw [i2, List.length_cons, Int.pow_succ, Int.mul_comm (b ^ fs.length) b, Int.ediv_ediv_of_nonneg (Int.le_of_lt hb)]
section
variable {K : PySem.W.Frag}
theorem Po1.front {b r m : Int} {s : List Dd} {p q : List Pl} (h : Po1 b r s m (p ++ q)) : Po1 b r s m p := by
  refine ⟨h.k, fun x hx => h.c x (List.mem_append_left _ hx), fun i x t hi ht => ?_⟩
  have hl := (List.getElem?_eq_some_iff.mp hi).1
  have := h.d i x t (by rw [List.getElem?_append_left hl]; exact hi) ht
  rw [List.take_append_of_le_length (by omega)] at this
  exact this
theorem Po1.take {b r m : Int} {s : List Dd} {pl : List Pl} (h : Po1 b r s m pl) (i : Nat) : Po1 b r s m (pl.take i) := by
  rw [← List.take_append_drop i pl] at h
  exact h.front
end
theorem dg_take (b : Int) (hb : 0 < b) (n m : Nat) (v : Int) : (dg b (n + m) v).take n = dg b n v := by
  rw [dg_add b hb]; exact List.take_left' (dg_len b n v)
theorem dg_drop (b : Int) (hb : 0 < b) (n m : Nat) (v : Int) : (dg b (n + m) v).drop n = dg b m (v / b ^ n) := by
  rw [dg_add b hb]; exact List.drop_left' (dg_len b n v)
theorem dg_getD {b : Int} (hb : 0 < b) : ∀ (n : Nat) (v : Int) (i : Nat), i < n → (dg b n v).getD i 0 = (v / b ^ i) % b
  | 0, _, _, h => absurd h (Nat.not_lt_zero _)
  | n + 1, v, 0, _ => by rw [Int.pow_zero, Int.ediv_one]; rfl
  | n + 1, v, i + 1, h => by
    rw [dg, List.getD_cons_succ, dg_getD hb n _ i (by omega), Int.ediv_ediv_of_nonneg (Int.le_of_lt hb), Int.pow_succ, Int.mul_comm (b ^ i) b]
theorem dg_range {b : Int} (hb : 0 < b) : ∀ (n : Nat) (v : Int), ∀ x ∈ dg b n v, 0 ≤ x ∧ x < b
  | 0, _, x, h => nomatch h
  | n + 1, v, x, h => by
    rcases List.mem_cons.mp h with rfl | h
    · exact ⟨Int.emod_nonneg _ (by omega), Int.emod_lt_of_pos _ hb⟩
    · exact dg_range hb n _ x h
section
variable {K : PySem.W.Frag}
theorem dg_snoc {b : Int} (hb : 0 < b) (n : Nat) (v : Int) : dg b (n + 1) v = dg b n v ++ [v / b ^ n % b] := by rw [dg_add b hb n 1]; rfl
theorem opAt_rts (n i : Nat) : opAt (rts n) i = .right := by
  unfold opAt rts
  rw [List.getD_eq_getElem?_getD, List.getElem?_replicate]
  split <;> rfl
theorem plan_rts (b r : Int) (cols : List (List Int)) : Plan b r cols (rts cols.length) :=
  ⟨List.length_replicate, fun i _ => by rw [opAt_rts]; trivial, fun i _ => by rw [opAt_rts]; trivial, fun i _ _ => opAt_rts _ _⟩
theorem colAt_lt {cols xs : List (List Int)} {k : Nat} (h : k < cols.length) : colAt (cols ++ xs) k = colAt cols k := by
  unfold colAt
  rw [List.getD_eq_getElem?_getD, List.getD_eq_getElem?_getD, List.getElem?_append_left h]
def isD (b r : Int) (t : Dd) : Prop := match t.1 with
  | .off => ∃ d, t.2 = [d] ∧ 1 ≤ d ∧ d < b
  | .read => ∃ j d, t.2 = [j, d] ∧ 0 ≤ j ∧ j < r ∧ 1 ≤ d ∧ d < b
  | .copy => ∃ j, t.2 = [j] ∧ 0 ≤ j ∧ j < r
  | _ => t.2 = []
theorem isD.len {b r : Int} {t : Dd} (h : isD b r t) : t.2.length ≤ 2 := by
  obtain ⟨w, l⟩ := t
  cases w <;> simp only [isD] at h <;> first | (obtain ⟨_, rfl, _⟩ := h; simp; done) | (obtain ⟨_, _, rfl, _⟩ := h; simp; done) | (subst h; simp)
theorem stF_congr2 {b : Int} {cols cols' : List (List Int)} {ops ops' : List Op} : ∀ {i : Nat}, (∀ k, k < i → opAt ops k = opAt ops' k ∧ colAt cols k = colAt cols' k) → stFo b cols ops i = stFo b cols' ops' i
  | 0, _ => rfl
  | i + 1, h => by
    rw [stFo, stFo, stF_congr2 fun k hk => h k (by omega), (h i (by omega)).1, (h i (by omega)).2, (h (i - 1) (by omega)).2]
theorem Gd.len {b r : Int} {cols : List (List Int)} (g : Gd b r cols) {c : List Int} (h : c ∈ cols) : c.length ≤ 4 := by
  have h1 := g.c c h
  have h2 := g.r4
  unfold okC at h1
  simp only [Bool.and_eq_true, decide_eq_true_eq] at h1
  omega
theorem opAt_lt {ops xs : List Op} {k : Nat} (h : k < ops.length) : opAt (ops ++ xs) k = opAt ops k := by
  unfold opAt
  rw [List.getD_eq_getElem?_getD, List.getD_eq_getElem?_getD, List.getElem?_append_left h]
end
section
variable {K : PySem.W.Frag}
variable {b r : Int} {cols more : List (List Int)} {ops : List Op}
theorem stF_more_pre (P : Plan b r cols ops) {i : Nat} (h : i ≤ cols.length) : stFo b (cols ++ more) (ops ++ rts more.length) i = stFo b cols ops i :=
  stF_congr2 fun k hk => ⟨opAt_lt (by rw [P.len]; omega), colAt_lt (by omega)⟩
end
section
variable {K : PySem.W.Frag}
theorem stF_wait {b : Int} {cols : List (List Int)} {ops : List Op} : ∀ {k : Nat}, (stFo b cols ops k).2.2 ≠ none → 0 < k ∧ opAt ops (k - 1) = .swap
  | 0, h => absurd rfl h
  | k + 1, h => by
    refine ⟨Nat.succ_pos _, ?_⟩
    show opAt ops k = .swap
    rw [stFo] at h
    unfold advo at h
    split at h
    · exact absurd rfl h
    · split at h
      · assumption
      · exact absurd rfl h
theorem stF_end {b r : Int} {cols : List (List Int)} {ops : List Op} (P : Plan b r cols ops) : (stFo b cols ops cols.length).2.2 = none := by
  cases h : (stFo b cols ops cols.length).2.2 with
  | none => rfl
  | some w =>
    obtain ⟨h1, h2⟩ := stF_wait (b := b) (cols := cols) (ops := ops) (k := cols.length) (by rw [h]; exact fun z => nomatch z)
    have h3 := P.st (cols.length - 1) (by omega)
    rw [h2] at h3
    have h4 : cols.length - 1 + 1 ≠ cols.length := h3
    omega
theorem valW_app (b : Int) (ys : List Int) : ∀ xs : List Int, valW b 0 (xs ++ ys) = valW b 0 xs + b ^ xs.length * valW b 0 ys
  | [] => by simp [valW]
  | x :: xs => by
    have := valW_app b ys xs
    simp only [List.cons_append, valW, List.length_cons]
    rw [this, Int.pow_succ]
    grind
theorem valW_top (b l : Int) : ∀ fs : List Int, valW b l fs = valW b 0 fs + l * b ^ fs.length
  | [] => by simp [valW]
  | y :: ys => by
    have := valW_top b l ys
    simp only [valW, List.length_cons]
    rw [this, Int.pow_succ]
    grind
end
section
variable {K : PySem.W.Frag}
variable {b r : Int} {cols more : List (List Int)} {ops : List Op}
theorem top_step {b k z : Int} {W : List Int} : valW b ((z + k) / b) (W ++ [(z + k) % b]) = valW b k W + b ^ W.length * z := by
  have hx := Int.emod_add_mul_ediv (z + k) b
  rw [valW_top, valW_app, valW_top b k W, List.length_append]
  simp only [valW, List.length_cons, List.length_nil, Nat.zero_add, Int.pow_succ, Int.mul_zero, Int.add_zero]
  generalize (z + k) % b = x at *
  generalize (z + k) / b = y at *
  generalize b ^ W.length = B
  have h2 : B * (x + b * y) = B * (z + k) := by rw [hx]
  rw [Int.mul_add, Int.mul_add] at h2
  have e : y * (B * b) = B * (b * y) := by rw [Int.mul_comm y, Int.mul_assoc]
  rw [e, Int.mul_comm k B]
  omega
end
section
variable {K : PySem.W.Frag}
theorem colAt_ge {cols xs : List (List Int)} {k : Nat} : colAt (cols ++ xs) (cols.length + k) = colAt xs k := by
  unfold colAt
  rw [List.getD_eq_getElem?_getD, List.getD_eq_getElem?_getD, List.getElem?_append_right (by omega), Nat.add_sub_cancel_left]
theorem val_take (b : Int) : ∀ (cols : List (List Int)) (i : Nat) (c : List Int), cols[i]? = some c → val b (cols.take (i + 1)) = val b (cols.take i) + c.sum * b ^ i
  | [], _, _, h => by simp at h
  | x :: xs, 0, c, h => by
    simp at h
    subst h
    simp [val]
  | x :: xs, i + 1, c, h => by
    simp at h
    have := val_take b xs i c h
    simp only [List.take_succ_cons, val]
    rw [this, Int.pow_succ]
    grind
end
theorem colAt_get {cols : List (List Int)} {i : Nat} (h : i < cols.length) : cols[i]? = some (colAt cols i) := by
  unfold colAt
  rw [List.getD_eq_getElem?_getD, List.getElem?_eq_getElem h]
  rfl
section
variable {K : PySem.W.Frag}
theorem opAt_ge {ops : List Op} {k n : Nat} (h : ops.length ≤ k) : opAt (ops ++ rts n) k = .right := by
  unfold opAt
  rw [List.getD_eq_getElem?_getD, List.getElem?_append_right h, ← List.getD_eq_getElem?_getD]
  exact opAt_rts n _
end
section
variable {K : PySem.W.Frag}
variable {b r : Int} {cols more : List (List Int)} {ops : List Op}
theorem stF_more (P : Plan b r cols ops) : ∀ j, j ≤ more.length → ∃ (G : List Int) (k : Int), G.length = j ∧ stFo b (cols ++ more) (ops ++ rts more.length) (cols.length + j) = ((stFo b cols ops cols.length).1 ++ G, k, none) ∧
    valW b k ((stFo b cols ops cols.length).1 ++ G) = valW b (stFo b cols ops cols.length).2.1 (stFo b cols ops cols.length).1 + b ^ (stFo b cols ops cols.length).1.length * val b (more.take j)
  | 0, _ => by
    refine ⟨[], (stFo b cols ops cols.length).2.1, rfl, ?_, ?_⟩
    · rw [Nat.add_zero, stF_more_pre P (Nat.le_refl _), List.append_nil, ← stF_end P]
    · rw [List.append_nil, List.take_zero]
      show _ = _ + _ * 0
      rw [Int.mul_zero, Int.add_zero]
  | j + 1, h => by
    obtain ⟨G, k, g1, g2, g3⟩ := stF_more P j (by omega)
    have hl := P.len
    have hc : more[j]? = some (colAt more j) := colAt_get (by omega)
    have ht := val_take b more j _ hc
    rw [show cols.length + (j + 1) = cols.length + j + 1 from rfl, stFo, g2, opAt_ge (by omega), colAt_ge, ht]
    generalize (stFo b cols ops cols.length).1 = F at *
    generalize (stFo b cols ops cols.length).2.1 = k0 at *
    generalize colAt more j = c at *
    refine ⟨G ++ [(c.sum + k) % b], (c.sum + k) / b, by rw [List.length_append, g1]; rfl, ?_, ?_⟩
    · show (F ++ G ++ [(c.sum + k) % b], (c.sum + k) / b, none) = _
      rw [List.append_assoc]
    · rw [← List.append_assoc, top_step, g3, List.length_append, g1, Int.pow_add, Int.mul_add, Int.add_assoc, Int.mul_assoc, Int.mul_comm (b ^ j)]
theorem stF_rts (b r : Int) (cols : List (List Int)) : valW b (stFo b cols (rts cols.length) cols.length).2.1 (stFo b cols (rts cols.length) cols.length).1 = val b cols := by
  have P := plan_rts b r []
  obtain ⟨G, k, h1, h2, h3⟩ := stF_more (more := cols) P cols.length (Nat.le_refl _)
  have e : ([] : List (List Int)) ++ cols = cols := rfl
  have e2 : rts ([] : List (List Int)).length ++ rts cols.length = rts cols.length := rfl
  rw [e, e2, show ([] : List (List Int)).length + cols.length = cols.length from Nat.zero_add _] at h2
  rw [h2]
  dsimp only
  rw [h3, List.take_length]
  rw [show stFo b [] (rts ([] : List (List Int)).length) ([] : List (List Int)).length = ([], 0, none) from rfl]
  show (0 : Int) + b ^ 0 * _ = _
  rw [Int.zero_add, Int.pow_zero, Int.one_mul]
end
section
variable {K : PySem.W.Frag}
theorem stepT_fig {b : Int} (hb : 2 ≤ b) (c bf : List Int) (o : Op) (k : Int) : ∀ x ∈ (stepT b c bf o k).1, 0 ≤ x ∧ x < b := by
  have h : ∀ z : Int, 0 ≤ z % b ∧ z % b < b := fun z => ⟨Int.emod_nonneg _ (by omega), Int.emod_lt_of_pos _ (by omega)⟩
  intro x hx
  cases o <;> simp only [stepT, List.mem_cons, List.not_mem_nil, or_false] at hx <;> first | (rcases hx with rfl | rfl <;> exact h _) | (subst hx; exact h _) | exact hx.elim
theorem stF_fig {b : Int} (hb : 2 ≤ b) {cols : List (List Int)} {ops : List Op} : ∀ i : Nat, (∀ x ∈ (stFo b cols ops i).1, 0 ≤ x ∧ x < b) ∧ ∀ f0, (stFo b cols ops i).2.2 = some f0 → 0 ≤ f0 ∧ f0 < b
  | 0 => ⟨(fun x h => nomatch h), (fun _ h => nomatch h)⟩
  | i + 1 => by
    have ih := stF_fig hb (cols := cols) (ops := ops) i
    have hs := stepT_fig hb (colAt cols i) (colAt cols (i - 1)) (opAt ops i) (stFo b cols ops i).2.1
    rw [stFo]
    generalize stFo b cols ops i = st at ih hs ⊢
    generalize stepT b (colAt cols i) (colAt cols (i - 1)) (opAt ops i) st.2.1 = f at hs ⊢
    unfold advo
    cases hw : st.2.2 with
    | some w =>
      refine ⟨fun x hx => ?_, fun _ h => nomatch h⟩
      simp only [List.mem_append, List.mem_cons, List.not_mem_nil, or_false] at hx
      rcases hx with h | h | rfl
      · exact ih.1 x h
      · exact hs x h
      · exact ih.2 x hw
    | none =>
      dsimp only
      split
      · refine ⟨ih.1, fun f0 h => ?_⟩
        have : f0 = f.1.headD 0 := (Option.some.inj h).symm
        subst this
        cases hf : f.1 with
        | nil => exact ⟨Int.le_refl _, by show (0 : Int) < b; omega⟩
        | cons y ys => exact hs y (by rw [hf]; exact List.mem_cons_self ..)
      · refine ⟨fun x hx => ?_, fun _ h => nomatch h⟩
        rcases List.mem_append.mp hx with h | h
        · exact ih.1 x h
        · exact hs x h
end
/-- what add_right writes -/
theorem stFo_rts {b r : Int} {cols : List (List Int)} (g : Gd b r cols) : (stFo b cols (rts cols.length) cols.length).1 = dg b cols.length (val b cols) ∧ (stFo b cols (rts cols.length) cols.length).2.1 = val b cols / b ^ cols.length := by
  have hb := g.b2
  have P := plan_rts b r cols
  have h1 := stF_fig (b := b) hb (cols := cols) (ops := rts cols.length) cols.length
  have h2 := stF_rts b r cols
  obtain ⟨u1, u2⟩ := dg_uniq (by omega) _ _ _ h1.1 h2
  have hl : (stFo b cols (rts cols.length) cols.length).1.length = cols.length := by
    obtain ⟨G, k, g1, g2, g3⟩ := stF_more (more := cols) (plan_rts b r []) cols.length (Nat.le_refl _)
    have e : ([] : List (List Int)) ++ cols = cols := rfl
    have e2 : rts ([] : List (List Int)).length ++ rts cols.length = rts cols.length := rfl
    rw [e, e2, show ([] : List (List Int)).length + cols.length = cols.length from Nat.zero_add _] at g2
    rw [g2]
    show (([] : List Int) ++ G).length = _
    rw [List.nil_append, g1]
  rw [hl] at u1 u2
  exact ⟨u1, u2⟩
section
variable {K : PySem.W.Frag}
variable {b r : Int} {cols more : List (List Int)} {ops : List Op}
theorem plan_more (P : Plan b r cols ops) : Plan b r (cols ++ more) (ops ++ rts more.length) := by
  have hl := P.len
  refine ⟨by rw [List.length_append, List.length_append, hl]; show _ + (List.replicate _ _).length = _; rw [List.length_replicate], fun i hi => ?_, fun i hi => ?_, fun i hi h => ?_⟩
  · rcases Nat.lt_or_ge i cols.length with z | z
    · rw [opAt_lt (by omega)]
      exact P.ok i z
    · rw [opAt_ge (by omega)]
      trivial
  · rcases Nat.lt_or_ge i cols.length with z | z
    · rw [opAt_lt (by omega), colAt_lt z, colAt_lt (k := i - 1) (by omega), stF_more_pre P (by omega)]
      have h1 := P.st i z
      cases ho : opAt ops i with
      | swap =>
        rw [ho] at h1
        have h2 : i + 1 ≠ cols.length := h1
        rw [List.length_append]
        show i + 1 ≠ _
        omega
      | _ => rw [ho] at h1; exact h1
    · rw [opAt_ge (by omega)]
      trivial
  · rcases Nat.lt_or_ge (i + 1) cols.length with z | z
    · rw [opAt_lt (by omega)] at h ⊢
      exact P.sw i z h
    · exact opAt_ge (by omega)
end
section
variable {K : PySem.W.Frag}
theorem slF_rts : ∀ (n k : Nat), slFo k (rts n) = []
  | 0, _ => rfl
  | n + 1, k => by
    show slFo k (Op.right :: rts n) = []
    rw [slFo, slF_rts n (k + 1)]
    rfl
end
section
variable {K : PySem.W.Frag}
variable {b r : Int} {cols more : List (List Int)} {ops : List Op}
theorem val_app (b : Int) (more : List (List Int)) : ∀ cols, val b (cols ++ more) = val b cols + b ^ cols.length * val b more
  | [] => by simp [val]
  | c :: cols => by
    have := val_app b more cols
    simp only [List.cons_append, val, List.length_cons]
    rw [this, Int.pow_succ, Int.mul_add, ← Int.add_assoc, Int.mul_comm _ b, Int.mul_assoc]
end
section
variable {K : PySem.W.Frag}
theorem v_ix2 {x y : D} {c : Bool} {e : En} {P : D → En → Prop} (h : P (if c = true then y else x) e) : qIx (.lst [x, y]) (.int (if c = true then 1 else 0)) e P := by
  cases c with
  | true => exact v_ixL atI_one h
  | false => exact v_ixL atI_zero h
theorem v_ix2i {x y : D} {i : Int} {e : En} {P : D → En → Prop} (h0 : 0 ≤ i) (h1 : i < 2) (h : P (if i = 1 then y else x) e) : qIx (.lst [x, y]) (.int i) e P := by
  rcases (show i = 0 ∨ i = 1 by omega) with rfl | rfl
  · exact v_ixL atI_zero h
  · exact v_ixL atI_one h
theorem okC_rep {b r : Int} (b2 : 2 ≤ b) (r0 : 0 ≤ r) : okC b r (List.replicate r.toNat (b - 1)) = true := by
  unfold okC
  rw [Bool.and_eq_true, List.length_replicate]
  refine ⟨decide_eq_true (by omega), List.all_eq_true.mpr fun x hx => ?_⟩
  rw [(List.mem_replicate.mp hx).2, Bool.and_eq_true]
  exact ⟨decide_eq_true (by omega), decide_eq_true (by omega)⟩
theorem okC_of {b r : Int} {c : List Int} (hl : (c.length : Int) = r) (h : ∀ y ∈ c, 0 ≤ y ∧ y < b) : okC b r c = true := by
  unfold okC
  simp only [Bool.and_eq_true, decide_eq_true_eq, List.all_eq_true]
  exact ⟨hl, h⟩
theorem flat_one {α : Type} (x : α) : ∀ n : Nat, (List.replicate n [x]).flatten = List.replicate n x
  | 0 => rfl
  | n + 1 => by rw [List.replicate_succ, List.flatten_cons, flat_one x n, List.replicate_succ]; rfl
theorem app_set {cs : List Cel} {c0 c : Cel} : (cs ++ [c0]).set cs.length c = cs ++ [c] := by simp
theorem Ld.ins {cs : List Cel} {n h : Nat} {b r m : Int} {es : List Dd} {l : List Int} {pl : List Pl} (L : Ld K cs n h b r es m l pl) : insD cs (.cell n) = some (He.ga K "Ledger", ldN, [kiD K b r es m, .lst (l.map .int), .cell h]) := ins_cell L.at_
/-- a new sheet that never changes -/
theorem init_fz {cs : List Cel} {b r : Int} {cols : List (List Int)} (g : Gd b r cols) {A : List Cel → Prop} {Z : Addr → List Str → List D → List Cel → Prop} (h : Z (He.ga K "Sheet") shN [.int b, .int r, .lst (cols.map encC), .int cols.length] cs) :
    sp_Sheet_init K [.cell cs.length, .int b, .int r, .lst (cols.map encC)] (cs ++ [.ins (He.ga K "Sheet") [] []]) fun r_1 cs' => r_1 = .non ∧ (A cs' ∨ ∃ cs1 C' ns xs, cs' = cs1 ++ [.ins C' ns xs] ∧ cs1.length = cs.length ∧ los cs.length xs = true ∧ (∀ c ∈ cs1, c ∈ cs ∨ c.loD cs.length = true) ∧ Z C' ns xs cs1) :=
  ⟨_, _, cols, b, _, rfl, app_get, rfl, (fun _ z => nomatch z), g, .inl ⟨rfl, .inr ⟨_, _, _, _, app_set, rfl, los_sh, fun c hc => .inl hc, h⟩⟩⟩
theorem v_addTT {xs ys : List D} {o : Bool} {e : En} {P : D → En → Prop} (h : xs ≠ []) (hz : xs.length + ys.length ≤ 100000) (p : P (.tup (xs ++ ys)) e) : qAdd o (.tup xs) (.tup ys) e P := ⟨h, Nat.le_trans hz (by decide), p⟩
theorem okC_len {b r : Int} {c : List Int} (h : okC b r c = true) : (c.length : Int) = r := by
  unfold okC at h
  rw [Bool.and_eq_true] at h
  exact of_decide_eq_true h.1
theorem shF {cs : List Cel} {b r : Int} {cols : List (List Int)} : isSh K cs (shD K b r cols) b r cols := ⟨_, rfl, rfl, fun _ h => nomatch h⟩
end
theorem set_other {cs : List Cel} {m n : Nat} {c c0 : Cel} (h : cs[n]? = some c0) (hne : m ≠ n) : (cs.set m c)[n]? = some c0 := by
  rw [List.getElem?_set_ne hne]
  exact h
section
variable {K : PySem.W.Frag}
theorem Ld.set {cs : List Cel} {n h k : Nat} {b r m : Int} {es : List Dd} {l : List Int} {pl : List Pl} {c : Cel} (L : Ld K cs n h b r es m l pl) (h1 : k ≠ n) (h2 : k ≠ h) : Ld K (cs.set k c) n h b r es m l pl := ⟨set_other L.at_ h1, set_other L.hs h2, L.e, L.p, L.n2, L.l⟩
theorem Gd.set {b r : Int} {cols : List (List Int)} (g : Gd b r cols) (i : Nat) {c : List Int} (h : okC b r c = true) : Gd b r (cols.set i c) := ⟨g.b2, g.b12, g.r1, g.r4, fun x hx => by
  rcases List.mem_or_eq_of_mem_set hx with h1 | rfl
  · exact g.c x h1
  · exact h, by rw [List.length_set]; exact g.n⟩
theorem set_app1 {A : List Cel} {c x : Cel} {n : Nat} (h : n < A.length) : (A ++ [c]).set n x = A.set n x ++ [c] := List.set_append_left _ _ h
theorem set_end {A : List Cel} {c x : Cel} {k : Nat} (h : A.length = k) : (A ++ [c]).set k x = A ++ [x] := by subst h; exact app_set'
theorem set_end2 {A : List Cel} {c d x : Cel} {k : Nat} (h : A.length = k) : (A ++ [c] ++ [d]).set k x = A ++ [x] ++ [d] := by rw [set_app1 (by rw [List.length_append, h]; simp), set_end h]
theorem at_end {A : List Cel} {c : Cel} {k : Nat} (h : A.length = k) : (A ++ [c])[k]? = some c := by subst h; exact app_get
theorem at_end2 {A : List Cel} {c d : Cel} {k : Nat} (h : A.length = k) : (A ++ [c] ++ [d])[k]? = some c := app_get_lt (at_end h)
theorem Bg.le {c c' : Int} {x : Cel} (h : Bg c x) (l : c ≤ c') : Bg c' x := let ⟨a, b, k, e, h1, h2, h3, h4⟩ := h; ⟨a, b, k, e, h1, h2, h3, Int.le_trans h4 l⟩
theorem val_zero (b : Int) (cols : List (List Int)) : val b (cols.map fun c => c ++ [0]) = val b cols := by
  induction cols with
  | nil => rfl
  | cons c cols ih =>
    show (c ++ [0]).sum + b * val b (cols.map fun c => c ++ [0]) = c.sum + b * val b cols
    rw [ih, List.sum_append]; simp
theorem Plan.done {b r : Int} {cols : List (List Int)} {ops : List Op} (P : Plan b r cols ops) : (stFo b cols ops cols.length).2.2 = none := by
  cases h : (stFo b cols ops cols.length).2.2 with
  | none => rfl
  | some w =>
    obtain ⟨h1, h2⟩ := stF_wait (b := b) (cols := cols) (ops := ops) (k := cols.length) (by rw [h]; exact fun z => nomatch z)
    have := P.st (cols.length - 1) (by omega)
    rw [h2] at this
    have : cols.length - 1 + 1 ≠ cols.length := this
    omega
theorem opAt_get {ops : List Op} {k : Nat} (h : k < ops.length) : ops[k]? = some (opAt ops k) := by
  unfold opAt
  rw [List.getD_eq_getElem?_getD, List.getElem?_eq_getElem h]
  rfl
def cnt (o : Op) (ops : List Op) : Nat := (ops.filter fun x => decide (x = o)).length
theorem cnt_app (o x : Op) (ops : List Op) : cnt o (ops ++ [x]) = cnt o ops + (if x = o then 1 else 0) := by
  unfold cnt
  rw [List.filter_append, List.length_append]
  by_cases h : x = o
  · simp [h]
  · simp [h]
theorem Plan.wait {b r : Int} {cols : List (List Int)} {ops : List Op} (P : Plan b r cols ops) {k : Nat} (hk : k < cols.length) (h : (stFo b cols ops k).2.2 ≠ none) : opAt ops k = .right := by
  obtain ⟨h1, h2⟩ := stF_wait h
  have := P.sw (k - 1) (by omega) h2
  rwa [show k - 1 + 1 = k by omega] at this
theorem stF_cnt {b r : Int} {cols : List (List Int)} {ops : List Op} (P : Plan b r cols ops) : ∀ {i : Nat}, i ≤ cols.length → (stFo b cols ops i).1.length + (if (stFo b cols ops i).2.2 = none then 0 else 1) + cnt .out (ops.take i) = i + cnt .twice (ops.take i)
  | 0, _ => by simp [stFo, cnt]
  | i + 1, h => by
    have ih := stF_cnt P (i := i) (by omega)
    have hl := P.len
    have tk : ops.take (i + 1) = ops.take i ++ [opAt ops i] := by rw [List.take_add_one, opAt_get (by omega)]; rfl
    have hwt := P.wait (k := i) (by omega)
    rw [tk, cnt_app, cnt_app, stFo]
    generalize stFo b cols ops i = st at ih hwt ⊢
    generalize opAt ops i = o at hwt ⊢
    obtain ⟨W, c, w⟩ := st
    cases w with
    | some f0 =>
      have hr : o = .right := hwt (fun z => nomatch z)
      subst hr
      dsimp only at ih
      rw [if_neg (fun z => nomatch z)] at ih
      show (W ++ ([_] ++ [f0])).length + 0 + (cnt .out (ops.take i) + 0) = i + 1 + (cnt .twice (ops.take i) + 0)
      simp
      omega
    | none =>
      dsimp only at ih
      rw [if_pos rfl] at ih
      cases o
      case swap =>
        show W.length + 1 + (cnt .out (ops.take i) + 0) = i + 1 + (cnt .twice (ops.take i) + 0)
        omega
      case out =>
        show (W ++ []).length + 0 + (cnt .out (ops.take i) + 1) = i + 1 + (cnt .twice (ops.take i) + 0)
        rw [List.append_nil]
        omega
      case twice =>
        show (W ++ [_, _]).length + 0 + (cnt .out (ops.take i) + 0) = i + 1 + (cnt .twice (ops.take i) + 1)
        simp
        omega
      all_goals
        show (W ++ [_]).length + 0 + (cnt .out (ops.take i) + 0) = i + 1 + (cnt .twice (ops.take i) + 0)
        simp
        omega
theorem lo_D {k : Nat} (t : Dd) : loD k (encD t) = true := by
  show (true && los k (t.2.map .int)) = true
  rw [los_int] <;> rfl
theorem los_D {k : Nat} (ts : List Dd) : los k (ts.map encD) = true := los_map lo_D ts
theorem los_ki {k : Nat} {b r m : Int} {es : List Dd} : los k [.int b, .int r, .lst (es.map encD), .int m] = true := by
  show (true && (true && (los k (es.map encD) && (true && true)))) = true
  rw [los_D]; rfl
theorem allD_nd_all : ∀ b : Nat, b < 13 → ∀ r : Nat, r < 5 → (allD (b : Int) (r : Int)).Nodup := by decide +kernel
theorem allD_nd {b r : Int} (h1 : 2 ≤ b) (h2 : b ≤ 12) (h3 : 1 ≤ r) (h4 : r ≤ 4) : (allD b r).Nodup := by
  have := allD_nd_all b.toNat (by omega) r.toNat (by omega)
  rw [show ((b.toNat : Nat) : Int) = b by omega, show ((r.toNat : Nat) : Int) = r by omega] at this
  exact this
theorem filter_len {α : Type} [DecidableEq α] : ∀ {xs ys : List α}, xs.Nodup → ys.Nodup → (∀ t ∈ ys, t ∈ xs) → (xs.filter fun t => isIn t ys).length = ys.length := by
  intro xs ys hx hy hs
  have p : (xs.filter fun t => isIn t ys).Perm ys := by
    rw [List.perm_ext_iff_of_nodup (hx.filter _) hy]
    intro a
    rw [List.mem_filter, isIn, decide_eq_true_eq]
    exact ⟨fun h => h.2, fun h => ⟨hs a h, h⟩⟩
  exact p.length_eq
theorem keep_len {b r m : Int} {s : List Dd} (g : Gk b r s m) : (keep b r s).length = s.length := filter_len (allD_nd g.n.b2 g.n.b12 g.n.r1 g.n.r4) g.nd g.sub
end
theorem keep_one {b r : Int} {t : Dd} (g : Gk b r [t] 1) : keep b r [t] = [t] := by
  have hl : (keep b r [t]).length = 1 := keep_len g
  obtain ⟨x, hx⟩ := List.length_eq_one_iff.mp hl
  have hm : x ∈ keep b r [t] := by rw [hx]; exact List.mem_singleton_self x
  have h2 := (List.mem_filter.mp hm).2
  have h3 : x = t := by simpa [isIn] using h2
  rw [hx, h3]
section
variable {K : PySem.W.Frag}
theorem getD_get {xs : List Int} {j : Nat} (h : j < xs.length) : xs[j]? = some (xs.getD j 0) := by
  rw [List.getD_eq_getElem?_getD, List.getElem?_eq_getElem h]
  rfl
theorem getD_ok {b : Int} {c : List Int} {j : Nat} (h : ∀ x ∈ c, 0 ≤ x ∧ x < b) (hj : j < c.length) : 0 ≤ c.getD j 0 ∧ c.getD j 0 < b := h _ (List.mem_of_getElem? (getD_get hj))
end
section
variable {K : PySem.W.Frag}
open TL
theorem okC_iff {b r : Int} {c : List Int} : okC b r c = true ↔ (c.length : Int) = r ∧ ∀ x ∈ c, 0 ≤ x ∧ x < b := by
  unfold okC
  simp only [Bool.and_eq_true, decide_eq_true_eq, List.all_eq_true]
end
section
variable {K : PySem.W.Frag}
theorem takeF_ok {b r : Int} {c bf : List Int} {o : Op} (hb : 2 ≤ b) (hc : okC b r c = true) (ho : okO b r o) (hbf : (∃ j, o = .copy j) → okC b r bf = true) : okC b r (takeF b c bf o) = true := by
  rw [okC_iff] at hc ⊢
  cases o <;> try exact hc
  case read j d =>
    refine ⟨by rw [takeF, List.length_set]; exact hc.1, fun x hx => ?_⟩
    rcases List.mem_or_eq_of_mem_set hx with h | rfl
    · exact hc.2 x h
    · exact ⟨Int.emod_nonneg _ (by omega), Int.emod_lt_of_pos _ (by omega)⟩
  case copy j =>
    have hbf' := okC_iff.mp (hbf ⟨j, rfl⟩)
    have hj : (j : Int) < r := ho
    refine ⟨by rw [takeF, List.length_set]; exact hc.1, fun x hx => ?_⟩
    rcases List.mem_or_eq_of_mem_set hx with h | rfl
    · exact hc.2 x h
    · exact getD_ok hbf'.2 (by omega)
end
theorem colAt_mem {cols : List (List Int)} {i : Nat} (h : i < cols.length) : colAt cols i ∈ cols := List.mem_of_getElem? (colAt_get h)
section
variable {K : PySem.W.Frag}
theorem div_half {x b : Int} (h0 : 0 ≤ x) (h2 : 2 ≤ b) : 0 ≤ x / b ∧ x / b ≤ x / 2 := by
  have h3 : 0 ≤ x / b := Int.ediv_nonneg h0 (by omega)
  have h1 := Int.ediv_mul_le x (show b ≠ 0 by omega)
  have h4 : x / b * 2 ≤ x / b * b := Int.mul_le_mul_of_nonneg_left h2 h3
  omega
theorem okC_sum {b r : Int} {c : List Int} (hb : b ≤ 12) (hr : r ≤ 4) (h : okC b r c = true) : 0 ≤ c.sum ∧ c.sum ≤ 44 := by
  unfold okC at h
  simp only [Bool.and_eq_true, decide_eq_true_eq, List.all_eq_true] at h
  obtain ⟨h1, h2⟩ := h
  have : ∀ xs : List Int, (∀ x ∈ xs, 0 ≤ x ∧ x < b) → 0 ≤ xs.sum ∧ xs.sum ≤ 11 * (xs.length : Int) := by
    intro xs
    induction xs with
    | nil => intro _; simp
    | cons x xs ih =>
      intro h
      have h3 := h x (List.mem_cons_self ..)
      have h4 := ih fun y hy => h y (List.mem_cons_of_mem _ hy)
      simp only [List.sum_cons, List.length_cons]
      omega
  have := this c h2
  omega
/-- what is carried stays small -/
theorem stepT_carry {b r : Int} {c bf : List Int} {o : Op} {k : Int} (b2 : 2 ≤ b) (b12 : b ≤ 12) (r4 : r ≤ 4) (hc : okC b r c = true) (ht : okC b r (takeF b c bf o) = true) (k0 : 0 ≤ k) (k1 : k ≤ 100) : 0 ≤ (stepT b c bf o k).2 ∧ (stepT b c bf o k).2 ≤ 100 := by
  have s1 := okC_sum b12 r4 hc
  have s2 := okC_sum b12 r4 ht
  have h1 := div_half (x := tot b c bf o k) (by unfold tot; omega) b2
  have ht2 : tot b c bf o k = (takeF b c bf o).sum + k := rfl
  cases o
  case twice =>
    have h2 := div_half (x := c.sum + tot b c bf .twice k / b) (by omega) b2
    show 0 ≤ (c.sum + tot b c bf .twice k / b) / b ∧ (c.sum + tot b c bf .twice k / b) / b ≤ 100
    omega
  case out => exact ⟨k0, k1⟩
  case forget => exact ⟨Int.le_refl _, show (0 : Int) ≤ 100 by decide⟩
  case again =>
    show 0 ≤ tot b c bf .again k / b + 1 ∧ tot b c bf .again k / b + 1 ≤ 100
    omega
  all_goals
    unfold stepT
    dsimp only
    omega
theorem adv_carry (st : St) (f : List Int × Int) (o : Op) : (advo st f o).2.1 = f.2 := by
  unfold advo
  split
  · rfl
  · split <;> rfl
theorem stF_carry {b r : Int} {cols : List (List Int)} {ops : List Op} (g : Gd b r cols) (P : Plan b r cols ops) : ∀ {i : Nat}, i ≤ cols.length → 0 ≤ (stFo b cols ops i).2.1 ∧ (stFo b cols ops i).2.1 ≤ 100
  | 0, _ => ⟨Int.le_refl _, show (0 : Int) ≤ 100 by decide⟩
  | i + 1, h => by
    have ih := stF_carry g P (i := i) (by omega)
    have hc := g.c _ (colAt_mem (i := i) (by omega))
    rw [stFo, adv_carry]
    refine stepT_carry g.b2 g.b12 g.r4 hc (takeF_ok g.b2 hc (P.ok i (by omega)) fun ⟨j, hj⟩ => ?_) ih.1 ih.2
    have hs := P.st i (by omega)
    rw [hj] at hs
    have h0 : i ≠ 0 := hs
    exact g.c _ (colAt_mem (by omega))
end
section
variable {K : PySem.W.Frag}
open TL
theorem log_lt {n k : Nat} (h : n < 2 ^ k) (hk : 0 < k) : n.log2 < k := by
  rcases Nat.eq_zero_or_pos n with rfl | hp
  · exact hk
  · exact (Nat.log2_lt (by omega)).mpr h
end
section
variable {K : PySem.W.Frag}
theorem fdiv_ok {a b : Int} (h0 : 0 < b) (h1 : b ≤ 1000000000000000000000000000000) : FdivOk a b := .inr ⟨h0, Nat.lt_trans (log_lt (k := 100) (by omega) (by decide)) (by decide)⟩
/-- the value stays below rows * b ^ columns -/
theorem sum_lt {b : Int} (hb : 2 ≤ b) {c : List Int} (h : ∀ x ∈ c, 0 ≤ x ∧ x < b) : 0 ≤ c.sum ∧ c.sum ≤ c.length * (b - 1) := by
  induction c with
  | nil => simp
  | cons x c ih =>
    obtain ⟨i1, i2⟩ := ih fun y hy => h y (List.mem_cons_of_mem _ hy)
    obtain ⟨h1, h2⟩ := h x List.mem_cons_self
    rw [List.sum_cons, List.length_cons]
    refine ⟨by omega, ?_⟩
    rw [show (((c.length + 1 : Nat) : Int)) = (c.length : Int) + 1 by omega, Int.add_mul]
    omega
theorem val_lt {b r : Int} (b2 : 2 ≤ b) (r1 : 0 ≤ r) : ∀ {cols : List (List Int)}, (∀ c ∈ cols, okC b r c = true) → val b cols ≤ r * (b ^ cols.length - 1)
  | [], _ => by simp [val]
  | c :: cols, h => by
    have ih := val_lt b2 r1 (cols := cols) fun x hx => h x (List.mem_cons_of_mem _ hx)
    have hc := h c List.mem_cons_self
    unfold okC at hc
    rw [Bool.and_eq_true] at hc
    have hl := of_decide_eq_true hc.1
    have hs := sum_lt (c := c) b2 fun x hx => by
      have := List.all_eq_true.mp hc.2 x hx
      rw [Bool.and_eq_true] at this
      exact ⟨of_decide_eq_true this.1, of_decide_eq_true this.2⟩
    rw [hl] at hs
    show c.sum + b * val b cols ≤ r * (b ^ (cols.length + 1) - 1)
    have h2 : b * val b cols ≤ b * (r * (b ^ cols.length - 1)) := Int.mul_le_mul_of_nonneg_left ih (by omega)
    have h3 : r * (b - 1) + b * (r * (b ^ cols.length - 1)) = r * (b ^ (cols.length + 1) - 1) := by
      rw [Int.pow_succ]
      simp only [Int.mul_sub, Int.mul_one]
      rw [show b * (r * b ^ cols.length) = r * (b ^ cols.length * b) by rw [Int.mul_left_comm, Int.mul_comm b]]
      rw [Int.mul_comm b r]
      omega
    omega
theorem trs_len (m : Nat) (rs : List (List Int)) : (trs m rs).length = m := by unfold trs; rw [List.length_map, List.length_range]
theorem perm_unmap {α β : Type} {f : α → β} {ys zs : List β} (h : ys.Perm zs) : ∀ xs : List α, zs = xs.map f → ∃ ws : List α, ys = ws.map f ∧ ws.Perm xs := by
  induction h with
  | nil => intro xs e; exact ⟨[], rfl, by cases xs with | nil => exact .refl _ | cons _ _ => cases e⟩
  | cons x _ ih =>
    intro xs e
    cases xs with
    | nil => cases e
    | cons a xs =>
      rw [List.map_cons, List.cons.injEq] at e
      obtain ⟨ws, h1, h2⟩ := ih xs e.2
      exact ⟨a :: ws, by rw [List.map_cons, e.1, h1], h2.cons a⟩
  | swap x y l =>
    intro xs e
    match xs, e with
    | a :: b :: xs, e =>
      rw [List.map_cons, List.map_cons, List.cons.injEq, List.cons.injEq] at e
      exact ⟨b :: a :: xs, by rw [List.map_cons, List.map_cons, e.1, e.2.1, e.2.2], List.Perm.swap a b xs⟩
  | trans _ _ ih1 ih2 =>
    intro xs e
    obtain ⟨w2, h1, h2⟩ := ih2 xs e
    obtain ⟨w1, h3, h4⟩ := ih1 w2 h1
    exact ⟨w1, h3, h4.trans h2⟩
theorem intsD_nat (n : Nat) : intsD 0 n = (List.range n).map fun (k : Nat) => D.int (k : Nat) := by
  unfold intsD
  refine List.map_congr_left fun k _ => ?_
  rw [Int.zero_add]
theorem Wo.s_inj : ∀ a b : Wo, (PyData.eqv (.str a.s) (.str b.s)) = decide (a = b) := by
  intro a b
  cases a <;> cases b <;> first | rfl | decide +kernel
theorem eqv_D (s t : Dd) : PyData.eqv (toP (encD s)) (toP (encD t)) = decide (s = t) := by
  obtain ⟨a, xs⟩ := s
  obtain ⟨b, ys⟩ := t
  have h1 := Wo.s_inj a b
  have h2 := encI.eqvs xs ys
  show (PyData.eqv (.str a.s) (.str b.s) && PyData.eqvAll (toPs (xs.map .int)) (toPs (ys.map .int))) = _
  rw [h1, h2]
  simp [Prod.mk.injEq]
theorem isD_of {b r : Int} {t : Dd} (h : t ∈ allD b r) : isD b r t := by
  unfold allD at h
  simp only [List.mem_append, List.mem_cons, List.not_mem_nil, or_false] at h
  rcases h with (((h | h) | h) | h) | h
  · rcases h with rfl | rfl <;> rfl
  · obtain ⟨i, hi, rfl⟩ := List.mem_map.mp h
    have := List.mem_range.mp hi
    exact ⟨_, rfl, by omega, by omega⟩
  · obtain ⟨j, hj, h⟩ := List.mem_flatMap.mp h
    obtain ⟨i, hi, rfl⟩ := List.mem_map.mp h
    have := List.mem_range.mp hi
    have := List.mem_range.mp hj
    exact ⟨_, _, rfl, by omega, by omega, by omega, by omega⟩
  · obtain ⟨i, hi, rfl⟩ := List.mem_map.mp h
    have := List.mem_range.mp hi
    exact ⟨_, rfl, by omega, by omega⟩
  · rcases h with rfl | rfl | rfl <;> rfl
theorem toO_enc {b r : Int} {t : Dd} (h : t ∈ allD b r) : encO (toO t) = encD t ∧ okO b r (toO t) ∧ toO t ≠ .right := by
  have hd := isD_of h
  obtain ⟨w, l⟩ := t
  cases w <;> simp only [isD] at hd
  case off =>
    obtain ⟨d, rfl, h1, h2⟩ := hd
    exact ⟨rfl, ⟨h1, h2⟩, fun z => nomatch z⟩
  case read =>
    obtain ⟨j, d, rfl, h0, h00, h1, h2⟩ := hd
    refine ⟨?_, ⟨?_, h1, h2⟩, fun z => nomatch z⟩
    · show D.tup [.str "read", .int ((j.toNat : Nat) : Int), .int d] = D.tup [.str "read", .int j, .int d]
      rw [Int.toNat_of_nonneg h0]
    · show ((j.toNat : Nat) : Int) < r
      rw [Int.toNat_of_nonneg h0]
      exact h00
  case copy =>
    obtain ⟨j, rfl, h0, h1⟩ := hd
    refine ⟨?_, ?_, fun z => nomatch z⟩
    · show D.tup [.str "copy", .int ((j.toNat : Nat) : Int)] = D.tup [.str "copy", .int j]
      rw [Int.toNat_of_nonneg h0]
    · show ((j.toNat : Nat) : Int) < r
      rw [Int.toNat_of_nonneg h0]
      exact h1
  all_goals
    subst hd
    exact ⟨rfl, trivial, fun z => nomatch z⟩
end
theorem toO_inj {b r : Int} {s t : Dd} (hs : s ∈ allD b r) (ht : t ∈ allD b r) (h : toO s = toO t) : s = t := by
  have e1 := (toO_enc hs).1
  have e2 := (toO_enc ht).1
  have e3 : encD s = encD t := by rw [← e1, ← e2, h]
  have e4 := eqv_D s t
  rw [e3, eqv_D] at e4
  exact of_decide_eq_true (e4.symm.trans (decide_eq_true rfl))
section
variable {b r : Int} {cols : List (List Int)} {n m : Nat} {S T : Sl} {os : List Op}
theorem Gs.nil : Gs b r n [] := ⟨.nil, (fun _ h => nomatch h), (fun _ h => nomatch h), (fun _ h => nomatch h)⟩
end
theorem toO_nd {b r : Int} : ∀ {es : List Dd}, (∀ t ∈ es, t ∈ allD b r) → es.Nodup → (es.map toO).Nodup
  | [], _, _ => .nil
  | x :: es, h, hn => by
    obtain ⟨h1, h2⟩ := List.nodup_cons.mp hn
    refine List.nodup_cons.mpr ⟨fun hm => ?_, toO_nd (fun t ht => h t (List.mem_cons_of_mem _ ht)) h2⟩
    obtain ⟨y, hy, e⟩ := List.mem_map.mp hm
    have := toO_inj (h y (List.mem_cons_of_mem _ hy)) (h x List.mem_cons_self) e
    subst this
    exact h1 hy
def numP (c j : Nat) : PyData := .tuple [.int c, .int j]
theorem eqv_num (c j d k : Nat) : PyData.eqv (numP c j) (numP d k) = decide (c = d ∧ j = k) := by
  show ((decide ((c : Int) = d)) && ((decide ((j : Int) = k)) && true)) = _
  rw [Bool.and_true, ← Bool.decide_and]
  exact decide_eq_decide.mpr ⟨fun h => ⟨by omega, by omega⟩, fun h => ⟨by omega, by omega⟩⟩
abbrev lxT (xs ys : List PyData) : Bool := PyProof.Rows.lexLt PyProof.Rows.itemOrd (PySem.W.keyToksAll xs) (PySem.W.keyToksAll ys)
theorem al_num (c j d k : Nat) : PySem.W.alike (numP c j) (numP d k) = true := rfl
theorem lx_pre (os : List Op) (X Y : List PyData) : ∀ S : Sl, lxT (toPs (S.map (numD os)) ++ X) (toPs (S.map (numD os)) ++ Y) = lxT X Y
  | [] => rfl
  | s :: S => by
    show lxT (numP s.1 (os.idxOf s.2) :: (toPs (S.map (numD os)) ++ X)) (numP s.1 (os.idxOf s.2) :: (toPs (S.map (numD os)) ++ Y)) = _
    unfold lxT
    rw [PySem.W.dataLt_all_yes (al_num _ _ _ _) (by rw [eqv_num]; exact decide_eq_true ⟨rfl, rfl⟩)]
    exact lx_pre os X Y S
theorem lt_num {c j d k : Nat} (h : c < d ∨ (c = d ∧ j < k)) : PySem.W.dataLt (numP c j) (numP d k) = true := by
  show PySem.W.dataLt (.tuple [.int c, .int j]) (.tuple [.int d, .int k]) = true
  rw [PySem.W.dataLt_tuple]
  have e : ∀ a b : Int, PyData.eqv (.int a) (.int b) = decide (a = b) := fun a b => encI.eqv a b
  rcases h with h | ⟨rfl, h⟩
  · rw [PySem.W.dataLt_all_no rfl (by rw [e, decide_eq_false (by omega)]), PySem.W.dataLt_int]
    exact decide_eq_true (by omega)
  · rw [PySem.W.dataLt_all_yes rfl (by rw [e, decide_eq_true rfl]), PySem.W.dataLt_all_no rfl (by rw [e, decide_eq_false (by omega)]), PySem.W.dataLt_int]
    exact decide_eq_true (by omega)
theorem ltN_iff {os : List Op} {S T : Sl} : ltN os S T ↔ lxT (toPs (S.map (numD os))) (toPs (T.map (numD os))) = true := by
  show PySem.W.dataLt (.list (toPs (S.map (numD os)))) (.list (toPs (T.map (numD os)))) = true ↔ _
  rw [PySem.W.dataLt_list]
theorem toPs_app : ∀ xs ys : List D, toPs (xs ++ ys) = toPs xs ++ toPs ys
  | [], _ => rfl
  | x :: xs, ys => by
    show toP x :: toPs (xs ++ ys) = toP x :: (toPs xs ++ toPs ys)
    rw [toPs_app xs ys]
theorem ltN_sib {os : List Op} (S U V : Sl) {x y : Nat × Op} (h : x.1 < y.1 ∨ (x.1 = y.1 ∧ os.idxOf x.2 < os.idxOf y.2)) : ltN os (S ++ x :: U) (S ++ y :: V) := by
  rw [ltN_iff, List.map_append, List.map_append, toPs_app, toPs_app, lx_pre]
  show lxT (numP x.1 (os.idxOf x.2) :: toPs (U.map (numD os))) (numP y.1 (os.idxOf y.2) :: toPs (V.map (numD os))) = true
  unfold lxT
  rw [PySem.W.dataLt_all_no (al_num _ _ _ _) (by rw [eqv_num]; exact decide_eq_false (by omega))]
  exact lt_num h
/-- pairwise of blocks -/
theorem pw_flat {α β : Type} {R : β → β → Prop} {f : α → List β} : ∀ {xs : List α}, (∀ x ∈ xs, (f x).Pairwise R) → xs.Pairwise (fun x y => ∀ a ∈ f x, ∀ b ∈ f y, R a b) → (xs.flatMap f).Pairwise R
  | [], _, _ => .nil
  | x :: xs, h1, h2 => by
    obtain ⟨h3, h4⟩ := List.pairwise_cons.mp h2
    rw [List.flatMap_cons]
    refine List.pairwise_append.mpr ⟨h1 x List.mem_cons_self, pw_flat (fun y hy => h1 y (List.mem_cons_of_mem _ hy)) h4, fun a ha b hb => ?_⟩
    obtain ⟨y, hy, hb⟩ := List.mem_flatMap.mp hb
    exact h3 y hy a ha b hb
/-- the lists with one slip more come in their order -/
theorem fur_pw {n m : Nat} {os : List Op} (hnd : os.Nodup) (S : Sl) : (fur n os m S).Pairwise (fun T1 T2 => ∃ x y, T1 = S ++ [x] ∧ T2 = S ++ [y] ∧ (x.1 < y.1 ∨ (x.1 = y.1 ∧ os.idxOf x.2 < os.idxOf y.2))) := by
  unfold fur
  split
  · exact .nil
  · refine pw_flat (fun i _ => ?_) ?_
    · rw [List.pairwise_map, List.pairwise_iff_getElem]
      intro p q hp hq hpq
      refine ⟨_, _, rfl, rfl, .inr ⟨rfl, ?_⟩⟩
      show os.idxOf os[p] < os.idxOf os[q]
      rw [hnd.idxOf_getElem p hp, hnd.idxOf_getElem q hq]
      exact hpq
    · refine List.Pairwise.imp ?_ (List.pairwise_lt_range)
      intro i j hij a ha b hb
      obtain ⟨o, _, rfl⟩ := List.mem_map.mp ha
      obtain ⟨o2, _, rfl⟩ := List.mem_map.mp hb
      exact ⟨_, _, rfl, rfl, .inl (by show nxC S + i < nxC S + j; omega)⟩
theorem pre_ext {n m : Nat} {os : List Op} {T : Sl} : ∀ {k : Nat} {S : Sl}, T ∈ pre n os m k S → ∃ U, T = S ++ U
  | 0, S, h => ⟨[], by rw [List.mem_singleton.mp h, List.append_nil]⟩
  | k + 1, S, h => by
    rw [pre] at h
    rcases List.mem_cons.mp h with rfl | h
    · exact ⟨[], by simp⟩
    · obtain ⟨T1, h1, h2⟩ := List.mem_flatMap.mp h
      obtain ⟨U, rfl⟩ := pre_ext h2
      unfold fur at h1
      split at h1
      · cases h1
      · obtain ⟨i, _, h3⟩ := List.mem_flatMap.mp h1
        obtain ⟨o, _, rfl⟩ := List.mem_map.mp h3
        exact ⟨[(nxC S + i, o)] ++ U, by simp⟩
theorem blocks_pw {n m k : Nat} {os : List Op} (hnd : os.Nodup) (S : Sl) (ih : ∀ T ∈ fur n os m S, (pre n os m k T).Pairwise (ltN os)) : ((fur n os m S).flatMap (pre n os m k)).Pairwise (ltN os) := by
  refine pw_flat ih (List.Pairwise.imp ?_ (fur_pw hnd S))
  rintro T1 T2 ⟨x, y, rfl, rfl, h⟩ a ha b hb
  obtain ⟨U, rfl⟩ := pre_ext ha
  obtain ⟨V, rfl⟩ := pre_ext hb
  rw [List.append_assoc, List.append_assoc]
  exact ltN_sib S U V h
theorem lx_nil (c j : Nat) (ys : List PyData) : lxT [] (numP c j :: ys) = true := rfl
theorem ltN_longer {os : List Op} (S U : Sl) (hU : U ≠ []) : ltN os S (S ++ U) := by
  rw [ltN_iff, List.map_append, toPs_app]
  have h := lx_pre os [] (toPs (U.map (numD os))) S
  rw [List.append_nil] at h
  rw [h]
  cases U with
  | nil => exact absurd rfl hU
  | cons u U => exact lx_nil _ _ _
theorem pre_pw {n m : Nat} {os : List Op} (hnd : os.Nodup) : ∀ (k : Nat) (S : Sl), (pre n os m k S).Pairwise (ltN os)
  | 0, _ => List.pairwise_singleton _ _
  | k + 1, S => by
    rw [pre]
    refine List.pairwise_cons.mpr ⟨fun T hT => ?_, blocks_pw hnd S fun T _ => pre_pw hnd k T⟩
    obtain ⟨T1, h1, h2⟩ := List.mem_flatMap.mp hT
    obtain ⟨U, rfl⟩ := pre_ext h2
    unfold fur at h1
    split at h1
    · cases h1
    · obtain ⟨i, _, h3⟩ := List.mem_flatMap.mp h1
      obtain ⟨o, _, rfl⟩ := List.mem_map.mp h3
      rw [List.append_assoc]
      exact ltN_longer S _ (by simp)
theorem ordF_pw {n m : Nat} {os : List Op} (hnd : os.Nodup) : (ordF n os m).Pairwise (ltN os) := blocks_pw hnd [] fun T _ => pre_pw hnd m T
theorem allF_pw {b r : Int} {cols : List (List Int)} {os : List Op} {m : Nat} (hnd : os.Nodup) : (allF b r cols os m).Pairwise fun s t => ltN os s.1 t.1 := by
  unfold allF
  rw [List.pairwise_filterMap]
  refine List.Pairwise.imp ?_ (ordF_pw hnd)
  intro S T h s hs t ht
  obtain ⟨x, _, rfl⟩ := Option.map_eq_some_iff.mp hs
  obtain ⟨y, _, rfl⟩ := Option.map_eq_some_iff.mp ht
  exact h
theorem allF_count {b r : Int} {cols : List (List Int)} {os : List Op} {m : Nat} : (allF b r cols os m).length = ((ordF cols.length os m).filter fun S => (outF b r cols S).isSome).length := by
  unfold allF
  induction ordF cols.length os m with
  | nil => rfl
  | cons S Ss ih =>
    rw [List.filterMap_cons, List.filter_cons]
    cases h : outF b r cols S with
    | none => simpa using ih
    | some x => simpa using ih
section
variable {b r : Int} {cols : List (List Int)} {n : Nat} {S T : Sl} {i : Nat} {o : Op}
theorem outF_some (h : Plan b r cols (opsN cols.length S)) : outF b r cols S = some ((stFo b cols (opsN cols.length S) cols.length).1, (stFo b cols (opsN cols.length S) cols.length).2.1) := by unfold outF; rw [if_pos h]
theorem outF_none (h : ¬ Plan b r cols (opsN cols.length S)) : outF b r cols S = none := by unfold outF; rw [if_neg h]
end
section
variable {K : PySem.W.Frag}
theorem outF_inv {b r : Int} {cols : List (List Int)} {S : Sl} {x : List Int × Int} (h : outF b r cols S = some x) : Plan b r cols (opsN cols.length S) ∧ x = ((stFo b cols (opsN cols.length S) cols.length).1, (stFo b cols (opsN cols.length S) cols.length).2.1) := by
  by_cases hp : Plan b r cols (opsN cols.length S)
  · rw [outF_some hp] at h
    exact ⟨hp, (Option.some.inj h).symm⟩
  · rw [outF_none hp] at h
    cases h
end
theorem val_nn {b : Int} (hb : 0 < b) : ∀ {cols : List (List Int)}, (∀ c ∈ cols, 0 ≤ c.sum) → 0 ≤ val b cols
  | [], _ => Int.le_refl _
  | c :: cols, h => by
    have h1 := h c List.mem_cons_self
    have h2 := val_nn hb (cols := cols) fun x hx => h x (List.mem_cons_of_mem _ hx)
    show 0 ≤ c.sum + b * val b cols
    have := Int.mul_nonneg (Int.le_of_lt hb) h2
    omega
theorem Gd.vnn {b r : Int} {cols : List (List Int)} (g : Gd b r cols) : 0 ≤ val b cols := val_nn (by have := g.b2; omega) fun c hc => (okC_sum g.b12 g.r4 (g.c c hc)).1
section
variable {K : PySem.W.Frag}
theorem len_is_integer : ∀ ds cs Q, sp_is_integer K ds cs Q → ds.length = 1 := by rintro ds cs Q ⟨_, rfl, _⟩; rfl
theorem vc_is_integer : ∀ ds cs Q, Lo ds cs → LoC cs → sp_is_integer K ds cs Q → t_is_integer K (Po.fn cs Q) ⟨startD N_is_integer ds, cs⟩ := by
  rintro ds cs Q hd hc ⟨d, rfl, ⟨a, ha⟩, q⟩
  unfold t_is_integer
  cases d
  case cell n =>
    cases tyN_cell ha
    walk_at "v"
    exact .inl q
  all_goals first | (cases ha; done) | (walk_at "v"; exact Or.inl q)
theorem len_is_column : ∀ ds cs Q, sp_is_column K ds cs Q → ds.length = 3 := by rintro ds cs Q ⟨_, _, _, rfl, _⟩; rfl
theorem ty_okV {cs : List Cel} {v : D} (h : okV v = true) : ∃ a, tyN cs v = some a := by
  cases v <;> first | exact ⟨_, rfl⟩ | cases h
theorem w_col {cs : List Cel} {Q : D → List Cel → Prop} {xs : List D} {b r : Int} (hz : xs.length ≤ 1000) (hs : ∀ x ∈ xs, okV x = true) (q : Q (.bl (decide ((xs.length : Int) = r) && xs.all (figB b))) cs) : t_is_column K (Po.fn cs Q) ⟨[some (.tup xs), some (.int b), some (.int r), none], cs⟩ := by
  unfold t_is_column
  walk_at "v"
  refine v_lenL (xs := xs) rfl (fun _ z => nomatch z) ?_
  walk_at "v"
  refine v_itdn (fun h => ?_) (fun h => ?_)
  · walk_at "v"
    rw [decide_eq_false h, Bool.false_and] at q
    exact .inl q
  · walk_at "v"
    refine v_lcY xs (fun x => x) (fun x => .bl (figB b x)) (by simp) (by omega) (fun Q' i x hx q' => ⟨_, rfl, ?_⟩) ?_
    · have hsx := hs x (List.mem_of_getElem? hx)
      walk_at "v"
      refine ⟨x, rfl, ty_okV hsx, ?_⟩
      refine ⟨isI x, rfl, ?_⟩
      cases hI : isI x with
      | false =>
        have e : figB b x = false := by cases x <;> first | rfl | cases hI
        rw [e] at q'
        refine v_F ?_
        exact q'
      | true =>
        refine v_T ?_
        cases x <;> try cases hI
        rename_i n
        walk_at "v"
        refine v_itd (fun h => ?_) (fun h => ?_)
        · walk_at "v"
          change Q' (.bl (decide (0 ≤ n) && decide (n < b))) _ at q'
          rw [decide_eq_true h, Bool.true_and] at q'
          exact q'
        · change Q' (.bl (decide (0 ≤ n) && decide (n < b))) _ at q'
          rw [decide_eq_false h, Bool.false_and] at q'
          exact q'
    · walk_at "v"
      refine v_allL (bs := xs.map (figB b)) (by rw [List.map_map]; rfl) ?_
      walk_at "v"
      rw [decide_eq_true h, Bool.true_and] at q
      have e : ((xs.map (figB b)).all fun b => b) = xs.all (figB b) := by rw [List.all_map]; rfl
      rw [e]
      exact .inl q
theorem okC_fig (b r : Int) (c : List Int) : okC b r c = (decide (((c.map D.int).length : Int) = r) && (c.map D.int).all (figB b)) := by
  unfold okC
  rw [List.length_map, List.all_map]
  rfl
theorem st_is_column {a b c : D} : startD N_is_column [a, b, c] = [some a, some b, some c, none] := rfl
theorem vc_is_column : ∀ ds cs Q, Lo ds cs → LoC cs → sp_is_column K ds cs Q → t_is_column K (Po.fn cs Q) ⟨startD N_is_column ds, cs⟩ := by
  rintro ds cs Q hd hc ⟨v, b, r, rfl, q⟩
  rw [st_is_column]
  rcases q with ⟨c, rfl, hz, q⟩ | ⟨xs, rfl, hz, hs, q⟩ | ⟨⟨T, hT, hne⟩, q⟩
  · rw [okC_fig] at q
    exact w_col (by rw [List.length_map]; exact hz) (fun x hx => by obtain ⟨i, _, rfl⟩ := List.mem_map.mp hx; rfl) q
  · exact w_col hz hs q
  · unfold t_is_column
    walk_at "v"
    refine v_isi (by decide) hT ?_
    rw [show isTy T "tuple" = false by unfold isTy; rw [beq_eq_false_iff_ne.mpr hne]; cases T == "bool" <;> rfl]
    walk_at "v"
    exact .inl q
theorem len_Sheet_init : ∀ ds cs Q, sp_Sheet_init K ds cs Q → ds.length = 4 := by rintro ds cs Q ⟨_, _, _, _, _, rfl, _⟩; rfl
theorem all_true {α : Type} (f : α → Bool) : ∀ xs : List α, (∀ x ∈ xs, f x = true) → ((xs.map f).all fun b => b) = true
  | [], _ => rfl
  | x :: xs, h => by
    rw [List.map_cons, List.all_cons, h x (List.mem_cons_self ..), Bool.true_and]
    exact all_true f xs fun y hy => h y (List.mem_cons_of_mem _ hy)
theorem st_Sheet_init {a b c d : D} : startD N_Sheet_init [a, b, c, d] = [some a, some b, some c, some d, none] := rfl
theorem vc_Sheet_init : ∀ ds cs Q, Lo ds cs → LoC cs → sp_Sheet_init K ds cs Q → t_Sheet_init K (Po.fn cs Q) ⟨startD N_Sheet_init ds, cs⟩ := by
  rintro ds cs Q hd hc ⟨n, d, cols, b, r, rfl, hn, hs, hf, g, q⟩
  have hz := g.n
  have g1 := g.b2
  have g2 := g.b12
  have g3 := g.r1
  have g4 := g.r4
  have hty := ty_lk hs hf
  rw [st_Sheet_init]
  unfold t_Sheet_init
  walk_at "v"
  refine ⟨.int b, rfl, ⟨_, rfl⟩, ?_⟩
  walk_at "v"
  refine v_F ?_
  walk_at "v"
  refine v_itd (fun h => ?_) (fun h => absurd g1 h)
  walk_at "v"
  rw [decide_eq_true g2]
  walk_at "v"
  refine ⟨.int r, rfl, ⟨_, rfl⟩, ?_⟩
  walk_at "v"
  refine v_F ?_
  walk_at "v"
  refine v_itd (fun h => ?_) (fun h => absurd g3 h)
  walk_at "v"
  rw [decide_eq_true g4]
  walk_at "v"
  refine v_itK hs fun G hG => ?_
  refine v_lcY cols encC (fun c => .bl (okC b r c)) rfl (by omega) (fun Q' i x hx q' => ⟨_, rfl, ?_⟩) ?_ hG
  · walk_at "v"
    have := g.len (List.mem_of_getElem? hx)
    exact ⟨_, b, r, rfl, .inl ⟨x, rfl, by omega, q'⟩⟩
  walk_at "v"
  refine v_allL (bs := cols.map (okC b r)) (by rw [List.map_map]; rfl) ?_
  rw [all_true _ _ g.c]
  walk_at "v"
  rcases q with q | q
  · refine .inl ⟨_, seq_lk (lk_set (lk_set hs hn fun _ z => nomatch z) (set_get hn) fun _ z => nomatch z), ?_⟩
    walk_at "v"
    refine v_lenK (lk_set (lk_set (lk_set hs hn fun _ z => nomatch z) (set_get hn) fun _ z => nomatch z) (set_get (set_get hn)) fun _ z => nomatch z) ?_
    walk_at "v"
    simp only [List.set_set, List.length_map]
    exact .inl q
  · refine .inr ⟨_, seq_lk (lk_set (lk_set hs hn fun _ z => nomatch z) (set_get hn) fun _ z => nomatch z), ?_⟩
    have hnl := (List.getElem?_eq_some_iff.mp hn).1
    have hg2 : ((cs.set n (.ins (He.ga K "Sheet") ["held_base"] [.int b])).set n (.ins (He.ga K "Sheet") ["held_base", "held_rows"] [.int b, .int r]) ++ [Cel.lst (cols.map encC)])[n]? = some (.ins (He.ga K "Sheet") ["held_base", "held_rows"] [.int b, .int r]) := app_get_lt (set_get (set_get hn))
    walk_at "v"
    refine v_lenK (lk_set (lk_app (lk_set (lk_set hs hn fun _ z => nomatch z) (set_get hn) fun _ z => nomatch z)) hg2 fun _ z => nomatch z) ?_
    walk_at "v"
    simp only [List.set_append, List.length_set, hnl, if_true, List.set_set, List.length_map]
    exact .inl q
theorem len_taken : ∀ ds cs Q, sp_taken K ds cs Q → ds.length = 4 := by rintro ds cs Q ⟨_, _, _, _, _, _, rfl, _⟩; rfl
theorem st_taken {a b c d : D} : startD N_taken [a, b, c, d] = [some a, some b, some c, some d, none, none] := rfl
theorem vc_taken : ∀ ds cs Q, Lo ds cs → LoC cs → sp_taken K ds cs Q → t_taken K (Po.fn cs Q) ⟨startD N_taken ds, cs⟩ := by
  rintro ds cs Q hd hc ⟨b, r, c, bf, o, d, rfl, b2, b12, hr, hz, ho, hb, q⟩
  clear hd
  rw [st_taken]
  unfold t_taken
  cases o
  case right =>
    show (sSeq _ _) _ ⟨[some (.int b), some (encC c), some d, some .non, none, none], cs⟩
    walk_at "v"
    exact .inl q
  case read j e =>
    obtain ⟨j2, d1, d2⟩ := ho
    have hj : j < c.length := by omega
    show (sSeq _ _) _ ⟨[some (.int b), some (encC c), some d, some (.tup [.str "read", .int (j : Nat), .int e]), none, none], cs⟩
    walk_at "w"
    refine .inl ⟨rfl, _, rfl, rfl, ?_⟩
    refine ⟨false, rfl, ?_⟩
    walk_at "w"
    refine v_listL (xs := c.map .int) rfl ?_
    walk_at "w"
    refine v_ixK (lk_cell app_get) (atI_map (getD_get hj)) ?_
    walk_at "w"
    refine ⟨_, _, (j : Nat), j, rfl, app_get, rfl, Evl.ixN_nat (by simpa using hj), ?_⟩
    rw [app_set, ← List.map_set]
    walk_at "w"
    refine v_tupK (lk_cell app_get) ?_
    walk_at "w"
    exact trim_back (by simp) (lo_encC _) q
  case copy j =>
    have j2 : (j : Int) < r := ho
    have hj : j < c.length := by omega
    obtain ⟨rfl, hbl⟩ := hb ⟨j, rfl⟩
    have hj2 : j < bf.length := by omega
    show (sSeq _ _) _ ⟨[some (.int b), some (encC c), some (encC bf), some (.tup [.str "copy", .int (j : Nat)]), none, none], cs⟩
    walk_at "w"
    refine .inl ⟨rfl, _, rfl, rfl, ?_⟩
    refine ⟨false, rfl, ?_⟩
    walk_at "w"
    refine v_listL (xs := c.map .int) rfl ?_
    walk_at "w"
    refine v_ixTX ⟨_, atI_map (getD_get hj2), ?_⟩
    walk_at "w"
    refine ⟨_, _, (j : Nat), j, rfl, app_get, rfl, Evl.ixN_nat (by simpa using hj), ?_⟩
    rw [app_set, ← List.map_set]
    walk_at "w"
    refine v_tupK (lk_cell app_get) ?_
    walk_at "w"
    exact trim_back (by simp) (lo_encC _) q
  case off e =>
    show (sSeq _ _) _ ⟨[some (.int b), some (encC c), some d, some (.tup [.str "off", .int e]), none, none], cs⟩
    walk_at "w"
    refine .inl ⟨rfl, _, rfl, rfl, ?_⟩
    refine ⟨true, rfl, ?_⟩
    walk_at "w"
    exact .inl q
  all_goals
    show (sSeq _ _) _ ⟨[some (.int b), some (encC c), some d, some (.tup [.str _]), none, none], cs⟩
    walk_at "w"
    refine .inl ⟨rfl, _, rfl, rfl, ?_⟩
    refine ⟨true, rfl, ?_⟩
    walk_at "w"
    exact .inl q
theorem len_done : ∀ ds cs Q, sp_done K ds cs Q → ds.length = 5 := by rintro ds cs Q ⟨_, _, _, _, _, _, _, rfl, _⟩; rfl
theorem st_done {a b c d e : D} : startD N_done [a, b, c, d, e] = [some a, some b, some c, some d, some e, none, none, none, none] := rfl
theorem vc_done : ∀ ds cs Q, Lo ds cs → LoC cs → sp_done K ds cs Q → t_done K (Po.fn cs Q) ⟨startD N_done ds, cs⟩ := by
  rintro ds cs Q hd hc ⟨b, r, k, c, bf, o, d, rfl, b2, b12, hr, hz, ho, q⟩
  clear hd
  rw [st_done]
  unfold t_done
  rcases q with ⟨hb, hf, q⟩ | ⟨⟨⟨j, rfl⟩, rfl⟩ | ⟨rfl, hf⟩, q⟩
  rotate_left
  · show (sSeq _ _) _ ⟨[some (.int b), some (encC c), some (.non), some (.int k), some (.tup [.str "copy", .int (j : Nat)]), none, none, none, none], cs⟩
    walk_at "w"
    exact .inl q
  · show (sSeq _ _) _ ⟨[some (.int b), some (encC c), some d, some (.int k), some (.tup [.str "forget"]), none, none, none, none], cs⟩
    walk_at "w"
    refine ⟨b, r, c, bf, .forget, d, rfl, b2, b12, hr, hz, ho, (fun ⟨j, z⟩ => nomatch z), ?_⟩
    walk_at "w"
    refine v_sumL (ns := takeF b c bf .forget) rfl ?_
    walk_at "w"
    rw [show decide (((takeF b c bf .forget).sum + k) / b = 0) = true from decide_eq_true hf]
    walk_at "w"
    exact .inl q
  cases o
  case right =>
    show (sSeq _ _) _ ⟨[some (.int b), some (encC c), some d, some (.int k), some (.non), none, none, none, none], cs⟩
    walk_at "w"
    refine ⟨b, r, c, bf, .right, d, rfl, b2, b12, hr, hz, ho, hb, ?_⟩
    walk_at "w"
    refine v_sumL (ns := takeF b c bf .right) rfl ?_
    walk_at "w"
    exact .inl q
  case forget =>
    show (sSeq _ _) _ ⟨[some (.int b), some (encC c), some d, some (.int k), some (.tup [.str "forget"]), none, none, none, none], cs⟩
    walk_at "w"
    refine ⟨b, r, c, bf, .forget, d, rfl, b2, b12, hr, hz, ho, hb, ?_⟩
    walk_at "w"
    refine v_sumL (ns := takeF b c bf .forget) rfl ?_
    walk_at "w"
    rw [show decide (((takeF b c bf .forget).sum + k) / b = 0) = false from decide_eq_false (hf rfl)]
    walk_at "w"
    exact .inl q
  case again =>
    show (sSeq _ _) _ ⟨[some (.int b), some (encC c), some d, some (.int k), some (.tup [.str "again"]), none, none, none, none], cs⟩
    walk_at "w"
    refine ⟨b, r, c, bf, .again, d, rfl, b2, b12, hr, hz, ho, hb, ?_⟩
    walk_at "w"
    refine v_sumL (ns := takeF b c bf .again) rfl ?_
    walk_at "w"
    exact .inl q
  case off e =>
    show (sSeq _ _) _ ⟨[some (.int b), some (encC c), some d, some (.int k), some (.tup [.str "off", .int e]), none, none, none, none], cs⟩
    walk_at "w"
    refine ⟨b, r, c, bf, (.off e), d, rfl, b2, b12, hr, hz, ho, hb, ?_⟩
    walk_at "w"
    refine v_sumL (ns := takeF b c bf (.off e)) rfl ?_
    walk_at "w"
    exact .inl q
  case read j e =>
    show (sSeq _ _) _ ⟨[some (.int b), some (encC c), some d, some (.int k), some (.tup [.str "read", .int (j : Nat), .int e]), none, none, none, none], cs⟩
    walk_at "w"
    refine ⟨b, r, c, bf, (.read j e), d, rfl, b2, b12, hr, hz, ho, hb, ?_⟩
    walk_at "w"
    refine v_sumL (ns := takeF b c bf (.read j e)) rfl ?_
    walk_at "w"
    exact .inl q
  case copy j =>
    obtain ⟨rfl, hbl⟩ := hb ⟨j, rfl⟩
    show (sSeq _ _) _ ⟨[some (.int b), some (encC c), some (encC bf), some (.int k), some (.tup [.str "copy", .int (j : Nat)]), none, none, none, none], cs⟩
    walk_at "w"
    refine ⟨b, r, c, bf, .copy j, _, rfl, b2, b12, hr, hz, ho, hb, ?_⟩
    walk_at "w"
    refine v_sumL (ns := takeF b c bf (.copy j)) rfl ?_
    walk_at "w"
    exact .inl q
  case swap =>
    show (sSeq _ _) _ ⟨[some (.int b), some (encC c), some d, some (.int k), some (.tup [.str "swap"]), none, none, none, none], cs⟩
    walk_at "w"
    refine ⟨b, r, c, bf, .swap, d, rfl, b2, b12, hr, hz, ho, hb, ?_⟩
    walk_at "w"
    refine v_sumL (ns := takeF b c bf .swap) rfl ?_
    walk_at "w"
    exact .inl q
  case out =>
    show (sSeq _ _) _ ⟨[some (.int b), some (encC c), some d, some (.int k), some (.tup [.str "out"]), none, none, none, none], cs⟩
    walk_at "w"
    exact .inl q
  case twice =>
    show (sSeq _ _) _ ⟨[some (.int b), some (encC c), some d, some (.int k), some (.tup [.str "twice"]), none, none, none, none], cs⟩
    walk_at "w"
    refine ⟨b, r, c, bf, .twice, d, rfl, b2, b12, hr, hz, ho, hb, ?_⟩
    walk_at "w"
    refine v_sumL (ns := takeF b c bf .twice) rfl ?_
    walk_at "w"
    refine v_sumL (ns := c) rfl ?_
    walk_at "w"
    exact .inl q
theorem len_Adding_do : ∀ ds cs Q, sp_Adding_do K ds cs Q → ds.length = 2 := by rintro ds cs Q ⟨_, _, _, _, _, _, _, rfl, _⟩; rfl
theorem encP_eq {o : Op} (h : o ≠ .right) : encP o = encO o := by cases o <;> first | exact absurd rfl h | rfl
theorem sh_P (o : Op) : Sh 1 (encP o) := by
  by_cases h : o = .right
  · subst h
    exact Sh.non.mono (by decide)
  · rw [encP_eq h]
    exact sh_O o
theorem noInt_P (o : Op) : noInt (encP o) = true := by cases o <;> rfl
theorem eqv_swapP (a : Op) : PyData.eqv (toP (encP a)) (toP (.tup [.str "swap"])) = decide (a = .swap) := by cases a <;> first | rfl | decide +kernel
theorem drf_P {cs : List Cel} (o : Op) : drf cs (encP o) = encP o := by cases o <;> rfl
theorem v_eqPs (p : P (.bl (decide (a = .swap))) e) : qEq (encP a) (.tup [.str "swap"]) e P := v_eqP (k := decide (a = .swap)) ⟨by rw [noInt_P]; rfl, by rw [drf_P]; exact (sh_P a).shp, (sh_O .swap).shp, by rw [drf_P]; exact eqv_swapP a, p⟩
end
section
variable {K : PySem.W.Frag}
variable {Po' : Po} {x2 x3 : Option D} {cs : List Cel} {n : Nat} {b c iv : Int} {cols : List (List Int)} {ws f : List Int} {w : Option Int} {o : Op}
theorem w_do_1 (hn : cs[n]? = some (.ins (He.ga K "Adding") adN [.int b, .lst (cols.map encC), .int iv, .lst (ws.map .int), .int c, wD w])) (hwo : w ≠ none → o = .right) (hf : o = .swap → f ≠ []) (hl : ws.length ≤ 10000) (hl2 : f.length ≤ 10)
    (k : ∀ e : En, Po'.rt (.bl true) (cs.set n (.ins (He.ga K "Adding") adN [.int b, .lst (cols.map encC), .int iv, .lst ((advo (ws, 0, w) (f, c) o).1.map .int), .int c, wD (advo (ws, 0, w) (f, c) o).2.2]))) :
    u_Adding_do_1 K Po' ⟨[some (.cell n), some (encP o), x2, x3, some (.lst (f.map .int))], cs⟩ := by
  unfold u_Adding_do_1
  cases w with
  | some w0 =>
    dsimp only [wD] at hn
    walk_at "w"
    refine v_addL ⟨by simp; omega, ?_⟩
    walk_at "w"
    refine v_addL ⟨by simp; omega, ?_⟩
    walk_at "w"
    simp only [List.set_set]
    have := k ⟨[], []⟩
    unfold advo at this
    dsimp only [wD] at this
    rw [List.map_append, List.map_append] at this
    exact this
  | none =>
    dsimp only [wD] at hn
    walk_at "w"
    refine v_eqPs ?_
    walk_at "w"
    by_cases h : o = .swap
    · rw [decide_eq_true h]
      obtain ⟨x, t, rfl⟩ := List.exists_cons_of_ne_nil (hf h)
      walk_at "w"
      refine v_ixK rfl (atI_nat (j := 0) rfl) ?_
      walk_at "w"
      refine v_addL ⟨by simp; omega, ?_⟩
      walk_at "w"
      simp only [List.set_set, List.append_nil]
      have := k ⟨[], []⟩
      unfold advo at this
      dsimp only at this
      rw [if_pos h] at this
      exact this
    · rw [decide_eq_false h]
      walk_at "w"
      refine v_addL ⟨by simp; omega, ?_⟩
      walk_at "w"
      have := k ⟨[], []⟩
      unfold advo at this
      dsimp only at this
      rw [if_neg h, List.map_append] at this
      exact this
end
section
variable {K : PySem.W.Frag}
theorem stepT_len (b : Int) (c bf : List Int) (o : Op) (k : Int) : (stepT b c bf o k).1.length ≤ 2 := by cases o <;> simp [stepT]
end
theorem Gd.clen {b r : Int} {cols : List (List Int)} (g : Gd b r cols) {i : Nat} (h : i < cols.length) : ((colAt cols i).length : Int) = r := by
  have h1 := g.c _ (colAt_mem h)
  unfold okC at h1
  simp only [Bool.and_eq_true, decide_eq_true_eq] at h1
  exact h1.1
section
variable {K : PySem.W.Frag}
theorem st_do {a b : D} : startD N_Adding_do [a, b] = [some a, some b, none, none, none] := rfl
theorem vc_Adding_do : ∀ ds cs Q, Lo ds cs → LoC cs → sp_Adding_do K ds cs Q → t_Adding_do K (Po.fn cs Q) ⟨startD N_Adding_do ds, cs⟩ := by
  rintro ds cs Q hd hc ⟨n, b, r, cols, i, ⟨ws, c, w⟩, o, rfl, hn, g, hi, ho, hw, hl, q, qn⟩
  have hz := g.n
  unfold adC at hn
  dsimp only at hn hw hl q qn
  by_cases hs : okS b (colAt cols i) (colAt cols (i - 1)) i cols.length o c
  rotate_left
  · have q := qn hs
    have fin : ∀ d, ((∃ j, o = .copy j) → d = .non) → u_Adding_do_0 K (Po.fn cs Q) ⟨[some (.cell n), some (encP o), some d, none, none], cs⟩ := by
      intro d hdd
      have hcl := g.clen hi
      have hr4 := g.r4
      unfold u_Adding_do_0
      walk_at "w"
      refine v_eqPs ?_
      walk_at "w"
      by_cases h : o = .swap
      · rw [decide_eq_true h]
        walk_at "w"
        refine v_lenK rfl ?_
        rw [List.length_map]
        walk_at "w"
        have hsw : i + 1 = cols.length := by
          subst h
          exact Decidable.not_not.mp hs
        rw [decide_eq_true (by omega)]
        walk_at "w"
        exact .inl q
      · rw [decide_eq_false h]
        walk_at "w"
        unfold u_Adding_do_2
        walk_at "w"
        refine v_ixK rfl (atI_map (colAt_get hi)) ?_
        walk_at "w"
        refine ⟨b, r, c, colAt cols i, colAt cols (i - 1), o, d, rfl, g.b2, g.b12, hcl, by omega, ho, .inr ⟨?_, ?_⟩⟩
        · cases o <;> first | exact absurd trivial hs | exact absurd rfl h | exact .inl ⟨⟨_, rfl⟩, hdd ⟨_, rfl⟩⟩ | exact .inr ⟨rfl, Decidable.not_not.mp hs⟩
        walk_at "w"
        exact .inl q
    rw [st_do]
    unfold t_Adding_do
    walk_at "w"
    refine v_itd (fun h => ?_) (fun h => ?_)
    · walk_at "w"
      rw [show ((i : Int) - 1) = ((i - 1 : Nat) : Int) by omega]
      refine v_ixK rfl (atI_map (colAt_get (by omega))) ?_
      walk_at "w"
      refine fin _ fun ⟨j, hj⟩ => ?_
      subst hj
      have : i = 0 := Decidable.not_not.mp hs
      omega
    · walk_at "w"
      exact fin _ fun _ => rfl
  have q := q hs
  have fin : ∀ d, ((∃ j, o = .copy j) → d = encC (colAt cols (i - 1))) → u_Adding_do_0 K (Po.fn cs Q) ⟨[some (.cell n), some (encP o), some d, none, none], cs⟩ := by
    intro d hdd
    have hcl := g.clen hi
    have hr4 := g.r4
    unfold u_Adding_do_0
    walk_at "w"
    refine v_eqPs ?_
    have go : ∀ P : Prop, P → P := fun _ h => h
    walk_at "w"
    have rest : ∀ (Po1 : Po), (∀ e : En, Po1.rt (.bl true) (cs.set n (adC K b cols (i + 1) (advo (ws, c, w) (stepT b (colAt cols i) (colAt cols (i - 1)) o c) o)))) → u_Adding_do_2 K Po1 ⟨[some (.cell n), some (encP o), some d, none, none], cs⟩ := by
      intro Po1 hk
      unfold u_Adding_do_2
      walk_at "w"
      refine v_ixK rfl (atI_map (colAt_get hi)) ?_
      walk_at "w"
      refine ⟨b, r, c, colAt cols i, colAt cols (i - 1), o, d, rfl, g.b2, g.b12, hcl, by omega, ho, .inl ⟨fun h => ?_, fun h => ?_, ?_⟩⟩
      · obtain ⟨j, rfl⟩ := h
        have h0 : i ≠ 0 := hs
        exact ⟨hdd ⟨j, rfl⟩, by have := g.clen (i := i - 1) (by omega); omega⟩
      · subst h
        exact hs
      walk_at "w"
      rw [List.set_set]
      have ea : adC K b cols (i + 1) (advo (ws, c, w) (stepT b (colAt cols i) (colAt cols (i - 1)) o c) o) = .ins (He.ga K "Adding") adN [.int b, .lst (cols.map encC), .int ((i : Int) + 1), .lst ((advo (ws, 0, w) ((stepT b (colAt cols i) (colAt cols (i - 1)) o c).1, (stepT b (colAt cols i) (colAt cols (i - 1)) o c).2) o).1.map .int), .int (stepT b (colAt cols i) (colAt cols (i - 1)) o c).2, wD (advo (ws, 0, w) ((stepT b (colAt cols i) (colAt cols (i - 1)) o c).1, (stepT b (colAt cols i) (colAt cols (i - 1)) o c).2) o).2.2] := by
        unfold adC
        rw [adv_carry]
        rfl
      refine w_do_1 (set_get hn) hw (fun h => ?_) hl (Nat.le_trans (stepT_len ..) (by decide)) (fun e => ?_)
      · subst h
        simp [stepT]
      · rw [List.set_set, ← ea]
        exact hk e
    by_cases h : o = .swap
    · rw [decide_eq_true h]
      walk_at "w"
      refine v_lenK rfl ?_
      rw [List.length_map]
      walk_at "w"
      have hsw : i + 1 ≠ cols.length := by subst h; exact hs
      rw [decide_eq_false (by omega)]
      walk_at "w"
      exact rest _ fun e => .inl q
    · rw [decide_eq_false h]
      walk_at "w"
      exact rest _ fun e => .inl q
  rw [st_do]
  unfold t_Adding_do
  walk_at "w"
  refine v_itd (fun h => ?_) (fun h => ?_)
  · walk_at "w"
    rw [show ((i : Int) - 1) = ((i - 1 : Nat) : Int) by omega]
    refine v_ixK rfl (atI_map (colAt_get (by omega))) ?_
    walk_at "w"
    exact fin _ fun _ => rfl
  · walk_at "w"
    exact fin _ fun ⟨j, hj⟩ => by subst hj; exact absurd (show i = 0 by omega) hs
theorem len_Adding_do_until : ∀ ds cs Q, sp_Adding_do_until K ds cs Q → ds.length = 2 := by rintro ds cs Q ⟨_, _, _, _, _, _, _, rfl, _⟩; rfl
theorem adC_ins {b : Int} {cols : List (List Int)} {i : Nat} {st : St} {cs : List Cel} {n : Nat} (h : cs[n]? = some (adC K b cols i st)) : cs[n]? = some (.ins (He.ga K "Adding") adN [.int b, .lst (cols.map encC), .int (i : Nat), .lst (st.1.map .int), .int st.2.1, wD st.2.2]) := h
theorem st_until {a b : D} : startD N_Adding_do_until [a, b] = [some a, some b] := rfl
end
theorem set_self {cs : List Cel} {n : Nat} {c : Cel} (h : cs[n]? = some c) : cs.set n c = cs := by
  obtain ⟨hl, rfl⟩ := List.getElem?_eq_some_iff.mp h
  exact List.set_getElem_self hl
section
variable {K : PySem.W.Frag}
theorem stF_len (b : Int) (cols : List (List Int)) (ops : List Op) : ∀ k : Nat, (stFo b cols ops k).1.length + (if (stFo b cols ops k).2.2 = none then 0 else 1) ≤ 2 * k
  | 0 => by simp [stFo]
  | k + 1 => by
    have ih := stF_len b cols ops k
    have h1 := stepT_len b (colAt cols k) (colAt cols (k - 1)) (opAt ops k) (stFo b cols ops k).2.1
    rw [stFo]
    generalize stepT b (colAt cols k) (colAt cols (k - 1)) (opAt ops k) (stFo b cols ops k).2.1 = f at h1
    generalize stFo b cols ops k = st at ih
    unfold advo
    cases hw : st.2.2 with
    | some w =>
      rw [hw] at ih
      simp at ih ⊢
      omega
    | none =>
      rw [hw] at ih
      dsimp only
      split
      · simp at ih ⊢
        omega
      · simp at ih ⊢
        omega
theorem stF_len' (b : Int) (cols : List (List Int)) (ops : List Op) (k : Nat) : (stFo b cols ops k).1.length ≤ 2 * k := by
  have := stF_len b cols ops k
  omega
theorem vc_Adding_do_until : ∀ ds cs Q, Lo ds cs → LoC cs → sp_Adding_do_until K ds cs Q → t_Adding_do_until K (Po.fn cs Q) ⟨startD N_Adding_do_until ds, cs⟩ := by
  rintro ds cs Q hd hc ⟨n, b, r, cols, ops, i, j, rfl, hn, g, P, hi, hj, hr, q⟩
  have hz := g.n
  rw [st_until]
  unfold t_Adding_do_until
  walk_at "v"
  refine ⟨fun m e => ∃ k : Nat, m + k = j ∧ i ≤ k ∧ e = ⟨[some (.cell n), some (.int (j : Nat))], cs.set n (adC K b cols k (stFo b cols ops k))⟩, ⟨j - i, i, by omega, Nat.le_refl _, ?_⟩, ?_⟩
  · rw [set_self hn]
  · rintro m e ⟨k, hm, hk, rfl⟩
    have hn' := set_get (c := adC K b cols k (stFo b cols ops k)) hn
    have hn2 := adC_ins hn'
    walk_at "v"
    refine v_itd (fun h => ?_) (fun h => ?_)
    · have hk2 : k < j := by omega
      have hop := hr k hk hk2
      have hl := stF_len' b cols ops k
      walk_at "v"
      refine ⟨n, b, r, cols, k, stFo b cols ops k, .right, rfl, hn', g, by omega, trivial, fun _ => rfl, by omega, fun _ => ?_, fun z => absurd trivial z⟩
      walk_at "v"
      refine ⟨m - 1, by omega, k + 1, by omega, by omega, ?_⟩
      rw [List.set_set, stFo, hop]
    · walk_at "v"
      have : k = j := by omega
      subst this
      exact .inl q
theorem len_Written_init : ∀ ds cs Q, sp_Written_init K ds cs Q → ds.length = 4 := by rintro ds cs Q ⟨_, _, _, _, rfl, _⟩; rfl
theorem vc_Written_init : ∀ ds cs Q, Lo ds cs → LoC cs → sp_Written_init K ds cs Q → t_Written_init K (Po.fn cs Q) ⟨startD N_Written_init ds, cs⟩ := by
  rintro ds cs Q hd hc ⟨n, b, fs, l, rfl, hn, q⟩
  unfold t_Written_init
  walk_at "v"
  refine v_listL rfl ?_
  walk_at "v"
  simp only [List.set_set]
  exact .inl q
theorem len_Adding_result : ∀ ds cs Q, sp_Adding_result K ds cs Q → ds.length = 1 := by rintro ds cs Q ⟨_, _, _, _, _, _, rfl, _⟩; rfl
theorem vc_Adding_result : ∀ ds cs Q, Lo ds cs → LoC cs → sp_Adding_result K ds cs Q → t_Adding_result K (Po.fn cs Q) ⟨startD N_Adding_result ds, cs⟩ := by
  rintro ds cs Q hd hc ⟨n, b, r, cols, ops, i, rfl, hn, g, P, hi, hr, q⟩
  have hn2 := adC_ins hn
  unfold t_Adding_result
  walk_at "v"
  refine v_lenK (d := .lst (cols.map encC)) rfl ?_
  rw [List.length_map]
  walk_at "v"
  refine ⟨n, b, r, cols, ops, i, cols.length, rfl, hn, g, P, hi, Nat.le_refl _, hr, ?_⟩
  have hn' := set_get (c := adC K b cols cols.length (stFo b cols ops cols.length)) hn
  have hn3 := adC_ins hn'
  walk_at "v"
  refine ⟨_, b, _, _, rfl, app_get, rfl, .inr ⟨_, _, _, _, app_set, rfl, ?_, fun c hc => .inl hc, ?_⟩⟩
  · show (true && (los _ _ && (true && true))) = true
    rw [los_int] <;> rfl
  walk_at "v"
  exact .inl q
theorem len_Sheet_base : ∀ ds cs Q, sp_Sheet_base K ds cs Q → ds.length = 1 := by rintro ds cs Q ⟨_, _, _, _, rfl, _⟩; rfl
theorem vc_Sheet_base : ∀ ds cs Q, Lo ds cs → LoC cs → sp_Sheet_base K ds cs Q → t_Sheet_base K (Po.fn cs Q) ⟨startD N_Sheet_base ds, cs⟩ := by
  rintro ds cs Q hd hc ⟨d, b, r, cols, rfl, ⟨hc1, hi, hl, hf0⟩, q⟩
  unfold t_Sheet_base
  walk_at "v"
  exact .inl q
theorem len_Sheet_columns : ∀ ds cs Q, sp_Sheet_columns K ds cs Q → ds.length = 1 := by rintro ds cs Q ⟨_, _, _, _, rfl, _⟩; rfl
theorem vc_Sheet_columns : ∀ ds cs Q, Lo ds cs → LoC cs → sp_Sheet_columns K ds cs Q → t_Sheet_columns K (Po.fn cs Q) ⟨startD N_Sheet_columns ds, cs⟩ := by
  rintro ds cs Q hd hc ⟨d, b, r, cols, rfl, ⟨hc1, hi, hl, hf0⟩, q⟩
  unfold t_Sheet_columns
  walk_at "v"
  refine v_listL (seq_lk hl) ?_
  walk_at "v"
  exact own_back (los_encC _) q
theorem len_Adding_init : ∀ ds cs Q, sp_Adding_init K ds cs Q → ds.length = 2 := by rintro ds cs Q ⟨_, _, _, _, _, rfl, _⟩; rfl
theorem st_ainit {a b : D} : startD N_Adding_init [a, b] = [some a, some b] := rfl
theorem isSh_set {cs : List Cel} {d : D} {b r : Int} {cols : List (List Int)} {n : Nat} {C : Addr} {ns : List Str} {xs : List D} {c : Cel} (h : isSh K cs d b r cols) (hn : cs[n]? = some (.ins C ns xs)) (hne : ns ≠ shN) : isSh K (cs.set n c) d b r cols := by
  obtain ⟨hc, hi, hl, hf⟩ := h
  refine ⟨hc, ?_, lk_set hl hn (fun _ z => nomatch z), hf⟩
  cases d with
  | cell m =>
    by_cases e : n = m
    · subst e
      rw [ins_cell hn] at hi
      cases hi
      exact absurd rfl hne
    · have hi' : (match cs[m]? with | some (.ins C ns xs) => some (C, ns, xs) | _ => none) = some (He.ga K "Sheet", shN, [.int b, .int r, hc, .int cols.length]) := hi
      show (match (cs.set n c)[m]? with | some (.ins C ns xs) => some (C, ns, xs) | _ => none) = _
      rw [List.getElem?_set_ne e]
      exact hi'
  | _ => exact hi
theorem vc_Adding_init : ∀ ds cs Q, Lo ds cs → LoC cs → sp_Adding_init K ds cs Q → t_Adding_init K (Po.fn cs Q) ⟨startD N_Adding_init ds, cs⟩ := by
  rintro ds cs Q hd hc ⟨n, d, b, r, cols, rfl, hn, hs, q⟩
  rw [st_ainit]
  unfold t_Adding_init
  have hs2 := hs
  obtain ⟨hc1, hi, hl, _⟩ := hs2
  walk_at "v"
  refine ⟨d, b, r, cols, rfl, hs, ?_⟩
  walk_at "v"
  have hs' : isSh K (cs.set n (.ins (He.ga K "Adding") ["system"] [.int b])) d b r cols := isSh_set hs hn (by decide)
  have hs3 := hs'
  obtain ⟨hc2, hi2, hl2⟩ := hs3
  refine ⟨⟨_, _, hi2⟩, d, b, r, cols, rfl, hs', .inl ?_⟩
  walk_at "v"
  simp only [List.set_set]
  exact .inl q
theorem len_add_right : ∀ ds cs Q, sp_add_right K ds cs Q → ds.length = 1 := by rintro ds cs Q ⟨_, _, _, _, rfl, _⟩; rfl
theorem ins_app {cs more : List Cel} {d : D} {z : Addr × List Str × List D} (h : insD cs d = some z) : insD (cs ++ more) d = some z := by
  cases d with
  | cell m =>
    have h' : (match cs[m]? with | some (.ins C ns xs) => some (C, ns, xs) | _ => none) = some z := h
    have hlt : m < cs.length := by
      rcases Nat.lt_or_ge m cs.length with q | q
      · exact q
      · rw [List.getElem?_eq_none q] at h'
        cases h'
    show (match (cs ++ more)[m]? with | some (.ins C ns xs) => some (C, ns, xs) | _ => none) = some z
    rw [List.getElem?_append_left hlt]
    exact h'
  | _ => exact h
theorem isSh_app {cs : List Cel} {c : Cel} {d : D} {b r : Int} {cols : List (List Int)} (h : isSh K cs d b r cols) : isSh K (cs ++ [c]) d b r cols := by
  obtain ⟨hc, hi, hl, hf⟩ := h
  exact ⟨hc, ins_app hi, lk_app hl, hf⟩
theorem lo_wrD {k : Nat} (K : PySem.W.Frag) (b : Int) (fs : List Int) (l : Int) : loD k (wrD K b fs l) = true := by
  show (true && (los _ _ && (true && true))) = true
  rw [los_int] <;> rfl
theorem vc_add_right : ∀ ds cs Q, Lo ds cs → LoC cs → sp_add_right K ds cs Q → t_add_right K (Po.fn cs Q) ⟨startD N_add_right ds, cs⟩ := by
  rintro ds cs Q hd hc ⟨d, b, r, cols, rfl, hs, g, q⟩
  unfold t_add_right
  walk_at "w"
  refine ⟨_, d, b, r, cols, rfl, app_get, isSh_app hs, rfl, .inl ?_⟩
  rw [app_set]
  walk_at "w"
  refine ⟨_, b, r, cols, rts cols.length, 0, rfl, app_get, g, plan_rts b r cols, Nat.zero_le _, fun k _ _ => opAt_rts _ _, ?_⟩
  rw [app_set]
  walk_at "w"
  exact trim_back (by simp) (lo_wrD K _ _ _) q
theorem len_Written_figures : ∀ ds cs Q, sp_Written_figures K ds cs Q → ds.length = 1 := by rintro ds cs Q ⟨_, _, _, rfl, _⟩; rfl
theorem vc_Written_figures : ∀ ds cs Q, Lo ds cs → LoC cs → sp_Written_figures K ds cs Q → t_Written_figures K (Po.fn cs Q) ⟨startD N_Written_figures ds, cs⟩ := by
  rintro ds cs Q hd hc ⟨b, fs, l, rfl, q⟩
  have hi : insD cs (wrD K b fs l) = some (He.ga K "Written", wrN, [.int b, .lst (fs.map .int), .int l]) := rfl
  unfold t_Written_figures
  walk_at "v"
  refine v_listL rfl ?_
  walk_at "v"
  exact own_back (los_int _) q
theorem len_Sheet_len : ∀ ds cs Q, sp_Sheet_len K ds cs Q → ds.length = 1 := by rintro ds cs Q ⟨_, _, _, _, rfl, _⟩; rfl
theorem vc_Sheet_len : ∀ ds cs Q, Lo ds cs → LoC cs → sp_Sheet_len K ds cs Q → t_Sheet_len K (Po.fn cs Q) ⟨startD N_Sheet_len ds, cs⟩ := by
  rintro ds cs Q hd hc ⟨d, b, r, cols, rfl, ⟨hc1, hi, hl, _⟩, q⟩
  unfold t_Sheet_len
  walk_at "v"
  refine v_lenK hl ?_
  walk_at "v"
  rw [List.length_map]
  exact .inl q
theorem len_is_deed : ∀ ds cs Q, sp_is_deed K ds cs Q → ds.length = 3 := by rintro ds cs Q ⟨_, _, _, rfl, _⟩; rfl
theorem cut_tl1 (x : D) (xs : List D) : cutD (x :: xs) (some 1) none = xs := by
  have := cut_from (fun d : D => d) (x :: xs) 1
  simpa using this
theorem v_slT2 {o : Bool} {x : D} {xs : List D} {e : En} {P : D → En → Prop} (p : P (.tup xs) e) : qSl o (.tup (x :: xs)) (some 1) none e P := by
  refine ⟨fun z => ?_, by rw [cut_tl1]; exact p⟩
  have h1 := z.1
  have h2 := HT.sIx_nat (x :: xs).length 0 1
  rw [show ((1 : Nat) : Int) = 1 from rfl, h1] at h2
  simp at h2
theorem shp_str {w : Str} (h : (PyData.str w).canLay0 = true) : shp (.str w) = true := (Sh.str h).shp
theorem v_eqS2 {a c : Str} {e : En} {P : D → En → Prop} (ha : (PyData.str a).canLay0 = true) (hc : (PyData.str c).canLay0 = true) (p : P (.bl (a == c)) e) : qEq (.str a) (.str c) e P := ⟨shp_str ha, shp_str hc, p⟩
theorem okV_plT {d : D} (h : okV d = true) : plT d = true := by
  cases d <;> first | rfl | exact h
theorem isI_int {d : D} (h : isI d = true) : ∃ i, d = .int i := by
  cases d <;> first | exact ⟨_, rfl⟩ | cases h
theorem okV_tup {xs : List D} (h : okV (.tup xs) = true) : xs.length ≤ 1000 ∧ (∀ x ∈ xs, plT x = true) ∧ layH xs = true := by
  have h' : (decide (xs.length ≤ 1000) && (xs.all plT && layH xs)) = true := h
  rw [Bool.and_eq_true, Bool.and_eq_true, decide_eq_true_eq, List.all_eq_true] at h'
  exact ⟨h'.1, h'.2.1, h'.2.2⟩
theorem st_is_deed {a b c : D} : startD N_is_deed [a, b, c] = [some a, some b, some c, none, none] := rfl
theorem plT_ty {d : D} (h : plT d = true) (cs : List Cel) : ∃ t, tyN cs d = some t := by
  cases d <;> first | exact ⟨_, rfl⟩ | cases h
theorem vc_is_deed : ∀ ds cs Q, Lo ds cs → LoC cs → sp_is_deed K ds cs Q → t_is_deed K (Po.fn cs Q) ⟨startD N_is_deed ds, cs⟩ := by
  rintro ds cs Q hd hc ⟨d, b, r, rfl, hv, q⟩
  clear hd
  rw [st_is_deed]
  by_cases ht : ∃ xs, d = .tup xs
  · obtain ⟨xs, rfl⟩ := ht
    obtain ⟨hz, hp, hl⟩ := okV_tup hv
    cases xs with
    | nil =>
      unfold t_is_deed
      walk_at "v"
      refine v_lenL (xs := []) rfl (fun _ z => nomatch z) ?_
      walk_at "v"
      exact .inl q
    | cons x rest =>
      have hx := plT_ty (hp x List.mem_cons_self)
      have hlen : (x :: rest).length = rest.length + 1 := rfl
      unfold t_is_deed
      walk_at "v"
      refine v_lenL (xs := x :: rest) rfl (fun _ z => nomatch z) ?_
      rw [hlen]
      walk_at "v"
      rw [decide_eq_false (by omega)]
      walk_at "v"
      refine v_ixTX ⟨_, atI_nat (j := 0) rfl, ?_⟩
      by_cases hs : ∃ w, x = .str w
      · obtain ⟨w, rfl⟩ := hs
        walk_at "v"
        refine v_slT2 ?_
        walk_at "v"
        refine v_lcY rest (fun d => d) (fun d => .bl (isI d)) (by simp) (by rw [hlen] at hz; omega) (fun Q' i x hx q' => ⟨_, rfl, ?_⟩) ?_
        · walk_at "v"
          obtain ⟨t, ht⟩ := plT_ty (hp x (List.mem_cons_of_mem _ (List.mem_of_getElem? hx))) cs
          exact ⟨x, rfl, ⟨t, ht⟩, q'⟩
        walk_at "v"
        refine v_allL (bs := rest.map isI) (by rw [List.map_map]; rfl) ?_
        have ea : ((rest.map isI).all fun b => b) = rest.all isI := by rw [List.all_map]; rfl
        rw [ea]
        have eD : isDd b r (.tup (.str w :: rest)) = (rest.all isI && (if plW w = true then rest.isEmpty else if (w == "off") = true then oneN 1 b rest else if (w == "copy") = true then oneN 0 r rest else (w == "read") && twoN r b rest)) := rfl
        rw [eD] at q
        cases hi : rest.all isI with
        | false =>
          rw [hi, Bool.false_and] at q
          walk_at "v"
          exact .inl q
        | true =>
          rw [hi, Bool.true_and] at q
          rw [List.all_eq_true] at hi
          have lw : (PyData.str w).canLay0 = true := hl
          walk_at "v"
          refine v_ixTX ⟨_, atI_nat (j := 0) rfl, ?_⟩
          walk_at "v"
          refine .inl ⟨rfl, _, rfl, rfl, ?_⟩
          rw [show (if (false : Bool) = true then !inF (.str w) [.str "forget", .str "again", .str "swap", .str "out", .str "twice"] else inF (.str w) [.str "forget", .str "again", .str "swap", .str "out", .str "twice"]) = plW w from rfl]
          cases hw : plW w with
          | true =>
            rw [hw, if_pos rfl] at q
            walk_at "v"
            refine v_lenL (xs := .str w :: rest) rfl (fun _ z => nomatch z) ?_
            walk_at "v"
            rw [show decide ((((D.str w :: rest).length : Nat) : Int) = 1) = rest.isEmpty by cases rest with | nil => rfl | cons y ys => exact decide_eq_false (by simp only [List.length_cons]; omega)]
            exact .inl q
          | false =>
            rw [hw, if_neg Bool.false_ne_true] at q
            walk_at "v"
            refine v_eqS2 lw (by first | rfl | decide +kernel) ?_
            walk_at "v"
            cases ho : (w == ("off" : Str)) with
            | true =>
              rw [ho, if_pos rfl] at q
              walk_at "v"
              refine v_lenL (xs := .str w :: rest) rfl (fun _ z => nomatch z) ?_
              walk_at "v"
              match rest, hi, q with
              | [], _, q => walk_at "v"; refine v_F ?_; exact .inl q
              | [y], hi, q =>
                obtain ⟨i, rfl⟩ := isI_int (hi y List.mem_cons_self)
                refine v_T ?_
                walk_at "v"
                refine v_ite (fun h => ?_) (fun h => ?_)
                · have q : Q (.bl (decide (1 ≤ i) && decide (i < b))) cs := q
                  rw [h, Bool.true_and] at q
                  walk_at "v"
                  exact .inl q
                · have q : Q (.bl (decide (1 ≤ i) && decide (i < b))) cs := q
                  rw [h, Bool.false_and] at q
                  exact .inl q
              | y :: z :: ys, _, q =>
                rw [decide_eq_false (by simp; omega)]
                refine v_F ?_
                rw [show oneN 1 b (y :: z :: ys) = false by cases y <;> rfl] at q
                exact .inl q
            | false =>
              rw [ho, if_neg Bool.false_ne_true] at q
              walk_at "v"
              refine v_eqS2 lw (by first | rfl | decide +kernel) ?_
              walk_at "v"
              cases hcp : (w == ("copy" : Str)) with
              | true =>
                rw [hcp, if_pos rfl] at q
                walk_at "v"
                refine v_lenL (xs := .str w :: rest) rfl (fun _ z => nomatch z) ?_
                walk_at "v"
                match rest, hi, q with
                | [], _, q => refine v_F ?_; exact .inl q
                | [y], hi, q =>
                  obtain ⟨i, rfl⟩ := isI_int (hi y List.mem_cons_self)
                  refine v_T ?_
                  walk_at "v"
                  refine v_ite (fun h => ?_) (fun h => ?_)
                  · have q : Q (.bl (decide (0 ≤ i) && decide (i < r))) cs := q
                    rw [h, Bool.true_and] at q
                    walk_at "v"
                    exact .inl q
                  · have q : Q (.bl (decide (0 ≤ i) && decide (i < r))) cs := q
                    rw [h, Bool.false_and] at q
                    exact .inl q
                | y :: z :: ys, _, q =>
                  rw [decide_eq_false (by simp; omega)]
                  refine v_F ?_
                  rw [show oneN 0 r (y :: z :: ys) = false by cases y <;> rfl] at q
                  exact .inl q
              | false =>
                rw [hcp, if_neg Bool.false_ne_true] at q
                walk_at "v"
                refine v_eqS2 lw (by first | rfl | decide +kernel) ?_
                walk_at "v"
                cases hrd : (w == ("read" : Str)) with
                | false =>
                  rw [hrd, Bool.false_and] at q
                  refine v_F ?_
                  exact .inl q
                | true =>
                  rw [hrd, Bool.true_and] at q
                  refine v_T ?_
                  walk_at "v"
                  refine v_lenL (xs := .str w :: rest) rfl (fun _ z => nomatch z) ?_
                  walk_at "v"
                  match rest, hi, q with
                  | [], _, q => refine v_F ?_; exact .inl q
                  | [y], _, q => refine v_F ?_; cases y <;> exact .inl q
                  | [y, z], hi, q =>
                    obtain ⟨i, rfl⟩ := isI_int (hi y List.mem_cons_self)
                    obtain ⟨j, rfl⟩ := isI_int (hi z (List.mem_cons_of_mem _ List.mem_cons_self))
                    refine v_T ?_
                    walk_at "v"
                    have q : Q (.bl ((decide (0 ≤ i) && decide (i < r)) && (decide (1 ≤ j) && decide (j < b)))) cs := q
                    refine v_ite (fun h => ?_) (fun h => ?_)
                    · rw [h, Bool.true_and] at q
                      walk_at "v"
                      refine v_ite (fun h => ?_) (fun h => ?_)
                      · rw [h, Bool.true_and] at q
                        walk_at "v"
                        refine v_ite (fun h => ?_) (fun h => ?_)
                        · rw [h, Bool.true_and] at q
                          walk_at "v"
                          exact .inl q
                        · rw [h, Bool.false_and] at q
                          exact .inl q
                      · rw [h, Bool.false_and] at q
                        walk_at "v"
                        exact .inl q
                    · rw [h, Bool.false_and, Bool.false_and] at q
                      walk_at "v"
                      exact .inl q
                  | y :: z :: u :: ys, _, q =>
                    rw [decide_eq_false (by simp; omega)]
                    refine v_F ?_
                    have e : twoN r b (y :: z :: u :: ys) = false := by cases y <;> cases z <;> rfl
                    rw [e] at q
                    exact .inl q
      · obtain ⟨t, ht⟩ := hx cs
        have hns : ∀ w, x ≠ .str w := fun w z => hs ⟨w, z⟩
        have e : isDd b r (.tup (x :: rest)) = false := by cases x <;> first | rfl | exact absurd rfl (hns _)
        rw [e] at q
        have f : isTy t "str" = false := by
          cases x <;> first | (cases ht; rfl) | exact absurd rfl (hns _) | (have := hp _ List.mem_cons_self; cases this)
        walk_at "v"
        refine v_isiF rfl ht f ?_
        walk_at "v"
        exact .inl q
  · have hnt : ∀ xs, d ≠ .tup xs := fun xs z => ht ⟨xs, z⟩
    obtain ⟨t, ht⟩ := plT_ty (okV_plT hv) cs
    have e : isDd b r d = false := by cases d <;> first | rfl | exact absurd rfl (hnt _)
    rw [e] at q
    have f : isTy t "tuple" = false := by
      have hp := okV_plT hv
      cases d <;> first | (cases ht; rfl) | exact absurd rfl (hnt _) | cases hp
    unfold t_is_deed
    walk_at "v"
    refine v_isiF rfl ht f ?_
    walk_at "v"
    exact .inl q
theorem len_Sheet_rows : ∀ ds cs Q, sp_Sheet_rows K ds cs Q → ds.length = 1 := by rintro ds cs Q ⟨_, _, _, _, rfl, _⟩; rfl
theorem vc_Sheet_rows : ∀ ds cs Q, Lo ds cs → LoC cs → sp_Sheet_rows K ds cs Q → t_Sheet_rows K (Po.fn cs Q) ⟨startD N_Sheet_rows ds, cs⟩ := by
  rintro ds cs Q hd hc ⟨d, b, r, cols, rfl, ⟨hc1, hi, hl, hf0⟩, q⟩
  unfold t_Sheet_rows
  walk_at "v"
  exact .inl q
theorem len_is_slip : ∀ ds cs Q, sp_is_slip K ds cs Q → ds.length = 3 := by rintro ds cs Q ⟨_, _, _, _, _, _, rfl, _⟩; rfl
theorem okV2_plT {d : D} (h : okV2 d = true) : plT d = true := by
  cases d <;> first | rfl | exact h
theorem st_is_slip {a b c : D} : startD N_is_slip [a, b, c] = [some a, some b, some c] := rfl
theorem okV2_tup {xs : List D} (h : okV2 (.tup xs) = true) : xs.length ≤ 1000 ∧ ∀ x ∈ xs, okV x = true := by
  have h' : (decide (xs.length ≤ 1000) && xs.all okV) = true := h
  rwa [Bool.and_eq_true, decide_eq_true_eq, List.all_eq_true] at h'
theorem vc_is_slip : ∀ ds cs Q, Lo ds cs → LoC cs → sp_is_slip K ds cs Q → t_is_slip K (Po.fn cs Q) ⟨startD N_is_slip ds, cs⟩ := by
  rintro ds cs Q hd hc ⟨v, d, l, b, r, cols, rfl, hv, hs, g, q⟩
  clear hd
  obtain ⟨_, hi2, _⟩ := id hs
  have hz := g.n
  rw [st_is_slip]
  by_cases ht : ∃ xs, v = .tup xs
  · obtain ⟨xs, rfl⟩ := ht
    obtain ⟨hl, hp⟩ := okV2_tup hv
    unfold t_is_slip
    walk_at "w"
    refine v_lenL (xs := xs) rfl (fun _ z => nomatch z) ?_
    walk_at "w"
    by_cases h2 : xs.length = 2
    · obtain ⟨x, y, rfl⟩ : ∃ x y, xs = [x, y] := by
        match xs, h2 with
        | [x, y], _ => exact ⟨x, y, rfl⟩
      refine v_F ?_
      walk_at "w"
      have hx := hp x List.mem_cons_self
      obtain ⟨t, ht⟩ := plT_ty (okV_plT hx) cs
      refine ⟨x, rfl, ⟨t, ht⟩, ?_⟩
      refine ⟨isI x, rfl, ?_⟩
      by_cases hI : isI x = true
      · obtain ⟨i, rfl⟩ := isI_int hI
        refine v_F ?_
        walk_at "w"
        have q : Q (.bl ((decide (l ≤ i) && decide (i < (cols.length : Int))) && isDd b r y)) cs := q
        refine v_ite (fun h => ?_) (fun h => ?_)
        · rw [h, Bool.true_and] at q
          walk_at "w"
          refine ⟨⟨_, _, hi2⟩, d, b, r, cols, rfl, hs, ⟨_, rfl, by omega, by omega⟩, ?_⟩
          walk_at "w"
          refine v_ite (fun h => ?_) (fun h => ?_)
          · rw [h, Bool.true_and] at q
            walk_at "w"
            refine ⟨d, b, r, cols, rfl, hs, ?_⟩
            walk_at "w"
            refine ⟨d, b, r, cols, rfl, hs, ?_⟩
            walk_at "w"
            exact ⟨y, b, r, rfl, hp y (List.mem_cons_of_mem _ List.mem_cons_self), .inl q⟩
          · rw [h, Bool.false_and] at q
            walk_at "w"
            exact .inl q
        · rw [h, Bool.false_and, Bool.false_and] at q
          walk_at "w"
          exact .inl q
      · rw [Bool.not_eq_true] at hI
        rw [hI]
        have e : isSl b r cols.length l (.tup [x, y]) = false := by cases x <;> first | rfl | cases hI
        rw [e] at q
        walk_at "w"
        exact .inl q
    · have e : isSl b r cols.length l (.tup xs) = false := by
        match xs, h2 with
        | [], _ => rfl
        | [x], _ => cases x <;> rfl
        | [x, y], h => exact absurd rfl h
        | x :: y :: z :: u, _ => cases x <;> rfl
      rw [e] at q
      rw [decide_eq_false (by omega)]
      walk_at "w"
      exact .inl q
  · have hnt : ∀ xs, v ≠ .tup xs := fun xs z => ht ⟨xs, z⟩
    obtain ⟨t, ht⟩ := plT_ty (okV2_plT hv) cs
    have e : isSl b r cols.length l v = false := by cases v <;> first | rfl | exact absurd rfl (hnt _)
    rw [e] at q
    have f : isTy t "tuple" = false := by
      have hp := okV2_plT hv
      cases v <;> first | (cases ht; rfl) | exact absurd rfl (hnt _) | cases hp
    unfold t_is_slip
    walk_at "v"
    refine v_isiF rfl ht f ?_
    walk_at "v"
    exact .inl q
theorem len_Adding_free : ∀ ds cs Q, sp_Adding_free K ds cs Q → ds.length = 1 := by rintro ds cs Q ⟨_, _, _, _, _, rfl, _⟩; rfl
theorem vc_Adding_free : ∀ ds cs Q, Lo ds cs → LoC cs → sp_Adding_free K ds cs Q → t_Adding_free K (Po.fn cs Q) ⟨startD N_Adding_free ds, cs⟩ := by
  rintro ds cs Q hd hc ⟨n, b, cols, i, ⟨ws, c, w⟩, rfl, hn, q⟩
  unfold t_Adding_free
  unfold adC at hn
  cases w with
  | none =>
    dsimp only [wD] at hn
    walk_at "v"
    exact .inl q
  | some w =>
    dsimp only [wD] at hn
    walk_at "v"
    rw [if_neg (fun z => nomatch z)] at q
    exact .inl q
theorem len_add_with : ∀ ds cs Q QX, sp_add_with K ds cs Q QX → ds.length = 2 := by rintro ds cs Q QX ⟨_, _, _, _, _, _, _, rfl, _⟩; rfl
theorem slF_nil : ∀ {xs : List Op} {a : Nat}, slFo a xs = [] → ∀ i, i < xs.length → xs[i]? = some .right
  | [], _, _, i, hi => absurd hi (by simp)
  | x :: xs, a, h, i, hi => by
    rw [slFo] at h
    by_cases hx : x = .right
    · rw [if_pos hx] at h
      cases i with
      | zero => simp [hx]
      | succ i => simpa using slF_nil h i (by simpa using hi)
    · rw [if_neg hx] at h
      cases h
theorem isI_all (ns : List Int) : (ns.map D.int).all isI = true := by
  rw [List.all_map, List.all_eq_true]
  intro x _
  rfl
theorem plW_opW : ∀ o : Op, plW (opW o) = (match o with | .forget => true | .again => true | .swap => true | .out => true | .twice => true | _ => false) := by
  intro o
  cases o <;> first | rfl | decide +kernel
theorem isDd_O {b r : Int} {o : Op} (h : okO b r o) (hr : o ≠ .right) : isDd b r (encO o) = true := by
  rw [encO_eq]
  show ((((opN o).map D.int).all isI) && (if plW (opW o) = true then ((opN o).map D.int).isEmpty else if (opW o == "off") = true then oneN 1 b ((opN o).map D.int) else if (opW o == "copy") = true then oneN 0 r ((opN o).map D.int) else (opW o == "read") && twoN r b ((opN o).map D.int))) = true
  rw [isI_all, Bool.true_and, plW_opW]
  cases o with
  | right => exact absurd rfl hr
  | off d =>
    obtain ⟨h1, h2⟩ := h
    show (if (("off" : Str) == "off") = true then oneN 1 b [.int d] else if (("off" : Str) == "copy") = true then oneN 0 r [.int d] else (("off" : Str) == "read") && twoN r b [.int d]) = true
    rw [if_pos (by decide +kernel)]
    show (decide (1 ≤ d) && decide (d < b)) = true
    rw [decide_eq_true h1, decide_eq_true h2]
    rfl
  | read j d =>
    obtain ⟨h0, h1, h2⟩ := h
    show (if (("read" : Str) == "off") = true then oneN 1 b [.int (j : Int), .int d] else if (("read" : Str) == "copy") = true then oneN 0 r [.int (j : Int), .int d] else (("read" : Str) == "read") && twoN r b [.int (j : Int), .int d]) = true
    rw [if_neg (by decide +kernel), if_neg (by decide +kernel), show (("read" : Str) == "read") = true by decide +kernel, Bool.true_and]
    show ((decide (0 ≤ (j : Int)) && decide ((j : Int) < r)) && (decide (1 ≤ d) && decide (d < b))) = true
    rw [decide_eq_true (by omega), decide_eq_true h0, decide_eq_true h1, decide_eq_true h2]
    rfl
  | copy j =>
    have h0 : (j : Int) < r := h
    show (if (("copy" : Str) == "off") = true then oneN 1 b [.int (j : Int)] else if (("copy" : Str) == "copy") = true then oneN 0 r [.int (j : Int)] else (("copy" : Str) == "read") && twoN r b [.int (j : Int)]) = true
    rw [if_neg (by decide +kernel), if_pos (by decide +kernel)]
    show (decide (0 ≤ (j : Int)) && decide ((j : Int) < r)) = true
    rw [decide_eq_true (by omega), decide_eq_true h0]
    rfl
  | _ => rfl
theorem isSl_S {b r l : Int} {n i : Nat} {o : Op} (h : okO b r o) (hr : o ≠ .right) (hl : l ≤ i) (hi : i < n) : isSl b r n l (encSo (i, o)) = true := by
  show ((decide (l ≤ ((i : Nat) : Int)) && decide (((i : Nat) : Int) < (n : Int))) && isDd b r (encO o)) = true
  rw [isDd_O h hr, decide_eq_true hl, decide_eq_true (by omega)]
  rfl
theorem opAt_drop {ops : List Op} {a m : Nat} {o : Op} (h : (ops.drop a)[m]? = some o) : opAt ops (a + m) = o := by
  rw [List.getElem?_drop] at h
  unfold opAt
  rw [List.getD_eq_getElem?_getD, h]
  rfl
theorem v_itLK {d : D} {xs : List D} {e : En} {P : List D → (List Cel → Prop) → En → Prop} (h : lk e.cs d = some xs) (p : ∀ G : List Cel → Prop, (∀ cs', lk cs' d = some xs → G cs') → P xs G e) : itL d e P := by
  cases d with
  | lst ys => cases h; exact .inl ⟨_, rfl, p _ fun _ _ => trivial⟩
  | fro ys => cases h; exact .inl ⟨_, rfl, p _ fun _ _ => trivial⟩
  | cell n => exact .inr ⟨n, xs, rfl, lk_cell_iff h, p _ fun _ h => lk_cell_iff h⟩
  | _ => cases h
theorem cutO_lt {n l k : Nat} {ops : List Op} (hk : k < n) (h : k < l) : opAt (cutO n ops l) k = opAt ops k := by
  unfold opAt cutO
  rw [List.getD_eq_getElem?_getD, List.getElem?_map, List.getElem?_range hk]
  show (if k < l then opAt ops k else Op.right) = _
  rw [if_pos h]
  rfl
theorem stF_congr {b : Int} {cols : List (List Int)} {ops ops' : List Op} : ∀ {i : Nat}, (∀ k, k < i → opAt ops k = opAt ops' k) → stFo b cols ops i = stFo b cols ops' i
  | 0, _ => rfl
  | i + 1, h => by
    rw [stFo, stFo, stF_congr fun k hk => h k (by omega), h i (by omega)]
theorem cutO_st {i : Nat} (h : i ≤ l) (hn : i ≤ cols.length) : stFo b cols (cutO cols.length ops l) i = stFo b cols ops i := stF_congr fun k hk => cutO_lt (by omega) (by omega)
theorem cutO_ge {n l k : Nat} {ops : List Op} (h : l ≤ k) : opAt (cutO n ops l) k = .right := by
  unfold opAt cutO
  rw [List.getD_eq_getElem?_getD, List.getElem?_map]
  rcases Nat.lt_or_ge k n with z | z
  · rw [List.getElem?_range z]
    show (if k < l then opAt ops k else Op.right) = _
    rw [if_neg (by omega)]
  · rw [List.getElem?_eq_none (by rw [List.length_range]; exact z)]
    rfl
theorem cutO_len (n : Nat) (ops : List Op) (l : Nat) : (cutO n ops l).length = n := by unfold cutO; rw [List.length_map, List.length_range]
theorem cutO_plan (P : Plan b r cols ops) : Plan b r cols (cutO cols.length ops l) := by
  refine ⟨cutO_len .., fun i hi => ?_, fun i hi => ?_, fun i hi h => ?_⟩
  · rcases Nat.lt_or_ge i l with z | z
    · rw [cutO_lt hi z]
      exact P.ok i hi
    · rw [cutO_ge z]
      trivial
  · rcases Nat.lt_or_ge i l with z | z
    · rw [cutO_lt hi z, cutO_st (by omega) (by omega)]
      exact P.st i hi
    · rw [cutO_ge z]
      trivial
  · rcases Nat.lt_or_ge (i + 1) l with z | z
    · rw [cutO_lt hi z]
      rw [cutO_lt (by omega) (by omega)] at h
      exact P.sw i hi h
    · exact cutO_ge z
theorem enumD_len : ∀ (xs : List D) (k : Nat), (enumD k xs).length = xs.length
  | [], _ => rfl
  | x :: xs, k => congrArg (· + 1) (enumD_len xs (k + 1))
theorem enumD_get : ∀ {xs : List D} {k i : Nat} {d : D}, (enumD k xs)[i]? = some d → ∃ x, xs[i]? = some x ∧ d = .tup [.int ((k + i : Nat) : Int), x]
  | [], _, _, _, h => by simp [enumD] at h
  | x :: xs, k, 0, d, h => by
    simp [enumD] at h
    exact ⟨x, rfl, by rw [← h]; rfl⟩
  | x :: xs, k, i + 1, d, h => by
    simp [enumD] at h
    obtain ⟨y, h1, h2⟩ := enumD_get h
    exact ⟨y, by simpa using h1, by rw [h2]; congr 3; omega⟩
theorem noswap_waits {k : Nat} (h : opAt ops k ≠ .swap) : (stFo b cols ops (k + 1)).2.2 = none := by
  cases hw : (stFo b cols ops (k + 1)).2.2 with
  | none => rfl
  | some w =>
    have := (stF_wait (b := b) (cols := cols) (ops := ops) (k := k + 1) (by rw [hw]; exact fun z => nomatch z)).2
    exact absurd this h
theorem lowN_succ {ops : List Op} {i j : Nat} {o : Op} (h : (slFo 0 ops)[i]? = some (j, o)) : lowN ops (i + 1) = j + 1 + (if o = .swap then 1 else 0) := by
  show ((slFo 0 ops).getD i (0, .right)).1 + 1 + (if ((slFo 0 ops).getD i (0, .right)).2 = .swap then 1 else 0) = _
  rw [List.getD_eq_getElem?_getD, h]
  rfl
theorem opN_len (o : Op) : (opN o).length ≤ 2 := by cases o <;> simp [opN]
theorem okV_O (o : Op) : okV (encO o) = true := by
  rw [encO_eq]
  show (decide ((D.str (opW o) :: (opN o).map .int).length ≤ 1000) && ((D.str (opW o) :: (opN o).map .int).all plT && (PyData.str (opW o)).canLay0)) = true
  have h := opN_len o
  rw [opW_lay, decide_eq_true (by simp; omega), Bool.true_and, Bool.and_true, List.all_eq_true]
  intro x hx
  rcases List.mem_cons.mp hx with rfl | hx
  · rfl
  · obtain ⟨i, _, rfl⟩ := List.mem_map.mp hx
    rfl
theorem okV2_S (s : Nat × Op) : okV2 (encSo s) = true := by
  show (true && (true && (okV (encO s.2) && true))) = true
  rw [okV_O]
  rfl
theorem st_add_with {a b : D} : startD N_add_with [a, b] = [some a, some b, none, none, none] := rfl
theorem slF_cons : ∀ {xs : List Op} {a j : Nat} {o : Op} {t : List (Nat × Op)}, slFo a xs = (j, o) :: t → ∃ m, j = a + m ∧ xs[m]? = some o ∧ o ≠ .right ∧ (∀ i, i < m → xs[i]? = some .right) ∧ t = slFo (j + 1) (xs.drop (m + 1))
  | [], _, _, _, _, h => nomatch h
  | x :: xs, a, j, o, t, h => by
    rw [slFo] at h
    by_cases hx : x = .right
    · rw [if_pos hx] at h
      obtain ⟨m, h1, h2, h3, h4, h5⟩ := slF_cons h
      refine ⟨m + 1, by omega, by simpa using h2, h3, fun i hi => ?_, by simpa using h5⟩
      cases i with
      | zero => simp [hx]
      | succ i => simpa using h4 i (by omega)
    · rw [if_neg hx] at h
      simp only [List.cons_append, List.nil_append, List.cons.injEq, Prod.mk.injEq] at h
      obtain ⟨⟨rfl, rfl⟩, rfl⟩ := h
      exact ⟨0, rfl, rfl, hx, fun i hi => absurd hi (by omega), rfl⟩
theorem swap_waits (P : Plan b r cols ops) {k : Nat} (hk : k < cols.length) (h : opAt ops k = .swap) : (stFo b cols ops (k + 1)).2.2 ≠ none := by
  have hw : (stFo b cols ops k).2.2 = none := by
    cases hw : (stFo b cols ops k).2.2 with
    | none => rfl
    | some w =>
      have := P.wait hk (by rw [hw]; exact fun z => nomatch z)
      rw [h] at this
      cases this
  rw [stFo]
  unfold advo
  rw [hw, if_pos h]
  exact fun z => nomatch z
theorem vc_add_with : ∀ ds cs Q QX, Lo ds cs → LoC cs → sp_add_with K ds cs Q QX → t_add_with K (FinX cs QX) (Po.fn cs Q) ⟨startD N_add_with ds, cs⟩ := by
  rintro ds cs Q QX hd hc ⟨d, d2, b, r, cols, ops, items, rfl, hk, hs, g, P, q⟩
  have hz := g.n
  have hlen := P.len
  -- how many are good, and what stands behind
  obtain ⟨m, hm, hgood, q⟩ : ∃ m, m ≤ (slFo 0 ops).length ∧ (∀ i, i < m → items[i]? = ((slFo 0 ops)[i]?).map encSo) ∧ ((items.length = m ∧ m = (slFo 0 ops).length ∧ Q (wrD K b (stFo b cols ops cols.length).1 (stFo b cols ops cols.length).2.1) cs) ∨
      ∃ v, items[m]? = some v ∧ okV2 v = true ∧ BadL b r cols ops (lowN ops m) v ∧ QX ⟨"InvalidSlips", some ((m : Nat) : Int)⟩ cs) := by
    rcases q with ⟨rfl, q⟩ | ⟨x, ⟨hx, v, rest, rfl, h1, h2, _⟩, q⟩
    · exact ⟨(slFo 0 ops).length, Nat.le_refl _, fun i _ => List.getElem?_map, .inl ⟨List.length_map _, rfl, q⟩⟩
    · have hl : (((slFo 0 ops).take x).map encSo).length = x := by rw [List.length_map, List.length_take]; omega
      refine ⟨x, hx, fun i hi => ?_, .inr ⟨v, ?_, h1, h2, q⟩⟩
      · rw [List.getElem?_append_left (by rw [hl]; exact hi), List.getElem?_map, List.getElem?_take_of_lt hi]
      · rw [List.getElem?_append_right (by rw [hl]; exact Nat.le_refl _), hl, Nat.sub_self]
        rfl
  rw [st_add_with]
  unfold t_add_with
  walk_at "v"
  refine ⟨_, d, b, r, cols, rfl, app_get, isSh_app hs, rfl, .inl ?_⟩
  rw [show ({ sl := [some d, some d2, none, none, none], cs := cs } : En).cs = cs from rfl, app_set]
  walk_at "v"
  refine v_itLK (lk_app hk) fun G hG => ?_
  dsimp only [List.set]
  refine ⟨fun i e => ∃ (a : Nat) (x3 x4 : Option D), a ≤ cols.length ∧ i ≤ m ∧ (slFo 0 ops).drop i = slFo a (ops.drop a) ∧ (if (stFo b cols ops a).2.2 = none then a else a + 1 : Nat) = lowN ops i ∧ e = ⟨[some d, some d2, some (.cell cs.length), x3, x4], cs ++ [adC K b cols a (stFo b cols ops a)]⟩, ⟨0, none, none, Nat.zero_le _, Nat.zero_le _, rfl, rfl, rfl⟩, ?_, ?_⟩
  · rintro i y e2 hy ⟨a, x3, x4, ha, him, hdrop, hlow, rfl⟩
    obtain ⟨x, hx, rfl⟩ := enumD_get hy
    have hsA : isSh K (cs ++ [adC K b cols a (stFo b cols ops a)]) d b r cols := isSh_app hs
    have hn2 : (cs ++ [adC K b cols a (stFo b cols ops a)])[cs.length]? = some (.ins (He.ga K "Adding") adN [.int b, .lst (cols.map encC), .int (a : Nat), .lst ((stFo b cols ops a).1.map .int), .int (stFo b cols ops a).2.1, wD (stFo b cols ops a).2.2]) := app_get
    refine ⟨hG _ (lk_app hk), _, rfl, ?_⟩
    have trim : ∀ (c : Cel), (cs ++ [c]).take cs.length = cs := fun c => List.take_left
    rcases Nat.lt_or_ge i m with hi | hi
    · -- a good one
      obtain ⟨⟨j, o⟩, hjo⟩ : ∃ s, (slFo 0 ops)[i]? = some s := ⟨_, List.getElem?_eq_getElem (show i < (slFo 0 ops).length by omega)⟩
      have hxe : x = encSo (j, o) := by
        have := hgood i hi
        rw [hx, hjo] at this
        exact Option.some.inj this
      subst hxe
      have hil := (List.getElem?_eq_some_iff.mp hjo).1
      have hdc : (slFo 0 ops).drop i = (j, o) :: (slFo 0 ops).drop (i + 1) := by
        rw [List.drop_eq_getElem_cons hil]
        rw [List.getElem?_eq_getElem hil] at hjo
        rw [Option.some.inj hjo]
      rw [hdc] at hdrop
      obtain ⟨mm, h1, h2, h3, h4, h5⟩ := slF_cons hdrop.symm
      have hml := (List.getElem?_eq_some_iff.mp h2).1
      rw [List.length_drop] at hml
      have hj : j < cols.length := by omega
      have hoj : opAt ops j = o := by rw [h1]; exact opAt_drop h2
      have hright : ∀ k, a ≤ k → k < j → opAt ops k = .right := fun k k1 k2 => by
        have := opAt_drop (h4 (k - a) (by omega))
        rwa [show a + (k - a) = k by omega] at this
      have hfree : (if (stFo b cols ops a).2.2 = none then a else a + 1 : Nat) ≤ j := by
        by_cases hw : (stFo b cols ops a).2.2 = none
        · rw [if_pos hw]
          omega
        · rw [if_neg hw]
          have := P.wait (k := a) (by omega) hw
          by_cases he : a = j
          · subst he
            exact absurd (hoj.symm.trans this) h3
          · omega
      have hok : okO b r o := by rw [← hoj]; exact P.ok j hj
      walk_at "w"
      refine ⟨cs.length, b, cols, a, stFo b cols ops a, rfl, app_get, ?_⟩
      walk_at "w"
      refine ⟨_, d, _, b, r, cols, rfl, okV2_S _, hsA, g, ?_⟩
      rw [isSl_S hok h3 (by omega) hj]
      rw [show encSo (j, o) = .tup [.int ((j : Nat) : Int), encO o] from rfl]
      walk_at "w"
      refine ⟨cs.length, b, r, cols, ops, a, j, rfl, app_get, g, P, by omega, by omega, hright, ?_⟩
      rw [app_set]
      have hn3 : (cs ++ [adC K b cols j (stFo b cols ops j)])[cs.length]? = some (.ins (He.ga K "Adding") adN [.int b, .lst (cols.map encC), .int (j : Nat), .lst ((stFo b cols ops j).1.map .int), .int (stFo b cols ops j).2.1, wD (stFo b cols ops j).2.2]) := app_get
      have hl := stF_len' b cols ops j
      walk_at "w"
      refine ⟨cs.length, b, r, cols, j, stFo b cols ops j, o, by rw [encP_eq h3], app_get, g, hj, hok, fun hw => hoj ▸ P.wait hj hw, by omega, fun _ => ?_, fun z => absurd (by rw [← hoj]; exact P.st j hj) z⟩
      rw [app_set]
      walk_at "w"
      refine ⟨j + 1, some (.int ((0 + i : Nat) : Int)), some (encSo (j, o)), by omega, hi, ?_, ?_, ?_⟩
      · rw [h5, List.drop_drop]
        congr 2
        omega
      · rw [lowN_succ hjo]
        by_cases hsw : o = .swap
        · rw [if_pos hsw, if_neg (swap_waits P hj (hoj.trans hsw))]
        · rw [if_neg hsw, if_pos (noswap_waits (by rw [hoj]; exact hsw))]
      · rw [stFo, hoj]
        rfl
    · -- the bad one
      obtain rfl : i = m := by omega
      rcases q with ⟨h1, _⟩ | ⟨v, hv, ov, hb, q⟩
      · have := (List.getElem?_eq_some_iff.mp hx).1
        omega
      rw [hx] at hv
      cases hv
      have qx : FinX cs QX ⟨"InvalidSlips", some ((i : Nat) : Int)⟩ (cs ++ [adC K b cols a (stFo b cols ops a)]) := .inr ⟨by rw [trim]; exact fun c hc => .inl hc, by rw [trim]; exact q⟩
      walk_at "w"
      refine ⟨cs.length, b, cols, a, stFo b cols ops a, rfl, app_get, ?_⟩
      rw [hlow]
      walk_at "w"
      refine ⟨_, d, _, b, r, cols, rfl, ov, hsA, g, ?_⟩
      by_cases hsl : isSl b r cols.length (lowN ops i : Nat) x = false
      · rw [hsl]
        walk_at "w"
        refine ⟨_, rfl, ?_⟩
        rw [Nat.zero_add]
        exact qx
      rcases hb with hb | ⟨j, o, rfl, hlj, hj, hok, hr, hns⟩
      · exact absurd hb hsl
      rw [Bool.not_eq_false] at hsl
      rw [hsl]
      rw [show encSo (j, o) = .tup [.int ((j : Nat) : Int), encO o] from rfl]
      walk_at "w"
      have hal : a ≤ lowN ops i := by rw [← hlow]; split <;> omega
      have e0 : stFo b cols (cutO cols.length ops (lowN ops i)) a = stFo b cols ops a := cutO_st hal ha
      have PC := cutO_plan (l := lowN ops i) P
      have hrt : ∀ k, a ≤ k → k < j → opAt (cutO cols.length ops (lowN ops i)) k = .right := fun k k1 k2 => by
        rcases Nat.lt_or_ge k (lowN ops i) with z | z
        · have hw : (stFo b cols ops a).2.2 ≠ none := fun hw => by
            rw [if_pos hw] at hlow
            omega
          rw [if_neg hw] at hlow
          obtain rfl : k = a := by omega
          rw [cutO_lt (by omega) z]
          exact P.wait (by omega) hw
        · exact cutO_ge z
      refine ⟨cs.length, b, r, cols, cutO cols.length ops (lowN ops i), a, j, rfl, ?_, g, PC, by omega, by omega, hrt, ?_⟩
      · rw [e0]
        exact app_get
      rw [app_set]
      have hw : (stFo b cols (cutO cols.length ops (lowN ops i)) j).2.2 = none := by
        cases hw : (stFo b cols (cutO cols.length ops (lowN ops i)) j).2.2 with
        | none => rfl
        | some w =>
          obtain ⟨h1, h2⟩ := stF_wait (b := b) (cols := cols) (ops := cutO cols.length ops (lowN ops i)) (k := j) (by rw [hw]; exact fun z => nomatch z)
          rcases Nat.lt_or_ge (j - 1) (lowN ops i) with z | z
          · have hjl : j = lowN ops i := by omega
            by_cases hwa : (stFo b cols ops a).2.2 = none
            · rw [if_pos hwa] at hlow
              have : j = a := by omega
              subst this
              rw [e0, hwa] at hw
              cases hw
            · rw [if_neg hwa] at hlow
              have e1 : j - 1 = a := by omega
              rw [e1, cutO_lt (by omega) (by omega), P.wait (by omega) hwa] at h2
              cases h2
          · rw [cutO_ge z] at h2
            cases h2
      have hl0 := stF_len' b cols (cutO cols.length ops (lowN ops i)) j
      generalize stFo b cols (cutO cols.length ops (lowN ops i)) j = st at hw hns hl0 ⊢
      have hn3 : (cs ++ [adC K b cols j st])[cs.length]? = some (.ins (He.ga K "Adding") adN [.int b, .lst (cols.map encC), .int (j : Nat), .lst (st.1.map .int), .int st.2.1, wD st.2.2]) := app_get
      walk_at "w"
      refine ⟨cs.length, b, r, cols, j, st, o, by rw [encP_eq hr], app_get, g, hj, hok, fun z => absurd hw z, by omega, fun z => absurd z hns, fun _ => ?_⟩
      walk_at "w"
      refine ⟨_, rfl, ?_⟩
      rw [Nat.zero_add]
      exact .inr ⟨by rw [trim]; exact fun c hc => .inl hc, by rw [trim]; exact q⟩
  · rintro e2 ⟨a, x3, x4, ha, him, hdrop, hlow, rfl⟩
    rw [enumD_len] at him hdrop
    rcases q with ⟨h1, h2, q⟩ | ⟨v, hv, _⟩
    rotate_left
    · have := (List.getElem?_eq_some_iff.mp hv).1
      omega
    rw [h1, h2, List.drop_length] at hdrop
    have hright : ∀ k, a ≤ k → k < cols.length → opAt ops k = .right := fun k k1 k2 => by
      have := opAt_drop (slF_nil hdrop.symm (k - a) (by rw [List.length_drop]; omega))
      rwa [show a + (k - a) = k by omega] at this
    have hn2 : (cs ++ [adC K b cols a (stFo b cols ops a)])[cs.length]? = some (.ins (He.ga K "Adding") adN [.int b, .lst (cols.map encC), .int (a : Nat), .lst ((stFo b cols ops a).1.map .int), .int (stFo b cols ops a).2.1, wD (stFo b cols ops a).2.2]) := app_get
    refine ⟨hG _ (lk_app hk), ?_⟩
    walk_at "w"
    refine ⟨_, b, r, cols, ops, a, rfl, app_get, g, P, ha, hright, ?_⟩
    exact trim_back (by simp) (lo_wrD ..) q
theorem len_Written_eq : ∀ ds cs Q, sp_Written_eq K ds cs Q → ds.length = 2 := by rintro ds cs Q ⟨_, _, _, rfl, _⟩; rfl
theorem vc_Written_eq : ∀ ds cs Q, Lo ds cs → LoC cs → sp_Written_eq K ds cs Q → t_Written_eq K (Po.fn cs Q) ⟨startD N_Written_eq ds, cs⟩ := by
  rintro ds cs Q hd hc ⟨b, fs, l, rfl, q⟩
  have hi : insD cs (wrD K b fs l) = some (He.ga K "Written", wrN, [.int b, .lst (fs.map .int), .int l]) := rfl
  unfold t_Written_eq
  walk_at "v"
  refine ⟨rfl, ⟨_, _, hi⟩, ?_⟩
  walk_at "v"
  refine v_eqS (n := 2) rfl rfl (.tup (.cons ((Sh.int b).mono (by decide)) (.cons (Sh.ofE encI.lst fs) (.cons ((Sh.int l).mono (by decide)) .nil)))) ?_
  walk_at "v"
  exact .inl q
theorem len_Written_last : ∀ ds cs Q, sp_Written_last K ds cs Q → ds.length = 1 := by rintro ds cs Q ⟨_, _, _, rfl, _⟩; rfl
theorem vc_Written_last : ∀ ds cs Q, Lo ds cs → LoC cs → sp_Written_last K ds cs Q → t_Written_last K (Po.fn cs Q) ⟨startD N_Written_last ds, cs⟩ := by
  rintro ds cs Q hd hc ⟨b, fs, l, rfl, q⟩
  have hi : insD cs (wrD K b fs l) = some (He.ga K "Written", wrN, [.int b, .lst (fs.map .int), .int l]) := rfl
  unfold t_Written_last
  walk_at "v"
  exact .inl q
theorem len_Written_value : ∀ ds cs Q, sp_Written_value K ds cs Q → ds.length = 1 := by rintro ds cs Q ⟨_, _, _, rfl, _⟩; rfl
theorem st_wvalue {a : D} : startD N_Written_value [a] = [some a, none, none] := rfl
theorem vc_Written_value : ∀ ds cs Q, Lo ds cs → LoC cs → sp_Written_value K ds cs Q → t_Written_value K (Po.fn cs Q) ⟨startD N_Written_value ds, cs⟩ := by
  rintro ds cs Q hd hc ⟨b, fs, l, rfl, b2, b12, q⟩
  have hi : insD cs (wrD K b fs l) = some (He.ga K "Written", wrN, [.int b, .lst (fs.map .int), .int l]) := rfl
  rw [st_wvalue]
  unfold t_Written_value
  walk_at "v"
  refine ⟨fun i e => i ≤ fs.length ∧ ∃ x, e = ⟨[some (wrD K b fs l), some (.int (valW b l (fs.drop (fs.length - i)))), x], cs⟩, ⟨Nat.zero_le _, none, by simp [valW]⟩, ?_, ?_⟩
  · rintro i y e2 hy ⟨hi', x, rfl⟩
    rw [← List.map_reverse, List.getElem?_map, Option.map_eq_some_iff] at hy
    obtain ⟨c, hcc, rfl⟩ := hy
    have hlt := (List.getElem?_eq_some_iff.mp hcc).1
    rw [List.length_reverse] at hlt
    refine ⟨trivial, _, rfl, ?_⟩
    walk_at "v"
    refine ⟨hlt, some (.int c), ?_⟩
    rw [List.getElem?_reverse hlt] at hcc
    have e : fs.drop (fs.length - (i + 1)) = c :: fs.drop (fs.length - i) := by
      have h1 : fs.length - (i + 1) < fs.length := by omega
      rw [List.drop_eq_getElem_cons h1, show fs.length - (i + 1) + 1 = fs.length - i by omega]
      rw [show fs.length - 1 - i = fs.length - (i + 1) by omega, List.getElem?_eq_getElem h1] at hcc
      cases hcc
      rfl
    rw [e, valW, Int.add_comm c, Int.mul_comm b]
    rfl
  · rintro e2 ⟨hi', x, rfl⟩
    refine ⟨trivial, ?_⟩
    walk_at "v"
    simp
    exact .inl q
theorem len_Sheet_value : ∀ ds cs Q, sp_Sheet_value K ds cs Q → ds.length = 1 := by rintro ds cs Q ⟨_, _, _, _, rfl, _⟩; rfl
theorem st_Sheet_value {a : D} : startD N_Sheet_value [a] = [some a, none, none] := rfl
theorem vc_Sheet_value : ∀ ds cs Q, Lo ds cs → LoC cs → sp_Sheet_value K ds cs Q → t_Sheet_value K (Po.fn cs Q) ⟨startD N_Sheet_value ds, cs⟩ := by
  rintro ds cs Q hd hc ⟨d, b, r, cols, rfl, ⟨hc1, hi, hl, hf0⟩, g, q⟩
  rw [st_Sheet_value]
  unfold t_Sheet_value
  walk_at "v"
  have g1 := g.b2
  have g2 := g.b12
  refine ⟨fun i e => i ≤ cols.length ∧ ∃ x, e = ⟨[some d, some (.int (val b (cols.drop (cols.length - i)))), x], cs⟩, ⟨Nat.zero_le _, none, by simp [val]⟩, ?_, ?_⟩
  · rintro i y e2 hy ⟨hi', x, rfl⟩
    rw [← List.map_reverse, List.getElem?_map, Option.map_eq_some_iff] at hy
    obtain ⟨c, hcc, rfl⟩ := hy
    have hlt := (List.getElem?_eq_some_iff.mp hcc).1
    rw [List.length_reverse] at hlt
    refine ⟨trivial, _, rfl, ?_⟩
    walk_at "v"
    refine v_sumL (ns := c) rfl ?_
    walk_at "v"
    refine ⟨hlt, some (encC c), ?_⟩
    rw [List.getElem?_reverse hlt] at hcc
    have e : cols.drop (cols.length - (i + 1)) = c :: cols.drop (cols.length - i) := by
      have h1 : cols.length - (i + 1) < cols.length := by omega
      rw [List.drop_eq_getElem_cons h1, show cols.length - (i + 1) + 1 = cols.length - i by omega]
      rw [show cols.length - 1 - i = cols.length - (i + 1) by omega, List.getElem?_eq_getElem h1] at hcc
      cases hcc
      rfl
    rw [e, val, Int.add_comm c.sum, Int.mul_comm b]
    rfl
  · rintro e2 ⟨hi', x, rfl⟩
    refine ⟨trivial, ?_⟩
    walk_at "v"
    simp
    exact .inl q
theorem len_Written_sub : ∀ ds cs Q, sp_Written_sub K ds cs Q → ds.length = 2 := by rintro ds cs Q ⟨_, _, _, _, _, _, rfl, _⟩; rfl
theorem vc_Written_sub : ∀ ds cs Q, Lo ds cs → LoC cs → sp_Written_sub K ds cs Q → t_Written_sub K (Po.fn cs Q) ⟨startD N_Written_sub ds, cs⟩ := by
  rintro ds cs Q hd hc ⟨b, fs, l, d, r, cols, rfl, hs, g, q⟩
  have hi : insD cs (wrD K b fs l) = some (He.ga K "Written", wrN, [.int b, .lst (fs.map .int), .int l]) := rfl
  obtain ⟨_, hi2, _⟩ := id hs
  unfold t_Written_sub
  walk_at "v"
  refine ⟨b, fs, l, rfl, g.b2, g.b12, ?_⟩
  walk_at "v"
  refine ⟨d, b, r, cols, rfl, hs, g, ?_⟩
  walk_at "v"
  exact .inl q
theorem len_number_of_columns : ∀ ds cs Q, sp_number_of_columns K ds cs Q → ds.length = 2 := by rintro ds cs Q ⟨_, _, rfl, _⟩; rfl
theorem st_noc {a b : D} : startD N_number_of_columns [a, b] = [some a, some b, none, none] := rfl
theorem vc_number_of_columns : ∀ ds cs Q, Lo ds cs → LoC cs → sp_number_of_columns K ds cs Q → t_number_of_columns K (Po.fn cs Q) ⟨startD N_number_of_columns ds, cs⟩ := by
  rintro ds cs Q hd hc ⟨b, r, rfl, b2, b12, r1, r4, q⟩
  rw [st_noc]
  unfold t_number_of_columns
  walk_at "v"
  refine ⟨fun i e => ∃ x, e = ⟨[some (.int b), some (.int r), some (.int (b ^ i)), x], cs⟩, ⟨none, by simp⟩, ?_, ?_⟩
  · rintro i d e2 hi ⟨x, rfl⟩
    refine ⟨trivial, _, rfl, ?_⟩
    walk_at "v"
    exact ⟨_, by rw [← Int.pow_succ]; rfl⟩
  · rintro e2 ⟨x, rfl⟩
    refine ⟨trivial, ?_⟩
    rw [intsD_len]
    walk_at "v"
    exact .inl q
theorem len_all_deeds : ∀ ds cs Q, sp_all_deeds K ds cs Q → ds.length = 2 := by rintro ds cs Q ⟨_, _, rfl, _⟩; rfl
theorem readsA_succ (b : Int) (k : Nat) : readsA b (k + 1) = readsA b k ++ reads b (0 + (k : Int)) := by
  unfold readsA
  rw [List.range_succ, List.flatMap_append]
  simp
theorem reads_len (b j : Int) : (reads b j).length = (b - 1).toNat := by simp [reads]
theorem readsA_len (b : Int) : ∀ k : Nat, (readsA b k).length = k * (b - 1).toNat
  | 0 => by simp [readsA]
  | k + 1 => by rw [readsA_succ, List.length_append, readsA_len b k, reads_len, Nat.succ_mul]
theorem copies_map (r : Int) : (List.range r.toNat).map (fun (i : Nat) => encD (.copy, [0 + (i : Int)])) = (copies r).map encD := by
  unfold copies
  rw [List.map_map]
  rfl
theorem mul_44 {b : Int} {k : Nat} (h1 : b ≤ 12) (h2 : k ≤ 4) : k * (b - 1).toNat ≤ 44 := by
  have h3 : (b - 1).toNat ≤ 11 := by omega
  exact Nat.le_trans (Nat.mul_le_mul h2 h3) (by decide)
theorem copies_len (r : Int) : (copies r).length = r.toNat := by simp [copies]
theorem st_all_deeds {a b : D} : startD N_all_deeds [a, b] = [some a, some b, none, none, none] := rfl
theorem offs_map (b : Int) : (List.range (b - 1).toNat).map (fun (i : Nat) => encD (.off, [1 + (i : Int)])) = (offs b).map encD := by
  unfold offs
  rw [List.map_map]
  rfl
theorem offs_len (b : Int) : (offs b).length = (b - 1).toNat := by simp [offs]
theorem vc_all_deeds : ∀ ds cs Q, Lo ds cs → LoC cs → sp_all_deeds K ds cs Q → t_all_deeds K (Po.fn cs Q) ⟨startD N_all_deeds ds, cs⟩ := by
  rintro ds cs Q hd hc ⟨b, r, rfl, b2, b12, r1, r4, q⟩
  have lo := offs_len b
  have lc := copies_len r
  have lr := readsA_len b r.toNat
  have l44 := mul_44 b12 (show r.toNat ≤ 4 by omega)
  rw [← lr] at l44
  rw [st_all_deeds]
  unfold t_all_deeds
  walk_at "v"
  refine v_lcY (List.range (b - 1).toNat) (fun (i : Nat) => .int (1 + (i : Int))) (fun (i : Nat) => encD (.off, [1 + (i : Int)])) rfl (by simp; omega) (fun Q' i x hx q' => ⟨_, rfl, by walk_at "v"; exact q'⟩) ?_
  rw [offs_map]
  walk_at "v"
  refine v_addL ⟨by simp; omega, ?_⟩
  rw [show [D.tup [D.str "forget"], D.tup [D.str "again"]] = [((.forget, []) : Dd), (.again, [])].map encD from rfl, ← List.map_append]
  walk_at "v"
  refine ⟨fun i acc cs' => acc = (readsA b i).map encD ∧ cs' = cs, ⟨rfl, rfl⟩, ?_, ?_⟩
  · rintro i d acc cs' hi ⟨rfl, rfl⟩
    obtain ⟨hi1, rfl⟩ := intsD_get hi
    refine ⟨trivial, _, rfl, ?_⟩
    unfold dYes
    refine iteT ?_
    walk_at "v"
    refine ⟨fun j acc1 cs1 => acc1 = (readsA b i ++ (reads b (0 + (i : Int))).take j).map encD ∧ cs1 = cs', ⟨by simp, rfl⟩, ?_, ?_⟩
    · rintro j d acc1 cs1 hj ⟨rfl, rfl⟩
      obtain ⟨hj1, rfl⟩ := intsD_get hj
      refine ⟨trivial, _, rfl, ?_⟩
      refine iteT ?_
      walk_at "v"
      have h1 := readsA_len b i
      have h2 := mul_44 b12 (show i ≤ 4 by omega)
      refine ⟨Nat.lt_of_le_of_lt (show _ ≤ 1000 by rw [List.length_map, List.length_append, List.length_take, reads_len]; omega) (by decide), ?_, rfl⟩
      have e : (reads b (0 + (i : Int))).take (j + 1) = (reads b (0 + (i : Int))).take j ++ [(.read, [0 + (i : Int), 1 + (j : Int)])] := by
        rw [List.take_add_one]
        congr 1
        unfold reads
        rw [List.getElem?_map, List.getElem?_range hj1]
        rfl
      rw [e, ← List.append_assoc, List.map_append (l₁ := readsA b i ++ (reads b (0 + (i : Int))).take j)]
      rfl
    · rintro acc1 cs1 ⟨rfl, rfl⟩
      rw [intsD_len]
      refine ⟨trivial, ?_, rfl⟩
      rw [readsA_succ, List.take_of_length_le (by rw [reads_len]; exact Nat.le_refl _)]
  · rintro acc cs' ⟨rfl, rfl⟩
    rw [intsD_len]
    refine ⟨trivial, ?_⟩
    walk_at "v"
    refine v_addL ⟨by simp; omega, ?_⟩
    rw [← List.map_append]
    walk_at "v"
    refine v_lcY (List.range r.toNat) (fun (i : Nat) => .int (0 + (i : Int))) (fun (i : Nat) => encD (.copy, [0 + (i : Int)])) rfl (by simp; omega) (fun Q' i x hx q' => ⟨_, rfl, by walk_at "v"; exact q'⟩) ?_
    rw [copies_map]
    walk_at "v"
    refine v_addL ⟨by simp; omega, ?_⟩
    rw [← List.map_append]
    walk_at "v"
    refine v_addL ⟨by simp; omega, ?_⟩
    rw [show [D.tup [D.str "swap"], D.tup [D.str "out"], D.tup [D.str "twice"]] = [((.swap, []) : Dd), (.out, []), (.twice, [])].map encD from rfl, ← List.map_append]
    walk_at "v"
    exact .inl q
theorem len_Kind_init : ∀ ds cs Q, sp_Kind_init K ds cs Q → ds.length = 5 := by rintro ds cs Q ⟨_, _, _, _, _, _, rfl, _⟩; rfl
theorem okV_D (t : Dd) (hl : t.2.length ≤ 100) : okV (encD t) = true := by
  show (decide ((D.str t.1.s :: t.2.map .int).length ≤ 1000) && ((D.str t.1.s :: t.2.map .int).all plT && (PyData.str t.1.s).canLay0)) = true
  rw [Wo.lay, decide_eq_true (by simp; omega), Bool.true_and, Bool.and_true, List.all_eq_true]
  intro x hx
  rcases List.mem_cons.mp hx with rfl | hx
  · rfl
  · obtain ⟨i, _, rfl⟩ := List.mem_map.mp hx
    rfl
theorem plW_Wo : ∀ w : Wo, plW w.s = (match w with | .off => false | .read => false | .copy => false | _ => true) := by
  intro w
  cases w <;> first | rfl | decide +kernel
theorem isDd_eq (b r : Int) (t : Dd) : isDd b r (encD t) = (((t.2.map D.int).all isI) && (if plW t.1.s = true then (t.2.map D.int).isEmpty else if (t.1.s == "off") = true then oneN 1 b (t.2.map D.int) else if (t.1.s == "copy") = true then oneN 0 r (t.2.map D.int) else (t.1.s == "read") && twoN r b (t.2.map D.int))) := rfl
theorem isDd_D {b r : Int} {t : Dd} (h : t ∈ allD b r) : isDd b r (encD t) = true := by
  have hd := isD_of h
  obtain ⟨w, l⟩ := t
  rw [isDd_eq, isI_all, Bool.true_and, plW_Wo]
  cases w <;> simp only [isD] at hd
  case off =>
    obtain ⟨d, rfl, h1, h2⟩ := hd
    show (if (("off" : Str) == "off") = true then oneN 1 b [.int d] else if (("off" : Str) == "copy") = true then oneN 0 r [.int d] else (("off" : Str) == "read") && twoN r b [.int d]) = true
    rw [if_pos (by decide +kernel)]
    show (decide (1 ≤ d) && decide (d < b)) = true
    rw [decide_eq_true h1, decide_eq_true h2]
    rfl
  case read =>
    obtain ⟨j, d, rfl, h0, h00, h1, h2⟩ := hd
    show (if (("read" : Str) == "off") = true then oneN 1 b [.int j, .int d] else if (("read" : Str) == "copy") = true then oneN 0 r [.int j, .int d] else (("read" : Str) == "read") && twoN r b [.int j, .int d]) = true
    rw [if_neg (by decide +kernel), if_neg (by decide +kernel), show (("read" : Str) == "read") = true by decide +kernel, Bool.true_and]
    show ((decide (0 ≤ j) && decide (j < r)) && (decide (1 ≤ d) && decide (d < b))) = true
    rw [decide_eq_true h0, decide_eq_true h00, decide_eq_true h1, decide_eq_true h2]
    rfl
  case copy =>
    obtain ⟨j, rfl, h0, h1⟩ := hd
    show (if (("copy" : Str) == "off") = true then oneN 1 b [.int j] else if (("copy" : Str) == "copy") = true then oneN 0 r [.int j] else (("copy" : Str) == "read") && twoN r b [.int j]) = true
    rw [if_neg (by decide +kernel), if_pos (by decide +kernel)]
    show (decide (0 ≤ j) && decide (j < r)) = true
    rw [decide_eq_true h0, decide_eq_true h1]
    rfl
  all_goals
    subst hd
    rfl
theorem allD_len_all : ∀ b : Nat, b < 13 → 2 ≤ b → ∀ r : Nat, r < 5 → 1 ≤ r → 8 ≤ (allD (b : Int) (r : Int)).length ∧ (allD (b : Int) (r : Int)).length ≤ 100 := by decide +kernel
theorem allD_len {b r : Int} (h1 : 2 ≤ b) (h2 : b ≤ 12) (h3 : 1 ≤ r) (h4 : r ≤ 4) : 8 ≤ (allD b r).length ∧ (allD b r).length ≤ 100 := by
  have := allD_len_all b.toNat (by omega) (by omega) r.toNat (by omega) (by omega)
  rw [show ((b.toNat : Nat) : Int) = b by omega, show ((r.toNat : Nat) : Int) = r by omega] at this
  exact this
theorem st_Kind_init {a b c d f : D} : startD N_Kind_init [a, b, c, d, f] = [some a, some b, some c, some d, some f, none, none] := rfl
theorem v_lcF {P : D → En → Prop} {tg : Tg} {tt : DT} {te : DE} {vs : List Nat} {o : Bool} {G : List Cel → Prop} {α : Type} {ds : List D} {e1 : En} (xs : List α) (enc f : α → D) (pr : α → Bool) (hd : ds = xs.map enc) (hz : xs.length ≤ 100000)
  (turn : ∀ (Q : List Cel → Prop) (Q2 : D → List Cel → Prop) (i : Nat) (x : α), xs[i]? = some x → (pr x = false → Q e1.cs) → (pr x = true → Q2 (f x) e1.cs) → ∃ sl', setTg tg (enc x) (wipeD e1.sl vs) = some sl' ∧ tt ⟨sl', e1.cs⟩ fun b e2 => if b = true then te e2 fun y e3 => Q2 y e3.cs else Q e2.cs)
  (done : newL o ((xs.filter pr).map f) ⟨e1.sl, e1.cs⟩ P) (g : G e1.cs := by first | trivial | assumption) : ds.length ≤ sizeLine ∧ ∃ I : Nat → List D → List Cel → Prop, I 0 [] e1.cs ∧
  (∀ i d acc cs, ds[i]? = some d → I i acc cs → G cs ∧ ∃ sl', setTg tg d (wipeD e1.sl vs) = some sl' ∧ tt ⟨sl', cs⟩ fun b e2 => if b = true then te e2 fun y e3 => I (i + 1) (acc ++ [y]) e3.cs else I (i + 1) acc e2.cs) ∧
  ∀ acc cs, acc.length ≤ ds.length → I ds.length acc cs → G cs ∧ newL o acc ⟨e1.sl, cs⟩ P := by
  subst hd
  refine ⟨sz_le (by simpa using hz), fun i acc cs => acc = ((xs.take i).filter pr).map f ∧ cs = e1.cs, ⟨rfl, rfl⟩, ?_, ?_⟩
  · rintro i d acc cs hi ⟨rfl, rfl⟩
    simp only [List.getElem?_map, Option.map_eq_some_iff] at hi
    obtain ⟨x, hx, rfl⟩ := hi
    refine ⟨g, turn (fun cs => ((xs.take i).filter pr).map f = ((xs.take (i + 1)).filter pr).map f ∧ cs = e1.cs) (fun y cs => ((xs.take i).filter pr).map f ++ [y] = ((xs.take (i + 1)).filter pr).map f ∧ cs = e1.cs) i x hx (fun h => ⟨?_, rfl⟩) fun h => ⟨?_, rfl⟩⟩
    · rw [List.take_add_one, hx]
      simp [h]
    · rw [List.take_add_one, hx]
      simp [h]
  · rintro acc cs _ ⟨rfl, rfl⟩
    exact ⟨g, by simpa using done⟩
theorem sh_D (t : Dd) : Sh 1 (encD t) := .tup (.cons (Sh.str (Wo.lay _)) (shs_int 0 _))
theorem encDE : EqE encD 1 := ⟨fun t => (sh_D t).ok, fun t => (sh_D t).lay, fun t => (sh_D t).dep, eqv_D⟩
theorem vc_Kind_init : ∀ ds cs Q, Lo ds cs → LoC cs → sp_Kind_init K ds cs Q → t_Kind_init K (Po.fn cs Q) ⟨startD N_Kind_init ds, cs⟩ := by
  rintro ds cs Q hd hc ⟨n, b, r, m, d, s, rfl, hs, hf, hn, g, q⟩
  have g1 := g.n.b2
  have g2 := g.n.b12
  have g3 := g.n.r1
  have g4 := g.n.r4
  have gl := g.l8
  have g0 := g.l1
  have g5 := g.m1
  have g6 := g.m3
  have al := (allD_len g1 g2 g3 g4).2
  have hty := ty_lk hs hf
  rw [st_Kind_init]
  unfold t_Kind_init
  walk_at "w"
  refine ⟨.int b, rfl, ⟨_, rfl⟩, ?_⟩
  walk_at "w"
  refine v_F ?_
  walk_at "w"
  refine v_itd (fun h => ?_) (fun h => absurd g1 h)
  walk_at "w"
  rw [decide_eq_true g2]
  walk_at "w"
  refine ⟨.int r, rfl, ⟨_, rfl⟩, ?_⟩
  walk_at "w"
  refine v_F ?_
  walk_at "w"
  refine v_itd (fun h => ?_) (fun h => absurd g3 h)
  walk_at "w"
  rw [decide_eq_true g4]
  walk_at "w"
  refine ⟨b, r, rfl, g1, g2, g3, g4, ?_⟩
  walk_at "w"
  rw [decide_eq_false (by have := g.n.c; omega)]
  walk_at "w"
  refine v_itK hs fun G hG => ?_
  refine v_lcY s encD (fun _ => .bl true) rfl (by omega) (fun Q' i x hx q' => ⟨_, rfl, ?_⟩) ?_ hG
  · walk_at "w"
    refine ⟨encD x, b, r, rfl, okV_D x (by have := (isD_of (g.sub x (List.mem_of_getElem? hx))).len; omega), ?_⟩
    rw [isDd_D (g.sub x (List.mem_of_getElem? hx))]
    exact q'
  walk_at "w"
  refine v_allL (bs := s.map fun _ => true) (by rw [List.map_map]; rfl) ?_
  have ea : ((s.map fun _ => true).all fun b => b) = true := by simp
  rw [ea]
  walk_at "w"
  refine ⟨b, r, rfl, g1, g2, g3, g4, ?_⟩
  walk_at "v"
  refine v_lcF (allD b r) encD encD (fun t => isIn t s) rfl (by omega) (fun Q' Q2 i x hx k1 k2 => ⟨_, rfl, ?_⟩) ?_
  · walk_at "w"
    refine v_inE encDE (a := x) (xs := s) rfl (drf_lk hs) ?_
    walk_at "w"
    cases h : isIn x s
    · refine iteF ?_
      exact k1 h
    · refine iteT ?_
      walk_at "w"
      exact k2 h
  have kl := keep_len g
  rw [show (allD b r).filter (fun t => isIn t s) = keep b r s from rfl]
  walk_at "w"
  refine v_lenK rfl ?_
  rw [List.length_map, kl]
  walk_at "w"
  refine v_lenK hs ?_
  rw [List.length_map]
  walk_at "w"
  rw [decide_eq_true rfl]
  walk_at "w"
  refine v_lenK rfl ?_
  rw [List.length_map, kl]
  walk_at "w"
  rw [decide_eq_true (by omega)]
  walk_at "w"
  rw [decide_eq_true (by omega)]
  walk_at "w"
  refine ⟨.int m, rfl, ⟨_, rfl⟩, ?_⟩
  walk_at "w"
  refine v_F ?_
  walk_at "w"
  rw [decide_eq_true g5]
  walk_at "w"
  rw [decide_eq_true g6]
  walk_at "v"
  simp only [List.set_set]
  exact .inl q
theorem len_check_lot : ∀ ds cs Q, sp_check_lot K ds cs Q → ds.length = 1 := by rintro ds cs Q ⟨_, _, rfl, _⟩; rfl
theorem lk_ty {cs : List Cel} {d : D} {xs : List D} (h : lk cs d = some xs) (hf : ∀ ys, d ≠ .fro ys) : tyN cs d = some "list" := ty_lk h hf
theorem st_check {a : D} : startD N_check_lot [a] = [some a, none, none] := rfl
theorem cut_to {α : Type} (f : α → D) (xs : List α) (k : Nat) : DL.cutD (xs.map f) none (some (k : Int)) = (xs.take k).map f := by
  unfold DL.cutD
  rw [HT.sIx_none, HT.sIx_nat, List.length_map, List.drop_zero, Nat.sub_zero, ← List.map_take]
  congr 1
  rcases Nat.le_total k xs.length with h | h
  · rw [Nat.min_eq_left h]
  · rw [Nat.min_eq_right h, List.take_of_length_le (Nat.le_refl _), List.take_of_length_le h]
theorem vc_check_lot : ∀ ds cs Q, Lo ds cs → LoC cs → sp_check_lot K ds cs Q → t_check_lot K (Po.fn cs Q) ⟨startD N_check_lot ds, cs⟩ := by
  rintro ds cs Q hd hc ⟨d, l, rfl, hl, hf, g, q⟩
  have ht := lk_ty hl hf
  have g8 := g.len
  rw [st_check]
  unfold t_check_lot
  walk_at "w"
  refine v_lenK hl ?_
  rw [List.length_map]
  walk_at "w"
  refine ⟨fun i e => ∃ x1 x2, e = ⟨[some d, x1, x2], cs⟩, ⟨_, _, rfl⟩, ?_, ?_⟩
  · rintro i y e2 hi ⟨x1, x2, rfl⟩
    obtain ⟨hi1, rfl⟩ := intsD_get hi
    have hi3 : i < l.length := by omega
    have hm := g.ge _ (List.getElem_mem hi3)
    refine ⟨trivial, _, rfl, ?_⟩
    rw [Int.zero_add]
    walk_at "w"
    refine v_ixK hl (atI_map (List.getElem?_eq_getElem hi3)) ?_
    walk_at "w"
    rw [decide_eq_false (by omega)]
    walk_at "w"
    refine v_slL hl (fun _ z => by subst z; cases hl) (fun _ z => by subst z; cases hl) ?_
    rw [cut_to]
    walk_at "w"
    refine v_inE encI (a := l[i]) (xs := l.take i) rfl rfl ?_
    have hni : isIn l[i] (l.take i) = false := by
      unfold isIn
      refine decide_eq_false fun hmem => ?_
      obtain ⟨j, hj, e⟩ := List.mem_iff_getElem.mp hmem
      rw [List.length_take] at hj
      rw [List.getElem_take] at e
      exact List.pairwise_iff_getElem.mp g.nd j i (by omega) hi3 (by omega) e
    rw [hni]
    walk_at "w"
    exact ⟨_, _, rfl⟩
  · rintro e2 ⟨x1, x2, rfl⟩
    refine ⟨trivial, ?_⟩
    walk_at "w"
    exact .inl q
theorem len_Kind_base : ∀ ds cs Q, sp_Kind_base K ds cs Q → ds.length = 1 := by rintro ds cs Q ⟨_, _, _, _, rfl, _⟩; rfl
theorem vc_Kind_base : ∀ ds cs Q, Lo ds cs → LoC cs → sp_Kind_base K ds cs Q → t_Kind_base K (Po.fn cs Q) ⟨startD N_Kind_base ds, cs⟩ := by
  rintro ds cs Q hd hc ⟨b, r, m, es, rfl, q⟩
  have hi : insD cs (kiD K b r es m) = some (He.ga K "Kind", kiN, [.int b, .int r, .lst (es.map encD), .int m]) := rfl
  unfold t_Kind_base
  walk_at "v"
  exact .inl q
theorem len_Kind_rows : ∀ ds cs Q, sp_Kind_rows K ds cs Q → ds.length = 1 := by rintro ds cs Q ⟨_, _, _, _, rfl, _⟩; rfl
theorem vc_Kind_rows : ∀ ds cs Q, Lo ds cs → LoC cs → sp_Kind_rows K ds cs Q → t_Kind_rows K (Po.fn cs Q) ⟨startD N_Kind_rows ds, cs⟩ := by
  rintro ds cs Q hd hc ⟨b, r, m, es, rfl, q⟩
  have hi : insD cs (kiD K b r es m) = some (He.ga K "Kind", kiN, [.int b, .int r, .lst (es.map encD), .int m]) := rfl
  unfold t_Kind_rows
  walk_at "v"
  exact .inl q
theorem len_check_alike : ∀ ds cs Q, sp_check_alike K ds cs Q → ds.length = 2 := by rintro ds cs Q ⟨_, _, _, _, _, _, rfl, _⟩; rfl
theorem st_chk {a b : D} : startD N_check_alike [a, b] = [some a, some b] := rfl
theorem vc_check_alike : ∀ ds cs Q, Lo ds cs → LoC cs → sp_check_alike K ds cs Q → t_check_alike K (Po.fn cs Q) ⟨startD N_check_alike ds, cs⟩ := by
  rintro ds cs Q hd hc ⟨d, b, r, m, cols, es, rfl, hs, q⟩
  rw [st_chk]
  unfold t_check_alike
  have hs0 := hs
  obtain ⟨hc0, hi, hl⟩ := hs0
  walk_at "v"
  refine ⟨⟨_, _, rfl⟩, b, r, m, es, rfl, ?_⟩
  walk_at "v"
  refine ⟨d, b, r, cols, rfl, hs, ?_⟩
  walk_at "v"
  rw [decide_eq_true (rfl : b = b)]
  walk_at "v"
  refine ⟨⟨_, _, rfl⟩, b, r, m, es, rfl, ?_⟩
  walk_at "v"
  refine ⟨d, b, r, cols, rfl, hs, ?_⟩
  walk_at "v"
  rw [decide_eq_true (rfl : r = r)]
  walk_at "v"
  exact .inl q
theorem len_Kind_most : ∀ ds cs Q, sp_Kind_most K ds cs Q → ds.length = 1 := by rintro ds cs Q ⟨_, _, _, _, rfl, _⟩; rfl
theorem vc_Kind_most : ∀ ds cs Q, Lo ds cs → LoC cs → sp_Kind_most K ds cs Q → t_Kind_most K (Po.fn cs Q) ⟨startD N_Kind_most ds, cs⟩ := by
  rintro ds cs Q hd hc ⟨b, r, m, es, rfl, q⟩
  have hi : insD cs (kiD K b r es m) = some (He.ga K "Kind", kiN, [.int b, .int r, .lst (es.map encD), .int m]) := rfl
  unfold t_Kind_most
  walk_at "v"
  exact .inl q
theorem len_Kind_deeds : ∀ ds cs Q, sp_Kind_deeds K ds cs Q → ds.length = 1 := by rintro ds cs Q ⟨_, _, _, _, rfl, _⟩; rfl
theorem vc_Kind_deeds : ∀ ds cs Q, Lo ds cs → LoC cs → sp_Kind_deeds K ds cs Q → t_Kind_deeds K (Po.fn cs Q) ⟨startD N_Kind_deeds ds, cs⟩ := by
  rintro ds cs Q hd hc ⟨b, r, m, es, rfl, hl, q⟩
  have hi : insD cs (kiD K b r es m) = some (He.ga K "Kind", kiN, [.int b, .int r, .lst (es.map encD), .int m]) := rfl
  unfold t_Kind_deeds
  walk_at "v"
  refine v_listL (xs := es.map encD) rfl ?_
  walk_at "v"
  exact own_back (los_D _) q
theorem len_further_slips : ∀ ds cs Q, sp_further_slips K ds cs Q → ds.length = 3 := by rintro ds cs Q ⟨_, _, _, _, _, _, _, rfl, _⟩; rfl
theorem st_fsl {a b c : D} : startD N_further_slips [a, b, c] = [some a, some b, some c, none, none, none] := rfl
theorem vc_further_slips : ∀ ds cs Q, Lo ds cs → LoC cs → sp_further_slips K ds cs Q → t_further_slips K (Po.fn cs Q) ⟨startD N_further_slips ds, cs⟩ := by
  rintro ds cs Q hd hc ⟨d, b, r, cols, es, m, S, rfl, hs, hes, hl8, hm, m3, hz, hnx, q⟩
  rw [st_fsl]
  unfold t_further_slips
  walk_at "w"
  refine v_lenK (xs := S.map encSo) rfl ?_
  walk_at "w"
  refine ⟨⟨_, _, rfl⟩, b, r, (m : Int), es, rfl, ?_⟩
  walk_at "w"
  refine v_itd (fun h => ?_) (fun h => ?_)
  · walk_at "w"
    refine .inl ?_
    have e : fur cols.length (es.map toO) m S = [] := by unfold fur; rw [if_pos (by rw [List.length_map] at h; omega)]
    rw [e] at q
    exact q
  have hne : ¬ S.length = m := fun z => h (by rw [List.length_map, z])
  have eF : fur cols.length (es.map toO) m S = (List.range (cols.length - nxC S)).flatMap fun i => (es.map toO).map fun o => S ++ [(nxC S + i, o)] := by unfold fur; rw [if_neg hne]
  rw [eF] at q
  have fin : (sRet (eLc2 false (iR2 (aCons (eV 3) (aCons (eCB (qLenO (He.ga K "Sheet") (sp_Sheet_len K)) (aCons (eV 1) aNil)) aNil))) (.one 4) dYes (iS (eProp (He.ga K "Kind") (sp_Kind_deeds K) (eV 0))) (.one 5) dYes (eLst false (aStar (eV 2) (aCons (eTup (aCons (eV 4) (aCons (eV 5) aNil))) aNil))) [4, 5] [5])) (Po.fn cs Q) ⟨[some (kiD K b r es (m : Nat)), some d, some (encSl S), some (.int (nxC S : Nat)), none, none], cs⟩ := by
    have hs0 := hs
    obtain ⟨hc0, hi, hl⟩ := hs0
    have hnx : nxC S ≤ 2000 := hnx
    walk_at "w"
    refine ⟨⟨_, _, hi⟩, d, b, r, cols, rfl, hs, ⟨_, rfl, by omega, by omega⟩, ?_⟩
    walk_at "w"
    refine ⟨_, _, rfl, ⟨by omega, by omega, by omega, by omega⟩, ?_⟩
    rw [show ((cols.length : Int) - ((nxC S : Nat) : Int)).toNat = cols.length - nxC S by omega]
    refine ⟨fun i acc cs' => acc = ((List.range i).flatMap fun k => es.map fun t => encSl (S ++ [(nxC S + k, toO t)])) ∧ cs' = cs, ⟨rfl, rfl⟩, ?_, ?_⟩
    · rintro i x acc cs' hx ⟨ha, rfl⟩
      obtain ⟨hi1, rfl⟩ := intsD_get hx
      refine ⟨trivial, _, rfl, ?_⟩
      walk_at "w"
      refine ⟨⟨_, _, rfl⟩, b, r, (m : Int), es, rfl, hl8, .inl ?_⟩
      walk_at "w"
      have hz2 : acc.length ≤ 8000 := by
        rw [ha, List.length_flatMap]
        have : ((List.range i).map fun k => (es.map fun t => encSl (S ++ [(nxC S + k, toO t)])).length).sum = i * es.length := by
          simp only [List.length_map]
          rw [List.map_const', List.sum_replicate_nat, List.length_range]
        rw [this]
        have := Nat.mul_le_mul (show i ≤ 1000 by omega) hl8
        omega
      refine ⟨fun j acc1 cs1 => acc1 = acc ++ ((es.take j).map fun t => encSl (S ++ [(nxC S + i, toO t)])) ∧ cs1 = cs', ⟨by simp, rfl⟩, ?_, ?_⟩
      · rintro j y acc1 cs1 hy ⟨ha1, rfl⟩
        rw [List.getElem?_map, Option.map_eq_some_iff] at hy
        obtain ⟨t, ht, rfl⟩ := hy
        refine ⟨trivial, _, rfl, ?_⟩
        walk_at "w"
        refine ⟨_, rfl, ?_⟩
        walk_at "w"
        refine ⟨sz_le (by rw [List.length_append, List.length_map, List.length_singleton]; omega), ?_⟩
        walk_at "w"
        have hj := (List.getElem?_eq_some_iff.mp ht).1
        refine ⟨Nat.lt_of_le_of_lt (show _ ≤ 9000 by rw [ha1, List.length_append, List.length_map, List.length_take]; omega) (by decide), ?_, rfl⟩
        rw [ha1, List.append_assoc, List.take_add_one, ht]
        congr 1
        rw [List.map_append]
        congr 1
        show [D.lst _] = [encSl _]
        unfold encSl
        rw [List.map_append]
        have e1 : encSo (nxC S + i, toO t) = D.tup [.int (((nxC S : Nat) : Int) + (i : Int)), encD t] := by
          rw [← (toO_enc (hes t (List.mem_of_getElem? ht))).1]
          rfl
        rw [List.map_singleton, e1]
      · rintro acc1 cs1 ⟨ha1, rfl⟩
        refine ⟨trivial, ?_, rfl⟩
        rw [ha1, ha, List.length_map, List.take_length, List.range_succ, List.flatMap_append, List.flatMap_singleton]
    · rintro acc cs' ⟨ha, rfl⟩
      refine ⟨trivial, ?_⟩
      rw [intsD_len] at ha
      walk_at "w"
      refine .inl ?_
      rw [ha]
      rw [List.map_flatMap] at q
      have e : (fun i => List.map encSl (((es.map toO).map fun o => S ++ [(nxC S + i, o)]))) = fun k => es.map fun t => encSl (S ++ [(nxC S + k, toO t)]) := by
        funext k
        rw [List.map_map, List.map_map]
        rfl
      rw [e] at q
      exact q
  generalize (sRet (eLc2 false (iR2 (aCons (eV 3) (aCons (eCB (qLenO (He.ga K "Sheet") (sp_Sheet_len K)) (aCons (eV 1) aNil)) aNil))) (.one 4) dYes (iS (eProp (He.ga K "Kind") (sp_Kind_deeds K) (eV 0))) (.one 5) dYes (eLst false (aStar (eV 2) (aCons (eTup (aCons (eV 4) (aCons (eV 5) aNil))) aNil))) [4, 5] [5])) = T at fin ⊢
  cases hS : S.getLast? with
  | none =>
    have e0 := List.getLast?_eq_none_iff.mp hS
    subst e0
    walk_at "w"
    refine ⟨false, rfl, ?_⟩
    walk_at "w"
    exact fin
  | some x =>
    obtain ⟨S0, e0⟩ := List.getLast?_eq_some_iff.mp hS
    walk_at "w"
    refine ⟨true, by rw [e0]; unfold encSl; rw [List.map_append]; simp [tru, lk], ?_⟩
    walk_at "w"
    have hlast : atI (S.map encSo) (-1) = some (encSo x) := atI_end (by rw [← List.getLast?_eq_getElem?]; exact hS)
    refine v_ixK (xs := S.map encSo) rfl hlast ?_
    rw [show encSo x = .tup [.int (x.1 : Nat), encO x.2] from rfl]
    walk_at "w"
    have e1 : nxC S = x.1 + 1 := by unfold nxC; rw [hS]
    rw [e1] at fin
    exact fin
theorem len_outcome : ∀ ds cs Q, sp_outcome K ds cs Q → ds.length = 2 := by rintro ds cs Q ⟨_, _, _, _, _, _, rfl, _⟩; rfl
theorem st_outc {a b : D} : startD N_outcome [a, b] = [some a, some b] := rfl
end
section
variable {b r : Int} {cols : List (List Int)} {n : Nat} {S T : Sl} {i : Nat} {o : Op}
theorem opsN_len : (opsN n S).length = n := by unfold opsN; rw [List.length_map, List.length_range]
end
section
variable {K : PySem.W.Frag}
theorem slF_len : ∀ (xs : List Op) (k : Nat), (slFo k xs).length ≤ xs.length
  | [], _ => Nat.le_refl _
  | x :: xs, k => by
    have := slF_len xs (k + 1)
    rw [slFo, List.length_append, List.length_cons]
    split <;> simp <;> omega
end
section
variable {b r : Int} {cols : List (List Int)} {n : Nat} {S T : Sl} {i : Nat} {o : Op}
theorem find_asc : ∀ {S : Sl} (_ : S.Pairwise fun x y => x.1 < y.1) (k : Nat), S.filter (fun x => decide (k ≤ x.1)) = (match S.find? fun x => decide (x.1 = k) with | none => [] | some x => [x]) ++ S.filter (fun x => decide (k + 1 ≤ x.1))
  | [], _, _ => rfl
  | y :: T, h, k => by
    obtain ⟨h1, h2⟩ := List.pairwise_cons.mp h
    have ih := find_asc h2 k
    by_cases e : y.1 = k
    · have e1 : (y :: T).find? (fun x => decide (x.1 = k)) = some y := by rw [List.find?_cons, decide_eq_true e]
      rw [e1, List.filter_cons, if_pos (by rw [decide_eq_true_eq]; omega), List.filter_cons, if_neg (by rw [decide_eq_true_eq]; omega)]
      show y :: T.filter _ = y :: T.filter _
      congr 1
      refine List.filter_congr fun x hx => ?_
      have := h1 x hx
      rw [decide_eq_true (by omega), decide_eq_true (by omega)]
    · have e1 : (y :: T).find? (fun x => decide (x.1 = k)) = T.find? (fun x => decide (x.1 = k)) := by rw [List.find?_cons, decide_eq_false e]
      rw [e1]
      by_cases hk : y.1 < k
      · rw [List.filter_cons, if_neg (by rw [decide_eq_true_eq]; omega), List.filter_cons, if_neg (by rw [decide_eq_true_eq]; omega)]
        exact ih
      · have e2 : T.find? (fun x => decide (x.1 = k)) = none := by
          rw [List.find?_eq_none]
          intro x hx
          have := h1 x hx
          rw [decide_eq_true_eq]
          omega
        rw [e2] at ih ⊢
        rw [List.filter_cons, if_pos (by rw [decide_eq_true_eq]; omega), List.filter_cons, if_pos (by rw [decide_eq_true_eq]; omega)]
        show y :: T.filter _ = y :: T.filter _
        rw [ih]
        rfl
theorem slF_range (g : Gs b r n S) : ∀ (d k : Nat), k + d = n → slFo k ((List.range' k d).map (opIn S)) = S.filter (fun x => decide (k ≤ x.1))
  | 0, k, h => by
    symm
    rw [List.range'_zero, List.map_nil, slFo, List.filter_eq_nil_iff]
    intro x hx
    have := g.lt x hx
    rw [decide_eq_true_eq]
    omega
  | d + 1, k, h => by
    rw [List.range'_succ, List.map_cons, slFo, slF_range g d (k + 1) (by omega), find_asc g.asc k]
    congr 1
    unfold opIn
    cases hf : S.find? fun x => decide (x.1 = k) with
    | none => rfl
    | some x =>
      have hx := List.mem_of_find?_eq_some hf
      have hk : x.1 = k := of_decide_eq_true (List.find?_some (p := fun x : Nat × Op => decide (x.1 = k)) hf)
      show (if x.2 = Op.right then [] else [(k, x.2)]) = [x]
      rw [if_neg (g.ne x hx), ← hk]
theorem slF_opsN (g : Gs b r n S) : slFo 0 (opsN n S) = S := by
  have h := slF_range g n 0 (by omega)
  rw [← List.range_eq_range'] at h
  show slFo 0 ((List.range n).map (opIn S)) = S
  rw [h, List.filter_eq_self]
  intro x _
  exact decide_eq_true (Nat.zero_le _)
end
theorem Gs.len {b r : Int} {n : Nat} {S : Sl} (g : Gs b r n S) : S.length ≤ n := by
  have h := slF_len (opsN n S) 0
  rw [slF_opsN g, opsN_len] at h
  exact h
section
variable {b r : Int} {cols : List (List Int)} {n : Nat} {S T : Sl} {i : Nat} {o : Op}
theorem opAt_geS (h : n ≤ i) : opAt (opsN n S) i = .right := by
  unfold opAt
  rw [List.getD_eq_getElem?_getD, List.getElem?_eq_none (by rw [opsN_len]; exact h)]
  rfl
theorem opAt_N (h : i < n) : opAt (opsN n S) i = opIn S i := by
  unfold opAt opsN
  rw [List.getD_eq_getElem?_getD, List.getElem?_map, List.getElem?_range h]
  rfl
theorem plan_nil : Plan b r cols (opsN cols.length []) := by
  have e : ∀ k, opAt (opsN cols.length []) k = .right := fun k => by
    by_cases h : k < cols.length
    · rw [opAt_N h]; rfl
    · exact opAt_geS (by omega)
  exact ⟨opsN_len, fun k _ => by rw [e k]; trivial, fun k _ => by rw [e k]; trivial, fun k _ _ => e _⟩
theorem Gs.left (g : Gs b r n (S ++ T)) : Gs b r n S := ⟨(List.pairwise_append.mp g.asc).1, fun x hx => g.lt x (List.mem_append_left _ hx), fun x hx => g.ok x (List.mem_append_left _ hx), fun x hx => g.ne x (List.mem_append_left _ hx)⟩
theorem nxC_le (g : Gs b r n S) : ∀ x ∈ S, x.1 < nxC S := by
  intro x hx
  unfold nxC
  cases hl : S.getLast? with
  | none => rw [List.getLast?_eq_none_iff] at hl; subst hl; cases hx
  | some y =>
    obtain ⟨S0, rfl⟩ := List.getLast?_eq_some_iff.mp hl
    show x.1 < y.1 + 1
    rcases List.mem_append.mp hx with h | h
    · have := (List.pairwise_append.mp g.asc).2.2 x h y List.mem_cons_self
      omega
    · rw [List.mem_singleton.mp h]
      omega
theorem nxC_T (g : Gs b r n (S ++ T)) : ∀ x ∈ T, nxC S ≤ x.1 := by
  intro x hx
  unfold nxC
  cases hl : S.getLast? with
  | none => exact Nat.zero_le _
  | some y =>
    have hy := List.mem_of_getLast? hl
    exact (List.pairwise_append.mp g.asc).2.2 y hy x hx
theorem opIn_mem (g : Gs b r n S) (h : opIn S i ≠ .right) : (i, opIn S i) ∈ S := by
  unfold opIn at h ⊢
  cases hf : S.find? fun x => decide (x.1 = i) with
  | none => rw [hf] at h; exact absurd rfl h
  | some x =>
    have hx := List.mem_of_find?_eq_some hf
    have hk : x.1 = i := of_decide_eq_true (List.find?_some (p := fun x : Nat × Op => decide (x.1 = i)) hf)
    show (i, x.2) ∈ S
    rw [← hk]
    exact hx
theorem opIn_of (g : Gs b r n S) (h : (i, o) ∈ S) : opIn S i = o := by
  unfold opIn
  cases hf : S.find? fun x => decide (x.1 = i) with
  | none => exact absurd (decide_eq_true (rfl : (i, o).1 = i)) (List.find?_eq_none.mp hf _ h)
  | some x =>
    have hx := List.mem_of_find?_eq_some hf
    have hk : x.1 = i := of_decide_eq_true (List.find?_some (p := fun x : Nat × Op => decide (x.1 = i)) hf)
    show x.2 = o
    obtain ⟨p, hp, e1⟩ := List.mem_iff_getElem.mp hx
    obtain ⟨q, hq, e2⟩ := List.mem_iff_getElem.mp h
    have hpw := List.pairwise_iff_getElem.mp g.asc
    rcases Nat.lt_trichotomy p q with z | z | z
    · have := hpw p q hp hq z
      rw [e1, e2, hk] at this
      exact absurd this (Nat.lt_irrefl _)
    · subst z
      rw [e1] at e2
      rw [e2]
    · have := hpw q p hq hp z
      rw [e1, e2, hk] at this
      exact absurd this (Nat.lt_irrefl _)
theorem opIn_app (h : ∀ x ∈ T, x.1 ≠ i) : opIn (S ++ T) i = opIn S i := by
  unfold opIn
  have e : T.find? (fun x => decide (x.1 = i)) = none := List.find?_eq_none.mpr fun x hx => by rw [decide_eq_true_eq]; exact h x hx
  rw [List.find?_append, e, Option.or_none]
theorem opIn_right (h : ∀ x ∈ S, x.1 ≠ i) : opIn S i = .right := by
  unfold opIn
  rw [List.find?_eq_none.mpr fun x hx => by rw [decide_eq_true_eq]; exact h x hx]
  rfl
/-- the shorter list is the longer one, cut -/
theorem opsN_cut (g : Gs b r n (S ++ T)) {l : Nat} (h1 : nxC S ≤ l) (h2 : ∀ x ∈ T, l ≤ x.1) : opsN n S = cutO n (opsN n (S ++ T)) l := by
  unfold cutO
  show (List.range n).map (opIn S) = _
  refine List.map_congr_left fun k hk => ?_
  have hk := List.mem_range.mp hk
  by_cases hl : k < l
  · rw [if_pos hl, opAt_N hk, opIn_app fun x hx => by have := h2 x hx; omega]
  · rw [if_neg hl]
    exact opIn_right fun x hx => by have := nxC_le g.left x hx; omega
theorem lowN_opsN (g : Gs b r n S) : lowN (opsN n S) S.length = nxC S + (match S.getLast? with | some x => if x.2 = .swap then 1 else 0 | none => 0) := by
  unfold nxC
  cases hl : S.getLast? with
  | none =>
    rw [List.getLast?_eq_none_iff] at hl
    subst hl
    rfl
  | some y =>
    obtain ⟨S0, rfl⟩ := List.getLast?_eq_some_iff.mp hl
    rw [List.length_append, List.length_singleton]
    have e := lowN_succ (ops := opsN n (S0 ++ [y])) (i := S0.length) (j := y.1) (o := y.2) (by rw [slF_opsN g]; simp)
    exact e
/-- one more: it is possible, or it is refused -/
theorem plan_snoc (g : Gs b r cols.length (S ++ [(i, o)])) (P : Plan b r cols (opsN cols.length S)) : Plan b r cols (opsN cols.length (S ++ [(i, o)])) ∨ BadL b r cols (opsN cols.length S) (lowN (opsN cols.length S) S.length) (encSo (i, o)) := by
  have hi : i < cols.length := g.lt (i, o) (by simp)
  have ho : okO b r o := g.ok (i, o) (by simp)
  have hne : o ≠ .right := g.ne (i, o) (by simp)
  have hS : nxC S ≤ i := nxC_T g (i, o) (by simp)
  have hlow := lowN_opsN g.left
  by_cases hl : lowN (opsN cols.length S) S.length ≤ i
  · by_cases hs : okS b (colAt cols i) (colAt cols (i - 1)) i cols.length o (stFo b cols (opsN cols.length S) i).2.1
    · refine .inl ⟨opsN_len, ?_, ?_, ?_⟩
      · intro k hk
        rw [opAt_N hk]
        by_cases z : opIn (S ++ [(i, o)]) k = .right
        · rw [z]; trivial
        · exact g.ok _ (opIn_mem g z)
      · intro k hk
        have eq : ∀ j, j < i → opAt (opsN cols.length (S ++ [(i, o)])) j = opAt (opsN cols.length S) j := fun j hj => by
          rw [opAt_N (by omega), opAt_N (by omega), opIn_app fun x hx => by rw [List.mem_singleton.mp hx]; show i ≠ j; omega]
        rcases Nat.lt_trichotomy k i with z | z | z
        · rw [eq k z, stF_congr fun j hj => eq j (by omega)]
          exact P.st k hk
        · subst z
          rw [stF_congr fun j hj => eq j hj, opAt_N hk, opIn_of g (o := o) (by simp)]
          exact hs
        · rw [opAt_N hk, opIn_right]
          · trivial
          · intro x hx
            have := nxC_le g x hx
            have e : nxC (S ++ [(i, o)]) = i + 1 := by unfold nxC; rw [List.getLast?_append, List.getLast?_singleton]; rfl
            omega
      · intro k hk hsw
        rcases Nat.lt_trichotomy (k + 1) i with z | z | z
        · rw [opAt_N (by omega), opIn_app fun x hx => by rw [List.mem_singleton.mp hx]; show i ≠ k; omega, ← opAt_N (n := cols.length) (i := k) (by omega)] at hsw
          rw [opAt_N (by omega), opIn_app fun x hx => by rw [List.mem_singleton.mp hx]; show i ≠ k + 1; omega, ← opAt_N (n := cols.length) (i := k + 1) (by omega)]
          exact P.sw k hk hsw
        · exfalso
          rw [opAt_N (by omega), opIn_app fun x hx => by rw [List.mem_singleton.mp hx]; show i ≠ k; omega] at hsw
          have hm := opIn_mem g.left (i := k) (by rw [hsw]; exact fun z => nomatch z)
          rw [hsw] at hm
          have h1 := nxC_le g.left _ hm
          have h1 : k < nxC S := h1
          -- the last one is this swap
          cases hl2 : S.getLast? with
          | none => rw [List.getLast?_eq_none_iff] at hl2; subst hl2; cases hm
          | some y =>
            have e1 : nxC S = y.1 + 1 := by unfold nxC; rw [hl2]
            have hy := List.mem_of_getLast? hl2
            have e2 : y.1 = k := by omega
            have e3 : y.2 = .swap := by
              have h2 := opIn_of g.left (i := y.1) (o := y.2) hy
              have h3 := opIn_of g.left hm
              rw [e2] at h2
              exact h2.symm.trans h3
            rw [hl2] at hlow
            dsimp only at hlow
            rw [if_pos e3] at hlow
            omega
        · by_cases hk2 : k = i
          · subst hk2
            rw [opAt_N hk]
            exact opIn_right fun x hx => by
              have := nxC_le g x hx
              have e : nxC (S ++ [(k, o)]) = k + 1 := by unfold nxC; rw [List.getLast?_append, List.getLast?_singleton]; rfl
              omega
          · exfalso
            rw [opAt_N (by omega), opIn_right] at hsw
            · cases hsw
            · intro x hx
              have := nxC_le g x hx
              have e : nxC (S ++ [(i, o)]) = i + 1 := by unfold nxC; rw [List.getLast?_append, List.getLast?_singleton]; rfl
              omega
    · refine .inr (.inr ⟨i, o, rfl, hl, hi, ho, hne, ?_⟩)
      have e : cutO cols.length (opsN cols.length S) (lowN (opsN cols.length S) S.length) = opsN cols.length S := by
        have h2 := opsN_cut (S := S) (T := []) (l := lowN (opsN cols.length S) S.length) (by rw [List.append_nil]; exact g.left) (by omega) (fun x hx => nomatch hx)
        rw [List.append_nil] at h2
        exact h2.symm
      rw [e]
      exact hs
  · refine .inr (.inl ?_)
    show isSl b r cols.length _ (.tup [.int (i : Nat), encO o]) = false
    show ((decide (((lowN (opsN cols.length S) S.length : Nat) : Int) ≤ (i : Nat)) && decide (((i : Nat) : Int) < (cols.length : Int))) && isDd b r (encO o)) = false
    rw [decide_eq_false (by omega)]
    rfl
/-- possible, or refused at some place -/
theorem plan_or (g : Gs b r cols.length S) (hz : S.length ≤ 1000) : Plan b r cols (opsN cols.length S) ∨ (¬ Plan b r cols (opsN cols.length S) ∧ ∃ x ops, Plan b r cols ops ∧ BadS b r cols ops (S.map encSo) x) := by
  by_cases h : Plan b r cols (opsN cols.length S)
  · exact .inl h
  refine .inr ⟨h, ?_⟩
  have step : ∀ k, k ≤ S.length → Plan b r cols (opsN cols.length (S.take k)) ∨ ∃ x ops, Plan b r cols ops ∧ BadS b r cols ops (S.map encSo) x := by
    intro k
    induction k with
    | zero => exact fun _ => .inl (by rw [List.take_zero]; exact plan_nil)
    | succ k ih =>
      intro hk
      rcases ih (by omega) with P | P
      · have hk' : k < S.length := hk
        have e : S.take (k + 1) = S.take k ++ [S[k]] := by rw [List.take_add_one, List.getElem?_eq_getElem hk']; rfl
        have e0 : S = S.take k ++ S[k] :: S.drop (k + 1) := by rw [← List.drop_eq_getElem_cons hk', List.take_append_drop]
        have g1 : Gs b r cols.length (S.take k ++ [S[k]]) := by
          have g2 : Gs b r cols.length (S.take (k + 1) ++ S.drop (k + 1)) := by rw [List.take_append_drop]; exact g
          rw [← e]
          exact g2.left
        have hlen : (S.take k).length = k := by rw [List.length_take]; omega
        rcases plan_snoc (i := S[k].1) (o := S[k].2) g1 P with q | q
        · exact .inl (by rw [e]; exact q)
        · refine .inr ⟨k, _, P, ⟨?_, encSo S[k], (S.drop (k + 1)).map encSo, ?_, ?_, ?_, ?_⟩⟩
          · rw [slF_opsN g1.left, hlen]
            exact Nat.le_refl _
          · rw [slF_opsN g1.left, List.take_of_length_le (by rw [hlen]; exact Nat.le_refl _)]
            conv => lhs; rw [e0]
            rw [List.map_append, List.map_cons]
          · exact okV2_S _
          · rw [hlen] at q
            exact q
          · rw [List.length_map, List.length_drop]
            omega
      · exact .inr P
  rcases step S.length (Nat.le_refl _) with P | P
  · rw [List.take_length] at P
    exact absurd P h
  · exact P
end
section
variable {K : PySem.W.Frag}
theorem vc_outcome : ∀ ds cs Q, Lo ds cs → LoC cs → sp_outcome K ds cs Q → t_outcome K (Po.fn cs Q) ⟨startD N_outcome ds, cs⟩ := by
  rintro ds cs Q hd hc ⟨d, d2, b, r, cols, S, rfl, hk, hs, g, gs, q⟩
  rw [st_outc]
  unfold t_outcome
  rcases plan_or gs (Nat.le_trans gs.len g.n) with P | ⟨nP, x, ops, P, hb⟩
  · rw [outF_some P] at q
    refine v_tryN (fun _ _ => False) ?_ (fun _ _ z => z.elim)
    walk_at "w"
    exact ⟨d, d2, b, r, cols, _, _, rfl, hk, hs, g, P, .inl ⟨by rw [slF_opsN gs], .inl q⟩⟩
  · rw [outF_none nP] at q
    refine v_tryN (fun y cs' => y.c = "InvalidSlips" ∧ cs' = cs) ?_ ?_
    · walk_at "w"
      exact ⟨d, d2, b, r, cols, ops, _, rfl, hk, hs, g, P, .inr ⟨x, hb, rfl, rfl⟩⟩
    · rintro y cs' ⟨e, rfl⟩
      refine ⟨true, by rw [e]; exact List.mem_cons_self, fun _ => ?_, fun z => nomatch z⟩
      walk_at "w"
      exact .inl q
theorem len_all_outcomes : ∀ ds cs Q, sp_all_outcomes K ds cs Q → ds.length = 2 := by rintro ds cs Q ⟨_, _, _, _, _, _, rfl, _⟩; rfl
end
section
variable {b r : Int} {cols : List (List Int)} {n m : Nat} {S T : Sl} {os : List Op}
theorem pre_full (h : S.length = m) : ∀ k, pre n os m k S = [S]
  | 0 => rfl
  | k + 1 => by
    have e : fur n os m S = [] := by unfold fur; rw [if_pos h]
    rw [pre, e]
    rfl
theorem flatMap_cong {α β : Type} {f g : α → List β} : ∀ {xs : List α}, (∀ x ∈ xs, f x = g x) → xs.flatMap f = xs.flatMap g
  | [], _ => rfl
  | x :: xs, h => by
    rw [List.flatMap_cons, List.flatMap_cons, h x List.mem_cons_self, flatMap_cong fun y hy => h y (List.mem_cons_of_mem _ hy)]
theorem fur_len (hm : S.length ≤ m) (h : T ∈ fur n os m S) : T.length = S.length + 1 ∧ T.length ≤ m := by
  unfold fur at h
  split at h
  · cases h
  · rename_i hne
    obtain ⟨k, hk, h2⟩ := List.mem_flatMap.mp h
    obtain ⟨o, ho, rfl⟩ := List.mem_map.mp h2
    rw [List.length_append, List.length_singleton]
    omega
/-- a list and all that begin with it, however deep -/
def preM (n : Nat) (os : List Op) (m : Nat) (S : Sl) : List Sl := pre n os m (m - S.length) S
theorem preM_eq (hm : S.length ≤ m) : preM n os m S = S :: (fur n os m S).flatMap (preM n os m) := by
  unfold preM
  by_cases h : S.length = m
  · rw [pre_full h]
    have e : fur n os m S = [] := by unfold fur; rw [if_pos h]
    rw [e]
    rfl
  · obtain ⟨d, hd⟩ : ∃ d, m - S.length = d + 1 := ⟨m - S.length - 1, by omega⟩
    rw [hd, pre]
    congr 1
    refine flatMap_cong fun T hT => ?_
    have := fur_len hm hT
    rw [show m - T.length = d by omega]
end
section
variable {K : PySem.W.Frag}
theorem s3b {cs : List Cel} {c A B : Cel} : ((cs ++ [A]) ++ [B]).set cs.length c = (cs ++ [c]) ++ [B] := by
  rw [List.set_append_left _ _ (by simp)]
  simp
theorem g3b {cs : List Cel} {A B : Cel} : ((cs ++ [A]) ++ [B])[cs.length]? = some A := app_get_lt app_get
end
section
variable {b r : Int} {cols : List (List Int)} {n : Nat} {S T : Sl} {i : Nat} {o : Op}
theorem nxC_n (g : Gs b r n S) : nxC S ≤ n := by
  unfold nxC
  cases hl : S.getLast? with
  | none => exact Nat.zero_le _
  | some y => exact g.lt y (List.mem_of_getLast? hl)
end
section
variable {K : PySem.W.Frag}
theorem lo_O {k : Nat} (o : Op) : loD k (encO o) = true := by
  rw [encO_eq]
  show (true && los k ((opN o).map .int)) = true
  rw [los_int] <;> rfl
theorem lo_S {k : Nat} (x : Nat × Op) : loD k (encSo x) = true := by
  show (true && (loD k (encO x.2) && true)) = true
  rw [lo_O]
  rfl
theorem lo_Sl {k : Nat} (S : Sl) : loD k (encSl S) = true := los_map (fun x => lo_S x) S
theorem lo_W {k : Nat} {b : Int} (t : Sl × (List Int × Int)) : loD k (encW K b t) = true := by
  show (loD k (encSl t.1) && (loD k (wrD K b t.2.1 t.2.2) && true)) = true
  rw [lo_Sl, lo_wrD]
  rfl
end
section
variable {b r : Int} {cols : List (List Int)} {n m : Nat} {S T : Sl} {os : List Op}
theorem pre_fuel : ∀ (d : Nat) (S : Sl) (k : Nat), S.length + d = m → d ≤ k → pre n os m k S = pre n os m d S
  | 0, S, k, h, _ => by rw [pre_full (by omega) k, pre_full (by omega) 0]
  | d + 1, S, 0, _, hk => by omega
  | d + 1, S, k + 1, h, hk => by
    rw [pre, pre]
    congr 1
    refine flatMap_cong fun T hT => ?_
    have := fur_len (by omega) hT
    exact pre_fuel d T k (by omega) (by omega)
theorem ordF_eq : ordF n os m = (fur n os m []).flatMap (preM n os m) := by
  unfold ordF preM
  refine flatMap_cong fun T hT => ?_
  have := fur_len (Nat.zero_le _) hT
  exact pre_fuel (m - T.length) T m (by omega) (by omega)
theorem preM_pos (hm : S.length ≤ m) : 1 ≤ (preM n os m S).length := by rw [preM_eq hm]; simp
end
section
variable {K : PySem.W.Frag}
theorem g3c {cs : List Cel} {A B : Cel} : ((cs ++ [A]) ++ [B])[cs.length + 1]? = some B := by simp
theorem s3c {cs : List Cel} {c A B : Cel} : ((cs ++ [A]) ++ [B]).set (cs.length + 1) c = (cs ++ [A]) ++ [c] := by
  rw [List.set_append_right _ _ (by simp)]
  simp
end
section
variable {b r : Int} {cols : List (List Int)} {n m : Nat} {S T : Sl} {os : List Op}
/-- no more lists in a pile than may come -/
theorem flat_len {α : Type} {f : Sl → List α} : ∀ {xs : List Sl}, (∀ S ∈ xs, 1 ≤ (f S).length) → xs.length ≤ (xs.flatMap f).length
  | [], _ => Nat.le_refl _
  | x :: xs, h => by
    have h1 := h x List.mem_cons_self
    have h2 := flat_len (xs := xs) fun S hS => h S (List.mem_cons_of_mem _ hS)
    rw [List.flatMap_cons, List.length_append, List.length_cons]
    omega
/-- what a list writes, beside it -/
noncomputable def outP (b r : Int) (cols : List (List Int)) (S : Sl) : Option (Sl × (List Int × Int)) := (outF b r cols S).map fun x => (S, x)
end
section
variable {K : PySem.W.Frag}
theorem st_allo {a b : D} : startD N_all_outcomes [a, b] = [some a, some b, none, none, none, none] := rfl
end
section
variable {b r : Int} {cols : List (List Int)} {n m : Nat} {S T : Sl} {os : List Op}
theorem fur_mem (g : Gs b r n S) (go : Go b r os) (h : T ∈ fur n os m S) : ∃ i o, T = S ++ [(i, o)] ∧ nxC S ≤ i ∧ i < n ∧ o ∈ os ∧ Gs b r n T := by
  unfold fur at h
  split at h
  · cases h
  · obtain ⟨k, hk, h2⟩ := List.mem_flatMap.mp h
    obtain ⟨o, ho, rfl⟩ := List.mem_map.mp h2
    have hk := List.mem_range.mp hk
    refine ⟨nxC S + k, o, rfl, by omega, by omega, ho, ⟨?_, ?_, ?_, ?_⟩⟩
    · refine List.pairwise_append.mpr ⟨g.asc, List.pairwise_singleton _ _, fun x hx y hy => ?_⟩
      rw [List.mem_singleton.mp hy]
      have := nxC_le g x hx
      show x.1 < nxC S + k
      omega
    · intro x hx
      rcases List.mem_append.mp hx with z | z
      · exact g.lt x z
      · rw [List.mem_singleton.mp z]; show nxC S + k < n; omega
    · intro x hx
      rcases List.mem_append.mp hx with z | z
      · exact g.ok x z
      · rw [List.mem_singleton.mp z]; exact go.ok o ho
    · intro x hx
      rcases List.mem_append.mp hx with z | z
      · exact g.ne x z
      · rw [List.mem_singleton.mp z]; exact go.ne o ho
theorem pre_mem (go : Go b r os) : ∀ (k : Nat) (S : Sl), Gs b r n S → S.length ≤ m → T ∈ pre n os m k S → (∃ U, T = S ++ U) ∧ Gs b r n T ∧ T.length ≤ m ∧ ((∀ x ∈ S, x.2 ∈ os) → ∀ x ∈ T, x.2 ∈ os)
  | 0, S, g, hm, h => by
    rw [List.mem_singleton.mp h]
    exact ⟨⟨[], by simp⟩, g, hm, fun z => z⟩
  | k + 1, S, g, hm, h => by
    rw [pre] at h
    rcases List.mem_cons.mp h with rfl | h
    · exact ⟨⟨[], by simp⟩, g, hm, fun z => z⟩
    · obtain ⟨T1, h1, h2⟩ := List.mem_flatMap.mp h
      obtain ⟨i, o, rfl, _, _, ho, g1⟩ := fur_mem g go h1
      have hl := (fur_len hm h1).2
      obtain ⟨⟨U, rfl⟩, g2, hl2, hx⟩ := pre_mem go k _ g1 hl h2
      refine ⟨⟨[(i, o)] ++ U, by simp⟩, g2, hl2, fun z => hx fun x hx => ?_⟩
      rcases List.mem_append.mp hx with q | q
      · exact z x q
      · rw [List.mem_singleton.mp q]; exact ho
end
section
variable {b r : Int} {cols : List (List Int)} {n : Nat} {S T : Sl} {i : Nat} {o : Op}
theorem plan_left (g : Gs b r cols.length (S ++ T)) (P : Plan b r cols (opsN cols.length (S ++ T))) : Plan b r cols (opsN cols.length S) := by
  rw [opsN_cut g (Nat.le_refl _) (nxC_T g)]
  exact cutO_plan P
theorem outF_left (g : Gs b r cols.length (S ++ T)) (h : (outF b r cols (S ++ T)).isSome = true) : (outF b r cols S).isSome = true := by
  by_cases hp : Plan b r cols (opsN cols.length (S ++ T))
  · rw [outF_some (plan_left g hp)] <;> rfl
  · rw [outF_none hp] at h; cases h
end
section
variable {b r : Int} {cols : List (List Int)} {n m : Nat} {S T : Sl} {os : List Op}
theorem pre_none (go : Go b r os) (g : Gs b r cols.length S) (hm : S.length ≤ m) (h : outF b r cols S = none) (k : Nat) : (pre cols.length os m k S).filterMap (outP b r cols) = [] := by
  rw [List.filterMap_eq_nil_iff]
  intro T hT
  obtain ⟨⟨U, rfl⟩, g2, _, _⟩ := pre_mem go k S g hm hT
  unfold outP
  cases he : outF b r cols (S ++ U) with
  | none => rfl
  | some x =>
    have := outF_left g2 (by rw [he]; rfl)
    rw [h] at this
    cases this
end
section
variable {K : PySem.W.Frag}
theorem vc_all_outcomes : ∀ ds cs Q, Lo ds cs → LoC cs → sp_all_outcomes K ds cs Q → t_all_outcomes K (Po.fn cs Q) ⟨startD N_all_outcomes ds, cs⟩ := by
  rintro ds cs Q hd hc ⟨d, b, r, cols, es, m, rfl, hs, g, hes, hl8, hz, q⟩
  rw [st_allo]
  unfold t_all_outcomes
  have go : Go b r (es.map toO) := ⟨fun o ho => by obtain ⟨t, ht, rfl⟩ := List.mem_map.mp ho; exact (toO_enc (hes t ht)).2.1, fun o ho => by obtain ⟨t, ht, rfl⟩ := List.mem_map.mp ho; exact (toO_enc (hes t ht)).2.2, by rw [List.length_map]; exact hl8⟩
  have hn := hz.n12
  have hm3 := hz.m3
  have hz0 := hz.z
  rw [ordF_eq] at hz0
  walk_at "w"
  refine ⟨d, b, r, cols, es, m, [], rfl, isSh_app hs, hes, hl8, Nat.zero_le _, hm3, by omega, by decide, _, rfl, ?_⟩
  rw [← List.map_reverse]
  walk_at "w"
  have eA : allF b r cols (es.map toO) m = ((fur cols.length (es.map toO) m []).flatMap (preM cols.length (es.map toO) m)).filterMap (outP b r cols) := by unfold allF; rw [ordF_eq]; rfl
  rw [eA] at q
  refine ⟨fun k e => ∃ (found : List (Sl × (List Int × Int))) (pile : List Sl) (y z : Option D), (∀ S ∈ pile, Gs b r cols.length S ∧ S.length ≤ m) ∧ k = (pile.reverse.flatMap (preM cols.length (es.map toO) m)).length ∧ found.length + k ≤ 20000 ∧
    found ++ (pile.reverse.flatMap (preM cols.length (es.map toO) m)).filterMap (outP b r cols) = ((fur cols.length (es.map toO) m []).flatMap (preM cols.length (es.map toO) m)).filterMap (outP b r cols) ∧
    e = ⟨[some (kiD K b r es (m : Nat)), some d, some (.cell cs.length), some (.cell (cs.length + 1)), y, z], (cs ++ [.lst (found.map (encW K b))]) ++ [.lst (pile.map encSl)]⟩, ⟨_, [], (fur cols.length (es.map toO) m []).reverse, none, none, ?_, rfl, by simpa using hz0, by simp, by simp⟩, ?_⟩
  · intro S hS
    rw [List.mem_reverse] at hS
    obtain ⟨i, o, rfl, _, _, ho, g1⟩ := fur_mem .nil go hS
    exact ⟨g1, (fur_len (Nat.zero_le _) hS).2⟩
  · rintro k e1 ⟨found, pile, y, z, hp, rfl, hsz, heq, rfl⟩
    walk_at "w"
    rcases List.eq_nil_or_concat pile with rfl | ⟨P, S, rfl⟩
    · refine ⟨false, by show (lk _ _).map _ = _; rw [lk_cell g3c]; rfl, ?_⟩
      walk_at "w"
      rw [List.reverse_nil, List.flatMap_nil, List.filterMap_nil, List.append_nil] at heq
      rw [← heq] at q
      have et : ((cs ++ [Cel.lst (found.map (encW K b))]) ++ [Cel.lst (([] : List Sl).map encSl)]).take cs.length = cs := by simp
      refine .inr (.inr ⟨_, _, rfl, Nat.le_refl _, g3b, los_map (fun t => lo_W t) found, fun c h => ?_, .inl ?_⟩)
      · rw [et] at h
        exact .inl h
      · rw [et]
        exact q
    rw [List.concat_eq_append] at hp hsz heq ⊢
    obtain ⟨gS, hSm⟩ := hp S (by simp)
    have ePM := preM_eq (n := cols.length) (os := es.map toO) hSm
    have eR : (P ++ [S]).reverse.flatMap (preM cols.length (es.map toO) m) = preM cols.length (es.map toO) m S ++ P.reverse.flatMap (preM cols.length (es.map toO) m) := by rw [List.reverse_append, List.reverse_singleton, List.singleton_append, List.flatMap_cons]
    rw [eR] at hsz heq
    rw [List.length_append] at hsz
    have hpos := preM_pos (n := cols.length) (os := es.map toO) hSm
    have hP : ∀ T ∈ P, Gs b r cols.length T ∧ T.length ≤ m := fun T hT => hp T (List.mem_append_left _ hT)
    have hPl : P.length ≤ (P.reverse.flatMap (preM cols.length (es.map toO) m)).length := by
      have := flat_len (f := preM cols.length (es.map toO) m) (xs := P.reverse) fun T hT => preM_pos (hP T (List.mem_reverse.mp hT)).2
      rw [List.length_reverse] at this
      exact this
    rw [List.map_append, List.map_singleton]
    refine ⟨true, by show (lk _ _).map _ = _; rw [lk_cell g3c]; simp, ?_⟩
    walk_at "w"
    refine ⟨⟨_, lk_cell g3c⟩, _, _, encSl S, rfl, rfl, g3c, by simp, ?_⟩
    rw [s3c, List.dropLast_concat]
    walk_at "w"
    refine ⟨d, _, b, r, cols, S, rfl, rfl, isSh_app (isSh_app hs), g, gS, ?_⟩
    walk_at "w"
    cases ho : outF b r cols S with
    | none =>
      dsimp only [outD]
      walk_at "w"
      refine ⟨_, ?_, found, P, _, _, hP, rfl, ?_, ?_, rfl⟩
      · rw [eR, List.length_append]
        omega
      · omega
      · rw [List.filterMap_append] at heq
        have e0 : (preM cols.length (es.map toO) m S).filterMap (outP b r cols) = [] := pre_none go gS hSm ho _
        rw [e0, List.nil_append] at heq
        exact heq
    | some x =>
      walk_at "w"
      refine ⟨⟨_, lk_cell g3b⟩, ?_⟩
      walk_at "w"
      refine ⟨_, _, _, rfl, rfl, g3b, Nat.lt_of_le_of_lt (show _ ≤ 20000 by rw [List.length_map]; omega) (by decide), ?_⟩
      rw [s3b]
      walk_at "w"
      refine ⟨⟨_, lk_cell g3c⟩, ?_⟩
      walk_at "w"
      have hnS := nxC_n gS
      refine ⟨d, b, r, cols, es, m, S, rfl, isSh_app (isSh_app hs), hes, hl8, hSm, hm3, by omega, by omega, _, rfl, ?_⟩
      have hFS : ∀ T ∈ fur cols.length (es.map toO) m S, Gs b r cols.length T ∧ T.length ≤ m := fun T hT => by
        obtain ⟨i, o, e, _, _, _, g1⟩ := fur_mem gS go hT
        exact ⟨g1, (fur_len hSm hT).2⟩
      have hFl := flat_len (f := preM cols.length (es.map toO) m) (xs := fur cols.length (es.map toO) m S) fun T hT => preM_pos (hFS T hT).2
      rw [ePM, List.length_cons] at hsz
      walk_at "w"
      refine ⟨_, _, _, _, rfl, rfl, g3c, rfl, by rw [List.length_map, List.length_reverse, List.length_map]; omega, ?_⟩
      rw [s3c, ← List.map_reverse, ← List.map_append]
      walk_at "w"
      have eR2 : (P ++ (fur cols.length (es.map toO) m S).reverse).reverse.flatMap (preM cols.length (es.map toO) m) = (fur cols.length (es.map toO) m S).flatMap (preM cols.length (es.map toO) m) ++ P.reverse.flatMap (preM cols.length (es.map toO) m) := by rw [List.reverse_append, List.reverse_reverse, List.flatMap_append]
      refine ⟨_, ?_, found ++ [(S, x)], P ++ (fur cols.length (es.map toO) m S).reverse, some (encSl S), some (outD K b (some x)), ?_, rfl, ?_, ?_, ?_⟩
      · rw [eR, eR2, ePM, List.length_append, List.length_append, List.length_cons]
        omega
      · intro T hT
        rcases List.mem_append.mp hT with z | z
        · exact hP T z
        · exact hFS T (List.mem_reverse.mp z)
      · rw [eR2, List.length_append, List.length_append, List.length_singleton]
        omega
      · rw [eR2, ← heq, ePM, List.cons_append, List.filterMap_cons]
        have e1 : outP b r cols S = some (S, x) := by unfold outP; rw [ho]; rfl
        rw [e1]
        simp
      · rw [show (found ++ [(S, x)]).map (encW K b) = found.map (encW K b) ++ [encW K b (S, x)] by rw [List.map_append]; rfl]
        rfl
theorem len_Written_rest : ∀ ds cs Q, sp_Written_rest K ds cs Q → ds.length = 2 := by rintro ds cs Q ⟨_, _, _, _, rfl, _⟩; rfl
theorem vc_Written_rest : ∀ ds cs Q, Lo ds cs → LoC cs → sp_Written_rest K ds cs Q → t_Written_rest K (Po.fn cs Q) ⟨startD N_Written_rest ds, cs⟩ := by
  rintro ds cs Q hd hc ⟨b, fs, l, r, rfl, h1, h2, h3, q⟩
  have hi : insD cs (wrD K b fs l) = some (He.ga K "Written", wrN, [.int b, .lst (fs.map .int), .int l]) := rfl
  unfold t_Written_rest
  walk_at "v"
  refine ⟨b, fs, l, rfl, h1, h2, ?_⟩
  walk_at "v"
  exact .inl q
theorem len_slips_shown : ∀ ds cs Q, sp_slips_shown K ds cs Q → ds.length = 4 := by rintro ds cs Q ⟨_, _, _, _, _, _, _, _, rfl, _⟩; rfl
theorem st_shown {a b c d : D} : startD N_slips_shown [a, b, c, d] = [some a, some b, some c, some d, none, none, none, none] := rfl
theorem vc_slips_shown : ∀ ds cs Q, Lo ds cs → LoC cs → sp_slips_shown K ds cs Q → t_slips_shown K (Po.fn cs Q) ⟨startD N_slips_shown ds, cs⟩ := by
  rintro ds cs Q hd hc ⟨d, b, r, cols, es, m, l, rs, rfl, hs, g, hes, hl8, hz, gl, hrs, q⟩
  rw [st_shown]
  unfold t_slips_shown
  walk_at "w"
  refine ⟨_, l, rfl, rfl, (fun _ z => nomatch z), gl, ?_⟩
  walk_at "w"
  refine ⟨d, b, r, _, cols, es, rfl, hs, ?_⟩
  walk_at "w"
  refine v_listL (xs := rs.map .int) rfl ?_
  walk_at "w"
  refine ⟨d, b, r, cols, es, m, rfl, hs, g, hes, hl8, hz, ?_⟩
  walk_at "w"
  have hal : (allF b r cols (es.map toO) m).length ≤ 20000 := Nat.le_trans (List.length_filterMap_le _ _) hz.z
  have b2 := g.b2
  have b12 := g.b12
  refine v_lcF (e1 := ⟨_, _⟩) (allF b r cols (es.map toO) m) (encW K b) (fun t => encSl t.1) (fun t => decide (l.map (fun d => valW b t.2.2 t.2.1 % d) = rs)) rfl (by omega) (fun Q1 Q2 i x hx h1 h2 => ?_) ?_
  · refine ⟨_, rfl, ?_⟩
    walk_at "w"
    refine v_lcY (e1 := ⟨_, _⟩) l .int (fun d => .int (valW b x.2.2 x.2.1 % d)) rfl (by have := gl.len; omega) (fun Q' i y hy q' => ?_) ?_
    · refine ⟨_, rfl, ?_⟩
      walk_at "w"
      have := gl.ge y (List.mem_of_getElem? hy)
      refine ⟨⟨_, _, rfl, by decide⟩, ?_⟩
      walk_at "w"
      refine ⟨b, x.2.1, x.2.2, y, rfl, b2, b12, by omega, ?_⟩
      exact q'
    · walk_at "w"
      refine v_eqE encI.lst (a := l.map fun d => valW b x.2.2 x.2.1 % d) (b := rs) (by rw [List.map_map]; rfl) rfl ?_
      refine ⟨_, rfl, ?_⟩
      by_cases hh : decide (l.map (fun d => valW b x.2.2 x.2.1 % d) = rs) = true
      · rw [if_pos hh]
        walk_at "w"
        exact h2 hh
      · rw [if_neg hh]
        exact h1 (Bool.not_eq_true _ ▸ hh)
  · unfold shownF at q
    rw [List.map_map] at q
    exact .inl q
theorem len_Sheet_cut : ∀ ds cs Q, sp_Sheet_cut K ds cs Q → ds.length = 3 := by rintro ds cs Q ⟨_, _, _, _, _, _, rfl, _⟩; rfl
theorem vc_Sheet_cut : ∀ ds cs Q, Lo ds cs → LoC cs → sp_Sheet_cut K ds cs Q → t_Sheet_cut K (Po.fn cs Q) ⟨startD N_Sheet_cut ds, cs⟩ := by
  rintro ds cs Q hd hc ⟨d, b, r, cols, i, j, rfl, ⟨hc1, hi, hl, hf0⟩, g, h1, h2, q⟩
  have g' : Gd b r ((cols.drop i).take (j - i)) := ⟨g.b2, g.b12, g.r1, g.r4, fun c hc => g.c c (List.mem_of_mem_drop (List.mem_of_mem_take hc)), by have := g.n; simp; omega⟩
  unfold t_Sheet_cut
  walk_at "w"
  refine v_slL hl (fun _ z => by subst z; cases hl) (fun _ z => by subst z; cases hl) ?_
  rw [cut_mid encC cols i j h1 h2]
  walk_at "w"
  rcases q with q | q
  · refine ⟨_, _, _, b, r, rfl, app_get, rfl, (fun _ z => nomatch z), g', .inl ⟨rfl, .inr ⟨_, _, _, _, app_set, rfl, los_sh, fun c hc => .inl hc, ?_⟩⟩⟩
    exact .inl q
  · refine ⟨_, _, _, b, r, rfl, app_get, rfl, (fun _ z => nomatch z), g', .inr ⟨rfl, .inl ?_⟩⟩
    rw [app_set, List.length_append]
    exact .inl q
theorem len_law_bag : ∀ ds cs Q, sp_law_bag K ds cs Q → ds.length = 2 := by rintro ds cs Q ⟨_, _, rfl, _⟩; rfl
theorem st_lbag {a b : D} : startD N_law_bag [a, b] = [some a, some b, none, none] := rfl
theorem ix_ints {ns : List Int} {k : Int} (h0 : 0 ≤ k) (h1 : k < ns.length) : atI (ns.map D.int) k = some (.int (ns.getD k.toNat 0)) := by
  obtain ⟨j, rfl⟩ := Int.eq_ofNat_of_zero_le h0
  have hj : j < ns.length := by omega
  have e : ns[j]? = some (ns.getD (j : Int).toNat 0) := by rw [Int.toNat_natCast, List.getD_eq_getElem?_getD, List.getElem?_eq_getElem hj]; rfl
  exact atI_map (f := D.int) e
theorem mod_lt140 (y z : Int) : 0 ≤ y % (10 ^ 39 + 3) * 64 + z % 64 ∧ y % (10 ^ 39 + 3) * 64 + z % 64 < 2 ^ 140 := by
  have h1 := Int.emod_nonneg y (b := 10 ^ 39 + 3) (by decide)
  have h2 := Int.emod_lt_of_pos y (b := 10 ^ 39 + 3) (by decide)
  have h3 := Int.emod_nonneg z (b := 64) (by decide)
  have h4 := Int.emod_lt_of_pos z (b := 64) (by decide)
  omega
theorem vc_law_bag : ∀ ds cs Q, Lo ds cs → LoC cs → sp_law_bag K ds cs Q → t_law_bag K (Po.fn cs Q) ⟨startD N_law_bag ds, cs⟩ := by
  rintro ds cs Q hd hc ⟨ns, k, rfl, hk0, hk1, q⟩
  rw [st_lbag]
  unfold t_law_bag
  have tail : ∀ cell : Int, sSeq (sAsg (eBin (qAdd false) (eBin (qMul) (eC (.int 2)) (eCB qAbs (aCons (eV 2) aNil))) (eCB qInt (aCons (eBin qLt (eV 2) (eC (.int 0))) aNil))) 3) (sRet (eLst true (aCons (eCB qMax2 (aCons (eC (.int 0)) (aCons (eBin (qSub) (eV 2) (eBin (qPow) (eC (.int 10)) (eC (.int 18)))) aNil))) (aCons (eBin (qAdd false) (eBin (qMul) (eBin (qMod) (eCB qInt (aCons (eV 3) aNil)) (eBin (qAdd false) (eBin (qPow) (eC (.int 10)) (eC (.int 39))) (eC (.int 3)))) (eC (.int 64))) (eBin (qMod) (eCB qInt (aCons (eV 1) aNil)) (eC (.int 64)))) (aCons (eC (.int 0)) aNil))))) (Po.fn cs Q) ⟨[some (.fro (ns.map .int)), some (.int k), some (.int cell), none], cs⟩ := by
    intro cell
    walk_at "w"
    refine v_abs ?_
    walk_at "w"
    refine v_modX ⟨by decide, ?_⟩
    walk_at "w"
    have e := mod_lt140 (2 * (if cell < 0 then -cell else cell) + (if decide (cell < 0) = true then 1 else 0)) k
    refine own_back rfl (.inr (q _ ⟨_, _, _, rfl, ?_, ?_, Int.le_refl _, Int.le_refl _⟩))
    · exact e.1
    · exact e.2
  walk_at "w"
  refine v_lenL (xs := ns.map .int) rfl (fun _ h => nomatch h) ?_
  walk_at "w"
  rw [List.length_map]
  refine v_itd (fun h => ?_) fun h => ?_
  · walk_at "w"
    refine v_ixK (xs := ns.map .int) rfl (ix_ints hk0 h) ?_
    exact tail _
  · exact tail 0
theorem len_law_take : ∀ ds cs Q, sp_law_take K ds cs Q → ds.length = 2 := by rintro ds cs Q ⟨_, _, _, _, rfl, _⟩; rfl
theorem st_ltake {a b : D} : startD N_law_take [a, b] = [some a, some b, none, none] := rfl
theorem vc_law_take : ∀ ds cs Q, Lo ds cs → LoC cs → sp_law_take K ds cs Q → t_law_take K (Po.fn cs Q) ⟨startD N_law_take ds, cs⟩ := by
  rintro ds cs Q hd hc ⟨n, x, c, m, rfl, hx, ⟨a, b, k, rfl, hb0, hb1, hk0, hk1⟩, hc1, hm0, hm1, q⟩
  rw [st_ltake]
  unfold t_law_take
  have hn : n < cs.length := (List.getElem?_eq_some_iff.mp hx).1
  walk_at "w"
  refine v_itd (fun h => ?_) fun h => ?_
  · walk_at "w"
    exact .inl (q _ _ (Int.emod_nonneg _ (by omega)) (Int.emod_lt_of_pos _ hm0) ⟨a / m, b, k, rfl, hb0, hb1, hk0, by omega⟩)
  · walk_at "w"
    have b1 : b + 7368787 * (k + 1) < 2 ^ 141 := by omega
    refine v_powW (by omega) (Int.lt_trans b1 (by decide)) (by decide) (by decide) ?_
    walk_at "w"
    refine v_modX ⟨by decide, ?_⟩
    walk_at "w"
    have m1 := Int.emod_nonneg ((b + 7368787 * (k + 1)) ^ Int.toNat 2 + 1299709 * (k + 1)) (b := 10 ^ Int.toNat 40 + 121) (by decide)
    have m2 := Int.emod_lt_of_pos ((b + 7368787 * (k + 1)) ^ Int.toNat 2 + 1299709 * (k + 1)) (b := 10 ^ Int.toNat 40 + 121) (by decide)
    refine v_powW m1 (Int.lt_trans m2 (by decide)) (by decide) (by decide) ?_
    walk_at "w"
    refine v_modX ⟨by decide, ?_⟩
    walk_at "w"
    exact .inl (q _ _ (Int.emod_nonneg _ (by omega)) (Int.emod_lt_of_pos _ hm0) ⟨a, b, k + 1, rfl, hb0, hb1, by omega, by omega⟩)
theorem len_law_mixed : ∀ ds cs Q, sp_law_mixed K ds cs Q → ds.length = 2 := by rintro ds cs Q ⟨_, _, _, _, _, rfl, _⟩; rfl
theorem lk_los {cs : List Cel} {d : D} {xs : List D} (h : lk cs d = some xs) (hd : loD cs.length d = true) (hc : LoC cs) : los cs.length xs = true := by
  cases d with
  | lst ys => cases h; exact hd
  | fro ys => cases h; exact hd
  | cell n =>
    have := lk_cell_iff h
    exact hc _ (List.mem_of_getElem? this)
  | _ => cases h
theorem los_iff {k : Nat} : ∀ {xs : List D}, los k xs = true ↔ ∀ x ∈ xs, loD k x = true
  | [] => ⟨fun _ _ h => (nomatch h), fun _ => rfl⟩
  | x :: xs => by
    rw [show los k (x :: xs) = (loD k x && los k xs) from rfl, Bool.and_eq_true, los_iff (xs := xs), List.forall_mem_cons]
theorem perm_idx {α : Type} : ∀ {zs : List α} {j : Nat} (h : j < zs.length), (zs[j] :: zs.eraseIdx j).Perm zs
  | x :: zs, 0, _ => List.Perm.refl _
  | x :: zs, j + 1, h => (List.Perm.swap x _ _).trans (List.Perm.cons x (perm_idx (Nat.lt_of_succ_lt_succ h)))
theorem st_lmixed {a b : D} : startD N_law_mixed [a, b] = [some a, some b, none, none, none] := rfl
theorem set_set' {cs : List Cel} {n : Nat} {x y : Cel} : (cs.set n x).set n y = cs.set n y := List.set_set ..
theorem vc_law_mixed : ∀ ds cs Q, Lo ds cs → LoC cs → sp_law_mixed K ds cs Q → t_law_mixed K (Po.fn cs Q) ⟨startD N_law_mixed ds, cs⟩ := by
  rintro ds cs Q hd hc ⟨n, x, c, d, xs, rfl, hx, hB, hc1, hl, hz, q⟩
  rw [st_lmixed]
  unfold t_law_mixed
  have hn : n < cs.length := (List.getElem?_eq_some_iff.mp hx).1
  walk_at "w"
  refine v_listL (seq_lk hl) ?_
  walk_at "w"
  refine ⟨_, _, rfl, ?_⟩
  walk_at "w"
  refine v_lenK (xs := xs) (lk_app (lk_app hl)) ?_
  walk_at "w"
  refine ⟨fun i e => i ≤ xs.length ∧ ∃ (ys zs : List D) (x' : Cel) (o : Option D), (ys ++ zs).Perm xs ∧ ys.length = i ∧ Bg (c + i) x' ∧ e = ⟨[some (.cell n), some d, some (.cell cs.length), some (.cell (cs.length + 1)), o], (cs.set n x') ++ [.lst zs] ++ [.lst ys]⟩, ?_, ?_, ?_⟩
  · refine ⟨Nat.zero_le _, [], xs, x, none, List.Perm.refl _, rfl, by simpa using hB, ?_⟩
    rw [set_self hx]
    simp
  · rintro i y e2 hy ⟨hi, ys, zs, x', o, hp, hyl, hB', rfl⟩
    obtain ⟨hlt, rfl⟩ := intsD_get hy
    refine ⟨trivial, _, rfl, ?_⟩
    walk_at "w"
    have la : (cs.set n x').length = cs.length := List.length_set ..
    have zl : zs.length = xs.length - i := by have := hp.length_eq; rw [List.length_append, hyl] at this; omega
    refine ⟨⟨_, lk_cell (at_end (by rw [List.length_append, la]; rfl))⟩, ?_⟩
    walk_at "w"
    refine ⟨⟨_, lk_cell (at_end2 la)⟩, ?_⟩
    walk_at "w"
    refine v_lenK (xs := zs) (lk_cell (at_end2 la)) ?_
    walk_at "w"
    refine ⟨n, x', c + i, _, rfl, app_get_lt (app_get_lt (List.getElem?_set_self hn)), hB', by omega, by omega, by omega, fun r x'' r0 r1 hB'' => ?_⟩
    rw [set_app1 (by rw [List.length_append, la]; omega), set_app1 (by omega), set_set']
    have la' : (cs.set n x'').length = cs.length := List.length_set ..
    walk_at "w"
    obtain ⟨j, rfl⟩ := Int.eq_ofNat_of_zero_le r0
    have hj : j < zs.length := by omega
    refine ⟨cs.length, zs, j, zs[j], rfl, rfl, at_end2 la', List.getElem?_eq_getElem hj, by omega, ?_⟩
    dsimp only
    rw [set_end2 la']
    walk_at "w"
    refine ⟨cs.length + 1, ys, _, rfl, rfl, at_end (by rw [List.length_append, la']; rfl), by rw [hyl]; exact Nat.lt_of_le_of_lt hi (Nat.lt_of_le_of_lt hz (by decide)), ?_⟩
    dsimp only
    rw [set_end (by rw [List.length_append, la']; rfl)]
    walk_at "w"
    refine ⟨by omega, ys ++ [zs[j]], zs.eraseIdx j, x'', _, ?_, by rw [List.length_append, hyl]; rfl, ?_, rfl⟩
    · refine List.Perm.trans ?_ hp
      rw [List.append_assoc]
      refine List.Perm.append_left ys ?_
      exact (perm_idx hj)
    · rw [show c + ((i + 1 : Nat) : Int) = c + i + 1 by omega]; exact hB''
  · rintro e2 ⟨hi, ys, zs, x', o, hp, hyl, hB', rfl⟩
    refine ⟨trivial, ?_⟩
    have e0 : (intsD 0 (xs.length : Int).toNat).length = xs.length := by rw [intsD_len]; omega
    rw [e0] at hyl hB'
    walk_at "w"
    have la : (cs.set n x').length = cs.length := List.length_set ..
    have zn : zs = [] := by
      have := hp.length_eq
      rw [List.length_append, hyl] at this
      exact List.length_eq_zero_iff.mp (by omega)
    subst zn
    rw [List.append_nil] at hp
    have tk : (cs.set n x' ++ [Cel.lst []] ++ [Cel.lst ys]).take cs.length = cs.set n x' := by
      rw [List.append_assoc]; exact List.take_left' la
    have lx := lk_los hl (hd _ (by simp)) hc
    refine .inr (.inr ⟨cs.length + 1, ys, rfl, by omega, at_end (by rw [List.length_append, la]; rfl), los_iff.mpr fun y hy => los_iff.mp lx y (hp.mem_iff.mp hy), ?_, ?_⟩)
    · rw [tk]
      obtain ⟨a, b, k, rfl, _⟩ := hB'
      exact set_lo rfl
    · rw [tk]
      have := q ys x' hp hB'
      unfold DL.fresh at this
      rw [la] at this
      exact this
end
section
/-! plans that grow column by column -/
theorem opAt_end {os : List Op} {n : Nat} (h : os.length = n) (o : Op) (rest : List Op) : opAt (os ++ o :: rest) n = o := by
  unfold opAt
  rw [List.getD_eq_getElem?_getD, List.getElem?_append_right (by omega), h, Nat.sub_self]; rfl
theorem opAt_end1 {os : List Op} {n : Nat} (h : os.length = n) (o o2 : Op) (rest : List Op) : opAt (os ++ o :: o2 :: rest) (n + 1) = o2 := by
  unfold opAt
  rw [List.getD_eq_getElem?_getD, List.getElem?_append_right (by omega), h, show n + 1 - n = 1 by omega]; rfl
theorem colAt_end {pre : List (List Int)} (c : List Int) (rest : List (List Int)) : colAt (pre ++ c :: rest) pre.length = c := by
  unfold colAt
  rw [List.getD_eq_getElem?_getD, List.getElem?_append_right (Nat.le_refl _), Nat.sub_self]; rfl
theorem colAt_end1 {pre : List (List Int)} (c c2 : List Int) (rest : List (List Int)) : colAt (pre ++ c :: c2 :: rest) (pre.length + 1) = c2 := by
  unfold colAt
  rw [List.getD_eq_getElem?_getD, List.getElem?_append_right (by omega), show pre.length + 1 - pre.length = 1 by omega]; rfl
variable {b r : Int} {pre : List (List Int)} {os : List Op} {c c2 : List Int} {o : Op}
theorem stF_snoc0 (hl : os.length = pre.length) (rest : List (List Int)) (orest : List Op) : stFo b (pre ++ rest) (os ++ orest) pre.length = stFo b pre os pre.length := stF_congr2 fun k hk => ⟨opAt_lt (by omega), colAt_lt hk⟩
theorem stF_snoc (P : Plan b r pre os) : stFo b (pre ++ [c]) (os ++ [o]) (pre.length + 1) = advo (stFo b pre os pre.length) (stepT b c (colAt (pre ++ [c]) (pre.length - 1)) o (stFo b pre os pre.length).2.1) o := by
  rw [stFo, stF_snoc0 P.len, opAt_end P.len, colAt_end]
theorem plan_grow (P : Plan b r pre os) (ho : okO b r o) (hs : okS b c (colAt (pre ++ [c]) (pre.length - 1)) pre.length (pre.length + 1) o (stFo b pre os pre.length).2.1) (hw : ∀ i, i + 1 = pre.length → opAt os i ≠ .swap := by intros; assumption) : Plan b r (pre ++ [c]) (os ++ [o]) := by
  have hl := P.len
  refine ⟨by rw [List.length_append, List.length_append, hl]; rfl, fun i hi => ?_, fun i hi => ?_, fun i hi h => ?_⟩
  · rcases Nat.lt_or_ge i pre.length with z | z
    · rw [opAt_lt (by omega)]; exact P.ok i z
    · have e : i = pre.length := by rw [List.length_append] at hi; simp at hi; omega
      subst e; rw [opAt_end hl]; exact ho
  · rcases Nat.lt_or_ge i pre.length with z | z
    · rw [opAt_lt (by omega), colAt_lt z, colAt_lt (k := i - 1) (by omega), show stFo b (pre ++ [c]) (os ++ [o]) i = stFo b pre os i from stF_congr2 fun k hk => ⟨opAt_lt (by omega), colAt_lt (by omega)⟩]
      have h1 := P.st i z
      cases hoi : opAt os i with
      | swap =>
        rw [hoi] at h1
        have h2 : i + 1 ≠ pre.length := h1
        rw [List.length_append]
        show i + 1 ≠ _
        have := hw i
        omega
      | _ => rw [hoi] at h1; exact h1
    · have e : i = pre.length := by rw [List.length_append] at hi; simp at hi; omega
      subst e
      rw [opAt_end hl, stF_snoc0 hl, List.length_append, colAt_end]
      exact hs
  · rcases Nat.lt_or_ge (i + 1) pre.length with z | z
    · rw [opAt_lt (by omega)] at h ⊢
      exact P.sw i z h
    · have e : i + 1 = pre.length := by rw [List.length_append] at hi; simp at hi; omega
      rw [opAt_lt (by omega)] at h
      have h1 := P.st i (by omega)
      rw [h] at h1
      exact absurd e h1
/-- no swap waits at a plan's end -/
theorem Plan.noswap (P : Plan b r pre os) : ∀ i, i + 1 = pre.length → opAt os i ≠ .swap := fun i e h => by
  have h1 := P.st i (by omega)
  rw [h] at h1
  exact absurd e h1
theorem plan_one' (P : Plan b r pre os) (ho : okO b r o) (hs : okS b c (colAt (pre ++ [c]) (pre.length - 1)) pre.length (pre.length + 1) o (stFo b pre os pre.length).2.1) : Plan b r (pre ++ [c]) (os ++ [o]) := plan_grow P ho hs P.noswap
theorem plan_two (P : Plan b r pre os) : Plan b r (pre ++ [c, c2]) (os ++ [.swap, .right]) := by
  have hl := P.len
  have at3 : ∀ i, pre.length < i → opAt (os ++ [.swap, .right]) i = .right := fun i hi => by
    unfold opAt
    rw [List.getD_eq_getElem?_getD, List.getElem?_append_right (by omega), hl]
    obtain ⟨j, hj⟩ : ∃ j, i - pre.length = j + 1 := ⟨i - pre.length - 1, by omega⟩
    rw [hj]
    cases j <;> rfl
  refine ⟨by rw [List.length_append, List.length_append, hl]; rfl, fun i hi => ?_, fun i hi => ?_, fun i hi h => ?_⟩
  · rcases Nat.lt_trichotomy i pre.length with z | z | z
    · rw [opAt_lt (by omega)]; exact P.ok i z
    · subst z; rw [opAt_end hl]; trivial
    · rw [at3 i z]; trivial
  · rcases Nat.lt_trichotomy i pre.length with z | z | z
    · rw [opAt_lt (by omega), colAt_lt z, colAt_lt (k := i - 1) (by omega), show stFo b (pre ++ [c, c2]) (os ++ [.swap, .right]) i = stFo b pre os i from stF_congr2 fun k hk => ⟨opAt_lt (by omega), colAt_lt (by omega)⟩]
      have h1 := P.st i z
      cases hoi : opAt os i with
      | swap =>
        rw [hoi] at h1
        have h2 : i + 1 ≠ pre.length := h1
        rw [List.length_append]
        show i + 1 ≠ _
        simp
        omega
      | _ => rw [hoi] at h1; exact h1
    · subst z; rw [opAt_end hl]
      show pre.length + 1 ≠ _
      rw [List.length_append]; simp
    · rw [at3 i z]; trivial
  · rcases Nat.lt_trichotomy i pre.length with z | z | z
    · rw [opAt_lt (by omega)] at h
      rcases Nat.lt_or_ge (i + 1) pre.length with y | y
      · rw [opAt_lt (by omega)]; exact P.sw i y h
      · exact absurd h (P.noswap i (by omega))
    · subst z; exact at3 _ (by omega)
    · exact at3 _ (by omega)
theorem stF_two (P : Plan b r pre os) : stFo b (pre ++ [c, c2]) (os ++ [.swap, .right]) (pre.length + 2) = ((stFo b pre os pre.length).1 ++ [(c2.sum + (c.sum + (stFo b pre os pre.length).2.1) / b) % b, (c.sum + (stFo b pre os pre.length).2.1) % b], (c2.sum + (c.sum + (stFo b pre os pre.length).2.1) / b) / b, none) := by
  rw [show pre.length + 2 = pre.length + 1 + 1 from rfl, stFo, stFo, stF_snoc0 P.len, opAt_end P.len, colAt_end, opAt_end1 P.len, colAt_end1]
  have h := stF_end P
  generalize stFo b pre os pre.length = st at *
  obtain ⟨F, k, w⟩ := st
  simp only at h
  subst h
  rfl
/-- slips of a plan that grows -/
theorem slFo_snoc : ∀ (os : List Op) (k : Nat) (o : Op), slFo k (os ++ [o]) = slFo k os ++ (if o = .right then [] else [(k + os.length, o)])
  | [], k, o => by show (if o = .right then [] else [(k, o)]) ++ slFo (k + 1) [] = _; rw [show slFo (k + 1) [] = [] from rfl, List.append_nil]; rfl
  | a :: os, k, o => by
    rw [List.cons_append, slFo, slFo_snoc os (k + 1) o, slFo, List.append_assoc, List.length_cons, show k + 1 + os.length = k + (os.length + 1) by omega]
theorem slFo_two (os : List Op) : slFo 0 (os ++ [.swap, .right]) = slFo 0 os ++ [(os.length, .swap)] := by
  rw [show os ++ [Op.swap, Op.right] = (os ++ [.swap]) ++ [.right] by simp, slFo_snoc, slFo_snoc, if_pos rfl, if_neg (fun h => nomatch h), List.append_nil, Nat.zero_add]
theorem slFo_rts' (os : List Op) (n : Nat) : slFo 0 (os ++ rts n) = slFo 0 os := by
  induction n with
  | zero => show slFo 0 (os ++ []) = _; rw [List.append_nil]
  | succ n ih =>
    rw [show rts (n + 1) = rts n ++ [.right] from List.replicate_succ', ← List.append_assoc, slFo_snoc, if_pos rfl, List.append_nil, ih]
/-- behind a plan all columns rightly: the carry and the others as one number -/
theorem stF_rest {cols more : List (List Int)} {ops : List Op} (g : 2 ≤ b) (P : Plan b r cols ops) : stFo b (cols ++ more) (ops ++ rts more.length) (cols ++ more).length =
    ((stFo b cols ops cols.length).1 ++ dg b more.length ((stFo b cols ops cols.length).2.1 + val b more), ((stFo b cols ops cols.length).2.1 + val b more) / b ^ more.length, none) := by
  obtain ⟨G, k, h1, h2, h3⟩ := stF_more (more := more) P more.length (Nat.le_refl _)
  rw [List.length_append, h2]
  have hf := stF_fig (b := b) g (cols := cols ++ more) (ops := ops ++ rts more.length) (cols.length + more.length)
  rw [h2] at hf
  have hG : ∀ x ∈ G, 0 ≤ x ∧ x < b := fun x hx => hf.1 x (List.mem_append_right _ hx)
  rw [List.take_length] at h3
  have e : valW b k G = (stFo b cols ops cols.length).2.1 + val b more := by
    have h4 : valW b k ((stFo b cols ops cols.length).1 ++ G) = valW b 0 (stFo b cols ops cols.length).1 + b ^ (stFo b cols ops cols.length).1.length * valW b k G := by
      rw [valW_top, valW_app, valW_top b k G, List.length_append, Int.pow_add, Int.mul_add]
      rw [show k * (b ^ (stFo b cols ops cols.length).1.length * b ^ G.length) = b ^ (stFo b cols ops cols.length).1.length * (k * b ^ G.length) by rw [Int.mul_left_comm]]
      omega
    rw [h4, valW_top b (stFo b cols ops cols.length).2.1] at h3
    have hp : (0 : Int) < b ^ (stFo b cols ops cols.length).1.length := Int.pow_pos (by omega)
    have h5 : b ^ (stFo b cols ops cols.length).1.length * valW b k G = b ^ (stFo b cols ops cols.length).1.length * ((stFo b cols ops cols.length).2.1 + val b more) := by
      rw [Int.mul_add, Int.mul_comm _ (stFo b cols ops cols.length).2.1]
      omega
    exact Int.eq_of_mul_eq_mul_left (by omega) h5
  obtain ⟨u1, u2⟩ := dg_uniq (by omega) G k _ hG e
  rw [h1] at u1 u2
  rw [← u1, ← u2]
end
section
theorem val_at {b : Int} (hb : 0 < b) (pre rest : List (List Int)) : val b (pre ++ rest) / b ^ pre.length = val b pre / b ^ pre.length + val b rest := by
  rw [val_app, Int.add_mul_ediv_left _ _ (Int.ne_of_gt (Int.pow_pos hb))]
theorem valW2 (b k x y : Int) (D : List Int) : valW b k (D ++ [x]) = valW b k (D ++ [y]) + (x - y) * b ^ D.length := by
  rw [valW_top, valW_top b k (D ++ [y]), valW_app, valW_app, List.length_append, List.length_append]
  simp only [valW, List.length_cons, List.length_nil, Nat.zero_add, Int.mul_zero, Int.add_zero]
  rw [Int.sub_mul, Int.mul_comm x, Int.mul_comm y]
  omega
theorem valW_succ (b k : Int) (F : List Int) : valW b (k + 1) F = valW b k F + b ^ F.length := by
  rw [valW_top, valW_top b k F, Int.add_mul, Int.one_mul]; omega
theorem valW_swap (b k x y : Int) (D : List Int) : valW b k (D ++ [y, x]) = valW b k (D ++ [x, y]) + ((y - x) * b ^ D.length + (x - y) * b ^ (D.length + 1)) := by
  rw [valW_top, valW_top b k (D ++ [x, y]), valW_app, valW_app, List.length_append, List.length_append]
  simp only [valW, List.length_cons, List.length_nil, Nat.zero_add, Int.mul_zero, Int.add_zero]
  have e : b ^ (D.length + 1) = b ^ D.length * b := Int.pow_succ ..
  rw [e]
  generalize b ^ D.length = B
  grind
theorem Gd.left {b r : Int} {cols more : List (List Int)} (g : Gd b r (cols ++ more)) : Gd b r cols := ⟨g.b2, g.b12, g.r1, g.r4, fun x hx => g.c x (List.mem_append_left _ hx), by have := g.n; rw [List.length_append] at this; omega⟩
theorem Gd.right {b r : Int} {cols more : List (List Int)} (g : Gd b r (cols ++ more)) : Gd b r more := ⟨g.b2, g.b12, g.r1, g.r4, fun x hx => g.c x (List.mem_append_right _ hx), by have := g.n; rw [List.length_append] at this; omega⟩
/-- the state behind columns done rightly -/
theorem stFo_R {b r : Int} {pre : List (List Int)} (g : Gd b r pre) : stFo b pre (rts pre.length) pre.length = (dg b pre.length (val b pre), val b pre / b ^ pre.length, none) :=
  Prod.ext (stFo_rts g).1 (Prod.ext (stFo_rts g).2 (stF_end (plan_rts b r pre)))
/-- the figures of a sheet, by its first columns -/
theorem fig_at {b : Int} (hb : 0 < b) (pre : List (List Int)) (c : List Int) (more : List (List Int)) : val b (pre ++ c :: more) / b ^ pre.length % b = (c.sum + val b pre / b ^ pre.length) % b := by
  rw [val_at hb]
  show (val b pre / b ^ pre.length + (c.sum + b * val b more)) % b = _
  rw [← Int.add_assoc, Int.add_mul_emod_self_left, Int.add_comm]
theorem fig_at1 {b : Int} (hb : 0 < b) (pre : List (List Int)) (c c2 : List Int) (more : List (List Int)) : val b (pre ++ c :: c2 :: more) / b ^ (pre.length + 1) % b = (c2.sum + (c.sum + val b pre / b ^ pre.length) / b) % b := by
  rw [Int.pow_succ, ← Int.ediv_ediv_of_nonneg (Int.le_of_lt (Int.pow_pos hb)), val_at hb]
  show (val b pre / b ^ pre.length + (c.sum + b * (c2.sum + b * val b more))) / b % b = _
  rw [← Int.add_assoc, Int.add_mul_ediv_left _ _ (by omega : b ≠ 0), ← Int.add_assoc, Int.add_mul_emod_self_left, Int.add_comm (val b pre / b ^ pre.length) c.sum, Int.add_comm (_ / b) c2.sum]
theorem val_part (b : Int) (pre : List (List Int)) (c : List Int) (more : List (List Int)) : val b (pre ++ c :: more) = val b pre + b ^ pre.length * c.sum + b ^ (pre.length + 1) * val b more := by
  rw [val_app]
  show _ + b ^ pre.length * (c.sum + b * val b more) = _
  rw [Int.mul_add, Int.pow_succ, Int.mul_assoc, Int.add_assoc]
theorem col_parts {cols : List (List Int)} {i : Nat} (hi : i < cols.length) : ∃ pre c more, cols = pre ++ c :: more ∧ pre.length = i :=
  ⟨cols.take i, cols[i], cols.drop (i + 1), by rw [← List.drop_eq_getElem_cons hi, List.take_append_drop], by rw [List.length_take]; omega⟩
/-- one deed at a column, all others rightly -/
theorem one_step {b r : Int} {pre more : List (List Int)} {c : List Int} (g : Gd b r (pre ++ c :: more)) {o : Op} (ho : okO b r o) (hs : okS b c (colAt (pre ++ [c]) (pre.length - 1)) pre.length (pre.length + 1) o (val b pre / b ^ pre.length)) {F : List Int} {k : Int}
    (hF : advo (dg b pre.length (val b pre), val b pre / b ^ pre.length, none) (stepT b c (colAt (pre ++ [c]) (pre.length - 1)) o (val b pre / b ^ pre.length)) o = (F, k, none)) (hne : o ≠ .right) :
    Plan b r (pre ++ c :: more) (rts pre.length ++ o :: rts more.length) ∧ slFo 0 (rts pre.length ++ o :: rts more.length) = [(pre.length, o)] ∧
    stFo b (pre ++ c :: more) (rts pre.length ++ o :: rts more.length) (pre ++ c :: more).length = (F ++ dg b more.length (k + val b more), (k + val b more) / b ^ more.length, none) := by
  have gp : Gd b r pre := g.left
  have st0 := stFo_R gp
  have P0 := plan_rts b r pre
  have P : Plan b r (pre ++ [c]) (rts pre.length ++ [o]) := plan_one' P0 ho (by rw [st0]; exact hs)
  have s1 : stFo b (pre ++ [c]) (rts pre.length ++ [o]) (pre ++ [c]).length = (F, k, none) := by
    rw [List.length_append, show pre.length + [c].length = pre.length + 1 from rfl, stF_snoc P0, st0]
    exact hF
  have s2 := stF_rest (more := more) g.b2 P
  rw [s1] at s2
  have ec : pre ++ [c] ++ more = pre ++ c :: more := by rw [List.append_assoc]; rfl
  have eo : rts pre.length ++ [o] ++ rts more.length = rts pre.length ++ o :: rts more.length := by rw [List.append_assoc]; rfl
  refine ⟨?_, ?_, ?_⟩
  · have := plan_more (more := more) P
    rw [ec, eo] at this
    exact this
  · rw [← eo, slFo_rts', slFo_snoc, slF_rts, if_neg hne, show (rts pre.length).length = pre.length from List.length_replicate, Nat.zero_add]; rfl
  · rw [ec, eo] at s2
    exact s2
theorem val_tail {b : Int} (hb : 0 < b) (F : List Int) (k : Int) (more : List (List Int)) : valW b ((k + val b more) / b ^ more.length) (F ++ dg b more.length (k + val b more)) = valW b k F + b ^ F.length * val b more := by
  have h := dg_val b more.length (k + val b more) hb
  rw [valW_top, valW_app, List.length_append, dg_len]
  rw [valW_top, dg_len] at h
  have e : b ^ F.length * (valW b 0 (dg b more.length (k + val b more)) + (k + val b more) / b ^ more.length * b ^ more.length) = b ^ F.length * (k + val b more) := by rw [h]
  rw [Int.mul_add, Int.mul_add] at e
  rw [valW_top b k F, Int.pow_add, Int.mul_comm k]
  have e2 : (k + val b more) / b ^ more.length * (b ^ F.length * b ^ more.length) = b ^ F.length * ((k + val b more) / b ^ more.length * b ^ more.length) := by rw [Int.mul_left_comm]
  omega
theorem one_any {b r : Int} {cols : List (List Int)} (g : Gd b r cols) {i : Nat} (hi : i < cols.length) {o : Op} (ho : (∃ d, o = .off d ∧ 1 ≤ d ∧ d < b) ∨ (o = .swap ∧ i + 1 < cols.length) ∨ o = .again) :
    ∃ ops, Plan b r cols ops ∧ slFo 0 ops = [(i, o)] ∧ valW b (stFo b cols ops cols.length).2.1 (stFo b cols ops cols.length).1 = val b cols + effO b i (val b cols) o := by
  have b2 := g.b2
  have hb : 0 < b := by omega
  obtain ⟨pre, c, more, rfl, hp⟩ := col_parts hi
  subst hp
  have dl := dg_len b pre.length (val b pre)
  have v0 : valW b (val b pre / b ^ pre.length) (dg b pre.length (val b pre)) = val b pre := dg_val b _ _ hb
  rcases ho with ⟨d, rfl, d1, d2⟩ | ⟨rfl, hi2⟩ | rfl
  · obtain ⟨p1, p2, p3⟩ := one_step (o := .off d) g ⟨d1, d2⟩ trivial rfl (fun h => nomatch h)
    refine ⟨_, p1, p2, ?_⟩
    rw [p3]
    dsimp only
    rw [val_tail hb, List.length_append, dl, val_part]
    show valW b ((c.sum + val b pre / b ^ pre.length) / b) (dg b pre.length (val b pre) ++ [((c.sum + val b pre / b ^ pre.length) % b + d) % b]) + _ = _ + ((_ / _ % b + d) % b - _ / _ % b) * _
    rw [← val_part, fig_at hb, valW2 b _ _ ((c.sum + val b pre / b ^ pre.length) % b), top_step, v0, dl, val_part]
    show _ + b ^ (pre.length + 1) * _ = _
    omega
  · cases more with
    | nil => rw [List.length_append] at hi2; simp at hi2
    | cons c2 more =>
    have gp : Gd b r pre := g.left
    have st0 := stFo_R gp
    have P0 := plan_rts b r pre
    have P := plan_two (c := c) (c2 := c2) P0
    have s1 := stF_two (c := c) (c2 := c2) P0
    rw [st0] at s1
    have s2 := stF_rest (more := more) g.b2 P
    rw [show (pre ++ [c, c2]).length = pre.length + 2 by rw [List.length_append]; rfl, s1] at s2
    have ec : pre ++ [c, c2] ++ more = pre ++ c :: c2 :: more := by rw [List.append_assoc]; rfl
    have PP := plan_more (more := more) P
    rw [ec] at PP s2
    refine ⟨_, PP, ?_, ?_⟩
    · rw [slFo_rts', slFo_two, slF_rts, show (rts pre.length).length = pre.length from List.length_replicate]; rfl
    · rw [s2]
      dsimp only
      rw [val_tail hb, List.length_append, dl, valW_swap b _ ((c.sum + val b pre / b ^ pre.length) % b) ((c2.sum + (c.sum + val b pre / b ^ pre.length) / b) % b)]
      have q1 := top_step (b := b) (k := val b pre / b ^ pre.length) (z := c.sum) (W := dg b pre.length (val b pre))
      have q2 := top_step (b := b) (k := (c.sum + val b pre / b ^ pre.length) / b) (z := c2.sum) (W := dg b pre.length (val b pre) ++ [(c.sum + val b pre / b ^ pre.length) % b])
      rw [List.append_assoc] at q2
      rw [show ([(c.sum + val b pre / b ^ pre.length) % b] ++ [(c2.sum + (c.sum + val b pre / b ^ pre.length) / b) % b] : List Int) = [(c.sum + val b pre / b ^ pre.length) % b, (c2.sum + (c.sum + val b pre / b ^ pre.length) / b) % b] from rfl, q1, v0, List.length_append, dl] at q2
      rw [q2, dl]
      show _ = _ + ((_ / _ % b - _ / _ % b) * _ + (_ / _ % b - _ / _ % b) * _)
      rw [fig_at hb, fig_at1 hb, val_part]
      show _ + b ^ (pre.length + 1) * c2.sum + _ + b ^ (pre.length + 2) * val b more = _ + b ^ (pre.length + 1) * (c2.sum + b * val b more) + _
      have e3 : b ^ (pre.length + 2) * val b more = b ^ (pre.length + 1) * (b * val b more) := by rw [Int.pow_succ, Int.mul_assoc]
      rw [e3, Int.mul_add]
      omega
  · obtain ⟨p1, p2, p3⟩ := one_step (o := .again) g trivial trivial rfl (fun h => nomatch h)
    refine ⟨_, p1, p2, ?_⟩
    rw [p3]
    dsimp only
    rw [val_tail hb, List.length_append, dl]
    show valW b ((c.sum + val b pre / b ^ pre.length) / b + 1) (dg b pre.length (val b pre) ++ [(c.sum + val b pre / b ^ pre.length) % b]) + _ = _ + b ^ (pre.length + 1)
    rw [valW_succ, top_step, v0, List.length_append, dl, val_part]
    show _ + b ^ (pre.length + 1) + _ = _
    show _ + b ^ (pre.length + 1) + b ^ (pre.length + 1) * _ = _
    omega
end
section
/-! slips off and swap, column by column -/
structure Mi (b r : Int) (cols : List (List Int)) (a : Nat) (os : List Op) (A : List Int) : Prop where
  le : a ≤ cols.length
  p : Plan b r (cols.take a) os
  st : stFo b (cols.take a) os a = (A, val b (cols.take a) / b ^ a, none)
  al : A.length = a
  only : ∀ x ∈ slFo 0 os, x.1 < cols.length ∧ ((∃ d, x.2 = .off d ∧ 1 ≤ d ∧ d < b) ∨ (x.2 = .swap ∧ x.1 + 1 < cols.length))
  eff : ((slFo 0 os).map fun x => effO b x.1 (val b cols) x.2).sum = valW b 0 A - valW b 0 (dg b a (val b cols))
variable {b r : Int} {cols : List (List Int)} {a : Nat} {os : List Op} {A : List Int}
theorem take_parts {cols : List (List Int)} {a : Nat} (h : a < cols.length) : ∃ c, cols.take (a + 1) = cols.take a ++ [c] ∧ cols = cols.take a ++ c :: cols.drop (a + 1) ∧ (cols.take a).length = a :=
  ⟨cols[a], by rw [List.take_add_one, List.getElem?_eq_getElem h]; rfl, by rw [← List.drop_eq_getElem_cons h, List.take_append_drop], by rw [List.length_take]; omega⟩
theorem carry_next {b : Int} (hb : 0 < b) {cols : List (List Int)} {a : Nat} {c : List Int} (h : cols.take (a + 1) = cols.take a ++ [c]) (hl : (cols.take a).length = a) : val b (cols.take (a + 1)) / b ^ (a + 1) = (c.sum + val b (cols.take a) / b ^ a) / b := by
  have e := val_at hb (cols.take a) [c]
  rw [hl, ← h] at e
  rw [Int.pow_succ, ← Int.ediv_ediv_of_nonneg (Int.le_of_lt (Int.pow_pos hb)), e]
  show (_ + (c.sum + b * 0)) / b = _
  rw [Int.mul_zero, Int.add_zero, Int.add_comm]
theorem fig_next {b : Int} (hb : 0 < b) {cols : List (List Int)} {a : Nat} {c : List Int} (h : cols = cols.take a ++ c :: cols.drop (a + 1)) (hl : (cols.take a).length = a) : val b cols / b ^ a % b = (c.sum + val b (cols.take a) / b ^ a) % b := by
  have e := fig_at hb (cols.take a) c (cols.drop (a + 1))
  rw [← h, hl] at e
  exact e
theorem Mi.zero (b r : Int) (cols : List (List Int)) : Mi b r cols 0 [] [] where
  le := Nat.zero_le _
  p := ⟨rfl, fun i h => absurd h (Nat.not_lt_zero _), fun i h => absurd h (Nat.not_lt_zero _), fun i h => absurd h (Nat.not_lt_zero _)⟩
  st := by show (([], 0, none) : St) = ([], (0 : Int) / b ^ 0, none); rw [Int.zero_ediv]
  al := rfl
  only := fun _ h => nomatch h
  eff := rfl
theorem Mi.right (g : Gd b r cols) (M : Mi b r cols a os A) (h : a < cols.length) : Mi b r cols (a + 1) (os ++ [.right]) (A ++ [val b cols / b ^ a % b]) := by
  have b2 := g.b2
  have hb : 0 < b := by omega
  obtain ⟨c, h1, h2, hl⟩ := take_parts h
  have P' := plan_one' (c := c) M.p (o := .right) trivial trivial
  have s' := stF_snoc (c := c) (o := .right) M.p
  have st := M.st
  rw [hl, st] at s'
  rw [← h1] at P' s'
  refine ⟨h, P', ?_, by rw [List.length_append, M.al]; rfl, ?_, ?_⟩
  · rw [s', carry_next hb h1 hl, fig_next hb h2 hl]; rfl
  · rw [slFo_snoc, if_pos rfl, List.append_nil]; exact M.only
  · rw [slFo_snoc, if_pos rfl, List.append_nil, M.eff, dg_snoc hb, valW_app, valW_app, M.al, dg_len]
    omega
theorem Mi.off (g : Gd b r cols) (M : Mi b r cols a os A) (h : a < cols.length) {d : Int} (d1 : 1 ≤ d) (d2 : d < b) : Mi b r cols (a + 1) (os ++ [.off d]) (A ++ [(val b cols / b ^ a % b + d) % b]) := by
  have b2 := g.b2
  have hb : 0 < b := by omega
  obtain ⟨c, h1, h2, hl⟩ := take_parts h
  have P' := plan_one' (c := c) M.p (o := .off d) ⟨d1, d2⟩ trivial
  have s' := stF_snoc (c := c) (o := .off d) M.p
  have st := M.st
  rw [hl, st] at s'
  rw [← h1] at P' s'
  have hol : os.length = a := by rw [M.p.len, hl]
  refine ⟨h, P', ?_, by rw [List.length_append, M.al]; rfl, ?_, ?_⟩
  · rw [s', carry_next hb h1 hl, fig_next hb h2 hl]; rfl
  · rw [slFo_snoc, if_neg (fun z => nomatch z)]
    intro x hx
    rcases List.mem_append.mp hx with z | z
    · exact M.only x z
    · rw [List.mem_singleton] at z
      subst z
      exact ⟨by show 0 + os.length < _; omega, .inl ⟨d, rfl, d1, d2⟩⟩
  · rw [slFo_snoc, if_neg (fun z => nomatch z), List.map_append, List.sum_append, M.eff, dg_snoc hb, valW_app, valW_app, M.al, dg_len, hol, Nat.zero_add]
    show _ + (((val b cols / b ^ a % b + d) % b - val b cols / b ^ a % b) * b ^ a + 0) = _ + b ^ a * (_ + b * 0) - (_ + b ^ a * (_ + b * 0))
    rw [Int.sub_mul, Int.mul_zero, Int.add_zero, Int.add_zero, Int.add_zero, Int.mul_comm (b ^ a), Int.mul_comm (b ^ a)]
    omega
theorem Mi.swap (g : Gd b r cols) (M : Mi b r cols a os A) (h : a + 1 < cols.length) : Mi b r cols (a + 2) (os ++ [.swap, .right]) (A ++ [val b cols / b ^ (a + 1) % b, val b cols / b ^ a % b]) := by
  have b2 := g.b2
  have hb : 0 < b := by omega
  obtain ⟨c, h1, h2, hl⟩ := take_parts (show a < cols.length by omega)
  obtain ⟨c2, h3, h4, hl2⟩ := take_parts h
  have h5 : cols.take (a + 2) = cols.take a ++ [c, c2] := by rw [h3, h1, List.append_assoc]; rfl
  have P' := plan_two (c := c) (c2 := c2) M.p
  have s' := stF_two (c := c) (c2 := c2) M.p
  have st := M.st
  rw [hl, st] at s'
  rw [← h5] at P' s'
  have hol : os.length = a := by rw [M.p.len, hl]
  refine ⟨by omega, P', ?_, by rw [List.length_append, M.al]; rfl, ?_, ?_⟩
  · rw [s', carry_next hb h3 hl2, carry_next hb h1 hl, fig_next hb h4 hl2, carry_next hb h1 hl, fig_next hb h2 hl]
  · rw [slFo_two]
    intro x hx
    rcases List.mem_append.mp hx with z | z
    · exact M.only x z
    · rw [List.mem_singleton] at z
      subst z
      exact ⟨by show os.length < _; omega, .inr ⟨rfl, by show os.length + 1 < _; omega⟩⟩
  · rw [slFo_two, List.map_append, List.sum_append, M.eff, show a + 2 = a + 1 + 1 from rfl, dg_snoc hb, dg_snoc hb, hol]
    have e1 := valW_app b [val b cols / b ^ (a + 1) % b, val b cols / b ^ a % b] A
    have e2 := valW_app b [val b cols / b ^ a % b] (dg b a (val b cols))
    have e3 := valW_app b [val b cols / b ^ (a + 1) % b] (dg b a (val b cols) ++ [val b cols / b ^ a % b])
    rw [e1, e3, e2, M.al, dg_len, List.length_append, dg_len]
    show _ + ((val b cols / b ^ (a + 1) % b - val b cols / b ^ a % b) * b ^ a + (val b cols / b ^ a % b - val b cols / b ^ (a + 1) % b) * b ^ (a + 1) + 0) =
      _ + b ^ a * (val b cols / b ^ (a + 1) % b + b * (val b cols / b ^ a % b + b * 0)) - (_ + b ^ a * (val b cols / b ^ a % b + b * 0) + b ^ (a + 1) * (val b cols / b ^ (a + 1) % b + b * 0))
    generalize val b cols / b ^ (a + 1) % b = x
    generalize val b cols / b ^ a % b = y
    have e : b ^ (a + 1) = b ^ a * b := Int.pow_succ ..
    rw [e]
    generalize b ^ a = B
    grind
theorem Mi.done (M : Mi b r cols cols.length os A) : Mkd b r cols os A := by
  have p := M.p
  have st := M.st
  rw [List.take_length] at p st
  exact ⟨p, st, M.only, M.al, M.eff⟩
end
section
variable {K : PySem.W.Frag}
theorem st_lpow {a b : D} : startD N_law_power [a, b] = [some a, some b, none, none] := rfl
theorem len_law_power : ∀ ds cs Q, sp_law_power K ds cs Q → ds.length = 2 := by rintro ds cs Q ⟨_, _, rfl, _⟩; rfl
theorem vc_law_power : ∀ ds cs Q, Lo ds cs → LoC cs → sp_law_power K ds cs Q → t_law_power K (Po.fn cs Q) ⟨startD N_law_power ds, cs⟩ := by
  rintro ds cs Q hd hc ⟨b, m, rfl, b2, b12, k0, k1, q⟩
  obtain ⟨m, rfl⟩ := Int.eq_ofNat_of_zero_le k0
  rw [st_lpow]
  unfold t_law_power
  walk_at "w"
  refine ⟨fun i e => i ≤ m ∧ ∃ o, e = ⟨[some (.int b), some (.int (m : Nat)), some (.int (b ^ i)), o], cs⟩, ⟨Nat.zero_le _, none, congrArg (fun z => (⟨[some (.int b), some (.int (m : Nat)), some (.int z), none], cs⟩ : En)) (Int.pow_zero b).symm⟩, ?_, ?_⟩
  · rintro k y e2 hy ⟨hk, o, rfl⟩
    obtain ⟨hlt, rfl⟩ := intsD_get hy
    refine ⟨trivial, _, rfl, ?_⟩
    walk_at "w"
    rw [← Int.pow_succ]
    have hlt' : k < m := by simpa using hlt
    exact ⟨hlt', _, rfl⟩
  · rintro e2 ⟨hk, o, rfl⟩
    refine ⟨trivial, ?_⟩
    rw [intsD_len]
    walk_at "w"
    exact .inl q
end
section
variable {K : PySem.W.Frag}
theorem st_lcol {a b c : D} : startD N_law_column [a, b, c] = [some a, some b, some c, none] := rfl
theorem len_law_column : ∀ ds cs Q, sp_law_column K ds cs Q → ds.length = 3 := by rintro ds cs Q ⟨_, _, _, _, _, rfl, _⟩; rfl
theorem vc_law_column : ∀ ds cs Q, Lo ds cs → LoC cs → sp_law_column K ds cs Q → t_law_column K (Po.fn cs Q) ⟨startD N_law_column ds, cs⟩ := by
  rintro ds cs Q hd hc ⟨n, x, c, b, r, rfl, hx, hB, hc1, b2, b12, r1, r4, q⟩
  rw [st_lcol]
  unfold t_law_column
  have hn : n < cs.length := (List.getElem?_eq_some_iff.mp hx).1
  walk_at "w"
  refine ⟨sz_le (by rw [intsD_len]; omega), fun j acc cs1 => ∃ (ys : List Int) (x4 : Cel), acc = ys.map .int ∧ ys.length = j ∧ (∀ y ∈ ys, 0 ≤ y ∧ y < b) ∧ Bg (c + j) x4 ∧ cs1 = cs.set n x4, ⟨[], x, rfl, rfl, fun _ h => (nomatch h), by simpa using hB, by rw [set_self hx]⟩, ?_, ?_⟩
  · rintro j d acc cs1 hd' ⟨ys, x4, rfl, yl, yr, hB4, rfl⟩
    obtain ⟨hjt, rfl⟩ := intsD_get hd'
    refine ⟨trivial, _, rfl, ?_⟩
    walk_at "w"
    refine ⟨n, x4, _, _, rfl, List.getElem?_set_self hn, hB4, by omega, by omega, by omega, fun v x5 v0 v1 hB5 => ?_⟩
    rw [set_set']
    refine ⟨ys ++ [v], x5, by rw [List.map_append]; rfl, by rw [List.length_append, yl]; rfl, fun y hy => ?_, hB5.le (by omega), rfl⟩
    rcases List.mem_append.mp hy with h | h
    · exact yr y h
    · rw [List.mem_singleton] at h; subst h; exact ⟨v0, v1⟩
  · rintro acc cs1 ha ⟨ys, x4, rfl, yl, yr, hB4, rfl⟩
    rw [intsD_len] at yl hB4
    refine ⟨trivial, ?_⟩
    walk_at "w"
    refine v_tupL (xs := ys.map .int) rfl (fun _ h => nomatch h) ?_
    exact .inl (q ys x4 (okC_of (by omega) yr) (hB4.le (by omega)))
end
section
variable {K : PySem.W.Frag}
theorem v_ninE' {α : Type} [DecidableEq α] {enc : α → D} {n : Nat} (h : EqE enc n) {a : α} {xs : List α} {e : En} {P : D → En → Prop} {x y : D} (hx : drf e.cs x = enc a) (hy : drf e.cs y = .lst (xs.map enc)) (p : P (.bl (!isIn a xs)) e) (hn : n + 1 ≤ 64 := by decide) : qIn true x y e P := by
  refine .inr ⟨_, hy, ?_, h.lst.shp hn xs, ?_⟩
  · rw [hx]
    exact h.shp (by omega) a
  · rw [hx, any_mem h]
    exact p
theorem isInI_of {a : Int} {xs : List Int} (h : a ∈ xs) : isIn a xs = true := by simpa [isIn] using h
theorem isInI_not {a : Int} {xs : List Int} (h : a ∉ xs) : isIn a xs = false := by simpa [isIn] using h
theorem st_llot {a b c : D} : startD N_law_lot [a, b, c] = [some a, some b, some c, none, none, none] := rfl
theorem len_law_lot : ∀ ds cs Q, sp_law_lot K ds cs Q → ds.length = 3 := by rintro ds cs Q ⟨_, _, _, _, _, rfl, _⟩; rfl
theorem vc_law_lot : ∀ ds cs Q, Lo ds cs → LoC cs → sp_law_lot K ds cs Q → t_law_lot K (Po.fn cs Q) ⟨startD N_law_lot ds, cs⟩ := by
  rintro ds cs Q hd hc ⟨n, x, c, m, g, rfl, hx, hB, hc1, m0, m8, g2, g60, q⟩
  rw [st_llot]
  unfold t_law_lot
  have hn : n < cs.length := (List.getElem?_eq_some_iff.mp hx).1
  walk_at "w"
  refine ⟨n, x, c, _, rfl, app_get_lt hx, hB, by omega, by omega, by omega, fun t x1 t0 t1 hB1 => ?_⟩
  obtain ⟨t, rfl⟩ := Int.eq_ofNat_of_zero_le t0
  rw [set_app1 hn]
  walk_at "w"
  refine ⟨fun i e => i ≤ t ∧ ∃ (l : List Int) (x' : Cel) (o4 o5 : Option D), l.Nodup ∧ (∀ d ∈ l, 2 ≤ d ∧ d ≤ g) ∧ l.length ≤ i ∧ Bg (c + 1 + i) x' ∧ e = ⟨[some (.cell n), some (.int m), some (.int g), some (.cell cs.length), o4, o5], cs.set n x' ++ [.lst (l.map .int)]⟩,
    ⟨Nat.zero_le _, [], x1, none, none, .nil, fun _ h => (nomatch h), Nat.le_refl _, by simpa using hB1, rfl⟩, ?_, ?_⟩
  · rintro i y e2 hy ⟨hi, l, x', o4, o5, nd, rg, ll, hB', rfl⟩
    obtain ⟨hlt, rfl⟩ := intsD_get hy
    rw [Int.toNat_natCast] at hlt
    have la : (cs.set n x').length = cs.length := List.length_set ..
    refine ⟨trivial, _, rfl, ?_⟩
    walk_at "w"
    refine ⟨n, x', _, _, rfl, app_get_lt (List.getElem?_set_self hn), hB', by omega, by omega, by omega, fun v x5 v0 v1 hB5 => ?_⟩
    rw [set_app1 (by omega), set_set']
    have la5 : (cs.set n x5).length = cs.length := List.length_set ..
    walk_at "w"
    refine v_ninE' encI (a := 2 + v) (xs := l) rfl (drf_lk (lk_cell (at_end la5))) ?_
    by_cases hm : (2 + v) ∈ l
    · rw [isInI_of hm]
      walk_at "w"
      exact ⟨hlt, l, x5, _, _, nd, rg, by omega, hB5.le (by omega), rfl⟩
    · rw [isInI_not hm]
      walk_at "w"
      refine ⟨⟨_, lk_cell (at_end la5)⟩, ?_⟩
      walk_at "w"
      refine ⟨cs.length, l.map .int, _, rfl, rfl, at_end la5, by rw [List.length_map]; exact Nat.lt_of_le_of_lt ll (Nat.lt_of_lt_of_le (show i < 1000 by omega) (by decide)), ?_⟩
      dsimp only
      rw [set_end la5]
      walk_at "w"
      refine ⟨hlt, l ++ [2 + v], x5, _, _, ?_, fun d hd => ?_, by rw [List.length_append]; simp; omega, hB5.le (by omega), by rw [List.map_append]; rfl⟩
      · rw [List.nodup_append]
        exact ⟨nd, by simp, fun a ha b hb e => by rw [List.mem_singleton] at hb; subst hb; subst e; exact hm ha⟩
      · rcases List.mem_append.mp hd with h | h
        · exact rg d h
        · rw [List.mem_singleton] at h; omega
  · rintro e2 ⟨hi, l, x', o4, o5, nd, rg, ll, hB', rfl⟩
    refine ⟨trivial, ?_⟩
    rw [intsD_len, Int.toNat_natCast] at ll hB'
    have la : (cs.set n x').length = cs.length := List.length_set ..
    walk_at "w"
    have := own_back2 (cs := cs) (cs1 := cs.set n x') (Q := Q) (xs := l.map D.int) la (by obtain ⟨a, b, k, rfl, _⟩ := hB'; exact set_lo rfl) (los_int _) (q l x' ⟨nd, fun d hd => ⟨(rg d hd).1, by have := (rg d hd).2; omega⟩, by omega⟩ (by omega) (hB'.le (by omega)))
    rw [la] at this
    exact this
end
section
variable {K : PySem.W.Frag}
theorem st_lwrt {a b : D} : startD N_law_written [a, b] = [some a, some b, none] := rfl
theorem len_law_written : ∀ ds cs Q, sp_law_written K ds cs Q → ds.length = 2 := by rintro ds cs Q ⟨_, _, _, _, _, _, _, rfl, _⟩; rfl
theorem vc_law_written : ∀ ds cs Q, Lo ds cs → LoC cs → sp_law_written K ds cs Q → t_law_written K (Po.fn cs Q) ⟨startD N_law_written ds, cs⟩ := by
  rintro ds cs Q hd hc ⟨d, d2, b, r, cols, ops, items, rfl, hk, hs, g, P, q⟩
  rw [st_lwrt]
  unfold t_law_written
  walk_at "w"
  rcases q with ⟨e, q⟩ | ⟨x, hb, q⟩
  · refine v_tryN (fun _ _ => False) ?_ (fun _ _ z => z.elim)
    walk_at "w"
    refine ⟨d, d2, b, r, cols, _, _, rfl, hk, hs, g, P, .inl ⟨e, ?_⟩⟩
    walk_at "w"
    exact .inl q
  · refine v_tryN (fun y cs' => y.c = "InvalidSlips" ∧ cs' = cs) ?_ ?_
    · walk_at "w"
      exact ⟨d, d2, b, r, cols, ops, _, rfl, hk, hs, g, P, .inr ⟨x, hb, rfl, rfl⟩⟩
    · rintro y cs' ⟨e, rfl⟩
      refine ⟨true, by rw [e]; exact List.mem_cons_self, fun _ => ?_, fun z => nomatch z⟩
      walk_at "w"
      exact .inl q
theorem gd_cry {b r k : Int} {cols : List (List Int)} (g : Gd b r cols) (h : r ≤ 3) (k0 : 0 ≤ k) (k1 : k < b) : Gd b (r + 1) (cryC k cols) := by
  have ok1 : ∀ c ∈ cols, ∀ z : Int, 0 ≤ z → z < b → okC b (r + 1) (c ++ [z]) = true := fun c hc z z0 z1 => by
    have h1 := g.c c hc
    unfold okC at h1 ⊢
    rw [Bool.and_eq_true] at h1 ⊢
    have := of_decide_eq_true h1.1
    refine ⟨decide_eq_true (by rw [List.length_append]; simp; omega), ?_⟩
    rw [List.all_append, h1.2]
    simp; omega
  refine ⟨g.b2, g.b12, by have := g.r1; omega, by omega, fun c hc => ?_, ?_⟩
  · cases cols with
    | nil => cases hc
    | cons c0 cols =>
      rcases List.mem_cons.mp hc with rfl | hc
      · exact ok1 c0 List.mem_cons_self k k0 k1
      · obtain ⟨c', h1, rfl⟩ := List.mem_map.mp hc
        exact ok1 c' (List.mem_cons_of_mem _ h1) 0 (Int.le_refl _) (by have := g.b2; omega)
  · have := g.n
    cases cols with
    | nil => exact this
    | cons c0 cols => show (cols.map _).length + 1 ≤ 1000; rw [List.length_map]; exact this
theorem cry_len (k : Int) (cols : List (List Int)) : (cryC k cols).length = cols.length := by
  cases cols with
  | nil => rfl
  | cons c cols => show (cols.map _).length + 1 = _; rw [List.length_map]; rfl
theorem val_cry (b k : Int) {cols : List (List Int)} (h : cols ≠ []) : val b (cryC k cols) = k + val b cols := by
  cases cols with
  | nil => exact absurd rfl h
  | cons c cols =>
    show (c ++ [k]).sum + b * val b (cols.map fun c => c ++ [0]) = k + (c.sum + b * val b cols)
    rw [val_zero, List.sum_append]; simp; omega
theorem st_lwith {a b : D} : startD N_law_with_carry [a, b] = [some a, some b, none, none] := rfl
theorem len_law_with_carry : ∀ ds cs Q, sp_law_with_carry K ds cs Q → ds.length = 2 := by rintro ds cs Q ⟨_, _, _, _, rfl, _⟩; rfl
theorem vc_law_with_carry : ∀ ds cs Q, Lo ds cs → LoC cs → sp_law_with_carry K ds cs Q → t_law_with_carry K (Po.fn cs Q) ⟨startD N_law_with_carry ds, cs⟩ := by
  rintro ds cs Q hd hc ⟨b, r, k, cols, rfl, g, hne, hr, k0, k1, hz, q⟩
  rw [st_lwith]
  unfold t_law_with_carry
  cases cols with
  | nil => exact absurd rfl hne
  | cons c0 cols =>
  have r1 := g.r1
  have add : ∀ c ∈ c0 :: cols, ∀ (z : Int) (e : En) (P : D → En → Prop), P (encC (c ++ [z])) e → qAdd false (encC c) (.tup [.int z]) e P := fun c hc z e P p => by
    have hl := okC_len (g.c c hc)
    refine v_addTT (xs := c.map .int) (fun y => ?_) (by rw [List.length_map]; have := g.r4; simp; omega) ?_
    · have : c = [] := List.map_eq_nil_iff.mp y
      rw [this] at hl
      simp at hl; omega
    · unfold encC at p
      rw [List.map_append] at p
      exact p
  walk_at "w"
  refine ⟨⟨_, _, rfl⟩, _, b, r, c0 :: cols, rfl, shF, .inl ?_⟩
  walk_at "w"
  refine v_ixK (xs := (c0 :: cols).map encC) rfl (y := encC c0) atI_zero ?_
  walk_at "w"
  refine add c0 List.mem_cons_self k _ _ ?_
  walk_at "w"
  refine ⟨⟨_, _, rfl⟩, _, b, r, c0 :: cols, rfl, shF, .inl ?_⟩
  walk_at "w"
  refine v_slL (xs := (c0 :: cols).map encC) rfl (fun _ h => nomatch h) (fun _ h => nomatch h) ?_
  rw [show (1 : Int) = ((1 : Nat) : Int) from rfl, cut_from]
  walk_at "w"
  refine v_lcY (e1 := ⟨_, _⟩) cols encC (fun c => encC (c ++ [0])) rfl (by simp at hz; omega) ?_ ?_
  · intro Q' i c hi q'
    refine ⟨_, rfl, ?_⟩
    walk_at "w"
    exact add c (List.mem_cons_of_mem _ (List.mem_of_getElem? hi)) 0 _ _ q'
  · walk_at "w"
    refine v_addL ⟨by rw [List.length_map]; simp at hz ⊢; omega, ?_⟩
    rw [show [encC (c0 ++ [k])] ++ (cols.map fun c => encC (c ++ [0])) = (cryC k (c0 :: cols)).map encC by show _ = encC (c0 ++ [k]) :: (cols.map fun c => c ++ [0]).map encC; rw [List.map_map]; rfl]
    walk_at "w"
    refine ⟨⟨_, _, rfl⟩, _, b, r, c0 :: cols, rfl, shF, ?_⟩
    walk_at "w"
    refine ⟨⟨_, _, rfl⟩, _, b, r, c0 :: cols, rfl, shF, ?_⟩
    walk_at "w"
    refine init_fz (gd_cry g hr k0 k1) ?_
    walk_at "w"
    have q' : Q (shD K b (r + 1) (cryC k (c0 :: cols))) cs := q
    exact .inl q'
end
section
variable {K : PySem.W.Frag}
theorem dg_cons {b : Int} (hb : 0 < b) {n a : Nat} (h : a < n) (v : Int) : (dg b n v).drop a = (v / b ^ a % b) :: (dg b n v).drop (a + 1) := by
  rw [List.drop_eq_getElem_cons (by rw [dg_len]; exact h)]
  congr 1
  have e := dg_getD hb n v a h
  rw [List.getD_eq_getElem?_getD, List.getElem?_eq_getElem (by rw [dg_len]; exact h)] at e
  exact e
theorem app_at {A T : List Int} {x : Int} {a : Nat} (h : A.length = a) : (A ++ x :: T)[a]? = some x := by
  rw [List.getElem?_append_right (by omega), h, Nat.sub_self]; rfl
theorem app_at1 {A T : List Int} {x y : Int} {a : Nat} (h : A.length = a) : (A ++ x :: y :: T)[a + 1]? = some y := by
  rw [List.getElem?_append_right (by omega), h, show a + 1 - a = 1 by omega]; rfl
theorem app_tk {A T : List Int} {a : Nat} (h : A.length = a) : (A ++ T).take a = A := List.take_left' h
theorem app_dr {A T : List Int} {x : Int} {a : Nat} (h : A.length = a) : (A ++ x :: T).drop (a + 1) = T := by
  rw [List.drop_append, h, show a + 1 - a = 1 by omega, List.drop_eq_nil_of_le (by omega)]; rfl
theorem app_dr2 {A T : List Int} {x y : Int} {a : Nat} (h : A.length = a) : (A ++ x :: y :: T).drop (a + 2) = T := by
  rw [List.drop_append, h, show a + 2 - a = 2 by omega, List.drop_eq_nil_of_le (by omega)]; rfl
theorem slFo_len : ∀ (os : List Op) (k : Nat), (slFo k os).length ≤ os.length
  | [], _ => Nat.le_refl _
  | o :: os, k => by
    have := slFo_len os (k + 1)
    rw [slFo, List.length_append, List.length_cons]
    split <;> simp <;> omega
theorem gap_one {b V : Int} (hb : 0 < b) {A : List Int} {a : Nat} (h : A.length = a) (x : Int) : valW b 0 A - valW b 0 (dg b a V) + (x - V / b ^ a % b) * b ^ a = valW b 0 (A ++ [x]) - valW b 0 (dg b (a + 1) V) := by
  rw [dg_snoc hb, valW_app, valW_app, h, dg_len]
  show _ = _ + b ^ a * (x + b * 0) - (_ + b ^ a * (_ + b * 0))
  rw [Int.mul_zero, Int.add_zero, Int.add_zero, Int.sub_mul, Int.mul_comm (b ^ a), Int.mul_comm (b ^ a)]
  omega
theorem gap_two {b V : Int} (hb : 0 < b) {A : List Int} {a : Nat} (h : A.length = a) : valW b 0 A - valW b 0 (dg b a V) + (V / b ^ a % b - V / b ^ (a + 1) % b) * (b - 1) * b ^ a = valW b 0 (A ++ [V / b ^ (a + 1) % b, V / b ^ a % b]) - valW b 0 (dg b (a + 2) V) := by
  rw [show a + 2 = a + 1 + 1 from rfl, dg_snoc hb, dg_snoc hb]
  have e1 := valW_app b [V / b ^ (a + 1) % b, V / b ^ a % b] A
  have e2 := valW_app b [V / b ^ a % b] (dg b a V)
  have e3 := valW_app b [V / b ^ (a + 1) % b] (dg b a V ++ [V / b ^ a % b])
  rw [e1, e3, e2, h, dg_len, List.length_append, dg_len]
  show _ = _ + b ^ a * (V / b ^ (a + 1) % b + b * (V / b ^ a % b + b * 0)) - (_ + b ^ a * (V / b ^ a % b + b * 0) + b ^ (a + 1) * (V / b ^ (a + 1) % b + b * 0))
  generalize V / b ^ (a + 1) % b = x
  generalize V / b ^ a % b = y
  have e : b ^ (a + 1) = b ^ a * b := Int.pow_succ ..
  rw [e]
  generalize b ^ a = B
  grind
theorem subC_int (n : Nat) (ys : List D) : ∀ xs : List Int, subCs n ys (xs.map .int) = xs.map .int
  | [] => rfl
  | x :: xs => by rw [List.map_cons, subCs, subC_int n ys xs]; rfl
theorem st_lmarked {a b c : D} : startD N_law_marked [a, b, c] = [some a, some b, some c, none, none, none, none, none, none, none, none, none, none, none] := rfl
theorem len_law_marked : ∀ ds cs Q, sp_law_marked K ds cs Q → ds.length = 3 := by rintro ds cs Q ⟨_, _, _, _, _, _, rfl, _⟩; rfl
theorem vc_law_marked : ∀ ds cs Q, Lo ds cs → LoC cs → sp_law_marked K ds cs Q → t_law_marked K (Po.fn cs Q) ⟨startD N_law_marked ds, cs⟩ := by
  rintro ds cs Q hd hc ⟨n, x, c, b, r, cols, rfl, hx, hB, hc1, g, hz, q⟩
  rw [st_lmarked]
  unfold t_law_marked
  have hn : n < cs.length := (List.getElem?_eq_some_iff.mp hx).1
  have b2 := g.b2
  have b12 := g.b12
  have hb : 0 < b := by omega
  walk_at "w"
  refine ⟨⟨_, _, rfl⟩, b, _, _, rfl, .inl ?_⟩
  walk_at "w"
  refine v_listL (xs := (dg b cols.length (val b cols)).map .int) rfl ?_
  walk_at "w"
  dsimp only [setAll, List.set]
  refine ⟨⟨_, _, rfl⟩, _, b, r, cols, rfl, shF, ?_⟩
  refine ⟨⟨_, rfl, by omega, by omega⟩, ?_⟩
  walk_at "w"
  refine ⟨fun i e => ∃ (a : Nat) (os : List Op) (A : List Int) (x' : Cel) (o7 o8 o9 o10 o11 o12 o13 : Option D), Mi b r cols a os A ∧ (i ≤ a ∨ a = cols.length) ∧ i ≤ cols.length ∧ Bg (c + 3 * i) x' ∧
    e = ⟨[some (.cell n), some (shD K b r cols), some (wrR K b cols), some (.cell cs.length), some (.lst ((A ++ (dg b cols.length (val b cols)).drop a).map .int)), some (.int (valW b 0 A - valW b 0 (dg b a (val b cols)))), some (.int (a : Nat)), o7, o8, o9, o10, o11, o12, o13], cs.set n x' ++ [.lst ((slFo 0 os).map encSo)]⟩, ?_, ?_, ?_⟩
  · exact ⟨0, [], [], x, none, none, none, none, none, none, none, Mi.zero b r cols, .inl (Nat.le_refl _), Nat.zero_le _, by simpa using hB, by rw [set_self hx]; rfl⟩
  · rintro i y e2 hy ⟨a, os, A, x', o7, o8, o9, o10, o11, o12, o13, M, ha, hi, hB', rfl⟩
    obtain ⟨hlt, rfl⟩ := intsD_get hy
    have hlt' : i < cols.length := by simpa using hlt
    have la : (cs.set n x').length = cs.length := List.length_set ..
    refine ⟨trivial, _, rfl, ?_⟩
    walk_at "w"
    refine ⟨⟨_, _, rfl⟩, _, b, r, cols, rfl, shF, ?_⟩
    refine ⟨⟨_, rfl, by omega, by omega⟩, ?_⟩
    walk_at "w"
    refine v_itd (fun h => ?_) fun h => ?_
    · have hlt2 : a < cols.length := by omega
      have hi' : i ≤ a := by omega
      have fc := dg_cons hb hlt2 (val b cols)
      have Ml := M.al
      have S0 : (cs.set n x' ++ [Cel.lst ((slFo 0 os).map encSo)])[n]? = some x' := app_get_lt (List.getElem?_set_self hn)
      walk_at "w"
      refine ⟨n, x', _, _, rfl, S0, hB', by omega, by omega, by omega, fun w x2 w0 w1 hB2 => ?_⟩
      rw [set_app1 (by omega), set_set']
      have la2 : (cs.set n x2).length = cs.length := List.length_set ..
      have S2 : (cs.set n x2 ++ [Cel.lst ((slFo 0 os).map encSo)])[n]? = some x2 := app_get_lt (List.getElem?_set_self hn)
      walk_at "w"
      refine ⟨⟨_, _, rfl⟩, _, b, r, cols, rfl, shF, ?_⟩
      walk_at "w"
      refine ⟨b, (a : Nat), rfl, b2, b12, by omega, by omega, ?_⟩
      rw [Int.toNat_natCast]
      walk_at "w"
      refine ⟨_, _, rfl, ?_⟩
      walk_at "w"
      refine v_itd (fun hw => ?_) fun hw => ?_
      · subst hw
        walk_at "w"
        refine ⟨⟨_, _, rfl⟩, _, b, r, cols, rfl, shF, ?_⟩
        walk_at "w"
        refine ⟨n, x2, _, _, rfl, S2, hB2, by omega, by omega, by omega, fun d x3 d0 d1 hB3 => ?_⟩
        rw [set_app1 (by omega), set_set']
        have la3 : (cs.set n x3).length = cs.length := List.length_set ..
        walk_at "w"
        rw [fc]
        refine v_ixK (xs := (A ++ (val b cols / b ^ a % b) :: (dg b cols.length (val b cols)).drop (a + 1)).map .int) rfl (atI_map (f := D.int) (app_at Ml)) ?_
        walk_at "w"
        have f0 := Int.emod_nonneg (val b cols / b ^ a) (b := b) (by omega)
        have f1 := Int.emod_lt_of_pos (val b cols / b ^ a) hb
        have x0 := Int.emod_nonneg (val b cols / b ^ a % b + (1 + d)) (b := b) (by omega)
        have x1 := Int.emod_lt_of_pos (val b cols / b ^ a % b + (1 + d)) hb
        refine ⟨⟨_, _, rfl⟩, _, b, r, cols, rfl, shF, ?_⟩
        walk_at "w"
        refine v_ixK (xs := (A ++ (val b cols / b ^ a % b) :: (dg b cols.length (val b cols)).drop (a + 1)).map .int) rfl (atI_map (f := D.int) (app_at Ml)) ?_
        refine v_subI ?_
        walk_at "w"
        refine v_slL (xs := (A ++ (val b cols / b ^ a % b) :: (dg b cols.length (val b cols)).drop (a + 1)).map .int) rfl (fun _ h => nomatch h) (fun _ h => nomatch h) ?_
        rw [cut_to, app_tk Ml]
        walk_at "w"
        refine v_addL ⟨by rw [List.length_map]; simp; omega, ?_⟩
        walk_at "w"
        refine v_slL (xs := (A ++ (val b cols / b ^ a % b) :: (dg b cols.length (val b cols)).drop (a + 1)).map .int) rfl (fun _ h => nomatch h) (fun _ h => nomatch h) ?_
        rw [show ((a : Nat) : Int) + 1 = ((a + 1 : Nat) : Int) by omega, cut_from, app_dr Ml]
        walk_at "w"
        refine v_addL ⟨by rw [List.length_append, List.length_map, List.length_map, List.length_drop, dg_len]; simp; omega, ?_⟩
        walk_at "w"
        refine ⟨_, _, rfl, ?_⟩
        walk_at "w"
        refine ⟨⟨_, lk_cell (at_end la3)⟩, ?_⟩
        walk_at "w"
        refine ⟨cs.length, (slFo 0 os).map encSo, _, rfl, rfl, at_end la3, ?_, ?_⟩
        · rw [List.length_map]
          have := slFo_len os 0
          have := M.p.len
          rw [List.length_take] at this
          exact Nat.lt_of_le_of_lt (show (slFo 0 os).length ≤ 1000 by omega) (by decide)
        dsimp only
        rw [set_end la3]
        walk_at "w"
        rw [show decide ((0 : Int) = 1) = false from rfl]
        walk_at "w"
        have hol : os.length = a := by rw [M.p.len, List.length_take]; omega
        rw [gap_one hb Ml, show List.map D.int A ++ [D.int ((val b cols / b ^ a % b + (1 + d)) % b)] ++ List.map D.int (List.drop (a + 1) (dg b cols.length (val b cols))) = ((A ++ [(val b cols / b ^ a % b + (1 + d)) % b]) ++ List.drop (a + 1) (dg b cols.length (val b cols))).map D.int by simp,
          show (slFo 0 os).map encSo ++ [D.tup [D.int (a : Nat), D.tup [D.str "off", D.int (1 + d)]]] = (slFo 0 (os ++ [.off (1 + d)])).map encSo by rw [slFo_snoc, if_neg (fun z => nomatch z), List.map_append, hol, Nat.zero_add]; rfl,
          show ((a : Nat) : Int) + 1 = ((a + 1 : Nat) : Int) by omega]
        exact ⟨a + 1, _, _, x3, _, _, _, _, _, _, _, M.off g hlt2 (by omega) (by omega), .inl (by omega), hlt', hB3.le (by omega), rfl⟩
      · walk_at "w"
        refine v_itd (fun hw1 => ?_) fun hw1 => ?_
        · walk_at "w"
          refine ⟨⟨_, _, rfl⟩, _, b, r, cols, rfl, shF, ?_⟩
          refine ⟨⟨_, rfl, by omega, by omega⟩, ?_⟩
          walk_at "w"
          refine v_itd (fun hs => ?_) fun hs => ?_
          · have hs' : a + 1 < cols.length := by omega
            have fc1 := dg_cons hb hs' (val b cols)
            walk_at "w"
            rw [fc, fc1]
            refine v_ixK (xs := (A ++ (val b cols / b ^ a % b) :: (val b cols / b ^ (a + 1) % b) :: (dg b cols.length (val b cols)).drop (a + 2)).map .int) rfl (atI_map (f := D.int) (app_at Ml)) ?_
            walk_at "w"
            rw [show ((a : Nat) : Int) + 1 = ((a + 1 : Nat) : Int) by omega]
            refine v_ixK (xs := (A ++ (val b cols / b ^ a % b) :: (val b cols / b ^ (a + 1) % b) :: (dg b cols.length (val b cols)).drop (a + 2)).map .int) rfl (atI_map (f := D.int) (app_at1 Ml)) ?_
            walk_at "w"
            refine ⟨_, _, rfl, ?_⟩
            walk_at "w"
            have f0 := Int.emod_nonneg (val b cols / b ^ a) (b := b) (by omega)
            have f1 := Int.emod_lt_of_pos (val b cols / b ^ a) hb
            have x0 := Int.emod_nonneg (val b cols / b ^ (a + 1)) (b := b) (by omega)
            have x1 := Int.emod_lt_of_pos (val b cols / b ^ (a + 1)) hb
            refine ⟨⟨_, _, rfl⟩, _, b, r, cols, rfl, shF, ?_⟩
            walk_at "w"
            have bd : -(2 ^ 64) < (val b cols / b ^ a % b - val b cols / b ^ (a + 1) % b) * (b - 1) ∧ (val b cols / b ^ a % b - val b cols / b ^ (a + 1) % b) * (b - 1) < 2 ^ 64 := by
              have h1 : (val b cols / b ^ a % b - val b cols / b ^ (a + 1) % b) * (b - 1) ≤ 12 * 11 := Int.le_trans (Int.mul_le_mul_of_nonneg_right (show _ ≤ (12 : Int) by omega) (by omega)) (Int.mul_le_mul_of_nonneg_left (by omega) (by omega))
              have h2 : -12 * 11 ≤ (val b cols / b ^ a % b - val b cols / b ^ (a + 1) % b) * (b - 1) := Int.le_trans (show (-12 : Int) * 11 ≤ -12 * (b - 1) by omega) (Int.mul_le_mul_of_nonneg_right (show (-12 : Int) ≤ _ by omega) (by omega))
              omega
            refine v_mulX ⟨.inl (.inl bd), ?_⟩
            walk_at "w"
            refine v_slL (xs := (A ++ (val b cols / b ^ a % b) :: (val b cols / b ^ (a + 1) % b) :: (dg b cols.length (val b cols)).drop (a + 2)).map .int) rfl (fun _ h => nomatch h) (fun _ h => nomatch h) ?_
            rw [cut_to, app_tk Ml]
            walk_at "w"
            refine v_addL ⟨by rw [List.length_map]; simp; omega, ?_⟩
            walk_at "w"
            refine v_slL (xs := (A ++ (val b cols / b ^ a % b) :: (val b cols / b ^ (a + 1) % b) :: (dg b cols.length (val b cols)).drop (a + 2)).map .int) rfl (fun _ h => nomatch h) (fun _ h => nomatch h) ?_
            rw [show ((a : Nat) : Int) + 2 = ((a + 2 : Nat) : Int) by omega, cut_from, app_dr2 Ml]
            walk_at "w"
            refine v_addL ⟨by rw [List.length_append, List.length_map, List.length_map, List.length_drop, dg_len]; simp; omega, ?_⟩
            walk_at "w"
            refine ⟨_, _, rfl, ?_⟩
            walk_at "w"
            refine ⟨⟨_, lk_cell (at_end la2)⟩, ?_⟩
            walk_at "w"
            refine ⟨cs.length, (slFo 0 os).map encSo, _, rfl, rfl, at_end la2, ?_, ?_⟩
            · rw [List.length_map]
              have := slFo_len os 0
              have := M.p.len
              rw [List.length_take] at this
              exact Nat.lt_of_le_of_lt (show (slFo 0 os).length ≤ 1000 by omega) (by decide)
            dsimp only
            rw [set_end la2]
            walk_at "w"
            have hol : os.length = a := by rw [M.p.len, List.length_take]; omega
            rw [gap_two hb Ml, show List.map D.int A ++ [D.int (val b cols / b ^ (a + 1) % b), D.int (val b cols / b ^ a % b)] ++ List.map D.int (List.drop (a + 2) (dg b cols.length (val b cols))) = ((A ++ [val b cols / b ^ (a + 1) % b, val b cols / b ^ a % b]) ++ List.drop (a + 2) (dg b cols.length (val b cols))).map D.int by simp,
              show (slFo 0 os).map encSo ++ [D.tup [D.int (a : Nat), D.tup [D.str "swap"]]] = (slFo 0 (os ++ [.swap, .right])).map encSo by rw [slFo_two, List.map_append, hol]; rfl,
              show ((a : Nat) : Int) + 1 + 1 = ((a + 2 : Nat) : Int) by omega]
            exact ⟨a + 2, _, _, x2, _, _, _, _, _, _, _, M.swap g hs', .inl (by omega), hlt', hB2.le (by omega), rfl⟩
          · walk_at "w"
            rw [fc, show ∀ T : List Int, A ++ (val b cols / b ^ a % b) :: T = (A ++ [val b cols / b ^ a % b]) ++ T from fun T => by simp, show valW b 0 A - valW b 0 (dg b a (val b cols)) = valW b 0 (A ++ [val b cols / b ^ a % b]) - valW b 0 (dg b (a + 1) (val b cols)) by rw [← gap_one hb Ml, Int.sub_self, Int.zero_mul, Int.add_zero],
              show ((a : Nat) : Int) + 1 = ((a + 1 : Nat) : Int) by omega, show slFo 0 os = slFo 0 (os ++ [.right]) by rw [slFo_snoc, if_pos rfl, List.append_nil]]
            exact ⟨a + 1, _, _, x2, _, _, _, _, _, _, _, M.right g hlt2, .inl (by omega), hlt', hB2.le (by omega), rfl⟩
        · walk_at "w"
          rw [fc, show ∀ T : List Int, A ++ (val b cols / b ^ a % b) :: T = (A ++ [val b cols / b ^ a % b]) ++ T from fun T => by simp, show valW b 0 A - valW b 0 (dg b a (val b cols)) = valW b 0 (A ++ [val b cols / b ^ a % b]) - valW b 0 (dg b (a + 1) (val b cols)) by rw [← gap_one hb Ml, Int.sub_self, Int.zero_mul, Int.add_zero],
            show ((a : Nat) : Int) + 1 = ((a + 1 : Nat) : Int) by omega, show slFo 0 os = slFo 0 (os ++ [.right]) by rw [slFo_snoc, if_pos rfl, List.append_nil]]
          exact ⟨a + 1, _, _, x2, _, _, _, _, _, _, _, M.right g hlt2, .inl (by omega), hlt', hB2.le (by omega), rfl⟩
    · walk_at "w"
      exact ⟨a, os, A, x', _, _, _, _, _, _, _, M, .inr (by have := M.le; omega), hlt', hB'.le (by omega), rfl⟩
  · rintro e2 ⟨a, os, A, x', o7, o8, o9, o10, o11, o12, o13, M, ha, hi, hB', rfl⟩
    have el : (intsD 0 ((cols.length : Int)).toNat).length = cols.length := by rw [intsD_len]; omega
    rw [el] at ha hB'
    have e0 : a = cols.length := by have := M.le; omega
    subst e0
    refine ⟨trivial, ?_⟩
    walk_at "w"
    have la : (cs.set n x').length = cs.length := List.length_set ..
    rw [List.drop_of_length_le (show (dg b cols.length (val b cols)).length ≤ cols.length by rw [dg_len]; exact Nat.le_refl _), List.append_nil]
    refine ⟨.lst [.lst ((slFo 0 os).map encSo), .lst (A.map .int), .int (valW b 0 A - valW b 0 (dg b cols.length (val b cols)))], _, Fzs.one (n := cs.length) (xs := (slFo 0 os).map encSo) (at_end la) (by
      have e : subC cs.length ((slFo 0 os).map encSo) (.lst [.cell cs.length, .lst (A.map .int), .int (valW b 0 A - valW b 0 (dg b cols.length (val b cols)))]) = .lst [.lst ((slFo 0 os).map encSo), .lst (A.map .int), .int (valW b 0 A - valW b 0 (dg b cols.length (val b cols)))] := by
        simp [subC, subCs, subC_int]
      rw [e]
      exact .nil), ?_⟩
    rw [set_end la]
    refine trim_back2 (cs := cs) (cs' := cs.set n x' ++ [.dead]) ?_ ?_ ?_
    · rw [List.take_left' la]
      obtain ⟨a, b, k, rfl, _⟩ := hB'
      exact set_lo rfl
    · show (los _ ((slFo 0 os).map encSo) && (los _ (A.map .int) && true)) = true
      rw [los_int, los_map (fun s => by obtain ⟨i, o⟩ := s; cases o <;> rfl)]; rfl
    · rw [List.take_left' la]
      exact q os A x' M.done (hB'.le (by omega))
end
section
variable {K : PySem.W.Frag}
/-- a new written result that never changes -/
theorem init_wr {cs : List Cel} {b l : Int} {fs : List Int} {A : List Cel → Prop} {Z : Addr → List Str → List D → List Cel → Prop} (h : Z (He.ga K "Written") wrN [.int b, .lst (fs.map .int), .int l] cs) :
    sp_Written_init K [.cell cs.length, .int b, .lst (fs.map .int), .int l] (cs ++ [.ins (He.ga K "Written") [] []]) fun r_1 cs' => r_1 = .non ∧ (A cs' ∨ ∃ cs1 C' ns xs, cs' = cs1 ++ [.ins C' ns xs] ∧ cs1.length = cs.length ∧ los cs.length xs = true ∧ (∀ c ∈ cs1, c ∈ cs ∨ c.loD cs.length = true) ∧ Z C' ns xs cs1) :=
  ⟨_, b, fs, l, rfl, app_get, rfl, .inr ⟨_, _, _, _, app_set, rfl, (by show (true && (los _ (fs.map .int) && (true && true))) = true; rw [los_int]; rfl), fun c hc => .inl hc, h⟩⟩
/-- figures and carry of a sheet with one column more -/
theorem dg_part {b r : Int} {pre : List (List Int)} {c : List Int} (g : Gd b r (pre ++ [c])) : dg b (pre.length + 1) (val b (pre ++ [c])) = dg b pre.length (val b pre) ++ [(c.sum + val b pre / b ^ pre.length) % b] ∧ val b (pre ++ [c]) / b ^ (pre.length + 1) = (c.sum + val b pre / b ^ pre.length) / b := by
  have h1 := stFo_R g
  have h2 := stF_snoc (c := c) (o := .right) (plan_rts b r pre)
  rw [stFo_R g.left] at h2
  have e : rts (pre ++ [c]).length = rts pre.length ++ [.right] := by rw [List.length_append]; exact List.replicate_succ'
  rw [e, show (pre ++ [c]).length = pre.length + 1 from by rw [List.length_append]; rfl] at h1
  rw [h2] at h1
  have e1 := congrArg Prod.fst h1
  have e2 := congrArg (fun x => x.2.1) h1
  exact ⟨e1.symm, e2.symm⟩
/-- what the figures ahead of a column come to, by the carry that they leave -/
theorem valW_part {b r : Int} {pre : List (List Int)} {c : List Int} (g : Gd b r (pre ++ [c])) (k : Int) : valW b k (dg b (pre.length + 1) (val b (pre ++ [c]))) = val b pre + b ^ pre.length * c.sum + (k - val b (pre ++ [c]) / b ^ (pre.length + 1)) * b ^ (pre.length + 1) := by
  have b2 := g.b2
  have h := dg_val b (pre.length + 1) (val b (pre ++ [c])) (by omega)
  have hv : val b (pre ++ [c]) = val b pre + b ^ pre.length * c.sum := by
    rw [val_app]
    show _ + _ * (c.sum + b * 0) = _
    rw [Int.mul_zero, Int.add_zero]
  rw [valW_top, dg_len] at h ⊢
  rw [Int.sub_mul]
  omega
end
section
variable {K : PySem.W.Frag}
theorem opAt_cut (n l k : Nat) : opAt (cutO n (rts n) l) k = .right := by
  unfold cutO opAt
  rw [List.getD_eq_getElem?_getD, List.getElem?_map]
  by_cases h : k < n
  · rw [List.getElem?_range h]
    show (if k < l then (rts n).getD k .right else .right) = _
    have := opAt_rts n k
    unfold opAt at this
    rw [this]
    split <;> rfl
  · rw [List.getElem?_eq_none (by simpa using h)]; rfl
theorem w_carry_tail {cs : List Cel} {Q : D → List Cel → Prop} {b r : Int} {pre more : List (List Int)} {c : List Int} {o5 o7 : Option D} (g : Gd b r (pre ++ c :: more)) (r3 : r ≤ 3) (hz : (pre ++ c :: more).length ≤ 60) (q : Q (.bl true) cs) :
    u_law_carry_right_0 K (Po.fn cs Q) ⟨[some (shD K b r (pre ++ c :: more)), some (.int (pre.length : Nat)), some (wrD K b (dg b (pre.length + 1) (val b (pre ++ [c]))) (val b (pre ++ [c]) / b ^ (pre.length + 1))), some (shD K b r more), some (.int (b ^ (pre.length + 1))), o5, some (.int b), o7], cs⟩ := by
  have b2 := g.b2
  have b12 := g.b12
  have hb : 0 < b := by omega
  have gp : Gd b r (pre ++ [c]) := by
    have := g
    rw [show pre ++ c :: more = (pre ++ [c]) ++ more by rw [List.append_assoc]; rfl] at this
    exact this.left
  have gm : Gd b r more := by
    have := g
    rw [show pre ++ c :: more = (pre ++ [c]) ++ more by rw [List.append_assoc]; rfl] at this
    exact this.right
  have ln : more.length ≤ 60 := by rw [List.length_append, List.length_cons] at hz; omega
  obtain ⟨d1, d2⟩ := dg_part gp
  obtain ⟨a1, a2, a3⟩ := one_step (o := .again) g trivial trivial rfl (fun h => nomatch h)
  replace a3 : stFo b (pre ++ c :: more) (rts pre.length ++ .again :: rts more.length) (pre ++ c :: more).length = (dg b (pre.length + 1) (val b (pre ++ [c])) ++ dg b more.length (val b (pre ++ [c]) / b ^ (pre.length + 1) + 1 + val b more), (val b (pre ++ [c]) / b ^ (pre.length + 1) + 1 + val b more) / b ^ more.length, none) := by
    rw [d1, d2]; exact a3
  have av : valW b ((val b (pre ++ [c]) / b ^ (pre.length + 1) + 1 + val b more) / b ^ more.length) (dg b (pre.length + 1) (val b (pre ++ [c])) ++ dg b more.length (val b (pre ++ [c]) / b ^ (pre.length + 1) + 1 + val b more)) - val b (pre ++ c :: more) = b ^ (pre.length + 1) := by
    have vm : val b (pre ++ c :: more) = val b pre + b ^ pre.length * c.sum + b ^ (pre.length + 1) * val b more := val_part b pre c more
    rw [val_tail hb, valW_part gp, dg_len, vm, show val b (pre ++ [c]) / b ^ (pre.length + 1) + 1 - val b (pre ++ [c]) / b ^ (pre.length + 1) = 1 by omega, Int.one_mul]
    omega
  have k0 : 0 ≤ val b (pre ++ [c]) / b ^ (pre.length + 1) := Int.ediv_nonneg gp.vnn (Int.le_of_lt (Int.pow_pos hb))
  clear d1 d2
  have hz0 : (pre ++ c :: more).length ≤ 1000 := by omega
  have hz1 := List.length_append (as := pre) (bs := c :: more)
  rw [List.length_cons] at hz1
  generalize hK : val b (pre ++ [c]) / b ^ (pre.length + 1) = K1 at *
  unfold u_law_carry_right_0
  walk_at "w"
  refine ⟨_, _, b, r, _, _, _, rfl, rfl, shF, g, a1, .inl ⟨by rw [a2]; rfl, ?_⟩⟩
  rw [a3]
  walk_at "w"
  refine ⟨⟨_, _, rfl⟩, ⟨_, _, rfl⟩, b, _, _, _, r, _, rfl, shF, g, ?_⟩
  walk_at "w"
  rw [av, decide_eq_true rfl]
  walk_at "w"
  refine ⟨⟨_, _, rfl⟩, _, b, r, _, rfl, shF, ?_⟩
  refine ⟨⟨_, rfl, by omega, by omega⟩, ?_⟩
  walk_at "w"
  refine v_itd (fun hm => ?_) fun hm => ?_
  · have m0 : more = [] := List.length_eq_zero_iff.mp (by omega)
    subst m0
    walk_at "w"
    refine ⟨⟨_, _, rfl⟩, b, _, _, rfl, .inl ?_⟩
    walk_at "w"
    refine ⟨⟨_, _, rfl⟩, b, _, _, rfl, ?_⟩
    walk_at "w"
    refine init_wr ?_
    walk_at "w"
    refine ⟨⟨_, _, rfl⟩, ⟨_, _, rfl⟩, b, dg b (pre.length + 1) (val b (pre ++ [c])), K1 + 1, ?_, ?_⟩
    · show [wrD K b (dg b (pre.length + 1) (val b (pre ++ [c])) ++ []) ((K1 + 1 + 0) / b ^ 0), _] = _
      rw [List.append_nil, Int.add_zero, Int.pow_zero, Int.ediv_one]; rfl
    · exact .inl q
  · have m0 : more ≠ [] := fun z => hm (by rw [z]; rfl)
    walk_at "w"
    refine ⟨⟨_, _, rfl⟩, b, _, _, rfl, ?_⟩
    walk_at "w"
    refine v_itd (fun hk => ?_) fun hk => ?_
    · walk_at "w"
      exact .inl q
    · walk_at "w"
      refine ⟨⟨_, _, rfl⟩, b, _, _, rfl, ?_⟩
      walk_at "w"
      refine ⟨b, r, _, more, rfl, gm, m0, r3, by omega, by omega, by omega, ?_⟩
      walk_at "w"
      have gc := gd_cry gm r3 (k := K1 + 1) (by omega) (by omega)
      refine ⟨_, b, r + 1, _, rfl, shF, gc, ?_⟩
      rw [(stFo_rts gc).1, (stFo_rts gc).2, cry_len, val_cry b _ m0]
      walk_at "w"
      refine ⟨⟨_, _, rfl⟩, b, _, _, rfl, .inl ?_⟩
      walk_at "w"
      refine ⟨⟨_, _, rfl⟩, b, _, _, rfl, .inl ?_⟩
      walk_at "w"
      refine v_addL ⟨by rw [List.length_map, List.length_map, dg_len, dg_len]; omega, ?_⟩
      rw [← List.map_append]
      walk_at "w"
      refine ⟨⟨_, _, rfl⟩, b, _, _, rfl, ?_⟩
      walk_at "w"
      refine init_wr ?_
      walk_at "w"
      refine ⟨⟨_, _, rfl⟩, ⟨_, _, rfl⟩, b, _, _, rfl, ?_⟩
      exact .inl q
theorem st_lcarry {a b : D} : startD N_law_carry_right [a, b] = [some a, some b, none, none, none, none, none, none] := rfl
theorem len_law_carry_right : ∀ ds cs Q, sp_law_carry_right K ds cs Q → ds.length = 2 := by rintro ds cs Q ⟨_, _, _, _, rfl, _⟩; rfl
theorem vc_law_carry_right : ∀ ds cs Q, Lo ds cs → LoC cs → sp_law_carry_right K ds cs Q → t_law_carry_right K (Po.fn cs Q) ⟨startD N_law_carry_right ds, cs⟩ := by
  rintro ds cs Q hd hc ⟨b, r, cols, i, rfl, g, r3, hz, hi, q⟩
  rw [st_lcarry]
  unfold t_law_carry_right
  have b2 := g.b2
  have b12 := g.b12
  have hb : 0 < b := by omega
  clear hd
  obtain ⟨pre, c, more, rfl, hp⟩ := col_parts hi
  subst hp
  have gp : Gd b r (pre ++ [c]) := by
    have := g
    rw [show pre ++ c :: more = (pre ++ [c]) ++ more by rw [List.append_assoc]; rfl] at this
    exact this.left
  have gm : Gd b r more := by
    have := g
    rw [show pre ++ c :: more = (pre ++ [c]) ++ more by rw [List.append_assoc]; rfl] at this
    exact this.right
  have ln : (pre ++ c :: more).length = pre.length + 1 + more.length := by rw [List.length_append, List.length_cons]; omega
  obtain ⟨d1, d2⟩ := dg_part gp
  have cut1 : ((pre ++ c :: more).drop 0).take (pre.length + 1 - 0) = pre ++ [c] := by
    rw [List.drop_zero, Nat.sub_zero, show pre ++ c :: more = (pre ++ [c]) ++ more by rw [List.append_assoc]; rfl]
    exact List.take_left' (by rw [List.length_append]; rfl)
  have cut2 : ((pre ++ c :: more).drop (pre.length + 1)).take ((pre ++ c :: more).length - (pre.length + 1)) = more := by
    rw [show pre ++ c :: more = (pre ++ [c]) ++ more by rw [List.append_assoc]; rfl, List.drop_left' (by rw [List.length_append]; rfl)]
    exact List.take_of_length_le (by rw [List.length_append, List.length_append]; simp)
  walk_at "w"
  refine ⟨⟨_, _, rfl, by decide⟩, ?_⟩
  walk_at "w"
  rw [show ((pre.length : Nat) : Int) + 1 = ((pre.length + 1 : Nat) : Int) by omega]
  refine ⟨_, b, r, _, 0, pre.length + 1, rfl, shF, g, Nat.zero_le _, by omega, ?_⟩
  rw [cut1]
  refine .inl ?_
  walk_at "w"
  refine ⟨_, b, r, _, rfl, shF, gp, ?_⟩
  rw [(stFo_rts gp).1, (stFo_rts gp).2, show (pre ++ [c]).length = pre.length + 1 by rw [List.length_append]; rfl]
  walk_at "w"
  refine ⟨⟨_, _, rfl, by decide⟩, ?_⟩
  walk_at "w"
  rw [show ((pre.length : Nat) : Int) + 1 = ((pre.length + 1 : Nat) : Int) by omega]
  refine ⟨⟨_, _, rfl⟩, _, b, r, _, rfl, shF, ?_⟩
  refine ⟨⟨_, rfl, by omega, by omega⟩, ?_⟩
  walk_at "w"
  refine ⟨_, b, r, _, pre.length + 1, _, rfl, shF, g, by omega, Nat.le_refl _, ?_⟩
  rw [cut2]
  refine .inl ?_
  walk_at "w"
  refine ⟨⟨_, _, rfl⟩, _, b, r, _, rfl, shF, ?_⟩
  walk_at "w"
  rw [show ((pre.length : Nat) : Int) + 1 = ((pre.length + 1 : Nat) : Int) by omega]
  refine ⟨b, _, rfl, b2, b12, by omega, by omega, ?_⟩
  rw [Int.toNat_natCast]
  walk_at "w"
  refine ⟨_, _, _, rfl, ?_⟩
  -- a carry too many
  obtain ⟨a1, a2, a3⟩ := one_step (o := .again) g trivial trivial rfl (fun h => nomatch h)
  replace a3 : stFo b (pre ++ c :: more) (rts pre.length ++ .again :: rts more.length) (pre ++ c :: more).length = (dg b (pre.length + 1) (val b (pre ++ [c])) ++ dg b more.length (val b (pre ++ [c]) / b ^ (pre.length + 1) + 1 + val b more), (val b (pre ++ [c]) / b ^ (pre.length + 1) + 1 + val b more) / b ^ more.length, none) := by
    rw [d1, d2]; exact a3
  have vm : val b (pre ++ c :: more) = val b pre + b ^ pre.length * c.sum + b ^ (pre.length + 1) * val b more := val_part b pre c more
  have av : valW b ((val b (pre ++ [c]) / b ^ (pre.length + 1) + 1 + val b more) / b ^ more.length) (dg b (pre.length + 1) (val b (pre ++ [c])) ++ dg b more.length (val b (pre ++ [c]) / b ^ (pre.length + 1) + 1 + val b more)) - val b (pre ++ c :: more) = b ^ (pre.length + 1) := by
    rw [val_tail hb, valW_part gp, dg_len, vm, show val b (pre ++ [c]) / b ^ (pre.length + 1) + 1 - val b (pre ++ [c]) / b ^ (pre.length + 1) = 1 by omega, Int.one_mul]
    omega
  have v1 := gp.vnn
  have k0 : 0 ≤ val b (pre ++ [c]) / b ^ (pre.length + 1) := Int.ediv_nonneg v1 (Int.le_of_lt (Int.pow_pos hb))
  have fg : (rts pre.length).length = pre.length := List.length_replicate
  by_cases hk1 : val b (pre ++ [c]) / b ^ (pre.length + 1) = 0
  · walk_at "w"
    refine ⟨_, _, b, r, _, rts (pre ++ c :: more).length, _, rfl, rfl, shF, g, plan_rts b r _, .inr ⟨0, ⟨Nat.zero_le _, .tup [.int (pre.length : Nat), .tup [.str "forget"]], [], rfl, okV2_S (pre.length, .forget), .inr ⟨pre.length, .forget, rfl, Nat.zero_le _, hi, trivial, (fun z => nomatch z), ?_⟩, by simp⟩, ?_⟩⟩
    · have e0 : stFo b (pre ++ c :: more) (cutO (pre ++ c :: more).length (rts (pre ++ c :: more).length) (lowN (rts (pre ++ c :: more).length) 0)) pre.length = stFo b pre (rts pre.length) pre.length := stF_congr2 fun k hk => ⟨by rw [opAt_rts, opAt_cut], colAt_lt hk⟩
      rw [e0, stFo_R g.left, colAt_end]
      show ¬ ((c.sum + val b pre / b ^ pre.length) / b ≠ 0)
      rw [← d2, hk1]
      simp
    · walk_at "w"
      refine ⟨⟨_, _, rfl⟩, _, b, r, _, rfl, shF, ?_⟩
      walk_at "w"
      refine ⟨_, _, rfl, ?_⟩
      walk_at "w"
      refine ⟨⟨_, _, rfl⟩, b, _, _, rfl, ?_⟩
      walk_at "w"
      rw [decide_eq_true hk1]
      walk_at "w"
      exact w_carry_tail g r3 hz q
  · obtain ⟨f1, f2, f3⟩ := one_step (o := .forget) g trivial (show (c.sum + _) / b ≠ 0 by rw [← d2]; exact hk1) rfl (fun h => nomatch h)
    replace f3 : stFo b (pre ++ c :: more) (rts pre.length ++ .forget :: rts more.length) (pre ++ c :: more).length = (dg b (pre.length + 1) (val b (pre ++ [c])) ++ dg b more.length (val b more), val b more / b ^ more.length, none) := by
      have f4 : stFo b (pre ++ c :: more) (rts pre.length ++ .forget :: rts more.length) (pre ++ c :: more).length = (dg b pre.length (val b pre) ++ [(c.sum + val b pre / b ^ pre.length) % b] ++ dg b more.length (0 + val b more), (0 + val b more) / b ^ more.length, none) := f3
      rw [d1, f4, Int.zero_add]
    have fv : valW b (val b more / b ^ more.length) (dg b (pre.length + 1) (val b (pre ++ [c])) ++ dg b more.length (val b more)) - val b (pre ++ c :: more) = 0 - val b (pre ++ [c]) / b ^ (pre.length + 1) * b ^ (pre.length + 1) := by
      have h := val_tail hb (dg b (pre.length + 1) (val b (pre ++ [c]))) 0 more
      rw [Int.zero_add] at h
      rw [h, valW_part gp, dg_len, vm, Int.sub_mul]
      omega
    walk_at "w"
    refine ⟨_, _, b, r, _, _, _, rfl, rfl, shF, g, f1, .inl ⟨by rw [f2]; rfl, ?_⟩⟩
    rw [f3]
    walk_at "w"
    refine ⟨⟨_, _, rfl⟩, _, b, r, _, rfl, shF, ?_⟩
    walk_at "w"
    refine ⟨_, _, rfl, ?_⟩
    walk_at "w"
    refine ⟨⟨_, _, rfl⟩, b, _, _, rfl, ?_⟩
    walk_at "w"
    rw [decide_eq_false hk1]
    walk_at "w"
    refine ⟨_, b, r, _, rfl, shF, gm, ?_⟩
    rw [(stFo_rts gm).1, (stFo_rts gm).2]
    walk_at "w"
    refine ⟨⟨_, _, rfl⟩, b, _, _, rfl, .inl ?_⟩
    walk_at "w"
    refine ⟨⟨_, _, rfl⟩, b, _, _, rfl, .inl ?_⟩
    walk_at "w"
    refine v_addL ⟨by rw [List.length_map, List.length_map, dg_len, dg_len]; omega, ?_⟩
    rw [← List.map_append]
    walk_at "w"
    refine ⟨⟨_, _, rfl⟩, b, _, _, rfl, ?_⟩
    walk_at "w"
    refine init_wr ?_
    walk_at "w"
    refine ⟨⟨_, _, rfl⟩, ⟨_, _, rfl⟩, b, _, _, rfl, _, rfl, ?_⟩
    walk_at "w"
    refine ⟨⟨_, _, rfl⟩, ⟨_, _, rfl⟩, b, _, _, _, r, _, rfl, shF, g, ?_⟩
    walk_at "w"
    refine ⟨⟨_, _, rfl⟩, b, _, _, rfl, ?_⟩
    walk_at "w"
    have kc := (stF_carry gp (plan_rts b r (pre ++ [c])) (Nat.le_refl _)).2
    rw [(stFo_rts gp).2, show (pre ++ [c]).length = pre.length + 1 by rw [List.length_append]; rfl] at kc
    refine v_mulX ⟨.inl (.inl ⟨by omega, by omega⟩), ?_⟩
    walk_at "w"
    rw [fv, decide_eq_true rfl]
    walk_at "w"
    exact w_carry_tail g r3 hz q
end
section
/-! a plan is told by its slips -/
theorem sl_ge : ∀ (ops : List Op) (j : Nat), ∀ x ∈ slFo j ops, j ≤ x.1
  | [], _, _, h => nomatch h
  | o :: ops, j, x, h => by
    rw [slFo] at h
    rcases List.mem_append.mp h with z | z
    · split at z
      · cases z
      · rw [List.mem_singleton] at z; subst z; exact Nat.le_refl _
    · have := sl_ge ops (j + 1) x z; omega
theorem opIn_none {S : Sl} {k : Nat} (h : ∀ x ∈ S, x.1 ≠ k) : opIn S k = .right := by
  unfold opIn
  rw [List.find?_eq_none.mpr fun x hx => by simpa using h x hx]; rfl
theorem opIn_skip {S : Sl} {j k : Nat} {o : Op} (h : j ≠ k) : opIn ((j, o) :: S) k = opIn S k := by
  unfold opIn
  rw [List.find?_cons_of_neg (by simpa using h)]
theorem opIn_here {S : Sl} {j : Nat} {o : Op} : opIn ((j, o) :: S) j = o := by
  unfold opIn
  rw [List.find?_cons_of_pos (by simp)]; rfl
theorem opIn_sl : ∀ (ops : List Op) (j k : Nat), opIn (slFo j ops) (j + k) = opAt ops k
  | [], j, k => rfl
  | o :: ops, j, 0 => by
    rw [slFo, Nat.add_zero]
    split
    · rename_i h
      rw [List.nil_append, opIn_none fun x hx => by have := sl_ge ops (j + 1) x hx; omega]
      exact h.symm
    · exact opIn_here
  | o :: ops, j, k + 1 => by
    have ih := opIn_sl ops (j + 1) k
    rw [slFo, show j + (k + 1) = j + 1 + k by omega]
    split
    · rw [List.nil_append]; exact ih
    · rw [List.singleton_append, opIn_skip (by omega)]; exact ih
theorem opsN_sl {ops : List Op} {n : Nat} (h : ops.length = n) : opsN n (slFo 0 ops) = ops := by
  unfold opsN
  apply List.ext_getElem?
  intro i
  rw [List.getElem?_map]
  by_cases hi : i < n
  · rw [List.getElem?_range hi, List.getElem?_eq_getElem (by omega)]
    show some (opIn (slFo 0 ops) i) = _
    have e := opIn_sl ops 0 i
    rw [Nat.zero_add] at e
    rw [e]
    unfold opAt
    rw [List.getD_eq_getElem?_getD, List.getElem?_eq_getElem (by omega)]; rfl
  · rw [List.getElem?_eq_none (by simpa using hi), List.getElem?_eq_none (by omega)]; rfl
theorem flat_map1 {α β : Type} (f : α → β) : ∀ xs : List α, xs.flatMap (fun a => [f a]) = xs.map f
  | [] => rfl
  | x :: xs => by rw [List.flatMap_cons, flat_map1 f xs]; rfl
/-- lists of a single slip of one deed -/
theorem ord_one (n : Nat) (o : Op) : ordF n [o] 1 = (List.range n).map fun i => [(i, o)] := by
  unfold ordF
  have h1 : fur n [o] 1 [] = (List.range n).map fun i => [(i, o)] := by
    unfold fur
    rw [if_neg (by simp)]
    show (List.range (n - 0)).flatMap (fun i => [[] ++ [(0 + i, o)]]) = _
    rw [Nat.sub_zero, flat_map1]
    refine List.map_congr_left fun i _ => ?_
    rw [Nat.zero_add]; rfl
  rw [h1, List.flatMap_map]
  have h2 : ∀ i, pre n [o] 1 1 [(i, o)] = [[(i, o)]] := fun i => by
    show [(i, o)] :: (fur n [o] 1 [(i, o)]).flatMap _ = _
    unfold fur
    rw [if_pos (by rfl)]; rfl
  simp only [h2]
  exact flat_map1 _ _
theorem sl_mem : ∀ (ops : List Op) (j : Nat), ∀ x ∈ slFo j ops, x.1 < j + ops.length ∧ x.2 ≠ .right ∧ x.2 ∈ ops
  | [], _, _, h => nomatch h
  | o :: ops, j, x, h => by
    rw [slFo] at h
    rcases List.mem_append.mp h with z | z
    · split at z
      · cases z
      · rename_i hne
        rw [List.mem_singleton] at z; subst z; exact ⟨by rw [List.length_cons]; omega, hne, List.mem_cons_self⟩
    · obtain ⟨h1, h2, h3⟩ := sl_mem ops (j + 1) x z
      exact ⟨by rw [List.length_cons]; omega, h2, List.mem_cons_of_mem _ h3⟩
/-- the slips that were done are among those that leave their rests -/
theorem shown_mem {b r : Int} {cols : List (List Int)} {ops : List Op} {os : List Op} {m : Nat} (P : Plan b r cols ops) (h : slFo 0 ops ∈ ordF cols.length os m) (l : List Int) :
    slFo 0 ops ∈ shownF b r cols os m l (l.map fun d => valW b (stFo b cols ops cols.length).2.1 (stFo b cols ops cols.length).1 % d) := by
  have e := opsN_sl P.len
  have o : outF b r cols (slFo 0 ops) = some ((stFo b cols ops cols.length).1, (stFo b cols ops cols.length).2.1) := by
    rw [outF_some (by rw [e]; exact P), e]
  unfold shownF
  refine List.mem_map.mpr ⟨(slFo 0 ops, ((stFo b cols ops cols.length).1, (stFo b cols ops cols.length).2.1)), List.mem_filter.mpr ⟨?_, decide_eq_true rfl⟩, rfl⟩
  unfold allF
  exact List.mem_filterMap.mpr ⟨_, h, by rw [o]; rfl⟩
end
section
variable {K : PySem.W.Frag}
/-- a deed of the adding as a deed of a kind -/
def toDd : Op → Dd
  | .off d => (.off, [d])
  | _ => (.swap, [])
theorem toDd_ok {b r : Int} (b2 : 2 ≤ b) (b12 : b ≤ 12) {o : Op} (h : (∃ d, o = .off d ∧ 1 ≤ d ∧ d < b) ∨ o = .swap) : toDd o ∈ allD b r ∧ encD (toDd o) = encO o ∧ toO (toDd o) = o := by
  rcases h with ⟨d, rfl, d1, d2⟩ | rfl
  · refine ⟨?_, rfl, rfl⟩
    unfold allD
    refine List.mem_append_left _ (List.mem_append_left _ (List.mem_append_left _ (List.mem_append_right _ ?_)))
    unfold offs
    exact List.mem_map.mpr ⟨(d - 1).toNat, List.mem_range.mpr (by omega), by show ((Wo.off, [1 + (((d - 1).toNat : Nat) : Int)]) : Dd) = (.off, [d]); rw [show 1 + (((d - 1).toNat : Nat) : Int) = d by omega]⟩
  · refine ⟨?_, rfl, rfl⟩
    unfold allD
    exact List.mem_append_right _ (by simp [toDd])
theorem st_lshown {a b c d : D} : startD N_law_shown_right [a, b, c, d] = [some a, some b, some c, some d, none, none, none] := rfl
theorem len_law_shown_right : ∀ ds cs Q, sp_law_shown_right K ds cs Q → ds.length = 4 := by rintro ds cs Q ⟨_, _, _, _, _, _, _, _, rfl, _⟩; rfl
theorem vc_law_shown_right : ∀ ds cs Q, Lo ds cs → LoC cs → sp_law_shown_right K ds cs Q → t_law_shown_right K (Po.fn cs Q) ⟨startD N_law_shown_right ds, cs⟩ := by
  rintro ds cs Q hd hc ⟨n, x, c, b, r, cols, ops, items, rfl, hx, hB, hc1, g, hz, r3, P, hi, hl1, ho, q⟩
  subst hi
  rw [st_lshown]
  unfold t_law_shown_right
  have hn : n < cs.length := (List.getElem?_eq_some_iff.mp hx).1
  have b2 := g.b2
  have b12 := g.b12
  have r1 := g.r1
  have q0 : FinD cs Q (.bl true) cs := by
    have : FinD cs Q (.bl true) (cs.set n x) := .inl (q x (hB.le (by omega)))
    rw [set_self hx] at this
    exact this
  walk_at "w"
  refine ⟨⟨_, _, rfl⟩, _, b, r, cols, rfl, shF, ?_⟩
  refine ⟨⟨_, rfl, by omega, by omega⟩, ?_⟩
  walk_at "w"
  refine v_itd (fun h => ?_) fun h => ?_
  · walk_at "w"
    exact q0
  walk_at "w"
  refine v_lenL (xs := (slFo 0 ops).map encSo) rfl (fun _ h => nomatch h) ?_
  rw [List.length_map]
  walk_at "w"
  refine v_itdn (fun h1 => ?_) fun h1 => ?_
  · walk_at "w"
    exact q0
  walk_at "w"
  refine ⟨⟨_, _, rfl⟩, _, b, r, cols, rfl, shF, ?_⟩
  walk_at "w"
  refine ⟨⟨_, _, rfl⟩, _, b, r, cols, rfl, shF, ?_⟩
  walk_at "w"
  refine ⟨b, r, rfl, b2, b12, by omega, by omega, ?_⟩
  walk_at "w"
  refine v_itd (fun h2 => ?_) fun h2 => ?_
  · walk_at "w"
    exact q0
  walk_at "w"
  refine ⟨n, x, c, 2, 40, rfl, hx, hB, by omega, by decide, by decide, by decide, by decide, fun l x2 gl ll hB2 => .inl ?_⟩
  walk_at "w"
  refine ⟨⟨_, _, rfl⟩, _, b, r, cols, rfl, shF, ?_⟩
  walk_at "w"
  refine ⟨⟨_, _, rfl⟩, _, b, r, cols, rfl, shF, ?_⟩
  walk_at "w"
  obtain ⟨s, hs⟩ := List.length_eq_one_iff.mp (show (slFo 0 ops).length = 1 by omega)
  obtain ⟨i, o⟩ := s
  have hm : (i, o) ∈ slFo 0 ops := by rw [hs]; exact List.mem_singleton_self _
  obtain ⟨hi, hoo⟩ := ho _ hm
  have hoo' : (∃ d, o = .off d ∧ 1 ≤ d ∧ d < b) ∨ o = .swap := hoo.elim .inl fun z => .inr z.1
  obtain ⟨t1, t2, t3⟩ := toDd_ok (r := r) b2 b12 hoo'
  have gn : Gn b r := ⟨b2, b12, r1, by omega, by omega⟩
  have gk : Gk b r [toDd o] 1 := ⟨gn, fun t ht => by rw [List.mem_singleton] at ht; subst ht; exact t1, by simp, by simp, by simp, by decide, by decide⟩
  have ke := keep_one gk
  refine v_ixK (xs := (slFo 0 ops).map encSo) rfl (y := encSo (i, o)) (by rw [hs]; exact atI_zero) ?_
  walk_at "w"
  refine ⟨_, atI_one, (show (1 : Nat) ≤ sizeLine by decide), ?_⟩
  walk_at "w"
  refine ⟨_, b, r, 1, _, [toDd o], rfl, by show some [encO o] = some [encD (toDd o)]; rw [t2], (fun _ z => nomatch z), app_get, gk, ?_⟩
  rw [ke]
  refine ⟨rfl, .inr ⟨_, _, _, _, app_set, rfl, los_ki, (fun c hc => .inl hc), ?_⟩⟩
  walk_at "w"
  refine v_listL (xs := l.map .int) rfl ?_
  walk_at "w"
  refine v_lcY (e1 := ⟨_, _⟩) l D.int (fun d => .int (valW b (stFo b cols ops cols.length).2.1 (stFo b cols ops cols.length).1 % d)) rfl (by have := gl.len; omega) ?_ ?_
  · intro Q' j d hj q'
    refine ⟨_, rfl, ?_⟩
    walk_at "w"
    refine ⟨⟨_, _, rfl, by decide⟩, ?_⟩
    walk_at "w"
    have := (gl.ge d (List.mem_of_getElem? hj)).1
    exact ⟨b, _, _, d, rfl, b2, b12, by omega, q'⟩
  · walk_at "w"
    have gz : Gz cols.length ([toDd o].map toO) 1 := ⟨by omega, by decide, by decide, by
      show (ordF cols.length [toO (toDd o)] 1).length ≤ 20000
      rw [t3, ord_one, List.length_map, List.length_range]; omega⟩
    refine ⟨_, b, r, cols, [toDd o], 1, l, l.map fun d => valW b (stFo b cols ops cols.length).2.1 (stFo b cols ops cols.length).1 % d, by rw [List.map_map]; rfl, shF, g, fun t ht => by rw [List.mem_singleton] at ht; subst ht; exact t1, by simp, gz, gl, by rw [List.length_map]; have := gl.len; omega, ?_⟩
    refine v_inE encSlE (a := slFo 0 ops) (xs := shownF b r cols ([toDd o].map toO) 1 l _) rfl rfl ?_
    have mem : slFo 0 ops ∈ shownF b r cols ([toDd o].map toO) 1 l (l.map fun d => valW b (stFo b cols ops cols.length).2.1 (stFo b cols ops cols.length).1 % d) := shown_mem P (by
      show slFo 0 ops ∈ ordF cols.length [toO (toDd o)] 1
      rw [t3, ord_one, hs]
      exact List.mem_map.mpr ⟨i, List.mem_range.mpr hi, rfl⟩) l
    rw [show isIn (slFo 0 ops) (shownF b r cols ([toDd o].map toO) 1 l (l.map fun d => valW b (stFo b cols ops cols.length).2.1 (stFo b cols ops cols.length).1 % d)) = true by simpa [isIn] using mem]
    exact .inl (q x2 (hB2.le (by omega)))
end
section
variable {K : PySem.W.Frag}
theorem st_lright {a b : D} : startD N_law_right [a, b] = [some a, some b, none, none, none, none, none, none, none, none, none, none, none, none, none, none, none, none, none] := rfl
theorem len_law_right : ∀ ds cs Q, sp_law_right K ds cs Q → ds.length = 2 := by rintro ds cs Q ⟨_, _, rfl, _⟩; rfl
theorem vc_law_right : ∀ ds cs Q, Lo ds cs → LoC cs → sp_law_right K ds cs Q → t_law_right K (Po.fn cs Q) ⟨startD N_law_right ds, cs⟩ := by
  rintro ds cs Q hd hc ⟨ns, k, rfl, k0, k1, q⟩
  rw [st_lright]
  unfold t_law_right
  walk_at "w"
  refine ⟨ns, k, rfl, k0, k1, fun x hB => ?_⟩
  walk_at "w"
  refine ⟨cs.length, x, 0, _, rfl, app_get, hB, by omega, by omega, by omega, fun b x1 b0 b1 hB1 => ?_⟩
  rw [set_end rfl]
  walk_at "w"
  refine ⟨cs.length, x1, _, _, rfl, app_get, hB1, by omega, by omega, by omega, fun r x2 r0 r1 hB2 => ?_⟩
  rw [set_end rfl]
  walk_at "w"
  refine ⟨_, _, rfl, ?_⟩
  walk_at "w"
  refine v_ix2 ?_
  obtain ⟨N, hN, n0, n1⟩ : ∃ N : Int, (if decide (k = 0) = true then D.int 40 else D.int 10) = .int N ∧ 0 < N ∧ N ≤ 40 := by
    split
    · exact ⟨40, rfl, by decide, by decide⟩
    · exact ⟨10, rfl, by decide, by decide⟩
  rw [hN]
  walk_at "w"
  refine ⟨cs.length, x2, _, _, rfl, app_get, hB2, by omega, by omega, by omega, fun m x3 m0 m1 hB3 => ?_⟩
  obtain ⟨m, rfl⟩ := Int.eq_ofNat_of_zero_le m0
  rw [set_end rfl]
  walk_at "w"
  refine ⟨_, _, rfl, ?_⟩
  walk_at "w"
  obtain ⟨B, hBb, B2, B12⟩ : ∃ B, 2 + b = B ∧ 2 ≤ B ∧ B ≤ 12 := ⟨_, rfl, by omega, by omega⟩
  obtain ⟨R, hRr, R1, R3⟩ : ∃ R, 1 + r = R ∧ 1 ≤ R ∧ R ≤ 3 := ⟨_, rfl, by omega, by omega⟩
  rw [hBb, hRr, show (cs ++ [x3]).length = cs.length + 1 by rw [List.length_append]; rfl, show (1 : Int) + (m : Nat) = ((m + 1 : Nat) : Int) by omega]
  refine ⟨fun i e => i ≤ m + 1 ∧ ∃ (cols : List (List Int)) (x' : Cel) (o7 : Option D), cols.length = i ∧ (∀ c ∈ cols, okC B R c = true) ∧ Bg (3 + 10 * i) x' ∧
    e = ⟨[some (.fro (ns.map .int)), some (.int k), some (.cell cs.length), some (.int B), some (.int R), some (.int (m + 1 : Nat)), some (.cell (cs.length + 1)), o7, none, none, none, none, none, none, none, none, none, none, none], cs ++ [x'] ++ [.lst (cols.map encC)]⟩, ?_, ?_, ?_⟩
  · exact ⟨Nat.zero_le _, [], x3, none, rfl, fun _ h => (nomatch h), hB3, rfl⟩
  · rintro i y e2 hy ⟨hi, cols, x', o7, hl, hco, hB', rfl⟩
    obtain ⟨hlt, rfl⟩ := intsD_get hy
    rw [Int.toNat_natCast] at hlt
    refine ⟨trivial, _, rfl, ?_⟩
    walk_at "w"
    refine ⟨⟨_, lk_cell (at_end (by rw [List.length_append]; rfl))⟩, ?_⟩
    walk_at "w"
    refine ⟨cs.length, x', _, B, R, rfl, at_end2 rfl, hB', by omega, B2, B12, R1, by omega, fun col x4 hcol hB4 => ?_⟩
    rw [set_end2 rfl]
    walk_at "w"
    refine v_repL (xs := [.int (B - 1)]) rfl (by omega) (by omega) (by simp; omega) ?_
    rw [flat_one]
    walk_at "w"
    refine v_tupL (xs := List.replicate R.toNat (.int (B - 1))) rfl (fun _ h => nomatch h) ?_
    walk_at "w"
    refine ⟨cs.length, x4, _, _, rfl, at_end2 rfl, hB4, by omega, by omega, by omega, fun v x5 v0 v1 hB5 => ?_⟩
    rw [set_end2 rfl]
    walk_at "w"
    refine v_ix2i v0 v1 ?_
    obtain ⟨col2, hcol2, ec⟩ : ∃ col2, okC B R col2 = true ∧ (if v = 1 then D.tup (List.replicate R.toNat (.int (B - 1))) else encC col) = encC col2 := by
      split
      · exact ⟨_, okC_rep B2 (by omega), by unfold encC; rw [List.map_replicate]⟩
      · exact ⟨col, hcol, rfl⟩
    rw [ec]
    walk_at "w"
    refine ⟨cs.length + 1, cols.map encC, _, rfl, rfl, at_end (by rw [List.length_append]; rfl), by rw [List.length_map, hl]; exact Nat.lt_of_lt_of_le hlt (Nat.le_trans (show m + 1 ≤ 1000 by omega) (by decide)), ?_⟩
    dsimp only
    rw [set_end (by rw [List.length_append]; rfl), show cols.map encC ++ [encC col2] = (cols ++ [col2]).map encC by rw [List.map_append]; rfl]
    walk_at "w"
    refine ⟨hlt, cols ++ [col2], x5, _, by rw [List.length_append, hl]; rfl, fun c hc => ?_, hB5.le (by omega), rfl⟩
    rcases List.mem_append.mp hc with h | h
    · exact hco c h
    · rw [List.mem_singleton] at h; subst h; exact hcol2
  · rintro e2 ⟨hi, cols, x', o7, hl, hco, hB', rfl⟩
    refine ⟨trivial, ?_⟩
    rw [intsD_len, Int.toNat_natCast] at hl hB'
    have g : Gd B R cols := ⟨B2, B12, R1, by omega, hco, by omega⟩
    walk_at "w"
    refine ⟨_, _, cols, B, R, rfl, app_get, lk_app (lk_cell (at_end (by rw [List.length_append]; rfl))), (fun _ z => nomatch z), g, .inl ⟨rfl, .inr ⟨_, _, _, _, app_set, rfl, los_sh, fun c hc => .inl hc, ?_⟩⟩⟩
    walk_at "w"
    refine ⟨_, B, R, cols, rfl, shF, g, ?_⟩
    rw [(stFo_rts g).1, (stFo_rts g).2]
    walk_at "w"
    have C := cols.map encC
    refine ⟨fun i e => ∃ (x' : Cel) (o10 o11 o12 o13 o14 o15 o16 : Option D), i ≤ 2 ∧ Bg (1000 + 300 * i) x' ∧
      e = ⟨[some (.fro (ns.map .int)), some (.int k), some (.cell cs.length), some (.int B), some (.int R), some (.int (m + 1 : Nat)), some (.cell (cs.length + 1)), o7, some (shD K B R cols), some (wrR K B cols), o10, o11, o12, o13, o14, o15, o16, none, none], cs ++ [x'] ++ [.lst (cols.map encC)]⟩, ?_, ?_, ?_⟩
    · exact ⟨x', none, none, none, none, none, none, none, by decide, hB'.le (by omega), rfl⟩
    · rintro i y e2 hy ⟨x4, o10, o11, o12, o13, o14, o15, o16, hi2, hB4, rfl⟩
      obtain ⟨hlt, rfl⟩ := intsD_get hy
      refine ⟨trivial, _, rfl, ?_⟩
      walk_at "w"
      unfold sAsgL
      walk_at "w"
      refine ⟨cs.length, x4, _, B, R, cols, rfl, at_end2 rfl, hB4, by omega, g, by omega, fun ops F x5 M hB5 => ?_⟩
      rw [set_end2 rfl]
      refine ⟨_, rfl, rfl, ?_⟩
      dsimp only [setAll, List.set]
      have hb : 0 < B := by omega
      have hF : valW B (val B cols / B ^ cols.length) F - val B cols = valW B 0 F - valW B 0 (dg B cols.length (val B cols)) := by
        have h1 := dg_val B cols.length (val B cols) hb
        have h2 : F.length = cols.length := M.fl
        rw [valW_top] at h1 ⊢
        rw [dg_len] at h1
        rw [h2]
        omega
      walk_at "w"
      refine v_listL (xs := (slFo 0 ops).map encSo) rfl ?_
      walk_at "w"
      refine ⟨_, _, B, R, cols, ops, _, rfl, rfl, shF, g, M.p, .inl ⟨rfl, ?_⟩⟩
      rw [M.st]
      walk_at "w"
      refine ⟨⟨_, _, rfl⟩, B, _, _, rfl, ?_⟩
      walk_at "w"
      refine init_wr ?_
      walk_at "w"
      refine ⟨⟨_, _, rfl⟩, ⟨_, _, rfl⟩, B, _, _, rfl, _, rfl, ?_⟩
      walk_at "w"
      refine ⟨⟨_, _, rfl⟩, ⟨_, _, rfl⟩, B, _, _, _, R, cols, rfl, shF, g, ?_⟩
      walk_at "w"
      rw [hF, decide_eq_true rfl]
      walk_at "w"
      refine v_slL (xs := (slFo 0 ops).map encSo) rfl (fun _ h => nomatch h) (fun _ h => nomatch h) ?_
      rw [show (1 : Int) = ((1 : Nat) : Int) from rfl, cut_to]
      walk_at "w"
      refine v_listL (xs := ((slFo 0 ops).take 1).map encSo) rfl ?_
      walk_at "w"
      -- one slip alone
      obtain ⟨o1, P1, e1⟩ : ∃ o1, Plan B R cols o1 ∧ slFo 0 o1 = (slFo 0 ops).take 1 := by
        cases hs : slFo 0 ops with
        | nil => exact ⟨rts cols.length, plan_rts B R cols, slF_rts _ _⟩
        | cons s t =>
          obtain ⟨i, o⟩ := s
          obtain ⟨z1, z2⟩ := M.only (i, o) (by rw [hs]; exact List.mem_cons_self)
          obtain ⟨o1, p1, p2, _⟩ := one_any g z1 (o := o) (z2.elim .inl fun z => .inr (.inl z))
          exact ⟨o1, p1, by rw [p2]; rfl⟩
      refine ⟨_, _, B, R, cols, o1, _, rfl, rfl, shF, g, P1, .inl ⟨by rw [e1], ?_⟩⟩
      walk_at "w"
      refine ⟨cs.length, x5, _, B, R, cols, o1, _, rfl, at_end2 rfl, hB5, by omega, g, by omega, R3, P1, by rw [e1], by rw [e1, List.length_take]; omega, fun x hx => M.only x (by rw [e1] at hx; exact List.mem_of_mem_take hx), fun x6 hB6 => ?_⟩
      rw [set_end2 rfl]
      walk_at "w"
      refine v_lcY (e1 := ⟨_, _⟩) (slFo 0 ops) encSo (fun s => .int (effO B s.1 (val B cols) s.2)) rfl ?_ ?_ ?_
      · have := slFo_len ops 0
        have := M.p.len
        omega
      · intro Q' j s hj q'
        obtain ⟨i, o⟩ := s
        obtain ⟨z1, z2⟩ := M.only (i, o) (List.mem_of_getElem? hj)
        obtain ⟨o2, p1, p2, p3⟩ := one_any g z1 (o := o) (z2.elim .inl fun z => .inr (.inl z))
        refine ⟨_, rfl, ?_⟩
        walk_at "w"
        refine ⟨_, _, B, R, cols, o2, _, rfl, rfl, shF, g, p1, .inl ⟨by rw [p2]; rfl, ?_⟩⟩
        walk_at "w"
        refine ⟨⟨_, _, rfl⟩, ⟨_, _, rfl⟩, B, _, _, _, R, cols, rfl, shF, g, ?_⟩
        rw [p3, show ∀ u v : Int, u + v - u = v from fun u v => by omega]
        exact q'
      · walk_at "w"
        rw [show ((slFo 0 ops).map fun s => D.int (effO B s.1 (val B cols) s.2)) = ((slFo 0 ops).map fun s => effO B s.1 (val B cols) s.2).map D.int by rw [List.map_map]; rfl]
        refine v_sumL (ns := (slFo 0 ops).map fun s => effO B s.1 (val B cols) s.2) rfl ?_
        rw [M.eff]
        walk_at "w"
        rw [decide_eq_true rfl]
        walk_at "w"
        exact ⟨x6, _, _, _, _, _, _, _, hlt, hB6.le (by omega), rfl⟩
    · rintro e2 ⟨x4, o10, o11, o12, o13, o14, o15, o16, hi2, hB4, rfl⟩
      refine ⟨trivial, ?_⟩
      have e2' : (intsD 0 (Int.toNat 2)).length = 2 := rfl
      rw [e2'] at hB4
      walk_at "w"
      refine v_listRg ?_
      walk_at "w"
      refine ⟨by omega, by omega, ?_⟩
      walk_at "w"
      rw [Int.toNat_natCast, intsD_nat]
      refine ⟨cs.length, x4, _, _, (List.range (m + 1)).map fun (k : Nat) => D.int (k : Nat), rfl, at_end2 rfl, hB4, by omega, rfl, by rw [List.length_map, List.length_range]; omega, fun ys x5 hp hB5 => .inl ?_⟩
      obtain ⟨ks, rfl, hk⟩ := perm_unmap hp _ rfl
      rw [set_end2 rfl]
      walk_at "w"
      refine v_slL (xs := ks.map fun (k : Nat) => D.int (k : Nat)) rfl (fun _ h => nomatch h) (fun _ h => nomatch h) ?_
      rw [show (8 : Int) = ((8 : Nat) : Int) from rfl, cut_to]
      walk_at "w"
      refine ⟨fun i e => ∃ o17, e = ⟨[some (.fro (ns.map .int)), some (.int k), some (.cell cs.length), some (.int B), some (.int R), some (.int (m + 1 : Nat)), some (.cell (cs.length + 1)), o7, some (shD K B R cols), some (wrR K B cols), o10, o11, o12, o13, o14, o15, o16, o17, none], cs ++ [x5] ++ [.lst (cols.map encC)]⟩, ⟨none, rfl⟩, ?_, ?_⟩
      · rintro i y e2 hy ⟨o17, rfl⟩
        rw [List.getElem?_map] at hy
        obtain ⟨j, hj, rfl⟩ := Option.map_eq_some_iff.mp hy
        have hm := List.mem_range.mp (hk.mem_iff.mp (List.mem_of_mem_take (List.mem_of_getElem? hj)))
        refine ⟨trivial, _, rfl, ?_⟩
        walk_at "w"
        refine ⟨B, R, cols, j, rfl, g, R3, by omega, by omega, ?_⟩
        walk_at "w"
        exact ⟨_, rfl⟩
      · rintro e2 ⟨o17, rfl⟩
        refine ⟨trivial, ?_⟩
        walk_at "w"
        exact trim_back (by rw [List.append_assoc]; exact List.take_left' rfl) rfl q
theorem len_law : ∀ ds cs Q, sp_law K ds cs Q → ds.length = 1 := by rintro ds cs Q ⟨_, rfl, _⟩; rfl
theorem vc_law : ∀ ds cs Q, Lo ds cs → LoC cs → sp_law K ds cs Q → t_law K (Po.fn cs Q) ⟨startD N_law ds, cs⟩ := by
  rintro ds cs Q hd hc ⟨ns, rfl, hn, rfl, q⟩
  unfold t_law
  rw [show startD N_law [D.fro (ns.map .int)] = [some (.fro (ns.map .int)), none] from rfl]
  walk_at "w"
  refine v_lenL (xs := ns.map .int) rfl (fun _ h => nomatch h) ?_
  walk_at "w"
  obtain ⟨m, hm, hm1⟩ : ∃ m : Int, (if (if ((ns.map D.int).length : Int) < 6 then ((ns.map D.int).length : Int) else 6) > 1 then (if ((ns.map D.int).length : Int) < 6 then ((ns.map D.int).length : Int) else 6) else 1) = m ∧ 0 ≤ m ∧ m ≤ 6 := by
    refine ⟨_, rfl, ?_, ?_⟩ <;> (repeat' split) <;> omega
  rw [hm]
  walk_at "w"
  refine ⟨fun i e => ∃ o, e = ⟨[some (.fro (ns.map .int)), o], []⟩, ⟨none, rfl⟩, ?_, ?_⟩
  · rintro i y e2 hy ⟨o, rfl⟩
    obtain ⟨hlt, rfl⟩ := intsD_get hy
    refine ⟨trivial, _, rfl, ?_⟩
    walk_at "w"
    refine ⟨ns, _, rfl, by omega, by omega, ?_⟩
    walk_at "w"
    exact ⟨_, rfl⟩
  · rintro e2 ⟨o, rfl⟩
    refine ⟨trivial, ?_⟩
    walk_at "w"
    exact .inl (q _)
end
section
variable {P : Program} {w : World} {K : PySem.W.Frag} {mg : Str → Option Value} {base : Heap}
theorem ok_law_bag (T : Txt K mg) : Good P w K mg base 2 (He.ga K "_law_bag") ["script", "k"] (sp_law_bag K) :=
  good_of T.F_law_bag sc_law_bag len_law_bag (fun _ _ _ _ _ _ us hl => match us, hl with | [_, _], _ => rfl) (d_law_bag T ) vc_law_bag
theorem ok_law_take (T : Txt K mg) : Good P w K mg base 2 (He.ga K "_law_take") ["bag", "many"] (sp_law_take K) :=
  good_of T.F_law_take sc_law_take len_law_take (fun _ _ _ _ _ _ us hl => match us, hl with | [_, _], _ => rfl) (d_law_take T ) vc_law_take
theorem ok_law_column (T : Txt K mg) : Good P w K mg base 5 (He.ga K "_law_column") ["bag", "base", "rows"] (sp_law_column K) :=
  good_of T.F_law_column sc_law_column len_law_column (fun _ _ _ _ _ _ us hl => match us, hl with | [_, _, _], _ => rfl) (d_law_column T (ok_law_take T)) vc_law_column
theorem ok_is_integer (T : Txt K mg) : Good P w K mg base 2 (He.ga K "is_integer") ["value"] (sp_is_integer K) :=
  good_of T.F_is_integer sc_is_integer len_is_integer (fun _ _ _ _ _ _ us hl => match us, hl with | [_], _ => rfl) (d_is_integer T ) vc_is_integer
theorem ok_is_column (T : Txt K mg) : Good P w K mg base 5 (He.ga K "is_column") ["value", "base", "rows"] (sp_is_column K) :=
  good_of T.F_is_column sc_is_column len_is_column (fun _ _ _ _ _ _ us hl => match us, hl with | [_, _, _], _ => rfl) (d_is_column T (ok_is_integer T)) vc_is_column
theorem ok_Sheet_init (T : Txt K mg) : Good P w K mg base 8 (He.ma K (He.ga K "Sheet") "__init__") ["self", "base", "rows", "columns"] (sp_Sheet_init K) :=
  good_of T.F_Sheet_init sc_Sheet_init len_Sheet_init (fun _ _ _ _ _ _ us hl => match us, hl with | [_, _, _, _], _ => rfl) (d_Sheet_init T (ok_is_integer T) (ok_is_column T)) vc_Sheet_init
theorem ok_taken (T : Txt K mg) : Good P w K mg base 2 (He.ga K "taken") ["base", "column", "before", "deed"] (sp_taken K) :=
  good_of T.F_taken sc_taken len_taken (fun _ _ _ _ _ _ us hl => match us, hl with | [_, _, _, _], _ => rfl) (d_taken T ) vc_taken
theorem ok_done (T : Txt K mg) : Good P w K mg base 5 (He.ga K "done") ["base", "column", "before", "carry", "deed"] (sp_done K) :=
  good_of T.F_done sc_done len_done (fun _ _ _ _ _ _ us hl => match us, hl with | [_, _, _, _, _], _ => rfl) (d_done T (ok_taken T)) vc_done
theorem ok_Adding_do (T : Txt K mg) : Good P w K mg base 8 (He.ma K (He.ga K "Adding") "do") ["self", "deed"] (sp_Adding_do K) :=
  good_of T.F_Adding_do sc_Adding_do len_Adding_do (fun _ _ _ _ _ _ us hl => match us, hl with | [_, _], _ => rfl) (d_Adding_do T (ok_done T)) vc_Adding_do
theorem ok_Adding_do_until (T : Txt K mg) : Good P w K mg base 11 (He.ma K (He.ga K "Adding") "do_until") ["self", "column"] (sp_Adding_do_until K) :=
  good_of T.F_Adding_do_until sc_Adding_do_until len_Adding_do_until (fun _ _ _ _ _ _ us hl => match us, hl with | [_, _], _ => rfl) (d_Adding_do_until T (ok_Adding_do T)) vc_Adding_do_until
theorem ok_Written_init (T : Txt K mg) : Good P w K mg base 2 (He.ma K (He.ga K "Written") "__init__") ["self", "base", "figures", "last"] (sp_Written_init K) :=
  good_of T.F_Written_init sc_Written_init len_Written_init (fun _ _ _ _ _ _ us hl => match us, hl with | [_, _, _, _], _ => rfl) (d_Written_init T ) vc_Written_init
theorem ok_Adding_result (T : Txt K mg) : Good P w K mg base 14 (He.ma K (He.ga K "Adding") "result") ["self"] (sp_Adding_result K) :=
  good_of T.F_Adding_result sc_Adding_result len_Adding_result (fun _ _ _ _ _ _ us hl => match us, hl with | [_], _ => rfl) (d_Adding_result T (ok_Adding_do_until T) (ok_Written_init T)) vc_Adding_result
theorem ok_Sheet_base (T : Txt K mg) : Good P w K mg base 2 (pga K (He.ga K "Sheet") "base") ["self"] (sp_Sheet_base K) :=
  good_of T.F_Sheet_base sc_Sheet_base len_Sheet_base (fun _ _ _ _ _ _ us hl => match us, hl with | [_], _ => rfl) (d_Sheet_base T ) vc_Sheet_base
theorem ok_Sheet_columns (T : Txt K mg) : Good P w K mg base 2 (pga K (He.ga K "Sheet") "columns") ["self"] (sp_Sheet_columns K) :=
  good_of T.F_Sheet_columns sc_Sheet_columns len_Sheet_columns (fun _ _ _ _ _ _ us hl => match us, hl with | [_], _ => rfl) (d_Sheet_columns T ) vc_Sheet_columns
theorem ok_Adding_init (T : Txt K mg) : Good P w K mg base 5 (He.ma K (He.ga K "Adding") "__init__") ["self", "sheet"] (sp_Adding_init K) :=
  good_of T.F_Adding_init sc_Adding_init len_Adding_init (fun _ _ _ _ _ _ us hl => match us, hl with | [_, _], _ => rfl) (d_Adding_init T (ok_Sheet_base T) (ok_Sheet_columns T)) vc_Adding_init
theorem ok_add_right (T : Txt K mg) : Good P w K mg base 17 (He.ga K "add_right") ["sheet"] (sp_add_right K) :=
  good_of T.F_add_right sc_add_right len_add_right (fun _ _ _ _ _ _ us hl => match us, hl with | [_], _ => rfl) (d_add_right T (ok_Adding_result T) (ok_Adding_init T)) vc_add_right
theorem ok_Written_figures (T : Txt K mg) : Good P w K mg base 2 (pga K (He.ga K "Written") "figures") ["self"] (sp_Written_figures K) :=
  good_of T.F_Written_figures sc_Written_figures len_Written_figures (fun _ _ _ _ _ _ us hl => match us, hl with | [_], _ => rfl) (d_Written_figures T ) vc_Written_figures
theorem ok_Sheet_len (T : Txt K mg) : Good P w K mg base 2 (He.ma K (He.ga K "Sheet") "__len__") ["self"] (sp_Sheet_len K) :=
  good_of T.F_Sheet_len sc_Sheet_len len_Sheet_len (fun _ _ _ _ _ _ us hl => match us, hl with | [_], _ => rfl) (d_Sheet_len T ) vc_Sheet_len
theorem ok_law_power (T : Txt K mg) : Good P w K mg base 2 (He.ga K "_law_power") ["base", "many"] (sp_law_power K) :=
  good_of T.F_law_power sc_law_power len_law_power (fun _ _ _ _ _ _ us hl => match us, hl with | [_, _], _ => rfl) (d_law_power T ) vc_law_power
theorem ok_law_marked (T : Txt K mg) : Good P w K mg base 5 (He.ga K "_law_marked") ["bag", "sheet", "right"] (sp_law_marked K) :=
  good_of T.F_law_marked sc_law_marked len_law_marked (fun _ _ _ _ _ _ us hl => match us, hl with | [_, _, _], _ => rfl) (d_law_marked T (ok_Written_figures T) (ok_Sheet_len T) (ok_law_power T) (ok_Sheet_base T) (ok_law_take T)) vc_law_marked
theorem ok_is_deed (T : Txt K mg) : Good P w K mg base 5 (He.ga K "is_deed") ["value", "base", "rows"] (sp_is_deed K) :=
  good_of T.F_is_deed sc_is_deed len_is_deed (fun _ _ _ _ _ _ us hl => match us, hl with | [_, _, _], _ => rfl) (d_is_deed T (ok_is_integer T)) vc_is_deed
theorem ok_Sheet_rows (T : Txt K mg) : Good P w K mg base 2 (pga K (He.ga K "Sheet") "rows") ["self"] (sp_Sheet_rows K) :=
  good_of T.F_Sheet_rows sc_Sheet_rows len_Sheet_rows (fun _ _ _ _ _ _ us hl => match us, hl with | [_], _ => rfl) (d_Sheet_rows T ) vc_Sheet_rows
theorem ok_is_slip (T : Txt K mg) : Good P w K mg base 8 (He.ga K "is_slip") ["value", "sheet", "low"] (sp_is_slip K) :=
  good_of T.F_is_slip sc_is_slip len_is_slip (fun _ _ _ _ _ _ us hl => match us, hl with | [_, _, _], _ => rfl) (d_is_slip T (ok_is_integer T) (ok_Sheet_len T) (ok_is_deed T) (ok_Sheet_rows T) (ok_Sheet_base T)) vc_is_slip
theorem ok_Adding_free (T : Txt K mg) : Good P w K mg base 2 (He.ma K (He.ga K "Adding") "free") ["self"] (sp_Adding_free K) :=
  good_of T.F_Adding_free sc_Adding_free len_Adding_free (fun _ _ _ _ _ _ us hl => match us, hl with | [_], _ => rfl) (d_Adding_free T ) vc_Adding_free
theorem ok_InvalidSlips_init (T : Txt K mg) : GoodIx P w K mg base 2 (He.ma K (He.ga K "InvalidSlips") "__init__") "InvalidSlips" :=
  goodIx_of T.F_InvalidSlips_init sc_InvalidSlips_init (fun _ _ _ _ _ _ us hl => match us, hl with | [_, _], _ => rfl) d_InvalidSlips_init T.ox_InvalidSlips T.nx_InvalidSlips T.sm_InvalidSlips_init
theorem ok_add_with (T : Txt K mg) : GoodX P w K mg base 17 (He.ga K "add_with") ["sheet", "slips"] (sp_add_with K) :=
  good_ofX T.F_add_with sc_add_with len_add_with (fun _ _ _ _ _ _ us hl => match us, hl with | [_, _], _ => rfl) (d_add_with T (ok_Adding_init T) (ok_is_slip T) (ok_Adding_free T) (ok_InvalidSlips_init T) (ok_Adding_do_until T) (ok_Adding_do T) (ok_Adding_result T)) vc_add_with
theorem ok_Written_eq (T : Txt K mg) : Good P w K mg base 2 (He.ma K (He.ga K "Written") "__eq__") ["self", "other"] (sp_Written_eq K) :=
  good_of T.F_Written_eq sc_Written_eq len_Written_eq (fun _ _ _ _ _ _ us hl => match us, hl with | [_, _], _ => rfl) (d_Written_eq T ) vc_Written_eq
theorem ok_Written_last (T : Txt K mg) : Good P w K mg base 2 (pga K (He.ga K "Written") "last") ["self"] (sp_Written_last K) :=
  good_of T.F_Written_last sc_Written_last len_Written_last (fun _ _ _ _ _ _ us hl => match us, hl with | [_], _ => rfl) (d_Written_last T ) vc_Written_last
theorem ok_Written_value (T : Txt K mg) : Good P w K mg base 2 (pga K (He.ga K "Written") "value") ["self"] (sp_Written_value K) :=
  good_of T.F_Written_value sc_Written_value len_Written_value (fun _ _ _ _ _ _ us hl => match us, hl with | [_], _ => rfl) (d_Written_value T ) vc_Written_value
theorem ok_Sheet_value (T : Txt K mg) : Good P w K mg base 2 (pga K (He.ga K "Sheet") "value") ["self"] (sp_Sheet_value K) :=
  good_of T.F_Sheet_value sc_Sheet_value len_Sheet_value (fun _ _ _ _ _ _ us hl => match us, hl with | [_], _ => rfl) (d_Sheet_value T ) vc_Sheet_value
theorem ok_Written_sub (T : Txt K mg) : Good P w K mg base 5 (He.ma K (He.ga K "Written") "__sub__") ["self", "other"] (sp_Written_sub K) :=
  good_of T.F_Written_sub sc_Written_sub len_Written_sub (fun _ _ _ _ _ _ us hl => match us, hl with | [_, _], _ => rfl) (d_Written_sub T (ok_Written_value T) (ok_Sheet_value T)) vc_Written_sub
theorem ok_law_lot (T : Txt K mg) : Good P w K mg base 5 (He.ga K "_law_lot") ["bag", "most", "greatest"] (sp_law_lot K) :=
  good_of T.F_law_lot sc_law_lot len_law_lot (fun _ _ _ _ _ _ us hl => match us, hl with | [_, _, _], _ => rfl) (d_law_lot T (ok_law_take T)) vc_law_lot
theorem ok_number_of_columns (T : Txt K mg) : Good P w K mg base 2 (He.ga K "number_of_columns") ["base", "rows"] (sp_number_of_columns K) :=
  good_of T.F_number_of_columns sc_number_of_columns len_number_of_columns (fun _ _ _ _ _ _ us hl => match us, hl with | [_, _], _ => rfl) (d_number_of_columns T ) vc_number_of_columns
theorem ok_all_deeds (T : Txt K mg) : Good P w K mg base 2 (He.ga K "all_deeds") ["base", "rows"] (sp_all_deeds K) :=
  good_of T.F_all_deeds sc_all_deeds len_all_deeds (fun _ _ _ _ _ _ us hl => match us, hl with | [_, _], _ => rfl) (d_all_deeds T ) vc_all_deeds
theorem ok_Kind_init (T : Txt K mg) : Good P w K mg base 8 (He.ma K (He.ga K "Kind") "__init__") ["self", "base", "rows", "deeds", "most"] (sp_Kind_init K) :=
  good_of T.F_Kind_init sc_Kind_init len_Kind_init (fun _ _ _ _ _ _ us hl => match us, hl with | [_, _, _, _, _], _ => rfl) (d_Kind_init T (ok_is_integer T) (ok_number_of_columns T) (ok_is_deed T) (ok_all_deeds T)) vc_Kind_init
theorem ok_check_lot (T : Txt K mg) : Good P w K mg base 2 (He.ga K "check_lot") ["lot"] (sp_check_lot K) :=
  good_of T.F_check_lot sc_check_lot len_check_lot (fun _ _ _ _ _ _ us hl => match us, hl with | [_], _ => rfl) (d_check_lot T ) vc_check_lot
theorem ok_Kind_base (T : Txt K mg) : Good P w K mg base 2 (pga K (He.ga K "Kind") "base") ["self"] (sp_Kind_base K) :=
  good_of T.F_Kind_base sc_Kind_base len_Kind_base (fun _ _ _ _ _ _ us hl => match us, hl with | [_], _ => rfl) (d_Kind_base T ) vc_Kind_base
theorem ok_Kind_rows (T : Txt K mg) : Good P w K mg base 2 (pga K (He.ga K "Kind") "rows") ["self"] (sp_Kind_rows K) :=
  good_of T.F_Kind_rows sc_Kind_rows len_Kind_rows (fun _ _ _ _ _ _ us hl => match us, hl with | [_], _ => rfl) (d_Kind_rows T ) vc_Kind_rows
theorem ok_check_alike (T : Txt K mg) : Good P w K mg base 5 (He.ga K "check_alike") ["kind", "sheet"] (sp_check_alike K) :=
  good_of T.F_check_alike sc_check_alike len_check_alike (fun _ _ _ _ _ _ us hl => match us, hl with | [_, _], _ => rfl) (d_check_alike T (ok_Kind_base T) (ok_Sheet_base T) (ok_Kind_rows T) (ok_Sheet_rows T)) vc_check_alike
theorem ok_Kind_most (T : Txt K mg) : Good P w K mg base 2 (pga K (He.ga K "Kind") "most") ["self"] (sp_Kind_most K) :=
  good_of T.F_Kind_most sc_Kind_most len_Kind_most (fun _ _ _ _ _ _ us hl => match us, hl with | [_], _ => rfl) (d_Kind_most T ) vc_Kind_most
theorem ok_Kind_deeds (T : Txt K mg) : Good P w K mg base 2 (pga K (He.ga K "Kind") "deeds") ["self"] (sp_Kind_deeds K) :=
  good_of T.F_Kind_deeds sc_Kind_deeds len_Kind_deeds (fun _ _ _ _ _ _ us hl => match us, hl with | [_], _ => rfl) (d_Kind_deeds T ) vc_Kind_deeds
theorem ok_further_slips (T : Txt K mg) : Good P w K mg base 5 (He.ga K "further_slips") ["kind", "sheet", "slips"] (sp_further_slips K) :=
  good_of T.F_further_slips sc_further_slips len_further_slips (fun _ _ _ _ _ _ us hl => match us, hl with | [_, _, _], _ => rfl) (d_further_slips T (ok_Kind_most T) (ok_Sheet_len T) (ok_Kind_deeds T)) vc_further_slips
theorem ok_outcome (T : Txt K mg) : Good P w K mg base 20 (He.ga K "outcome") ["sheet", "slips"] (sp_outcome K) :=
  good_of T.F_outcome sc_outcome len_outcome (fun _ _ _ _ _ _ us hl => match us, hl with | [_, _], _ => rfl) (d_outcome T (ok_add_with T)) vc_outcome
theorem ok_all_outcomes (T : Txt K mg) : Good P w K mg base 23 (He.ga K "all_outcomes") ["kind", "sheet"] (sp_all_outcomes K) :=
  good_of T.F_all_outcomes sc_all_outcomes len_all_outcomes (fun _ _ _ _ _ _ us hl => match us, hl with | [_, _], _ => rfl) (d_all_outcomes T (ok_further_slips T) (ok_outcome T)) vc_all_outcomes
theorem ok_Written_rest (T : Txt K mg) : Good P w K mg base 5 (He.ma K (He.ga K "Written") "rest") ["self", "r"] (sp_Written_rest K) :=
  good_of T.F_Written_rest sc_Written_rest len_Written_rest (fun _ _ _ _ _ _ us hl => match us, hl with | [_, _], _ => rfl) (d_Written_rest T (ok_Written_value T)) vc_Written_rest
theorem ok_slips_shown (T : Txt K mg) : Good P w K mg base 26 (He.ga K "slips_shown") ["kind", "sheet", "lot", "shown"] (sp_slips_shown K) :=
  good_of T.F_slips_shown sc_slips_shown len_slips_shown (fun _ _ _ _ _ _ us hl => match us, hl with | [_, _, _, _], _ => rfl) (d_slips_shown T (ok_check_lot T) (ok_check_alike T) (ok_all_outcomes T) (ok_Written_rest T)) vc_slips_shown
theorem ok_law_shown_right (T : Txt K mg) : Good P w K mg base 29 (He.ga K "_law_shown_right") ["bag", "sheet", "slips", "written"] (sp_law_shown_right K) :=
  good_of T.F_law_shown_right sc_law_shown_right len_law_shown_right (fun _ _ _ _ _ _ us hl => match us, hl with | [_, _, _, _], _ => rfl) (d_law_shown_right T (ok_Sheet_len T) (ok_law_power T) (ok_Sheet_rows T) (ok_Sheet_base T) (ok_law_lot T) (ok_Kind_init T) (ok_slips_shown T) (ok_Written_rest T)) vc_law_shown_right
theorem ok_law_mixed (T : Txt K mg) : Good P w K mg base 5 (He.ga K "_law_mixed") ["bag", "items"] (sp_law_mixed K) :=
  good_of T.F_law_mixed sc_law_mixed len_law_mixed (fun _ _ _ _ _ _ us hl => match us, hl with | [_, _], _ => rfl) (d_law_mixed T (ok_law_take T)) vc_law_mixed
theorem ok_Sheet_cut (T : Txt K mg) : Good P w K mg base 11 (He.ma K (He.ga K "Sheet") "cut") ["self", "low", "high"] (sp_Sheet_cut K) :=
  good_of T.F_Sheet_cut sc_Sheet_cut len_Sheet_cut (fun _ _ _ _ _ _ us hl => match us, hl with | [_, _, _], _ => rfl) (d_Sheet_cut T (ok_Sheet_init T)) vc_Sheet_cut
theorem ok_law_written (T : Txt K mg) : Good P w K mg base 20 (He.ga K "_law_written") ["sheet", "slips"] (sp_law_written K) :=
  good_of T.F_law_written sc_law_written len_law_written (fun _ _ _ _ _ _ us hl => match us, hl with | [_, _], _ => rfl) (d_law_written T (ok_add_with T)) vc_law_written
theorem ok_law_with_carry (T : Txt K mg) : Good P w K mg base 11 (He.ga K "_law_with_carry") ["sheet", "carry"] (sp_law_with_carry K) :=
  good_of T.F_law_with_carry sc_law_with_carry len_law_with_carry (fun _ _ _ _ _ _ us hl => match us, hl with | [_, _], _ => rfl) (d_law_with_carry T (ok_Sheet_columns T) (ok_Sheet_init T) (ok_Sheet_rows T) (ok_Sheet_base T)) vc_law_with_carry
theorem ok_law_carry_right (T : Txt K mg) : Good P w K mg base 23 (He.ga K "_law_carry_right") ["sheet", "at"] (sp_law_carry_right K) :=
  good_of T.F_law_carry_right sc_law_carry_right len_law_carry_right (fun _ _ _ _ _ _ us hl => match us, hl with | [_, _], _ => rfl) (d_law_carry_right T (ok_law_power T) (ok_Sheet_base T) (ok_Sheet_cut T) (ok_Sheet_len T) (ok_add_right T) (ok_law_written T) (ok_Written_last T) (ok_Written_eq T) (ok_Written_init T) (ok_Written_figures T) (ok_Written_sub T) (ok_add_with T) (ok_law_with_carry T)) vc_law_carry_right
theorem ok_law_right (T : Txt K mg) : Good P w K mg base 32 (He.ga K "_law_right") ["script", "k"] (sp_law_right K) :=
  good_of T.F_law_right sc_law_right len_law_right (fun _ _ _ _ _ _ us hl => match us, hl with | [_, _], _ => rfl) (d_law_right T (ok_law_bag T) (ok_law_take T) (ok_law_column T) (ok_Sheet_init T) (ok_add_right T) (ok_law_marked T) (ok_add_with T) (ok_Written_eq T) (ok_Written_init T) (ok_Written_last T) (ok_Written_sub T) (ok_law_shown_right T) (ok_law_mixed T) (ok_law_carry_right T)) vc_law_right
theorem okf_law (T : Txt K mg) {fd : FuncData} (F : FunD K "law" "law" (defArgs s_law) (defBody s_law) (defScope s_law) [] [] (He.ga K "law") fd) : FnOk P w K mg base CX0 35 (He.ga K "law") fd ["script"] (spD K spLaw) :=
  fn_d F sc_law (len_law (K := K)) (d_law T (ok_law_right T)) vc_law
end
theorem txt {K : PySem.W.Frag} {h : Heap} {mg : Str → Option Value} (X : K.In h) (G : h.Ns mainGlobals mg) (c : SaysY fxs fns K) : Txt K mg where
  g_law_right := He.glo_ok X G (c.fact 0 (f := .fa (.glo "_law_right")) rfl)
  g_law_bag := He.glo_ok X G (c.fact 1 (f := .fa (.glo "_law_bag")) rfl)
  g_law_take := He.glo_ok X G (c.fact 2 (f := .fa (.glo "_law_take")) rfl)
  g_law_column := He.glo_ok X G (c.fact 3 (f := .fa (.glo "_law_column")) rfl)
  g_Sheet := He.glo_ok X G (c.fact 4 (f := .fa (.glo "Sheet")) rfl)
  g_add_right := He.glo_ok X G (c.fact 5 (f := .fa (.glo "add_right")) rfl)
  g_law_marked := He.glo_ok X G (c.fact 6 (f := .fa (.glo "_law_marked")) rfl)
  g_add_with := He.glo_ok X G (c.fact 7 (f := .fa (.glo "add_with")) rfl)
  g_Written := He.glo_ok X G (c.fact 8 (f := .fa (.glo "Written")) rfl)
  g_law_shown_right := He.glo_ok X G (c.fact 9 (f := .fa (.glo "_law_shown_right")) rfl)
  g_law_mixed := He.glo_ok X G (c.fact 10 (f := .fa (.glo "_law_mixed")) rfl)
  g_law_carry_right := He.glo_ok X G (c.fact 11 (f := .fa (.glo "_law_carry_right")) rfl)
  g_is_integer := He.glo_ok X G (c.fact 12 (f := .fa (.glo "is_integer")) rfl)
  g_is_column := He.glo_ok X G (c.fact 13 (f := .fa (.glo "is_column")) rfl)
  g_Adding := He.glo_ok X G (c.fact 14 (f := .fa (.glo "Adding")) rfl)
  g_done := He.glo_ok X G (c.fact 15 (f := .fa (.glo "done")) rfl)
  g_taken := He.glo_ok X G (c.fact 16 (f := .fa (.glo "taken")) rfl)
  g_law_power := He.glo_ok X G (c.fact 17 (f := .fa (.glo "_law_power")) rfl)
  g_is_slip := He.glo_ok X G (c.fact 18 (f := .fa (.glo "is_slip")) rfl)
  g_InvalidSlips := He.glo_ok X G (c.fact 19 (f := .fa (.glo "InvalidSlips")) rfl)
  g_is_deed := He.glo_ok X G (c.fact 20 (f := .fa (.glo "is_deed")) rfl)
  g_PLAIN := He.glo_ok X G (c.fact 21 (f := .fa (.glo "PLAIN")) rfl)
  g_law_lot := He.glo_ok X G (c.fact 22 (f := .fa (.glo "_law_lot")) rfl)
  g_Kind := He.glo_ok X G (c.fact 23 (f := .fa (.glo "Kind")) rfl)
  g_slips_shown := He.glo_ok X G (c.fact 24 (f := .fa (.glo "slips_shown")) rfl)
  g_number_of_columns := He.glo_ok X G (c.fact 25 (f := .fa (.glo "number_of_columns")) rfl)
  g_all_deeds := He.glo_ok X G (c.fact 26 (f := .fa (.glo "all_deeds")) rfl)
  g_check_lot := He.glo_ok X G (c.fact 27 (f := .fa (.glo "check_lot")) rfl)
  g_check_alike := He.glo_ok X G (c.fact 28 (f := .fa (.glo "check_alike")) rfl)
  g_all_outcomes := He.glo_ok X G (c.fact 29 (f := .fa (.glo "all_outcomes")) rfl)
  g_further_slips := He.glo_ok X G (c.fact 30 (f := .fa (.glo "further_slips")) rfl)
  g_outcome := He.glo_ok X G (c.fact 31 (f := .fa (.glo "outcome")) rfl)
  g_law_written := He.glo_ok X G (c.fact 32 (f := .fa (.glo "_law_written")) rfl)
  g_law_with_carry := He.glo_ok X G (c.fact 33 (f := .fa (.glo "_law_with_carry")) rfl)
  g_law := He.glo_ok X G (c.fact 34 (f := .fa (.glo "law")) rfl)
  n_range := He.free_ok X G (c.fact 35 (f := .fa (.free "range")) rfl)
  n_max := He.free_ok X G (c.fact 36 (f := .fa (.free "max")) rfl)
  n_min := He.free_ok X G (c.fact 37 (f := .fa (.free "min")) rfl)
  n_len := He.free_ok X G (c.fact 38 (f := .fa (.free "len")) rfl)
  n_int := He.free_ok X G (c.fact 39 (f := .fa (.free "int")) rfl)
  n_tuple := He.free_ok X G (c.fact 40 (f := .fa (.free "tuple")) rfl)
  c_Sheet := He.cls_ok (c.fact 41 (f := .fa (.cls "Sheet")) rfl)
  mk_Sheet := He.mkr_ok (c.fact 42 (f := .fa (.mkr "Sheet")) rfl)
  n_list := He.free_ok X G (c.fact 43 (f := .fa (.free "list")) rfl)
  sm_Written_eq := sm_ok (c.fact 44 (f := .sm "Written" "__eq__") rfl)
  nf_Written := nedf_ok (c.fact 45 (f := .nedf "Written") rfl)
  c_Written := He.cls_ok (c.fact 46 (f := .fa (.cls "Written")) rfl)
  mk_Written := He.mkr_ok (c.fact 47 (f := .fa (.mkr "Written")) rfl)
  p_Written_last := prop_ok (c.fact 48 (f := .prop "Written" "last") rfl)
  sm_Written_sub := sm_ok (c.fact 49 (f := .sm "Written" "__sub__") rfl)
  sf_Written := c.fact 50 (f := .selff "Written") rfl
  ns_Sheet_sub := nosl_ok (c.fact 51 (f := .nosl "Sheet" "sub") rfl)
  n_sum := He.free_ok X G (c.fact 52 (f := .fa (.free "sum")) rfl)
  n_abs := He.free_ok X G (c.fact 53 (f := .fa (.free "abs")) rfl)
  n_isinstance := He.free_ok X G (c.fact 54 (f := .fa (.free "isinstance")) rfl)
  n_all := He.free_ok X G (c.fact 55 (f := .fa (.free "all")) rfl)
  na_Sheet_held_base := He.noat_ok (c.fact 56 (f := .fa (.noat "Sheet" "held_base")) rfl)
  na_Sheet_held_rows := He.noat_ok (c.fact 57 (f := .fa (.noat "Sheet" "held_rows")) rfl)
  na_Sheet_held_columns := He.noat_ok (c.fact 58 (f := .fa (.noat "Sheet" "held_columns")) rfl)
  na_Sheet_size := He.noat_ok (c.fact 59 (f := .fa (.noat "Sheet" "size")) rfl)
  n_bool := He.free_ok X G (c.fact 60 (f := .fa (.free "bool")) rfl)
  c_Adding := He.cls_ok (c.fact 61 (f := .fa (.cls "Adding")) rfl)
  m_Adding_result := He.meth_ok (c.fact 62 (f := .fa (.meth "Adding" "result")) rfl)
  mk_Adding := He.mkr_ok (c.fact 63 (f := .fa (.mkr "Adding")) rfl)
  m_Adding_do_until := He.meth_ok (c.fact 64 (f := .fa (.meth "Adding" "do_until")) rfl)
  na_Adding_given := He.noat_ok (c.fact 65 (f := .fa (.noat "Adding" "given")) rfl)
  na_Adding_carry := He.noat_ok (c.fact 66 (f := .fa (.noat "Adding" "carry")) rfl)
  na_Adding_written := He.noat_ok (c.fact 67 (f := .fa (.noat "Adding" "written")) rfl)
  na_Adding_system := He.noat_ok (c.fact 68 (f := .fa (.noat "Adding" "system")) rfl)
  na_Adding_at := He.noat_ok (c.fact 69 (f := .fa (.noat "Adding" "at")) rfl)
  m_Adding_do := He.meth_ok (c.fact 70 (f := .fa (.meth "Adding" "do")) rfl)
  na_Adding_waiting := He.noat_ok (c.fact 71 (f := .fa (.noat "Adding" "waiting")) rfl)
  na_Written_held_base := He.noat_ok (c.fact 72 (f := .fa (.noat "Written" "held_base")) rfl)
  na_Written_held_figures := He.noat_ok (c.fact 73 (f := .fa (.noat "Written" "held_figures")) rfl)
  na_Written_held_last := He.noat_ok (c.fact 74 (f := .fa (.noat "Written" "held_last")) rfl)
  p_Sheet_base := prop_ok (c.fact 75 (f := .prop "Sheet" "base") rfl)
  p_Sheet_columns := prop_ok (c.fact 76 (f := .prop "Sheet" "columns") rfl)
  p_Written_figures := prop_ok (c.fact 77 (f := .prop "Written" "figures") rfl)
  sm_Sheet_len := sm_ok (c.fact 78 (f := .sm "Sheet" "__len__") rfl)
  n_enumerate := He.free_ok X G (c.fact 79 (f := .fa (.free "enumerate")) rfl)
  m_Adding_free := He.meth_ok (c.fact 80 (f := .fa (.meth "Adding" "free")) rfl)
  ox_InvalidSlips := oex_ok (c.fact 81 (f := .oex "InvalidSlips") rfl)
  nx_InvalidSlips := noix_ok (c.fact 82 (f := .noix "InvalidSlips") rfl)
  sm_InvalidSlips_init := sm_ok (c.fact 83 (f := .sm "InvalidSlips" "__init__") rfl)
  p_Sheet_rows := prop_ok (c.fact 84 (f := .prop "Sheet" "rows") rfl)
  n_str := He.free_ok X G (c.fact 85 (f := .fa (.free "str")) rfl)
  tg_PLAIN := He.tupB_ok (c.fact 86 (f := .tup "PLAIN" [.str "forget", .str "again", .str "swap", .str "out", .str "twice"]) rfl)
  ic_Written := insc_ok (c.fact 87 (f := .insc "Written") rfl)
  p_Written_value := prop_ok (c.fact 88 (f := .prop "Written" "value") rfl)
  p_Sheet_value := prop_ok (c.fact 89 (f := .prop "Sheet" "value") rfl)
  c_Kind := He.cls_ok (c.fact 90 (f := .fa (.cls "Kind")) rfl)
  mk_Kind := He.mkr_ok (c.fact 91 (f := .fa (.mkr "Kind")) rfl)
  m_Written_rest := He.meth_ok (c.fact 92 (f := .fa (.meth "Written" "rest")) rfl)
  ig_MOST_COLUMNS := He.int_ok X G (c.fact 93 (f := .fa (.int "MOST_COLUMNS" 1000)) rfl)
  ig_MOST_DEEDS := He.int_ok X G (c.fact 94 (f := .fa (.int "MOST_DEEDS" 8)) rfl)
  na_Kind_held_base := He.noat_ok (c.fact 95 (f := .fa (.noat "Kind" "held_base")) rfl)
  na_Kind_held_rows := He.noat_ok (c.fact 96 (f := .fa (.noat "Kind" "held_rows")) rfl)
  na_Kind_held_deeds := He.noat_ok (c.fact 97 (f := .fa (.noat "Kind" "held_deeds")) rfl)
  na_Kind_held_most := He.noat_ok (c.fact 98 (f := .fa (.noat "Kind" "held_most")) rfl)
  p_Kind_base := prop_ok (c.fact 99 (f := .prop "Kind" "base") rfl)
  p_Kind_rows := prop_ok (c.fact 100 (f := .prop "Kind" "rows") rfl)
  p_Kind_most := prop_ok (c.fact 101 (f := .prop "Kind" "most") rfl)
  p_Kind_deeds := prop_ok (c.fact 102 (f := .prop "Kind" "deeds") rfl)
  xm_InvalidSlips := exm_okT (c.fact 103 (f := .exm "InvalidSlips" [("InvalidSlips", true)]) rfl)
  m_Sheet_cut := He.meth_ok (c.fact 104 (f := .fa (.meth "Sheet" "cut")) rfl)
  F_law_bag := c.def_ 0 (d := df_law_bag) rfl
  F_law_take := c.def_ 1 (d := df_law_take) rfl
  F_law_column := c.def_ 2 (d := df_law_column) rfl
  F_is_integer := c.def_ 3 (d := df_is_integer) rfl
  F_is_column := c.def_ 4 (d := df_is_column) rfl
  F_Sheet_init := c.def_ 5 (d := df_Sheet_init) rfl
  F_taken := c.def_ 6 (d := df_taken) rfl
  F_done := c.def_ 7 (d := df_done) rfl
  F_Adding_do := c.def_ 8 (d := df_Adding_do) rfl
  F_Adding_do_until := c.def_ 9 (d := df_Adding_do_until) rfl
  F_Written_init := c.def_ 10 (d := df_Written_init) rfl
  F_Adding_result := c.def_ 11 (d := df_Adding_result) rfl
  F_Sheet_base := c.def_ 12 (d := df_Sheet_base) rfl
  F_Sheet_columns := c.def_ 13 (d := df_Sheet_columns) rfl
  F_Adding_init := c.def_ 14 (d := df_Adding_init) rfl
  F_add_right := c.def_ 15 (d := df_add_right) rfl
  F_Written_figures := c.def_ 16 (d := df_Written_figures) rfl
  F_Sheet_len := c.def_ 17 (d := df_Sheet_len) rfl
  F_law_power := c.def_ 18 (d := df_law_power) rfl
  F_law_marked := c.def_ 19 (d := df_law_marked) rfl
  F_is_deed := c.def_ 20 (d := df_is_deed) rfl
  F_Sheet_rows := c.def_ 21 (d := df_Sheet_rows) rfl
  F_is_slip := c.def_ 22 (d := df_is_slip) rfl
  F_Adding_free := c.def_ 23 (d := df_Adding_free) rfl
  F_InvalidSlips_init := c.def_ 24 (d := df_InvalidSlips_init) rfl
  F_add_with := c.def_ 25 (d := df_add_with) rfl
  F_Written_eq := c.def_ 26 (d := df_Written_eq) rfl
  F_Written_last := c.def_ 27 (d := df_Written_last) rfl
  F_Written_value := c.def_ 28 (d := df_Written_value) rfl
  F_Sheet_value := c.def_ 29 (d := df_Sheet_value) rfl
  F_Written_sub := c.def_ 30 (d := df_Written_sub) rfl
  F_law_lot := c.def_ 31 (d := df_law_lot) rfl
  F_number_of_columns := c.def_ 32 (d := df_number_of_columns) rfl
  F_all_deeds := c.def_ 33 (d := df_all_deeds) rfl
  F_Kind_init := c.def_ 34 (d := df_Kind_init) rfl
  F_check_lot := c.def_ 35 (d := df_check_lot) rfl
  F_Kind_base := c.def_ 36 (d := df_Kind_base) rfl
  F_Kind_rows := c.def_ 37 (d := df_Kind_rows) rfl
  F_check_alike := c.def_ 38 (d := df_check_alike) rfl
  F_Kind_most := c.def_ 39 (d := df_Kind_most) rfl
  F_Kind_deeds := c.def_ 40 (d := df_Kind_deeds) rfl
  F_further_slips := c.def_ 41 (d := df_further_slips) rfl
  F_outcome := c.def_ 42 (d := df_outcome) rfl
  F_all_outcomes := c.def_ 43 (d := df_all_outcomes) rfl
  F_Written_rest := c.def_ 44 (d := df_Written_rest) rfl
  F_slips_shown := c.def_ 45 (d := df_slips_shown) rfl
  F_law_shown_right := c.def_ 46 (d := df_law_shown_right) rfl
  F_law_mixed := c.def_ 47 (d := df_law_mixed) rfl
  F_Sheet_cut := c.def_ 48 (d := df_Sheet_cut) rfl
  F_law_written := c.def_ 49 (d := df_law_written) rfl
  F_law_with_carry := c.def_ 50 (d := df_law_with_carry) rfl
  F_law_carry_right := c.def_ 51 (d := df_law_carry_right) rfl
  F_law_right := c.def_ 52 (d := df_law_right) rfl
  F_law := c.def_ 53 (d := df_law) rfl
end LW
open PySem PySem.W PySem.Calls PyProof.Rows
set_option maxRecDepth 100000 in
set_option maxHeartbeats 8000000 in
theorem PySem.Challenge.cw_sumslips_k81_whole_slips_as_other_result_holds : PySem.Challenge.rw_sumslips_k81_whole_slips_as_other_result.Holds := by
  refine LW.headE ?hc
  case hc =>
    refine L2.walk_ofE (l := PySem.Challenge.rw_sumslips_k81_whole_slips_as_other_result) (n := 63) (k := 35) (x := "script") (CX := L2.CX0) rfl (by decide) (by kernel_rfl) ⟨rfl, by decide, by decide⟩ ?F (fun _ _ _ _ z => z)
    intro w mg fa h Y G hmg0
    obtain ⟨K, KX, c⟩ := Y
    have hmg : mg ("law" : PySem.Str) = some (.ref fa) := by
      have e : (HandSHeadRun.topDef (OpenLaw.row PySem.Challenge.rw_sumslips_k81_whole_slips_as_other_result).prog 54).name = ("law" : PySem.Str) := by kernel_rfl
      rw [← e]
      exact hmg0
    have T := LW.txt KX G c
    have e := hmg.symm.trans T.g_law
    cases e
    obtain ⟨fd, F⟩ := T.F_law
    have b := L2.FunD.bindsA (ps := ["script"]) F fun _ _ _ _ _ _ us hl => match us, hl with | [_], _ => rfl
    exact ⟨K, fd, DL.spD K DL.spLaw, KX, fun s v => b s [v] rfl, fun H a ns hl _ hS => DL.law_says H a ns hl hS, fun base _ _ => LW.okf_law T F⟩
