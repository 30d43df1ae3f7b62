import PyProof.Rows.All
import Wide.All
import OpenK.AllK
import Wide.FinOn
import HandS.ForMost
import HandS.Evl
import HandS.IsInst
import HandS.Wide
import HandS.Property
import HandS.Deep
import HandS.Style
import HandS.Defaults
import HandS.More
import HandS.Head0
import HandS.Head1
import HandS.Head2
import HandS.HeadEnd
import HandS.HeadHook1
import HandS.HeadHook2
import HandS.Codes
import HandS.ExcInit
import HandS.Zip
import HandS.TupMul
import HandS.Star
import KE.DataFind
import PyProof.AutoSeq1
import PyProof.ListOps
import HandS.Exc
import HandS.ExcOwn
import HandS.ExcIs
import HandS.ExcField
import HandS.ExcCtx
import HandS.TryMany
import KE.KExcIs
import HandS.ExcValue
import HandS.TryOnly
import HandS.Text
import HandS.TupAny
import HandS.RaiseMore
import KE.DataCmp
import PySem.Challenge.RW_sumslips_k58_strings_that_are_no_sheet
set_option Elab.async false
set_option linter.all false
set_option maxRecDepth 100000
set_option maxHeartbeats 8000000
namespace DL
open PySem PySem.Spec PyProof.Rows L2
open Evl (Ex)

/-! ### what the head tells -/
inductive At where
  | glo (x : Str)
  | met (c m : Str)
  | prp (c m : Str)
def pga (K : PySem.W.Frag) (C : Addr) (m : Str) : Addr := match PySem.W.recIn K (He.ma K C m) "property" with
  | some (.ref g :: _) => g
  | _ => 0
def At.ad (K : PySem.W.Frag) : At → Addr
  | .glo x => He.ga K x
  | .met c m => He.ma K (He.ga K c) m
  | .prp c m => pga K (He.ga K c) m
structure DefX where
  at_ : At
  name : Str
  qual : Str
  params : Arguments
  body : List Stmt
  scope : Scope
  dfl : List He.Dv := []
  kwd : List (Str × He.Dv) := []
def fnY (K : PySem.W.Frag) (p : At) : He.FnW := match K.lookup (p.ad K) with
  | some ⟨_, _, .func fd, _⟩ => some (fd.name, fd.qualname, fd.params, fd.body, fd.scope, fd.globals, fd.closure, fd.builtins)
  | _ => none
def DefX.val (d : DefX) : He.FnW := some (d.name, d.qual, d.params, .stmts d.body, d.scope, mainGlobals, [], builtinsNs)
def DefX.dvs (K : PySem.W.Frag) (d : DefX) : List V := d.dfl.map (He.Dv.v K)
def DefX.kws (K : PySem.W.Frag) (d : DefX) : List (Str × V) := d.kwd.map fun q => (q.1, q.2.v K)
def DefX.ok (K : PySem.W.Frag) (d : DefX) : Bool := PySem.W.keepIn K (.ref (d.at_.ad K)) && (match K.lookup (d.at_.ad K) with
  | some ⟨_, _, .func fd, _⟩ => PySem.W.codeIn K fd.code d.qual && (He.dflB K fd.defaults (d.dvs K) && He.kwdB K fd.kwdefaults (d.kws K))
  | _ => false)
theorem DefX.funD {K : PySem.W.Frag} {d : DefX} (e : fnY K d.at_ = d.val) (c : d.ok K = true) : ∃ fd, FunD K d.name d.qual d.params d.body d.scope (d.dvs K) (d.kws K) (d.at_.ad K) fd := by
  obtain ⟨kp, c2⟩ := He.ba c
  unfold fnY at e
  cases q : K.lookup (d.at_.ad K) with
  | none =>
    rw [q] at c2
    cases c2
  | some o =>
    obtain ⟨oc, od, dt, osl⟩ := o
    rw [q] at c2 e
    cases dt with
    | func fd =>
      obtain ⟨n1, n2, n3, n4, n5, n6, n7, n8, n9, n10, n11, n12, n13, n14, n15⟩ := fd
      have e2 : (some (n1, n2, n3, n4, n5, n6, n7, n15) : He.FnW) = some (d.name, d.qual, d.params, .stmts d.body, d.scope, mainGlobals, [], builtinsNs) := e
      simp only [Option.some.injEq, Prod.mk.injEq] at e2
      obtain ⟨h1, h2, h3, h4, h5, h6, h7, h8⟩ := e2
      subst h1 h2 h3 h4 h5 h6 h7 h8
      have c3 : (PySem.W.codeIn K n13 d.qual && (He.dflB K n8 (d.dvs K) && He.kwdB K n9 (d.kws K))) = true := c2
      obtain ⟨k1, k2⟩ := He.ba c3
      obtain ⟨k3, k4⟩ := He.ba k2
      exact ⟨_, ⟨oc, od, n8, n9, n10, n11, n12, n13, n14, osl, rfl, q, k1, He.dflB_ok k3, He.kwdB_ok k4⟩, kp⟩
    | _ => cases c2
/-- no slot of this number operator in the class C -/
structure NoSl (K : PySem.W.Frag) (C : Addr) (nm : String) : Prop where
  cd : ∃ cd, PySem.W.clsIn K C = some cd ∧ cd.mro = [.ref C, .type "object"]
  a : PySem.W.findIn K (.ref C) (PySem.dunder nm) = some none
  b : PySem.W.findIn K (.ref C) (dunderR nm) = some none
  oa : PySem.W.findIn K (.type "object") (PySem.dunder nm) = some none
  ob : PySem.W.findIn K (.type "object") (dunderR nm) = some none
def tysB : List String := ["NoneType", "bool", "int", "str", "tuple", "list", "dict"]
/-- an own exception class with its own __init__, as its object says -/
def oexO (C : Addr) (o : Obj) : Bool := decide (o.cls = .type "type") && match o.data with
  | .cls cd => !cd.hasDel && (cd.hasDict && match cd.mro with
    | .ref C' :: bm => decide (C' = C) && (PySem.HandSPX.refsVE bm && match o.slots.toList with
      | [_, _, _, _, some (.builtin n), _] => decide (n = "ValueError.__new__")
      | _ => false)
    | _ => false)
  | _ => false
def oexB (K : PySem.W.Frag) (C : Addr) : Bool := match K.lookup C with
  | some o => oexO C o
  | none => false
inductive Fx where
  | fa (f : He.Fa)
  | prop (c f : Str)
  | sm (c m : Str)
  | fnin (c m : Str)
  | tup (x : Str) (vs : List He.Dv)
  | insc (c : Str)
  | selff (c : Str)
  | noseq (c : Str)
  | nosl (c : Str) (nm : String)
  | kto (c : Str)
  | excc (c : Str)
  | exm (c : Str) (l : List (Str × Bool))
  | kito (c : Str) (l : List (Str × Bool))
  | kitb (T : String) (l : List (Str × Bool))
  | kita (cs : List Str) (l : List (Str × Bool))
  | oex (c : Str)
  | noix (c : Str)
  | exci (c : Str)
def Fx.ok (K : PySem.W.Frag) : Fx → Bool
  | .fa f => f.ok K
  | .prop c f => He.eqO (PySem.W.findIn K (.ref (He.ga K c)) f) (some (some (.ref (He.ma K (He.ga K c) f)))) && (He.eqO (PySem.W.specialIn K (.ref (He.ma K (He.ga K c) f)) "__get__") (some (some (.builtin "property.__get__"))) &&
      (decide (PySem.W.takesIn K (.ref (He.ma K (He.ga K c) f)) = some true) && (match PySem.W.recIn K (He.ma K (He.ga K c) f) "property" with
        | some (.ref g :: _) => decide (g = pga K (He.ga K c) f)
        | _ => false)))
  | .sm c m => He.eqO (PySem.W.findIn K (.ref (He.ga K c)) m) (some (some (.ref (He.ma K (He.ga K c) m)))) && PySem.W.isFn K (.ref (He.ma K (He.ga K c) m))
  | .fnin c m => PySem.W.fnIn K (He.ma K (He.ga K c) m)
  | .tup x vs => He.tupB K x vs
  | .insc c => (He.Fa.cls c).ok K && (He.eqO (PySem.W.findIn K (.ref (He.ga K c)) "__class__") (some (some (.builtin "object.__class__"))) && (He.eqO (PySem.W.specialIn K (.builtin "object.__class__") "__get__") (some (some (.builtin "getset_descriptor.__get__"))) &&
      (decide (PySem.W.takesIn K (.builtin "object.__class__") = some true) && decide (PySem.W.mroIn K (He.ga K c) (.type "object") = some true))))
  | .selff c => PySem.W.selfFirst K (He.ga K c)
  | .noseq c => PySem.W.noSeq K (He.ga K c)
  | .nosl c nm => (match PySem.W.clsIn K (He.ga K c) with
      | some cd => decide (cd.mro = [.ref (He.ga K c), .type "object"])
      | none => false) && (He.eqO (PySem.W.findIn K (.ref (He.ga K c)) (PySem.dunder nm)) (some none) && (He.eqO (PySem.W.findIn K (.ref (He.ga K c)) (dunderR nm)) (some none) &&
      (He.eqO (PySem.W.findIn K (.type "object") (PySem.dunder nm)) (some none) && He.eqO (PySem.W.findIn K (.type "object") (dunderR nm)) (some none))))
  | .kto c => tysB.all fun a => decide (PySem.W.kitOne K (.type a) (.ref (He.ga K c)) = some false)
  | .excc c => (He.Fa.exc c).ok K && (He.eqO (PySem.W.findIn K (.ref (He.ga K c)) "__getattribute__") (some (some (.builtin "BaseException.__getattribute__"))) && (He.eqO (PySem.W.findIn K (.ref (He.ga K c)) "__getattr__") (some none) &&
      (PySem.W.hasDictIn K (He.ga K c) && (He.eqO (PySem.W.findIn K (.ref (He.ga K c)) "__class__") (some (some (.builtin "object.__class__"))) && (He.eqO (PySem.W.specialIn K (.builtin "object.__class__") "__get__") (some (some (.builtin "getset_descriptor.__get__"))) &&
      (decide (PySem.W.takesIn K (.builtin "object.__class__") = some true) && decide (PySem.W.mroIn K (He.ga K c) (.type "object") = some true)))))))
  | .exm c l => l.all fun p => decide (PySem.W.exmOne K (.ref (He.ga K p.1)) (.ref (He.ga K c)) = some p.2)
  | .kito c l => l.all fun p => decide (PySem.W.kitOne K (.ref (He.ga K p.1)) (.ref (He.ga K c)) = some p.2)
  | .kitb T l => l.all fun p => decide (PySem.W.kitOne K (.ref (He.ga K p.1)) (.type T) = some p.2)
  | .kita cs l => l.all fun p => decide (PySem.W.kitAny K (.ref (He.ga K p.1)) (cs.map fun x => .ref (He.ga K x)) = some p.2)
  | .oex c => oexB K (He.ga K c) && (He.eqO (PySem.W.findIn K (.ref (He.ga K c)) "__setattr__") (some (some (.builtin "object.__setattr__"))) && (decide (PySem.W.subIn K (.ref (He.ga K c)) (.type "BaseException") = some true) &&
      (decide (PySem.W.typeIn K (.ref (He.ga K c)) = some (.type "type")) && PySem.W.keepIn K (.ref (He.ga K c)))))
  | .exci c => decide (PySem.W.subIn K (.ref (He.ga K c)) (.type "BaseException") = some true) && (He.eqO (PySem.W.findIn K (.ref (He.ga K c)) "__getattribute__") (some (some (.builtin "BaseException.__getattribute__"))) && (He.eqO (PySem.W.findIn K (.ref (He.ga K c)) "__getattr__") (some none) &&
      (PySem.W.hasDictIn K (He.ga K c) && (He.eqO (PySem.W.findIn K (.ref (He.ga K c)) "__class__") (some (some (.builtin "object.__class__"))) && (He.eqO (PySem.W.specialIn K (.builtin "object.__class__") "__get__") (some (some (.builtin "getset_descriptor.__get__"))) &&
      (decide (PySem.W.takesIn K (.builtin "object.__class__") = some true) && decide (PySem.W.mroIn K (He.ga K c) (.type "object") = some true)))))))
  | .noix c => He.eqO (PySem.W.findIn K (.ref (He.ga K c)) "index") (some none)
/-! the addresses that are looked at: level by level, each once (a tree of marks in the place of eraseDups: the kernel's run of it is cheap) -/
inductive NT where
  | nil
  | node (b : Bool) (l r : NT)
def NT.mem : Nat → NT → Nat → Bool
  | 0, _, _ => false
  | _ + 1, .nil, _ => false
  | k + 1, .node b l r, i => match Nat.beq i 0 with
    | true => b
    | false => match Nat.beq (i % 2) 1 with
      | true => NT.mem k l (i / 2)
      | false => NT.mem k r (i / 2 - 1)
def NT.ins : Nat → NT → Nat → NT
  | 0, v, _ => v
  | k + 1, .nil, i => match Nat.beq i 0 with
    | true => .node true .nil .nil
    | false => match Nat.beq (i % 2) 1 with
      | true => .node false (NT.ins k .nil (i / 2)) .nil
      | false => .node false .nil (NT.ins k .nil (i / 2 - 1))
  | k + 1, .node b l r, i => match Nat.beq i 0 with
    | true => .node true l r
    | false => match Nat.beq (i % 2) 1 with
      | true => .node b (NT.ins k l (i / 2)) r
      | false => .node b l (NT.ins k r (i / 2 - 1))
def addF : List Addr → NT → List Addr → NT × List Addr
  | [], v, new => (v, new)
  | a :: as, v, new => match NT.mem 20 v a with
    | true => addF as v new
    | false => addF as (NT.ins 20 v a) (a :: new)
def stepF (g : Addr → Option Obj) : List Addr → NT → List Addr → NT × List Addr
  | [], v, new => (v, new)
  | a :: as, v, new => match g a with
    | none => stepF g as v new
    | some o => match addF (He.refsD o) v new with
      | (v', new') => stepF g as v' new'
def walkF (g : Addr → Option Obj) : Nat → List Addr → NT → List Addr → List Addr
  | 0, _, _, acc => acc
  | n + 1, fr, v, acc => match stepF g fr v [] with
    | (v', new) => walkF g n new v' (acc ++ new)
def asF (g : Addr → Option Obj) (n : Nat) : List Addr := walkF g n [mainGlobals] (NT.ins 20 .nil mainGlobals) [mainGlobals]
abbrev AlY : Type := Bool × List He.FnW
def obsY (fa : List Fx) (fn : List DefX) (K : PySem.W.Frag) : AlY := ((fa.all fun f => f.ok K) && fn.all fun d => d.ok K, fn.map fun d => fnY K d.at_)
def valY (fn : List DefX) : AlY := (true, fn.map DefX.val)
def SaysY (fa : List Fx) (fn : List DefX) (K : PySem.W.Frag) : Prop := obsY fa fn K = valY fn
def obsYG (n : Nat) (fa : List Fx) (fn : List DefX) (g : Addr → Option Obj) : AlY := obsY fa fn (He.frG g (asF g n))
def hookY (n : Nat) (fa : List Fx) (fn : List DefX) : PySem.W.Hook where
  α := AlY
  obs := fun s => obsYG n fa fn s.heap.get?
  val := fun _ => valY fn
  says := fun _ h => ∃ K : PySem.W.Frag, K.In h ∧ SaysY fa fn K
  of := fun _ _ e => ⟨_, He.frG_in, e⟩
  keeps := fun _ _ _ ⟨K, hK, c⟩ k => ⟨K, PySem.W.Frag.In.keeps hK k, c⟩
theorem obsYG_eq {n : Nat} {fa : List Fx} {fn : List DefX} {g : Addr → Option Obj} {s : Shared} (h : ∀ a, g a = s.heap.get? a) : obsYG n fa fn g = (hookY n fa fn).obs s := by
  have e : g = s.heap.get? := funext h
  rw [e] <;> rfl
section
variable {fa : List Fx} {fn : List DefX} {K : PySem.W.Frag}
theorem SaysY.fact (c : SaysY fa fn K) (i : Nat) {f : Fx} (h : fa[i]? = some f := by rfl) : f.ok K = true := by
  have c1 := (He.ba (show ((fa.all fun f => f.ok K) && fn.all fun d => d.ok K) = true from congrArg (fun z : AlY => z.1) c)).1
  exact List.all_eq_true.mp c1 f (List.mem_of_getElem? h)
theorem SaysY.def_ (c : SaysY fa fn K) (i : Nat) {d : DefX} (h : fn[i]? = some d := by rfl) : ∃ fd, FunD K d.name d.qual d.params d.body d.scope (d.dvs K) (d.kws K) (d.at_.ad K) fd := by
  have c2 := (He.ba (show ((fa.all fun f => f.ok K) && fn.all fun d => d.ok K) = true from congrArg (fun z : AlY => z.1) c)).2
  have e : fn.map (fun d => fnY K d.at_) = fn.map DefX.val := congrArg (fun z : AlY => z.2) c
  have e2 : (fn.map fun d => fnY K d.at_)[i]? = (fn.map DefX.val)[i]? := by rw [e]
  rw [List.getElem?_map, List.getElem?_map, h] at e2
  exact DefX.funD (Option.some.inj e2) (List.all_eq_true.mp c2 d (List.mem_of_getElem? h))
end
end DL
namespace LW
open PySem PySem.Spec PyProof.Rows L2 DL
open Evl (Ex)
abbrev Rw : PySem.W.OpenRow := PySem.W.OpenLaw.row PySem.Challenge.rw_sumslips_k58_strings_that_are_no_sheet
def top (i : Nat) : Stmt := PySem.Challenge.pw_sumslips_k58_strings_that_are_no_sheet.main.body.getD i (.Pass ⟨0, 0, 0, 0⟩)
abbrev s_law_cells : Stmt := top 28
abbrev N_law_cells : List Str := ["script"]
theorem sc_law_cells : FnScope N_law_cells ["script"] (defScope s_law_cells) := ⟨rfl, rfl, rfl, by decide +kernel, rfl, by decide +kernel, by decide +kernel⟩
abbrev s_law_deck : Stmt := top 29
abbrev N_law_deck : List Str := ["cell"]
theorem sc_law_deck : FnScope N_law_deck ["cell"] (defScope s_law_deck) := ⟨rfl, rfl, rfl, by decide +kernel, rfl, by decide +kernel, by decide +kernel⟩
abbrev s_law_draw : Stmt := top 30
abbrev N_law_draw : List Str := ["deck", "many", "drawn", "stir"]
theorem sc_law_draw : FnScope N_law_draw ["deck", "many"] (defScope s_law_draw) := ⟨rfl, rfl, rfl, by decide +kernel, rfl, by decide +kernel, by decide +kernel⟩
abbrev s_law_column : Stmt := top 31
abbrev N_law_column : List Str := ["deck", "base", "rows", "way", "figures", "j"]
theorem sc_law_column : FnScope N_law_column ["deck", "base", "rows"] (defScope s_law_column) := ⟨rfl, rfl, rfl, by decide +kernel, rfl, by decide +kernel, by decide +kernel⟩
abbrev s_law_columns : Stmt := top 32
abbrev N_law_columns : List Str := ["deck", "base", "rows", "most", "many", "i"]
theorem sc_law_columns : FnScope N_law_columns ["deck", "base", "rows", "most"] (defScope s_law_columns) := ⟨rfl, rfl, rfl, by decide +kernel, rfl, by decide +kernel, by decide +kernel⟩
abbrev s_law_text : Stmt := top 34
abbrev N_law_text : List Str := ["deck", "base", "rows", "columns", "text", "j", "row", "column"]
theorem sc_law_text : FnScope N_law_text ["deck"] (defScope s_law_text) := ⟨rfl, rfl, rfl, by decide +kernel, rfl, by decide +kernel, by decide +kernel⟩
abbrev s_law_spoilt : Stmt := top 33
abbrev N_law_spoilt : List Str := ["deck", "text", "way", "at", "to", "chars", "char", "swapped", "some"]
theorem sc_law_spoilt : FnScope N_law_spoilt ["deck", "text"] (defScope s_law_spoilt) := ⟨rfl, rfl, rfl, by decide +kernel, rfl, by decide +kernel, by decide +kernel⟩
abbrev s_law_near : Stmt := top 35
abbrev N_law_near : List Str := ["deck", "some"]
theorem sc_law_near : FnScope N_law_near ["deck"] (defScope s_law_near) := ⟨rfl, rfl, rfl, by decide +kernel, rfl, by decide +kernel, by decide +kernel⟩
abbrev s_is_number : Stmt := top 25
abbrev N_is_number : List Str := ["word", "char"]
theorem sc_is_number : FnScope N_is_number ["word"] (defScope s_is_number) := ⟨rfl, rfl, rfl, by decide +kernel, rfl, by decide +kernel, by decide +kernel⟩
abbrev s_is_integer : Stmt := top 17
abbrev N_is_integer : List Str := ["value"]
theorem sc_is_integer : FnScope N_is_integer ["value"] (defScope s_is_integer) := ⟨rfl, rfl, rfl, by decide +kernel, rfl, by decide +kernel, by decide +kernel⟩
abbrev s_is_column : Stmt := top 18
abbrev N_is_column : List Str := ["value", "base", "rows", "figure"]
theorem sc_is_column : FnScope N_is_column ["value", "base", "rows"] (defScope s_is_column) := ⟨rfl, rfl, rfl, by decide +kernel, rfl, by decide +kernel, by decide +kernel⟩
abbrev s_Sheet_init : Stmt := inClass (top 19) 0
abbrev N_Sheet_init : List Str := ["self", "base", "rows", "columns", "column"]
theorem sc_Sheet_init : FnScope N_Sheet_init ["self", "base", "rows", "columns"] (defScope s_Sheet_init) := ⟨rfl, rfl, rfl, by decide +kernel, rfl, by decide +kernel, by decide +kernel⟩
abbrev s_read_sheet : Stmt := top 26
abbrev N_read_sheet : List Str := ["text", "words", "rows", "digits", "base", "size", "row", "columns", "char", "at"]
theorem sc_read_sheet : FnScope N_read_sheet ["text"] (defScope s_read_sheet) := ⟨rfl, rfl, rfl, by decide +kernel, rfl, by decide +kernel, by decide +kernel⟩
abbrev s_law_read : Stmt := top 37
abbrev N_law_read : List Str := ["value", "told", "e", "odd"]
theorem sc_law_read : FnScope N_law_read ["value"] (defScope s_law_read) := ⟨rfl, rfl, rfl, by decide +kernel, rfl, by decide +kernel, by decide +kernel⟩
abbrev s_law_is_text : Stmt := top 36
abbrev N_law_is_text : List Str := ["value", "words", "heads", "rows", "figures", "row", "char"]
theorem sc_law_is_text : FnScope N_law_is_text ["value"] (defScope s_law_is_text) := ⟨rfl, rfl, rfl, by decide +kernel, rfl, by decide +kernel, by decide +kernel⟩
abbrev s_Sheet_columns : Stmt := inClass (top 19) 3
abbrev N_Sheet_columns : List Str := ["self"]
theorem sc_Sheet_columns : FnScope N_Sheet_columns ["self"] (defScope s_Sheet_columns) := ⟨rfl, rfl, rfl, by decide +kernel, rfl, by decide +kernel, by decide +kernel⟩
abbrev s_Sheet_base : Stmt := inClass (top 19) 1
abbrev N_Sheet_base : List Str := ["self"]
theorem sc_Sheet_base : FnScope N_Sheet_base ["self"] (defScope s_Sheet_base) := ⟨rfl, rfl, rfl, by decide +kernel, rfl, by decide +kernel, by decide +kernel⟩
abbrev s_Sheet_rows : Stmt := inClass (top 19) 2
abbrev N_Sheet_rows : List Str := ["self"]
theorem sc_Sheet_rows : FnScope N_Sheet_rows ["self"] (defScope s_Sheet_rows) := ⟨rfl, rfl, rfl, by decide +kernel, rfl, by decide +kernel, by decide +kernel⟩
abbrev s_show_figures : Stmt := top 23
abbrev N_show_figures : List Str := ["figures", "figure"]
theorem sc_show_figures : FnScope N_show_figures ["figures"] (defScope s_show_figures) := ⟨rfl, rfl, rfl, by decide +kernel, rfl, by decide +kernel, by decide +kernel⟩
abbrev s_show_sheet : Stmt := top 24
abbrev N_show_sheet : List Str := ["sheet", "columns", "parts", "j", "column"]
theorem sc_show_sheet : FnScope N_show_sheet ["sheet"] (defScope s_show_sheet) := ⟨rfl, rfl, rfl, by decide +kernel, rfl, by decide +kernel, by decide +kernel⟩
abbrev s_law_right : Stmt := top 38
abbrev N_law_right : List Str := ["value", "told"]
theorem sc_law_right : FnScope N_law_right ["value"] (defScope s_law_right) := ⟨rfl, rfl, rfl, by decide +kernel, rfl, by decide +kernel, by decide +kernel⟩
abbrev s_law : Stmt := top 39
abbrev N_law : List Str := ["script", "cell", "deck", "way", "text", "value"]
theorem sc_law : FnScope N_law ["script"] (defScope s_law) := ⟨rfl, rfl, rfl, by decide +kernel, rfl, by decide +kernel, by decide +kernel⟩
def df_law_cells : DefX := ⟨.glo "_law_cells", "_law_cells", "_law_cells", defArgs s_law_cells, defBody s_law_cells, defScope s_law_cells, [], []⟩
def df_law_deck : DefX := ⟨.glo "_law_deck", "_law_deck", "_law_deck", defArgs s_law_deck, defBody s_law_deck, defScope s_law_deck, [], []⟩
def df_law_draw : DefX := ⟨.glo "_law_draw", "_law_draw", "_law_draw", defArgs s_law_draw, defBody s_law_draw, defScope s_law_draw, [], []⟩
def df_law_column : DefX := ⟨.glo "_law_column", "_law_column", "_law_column", defArgs s_law_column, defBody s_law_column, defScope s_law_column, [], []⟩
def df_law_columns : DefX := ⟨.glo "_law_columns", "_law_columns", "_law_columns", defArgs s_law_columns, defBody s_law_columns, defScope s_law_columns, [], []⟩
def df_law_text : DefX := ⟨.glo "_law_text", "_law_text", "_law_text", defArgs s_law_text, defBody s_law_text, defScope s_law_text, [], []⟩
def df_law_spoilt : DefX := ⟨.glo "_law_spoilt", "_law_spoilt", "_law_spoilt", defArgs s_law_spoilt, defBody s_law_spoilt, defScope s_law_spoilt, [], []⟩
def df_law_near : DefX := ⟨.glo "_law_near", "_law_near", "_law_near", defArgs s_law_near, defBody s_law_near, defScope s_law_near, [], []⟩
def df_is_number : DefX := ⟨.glo "is_number", "is_number", "is_number", defArgs s_is_number, defBody s_is_number, defScope s_is_number, [], []⟩
def df_is_integer : DefX := ⟨.glo "is_integer", "is_integer", "is_integer", defArgs s_is_integer, defBody s_is_integer, defScope s_is_integer, [], []⟩
def df_is_column : DefX := ⟨.glo "is_column", "is_column", "is_column", defArgs s_is_column, defBody s_is_column, defScope s_is_column, [], []⟩
def df_Sheet_init : DefX := ⟨.met "Sheet" "__init__", "__init__", "Sheet.__init__", defArgs s_Sheet_init, defBody s_Sheet_init, defScope s_Sheet_init, [], []⟩
def df_read_sheet : DefX := ⟨.glo "read_sheet", "read_sheet", "read_sheet", defArgs s_read_sheet, defBody s_read_sheet, defScope s_read_sheet, [], []⟩
def df_law_read : DefX := ⟨.glo "_law_read", "_law_read", "_law_read", defArgs s_law_read, defBody s_law_read, defScope s_law_read, [], []⟩
def df_law_is_text : DefX := ⟨.glo "_law_is_text", "_law_is_text", "_law_is_text", defArgs s_law_is_text, defBody s_law_is_text, defScope s_law_is_text, [], []⟩
def df_Sheet_columns : DefX := ⟨.prp "Sheet" "columns", "columns", "Sheet.columns", defArgs s_Sheet_columns, defBody s_Sheet_columns, defScope s_Sheet_columns, [], []⟩
def df_Sheet_base : DefX := ⟨.prp "Sheet" "base", "base", "Sheet.base", defArgs s_Sheet_base, defBody s_Sheet_base, defScope s_Sheet_base, [], []⟩
def df_Sheet_rows : DefX := ⟨.prp "Sheet" "rows", "rows", "Sheet.rows", defArgs s_Sheet_rows, defBody s_Sheet_rows, defScope s_Sheet_rows, [], []⟩
def df_show_figures : DefX := ⟨.glo "show_figures", "show_figures", "show_figures", defArgs s_show_figures, defBody s_show_figures, defScope s_show_figures, [], []⟩
def df_show_sheet : DefX := ⟨.glo "show_sheet", "show_sheet", "show_sheet", defArgs s_show_sheet, defBody s_show_sheet, defScope s_show_sheet, [], []⟩
def df_law_right : DefX := ⟨.glo "_law_right", "_law_right", "_law_right", defArgs s_law_right, defBody s_law_right, defScope s_law_right, [], []⟩
def df_law : DefX := ⟨.glo "law", "law", "law", defArgs s_law, defBody s_law, defScope s_law, [], []⟩
def fns : List DefX := [df_law_cells, df_law_deck, df_law_draw, df_law_column, df_law_columns, df_law_text, df_law_spoilt, df_law_near, df_is_number, df_is_integer, df_is_column, df_Sheet_init, df_read_sheet, df_law_read, df_law_is_text, df_Sheet_columns, df_Sheet_base, df_Sheet_rows, df_show_figures, df_show_sheet, df_law_right, df_law]
def fxs : List Fx := [.fa (.glo "_law_cells"), .fa (.glo "_law_deck"), .fa (.glo "_law_draw"), .fa (.glo "_law_text"), .fa (.glo "_law_spoilt"), .fa (.glo "_law_near"), .fa (.glo "_law_right"), .fa (.glo "_law_columns"), .fa (.glo "_law_column"), .fa (.glo "_law_read"), .fa (.glo "_law_is_text"), .fa (.glo "show_sheet"), .fa (.glo "SlipError"), .fa (.glo "read_sheet"), .fa (.glo "InvalidSheet"), .fa (.glo "InvalidCommand"), .fa (.glo "InvalidKind"), .fa (.glo "InvalidLot"), .fa (.glo "InvalidSlips"), .fa (.glo "InvalidColumn"), .fa (.glo "NotAlike"), .fa (.glo "NotPossible"), .fa (.glo "NotReady"), .fa (.glo "NothingToUndo"), .fa (.glo "TooMany"), .fa (.glo "Waits"), .fa (.glo "InvalidText"), .fa (.glo "is_number"), .fa (.glo "Sheet"), .fa (.glo "is_integer"), .fa (.glo "is_column"), .fa (.glo "show_figures"), .fa (.glo "law"), .fa (.free "int"), .fa (.free "str"), .fa (.free "range"), .fa (.free "tuple"), .fa (.free "len"), .fa (.free "isinstance"), .insc "Sheet", .kitb "list" [("Sheet", false)], .fa (.free "list"), .exm "SlipError" [("InvalidText", true)], .excc "InvalidText", .noix "InvalidText", .kita ["InvalidSheet", "InvalidCommand", "InvalidKind", "InvalidLot", "InvalidSlips", "InvalidColumn"] [("InvalidText", false)], .kita ["NotAlike", "NotPossible", "NotReady", "NothingToUndo", "TooMany", "Waits"] [("InvalidText", false)], .fa (.free "ValueError"), .kitb "ValueError" [("InvalidText", true)], .kito "InvalidText" [("InvalidText", true)], .fa (.exc "InvalidText"), .fa (.free "all"), .fa (.cls "Sheet"), .fa (.mkr "Sheet"), .fa (.str "FIGURES" "0123456789ab"), .fa (.str "DIGITS" "0123456789"), .fa (.noat "Sheet" "held_base"), .fa (.noat "Sheet" "held_rows"), .fa (.noat "Sheet" "held_columns"), .fa (.noat "Sheet" "size"), .fa (.free "bool"), .prop "Sheet" "columns", .prop "Sheet" "base", .prop "Sheet" "rows"]
abbrev hk : PySem.W.Hook := hookY 6 fxs fns
def ob (s : PySem.W.SharedT) : AlY := obsYG 6 fxs fns (HandSHeadRun.getT s)
theorem ob_eq (s : PySem.W.SharedT) : ob s = hk.obs s.abs := obsYG_eq (HandSHeadRun.getT_eq s)
def names0 : List PySem.Str := ["_wall", "__name__", "SlipError", "InvalidSheet", "InvalidColumn", "InvalidKind", "InvalidLot", "NotAlike", "NotPossible", "TooMany", "Waits", "InvalidText", "InvalidCommand", "NothingToUndo", "NotReady", "InvalidSlips", "is_integer", "is_column", "Sheet", "FIGURES"]
def names1 : List PySem.Str := ["DIGITS", "show_figures", "show_sheet", "is_number", "read_sheet", "_law_cells", "_law_deck", "_law_draw", "_law_column", "_law_columns", "_law_spoilt", "_law_text", "_law_near", "_law_is_text", "_law_read", "_law_right"]
def names : List PySem.Str := names0 ++ names1
theorem run (w : World) : HandSHeadRun.RunEq Rw (PySem.W.view Rw.prog [39]) hk ob 20000 names w := by
  intro os
  kernel_rfl
end LW
section
open PySem PySem.W PySem.Calls PyProof.Rows
set_option maxRecDepth 100000 in
set_option maxHeartbeats 8000000 in
theorem LW.headE (call : PySem.W.WalkO (view (OpenLaw.row PySem.Challenge.rw_sumslips_k58_strings_that_are_no_sheet).prog [39]) LW.names (XL (view (OpenLaw.row PySem.Challenge.rw_sumslips_k58_strings_that_are_no_sheet).prog [39]) []) LW.hk.says (OpenLaw.row PySem.Challenge.rw_sumslips_k58_strings_that_are_no_sheet).toRowW (HandSHeadRun.topDef (OpenLaw.row PySem.Challenge.rw_sumslips_k58_strings_that_are_no_sheet).prog 39) [] fun f vs => PySem.call f vs) : PySem.Challenge.rw_sumslips_k58_strings_that_are_no_sheet.Holds := by
  w_on; o_law
  refine HandSHeadRun.head_any (r := OpenLaw.row PySem.Challenge.rw_sumslips_k58_strings_that_are_no_sheet) (q := view (OpenLaw.row PySem.Challenge.rw_sumslips_k58_strings_that_are_no_sheet).prog [39]) (H := LW.hk) (ob := LW.ob) (M := 20000) (loose := LW.names) (d := HandSHeadRun.topDef (OpenLaw.row PySem.Challenge.rw_sumslips_k58_strings_that_are_no_sheet).prog 39) (kwd := []) LW.ob_eq
    (by kernel_rfl) (fun s => by kernel_rfl) LW.run (by kernel_rfl) (by kernel_rfl) (by kernel_rfl) (by rfl) (by first | assumption | decide +kernel) (by decide +kernel) ⟨rfl, rfl, rfl, rfl, rfl, by decide +kernel⟩ ?hw ?hc
  case hw => w_witness2
  case hc => exact call
end
/-! a data layer over the hand layer: values as data, lists that change as numbered cells -/
namespace DL
open PySem PySem.Spec PyProof.Rows L2
open Evl (Ex)

inductive D where
  | non
  | bl (b : Bool)
  | int (i : Int)
  | str (s : Str)
  | tup (xs : List D)
  | lst (xs : List D)
  | fro (xs : List D)
  | ins (C : Addr) (ns : List Str) (xs : List D)
  | cell (n : Nat)
  | dct
  | raw (v : V)
  | exc (C : Addr) (p : Option Int)

/-- what never changes any more, and where the cells stand -/
structure Wd where
  F : Hp
  m : List Addr
  h : List (Addr × List V)
def Wd.le (W W' : Wd) : Prop := Ex W.F W'.F ∧ (∃ more, W'.m = W.m ++ more) ∧ W'.h = W.h
theorem Wd.le_refl (W : Wd) : W.le W := ⟨Ex.refl _, ⟨[], (List.append_nil _).symm⟩, rfl⟩
theorem Wd.le.tr {W W1 W2 : Wd} (a : W.le W1) (b : W1.le W2) : W.le W2 := by
  obtain ⟨e1, ⟨m1, h1⟩, g1⟩ := a
  obtain ⟨e2, ⟨m2, h2⟩, g2⟩ := b
  exact ⟨e1.trans e2, ⟨m1 ++ m2, by rw [h2, h1, List.append_assoc]⟩, g2.trans g1⟩
theorem Wd.get_more {W W' : Wd} (l : ∃ more, W'.m = W.m ++ more) {n : Nat} {a : Addr} (h : W.m[n]? = some a) : W'.m[n]? = some a := by
  obtain ⟨more, e⟩ := l
  rw [e, List.getElem?_append_left (List.getElem?_eq_some_iff.mp h).1]
  exact h
theorem Wd.le_get {W W' : Wd} (l : W.le W') {n : Nat} {a : Addr} (h : W.m[n]? = some a) : W'.m[n]? = some a := by
  obtain ⟨_, ⟨more, e⟩, _⟩ := l
  rw [e, List.getElem?_append_left (List.getElem?_eq_some_iff.mp h).1]
  exact h

/-- an exception that is kept -/
def exV (a C : Addr) (d : Option Addr) : HO := .ext fun h => ∃ oe : Obj, h.get? a = some oe ∧ oe.cls = .ref C ∧ oe.dict = d ∧ ∃ vs, oe.data = .fields vs
def PayV (p : Option Int) (d : Option Addr) (W : Wd) : Prop := match p with
  | none => d = none
  | some i => ∃ dd, d = some dd ∧ W.F dd = some (.xd [("index", .int i)])
theorem PayV.mono {p : Option Int} {d : Option Addr} {W W' : Wd} (h : PayV p d W) (l : Ex W.F W'.F) : PayV p d W' := by
  cases p with
  | none => exact h
  | some i =>
    obtain ⟨dd, e1, e2⟩ := h
    exact ⟨dd, e1, l _ _ e2⟩
mutual
inductive R (K : PySem.W.Frag) (W : Wd) : V → D → Prop
  | non : R K W .non .non
  | bl (b : Bool) : R K W (.bl b) (.bl b)
  | int (i : Int) : R K W (.int i) (.int i)
  | str (s : Str) : R K W (.str s) (.str s)
  | tup {a : Addr} {vs : List V} {xs : List D} : SqT K W.F a vs → RAll K W vs xs → R K W (.ref a) (.tup xs)
  | lst {a : Addr} {vs : List V} {xs : List D} : W.F a = some (.lst vs) → RAll K W vs xs → R K W (.ref a) (.lst xs)
  | fro {a : Addr} {vs : List V} {xs : List D} : SqL K W.F a vs → RAll K W vs xs → R K W (.ref a) (.fro xs)
  | ins {a C dx : Addr} {gs : List (Str × V)} {xs : List D} : W.F a = some (.ins C dx gs) → RAll K W (gs.map (·.2)) xs → R K W (.ref a) (.ins C (gs.map (·.1)) xs)
  | cell {n : Nat} {a : Addr} : W.m[n]? = some a → R K W (.ref a) (.cell n)
  | dct {a : Addr} {kvs : List (Key × V)} : W.F a = some (.dK kvs) → R K W (.ref a) .dct
  | raw (v : V) : R K W v (.raw v)
  | exc {a C : Addr} {p : Option Int} {d : Option Addr} : W.F a = some (exV a C d) → PayV p d W → R K W (.ref a) (.exc C p)
inductive RAll (K : PySem.W.Frag) (W : Wd) : List V → List D → Prop
  | nil : RAll K W [] []
  | cons {v : V} {vs : List V} {d : D} {ds : List D} : R K W v d → RAll K W vs ds → RAll K W (v :: vs) (d :: ds)
end
section
variable {K : PySem.W.Frag} {W W' : Wd}
mutual
theorem R.mono' (l : Ex W.F W'.F ∧ ∃ more, W'.m = W.m ++ more) : ∀ (d : D) (v : V), R K W v d → R K W' v d
  | .non, _, h => by cases h; exact .non
  | .bl b, _, h => by cases h; exact .bl b
  | .int i, _, h => by cases h; exact .int i
  | .str s, _, h => by cases h; exact .str s
  | .tup xs, _, h => by
    cases h with
    | tup hs ha => exact .tup (Evl.ex_t l.1 hs) (RAll.mono' l xs _ ha)
  | .lst xs, _, h => by
    cases h with
    | lst hs ha => exact .lst (l.1 _ _ hs) (RAll.mono' l xs _ ha)
  | .fro xs, _, h => by
    cases h with
    | fro hs ha => exact .fro (Evl.ex_l l.1 hs) (RAll.mono' l xs _ ha)
  | .ins C ns xs, _, h => by
    cases h with
    | ins hs ha => exact .ins (l.1 _ _ hs) (RAll.mono' l xs _ ha)
  | .cell n, _, h => by
    cases h with
    | cell hs => exact .cell (Wd.get_more l.2 hs)
  | .dct, _, h => by
    cases h with
    | dct hs => exact .dct (l.1 _ _ hs)
  | .raw v, _, h => by cases h; exact .raw v
  | .exc C p, _, h => by
    cases h with
    | exc hs hp => exact .exc (l.1 _ _ hs) (hp.mono l.1)
theorem RAll.mono' (l : Ex W.F W'.F ∧ ∃ more, W'.m = W.m ++ more) : ∀ (ds : List D) (vs : List V), RAll K W vs ds → RAll K W' vs ds
  | [], _, h => by cases h; exact .nil
  | d :: ds, _, h => by
    cases h with
    | cons h1 h2 => exact .cons (R.mono' l d _ h1) (RAll.mono' l ds _ h2)
end
theorem R.mono (l : W.le W') (d : D) (v : V) (h : R K W v d) : R K W' v d := R.mono' ⟨l.1, l.2.1⟩ d v h
theorem RAll.mono (l : W.le W') (ds : List D) (vs : List V) (h : RAll K W vs ds) : RAll K W' vs ds := RAll.mono' ⟨l.1, l.2.1⟩ ds vs h
/-- what the relation leans on -/
theorem R.world {d : D} {v : V} (h : R K W v d) (hF : W'.F = W.F) (hm : W'.m = W.m) : R K W' v d := R.mono' (W := W) ⟨by rw [hF]; exact Ex.refl _, [], by rw [hm, List.append_nil]⟩ d v h
theorem RAll.world {ds : List D} {vs : List V} (h : RAll K W vs ds) (hF : W'.F = W.F) (hm : W'.m = W.m) : RAll K W' vs ds := RAll.mono' (W := W) ⟨by rw [hF]; exact Ex.refl _, [], by rw [hm, List.append_nil]⟩ ds vs h
theorem RAll.length : ∀ {vs : List V} {ds : List D}, RAll K W vs ds → vs.length = ds.length
  | _, _, .nil => rfl
  | _, _, .cons _ t => by rw [List.length_cons, List.length_cons, RAll.length t]
theorem RAll.get : ∀ {vs : List V} {ds : List D} {i : Nat} {d : D}, RAll K W vs ds → ds[i]? = some d → ∃ v, vs[i]? = some v ∧ R K W v d
  | _, _, _, _, .nil, e => by simp at e
  | _, _, 0, _, .cons r _, e => by simp at e; subst e; exact ⟨_, rfl, r⟩
  | _, _, i + 1, d, .cons _ t, e => by
    obtain ⟨v, h1, h2⟩ := RAll.get (i := i) (d := d) t (by simpa using e)
    exact ⟨v, by simpa using h1, h2⟩
theorem RAll.get' : ∀ {vs : List V} {ds : List D} {i : Nat} {v : V}, RAll K W vs ds → vs[i]? = some v → ∃ d, ds[i]? = some d ∧ R K W v d
  | _, _, _, _, .nil, e => by simp at e
  | _, _, 0, _, .cons r _, e => by simp at e; subst e; exact ⟨_, rfl, r⟩
  | _, _, i + 1, v, .cons _ t, e => by
    obtain ⟨d, h1, h2⟩ := RAll.get' (i := i) (v := v) t (by simpa using e)
    exact ⟨d, by simpa using h1, h2⟩
theorem RAll.set {v : V} {d : D} (r : R K W v d) : ∀ {vs : List V} {ds : List D} (i : Nat), RAll K W vs ds → RAll K W (vs.set i v) (ds.set i d)
  | _, _, _, .nil => .nil
  | _, _, 0, .cons _ t => .cons r t
  | _, _, i + 1, .cons q t => .cons q (RAll.set r i t)
theorem RAll.append : ∀ {vs ws : List V} {ds es : List D}, RAll K W vs ds → RAll K W ws es → RAll K W (vs ++ ws) (ds ++ es)
  | _, _, _, _, .nil, s => s
  | _, _, _, _, .cons r t, s => .cons r (RAll.append t s)
theorem RAll.take : ∀ {vs : List V} {ds : List D} (n : Nat), RAll K W vs ds → RAll K W (vs.take n) (ds.take n)
  | _, _, 0, _ => .nil
  | _, _, _ + 1, .nil => .nil
  | _, _, n + 1, .cons r t => .cons r (RAll.take n t)
theorem RAll.drop : ∀ {vs : List V} {ds : List D} (n : Nat), RAll K W vs ds → RAll K W (vs.drop n) (ds.drop n)
  | _, _, 0, r => r
  | _, _, _ + 1, .nil => .nil
  | _, _, n + 1, .cons _ t => RAll.drop n t
theorem RAll.reverse : ∀ {vs : List V} {ds : List D}, RAll K W vs ds → RAll K W vs.reverse ds.reverse
  | _, _, .nil => .nil
  | _, _, .cons r t => by
    rw [List.reverse_cons, List.reverse_cons]
    exact (RAll.reverse t).append (.cons r .nil)
theorem RAll.dropLast : ∀ {vs : List V} {ds : List D}, RAll K W vs ds → RAll K W vs.dropLast ds.dropLast
  | _, _, .nil => .nil
  | _, _, .cons _ .nil => .nil
  | _, _, .cons r (.cons q t) => .cons r (RAll.dropLast (.cons q t))
theorem RAll.app1 {vs : List V} {ds : List D} {v : V} {d : D} (h : RAll K W vs ds) (r : R K W v d) : RAll K W (vs ++ [v]) (ds ++ [d]) := h.append (.cons r .nil)
theorem RAll.snoc_inv : ∀ {vs : List V} {ds : List D} {d : D}, RAll K W vs (ds ++ [d]) → ∃ ws v, vs = ws ++ [v] ∧ RAll K W ws ds ∧ R K W v d
  | _, [], _, h => by
    cases h with
    | cons r t => cases t; exact ⟨[], _, rfl, .nil, r⟩
  | _, x :: ds, _, h => by
    cases h with
    | cons r t =>
      obtain ⟨ws, v, e, h1, h2⟩ := RAll.snoc_inv t
      subst e
      exact ⟨_ :: ws, v, rfl, .cons r h1, h2⟩
theorem RAll.ints : ∀ (ns : List Int), RAll K W (ns.map V.int) (ns.map D.int)
  | [] => .nil
  | n :: ns => .cons (.int n) (RAll.ints ns)
theorem RAll.ints_inv : ∀ {ns : List Int} {vs : List V}, RAll K W vs (ns.map D.int) → vs = ns.map V.int
  | [], _, h => by cases h; rfl
  | n :: ns, _, h => by
    cases h with
    | cons r t => cases r; rw [RAll.ints_inv t]; rfl
theorem RAll.bls_inv : ∀ {ns : List Bool} {vs : List V}, RAll K W vs (ns.map D.bl) → vs = ns.map V.bl
  | [], _, h => by cases h; rfl
  | n :: ns, _, h => by
    cases h with
    | cons r t => cases r; rw [RAll.bls_inv t]; rfl
theorem RAll.strs_inv : ∀ {ns : List Str} {vs : List V}, RAll K W vs (ns.map D.str) → vs = ns.map V.str
  | [], _, h => by cases h; rfl
  | n :: ns, _, h => by
    cases h with
    | cons r t => cases r; rw [RAll.strs_inv t]; rfl
end

/-- a cell: a list or an instance that changes; a dead one is known no more -/
inductive Cel where
  | dead
  | lst (xs : List D)
  | ins (C : Addr) (ns : List Str) (xs : List D)
  | dic (kxs : List (Int × D))

/-- a dict's pairs, int keys -/
inductive RKs (K : PySem.W.Frag) (W : Wd) : List (Key × V) → List (Int × D) → Prop
  | nil : RKs K W [] []
  | cons {k : Int} {v : V} {d : D} {ps : List (Key × V)} {kxs : List (Int × D)} : R K W v d → RKs K W ps kxs → RKs K W ((.inl k, v) :: ps) ((k, d) :: kxs)
theorem RKs.mono' {K : PySem.W.Frag} {W W' : Wd} (l : Ex W.F W'.F ∧ ∃ more, W'.m = W.m ++ more) : ∀ {ps : List (Key × V)} {kxs : List (Int × D)}, RKs K W ps kxs → RKs K W' ps kxs
  | _, _, .nil => .nil
  | _, _, .cons r t => .cons (R.mono' l _ _ r) (RKs.mono' l t)
theorem RKs.mono {K : PySem.W.Frag} {W W' : Wd} (l : W.le W') {ps : List (Key × V)} {kxs : List (Int × D)} (h : RKs K W ps kxs) : RKs K W' ps kxs := h.mono' ⟨l.1, l.2.1⟩
theorem RKs.world {K : PySem.W.Frag} {W W' : Wd} {ps : List (Key × V)} {kxs : List (Int × D)} (h : RKs K W ps kxs) (hF : W'.F = W.F) (hm : W'.m = W.m) : RKs K W' ps kxs := h.mono' (W := W) ⟨by rw [hF]; exact Ex.refl _, [], by rw [hm, List.append_nil]⟩

def ClOk (K : PySem.W.Frag) (W : Wd) (H : Hp) (a : Addr) : Cel → Prop
  | .dead => True
  | .lst xs => ∃ vs, H a = some (.lst vs) ∧ RAll K W vs xs
  | .ins C ns xs => ∃ dx gs, H a = some (.ins C dx gs) ∧ gs.map (·.1) = ns ∧ RAll K W (gs.map (·.2)) xs
  | .dic kxs => ∃ ps, H a = some (.dK ps) ∧ RKs K W ps kxs

structure Ok (K : PySem.W.Frag) (W : Wd) (H : Hp) (cs : List Cel) : Prop where
  ex : Ex W.F H
  len : W.m.length = cs.length
  nd : W.m.Nodup
  here : ∀ a ∈ W.m, ∃ o, H a = some o
  fr : ∀ (n : Nat) (a : Addr) (c : Cel), W.m[n]? = some a → cs[n]? = some c → c = .dead ∨ W.F a = none
  cl : ∀ (n : Nat) (a : Addr) (c : Cel), W.m[n]? = some a → cs[n]? = some c → ClOk K W H a c
  hd : ∀ p ∈ W.h, H p.1 = some (.lst p.2) ∧ W.F p.1 = none ∧ p.1 ∉ W.m
  hn : (W.h.map (·.1)).Nodup

def SlO (K : PySem.W.Frag) (W : Wd) (σ : L2.St) (sl : List (Option D)) : Prop :=
  σ.length = sl.length ∧ ∀ (i : Nat) (d : D), sl[i]? = some (some d) → ∃ v, σ[i]? = some (some v) ∧ R K W v d

structure En where
  sl : List (Option D)
  cs : List Cel
structure Sd (K : PySem.W.Frag) (W : Wd) (H : Hp) (σ : L2.St) (e : En) : Prop where
  ok : Ok K W H e.cs
  sl : SlO K W σ e.sl

section
variable {K : PySem.W.Frag} {W W' : Wd} {H H' : Hp} {cs cs' : List Cel} {σ : L2.St} {sl : List (Option D)} {e : En}
theorem ClOk.mono (l : W.le W') {a : Addr} : ∀ {c : Cel}, ClOk K W H a c → ClOk K W' H a c
  | .dead, _ => trivial
  | .lst _, ⟨vs, h, r⟩ => ⟨vs, h, RAll.mono l _ _ r⟩
  | .ins _ _ _, ⟨dx, gs, h, e, r⟩ => ⟨dx, gs, h, e, RAll.mono l _ _ r⟩
  | .dic _, ⟨ps, h, r⟩ => ⟨ps, h, r.mono l⟩
theorem ClOk.world {a : Addr} (hF : W'.F = W.F) (hm : W'.m = W.m) : ∀ {c : Cel}, ClOk K W H a c → ClOk K W' H a c
  | .dead, _ => trivial
  | .lst _, ⟨vs, h, r⟩ => ⟨vs, h, r.world hF hm⟩
  | .ins _ _ _, ⟨dx, gs, h, e, r⟩ => ⟨dx, gs, h, e, r.world hF hm⟩
  | .dic _, ⟨ps, h, r⟩ => ⟨ps, h, r.world hF hm⟩
theorem ClOk.to {a : Addr} {c : Cel} (x : ClOk K W H a c) (hF : W'.F = W.F) (hm : W'.m = W.m) : ClOk K W' H a c := ClOk.world hF hm x
theorem ClOk.heap {a : Addr} (e : H' a = H a) : ∀ {c : Cel}, ClOk K W H a c → ClOk K W H' a c
  | .dead, _ => trivial
  | .lst _, ⟨vs, h, r⟩ => ⟨vs, e.trans h, r⟩
  | .ins _ _ _, ⟨dx, gs, h, e', r⟩ => ⟨dx, gs, e.trans h, e', r⟩
  | .dic _, ⟨ps, h, r⟩ => ⟨ps, e.trans h, r⟩
theorem SlO.mono (l : W.le W') (h : SlO K W σ sl) : SlO K W' σ sl :=
  ⟨h.1, fun i d e => let ⟨v, a, b⟩ := h.2 i d e; ⟨v, a, R.mono l _ _ b⟩⟩
theorem SlO.set {i : Nat} {v : V} {d : D} (h : SlO K W σ sl) (r : R K W v d) : SlO K W (σ.set i (some v)) (sl.set i (some d)) := by
  refine ⟨by simp [h.1], fun j d' e => ?_⟩
  rw [List.getElem?_set] at e
  by_cases hij : i = j
  · subst hij
    rw [if_pos rfl] at e
    split at e
    · rename_i hl
      cases e
      exact ⟨v, by rw [List.getElem?_set_self (h.1 ▸ hl)], r⟩
    · cases e
  · rw [if_neg hij] at e
    obtain ⟨v', a, b⟩ := h.2 j d' e
    exact ⟨v', by rw [List.getElem?_set_ne hij]; exact a, b⟩
theorem Ok.fresh (h : Ok K W H cs) {p : Addr} (hp : H p = none) : p ∉ W.m := fun hm => by
  obtain ⟨o, e⟩ := h.here p hm
  rw [hp] at e; cases e
/-- a new object that never changes -/
theorem Ok.newF (h : Ok K W H cs) {p : Addr} {o : HO} (hp : H p = none) : Ok K ⟨upd W.F p o, W.m, W.h⟩ (upd H p o) cs ∧ W.le ⟨upd W.F p o, W.m, W.h⟩ := by
  have hF : W.F p = none := Evl.fresh_back h.ex hp
  have l : W.le ⟨upd W.F p o, W.m, W.h⟩ := ⟨Ex.new hF, ⟨[], (List.append_nil _).symm⟩, rfl⟩
  have ne : ∀ a ∈ W.m, a ≠ p := fun a ha e => h.fresh hp (e ▸ ha)
  have nem : ∀ {n : Nat} {a : Addr}, W.m[n]? = some a → a ≠ p := fun e => ne _ (List.mem_of_getElem? e)
  have neh : ∀ q ∈ W.h, q.1 ≠ p := fun q hq e => by
    have := (h.hd q hq).1
    rw [e, hp] at this; cases this
  refine ⟨⟨fun a u e => ?_, h.len, h.nd, fun a ha => ?_, fun n a c e1 e2 => ?_, fun n a c e1 e2 => ?_, fun q hq => ?_, h.hn⟩, l⟩
  · have e : upd W.F p o a = some u := e
    by_cases q : a = p
    · subst q; rw [upd_same] at e ⊢; exact e
    · rw [upd_ne q] at e ⊢; exact h.ex a u e
  · rw [upd_ne (ne a ha)]; exact h.here a ha
  · rcases h.fr n a c e1 e2 with q | q
    · exact .inl q
    · exact .inr (by show upd W.F p o a = none; rw [upd_ne (nem e1)]; exact q)
  · exact ((h.cl n a c e1 e2).heap (upd_ne (nem e1))).mono l
  · obtain ⟨h1, h2, h3⟩ := h.hd q hq
    exact ⟨by rw [upd_ne (neh q hq)]; exact h1, by show upd W.F p o q.1 = none; rw [upd_ne (neh q hq)]; exact h2, h3⟩
/-- a new cell -/
theorem Ok.newC (h : Ok K W H cs) {p : Addr} {o : HO} {c : Cel} (hp : H p = none) (hc : ∀ W', W.le W' → ClOk K W' (upd H p o) p c) : Ok K ⟨W.F, W.m ++ [p], W.h⟩ (upd H p o) (cs ++ [c]) ∧ W.le ⟨W.F, W.m ++ [p], W.h⟩ := by
  have hF : W.F p = none := Evl.fresh_back h.ex hp
  have l : W.le ⟨W.F, W.m ++ [p], W.h⟩ := ⟨Ex.refl _, ⟨[p], rfl⟩, rfl⟩
  have ne : ∀ a ∈ W.m, a ≠ p := fun a ha e => h.fresh hp (e ▸ ha)
  have cases' : ∀ {n : Nat} {a : Addr} {c' : Cel}, (W.m ++ [p])[n]? = some a → (cs ++ [c])[n]? = some c' → (W.m[n]? = some a ∧ cs[n]? = some c') ∨ (a = p ∧ c' = c) := fun {n a c'} e1 e2 => by
    by_cases hn : n < W.m.length
    · rw [List.getElem?_append_left hn] at e1
      rw [List.getElem?_append_left (h.len ▸ hn)] at e2
      exact .inl ⟨e1, e2⟩
    · have hn' : W.m.length ≤ n := Nat.le_of_not_lt hn
      rw [List.getElem?_append_right hn'] at e1
      rw [List.getElem?_append_right (h.len ▸ hn')] at e2
      rw [← h.len] at e2
      cases hk : n - W.m.length with
      | zero => rw [hk] at e1 e2; simp at e1 e2; exact .inr ⟨e1.symm, e2.symm⟩
      | succ k => rw [hk] at e1; simp at e1
  have neh : ∀ q ∈ W.h, q.1 ≠ p := fun q hq e => by
    have := (h.hd q hq).1
    rw [e, hp] at this; cases this
  refine ⟨⟨h.ex.trans (Ex.new hp), by simp [h.len], ?_, fun a ha => ?_, fun n a c' e1 e2 => ?_, fun n a c' e1 e2 => ?_, fun q hq => ?_, h.hn⟩, l⟩
  · show (W.m ++ [p]).Nodup
    rw [List.nodup_append]
    exact ⟨h.nd, by simp, fun a ha b hb => by rw [List.mem_singleton.mp hb]; exact ne a ha⟩
  · rcases List.mem_append.mp ha with ha | ha
    · rw [upd_ne (ne a ha)]; exact h.here a ha
    · rw [List.mem_singleton.mp ha]; exact ⟨o, upd_same⟩
  · rcases cases' e1 e2 with ⟨q1, q2⟩ | ⟨rfl, rfl⟩
    · exact h.fr n a c' q1 q2
    · exact .inr hF
  · rcases cases' e1 e2 with ⟨q1, q2⟩ | ⟨rfl, rfl⟩
    · exact ((h.cl n a c' q1 q2).heap (upd_ne (ne a (List.mem_of_getElem? q1)))).mono l
    · exact hc _ l
  · obtain ⟨h1, h2, h3⟩ := h.hd q hq
    exact ⟨by rw [upd_ne (neh q hq)]; exact h1, h2, fun hm => (List.mem_append.mp hm).elim h3 fun z => neh q hq (List.mem_singleton.mp z)⟩
/-- a cell is written -/
theorem Ok.setC (h : Ok K W H cs) {n : Nat} {a : Addr} {c c' : Cel} {o : HO} (hm : W.m[n]? = some a) (hc : cs[n]? = some c) (nd : c ≠ .dead) (hc' : ClOk K W (upd H a o) a c') : Ok K W (upd H a o) (cs.set n c') := by
  have hF : W.F a = none := (h.fr n a c hm hc).resolve_left nd
  have inj : ∀ {k : Nat} {b : Addr}, W.m[k]? = some b → k ≠ n → b ≠ a := fun {k b} e hk z => by
    subst z
    obtain ⟨h1, e1⟩ := List.getElem?_eq_some_iff.mp e
    obtain ⟨h2, e2⟩ := List.getElem?_eq_some_iff.mp hm
    exact hk ((List.getElem_inj h.nd).mp (e1.trans e2.symm))
  have neh : ∀ q ∈ W.h, q.1 ≠ a := fun q hq e => (h.hd q hq).2.2 (e ▸ List.mem_of_getElem? hm)
  refine ⟨h.ex.mut hF, by simp [h.len], h.nd, fun b hb => ?_, fun k b c2 e1 e2 => ?_, fun k b c2 e1 e2 => ?_, fun q hq => ?_, h.hn⟩
  · by_cases q : b = a
    · subst q; exact ⟨o, upd_same⟩
    · rw [upd_ne q]; exact h.here b hb
  · by_cases hk : k = n
    · subst hk
      rw [hm] at e1; cases e1
      exact .inr hF
    · rw [List.getElem?_set_ne (Ne.symm hk)] at e2
      exact h.fr k b c2 e1 e2
  · by_cases hk : k = n
    · subst hk
      rw [hm] at e1; cases e1
      have hl : k < cs.length := (List.getElem?_eq_some_iff.mp hc).1
      rw [List.getElem?_set_self hl] at e2; cases e2
      exact hc'
    · rw [List.getElem?_set_ne (Ne.symm hk)] at e2
      exact (h.cl k b c2 e1 e2).heap (upd_ne (inj e1 hk))
  · obtain ⟨h1, h2, h3⟩ := h.hd q hq
    exact ⟨by rw [upd_ne (neh q hq)]; exact h1, h2, h3⟩
/-- a list's cell changes no more -/
theorem Ok.freeze (h : Ok K W H cs) {n : Nat} {a : Addr} {vs : List V} {xs : List D} (hm : W.m[n]? = some a) (hc : cs[n]? = some (.lst xs)) (hv : H a = some (.lst vs)) :
    Ok K ⟨upd W.F a (.lst vs), W.m, W.h⟩ H (cs.set n .dead) ∧ W.le ⟨upd W.F a (.lst vs), W.m, W.h⟩ := by
  have hF : W.F a = none := (h.fr n a _ hm hc).resolve_left (fun z => nomatch z)
  have l : W.le ⟨upd W.F a (.lst vs), W.m, W.h⟩ := ⟨Ex.new hF, ⟨[], (List.append_nil _).symm⟩, rfl⟩
  have inj : ∀ {k : Nat} {b : Addr}, W.m[k]? = some b → k ≠ n → b ≠ a := fun {k b} e hk z => by
    subst z
    obtain ⟨h1, e1⟩ := List.getElem?_eq_some_iff.mp e
    obtain ⟨h2, e2⟩ := List.getElem?_eq_some_iff.mp hm
    exact hk ((List.getElem_inj h.nd).mp (e1.trans e2.symm))
  have neh : ∀ q ∈ W.h, q.1 ≠ a := fun q hq e => (h.hd q hq).2.2 (e ▸ List.mem_of_getElem? hm)
  refine ⟨⟨fun b u e => ?_, by simp [h.len], h.nd, h.here, fun k b c2 e1 e2 => ?_, fun k b c2 e1 e2 => ?_, fun q hq => ?_, h.hn⟩, l⟩
  · have e : upd W.F a (.lst vs) b = some u := e
    by_cases q : b = a
    · subst q; rw [upd_same] at e; rw [hv]; exact e
    · rw [upd_ne q] at e; exact h.ex b u e
  · by_cases hk : k = n
    · subst hk
      have hl : k < cs.length := (List.getElem?_eq_some_iff.mp hc).1
      rw [List.getElem?_set_self hl] at e2; cases e2
      exact .inl rfl
    · rw [List.getElem?_set_ne (Ne.symm hk)] at e2
      rcases h.fr k b c2 e1 e2 with q | q
      · exact .inl q
      · exact .inr (by show upd W.F a _ b = none; rw [upd_ne (inj e1 hk)]; exact q)
  · by_cases hk : k = n
    · subst hk
      have hl : k < cs.length := (List.getElem?_eq_some_iff.mp hc).1
      rw [List.getElem?_set_self hl] at e2; cases e2
      trivial
    · rw [List.getElem?_set_ne (Ne.symm hk)] at e2
      exact (h.cl k b c2 e1 e2).mono l
  · obtain ⟨h1, h2, h3⟩ := h.hd q hq
    exact ⟨h1, by show upd W.F a _ q.1 = none; rw [upd_ne (neh q hq)]; exact h2, h3⟩
/-- a hidden list: laid, grown, given up -/
theorem Ok.hide (h : Ok K W H cs) {p : Addr} (hp : H p = none) {vs : List V} : Ok K ⟨W.F, W.m, (p, vs) :: W.h⟩ (upd H p (.lst vs)) cs := by
  have hF : W.F p = none := Evl.fresh_back h.ex hp
  have ne : ∀ a ∈ W.m, a ≠ p := fun a ha e => h.fresh hp (e ▸ ha)
  have neh : ∀ q ∈ W.h, q.1 ≠ p := fun q hq e => by
    have := (h.hd q hq).1
    rw [e, hp] at this; cases this
  refine ⟨h.ex.trans (Ex.new hp), h.len, h.nd, fun a ha => by rw [upd_ne (ne a ha)]; exact h.here a ha, h.fr, fun n a c e1 e2 => ?_, fun q hq => ?_, ?_⟩
  · have := (h.cl n a c e1 e2).heap (H' := upd H p (.lst vs)) (upd_ne (ne a (List.mem_of_getElem? e1)))
    exact ClOk.to this rfl rfl
  · rcases List.mem_cons.mp hq with rfl | hq
    · exact ⟨upd_same, hF, h.fresh hp⟩
    · obtain ⟨h1, h2, h3⟩ := h.hd q hq
      exact ⟨by rw [upd_ne (neh q hq)]; exact h1, h2, h3⟩
  · show ((p :: W.h.map (·.1))).Nodup
    refine List.nodup_cons.mpr ⟨fun hm => ?_, h.hn⟩
    obtain ⟨q, hq, e⟩ := List.mem_map.mp hm
    exact neh q hq e
theorem Ok.grow {F : Hp} {m : List Addr} {hh : List (Addr × List V)} {p : Addr} {vs vs' : List V} (h : Ok K ⟨F, m, (p, vs) :: hh⟩ H cs) : Ok K ⟨F, m, (p, vs') :: hh⟩ (upd H p (.lst vs')) cs := by
  obtain ⟨h1, h2, h3⟩ := h.hd (p, vs) List.mem_cons_self
  have ne : ∀ a ∈ m, a ≠ p := fun a ha e => h3 (e ▸ ha)
  have hn : (p :: hh.map (·.1)).Nodup := h.hn
  have neh : ∀ q ∈ hh, q.1 ≠ p := fun q hq e => (List.nodup_cons.mp hn).1 (List.mem_map.mpr ⟨q, hq, e⟩)
  refine ⟨h.ex.mut h2, h.len, h.nd, fun a ha => by rw [upd_ne (ne a ha)]; exact h.here a ha, h.fr, fun n a c e1 e2 => ?_, fun q hq => ?_, h.hn⟩
  · have := (h.cl n a c e1 e2).heap (H' := upd H p (.lst vs')) (upd_ne (ne a (List.mem_of_getElem? e1)))
    exact ClOk.to this rfl rfl
  · rcases List.mem_cons.mp hq with rfl | hq
    · exact ⟨upd_same, h2, h3⟩
    · obtain ⟨g1, g2, g3⟩ := h.hd q (List.mem_cons_of_mem _ hq)
      exact ⟨by rw [upd_ne (neh q hq)]; exact g1, g2, g3⟩
/-- .. it changes no more -/
theorem Ok.showF {F : Hp} {m : List Addr} {hh : List (Addr × List V)} {p : Addr} {vs : List V} (h : Ok K ⟨F, m, (p, vs) :: hh⟩ H cs) : Ok K ⟨upd F p (.lst vs), m, hh⟩ H cs ∧ (⟨F, m, hh⟩ : Wd).le ⟨upd F p (.lst vs), m, hh⟩ := by
  obtain ⟨h1, h2, h3⟩ := h.hd (p, vs) List.mem_cons_self
  have ne : ∀ a ∈ m, a ≠ p := fun a ha e => h3 (e ▸ ha)
  have hn : (p :: hh.map (·.1)).Nodup := h.hn
  have neh : ∀ q ∈ hh, q.1 ≠ p := fun q hq e => (List.nodup_cons.mp hn).1 (List.mem_map.mpr ⟨q, hq, e⟩)
  have l : (⟨F, m, hh⟩ : Wd).le ⟨upd F p (.lst vs), m, hh⟩ := ⟨Ex.new h2, ⟨[], (List.append_nil _).symm⟩, rfl⟩
  refine ⟨⟨fun a u e => ?_, h.len, h.nd, h.here, fun n a c e1 e2 => ?_, fun n a c e1 e2 => ?_, fun q hq => ?_, (List.nodup_cons.mp hn).2⟩, l⟩
  · have e : upd F p (.lst vs) a = some u := e
    by_cases q : a = p
    · subst q; rw [upd_same] at e; rw [h1]; exact e
    · rw [upd_ne q] at e; exact h.ex a u e
  · rcases h.fr n a c e1 e2 with q | q
    · exact .inl q
    · exact .inr (by show upd F p _ a = none; rw [upd_ne (ne a (List.mem_of_getElem? e1))]; exact q)
  · exact (ClOk.to (W' := ⟨F, m, hh⟩) (h.cl n a c e1 e2) rfl rfl).mono l
  · obtain ⟨g1, g2, g3⟩ := h.hd q (List.mem_cons_of_mem _ hq)
    exact ⟨g1, by show upd F p _ q.1 = none; rw [upd_ne (neh q hq)]; exact g2, g3⟩
/-- .. it is a cell -/
theorem Ok.showC {F : Hp} {m : List Addr} {hh : List (Addr × List V)} {p : Addr} {vs : List V} {xs : List D} (h : Ok K ⟨F, m, (p, vs) :: hh⟩ H cs) (r : RAll K ⟨F, m, hh⟩ vs xs) : Ok K ⟨F, m ++ [p], hh⟩ H (cs ++ [.lst xs]) ∧ (⟨F, m, hh⟩ : Wd).le ⟨F, m ++ [p], hh⟩ := by
  obtain ⟨h1, h2, h3⟩ := h.hd (p, vs) List.mem_cons_self
  have hn : (p :: hh.map (·.1)).Nodup := h.hn
  have neh : ∀ q ∈ hh, q.1 ≠ p := fun q hq e => (List.nodup_cons.mp hn).1 (List.mem_map.mpr ⟨q, hq, e⟩)
  have l : (⟨F, m, hh⟩ : Wd).le ⟨F, m ++ [p], hh⟩ := ⟨Ex.refl _, ⟨[p], rfl⟩, rfl⟩
  have hl : m.length = cs.length := h.len
  have cases' : ∀ {n : Nat} {a : Addr} {c' : Cel}, (m ++ [p])[n]? = some a → (cs ++ [.lst xs])[n]? = some c' → (m[n]? = some a ∧ cs[n]? = some c') ∨ (a = p ∧ c' = .lst xs) := fun {n a c'} e1 e2 => by
    by_cases hn : n < m.length
    · rw [List.getElem?_append_left hn] at e1
      rw [List.getElem?_append_left (hl ▸ hn)] at e2
      exact .inl ⟨e1, e2⟩
    · have hn' : m.length ≤ n := Nat.le_of_not_lt hn
      rw [List.getElem?_append_right hn'] at e1
      rw [List.getElem?_append_right (hl ▸ hn')] at e2
      rw [← hl] at e2
      cases hk : n - m.length with
      | zero => rw [hk] at e1 e2; simp at e1 e2; exact .inr ⟨e1.symm, e2.symm⟩
      | succ k => rw [hk] at e1; simp at e1
  refine ⟨⟨h.ex, by simp [hl], ?_, fun a ha => ?_, fun n a c e1 e2 => ?_, fun n a c e1 e2 => ?_, fun q hq => ?_, (List.nodup_cons.mp hn).2⟩, l⟩
  · show (m ++ [p]).Nodup
    rw [List.nodup_append]
    exact ⟨h.nd, by simp, fun a ha b hb e => by rw [List.mem_singleton.mp hb] at e; exact h3 (e ▸ ha)⟩
  · rcases List.mem_append.mp ha with ha | ha
    · exact h.here a ha
    · rw [List.mem_singleton.mp ha]; exact ⟨_, h1⟩
  · rcases cases' e1 e2 with ⟨q1, q2⟩ | ⟨rfl, rfl⟩
    · exact h.fr n a c q1 q2
    · exact .inr h2
  · rcases cases' e1 e2 with ⟨q1, q2⟩ | ⟨rfl, rfl⟩
    · exact (ClOk.to (W' := ⟨F, m, hh⟩) (h.cl n a c q1 q2) rfl rfl).mono l
    · exact ⟨vs, h1, RAll.mono l _ _ r⟩
  · obtain ⟨g1, g2, g3⟩ := h.hd q (List.mem_cons_of_mem _ hq)
    exact ⟨g1, g2, fun hm => (List.mem_append.mp hm).elim g3 fun z => neh q hq (List.mem_singleton.mp z)⟩
theorem Sd.mono (h : Sd K W H σ e) (l : W.le W') (ok : Ok K W' H' cs) : Sd K W' H' σ { e with cs := cs } := ⟨ok, h.sl.mono l⟩
end

/-! ### looking at lists -/
def lk (cs : List Cel) : D → Option (List D)
  | .lst xs => some xs
  | .fro xs => some xs
  | .cell n => match cs[n]? with
    | some (.lst xs) => some xs
    | _ => none
  | _ => none
/-- not a locked one -/
def lkP (cs : List Cel) : D → Option (List D)
  | .lst xs => some xs
  | .cell n => match cs[n]? with
    | some (.lst xs) => some xs
    | _ => none
  | _ => none
section
variable {K : PySem.W.Frag} {W : Wd} {H : Hp} {cs : List Cel}
theorem Ok.cellL (h : Ok K W H cs) {n : Nat} {a : Addr} {xs : List D} (hm : W.m[n]? = some a) (hc : cs[n]? = some (.lst xs)) : ∃ vs, H a = some (.lst vs) ∧ RAll K W vs xs := h.cl n a _ hm hc
theorem Ok.lkP (h : Ok K W H cs) {d : D} {v : V} {xs : List D} (r : R K W v d) (e : lkP cs d = some xs) : ∃ a vs, v = .ref a ∧ H a = some (.lst vs) ∧ RAll K W vs xs := by
  cases r <;> simp only [DL.lkP] at e <;> try cases e
  · rename_i a vs hs ha
    exact ⟨a, vs, rfl, h.ex _ _ hs, ha⟩
  · rename_i n a hm
    split at e
    · rename_i xs' hc
      cases e
      obtain ⟨vs, h1, h2⟩ := h.cellL hm hc
      exact ⟨a, vs, rfl, h1, h2⟩
    · cases e
theorem Ok.lk (h : Ok K W H cs) {d : D} {v : V} {xs : List D} (r : R K W v d) (e : lk cs d = some xs) : ∃ a vs, v = .ref a ∧ SqL K H a vs ∧ RAll K W vs xs := by
  cases r <;> simp only [DL.lk] at e <;> try cases e
  · rename_i a vs hs ha
    exact ⟨a, vs, rfl, SqL.of (h.ex _ _ hs), ha⟩
  · rename_i a vs hs ha
    exact ⟨a, vs, rfl, Evl.ex_l h.ex hs, ha⟩
  · rename_i n a hm
    split at e
    · rename_i xs' hc
      cases e
      obtain ⟨vs, h1, h2⟩ := h.cellL hm hc
      exact ⟨a, vs, rfl, SqL.of h1, h2⟩
    · cases e
end

/-! ### lifting -/
/-- what is known of the world all along -/
structure Bs where
  p : Wd → Prop
  up : ∀ {W W' : Wd}, p W → W.le W' → p W'
def Bs.any : Bs := ⟨fun _ => True, fun _ _ => trivial⟩
def Bs.of (W0 : Wd) : Bs := ⟨fun W => W0.le W, fun a b => a.tr b⟩
abbrev DE := En → (D → En → Prop) → Prop
abbrev DT := En → (Bool → En → Prop) → Prop
abbrev DA := En → (List D → En → Prop) → Prop
structure Po where
  nx : En → Prop
  rt : D → List Cel → Prop
  bk : En → Prop := fun _ => False
  ct : En → Prop := fun _ => False
abbrev DS := Po → En → Prop
def lE (K : PySem.W.Frag) (B : Bs) (t : DE) : TE := fun σ H Q => ∃ W e P, B.p W ∧ Sd K W H σ e ∧ t e P ∧
  ∀ d e' W' H' v, P d e' → W.le W' → Sd K W' H' σ e' → R K W' v d → Q v H'
def lT (K : PySem.W.Frag) (B : Bs) (t : DT) : TT := fun σ H Q => ∃ W e P, B.p W ∧ Sd K W H σ e ∧ t e P ∧
  ∀ b e' W' H', P b e' → W.le W' → Sd K W' H' σ e' → Q b H'
def lA (K : PySem.W.Frag) (B : Bs) (t : DA) : TA := fun σ H Q => ∃ W e P, B.p W ∧ Sd K W H σ e ∧ t e P ∧
  ∀ ds e' W' H' vs, P ds e' → W.le W' → Sd K W' H' σ e' → RAll K W' vs ds → Q vs H'
def lS (K : PySem.W.Frag) (B : Bs) (t : DS) : TS := fun D σ H => ∃ W e P, B.p W ∧ Sd K W H σ e ∧ t P e ∧
  (∀ e' W' H' σ', P.nx e' → W.le W' → Sd K W' H' σ' e' → D.nx σ' H') ∧
  (∀ d cs W' H' v, P.rt d cs → W.le W' → Ok K W' H' cs → R K W' v d → D.rt v H') ∧
  (∀ e' W' H' σ', P.bk e' → W.le W' → Sd K W' H' σ' e' → D.bk σ' H') ∧
  (∀ e' W' H' σ', P.ct e' → W.le W' → Sd K W' H' σ' e' → D.ct σ' H')

section
variable {X : Cx} {ex : Expr}
theorem PE.imp {t t' : TE} (h : PE X ex t) (i : ∀ σ H Q, t' σ H Q → t σ H Q) : PE X ex t' := ⟨fun pins s σ H Q I w => h.run pins s σ H Q I (i σ H Q w)⟩
theorem PT.imp {t t' : TT} (h : PT X ex t) (i : ∀ σ H Q, t' σ H Q → t σ H Q) : PT X ex t' := ⟨fun pins s σ H Q I w => h.run pins s σ H Q I (i σ H Q w)⟩
theorem PW.imp {t t' : TT} (h : PW X ex t) (i : ∀ σ H Q, t' σ H Q → t σ H Q) : PW X ex t' := ⟨fun wh pins s σ H Q I w => h.run wh pins s σ H Q I (i σ H Q w)⟩
theorem PA.imp {es : List Expr} {t t' : TA} (h : PA X es t) (i : ∀ σ H Q, t' σ H Q → t σ H Q) : PA X es t' := ⟨fun pos pins s σ H Q I w => h.run pos pins s σ H Q I (i σ H Q w)⟩
theorem PS.imp {st : Stmt} {t t' : TS} (h : PS X st t) (i : ∀ D σ H, t' D σ H → t D σ H) : PS X st t' := ⟨fun pins s σ H D I w => h.run pins s σ H D I (i D σ H w)⟩
theorem PSs.imp {st : List Stmt} {t t' : TS} (h : PSs X st t) (i : ∀ D σ H, t' D σ H → t D σ H) : PSs X st t' := ⟨fun pins s σ H D I w => h.run pins s σ H D I (i D σ H w)⟩
end
end DL
namespace DL
open PySem PySem.Spec PyProof.Rows L2
open Evl (Ex)

/-! ### new objects -/
def newL (o : Bool) (xs : List D) : DE := fun e P => match o with
  | false => P (.lst xs) e
  | true => P (.cell e.cs.length) { e with cs := e.cs ++ [.lst xs] }
section
variable {K : PySem.W.Frag} {W : Wd} {H : Hp} {σ : L2.St} {e : En} {Q : VK} {P : D → En → Prop}
theorem newL_ok {o : Bool} {xs : List D} {vs : List V} (S : Sd K W H σ e) (r : RAll K W vs xs) (t : newL o xs e P)
    (k : ∀ d e' W' H' v, P d e' → W.le W' → Sd K W' H' σ e' → R K W' v d → Q v H') : ∀ p, H p = none → Q (.ref p) (upd H p (.lst vs)) := by
  intro p hp
  cases o with
  | false =>
    obtain ⟨ok, l⟩ := S.ok.newF (o := .lst vs) hp
    exact k _ _ _ _ _ t l ⟨ok, S.sl.mono l⟩ (.lst upd_same (RAll.mono l _ _ r))
  | true =>
    obtain ⟨ok, l⟩ := S.ok.newC (o := .lst vs) (c := .lst xs) hp fun W' l => ⟨vs, upd_same, RAll.mono l _ _ r⟩
    refine k _ _ _ _ _ t l ⟨ok, S.sl.mono l⟩ (.cell ?_)
    show (W.m ++ [p])[e.cs.length]? = some p
    rw [← S.ok.len, List.getElem?_append_right (Nat.le_refl _)]
    simp
theorem newT_ok {xs : List D} {vs : List V} (S : Sd K W H σ e) (r : RAll K W vs xs) (t : P (.tup xs) e)
    (k : ∀ d e' W' H' v, P d e' → W.le W' → Sd K W' H' σ e' → R K W' v d → Q v H') : ∀ p, H p = none → Q (.ref p) (upd H p (.tup vs)) := by
  intro p hp
  obtain ⟨ok, l⟩ := S.ok.newF (o := .tup vs) hp
  exact k _ _ _ _ _ t l ⟨ok, S.sl.mono l⟩ (.tup (SqT.of upd_same) (RAll.mono l _ _ r))
end

/-! ### names and constants -/
def eV (i : Nat) : DE := fun e P => ∃ d, e.sl[i]? = some (some d) ∧ P d e
def eC (d : D) : DE := fun e P => P d e
section
variable {X : Cx} {B : Bs} {a b c ex : Expr} {pos : Pos} {ta tb tc te : DE}
theorem de_var {i : Nat} (h : PE X ex (tVar i)) : PE X ex (lE X.K B (eV i)) := PE.imp h fun σ H Q ⟨W, e, P, _, S, ⟨d, hd, p⟩, k⟩ => by
  obtain ⟨v, hv, r⟩ := S.sl.2 i d hd
  exact ⟨v, hv, k d e W H v p W.le_refl S r⟩
theorem dv (i : Nat) {x : Str} (hN : X.N[i]? = some x := by rfl) (hv : Vis X.env.scope x := by first | exact Or.inl rfl | exact Or.inr (Or.inl rfl) | exact Or.inr (Or.inr rfl)) (hd : (x == ("__debug__" : Str)) = false := by decide)
    (hcd : (x == ("__classdict__" : Str)) = false := by decide) : PE X (.Name x pos) (lE X.K B (eV i)) := de_var (pe_var hN hv hd hcd)
theorem de_c {v : V} {d : D} (h : PE X ex (tC v)) (hr : ∀ W, R X.K W v d) : PE X ex (lE X.K B (eC d)) := PE.imp h fun σ H Q ⟨W, e, P, _, S, p, k⟩ => k d e W H v p W.le_refl S (hr W)
theorem de_int {i j} : PE X (.Constant (.int i) j pos) (lE X.K B (eC (.int i))) := de_c pe_int fun _ => .int i
theorem de_bl {i j} : PE X (.Constant (.bool i) j pos) (lE X.K B (eC (.bl i))) := de_c pe_bl fun _ => .bl i
theorem de_non {j} : PE X (.Constant .none j pos) (lE X.K B (eC .non)) := de_c pe_non fun _ => .non
theorem de_str {s j} : PE X (.Constant (.str s) j pos) (lE X.K B (eC (.str s))) := de_c pe_str fun _ => .str s
/-- a name of the module -/
theorem de_glob {x : Str} {v : V} {u : Value} {d : D} (hg : Gl X x) (hm : X.mg x = some u) (r : RelV v u) (hr : ∀ W, R X.K W v d) (hd : (x == ("__debug__" : Str)) = false := by decide) : PE X (.Name x pos) (lE X.K B (eC d)) := de_c (pe_glob hg hm r hd) hr
theorem de_ty {x : Str} {T : String} (hg : Gl X x) (hm : X.mg x = none) (hv : bootBuiltins x = some (.type T)) (hn : x ≠ "__name__" := by decide) (hd : (x == ("__debug__" : Str)) = false := by decide) : PE X (.Name x pos) (lE X.K B (eC (.raw (.ty T)))) :=
  de_c (pe_bltn (v := .ty T) hg hm hv rfl hn hd) fun _ => .raw _

/-! ### operators -/
/-- an operation by data -/
def OpD (K : PySem.W.Frag) (r : R2) (q : D → D → DE) : Prop := ∀ (W : Wd) (H : Hp) (σ : L2.St) (e : En) (x y : V) (d1 d2 : D) (P : D → En → Prop) (Q : VK), Sd K W H σ e → R K W x d1 → R K W y d2 → q d1 d2 e P →
  (∀ d e' W' H' v, P d e' → W.le W' → Sd K W' H' σ e' → R K W' v d → Q v H') → r x y H Q
def eBin (q : D → D → DE) (ta tb : DE) : DE := fun e P => ta e fun x e1 => tb e1 fun y e2 => q x y e2 P
theorem bin_ok {r : R2} {q : D → D → DE} (hq : OpD X.K r q) : ∀ σ H Q, lE X.K B (eBin q ta tb) σ H Q → tOp r (lE X.K B ta) (lE X.K B tb) σ H Q :=
  fun σ H Q ⟨W, e, P, bl, S, t, k⟩ => ⟨W, e, _, bl, S, t, fun x e1 W1 H1 v1 t1 l1 S1 r1 => ⟨W1, e1, _, (B.up bl l1), S1, t1, fun y e2 W2 H2 v2 t2 l2 S2 r2 =>
    hq W2 H2 σ e2 v1 v2 x y P Q S2 (R.mono l2 _ _ r1) r2 t2 fun d e3 W3 H3 v3 p l3 S3 r3 => k d e3 W3 H3 v3 p ((l1.tr l2).tr l3) S3 r3⟩⟩
theorem de_bin {op : Operator} {r : R2} {q : D → D → DE} (ho : OpR X (binaryOp op) r) (hq : OpD X.K r q) (ha : PE X a (lE X.K B ta)) (hb : PE X b (lE X.K B tb)) : PE X (.BinOp a op b pos) (lE X.K B (eBin q ta tb)) :=
  PE.imp (pe_op ho ha hb) (bin_ok hq)
theorem de_cmp {op : CmpOp} {r : R2} {q : D → D → DE} (ho : OpR X (compareOp op) r) (hq : OpD X.K r q) (ha : PE X a (lE X.K B ta)) (hb : PE X b (lE X.K B tb)) (hm : behindInMarks op b = false) : PE X (.Compare a [op] [b] pos) (lE X.K B (eBin q ta tb)) :=
  PE.imp (pe_cmpR ho ha hb hm) (bin_ok hq)
/-- a value that is a bool, as a test -/
def eTest (t : DE) : DT := fun e P => t e fun d e1 => ∃ k, d = .bl k ∧ P k e1
theorem R.bl_inv {K : PySem.W.Frag} {W : Wd} {v : V} {k : Bool} (r : R K W v (.bl k)) : v = .bl k := by cases r; rfl
theorem test_ok {t : TE} (h : ∀ σ H Q, lE X.K B te σ H Q → t σ H Q) : ∀ σ H Q, lT X.K B (eTest te) σ H Q → tTest t σ H Q :=
  fun σ H Q ⟨W, e, P, bl, S, t, k⟩ => h σ H _ ⟨W, e, _, bl, S, t, fun d e1 W1 H1 v ⟨kk, ed, p⟩ l1 S1 r1 => ⟨kk, by subst ed; exact r1.bl_inv, k kk e1 W1 H1 p l1 S1⟩⟩
theorem dt_cmp {op : CmpOp} {r : R2} {q : D → D → DE} (ho : OpR X (compareOp op) r) (hq : OpD X.K r q) (ha : PE X a (lE X.K B ta)) (hb : PE X b (lE X.K B tb)) (hm : behindInMarks op b = false) : PT X (.Compare a [op] [b] pos) (lT X.K B (eTest (eBin q ta tb))) :=
  PT.imp (pt_cmpR ho ha hb hm) (test_ok (bin_ok hq))
theorem dt_val {e : Expr} (h : PE X e (lE X.K B te)) (he : ∀ whole, isTrue e X.env whole = (do let v ← whole; standAt e.pos; holding [v] (truthy v)) := by intro _; rfl) : PT X e (lT X.K B (eTest te)) :=
  PT.imp (pt_val h he) (test_ok fun _ _ _ z => z)
/-- a op1 b op2 c -/
def eChain (q q' : D → D → DE) (ta tb tc : DE) : DE := fun e P => ta e fun x e1 => tb e1 fun y e2 => q x y e2 fun z e3 => ∃ k, z = .bl k ∧ if k = true then tc e3 fun w e4 => q' y w e4 P else P (.bl false) e3
theorem chain_ok {r r' : R2} {q q' : D → D → DE} (hq : OpD X.K r q) (hq' : OpD X.K r' q') : ∀ σ H Q, lE X.K B (eChain q q' ta tb tc) σ H Q → tChain r r' (lE X.K B ta) (lE X.K B tb) (lE X.K B tc) σ H Q :=
  fun σ H Q ⟨W, e, P, bl, S, t, k⟩ => ⟨W, e, _, bl, S, t, fun x e1 W1 H1 v1 t1 l1 S1 r1 => ⟨W1, e1, _, (B.up bl l1), S1, t1, fun y e2 W2 H2 v2 t2 l2 S2 r2 =>
    hq W2 H2 σ e2 v1 v2 x y _ _ S2 (R.mono l2 _ _ r1) r2 t2 fun z e3 W3 H3 v3 ⟨kk, ez, h3⟩ l3 S3 r3 => ⟨kk, by subst ez; exact r3.bl_inv, by
      have l13 := (l1.tr l2).tr l3
      cases kk with
      | false => exact iteF (k _ _ _ _ _ h3 l13 S3 (.bl false))
      | true => exact iteT ⟨W3, e3, _, (B.up bl l13), S3, h3, fun w e4 W4 H4 v4 t4 l4 S4 r4 => hq' W4 H4 σ e4 v2 v4 y w P Q S4 (R.mono (l3.tr l4) _ _ r2) r4 t4 fun d e5 W5 H5 v5 p l5 S5 r5 => k d e5 W5 H5 v5 p ((l13.tr l4).tr l5) S5 r5⟩⟩⟩⟩
theorem de_chain {op op' : CmpOp} {r r' : R2} {q q' : D → D → DE} (ho : OpR X (compareOp op) r) (ho' : OpR X (compareOp op') r') (hq : OpD X.K r q) (hq' : OpD X.K r' q') (ha : PE X a (lE X.K B ta)) (hb : PE X b (lE X.K B tb)) (hc : PE X c (lE X.K B tc))
    (hm : lastMarks [op, op'] [b, c] = false := by with_unfolding_all rfl) : PE X (.Compare a [op, op'] [b, c] pos) (lE X.K B (eChain q q' ta tb tc)) := PE.imp (pe_chain ho ho' ha hb hc hm) (chain_ok hq hq')
theorem dt_chain {op op' : CmpOp} {r r' : R2} {q q' : D → D → DE} (ho : OpR X (compareOp op) r) (ho' : OpR X (compareOp op') r') (hq : OpD X.K r q) (hq' : OpD X.K r' q') (ha : PE X a (lE X.K B ta)) (hb : PE X b (lE X.K B tb)) (hc : PE X c (lE X.K B tc))
    (hm : lastMarks [op, op'] [b, c] = false := by with_unfolding_all rfl) : PT X (.Compare a [op, op'] [b, c] pos) (lT X.K B (eTest (eChain q q' ta tb tc))) := PT.imp (pt_chain ho ho' ha hb hc hm) (test_ok (chain_ok hq hq'))

/-! the ops -/
def MulOk (i j : Int) : Prop := CMul i j ∨ CMulW i j
def FdivOk (i j : Int) : Prop := CDiv i j ∨ CDivW i j
theorem op_mulA : OpR X (binaryOp .Mult) (rI MulOk fun i j => .int (i * j)) := by
  intro pins s σ H x y v u Q I r1 r2 ⟨i, j, e1, e2, c, q⟩
  rcases c with c | c
  · exact op_mul pins s σ H x y v u Q I r1 r2 ⟨i, j, e1, e2, c, q⟩
  · exact op_mulW pins s σ H x y v u Q I r1 r2 ⟨i, j, e1, e2, c, q⟩
theorem op_fdivA : OpR X (binaryOp .FloorDiv) (rI FdivOk fun i j => .int (i / j)) := by
  intro pins s σ H x y v u Q I r1 r2 ⟨i, j, e1, e2, c, q⟩
  rcases c with c | c
  · exact op_fdiv pins s σ H x y v u Q I r1 r2 ⟨i, j, e1, e2, c, q⟩
  · exact op_fdivW pins s σ H x y v u Q I r1 r2 ⟨i, j, e1, e2, c, q⟩
def qSub : D → D → DE
  | .int i, .int j => fun e P => P (.int (i - j)) e
  | _, _ => fun _ _ => False
def qMul : D → D → DE
  | .int i, .int j => fun e P => MulOk i j ∧ P (.int (i * j)) e
  | _, _ => fun _ _ => False
def qFdiv : D → D → DE
  | .int i, .int j => fun e P => FdivOk i j ∧ P (.int (i / j)) e
  | _, _ => fun _ _ => False
def qMod : D → D → DE
  | .int i, .int j => fun e P => 0 < j ∧ P (.int (i % j)) e
  | _, _ => fun _ _ => False
def qPow : D → D → DE
  | .int i, .int j => fun e P => CPow i j ∧ P (.int (i ^ j.toNat)) e
  | _, _ => fun _ _ => False
def qAdd (o : Bool) : D → D → DE
  | .int i, .int j => fun e P => P (.int (i + j)) e
  | .str s, .str t => fun e P => s.length + t.length ≤ sizeLine ∧ P (.str (s ++ t)) e
  | .tup xs, .tup ys => fun e P => xs ≠ [] ∧ xs.length + ys.length ≤ sizeLine ∧ P (.tup (xs ++ ys)) e
  | x, y => fun e P => ∃ xs ys, lkP e.cs x = some xs ∧ lkP e.cs y = some ys ∧ xs.length + ys.length ≤ sizeLine ∧ newL o (xs ++ ys) e P
theorem R.int_inv {K : PySem.W.Frag} {W : Wd} {v : V} {k : Int} (r : R K W v (.int k)) : v = .int k := by cases r; rfl
theorem R.str_inv {K : PySem.W.Frag} {W : Wd} {v : V} {k : Str} (r : R K W v (.str k)) : v = .str k := by cases r; rfl
theorem R.non_inv {K : PySem.W.Frag} {W : Wd} {v : V} (r : R K W v .non) : v = .non := by cases r; rfl
theorem R.raw_inv {K : PySem.W.Frag} {W : Wd} {v u : V} (r : R K W v (.raw u)) : v = u := by cases r; rfl
theorem od_I0 {K : PySem.W.Frag} {f : Int → Int → D} {g : Int → Int → V} {q : D → D → DE} (hq : ∀ x y e P, q x y e P → ∃ i j, x = .int i ∧ y = .int j ∧ P (f i j) e) (hr : ∀ W i j, R K W (g i j) (f i j)) : OpD K (rI0 g) q := by
  intro W H σ e x y d1 d2 P Q S r1 r2 t k
  obtain ⟨i, j, rfl, rfl, t'⟩ := hq _ _ _ _ t
  exact ⟨i, j, r1.int_inv, r2.int_inv, k _ _ _ _ _ t' W.le_refl S (hr W i j)⟩
theorem od_I {K : PySem.W.Frag} {C : Int → Int → Prop} {f : Int → Int → D} {g : Int → Int → V} {q : D → D → DE} (hq : ∀ x y e P, q x y e P → ∃ i j, x = .int i ∧ y = .int j ∧ C i j ∧ P (f i j) e) (hr : ∀ W i j, R K W (g i j) (f i j)) : OpD K (rI C g) q := by
  intro W H σ e x y d1 d2 P Q S r1 r2 t k
  obtain ⟨i, j, rfl, rfl, c, t'⟩ := hq _ _ _ _ t
  exact ⟨i, j, r1.int_inv, r2.int_inv, c, k _ _ _ _ _ t' W.le_refl S (hr W i j)⟩
theorem od_sub {K : PySem.W.Frag} : OpD K (rI0 fun i j => .int (i - j)) qSub := od_I0 (f := fun i j => .int (i - j)) (fun x y e P h => by
  cases x <;> cases y <;> first | exact h.elim | exact ⟨_, _, rfl, rfl, h⟩) fun _ _ _ => .int _
theorem od_mul {K : PySem.W.Frag} : OpD K (rI MulOk fun i j => .int (i * j)) qMul := od_I (f := fun i j => .int (i * j)) (fun x y e P h => by
  cases x <;> cases y <;> first | exact h.elim | exact ⟨_, _, rfl, rfl, h⟩) fun _ _ _ => .int _
theorem od_fdiv {K : PySem.W.Frag} : OpD K (rI FdivOk fun i j => .int (i / j)) qFdiv := od_I (f := fun i j => .int (i / j)) (fun x y e P h => by
  cases x <;> cases y <;> first | exact h.elim | exact ⟨_, _, rfl, rfl, h⟩) fun _ _ _ => .int _
theorem od_mod {K : PySem.W.Frag} : OpD K (rI (fun _ j => 0 < j) fun i j => .int (i % j)) qMod := od_I (f := fun i j => .int (i % j)) (fun x y e P h => by
  cases x <;> cases y <;> first | exact h.elim | exact ⟨_, _, rfl, rfl, h⟩) fun _ _ _ => .int _
theorem od_pow {K : PySem.W.Frag} : OpD K (rI CPow fun i j => .int (i ^ j.toNat)) qPow := od_I (f := fun i j => .int (i ^ j.toNat)) (fun x y e P h => by
  cases x <;> cases y <;> first | exact h.elim | exact ⟨_, _, rfl, rfl, h⟩) fun _ _ _ => .int _
def rAddA (K : PySem.W.Frag) : R2 := fun x y H Q => (((rI0 fun i j => .int (i + j)) x y H Q ∨ (∃ i j, x = .str i ∧ y = .str j ∧ i.length + j.length ≤ sizeLine ∧ Q (.str (i ++ j)) H)) ∨ rCatT K x y H Q) ∨ rCat x y H Q
theorem op_addA : OpR X (binaryOp .Add) (rAddA X.K) := ((op_add.or op_add_str).or op_catT).or op_cat
theorem od_add {K : PySem.W.Frag} {o : Bool} : OpD K (rAddA K) (qAdd o) := by
  intro W H σ e x y d1 d2 P Q S r1 r2 t k
  have lists : (∃ xs ys, lkP e.cs d1 = some xs ∧ lkP e.cs d2 = some ys ∧ xs.length + ys.length ≤ sizeLine ∧ newL o (xs ++ ys) e P) → rAddA K x y H Q := fun ⟨xs, ys, e1, e2, hz, t⟩ => by
    obtain ⟨p1, vs, rfl, h1, q1⟩ := S.ok.lkP r1 e1
    obtain ⟨p2, ws, rfl, h2, q2⟩ := S.ok.lkP r2 e2
    exact .inr ⟨p1, p2, vs, ws, rfl, rfl, h1, h2, by rw [q1.length, q2.length]; exact hz, newL_ok S (q1.append q2) t k⟩
  unfold qAdd at t
  split at t
  · exact .inl (.inl (.inl ⟨_, _, r1.int_inv, r2.int_inv, k _ _ _ _ _ t W.le_refl S (.int _)⟩))
  · exact .inl (.inl (.inr ⟨_, _, r1.str_inv, r2.str_inv, t.1, k _ _ _ _ _ t.2 W.le_refl S (.str _)⟩))
  · obtain ⟨hne, hz, t⟩ := t
    cases r1 with
    | tup h1 q1 =>
      cases r2 with
      | tup h2 q2 =>
        refine .inl (.inr ⟨_, _, _, _, rfl, rfl, Evl.ex_t S.ok.ex h1, Evl.ex_t S.ok.ex h2, fun z => hne ?_, by rw [q1.length, q2.length]; exact hz, ?_⟩)
        · subst z; cases q1; rfl
        · exact ⟨fun z => k _ _ _ _ _ t W.le_refl S (by
            subst z; cases q2
            rw [List.append_nil]
            exact .tup h1 q1), fun _ => newT_ok S (q1.append q2) t k⟩
  · exact lists t
def qLt : D → D → DE
  | .int i, .int j => fun e P => P (.bl (decide (i < j))) e
  | _, _ => fun _ _ => False
def qLe : D → D → DE
  | .int i, .int j => fun e P => P (.bl (decide (i ≤ j))) e
  | _, _ => fun _ _ => False
def qGt : D → D → DE
  | .int i, .int j => fun e P => P (.bl (decide (j < i))) e
  | _, _ => fun _ _ => False
def qGe : D → D → DE
  | .int i, .int j => fun e P => P (.bl (decide (j ≤ i))) e
  | _, _ => fun _ _ => False
theorem od_lt {K : PySem.W.Frag} : OpD K (rI0 fun i j => .bl (decide (i < j))) qLt := od_I0 (f := fun i j => .bl (decide (i < j))) (fun x y e P h => by
  cases x <;> cases y <;> first | exact h.elim | exact ⟨_, _, rfl, rfl, h⟩) fun _ _ _ => .bl _
theorem od_le {K : PySem.W.Frag} : OpD K (rI0 fun i j => .bl (decide (i ≤ j))) qLe := od_I0 (f := fun i j => .bl (decide (i ≤ j))) (fun x y e P h => by
  cases x <;> cases y <;> first | exact h.elim | exact ⟨_, _, rfl, rfl, h⟩) fun _ _ _ => .bl _
theorem od_gt {K : PySem.W.Frag} : OpD K (rI0 fun i j => .bl (decide (j < i))) qGt := od_I0 (f := fun i j => .bl (decide (j < i))) (fun x y e P h => by
  cases x <;> cases y <;> first | exact h.elim | exact ⟨_, _, rfl, rfl, h⟩) fun _ _ _ => .bl _
theorem od_ge {K : PySem.W.Frag} : OpD K (rI0 fun i j => .bl (decide (j ≤ i))) qGe := od_I0 (f := fun i j => .bl (decide (j ≤ i))) (fun x y e P h => by
  cases x <;> cases y <;> first | exact h.elim | exact ⟨_, _, rfl, rfl, h⟩) fun _ _ _ => .bl _
end
end DL
namespace DL
open PySem PySem.Spec PyProof.Rows L2
open Evl (Ex)

/-! ### data that is compared -/
mutual
def toP : D → PyData
  | .non => .none
  | .bl b => .bool b
  | .int i => .int i
  | .str s => .str s
  | .tup xs => .tuple (toPs xs)
  | .lst xs => .list (toPs xs)
  | .fro xs => .list (toPs xs)
  | .ins _ _ _ => .none
  | .cell _ => .none
  | .dct => .none
  | .raw _ => .none
  | .exc _ _ => .none
def toPs : List D → List PyData
  | [] => []
  | x :: xs => toP x :: toPs xs
end
mutual
def okD : D → Bool
  | .non => true
  | .bl _ => true
  | .int _ => true
  | .str _ => true
  | .tup xs => okDs xs
  | .lst xs => okDs xs
  | .fro xs => okDs xs
  | .ins _ _ _ => false
  | .cell _ => false
  | .dct => false
  | .raw _ => false
  | .exc _ _ => false
def okDs : List D → Bool
  | [] => true
  | x :: xs => okD x && okDs xs
end
def drf (cs : List Cel) : D → D
  | .cell n => match cs[n]? with
    | some (.lst xs) => .lst xs
    | _ => .cell n
  | .fro xs => .lst xs
  | d => d
def shp (d : D) : Bool := okD d && SeqAt.shaped (toP d)
section
variable {K : PySem.W.Frag} {W : Wd} {H : Hp} {cs : List Cel}
mutual
theorem R.dp (x : Ex W.F H) : ∀ (d : D) (v : V), R K W v d → okD d = true → Dp K H v (toP d)
  | .non, _, h, _ => by cases h; exact .non
  | .bl b, _, h, _ => by cases h; exact .bl b
  | .int i, _, h, _ => by cases h; exact .int i
  | .str s, _, h, _ => by cases h; exact .str s
  | .tup xs, _, h, o => by
    cases h with
    | tup hs ha => exact .tup (Evl.ex_t x hs) (RAll.dp x xs _ ha o)
  | .lst xs, _, h, o => by
    cases h with
    | lst hs ha => exact .lst (SqL.of (x _ _ hs)) (RAll.dp x xs _ ha o)
  | .fro xs, _, h, o => by
    cases h with
    | fro hs ha => exact .lst (Evl.ex_l x hs) (RAll.dp x xs _ ha o)
  | .ins _ _ _, _, _, o => by cases o
  | .cell _, _, _, o => by cases o
  | .dct, _, _, o => by cases o
  | .raw _, _, _, o => by cases o
  | .exc _ _, _, _, o => by cases o
theorem RAll.dp (x : Ex W.F H) : ∀ (ds : List D) (vs : List V), RAll K W vs ds → okDs ds = true → DpAll K H vs (toPs ds)
  | [], _, h, _ => by cases h; exact .nil
  | d :: ds, _, h, o => by
    cases h with
    | cons h1 h2 =>
      have o' : (okD d && okDs ds) = true := o
      rw [Bool.and_eq_true] at o'
      exact .cons (R.dp x d _ h1 o'.1) (RAll.dp x ds _ h2 o'.2)
end
theorem Ok.dp (h : Ok K W H cs) {d : D} {v : V} (r : R K W v d) (o : okD (drf cs d) = true) : Dp K H v (toP (drf cs d)) := by
  cases d with
  | cell n =>
    cases r with
    | cell hm =>
      unfold drf at o ⊢
      simp only at o ⊢
      split at o
      · rename_i xs hc
        obtain ⟨vs, h1, h2⟩ := h.cellL hm hc
        exact .lst (SqL.of h1) (RAll.dp' h2 o)
      · cases o
  | non => exact R.dp h.ex _ _ r o
  | bl b => exact R.dp h.ex _ _ r o
  | int i => exact R.dp h.ex _ _ r o
  | str s => exact R.dp h.ex _ _ r o
  | tup xs => exact R.dp h.ex _ _ r o
  | lst xs => exact R.dp h.ex _ _ r o
  | fro xs => exact R.dp h.ex (.fro xs) _ r o
  | dct => cases o
  | exc _ _ => cases o
  | ins _ _ _ => exact R.dp h.ex _ _ r o
  | raw _ => exact R.dp h.ex _ _ r o
where
  RAll.dp' {vs : List V} {ds : List D} (h2 : RAll K W vs ds) (o : okDs ds = true) : DpAll K H vs (toPs ds) := RAll.dp h.ex ds vs h2 o
end
def qEq : D → D → DE
  | .int i, .int j => fun e P => P (.bl (decide (i = j))) e
  | x, y => fun e P => shp (drf e.cs x) = true ∧ shp (drf e.cs y) = true ∧ P (.bl (PyData.eqv (toP (drf e.cs x)) (toP (drf e.cs y)))) e
def qNe : D → D → DE
  | .int i, .int j => fun e P => P (.bl (!decide (i = j))) e
  | x, y => fun e P => shp (drf e.cs x) = true ∧ shp (drf e.cs y) = true ∧ P (.bl (!PyData.eqv (toP (drf e.cs x)) (toP (drf e.cs y)))) e
theorem shp_and {d : D} (h : shp d = true) : okD d = true ∧ SeqAt.shaped (toP d) = true := by
  have h' : (okD d && SeqAt.shaped (toP d)) = true := h
  rwa [Bool.and_eq_true] at h'
theorem od_eq {K : PySem.W.Frag} : OpD K (rEqD K) qEq := by
  intro W H σ e x y d1 d2 P Q S r1 r2 t k
  unfold qEq at t
  split at t
  · refine ⟨_, _, R.dp S.ok.ex _ _ r1 rfl, R.dp S.ok.ex _ _ r2 rfl, rfl, rfl, ?_⟩
    refine k _ _ _ _ _ t W.le_refl S ?_
    rename_i i j
    have e0 : PyData.eqv (toP (.int i)) (toP (.int j)) = decide (i = j) := Bool.beq_eq_decide_eq _ _
    rw [e0]
    exact .bl _
  · obtain ⟨h1, h2, t⟩ := t
    obtain ⟨o1, s1⟩ := shp_and h1
    obtain ⟨o2, s2⟩ := shp_and h2
    exact ⟨_, _, S.ok.dp r1 o1, S.ok.dp r2 o2, s1, s2, k _ _ _ _ _ t W.le_refl S (.bl _)⟩
theorem od_ne {K : PySem.W.Frag} : OpD K (rNeD K) qNe := by
  intro W H σ e x y d1 d2 P Q S r1 r2 t k
  unfold qNe at t
  split at t
  · refine ⟨_, _, R.dp S.ok.ex _ _ r1 rfl, R.dp S.ok.ex _ _ r2 rfl, rfl, rfl, ?_⟩
    refine k _ _ _ _ _ t W.le_refl S ?_
    rename_i i j
    have e0 : PyData.eqv (toP (.int i)) (toP (.int j)) = decide (i = j) := Bool.beq_eq_decide_eq _ _
    rw [e0]
    exact .bl _
  · obtain ⟨h1, h2, t⟩ := t
    obtain ⟨o1, s1⟩ := shp_and h1
    obtain ⟨o2, s2⟩ := shp_and h2
    exact ⟨_, _, S.ok.dp r1 o1, S.ok.dp r2 o2, s1, s2, k _ _ _ _ _ t W.le_refl S (.bl _)⟩

/-! is -/
def isN : D → Bool
  | .non => true
  | _ => false
def notRaw : D → Bool
  | .raw _ => false
  | _ => true
theorem R.isN {K : PySem.W.Frag} {W : Wd} {v : V} {d : D} (r : R K W v d) (n : notRaw d = true) : decide (v = .non) = isN d := by
  cases r <;> first | rfl | cases n
def qIs : D → D → DE
  | .bl a, .bl b => fun e P => P (.bl (decide (a = b))) e
  | x, y => fun e P => isN y = true ∧ notRaw x = true ∧ P (.bl (isN x)) e
def qIsNot : D → D → DE
  | .bl a, .bl b => fun e P => P (.bl (!decide (a = b))) e
  | x, y => fun e P => isN y = true ∧ notRaw x = true ∧ P (.bl (!isN x)) e
def rIsA : R2 := fun x y H Q => (y = .non ∧ Q (.bl (decide (x = .non))) H) ∨ L2.rIsB x y H Q
def rIsNotA : R2 := fun x y H Q => (y = .non ∧ Q (.bl (!decide (x = .non))) H) ∨ L2.rNotB x y H Q
theorem op_isA {X : Cx} : OpR X (compareOp .Is) rIsA := op_isN.or op_isBl
theorem op_isNotA {X : Cx} : OpR X (compareOp .IsNot) rIsNotA := op_notN.or op_notBl
theorem isN_of {d : D} (h : isN d = true) : d = .non := by cases d <;> first | rfl | cases h
theorem od_is {K : PySem.W.Frag} : OpD K rIsA qIs := by
  intro W H σ e x y d1 d2 P Q S r1 r2 t k
  unfold qIs at t
  split at t
  · exact .inr ⟨_, _, r1.bl_inv, r2.bl_inv, k _ _ _ _ _ t W.le_refl S (.bl _)⟩
  · obtain ⟨h1, h2, t⟩ := t
    cases isN_of h1
    refine .inl ⟨r2.non_inv, ?_⟩
    rw [r1.isN h2]
    exact k _ _ _ _ _ t W.le_refl S (.bl _)
theorem od_isNot {K : PySem.W.Frag} : OpD K rIsNotA qIsNot := by
  intro W H σ e x y d1 d2 P Q S r1 r2 t k
  unfold qIsNot at t
  split at t
  · exact .inr ⟨_, _, r1.bl_inv, r2.bl_inv, k _ _ _ _ _ t W.le_refl S (.bl _)⟩
  · obtain ⟨h1, h2, t⟩ := t
    cases isN_of h1
    refine .inl ⟨r2.non_inv, ?_⟩
    rw [r1.isN h2]
    exact k _ _ _ _ _ t W.le_refl S (.bl _)

/-! ### and, or, not, if -/
def dAnd (t u : DT) : DT := fun e P => t e fun c e1 => if c = true then u e1 P else P false e1
def dOr (t u : DT) : DT := fun e P => t e fun c e1 => if c = true then P true e1 else u e1 P
def dNot (t : DT) : DT := fun e P => t e fun c e1 => P (!c) e1
def eAnd (ta tb : DE) : DE := fun e P => ta e fun x e1 => ∃ c, x = .bl c ∧ if c = true then tb e1 P else P (.bl false) e1
def eOr (ta tb : DE) : DE := fun e P => ta e fun x e1 => ∃ c, x = .bl c ∧ if c = true then P (.bl true) e1 else tb e1 P
def eNot (ta : DE) : DE := fun e P => ta e fun x e1 => ∃ c, x = .bl c ∧ P (.bl (!c)) e1
def eIf (t : DT) (ta tb : DE) : DE := fun e P => t e fun c e1 => if c = true then ta e1 P else tb e1 P
section
variable {X : Cx} {B : Bs} {a b c ex : Expr} {pos : Pos} {ta tb te : DE} {t u : DT} {rest : List Expr}
theorem dw_and1 (ha : PT X a (lT X.K B t)) : PW X (.BoolOp .And [a] pos) (lT X.K B t) := pw_and1 ha
theorem dw_or1 (ha : PT X a (lT X.K B t)) : PW X (.BoolOp .Or [a] pos) (lT X.K B t) := pw_or1 ha
theorem dw_and (ha : PT X a (lT X.K B t)) (hb : PW X (.BoolOp .And (b :: rest) pos) (lT X.K B u)) : PW X (.BoolOp .And (a :: b :: rest) pos) (lT X.K B (dAnd t u)) :=
  PW.imp (pw_and ha hb) fun σ H Q ⟨W, e, P, bl, S, t, k⟩ => ⟨W, e, _, bl, S, t, fun c e1 W1 H1 h1 l1 S1 => by
    cases c with
    | true => exact iteT ⟨W1, e1, _, (B.up bl l1), S1, h1, fun c2 e2 W2 H2 p l2 S2 => k c2 e2 W2 H2 p (l1.tr l2) S2⟩
    | false => exact iteF (k _ _ _ _ h1 l1 S1)⟩
theorem dw_or (ha : PT X a (lT X.K B t)) (hb : PW X (.BoolOp .Or (b :: rest) pos) (lT X.K B u)) : PW X (.BoolOp .Or (a :: b :: rest) pos) (lT X.K B (dOr t u)) :=
  PW.imp (pw_or ha hb) fun σ H Q ⟨W, e, P, bl, S, t, k⟩ => ⟨W, e, _, bl, S, t, fun c e1 W1 H1 h1 l1 S1 => by
    cases c with
    | true => exact iteT (k _ _ _ _ h1 l1 S1)
    | false => exact iteF ⟨W1, e1, _, (B.up bl l1), S1, h1, fun c2 e2 W2 H2 p l2 S2 => k c2 e2 W2 H2 p (l1.tr l2) S2⟩⟩
theorem dt_not (ha : PT X a (lT X.K B t)) : PT X (.UnaryOp .Not a pos) (lT X.K B (dNot t)) :=
  PT.imp (pt_not ha) fun σ H Q ⟨W, e, P, bl, S, t, k⟩ => ⟨W, e, _, bl, S, t, fun c e1 W1 H1 h1 l1 S1 => k _ _ _ _ h1 l1 S1⟩
theorem de_one {op} (h : PE X a (lE X.K B te)) : PE X (.BoolOp op [a] pos) (lE X.K B te) := pe_one h
theorem de_and (ha : PE X a (lE X.K B ta)) (hb : PE X (.BoolOp .And (b :: rest) pos) (lE X.K B tb)) : PE X (.BoolOp .And (a :: b :: rest) pos) (lE X.K B (eAnd ta tb)) :=
  PE.imp (pe_and ha hb) fun σ H Q ⟨W, e, P, bl, S, t, k⟩ => ⟨W, e, _, bl, S, t, fun x e1 W1 H1 v ⟨c, ex, h1⟩ l1 S1 r1 => ⟨c, by subst ex; exact r1.bl_inv, by
    cases c with
    | true => exact iteT ⟨W1, e1, _, (B.up bl l1), S1, h1, fun d e2 W2 H2 v2 p l2 S2 r2 => k d e2 W2 H2 v2 p (l1.tr l2) S2 r2⟩
    | false => exact iteF (k _ _ _ _ _ h1 l1 S1 (.bl _))⟩⟩
theorem de_or (ha : PE X a (lE X.K B ta)) (hb : PE X (.BoolOp .Or (b :: rest) pos) (lE X.K B tb)) : PE X (.BoolOp .Or (a :: b :: rest) pos) (lE X.K B (eOr ta tb)) :=
  PE.imp (pe_or ha hb) fun σ H Q ⟨W, e, P, bl, S, t, k⟩ => ⟨W, e, _, bl, S, t, fun x e1 W1 H1 v ⟨c, ex, h1⟩ l1 S1 r1 => ⟨c, by subst ex; exact r1.bl_inv, by
    cases c with
    | true => exact iteT (k _ _ _ _ _ h1 l1 S1 (.bl _))
    | false => exact iteF ⟨W1, e1, _, (B.up bl l1), S1, h1, fun d e2 W2 H2 v2 p l2 S2 r2 => k d e2 W2 H2 v2 p (l1.tr l2) S2 r2⟩⟩⟩
theorem de_not (ha : PE X a (lE X.K B ta)) : PE X (.UnaryOp .Not a pos) (lE X.K B (eNot ta)) :=
  PE.imp (pe_not ha) fun σ H Q ⟨W, e, P, bl, S, t, k⟩ => ⟨W, e, _, bl, S, t, fun x e1 W1 H1 v ⟨c, ex, h1⟩ l1 S1 r1 => ⟨c, by subst ex; exact r1.bl_inv, k _ _ _ _ _ h1 l1 S1 (.bl _)⟩⟩
theorem de_if (hc : PT X c (lT X.K B t)) (ha : PE X a (lE X.K B ta)) (hb : PE X b (lE X.K B tb)) : PE X (.IfExp c a b pos) (lE X.K B (eIf t ta tb)) :=
  PE.imp (pe_ifExp hc ha hb) fun σ H Q ⟨W, e, P, bl, S, t, k⟩ => ⟨W, e, _, bl, S, t, fun c e1 W1 H1 h1 l1 S1 => by
    cases c with
    | true => exact iteT ⟨W1, e1, _, (B.up bl l1), S1, h1, fun d e2 W2 H2 v2 p l2 S2 r2 => k d e2 W2 H2 v2 p (l1.tr l2) S2 r2⟩
    | false => exact iteF ⟨W1, e1, _, (B.up bl l1), S1, h1, fun d e2 W2 H2 v2 p l2 S2 r2 => k d e2 W2 H2 v2 p (l1.tr l2) S2 r2⟩⟩
/-- a value of any kind, by its truth -/
def tru (cs : List Cel) : D → Option Bool
  | .non => some false
  | .bl b => some b
  | .int i => some (i != 0)
  | .str s => if s.length ≤ sizeLine then some ((s.length : Int) != 0) else none
  | .tup xs => some (!xs.isEmpty)
  | d => (lk cs d).map fun xs => !xs.isEmpty
def eTru (t : DE) : DT := fun e P => t e fun d e1 => ∃ k, tru e1.cs d = some k ∧ P k e1
theorem RAll.isEmpty {K : PySem.W.Frag} {W : Wd} {vs : List V} {ds : List D} (r : RAll K W vs ds) : vs.isEmpty = ds.isEmpty := by cases r <;> rfl
theorem tru_ok {K : PySem.W.Frag} {W : Wd} {H : Hp} {cs : List Cel} (h : Ok K W H cs) {d : D} {v : V} {k : Bool} (r : R K W v d) (e : tru cs d = some k) : TruV K v H k := by
  have lst : ∀ {xs}, lk cs d = some xs → k = (!xs.isEmpty) → TruV K v H k := fun {xs} e1 e2 => by
    obtain ⟨a, vs, rfl, h1, h2⟩ := h.lk r e1
    exact .inl ⟨vs, h1, by rw [e2, h2.isEmpty]⟩
  unfold tru at e
  split at e
  · cases e; cases r; rfl
  · cases e; cases r; rfl
  · cases e; cases r; rfl
  · cases r
    split at e
    · cases e; exact ⟨by assumption, rfl⟩
    · cases e
  · cases e
    cases r with
    | tup h1 h2 => exact .inr (.inl ⟨_, Evl.ex_t h.ex h1, by rw [h2.isEmpty]⟩)
  · obtain ⟨xs, e1, e2⟩ := Option.map_eq_some_iff.mp e
    exact lst e1 e2.symm
theorem dt_tru (ha : PE X a (lE X.K B ta)) (he : ∀ whole, isTrue a X.env whole = (do let v ← whole; standAt a.pos; holding [v] (truthy v)) := by intro _; rfl) : PT X a (lT X.K B (eTru ta)) :=
  PT.imp (pt_truth ha he) fun σ H Q ⟨W, e, P, bl, S, t, k⟩ => ⟨W, e, _, bl, S, t, fun d e1 W1 H1 v ⟨kk, et, p⟩ l1 S1 r1 => ⟨kk, tru_ok S1.ok r1 et, k _ _ _ _ p l1 S1⟩⟩

/-! ### arguments, displays -/
def aNil : DA := fun e P => P [] e
def aCons (te : DE) (tr : DA) : DA := fun e P => te e fun d e1 => tr e1 fun ds e2 => P (d :: ds) e2
variable {es : List Expr} {tr : DA}
theorem da_nil : PA X [] (lA X.K B aNil) := PA.imp pa_nil fun σ H Q ⟨W, e, P, bl, S, t, k⟩ => k [] e W H [] t W.le_refl S .nil
theorem da_cons (ha : PE X ex (lE X.K B te)) (hr : PA X es (lA X.K B tr)) (hs : starEach (ex :: es) X.env = (false, eval ex X.env) :: starEach es X.env := by rfl) : PA X (ex :: es) (lA X.K B (aCons te tr)) :=
  PA.imp (pa_cons ha hr hs) fun σ H Q ⟨W, e, P, bl, S, t, k⟩ => ⟨W, e, _, bl, S, t, fun d e1 W1 H1 v t1 l1 S1 r1 => ⟨W1, e1, _, (B.up bl l1), S1, t1, fun ds e2 W2 H2 vs p l2 S2 r2 => k _ _ _ _ _ p (l1.tr l2) S2 (.cons (R.mono l2 _ _ r1) r2)⟩⟩
def eTup (ta : DA) : DE := fun e P => ta e fun ds e1 => ds.length ≤ sizeLine ∧ P (.tup ds) e1
def eLst (o : Bool) (ta : DA) : DE := fun e P => ta e fun ds e1 => ds.length ≤ sizeLine ∧ newL o ds e1 P
theorem de_tup {x1} (h : PA X es (lA X.K B tr)) : PE X (.Tuple es x1 pos) (lE X.K B (eTup tr)) :=
  PE.imp (pe_tup h) fun σ H Q ⟨W, e, P, bl, S, t, k⟩ => ⟨W, e, _, bl, S, t, fun ds e1 W1 H1 vs ⟨hz, p⟩ l1 S1 r1 => ⟨by rw [r1.length]; exact hz, newT_ok S1 r1 p fun d e2 W2 H2 v p l2 S2 r2 => k d e2 W2 H2 v p (l1.tr l2) S2 r2⟩⟩
theorem de_lst {o : Bool} (h : PA X es (lA X.K B tr)) : PE X (.List es pos) (lE X.K B (eLst o tr)) :=
  PE.imp (pe_lst h) fun σ H Q ⟨W, e, P, bl, S, t, k⟩ => ⟨W, e, _, bl, S, t, fun ds e1 W1 H1 vs ⟨hz, p⟩ l1 S1 r1 => ⟨by rw [r1.length]; exact hz, newL_ok S1 r1 p fun d e2 W2 H2 v p l2 S2 r2 => k d e2 W2 H2 v p (l1.tr l2) S2 r2⟩⟩
end

/-! ### items and slices -/
def qIx : D → D → DE
  | .tup xs, .int i => fun e P => ∃ d, atI xs i = some d ∧ P d e
  | .str z, .int i => fun e P => z.length ≤ sizeLine ∧ ∃ c, atI z.cps.toList i = some c ∧ P (.str ⟨#[c]⟩) e
  | x, .int i => fun e P => ∃ xs, lk e.cs x = some xs ∧ ∃ d, atI xs i = some d ∧ P d e
  | _, _ => fun _ _ => False
theorem RAll.atI {K : PySem.W.Frag} {W : Wd} {vs : List V} {ds : List D} {i : Int} {d : D} (r : RAll K W vs ds) (h : L2.atI ds i = some d) : ∃ v, L2.atI vs i = some v ∧ R K W v d := by
  unfold L2.atI at h ⊢
  rw [r.length]
  cases e : ixN ds.length i with
  | none => rw [e] at h; cases h
  | some j =>
    rw [e] at h
    exact r.get h
theorem od_ix {K : PySem.W.Frag} : OpD K (rIx K) qIx := by
  intro W H σ e x y d1 d2 P Q S r1 r2 t k
  unfold qIx at t
  split at t
  · obtain ⟨d, h, p⟩ := t
    cases r1 with
    | tup h1 q1 =>
      obtain ⟨v, hv, rv⟩ := q1.atI h
      exact .inr (.inl ⟨_, _, _, v, rfl, r2.int_inv, Evl.ex_t S.ok.ex h1, hv, k _ _ _ _ _ p W.le_refl S rv⟩)
  · obtain ⟨hz, c, h, p⟩ := t
    exact .inr (.inr ⟨_, _, c, r1.str_inv, r2.int_inv, hz, h, k _ _ _ _ _ p W.le_refl S (.str _)⟩)
  · obtain ⟨xs, e1, d, h, p⟩ := t
    obtain ⟨a, vs, rfl, h1, q1⟩ := S.ok.lk r1 e1
    obtain ⟨v, hv, rv⟩ := q1.atI h
    exact .inl ⟨_, _, _, v, rfl, r2.int_inv, h1, hv, k _ _ _ _ _ p W.le_refl S rv⟩
  · exact t.elim
section
variable {X : Cx} {B : Bs} {a b ex : Expr} {pos : Pos} {ta tb te : DE}
theorem de_ix (ha : PE X a (lE X.K B ta)) (hb : PE X b (lE X.K B tb)) (hs : PlainIx b) : PE X (.Subscript a b pos) (lE X.K B (eBin qIx ta tb)) := PE.imp (pe_ix ix_seq ha hb hs) (bin_ok od_ix)
abbrev DO := En → (Option Int → En → Prop) → Prop
def lO (K : PySem.W.Frag) (B : Bs) (t : DO) : TO := fun σ H Q => ∃ W e P, B.p W ∧ Sd K W H σ e ∧ t e P ∧ ∀ o e' W' H', P o e' → W.le W' → Sd K W' H' σ e' → Q o H'
theorem PO.imp {e : Option Expr} {t t' : TO} (h : PO X e t) (i : ∀ σ H Q, t' σ H Q → t σ H Q) : PO X e t' := ⟨fun pins s σ H Q I w => h.run pins s σ H Q I (i σ H Q w)⟩
def oNone : DO := fun e P => P none e
def oSome (t : DE) : DO := fun e P => t e fun d e1 => ∃ i, d = .int i ∧ P (some i) e1
theorem do_none : PO X none (lO X.K B oNone) := PO.imp po_none fun σ H Q ⟨W, e, P, bl, S, t, k⟩ => k none e W H t W.le_refl S
theorem do_some (h : PE X ex (lE X.K B te)) : PO X (some ex) (lO X.K B (oSome te)) := PO.imp (po_some h) fun σ H Q ⟨W, e, P, bl, S, t, k⟩ =>
  ⟨W, e, _, bl, S, t, fun d e1 W1 H1 v ⟨i, ed, p⟩ l1 S1 r1 => ⟨i, by subst ed; exact r1.int_inv, k _ _ _ _ p l1 S1⟩⟩
def cutD (xs : List D) (loD hi : Option Int) : List D := (xs.drop (HT.sIx xs.length 0 loD)).take (HT.sIx xs.length xs.length hi - HT.sIx xs.length 0 loD)
theorem RAll.cut {K : PySem.W.Frag} {W : Wd} {vs : List V} {ds : List D} {loD hi : Option Int} (r : RAll K W vs ds) : RAll K W (cutV vs loD hi) (cutD ds loD hi) := by
  unfold cutV cutD
  rw [r.length]
  exact (r.drop _).take _
def qSl (o : Bool) : D → Option Int → Option Int → DE
  | .tup xs, loD, hi => fun e P => ¬ (HT.sIx xs.length 0 loD = 0 ∧ HT.sIx xs.length xs.length hi = xs.length) ∧ P (.tup (cutD xs loD hi)) e
  | .str z, loD, hi => fun e P => z.length ≤ sizeLine ∧ P (.str (cutS z loD hi)) e
  | x, loD, hi => fun e P => ∃ xs, lk e.cs x = some xs ∧ newL o (cutD xs loD hi) e P
def rSlA (K : PySem.W.Frag) : V → Option Int → Option Int → Hp → VK → Prop := fun x loD hi H Q => (rSlL K x loD hi H Q ∨ rSlT K x loD hi H Q) ∨ rSlS x loD hi H Q
theorem sl_A : SlR X (rSlA X.K) := (sl_list.or sl_tup).or sl_str
theorem qSl_ok {K : PySem.W.Frag} {W : Wd} {H : Hp} {σ : L2.St} {e : En} {o : Bool} {d : D} {v : V} {loD hi : Option Int} {P : D → En → Prop} {Q : VK} (S : Sd K W H σ e) (r : R K W v d) (t : qSl o d loD hi e P)
    (k : ∀ d e' W' H' v, P d e' → W.le W' → Sd K W' H' σ e' → R K W' v d → Q v H') : rSlA K v loD hi H Q := by
  unfold qSl at t
  split at t
  · cases r with
    | tup h1 q1 => exact .inl (.inr ⟨_, _, rfl, Evl.ex_t S.ok.ex h1, by rw [q1.length]; exact t.1, newT_ok S q1.cut t.2 k⟩)
  · cases r
    exact .inr ⟨_, rfl, t.1, k _ _ _ _ _ t.2 W.le_refl S (.str _)⟩
  · obtain ⟨xs, e1, t⟩ := t
    obtain ⟨a, vs, rfl, h1, q1⟩ := S.ok.lk r e1
    exact .inl (.inl ⟨_, _, rfl, h1, newL_ok S q1.cut t k⟩)
def eSl (o : Bool) (te : DE) (tl th : DO) : DE := fun e P => te e fun x e1 => tl e1 fun l e2 => th e2 fun h e3 => qSl o x l h e3 P
theorem de_slice {o : Bool} {loD hi : Option Expr} {tl th : DO} {p2} (he : PE X ex (lE X.K B te)) (hl : PO X loD (lO X.K B tl)) (hu : PO X hi (lO X.K B th)) : PE X (.Subscript ex (.Slice loD hi none p2) pos) (lE X.K B (eSl o te tl th)) :=
  PE.imp (pe_slice sl_A he hl hu) fun σ H Q ⟨W, e, P, bl, S, t, k⟩ => ⟨W, e, _, bl, S, t, fun x e1 W1 H1 v t1 l1 S1 r1 => ⟨W1, e1, _, (B.up bl l1), S1, t1, fun l e2 W2 H2 t2 l2 S2 => ⟨W2, e2, _, (B.up bl (l1.tr l2)), S2, t2, fun h e3 W3 H3 t3 l3 S3 =>
    qSl_ok S3 (R.mono (l2.tr l3) _ _ r1) t3 fun d e4 W4 H4 v4 p l4 S4 r4 => k d e4 W4 H4 v4 p (((l1.tr l2).tr l3).tr l4) S4 r4⟩⟩⟩
/-- xs[::-1] -/
def eRev (o : Bool) (te : DE) : DE := fun e P => te e fun x e1 => ∃ xs, lk e1.cs x = some xs ∧ newL o xs.reverse e1 P
theorem de_rev {o : Bool} {k : Nat} {p1 p2 p3 : Pos} (he : PE X ex (lE X.K B te)) : PE X (.Subscript ex (.Slice none none (some (.UnaryOp .USub (.Constant (.int 1) k p1) p2)) p3) pos) (lE X.K B (eRev o te)) :=
  PE.imp (pe_revL he) fun σ H Q ⟨W, e, P, bl, S, t, k⟩ => ⟨W, e, _, bl, S, t, fun x e1 W1 H1 v ⟨xs, e2, t1⟩ l1 S1 r1 => by
    obtain ⟨a, vs, rfl, h1, q1⟩ := S1.ok.lk r1 e2
    exact ⟨a, vs, rfl, h1, newL_ok S1 q1.reverse t1 fun d e4 W4 H4 v4 p l4 S4 r4 => k d e4 W4 H4 v4 p (l1.tr l4) S4 r4⟩⟩
end
end DL
namespace DL
open PySem PySem.Spec PyProof.Rows L2
open Evl (Ex)

/-! ### statements -/
/-- the wanted ends, by data and by values -/
structure Cv (K : PySem.W.Frag) (W : Wd) (P : Po) (E : Ends) : Prop where
  nx : ∀ e' W' H' σ', P.nx e' → W.le W' → Sd K W' H' σ' e' → E.nx σ' H'
  rt : ∀ d cs W' H' v, P.rt d cs → W.le W' → Ok K W' H' cs → R K W' v d → E.rt v H'
  bk : ∀ e' W' H' σ', P.bk e' → W.le W' → Sd K W' H' σ' e' → E.bk σ' H'
  ct : ∀ e' W' H' σ', P.ct e' → W.le W' → Sd K W' H' σ' e' → E.ct σ' H'
theorem Cv.up {K : PySem.W.Frag} {W W1 : Wd} {P : Po} {E : Ends} (c : Cv K W P E) (l : W.le W1) : Cv K W1 P E :=
  ⟨fun e' W' H' σ' p l' S => c.nx e' W' H' σ' p (l.tr l') S, fun d cs W' H' v p l' S r => c.rt d cs W' H' v p (l.tr l') S r, fun e' W' H' σ' p l' S => c.bk e' W' H' σ' p (l.tr l') S, fun e' W' H' σ' p l' S => c.ct e' W' H' σ' p (l.tr l') S⟩
theorem lS_mk {K : PySem.W.Frag} {B : Bs} {W : Wd} {t : DS} {E : Ends} {σ : L2.St} {H : Hp} {e : En} {P : Po} (bl : B.p W) (S : Sd K W H σ e) (h : t P e) (c : Cv K W P E) : lS K B t E σ H := ⟨W, e, P, bl, S, h, c.nx, c.rt, c.bk, c.ct⟩
theorem lS_un {K : PySem.W.Frag} {B : Bs} {t : DS} {E : Ends} {σ : L2.St} {H : Hp} (h : lS K B t E σ H) : ∃ W e P, B.p W ∧ Sd K W H σ e ∧ t P e ∧ Cv K W P E := by
  obtain ⟨W, e, P, bl, S, h, c1, c2, c3, c4⟩ := h
  exact ⟨W, e, P, bl, S, h, c1, c2, c3, c4⟩

/-- behind it u -/
def Po.thn (P : Po) (u : DS) : Po := { P with nx := u P }
/-- a loop's turn: from it N, a break to what follows -/
def Po.lp (P : Po) (N : En → Prop) : Po := { P with nx := N, ct := N, bk := P.nx }
def sNext : DS := fun P e => P.nx e
def sSeq (t u : DS) : DS := fun P e => t (P.thn u) e
def sDrop (t : DE) : DS := fun P e => t e fun _ e1 => P.nx e1
def sRet (t : DE) : DS := fun P e => t e fun d e1 => P.rt d e1.cs
def sRetN : DS := fun P e => P.rt .non e.cs
def sIf (c : DT) (t u : DS) : DS := fun P e => c e fun b e1 => if b = true then t P e1 else u P e1
def sBreak : DS := fun P e => P.bk e
def sCont : DS := fun P e => P.ct e
def sNever : DS := fun _ _ => False
def sAsg (t : DE) (i : Nat) : DS := fun P e => t e fun d e1 => P.nx { e1 with sl := e1.sl.set i (some d) }
/-- o[i] = v, o a list that changes -/
def sSub (tv to ti : DE) : DS := fun P e => tv e fun v e1 => to e1 fun o e2 => ti e2 fun i e3 => ∃ n xs k j, o = .cell n ∧ e3.cs[n]? = some (.lst xs) ∧ i = .int k ∧ ixN xs.length k = some j ∧ P.nx { e3 with cs := e3.cs.set n (.lst (xs.set j v)) }
def sAug (i : Nat) (t : DE) : DS := fun P e => ∃ a, e.sl[i]? = some (some (.int a)) ∧ t e fun d e1 => ∃ b, d = .int b ∧ P.nx { e1 with sl := e1.sl.set i (some (.int (a + b))) }
def sAugSub (i : Nat) (t : DE) : DS := fun P e => ∃ a, e.sl[i]? = some (some (.int a)) ∧ t e fun d e1 => ∃ b, d = .int b ∧ P.nx { e1 with sl := e1.sl.set i (some (.int (a - b))) }
section
variable {X : Cx} {B : Bs} {st : Stmt} {rest : List Stmt} {t u : DS} {ex a : Expr} {te ta tb tc : DE} {dt : DT} {pos : Pos} {K : PySem.W.Frag}
theorem dss_nil : PSs X [] (lS X.K B sNext) := PSs.imp pss_nil fun E σ H h => by
  obtain ⟨W, e, P, bl, S, h, c⟩ := lS_un h
  exact c.nx e W H σ h W.le_refl S
theorem dss_cons (h1 : PS X st (lS X.K B t)) (h2 : PSs X rest (lS X.K B u)) : PSs X (st :: rest) (lS X.K B (sSeq t u)) := PSs.imp (pss_cons h1 h2) fun E σ H h => by
  obtain ⟨W, e, P, bl, S, h, c⟩ := lS_un h
  exact lS_mk bl S h ⟨fun e' W' H' σ' p l S' => lS_mk ((B.up bl l)) S' p (c.up l), c.rt, c.bk, c.ct⟩
theorem dss_one (h1 : PS X st (lS X.K B t)) : PSs X [st] (lS X.K B t) := pss_one h1
theorem ds_pass : PS X (.Pass pos) (lS X.K B sNext) := PS.imp ps_pass fun E σ H h => by
  obtain ⟨W, e, P, bl, S, h, c⟩ := lS_un h
  exact c.nx e W H σ h W.le_refl S
theorem ds_break : PS X (.Break pos) (lS X.K B sBreak) := PS.imp ps_break fun E σ H h => by
  obtain ⟨W, e, P, bl, S, h, c⟩ := lS_un h
  exact c.bk e W H σ h W.le_refl S
theorem ds_continue : PS X (.Continue pos) (lS X.K B sCont) := PS.imp ps_continue fun E σ H h => by
  obtain ⟨W, e, P, bl, S, h, c⟩ := lS_un h
  exact c.ct e W H σ h W.le_refl S
theorem ds_never : PS X st (lS X.K B sNever) := PS.imp ps_never fun E σ H h => by
  obtain ⟨W, e, P, bl, S, h, c⟩ := lS_un h
  exact h
theorem dss_never : PSs X rest (lS X.K B sNever) := PSs.imp pss_never fun E σ H h => by
  obtain ⟨W, e, P, bl, S, h, c⟩ := lS_un h
  exact h
theorem ds_expr (he : PE X ex (lE X.K B te)) (hs : swapsWith ex none pos.line X.env = pure false := by rfl) : PS X (.Expr ex pos) (lS X.K B (sDrop te)) := PS.imp (ps_expr he hs) fun E σ H h => by
  obtain ⟨W, e, P, bl, S, h, c⟩ := lS_un h
  exact ⟨W, e, _, bl, S, h, fun d e1 W1 H1 v p l S1 r => c.nx _ _ _ _ p l S1⟩
theorem ds_ret (he : PE X ex (lE X.K B te)) : PS X (.Return (some ex) pos) (lS X.K B (sRet te)) := PS.imp (ps_ret he) fun E σ H h => by
  obtain ⟨W, e, P, bl, S, h, c⟩ := lS_un h
  exact ⟨W, e, _, bl, S, h, fun d e1 W1 H1 v p l S1 r => c.rt _ _ _ _ _ p l S1.ok r⟩
theorem ds_retN : PS X (.Return none pos) (lS X.K B sRetN) := PS.imp ps_retN fun E σ H h => by
  obtain ⟨W, e, P, bl, S, h, c⟩ := lS_un h
  exact c.rt _ _ _ _ _ h W.le_refl S.ok .non
theorem ds_if {c : Expr} {ss us : List Stmt} (hc : PT X c (lT X.K B dt)) (ha : PSs X ss (lS X.K B t)) (hb : PSs X us (lS X.K B u)) : PS X (.If c ss us pos) (lS X.K B (sIf dt t u)) := PS.imp (ps_if hc ha hb) fun E σ H h => by
  obtain ⟨W, e, P, bl, S, h, c⟩ := lS_un h
  refine ⟨W, e, _, bl, S, h, fun b e1 W1 H1 p l S1 => ?_⟩
  cases b with
  | true => exact iteT (lS_mk ((B.up bl l)) S1 p (c.up l))
  | false => exact iteF (lS_mk ((B.up bl l)) S1 p (c.up l))
theorem asg_ok {i : Nat} : ∀ E σ H, lS X.K B (sAsg te i) E σ H → tAsg (lE X.K B te) (gName i) E σ H := fun E σ H h => by
  obtain ⟨W, e, P, bl, S, h, c⟩ := lS_un h
  exact ⟨W, e, _, bl, S, h, fun d e1 W1 H1 v p l S1 r => c.nx _ _ _ _ p l ⟨S1.ok, S1.sl.set r⟩⟩
theorem ds_set {i : Nat} {x : Str} {pos' : Pos} (hN : X.N.Nodup) (hi : X.N[i]? = some x) (hx : Loc X.env.scope x) (he : PE X ex (lE X.K B te)) (hs : swapsWith ex (some (.Name x pos')) pos.line X.env = pure false := by rfl)
    (hf : X.fn x = true ∨ X.env.scope.names.lookup x = some .local := by first | exact .inl rfl | exact .inr rfl | assumption) : PS X (.Assign [.Name x pos'] ex pos) (lS X.K B (sAsg te i)) := PS.imp (ps_set hN hi hx he hs hf) asg_ok
theorem ds_aug {i : Nat} {x : Str} {pos' : Pos} (hN : X.N.Nodup) (hi : X.N[i]? = some x) (hx : Loc X.env.scope x) (he : PE X ex (lE X.K B te))
    (hf : X.fn x = true ∨ X.env.scope.names.lookup x = some .local := by first | exact .inl rfl | exact .inr rfl | assumption) : PS X (.AugAssign (.Name x pos') .Add ex pos) (lS X.K B (sAug i te)) := PS.imp (ps_aug hN hi hx he ip_add hf) fun E σ H h => by
  obtain ⟨W, e, P, bl, S, ⟨a, ha, h⟩, c⟩ := lS_un h
  obtain ⟨v, hv, r⟩ := S.sl.2 i _ ha
  exact ⟨v, hv, W, e, _, bl, S, h, fun d e1 W1 H1 v ⟨b, ed, p⟩ l S1 r1 => ⟨a, b, r.int_inv, by subst ed; exact r1.int_inv, c.nx _ _ _ _ p l ⟨S1.ok, S1.sl.set (.int _)⟩⟩⟩
theorem ds_sub {o i : Expr} {p2 : Pos} (hv : PE X ex (lE X.K B te)) (ho : PE X o (lE X.K B ta)) (hi : PE X i (lE X.K B tb))
    (ha : ∀ v, assign (.Subscript o i p2) X.env v = (do
      let ov ← holding [v] (eval o X.env)
      let iv ← holding [v, ov] (eval i X.env)
      standAt p2
      holding [v, ov, iv] (setItem ov iv v)
      release [v, ov, iv] []) := by intro _; rfl)
    (hs : swapsWithSole [.Subscript o i p2] ex pos.line X.env = pure false := by rfl) (hw : swappedStores [.Subscript o i p2] ex X.env = pure none := by rfl)
    (h1 : (assignEach [.Subscript o i p2] X.env).map (·.2) = [assign (.Subscript o i p2) X.env] := by rfl) : PS X (.Assign [.Subscript o i p2] ex pos) (lS X.K B (sSub te ta tb)) := PS.imp (ps_asg hv (pg_sub ho hi set_list ha) hs hw h1) fun E σ H h => by
  obtain ⟨W, e, P, bl, S, h, c⟩ := lS_un h
  refine ⟨W, e, _, bl, S, h, fun d e1 W1 H1 v t1 l1 S1 r1 => ⟨W1, e1, _, (B.up bl l1), S1, t1, fun o e2 W2 H2 w t2 l2 S2 r2 => ⟨W2, e2, _, (B.up bl (l1.tr l2)), S2, t2, fun i e3 W3 H3 x t3 l3 S3 r3 => ?_⟩⟩⟩
  obtain ⟨n, xs, k, j, rfl, hc, rfl, hk, p⟩ := t3
  cases r2 with
  | cell hm =>
    have hm3 := Wd.le_get l3 hm
    obtain ⟨vs, h1, h2⟩ := S3.ok.cellL hm3 hc
    refine ⟨_, vs, k, j, rfl, r3.int_inv, h1, by rw [h2.length]; exact hk, ?_⟩
    exact c.nx _ _ _ _ p ((l1.tr l2).tr l3) ⟨S3.ok.setC hm3 hc (fun z => nomatch z) ⟨_, upd_same, h2.set (R.mono (l2.tr l3) _ _ r1) j⟩, S3.sl⟩
end

/-! ### targets by slots -/
inductive Tg where
  | one (i : Nat)
  | tup (is : List Nat)
def setAll : List Nat → List D → List (Option D) → List (Option D)
  | i :: is, d :: ds, sl => setAll is ds (sl.set i (some d))
  | _, _, sl => sl
def setTg : Tg → D → List (Option D) → Option (List (Option D))
  | .one i, d, sl => some (sl.set i (some d))
  | .tup is, .tup xs, sl => if xs.length = is.length then some (setAll is xs sl) else none
  | _, _, _ => none
def gVs : List Nat → TGs
  | [] => gNil
  | i :: is => gCons (gName i) (gVs is)
def gV (K : PySem.W.Frag) : Tg → TG
  | .one i => gName i
  | .tup is => gTup K is.length (gVs is)
def Tg.on : Tg → List Nat
  | .one i => [i]
  | .tup is => is
section
variable {K : PySem.W.Frag} {W : Wd} {H : Hp} {σ : L2.St} {e : En}
def wipeD (sl : List (Option D)) : List Nat → List (Option D)
  | [] => sl
  | i :: is => (wipeD sl is).set i none
theorem SlO.wipe {σ : L2.St} {sl : List (Option D)} (h : SlO K W σ sl) : ∀ (vs : List Nat), SlO K W (L2.wipe σ vs) (wipeD sl vs)
  | [] => h
  | i :: is => by
    have h' := SlO.wipe h is
    refine ⟨by show ((L2.wipe σ is).set i none).length = ((wipeD sl is).set i none).length; simp [h'.1], fun j d e => ?_⟩
    have e : ((wipeD sl is).set i none)[j]? = some (some d) := e
    rw [List.getElem?_set] at e
    by_cases hij : i = j
    · subst hij
      rw [if_pos rfl] at e
      split at e <;> cases e
    · rw [if_neg hij] at e
      obtain ⟨v, a, b⟩ := h'.2 j d e
      exact ⟨v, by show ((L2.wipe σ is).set i none)[j]? = _; rw [List.getElem?_set_ne hij]; exact a, b⟩
theorem wipe_in {σ : L2.St} {k : Nat} : ∀ {vs : List Nat}, k ∈ vs → (wipe σ vs)[k]? = if k < σ.length then some none else none
  | [], h => by cases h
  | v :: vs, h => by
    show ((wipe σ vs).set v none)[k]? = _
    rw [List.getElem?_set]
    by_cases hv : v = k
    · subst hv
      rw [if_pos rfl, wipe_length]
    · rw [if_neg hv]
      exact wipe_in ((List.mem_cons.mp h).resolve_left fun e => hv e.symm)
theorem wipe_set {vs : List Nat} {σ : L2.St} {i : Nat} {x : Option V} (h : i ∈ vs) : wipe (σ.set i x) vs = wipe σ vs := by
  apply List.ext_getElem?
  intro k
  by_cases hk : k ∈ vs
  · rw [wipe_in hk, wipe_in hk, List.length_set]
  · rw [wipe_out hk, wipe_out hk, List.getElem?_set_ne (fun (e : i = k) => hk (e ▸ h))]
theorem wipe_wipe {vs : List Nat} {σ : L2.St} : wipe (wipe σ vs) vs = wipe σ vs := by
  apply List.ext_getElem?
  intro k
  by_cases hk : k ∈ vs
  · rw [wipe_in hk, wipe_in hk, wipe_length]
  · rw [wipe_out hk]
theorem gVs_ok {vs : List Nat} {Q : L2.St → Hp → Prop} : ∀ (is : List Nat) (xs : List V) (ds : List D) (σ : L2.St) (sl : List (Option D)), RAll K W xs ds → ds.length = is.length → SlO K W σ sl →
    (∀ σ', SlO K W σ' (setAll is ds sl) → ((∀ i ∈ is, i ∈ vs) → wipe σ' vs = wipe σ vs) → Q σ' H) → gVs is xs σ H Q
  | [], _, _, σ, sl, r, hl, S, k => by
    cases r with
    | nil => exact ⟨rfl, k σ S fun _ => rfl⟩
    | cons _ _ => cases hl
  | i :: is, _, _, σ, sl, r, hl, S, k => by
    cases r with
    | nil => cases hl
    | cons r1 r2 =>
      refine ⟨_, _, rfl, ?_⟩
      refine gVs_ok (vs := vs) is _ _ _ _ r2 (Nat.succ.inj hl) (S.set r1) fun σ' S' w => k σ' S' fun h => ?_
      rw [w fun j hj => h j (List.mem_cons_of_mem _ hj)]
      exact wipe_set (h i List.mem_cons_self)
theorem gV_ok {vs : List Nat} {tg : Tg} {v : V} {d : D} {sl' : List (Option D)} {Q : L2.St → Hp → Prop} (S : Sd K W H σ e) (r : R K W v d) (h : setTg tg d e.sl = some sl')
    (k : ∀ σ', Sd K W H σ' ⟨sl', e.cs⟩ → ((∀ i ∈ tg.on, i ∈ vs) → wipe σ' vs = wipe σ vs) → Q σ' H) : gV K tg v σ H Q := by
  cases tg with
  | one i =>
    have h' : some (e.sl.set i (some d)) = some sl' := h
    cases h'
    exact k _ ⟨S.ok, S.sl.set r⟩ fun hh => wipe_set (hh i (List.mem_singleton.mpr rfl))
  | tup is =>
    cases d with
    | tup xs =>
      have h' : (if xs.length = is.length then some (setAll is xs e.sl) else none) = some sl' := h
      split at h'
      · rename_i hl
        cases h'
        cases r with
        | tup h1 h2 =>
          refine ⟨_, _, rfl, Evl.ex_t S.ok.ex h1, by rw [h2.length]; exact hl, gVs_ok (vs := vs) is _ _ _ _ h2 hl S.sl fun σ' S' w => k σ' ⟨S.ok, S'⟩ w⟩
      · cases h'
    | _ => cases h
end
def sAsgT (t : DE) (tg : Tg) : DS := fun P e => t e fun d e1 => ∃ sl', setTg tg d e1.sl = some sl' ∧ P.nx ⟨sl', e1.cs⟩
theorem ds_asgT {X : Cx} {B : Bs} {tgE ex : Expr} {te : DE} {tg : Tg} {pos : Pos} (he : PE X ex (lE X.K B te)) (hg : PG X tgE (gV X.K tg)) (hs : swapsWithSole [tgE] ex pos.line X.env = pure false := by rfl) (hw : swappedStores [tgE] ex X.env = pure none := by rfl)
    (h1 : (assignEach [tgE] X.env).map (·.2) = [assign tgE X.env] := by rfl) : PS X (.Assign [tgE] ex pos) (lS X.K B (sAsgT te tg)) := PS.imp (ps_asg he hg hs hw h1) fun E σ H h => by
  obtain ⟨W, e, P, bl, S, h, c⟩ := lS_un h
  exact ⟨W, e, _, bl, S, h, fun d e1 W1 H1 v ⟨sl', hsl, p⟩ l S1 r => gV_ok (vs := []) S1 r hsl fun σ' S' _ => c.nx _ _ _ _ p l S'⟩

/-! ### what is walked -/
/-- .. whatever is hidden -/
def Wd.sub (W W' : Wd) : Prop := Ex W.F W'.F ∧ ∃ more, W'.m = W.m ++ more
theorem Wd.le.sub {W W' : Wd} (l : W.le W') : W.sub W' := ⟨l.1, l.2.1⟩
theorem Wd.sub.tr {W W1 W2 : Wd} (a : W.sub W1) (b : W1.sub W2) : W.sub W2 := by
  obtain ⟨e1, m1, h1⟩ := a
  obtain ⟨e2, m2, h2⟩ := b
  exact ⟨e1.trans e2, m1 ++ m2, by rw [h2, h1, List.append_assoc]⟩
/-- what is walked, and what holds while it is walked -/
abbrev DI := En → (List D → (List Cel → Prop) → En → Prop) → Prop
/-- J walks the items ds, as long as G -/
structure Wk (K : PySem.W.Frag) (W0 : Wd) (J : It) (G : List Cel → Prop) (ds : List D) : Prop where
  go : ∀ i W H σ e, W0.sub W → Sd K W H σ e → G e.cs → i < ds.length → J.go i H
  yld : ∀ i W H σ e x H' d, W0.sub W → Sd K W H σ e → G e.cs → ds[i]? = some d → J.yld i H x H' → ∃ W', W.le W' ∧ Sd K W' H' σ e ∧ R K W' x d
  stop : ∀ i W H σ e, W0.sub W → Sd K W H σ e → G e.cs → ds.length ≤ i → J.stop i H
/-- whatever the cells hold -/
def anyC : List Cel → Prop := fun _ => True
def lI (K : PySem.W.Frag) (B : Bs) (t : DI) : TI := fun σ H Q => ∃ W e P, B.p W ∧ Sd K W H σ e ∧ t e P ∧
  ∀ ds G e' W' H' J, P ds G e' → W.le W' → Sd K W' H' σ e' → Wk K W' J G ds → Q J H'
section
variable {X : Cx} {B : Bs} {tg ex a b : Expr} {te : DE} {ta : DA} {pos p : Pos} {K : PySem.W.Frag}
theorem PI.imp {t t' : TI} (h : PI X tg ex t) (i : ∀ σ H Q, t' σ H Q → t σ H Q) : PI X tg ex t' := ⟨fun pins s σ H Q I w => h.run pins s σ H Q I (i σ H Q w)⟩
theorem wk_list {W : Wd} {a : Addr} {vs : List V} {ds : List D} (h : SqL K W.F a vs) (r : RAll K W vs ds) : Wk K W (Itl K a) anyC ds where
  go := fun i W' H σ e l S _ hi => by
    have hi' : i < vs.length := by rw [r.length]; exact hi
    exact ⟨vs, vs[i], Evl.ex_l (l.1.trans S.ok.ex) h, by simp [hi']⟩
  yld := fun i W' H σ e x H' d l S _ hd y => by
    obtain ⟨rfl, y⟩ := y
    obtain ⟨v, hv, rv⟩ := r.get hd
    have e1 := y vs (Evl.ex_l (l.1.trans S.ok.ex) h)
    rw [hv] at e1
    cases e1
    exact ⟨W', W'.le_refl, S, R.mono' l _ _ rv⟩
  stop := fun i W' H σ e l S _ hi => ⟨vs, Evl.ex_l (l.1.trans S.ok.ex) h, by rw [r.length]; exact hi⟩
theorem wk_tup {W : Wd} {a : Addr} {vs : List V} {ds : List D} (h : SqT K W.F a vs) (r : RAll K W vs ds) : Wk K W (Itt K a) anyC ds where
  go := fun i W' H σ e l S _ hi => by
    have hi' : i < vs.length := by rw [r.length]; exact hi
    exact ⟨vs, vs[i], Evl.ex_t (l.1.trans S.ok.ex) h, by simp [hi']⟩
  yld := fun i W' H σ e x H' d l S _ hd y => by
    obtain ⟨rfl, y⟩ := y
    obtain ⟨v, hv, rv⟩ := r.get hd
    have e1 := y vs (Evl.ex_t (l.1.trans S.ok.ex) h)
    rw [hv] at e1
    cases e1
    exact ⟨W', W'.le_refl, S, R.mono' l _ _ rv⟩
  stop := fun i W' H σ e l S _ hi => ⟨vs, Evl.ex_t (l.1.trans S.ok.ex) h, by rw [r.length]; exact hi⟩
theorem wk_cell {W : Wd} {n : Nat} {a : Addr} {ds : List D} (hm : W.m[n]? = some a) : Wk K W (Itl K a) (fun cs => cs[n]? = some (.lst ds)) ds where
  go := fun i W' H σ e l S g hi => by
    have hm' : W'.m[n]? = some a := by
      obtain ⟨more, e2⟩ := l.2
      have := (List.getElem?_eq_some_iff.mp hm).1
      rw [e2, List.getElem?_append_left this]
      exact hm
    obtain ⟨vs, h1, h2⟩ := S.ok.cellL hm' g
    have hi' : i < vs.length := by rw [h2.length]; exact hi
    exact ⟨vs, vs[i], SqL.of h1, by simp [hi']⟩
  yld := fun i W' H σ e x H' d l S g hd y => by
    have hm' : W'.m[n]? = some a := by
      obtain ⟨more, e2⟩ := l.2
      have := (List.getElem?_eq_some_iff.mp hm).1
      rw [e2, List.getElem?_append_left this]
      exact hm
    obtain ⟨vs, h1, h2⟩ := S.ok.cellL hm' g
    obtain ⟨rfl, y⟩ := y
    obtain ⟨v, hv, rv⟩ := h2.get hd
    have e1 := y vs (SqL.of h1)
    rw [hv] at e1
    cases e1
    exact ⟨W', W'.le_refl, S, rv⟩
  stop := fun i W' H σ e l S g hi => by
    have hm' : W'.m[n]? = some a := by
      obtain ⟨more, e2⟩ := l.2
      have := (List.getElem?_eq_some_iff.mp hm).1
      rw [e2, List.getElem?_append_left this]
      exact hm
    obtain ⟨vs, h1, h2⟩ := S.ok.cellL hm' g
    exact ⟨vs, SqL.of h1, by rw [h2.length]; exact hi⟩
/-- the intsD loD, loD + 1, .. -/
def intsD (loD : Int) (n : Nat) : List D := (List.range n).map fun (i : Nat) => D.int (loD + (i : Int))
theorem intsD_len (loD : Int) (n : Nat) : (intsD loD n).length = n := by simp [intsD]
theorem intsD_get {loD : Int} {n i : Nat} {d : D} (h : (intsD loD n)[i]? = some d) : i < n ∧ d = .int (loD + i) := by
  have hl := (List.getElem?_eq_some_iff.mp h).1
  rw [intsD_len] at hl
  unfold intsD at h
  rw [List.getElem?_map, List.getElem?_range hl] at h
  exact ⟨hl, (Option.some.inj h).symm⟩
theorem wk_rng {W : Wd} {loD : Int} {n : Nat} : Wk K W (Itr loD n) anyC (intsD loD n) where
  go := fun i W' H σ e l S _ hi => by rw [intsD_len] at hi; exact hi
  yld := fun i W' H σ e x H' d l S _ hd y => by
    obtain ⟨rfl, rfl⟩ := y
    obtain ⟨_, rfl⟩ := intsD_get hd
    exact ⟨W', W'.le_refl, S, .int _⟩
  stop := fun i W' H σ e l S _ hi => by rw [intsD_len] at hi; exact hi
/-- a list (that changes no more) or a tuple -/
def fixL : D → Option (List D)
  | .lst xs => some xs
  | .fro xs => some xs
  | _ => none
def iL (t : DE) : DI := fun e P => t e fun d e1 => ∃ xs, fixL d = some xs ∧ P xs anyC e1
def iT (t : DE) : DI := fun e P => t e fun d e1 => ∃ xs, d = .tup xs ∧ P xs anyC e1
theorem di_list (h : PE X ex (lE X.K B te)) : PI X tg ex (lI X.K B (iL te)) := PI.imp (pi_list h) fun σ H Q ⟨W, e, P, bl, S, t, k⟩ => by
  refine ⟨W, e, _, bl, S, t, fun d e1 W1 H1 v ⟨xs, hx, p⟩ l S1 r => ?_⟩
  have : ∃ a vs, v = .ref a ∧ SqL X.K W1.F a vs ∧ RAll X.K W1 vs xs := by
    cases r <;> simp only [fixL] at hx <;> cases hx
    · exact ⟨_, _, rfl, SqL.of (by assumption), by assumption⟩
    · exact ⟨_, _, rfl, by assumption, by assumption⟩
  obtain ⟨a, vs, rfl, h1, h2⟩ := this
  exact ⟨a, rfl, ⟨vs, Evl.ex_l S1.ok.ex h1⟩, k _ _ _ _ _ _ p l S1 (wk_list h1 h2)⟩
theorem di_tup (h : PE X ex (lE X.K B te)) : PI X tg ex (lI X.K B (iT te)) := PI.imp (pi_tup h) fun σ H Q ⟨W, e, P, bl, S, t, k⟩ => by
  refine ⟨W, e, _, bl, S, t, fun d e1 W1 H1 v ⟨xs, hx, p⟩ l S1 r => ?_⟩
  subst hx
  cases r with
  | tup h1 h2 => exact ⟨_, rfl, ⟨_, Evl.ex_t S1.ok.ex h1⟩, k _ _ _ _ _ _ p l S1 (wk_tup h1 h2)⟩
def iR1 (t : DA) : DI := fun e P => t e fun ds e1 => ∃ j, ds = [.int j] ∧ -(2 ^ 62) ≤ j ∧ j < 2 ^ 62 ∧ P (intsD 0 j.toNat) anyC e1
def iR2 (t : DA) : DI := fun e P => t e fun ds e1 => ∃ i j, ds = [.int i, .int j] ∧ (-(2 ^ 62) ≤ i ∧ i < 2 ^ 62 ∧ -(2 ^ 62) ≤ j ∧ j < 2 ^ 62) ∧ P (intsD i (j - i).toNat) anyC e1
theorem RAll.one_int {W : Wd} {vs : List V} {j : Int} (r : RAll K W vs [.int j]) : vs = [.int j] := by
  cases r with
  | cons h t => cases h; cases t; rfl
theorem RAll.two_int {W : Wd} {vs : List V} {i j : Int} (r : RAll K W vs [.int i, .int j]) : vs = [.int i, .int j] := by
  cases r with
  | cons h t =>
    cases h
    cases t with
    | cons h t => cases h; cases t; rfl
theorem di_range1 (hg : Gl X "range") (hm : X.mg "range" = none) (ha : PA X [a] (lA X.K B ta)) (hs : starEach [a] X.env = [(false, eval a X.env)] := by rfl) : PI X tg (.Call (.Name "range" p) [a] [] pos) (lI X.K B (iR1 ta)) :=
  PI.imp (pi_range1 hg hm ha hs) fun σ H Q ⟨W, e, P, bl, S, t, k⟩ => ⟨W, e, _, bl, S, t, fun ds e1 W1 H1 vs ⟨j, ed, h1, h2, p⟩ l S1 r => by
    subst ed
    exact ⟨j, r.one_int, h1, h2, k _ _ _ _ _ _ p l S1 wk_rng⟩⟩
theorem di_range2 (hg : Gl X "range") (hm : X.mg "range" = none) (ha : PA X [a, b] (lA X.K B ta)) (hs : starEach [a, b] X.env = [(false, eval a X.env), (false, eval b X.env)] := by rfl) (hs2 : starEach [b] X.env = [(false, eval b X.env)] := by rfl) :
    PI X tg (.Call (.Name "range" p) [a, b] [] pos) (lI X.K B (iR2 ta)) :=
  PI.imp (pi_range2 hg hm ha hs hs2) fun σ H Q ⟨W, e, P, bl, S, t, k⟩ => ⟨W, e, _, bl, S, t, fun ds e1 W1 H1 vs ⟨i, j, ed, h, p⟩ l S1 r => by
    subst ed
    exact ⟨i, j, r.two_int, h, k _ _ _ _ _ _ p l S1 wk_rng⟩⟩
end

/-! ### loops -/
def sFor (it : DI) (tg : Tg) (tb : DS) : DS := fun P e => it e fun ds G e1 => ∃ I : Nat → En → Prop, I 0 e1 ∧
  (∀ i d e2, ds[i]? = some d → I i e2 → G e2.cs ∧ ∃ sl', setTg tg d e2.sl = some sl' ∧ tb (P.lp (I (i + 1))) ⟨sl', e2.cs⟩) ∧ ∀ e2, I ds.length e2 → G e2.cs ∧ P.nx e2
def sWhile (c : DT) (tb : DS) : DS := fun P e => ∃ I : Nat → En → Prop, (∃ m, I m e) ∧ ∀ m e1, I m e1 → c e1 fun b e2 => if b = true then tb (P.lp fun e3 => ∃ m', m' < m ∧ I m' e3) e2 else P.nx e2
section
variable {X : Cx} {B : Bs} {tgE iter c : Expr} {body : List Stmt} {it : DI} {dt : DT} {tb : DS} {tg : Tg} {pos : Pos}
theorem ds_for (hp : PassesOwn (model X.prog X.w) X.A X.env X.xe) (hc : X.calm = true) (hi : PI X tgE iter (lI X.K B it)) (hg : PG X tgE (gV X.K tg)) (hb : PSs X body (lS X.K B tb))
    (hs : ∀ x, foldedSetIterable iter X.env x = pure x := by intro _; rfl) : PS X (.For tgE iter body [] pos) (lS X.K B (sFor it tg tb)) := PS.imp (ps_for hp hc hi hg hb hs) fun E σ H h => by
  obtain ⟨W, e, P, bl, S, h, c⟩ := lS_un h
  refine ⟨W, e, _, bl, S, h, fun ds G e1 W1 H1 J ⟨I, i0, turn, done⟩ l1 S1 wk => ?_⟩
  refine ⟨fun i m σ H => m = ds.length - i ∧ i ≤ ds.length ∧ ∃ W2 e2, W1.le W2 ∧ Sd X.K W2 H σ e2 ∧ I i e2, ⟨_, rfl, Nat.zero_le _, W1, e1, W1.le_refl, S1, i0⟩, ?_⟩
  rintro i m σ2 H2 ⟨rfl, hi, W2, e2, l2, S2, p2⟩
  by_cases hlt : i < ds.length
  · have hd : ds[i]? = some ds[i] := by simp [hlt]
    obtain ⟨g2, sl', hsl, p3⟩ := turn i _ e2 hd p2
    refine .inr ⟨wk.go i W2 H2 σ2 e2 l2.sub S2 g2 hlt, fun σ H => ∃ W2 e2, W1.le W2 ∧ Sd X.K W2 H σ e2 ∧ I (i + 1) e2, fun σ' H' q => ⟨ds.length - (i + 1), by omega, rfl, hlt, q⟩, fun x H' y => ?_⟩
    obtain ⟨W3, l3, S3, r3⟩ := wk.yld i W2 H2 σ2 e2 x H' _ l2.sub S2 g2 hd y
    refine gV_ok (vs := []) S3 r3 hsl fun σ4 S4 _ => ?_
    have l13 := l2.tr l3
    have l03 := l1.tr l13
    exact lS_mk ((B.up bl l03)) S4 p3 ⟨fun e' W' H' σ' p l S' => ⟨W', e', l13.tr l, S', p⟩, fun d cs W' H' v p l S' r => c.rt d cs W' H' v p (l03.tr l) S' r, fun e' W' H' σ' p l S' => c.nx e' W' H' σ' p (l03.tr l) S', fun e' W' H' σ' p l S' => ⟨W', e', l13.tr l, S', p⟩⟩
  · have ei : i = ds.length := by omega
    subst ei
    obtain ⟨g2, q2⟩ := done e2 p2
    exact .inl ⟨wk.stop _ W2 H2 σ2 e2 l2.sub S2 g2 (Nat.le_refl _), c.nx _ _ _ _ q2 (l1.tr l2) S2⟩
theorem ds_while (hp : PassesOwn (model X.prog X.w) X.A X.env X.xe) (hc : PT X c (lT X.K B dt)) (hb : PSs X body (lS X.K B tb)) : PS X (.While c body [] pos) (lS X.K B (sWhile dt tb)) := PS.imp (ps_while hp hc hb) fun E σ H h => by
  obtain ⟨W, e, P, bl, S, ⟨I, ⟨m0, i0⟩, turn⟩, c⟩ := lS_un h
  refine ⟨fun m σ H => ∃ W2 e2, W.le W2 ∧ Sd X.K W2 H σ e2 ∧ I m e2, ⟨m0, W, e, W.le_refl, S, i0⟩, ?_⟩
  rintro m σ2 H2 ⟨W2, e2, l2, S2, p2⟩
  refine ⟨W2, e2, _, (B.up bl l2), S2, turn m e2 p2, fun b e3 W3 H3 p3 l3 S3 => ?_⟩
  have l03 := l2.tr l3
  cases b with
  | true =>
    refine iteT ⟨fun σ' H' => ∃ m', m' < m ∧ ∃ W2 e2, W.le W2 ∧ Sd X.K W2 H' σ' e2 ∧ I m' e2, fun _ _ q => q, lS_mk ((B.up bl l03)) S3 p3 ⟨?_, fun d cs W' H' v p l S' r => c.rt d cs W' H' v p (l03.tr l) S' r, fun e' W' H' σ' p l S' => c.nx e' W' H' σ' p (l03.tr l) S', ?_⟩⟩
    · rintro e' W' H' σ' ⟨m', hm, p⟩ l S'
      exact ⟨m', hm, W', e', l03.tr l, S', p⟩
    · rintro e' W' H' σ' ⟨m', hm, p⟩ l S'
      exact ⟨m', hm, W', e', l03.tr l, S', p⟩
  | false => exact iteF (c.nx _ _ _ _ p3 l03 S3)
end
end DL
namespace DL
open PySem PySem.Spec PyProof.Rows L2
open Evl (Ex)

/-! ### no name of a cell from k on -/
mutual
def loD (k : Nat) : D → Bool
  | .tup xs => los k xs
  | .lst xs => los k xs
  | .fro xs => los k xs
  | .ins _ _ xs => los k xs
  | .cell n => decide (n < k)
  | .non => true
  | .bl _ => true
  | .int _ => true
  | .str _ => true
  | .dct => true
  | .raw _ => true
  | .exc _ _ => true
def los (k : Nat) : List D → Bool
  | [] => true
  | x :: xs => loD k x && los k xs
end
section
variable {K : PySem.W.Frag} {W : Wd}
mutual
theorem R.low {k : Nat} : ∀ (d : D) (v : V), R K W v d → loD k d = true → R K ⟨W.F, W.m.take k, W.h⟩ v d
  | .non, _, h, _ => by cases h; exact .non
  | .bl b, _, h, _ => by cases h; exact .bl b
  | .int i, _, h, _ => by cases h; exact .int i
  | .str s, _, h, _ => by cases h; exact .str s
  | .tup xs, _, h, o => by
    cases h with
    | tup hs ha => exact .tup hs (RAll.low xs _ ha o)
  | .lst xs, _, h, o => by
    cases h with
    | lst hs ha => exact .lst hs (RAll.low xs _ ha o)
  | .fro xs, _, h, o => by
    cases h with
    | fro hs ha => exact .fro hs (RAll.low xs _ ha o)
  | .ins C ns xs, _, h, o => by
    cases h with
    | ins hs ha => exact .ins hs (RAll.low xs _ ha o)
  | .cell n, _, h, o => by
    cases h with
    | cell hs => exact .cell (by show (W.m.take k)[n]? = _; rw [List.getElem?_take_of_lt (of_decide_eq_true o)]; exact hs)
  | .dct, _, h, _ => by
    cases h with
    | dct hs => exact .dct hs
  | .raw v, _, h, _ => by cases h; exact .raw v
  | .exc C p, _, h, _ => by
    cases h with
    | exc hs hp => exact .exc hs hp
theorem RAll.low {k : Nat} : ∀ (ds : List D) (vs : List V), RAll K W vs ds → los k ds = true → RAll K ⟨W.F, W.m.take k, W.h⟩ vs ds
  | [], _, h, _ => by cases h; exact .nil
  | d :: ds, _, h, o => by
    cases h with
    | cons h1 h2 =>
      have o' : (loD k d && los k ds) = true := o
      rw [Bool.and_eq_true] at o'
      exact .cons (R.low d _ h1 o'.1) (RAll.low ds _ h2 o'.2)
end
end
def Cel.loD (k : Nat) : Cel → Bool
  | .dead => true
  | .lst xs => los k xs
  | .ins _ _ xs => los k xs
  | .dic kxs => los k (kxs.map (·.2))
theorem RKs.low {K : PySem.W.Frag} {W : Wd} {k : Nat} : ∀ {ps : List (Key × V)} {kxs : List (Int × D)}, RKs K W ps kxs → los k (kxs.map (·.2)) = true → RKs K ⟨W.F, W.m.take k, W.h⟩ ps kxs
  | _, _, .nil, _ => .nil
  | _, _, @RKs.cons _ _ _ _ d _ kxs r t, o => by
    have o' : (DL.loD k d && los k (kxs.map (·.2))) = true := o
    rw [Bool.and_eq_true] at o'
    exact .cons (R.low d _ r o'.1) (RKs.low t o'.2)
theorem ClOk.low {K : PySem.W.Frag} {W : Wd} {H : Hp} {a : Addr} {k : Nat} : ∀ {c : Cel}, ClOk K W H a c → c.loD k = true → ClOk K ⟨W.F, W.m.take k, W.h⟩ H a c
  | .dead, _, _ => trivial
  | .lst xs, ⟨vs, h, r⟩, o => ⟨vs, h, RAll.low xs _ r o⟩
  | .ins C ns xs, ⟨dx, gs, h, e, r⟩, o => ⟨dx, gs, h, e, RAll.low xs _ r o⟩
  | .dic _, ⟨ps, h, r⟩, o => ⟨ps, h, r.low o⟩
/-- the younger cells forgotten -/
theorem Ok.low {K : PySem.W.Frag} {W : Wd} {H : Hp} {cs : List Cel} {k : Nat} (h : Ok K W H cs) (o : (cs.take k).all (Cel.loD k) = true) : Ok K ⟨W.F, W.m.take k, W.h⟩ H (cs.take k) := by
  have get : ∀ {α : Type} {l : List α} {n : Nat} {x : α}, (l.take k)[n]? = some x → l[n]? = some x := fun {α l n x} e => by
    by_cases hn : n < k
    · rw [List.getElem?_take_of_lt hn] at e; exact e
    · rw [List.getElem?_eq_none (by rw [List.length_take]; omega)] at e; cases e
  refine ⟨h.ex, by simp [h.len], h.nd.sublist (List.take_sublist _ _), fun a ha => h.here a (List.mem_of_mem_take ha), fun n a c e1 e2 => h.fr n a c (get e1) (get e2), fun n a c e1 e2 => ?_, fun q hq => ?_, h.hn⟩
  · exact (h.cl n a c (get e1) (get e2)).low (List.all_eq_true.mp o c (List.mem_of_getElem? e2))
  · obtain ⟨h1, h2, h3⟩ := h.hd q hq
    exact ⟨h1, h2, fun hm => h3 (List.mem_of_mem_take hm)⟩

/-! ### comprehensions -/
def eLc (o : Bool) (it : DI) (tg : Tg) (tt : DT) (te : DE) (vs : List Nat) : DE := fun e P => it e fun ds G e1 => ds.length ≤ sizeLine ∧ ∃ I : Nat → List D → List Cel → Prop, I 0 [] e1.cs ∧
  (∀ i d acc cs, ds[i]? = some d → I i acc cs → G cs ∧ ∃ sl', setTg tg d (wipeD e1.sl vs) = some sl' ∧ tt ⟨sl', cs⟩ fun b e2 => if b = true then te e2 fun y e3 => I (i + 1) (acc ++ [y]) e3.cs else I (i + 1) acc e2.cs) ∧
  ∀ acc cs, acc.length ≤ ds.length → I ds.length acc cs → G cs ∧ newL o acc ⟨e1.sl, cs⟩ P
def dYes : DT := fun e P => P true e
section
variable {K : PySem.W.Frag} {X : Cx} {B : Bs} {elt tgE iter : Expr} {ifs : List Expr} {scope : Scope} {own : List (Str × Nat)} {pos : Pos} {it : DI} {tg : Tg} {tt : DT} {te : DE} {o : Bool}
theorem SlO.mono' {W W' : Wd} {σ : L2.St} {sl : List (Option D)} (l : W.sub W') (h : SlO K W σ sl) : SlO K W' σ sl :=
  ⟨h.1, fun i d e => let ⟨v, a, b⟩ := h.2 i d e; ⟨v, a, R.mono' l _ _ b⟩⟩
theorem lc_ok {vs : List Nat} (hv : ∀ i ∈ tg.on, i ∈ vs) : ∀ σ H Q, lE K B (eLc o it tg tt te vs) σ H Q → tLc (lI K B it) (gV K tg) (lT K Bs.any tt) (lE K Bs.any te) vs σ H Q := by
  rintro σ H Q ⟨W, e, P, bl, S, t, k⟩
  refine ⟨W, e, _, bl, S, t, fun ds G e1 W1 H1 J ⟨hz, I, i0, turn, done⟩ l1 S1 wk Dl hD => ?_⟩
  obtain ⟨F1, m1, h1⟩ := W1
  refine ⟨fun i m H => m = ds.length - i ∧ i ≤ ds.length ∧ ∃ (F : Hp) (mm : List Addr) (vs' : List V) (acc : List D) (cs : List Cel), Wd.sub ⟨F1, m1, h1⟩ ⟨F, mm, (Dl, vs') :: h1⟩ ∧ Ok K ⟨F, mm, (Dl, vs') :: h1⟩ H cs ∧ RAll K ⟨F, mm, (Dl, vs') :: h1⟩ vs' acc ∧ acc.length ≤ i ∧ I i acc cs,
    ⟨_, rfl, Nat.zero_le _, F1, m1, [], [], e1.cs, ⟨Ex.refl _, [], (List.append_nil _).symm⟩, S1.ok.hide hD, .nil, Nat.zero_le _, i0⟩, ?_⟩
  rintro i m H2 ⟨rfl, hi, F, mm, vs', acc, cs, sb, ok, ra, hacc, p⟩
  have Sx : Sd K ⟨F, mm, (Dl, vs') :: h1⟩ H2 σ ⟨e1.sl, cs⟩ := ⟨ok, S1.sl.mono' sb⟩
  by_cases hlt : i < ds.length
  · have hd : ds[i]? = some ds[i] := by simp [hlt]
    obtain ⟨g2, sl', hsl, p3⟩ := turn i _ acc cs hd p
    refine .inr ⟨wk.go i _ H2 σ _ sb Sx g2 hlt, _, fun H' q => ⟨ds.length - (i + 1), by omega, rfl, hlt, q⟩, fun x H' y => ?_⟩
    obtain ⟨W3, l3, S3, r3⟩ := wk.yld i _ H2 σ _ x H' _ sb Sx g2 hd y
    have S3w : Sd K W3 H' (wipe σ vs) ⟨wipeD e1.sl vs, cs⟩ := ⟨S3.ok, S3.sl.wipe vs⟩
    refine gV_ok (vs := vs) S3w r3 hsl fun σ4 S4 w4 => ⟨by rw [w4 hv, wipe_wipe], ?_⟩
    refine ⟨W3, _, _, trivial, S4, p3, fun b e5 W5 H5 p5 l5 S5 => ?_⟩
    have fin : ∀ (W6 : Wd) (H6 : Hp) (e6 : En) (acc' : List D) (vs6 : List V), W3.le W6 → Ok K W6 H6 e6.cs → RAll K W6 vs6 acc' → acc'.length ≤ i + 1 → I (i + 1) acc' e6.cs →
        ∀ (H7 : Hp), (H7 = upd H6 Dl (.lst vs6) ∨ (H7 = H6 ∧ vs6 = vs')) → ∃ (F : Hp) (mm : List Addr) (vs' : List V) (acc : List D) (cs : List Cel), Wd.sub ⟨F1, m1, h1⟩ ⟨F, mm, (Dl, vs') :: h1⟩ ∧ Ok K ⟨F, mm, (Dl, vs') :: h1⟩ H7 cs ∧ RAll K ⟨F, mm, (Dl, vs') :: h1⟩ vs' acc ∧ acc.length ≤ i + 1 ∧ I (i + 1) acc cs := by
      intro W6 H6 e6 acc' vs6 l6 ok6 ra6 hl6 p6 H7 hH
      have l36 := l3.tr l6
      obtain ⟨F6, m6, h6⟩ := W6
      obtain rfl : h6 = (Dl, vs') :: h1 := l36.2.2
      have sb6 : Wd.sub ⟨F1, m1, h1⟩ ⟨F6, m6, (Dl, vs6) :: h1⟩ := sb.tr (W2 := ⟨F6, m6, (Dl, vs6) :: h1⟩) ⟨l36.1, l36.2.1⟩
      refine ⟨F6, m6, vs6, acc', e6.cs, sb6, ?_, ra6.world rfl rfl, hl6, p6⟩
      rcases hH with rfl | ⟨rfl, rfl⟩
      · exact ok6.grow
      · exact ok6
    cases b with
    | false => exact iteF (fin W5 H5 e5 acc vs' l5 S5.ok (RAll.mono (l3.tr l5) _ _ ra) (by omega) p5 H5 (.inr ⟨rfl, rfl⟩))
    | true =>
      refine iteT ⟨W5, e5, _, trivial, S5, p5, fun y e6 W6 H6 v6 p6 l6 S6 r6 => ?_⟩
      have l56 := l5.tr l6
      have hD6 : H6 Dl = some (.lst vs') := (S6.ok.hd (Dl, vs') (by rw [(l3.tr l56).2.2]; exact List.mem_cons_self)).1
      have ra6 : RAll K W6 vs' acc := RAll.mono (l3.tr l56) _ _ ra
      exact ⟨vs', hD6, by rw [ra6.length]; omega, fin W6 H6 e6 (acc ++ [y]) (vs' ++ [v6]) l56 S6.ok (ra6.app1 r6) (by simp; omega) p6 _ (.inl rfl)⟩
  · have ei : i = ds.length := by omega
    subst ei
    obtain ⟨g2, q⟩ := done acc cs hacc p
    refine .inl ⟨wk.stop _ _ H2 σ _ sb Sx g2 (Nat.le_refl _), ?_⟩
    have ra' : RAll K ⟨F, mm, h1⟩ vs' acc := ra.world rfl rfl
    have lx : (⟨F1, m1, h1⟩ : Wd).le ⟨F, mm, h1⟩ := ⟨sb.1, sb.2, rfl⟩
    cases o with
    | false =>
      obtain ⟨ok', l'⟩ := ok.showF
      exact k _ _ _ _ _ q (l1.tr (lx.tr l')) ⟨ok', S1.sl.mono (lx.tr l')⟩ (.lst upd_same (RAll.mono l' _ _ ra'))
    | true =>
      obtain ⟨ok', l'⟩ := ok.showC ra'
      refine k _ _ _ _ _ q (l1.tr (lx.tr l')) ⟨ok', S1.sl.mono (lx.tr l')⟩ (.cell ?_)
      show (mm ++ [Dl])[cs.length]? = some Dl
      have hl : mm.length = cs.length := ok.len
      rw [← hl, List.getElem?_append_right (Nat.le_refl _)]
      simp
end
end DL
namespace DL
open PySem PySem.Spec PyProof.Rows L2
open Evl (Ex)

/-! ### comprehensions, as rules -/
section
variable {X : Cx} {B : Bs} {elt tgE iter : Expr} {ifs : List Expr} {scope : Scope} {own : List (Str × Nat)} {pos : Pos} {it : DI} {tg : Tg} {tt : DT} {te : DE}
theorem PTs.imp {X : Cx} {ifs : List Expr} {t t' : TT} (h : PTs X ifs t) (i : ∀ σ H Q, t' σ H Q → t σ H Q) : PTs X ifs t' := ⟨fun pins s σ H Q I w => h.run pins s σ H Q I (i σ H Q w)⟩
theorem dts_nil : PTs X [] (lT X.K B dYes) := PTs.imp pts_nil fun σ H Q ⟨W, e, P, _, S, p, k⟩ => k true e W H p W.le_refl S
theorem dts_one {c : Expr} (h : PT X c (lT X.K B tt)) : PTs X [c] (lT X.K B tt) := pts_one h
theorem de_lc {o : Bool} (hc : X.calm = true) (hN : X.N.Nodup) (hi : PI X tgE iter (lI X.K B it)) (ok : BlkOk X.N X.env.scope scope own) (hv : ∀ i ∈ tg.on, i ∈ own.map (·.2))
    (hg : ∀ (s : Shared) (H : Hp) (C : Addr) (cl : List (Str × Addr)) (fp : List Addr), PG (X.blk s H scope (compEnvC scope cl C X.env) fp) tgE (gV X.K tg)) (ht : ∀ (s : Shared) (H : Hp) (C : Addr) (cl : List (Str × Addr)) (fp : List Addr), PTs (X.blk s H scope (compEnvC scope cl C X.env) fp) ifs (lT X.K Bs.any tt))
    (he : ∀ (s : Shared) (H : Hp) (C : Addr) (cl : List (Str × Addr)) (fp : List Addr), PE (X.blk s H scope (compEnvC scope cl C X.env) fp) elt (lE X.K Bs.any te)) (hs : ∀ x, foldedSetIterable iter X.env x = pure x := by intro _; rfl) :
    PE X (.ListComp elt [⟨tgE, iter, ifs, 0⟩] scope pos) (lE X.K B (eLc o it tg tt te (own.map (·.2)))) := PE.imp (pe_lc hc hN hi ok hg ht he hs) (lc_ok hv)
theorem ds_setLc {o : Bool} {i : Nat} {y : Str} {py spos : Pos} (hc : X.calm = true) (hN : X.N.Nodup) (hy : X.N[i]? = some y) (hyl : X.env.scope.names.lookup y = some .local)
    (hsw : swapsWith (.ListComp elt [⟨tgE, iter, ifs, 0⟩] scope pos) (some (.Name y py)) spos.line X.env = pure true) (hi : PI X tgE iter (lI X.K B it)) (ok : BlkOk X.N X.env.scope scope own) (hv : ∀ i ∈ tg.on, i ∈ own.map (·.2))
    (hg : ∀ (s : Shared) (H : Hp) (C : Addr) (cl : List (Str × Addr)) (fp : List Addr), PG (X.blk s H scope (compEnvC scope cl C X.env) fp) tgE (gV X.K tg)) (ht : ∀ (s : Shared) (H : Hp) (C : Addr) (cl : List (Str × Addr)) (fp : List Addr), PTs (X.blk s H scope (compEnvC scope cl C X.env) fp) ifs (lT X.K Bs.any tt))
    (he : ∀ (s : Shared) (H : Hp) (C : Addr) (cl : List (Str × Addr)) (fp : List Addr), PE (X.blk s H scope (compEnvC scope cl C X.env) fp) elt (lE X.K Bs.any te)) (hs : ∀ x, foldedSetIterable iter X.env x = pure x := by intro _; rfl) :
    PS X (.Assign [.Name y py] (.ListComp elt [⟨tgE, iter, ifs, 0⟩] scope pos) spos) (lS X.K B (sAsg (eLc o it tg tt te (own.map (·.2))) i)) := PS.imp (ps_setLc hc hN hy hyl hsw hi ok hg ht he hs) fun E σ H h => by
  obtain ⟨W, e, P, bl, S, h, c⟩ := lS_un h
  exact lc_ok hv σ H _ ⟨W, e, _, bl, S, h, fun d e1 W1 H1 v p l S1 r => c.nx _ _ _ _ p l ⟨S1.ok, S1.sl.set r⟩⟩
end

/-! ### built-ins -/
def CallD (K : PySem.W.Frag) (r : List V → Hp → VK → Prop) (q : List D → DE) : Prop := ∀ (W : Wd) (H : Hp) (σ : L2.St) (e : En) (vs : List V) (ds : List D) (P : D → En → Prop) (Q : VK), Sd K W H σ e → RAll K W vs ds → q ds e P →
  (∀ d e' W' H' v, P d e' → W.le W' → Sd K W' H' σ e' → R K W' v d → Q v H') → r vs H Q
def eCB (q : List D → DE) (ta : DA) : DE := fun e P => ta e fun ds e1 => q ds e1 P
section
variable {K : PySem.W.Frag} {X : Cx} {B : Bs} {x : Str} {p pos : Pos} {ex : Expr} {es : List Expr} {ta : DA} {id T : String} {r : List V → Hp → VK → Prop} {q : List D → DE}
theorem cb_ok (hq : CallD K r q) : ∀ σ H Q, lE K B (eCB q ta) σ H Q → tCB r (lA K B ta) σ H Q := fun σ H Q ⟨W, e, P, bl, S, t, k⟩ =>
  ⟨W, e, _, bl, S, t, fun ds e1 W1 H1 vs t1 l1 S1 r1 => hq W1 H1 σ e1 vs ds P Q S1 r1 t1 fun d e2 W2 H2 v p l2 S2 r2 => k d e2 W2 H2 v p (l1.tr l2) S2 r2⟩
theorem de_callB (hc : CallR X (.builtin id) r) (hq : CallD X.K r q) (hg : Gl X x) (hm : X.mg x = none) (hv : bootBuiltins x = some (.builtin id)) (ha : PA X (ex :: es) (lA X.K B ta)) (hn : x ≠ "__name__" := by decide) (hdb : (x == ("__debug__" : Str)) = false := by decide)
    (he : starEach (ex :: es) X.env = (false, eval ex X.env) :: starEach es X.env := by rfl) (hpl : (backTo pos (starEach es X.env)).any (·.1) = false := by rfl) : PE X (.Call (.Name x p) (ex :: es) [] pos) (lE X.K B (eCB q ta)) := PE.imp (pe_callB hc hg hm hv ha hn hdb he hpl) (cb_ok hq)
theorem de_callTy (hc : CallR X (.type T) r) (hq : CallD X.K r q) (hg : Gl X x) (hm : X.mg x = none) (hv : bootBuiltins x = some (.type T)) (ha : PA X (ex :: es) (lA X.K B ta)) (hn : x ≠ "__name__" := by decide) (hdb : (x == ("__debug__" : Str)) = false := by decide)
    (he : starEach (ex :: es) X.env = (false, eval ex X.env) :: starEach es X.env := by rfl) (hpl : (backTo pos (starEach es X.env)).any (·.1) = false := by rfl) : PE X (.Call (.Name x p) (ex :: es) [] pos) (lE X.K B (eCB q ta)) := PE.imp (pe_callTy hc hg hm hv ha hn hdb he hpl) (cb_ok hq)
theorem RAll.one {W : Wd} {vs : List V} {d : D} (h : RAll K W vs [d]) : ∃ v, vs = [v] ∧ R K W v d := by
  cases h with
  | cons r t => cases t; exact ⟨_, rfl, r⟩
theorem RAll.two {W : Wd} {vs : List V} {d d2 : D} (h : RAll K W vs [d, d2]) : ∃ v v2, vs = [v, v2] ∧ R K W v d ∧ R K W v2 d2 := by
  cases h with
  | cons r t =>
    obtain ⟨v, rfl, r2⟩ := t.one
    exact ⟨_, v, rfl, r, r2⟩
/-- a list or a tuple -/
def seqD (cs : List Cel) : D → Option (List D)
  | .tup xs => some xs
  | d => lk cs d
theorem Ok.seq {W : Wd} {H : Hp} {cs : List Cel} (h : Ok K W H cs) {d : D} {v : V} {xs : List D} (r : R K W v d) (e : seqD cs d = some xs) : ∃ a vs, v = .ref a ∧ (SqL K H a vs ∨ SqT K H a vs) ∧ RAll K W vs xs := by
  unfold seqD at e
  split at e
  · cases e
    cases r with
    | tup h1 h2 => exact ⟨_, _, rfl, .inr (Evl.ex_t h.ex h1), h2⟩
  · obtain ⟨a, vs, rfl, h1, h2⟩ := h.lk r e
    exact ⟨a, vs, rfl, .inl h1, h2⟩
def qLen : List D → DE
  | [.str s] => fun e P => s.length ≤ sizeLine ∧ P (.int s.length) e
  | [d] => fun e P => ∃ xs, seqD e.cs d = some xs ∧ P (.int xs.length) e
  | _ => fun _ _ => False
def rLenA (K : PySem.W.Frag) : List V → Hp → VK → Prop := fun xs H Q => (∃ p ys, xs = [.ref p] ∧ (SqL K H p ys ∨ SqT K H p ys) ∧ Q (.int ys.length) H) ∨ ∃ z, xs = [.str z] ∧ z.length ≤ sizeLine ∧ Q (.int z.length) H
theorem call_lenA : CallR X (.builtin "len") (rLenA X.K) := call_len_seq.or call_len_str
theorem cd_len : CallD K (rLenA K) qLen := by
  intro W H σ e vs ds P Q S r t k
  unfold qLen at t
  split at t
  · obtain ⟨v, rfl, r1⟩ := r.one
    cases r1
    exact .inr ⟨_, rfl, t.1, k _ _ _ _ _ t.2 W.le_refl S (.int _)⟩
  · obtain ⟨v, rfl, r1⟩ := r.one
    obtain ⟨xs, e1, p⟩ := t
    obtain ⟨a, vs, rfl, h1, h2⟩ := S.ok.seq r1 e1
    exact .inl ⟨a, vs, rfl, h1, by rw [h2.length]; exact k _ _ _ _ _ p W.le_refl S (.int _)⟩
  · exact t.elim
def qList (o : Bool) : List D → DE
  | [d] => fun e P => ∃ xs, seqD e.cs d = some xs ∧ newL o xs e P
  | _ => fun _ _ => False
def rListA (K : PySem.W.Frag) : List V → Hp → VK → Prop := fun xs H Q => ∃ p ys, xs = [.ref p] ∧ (SqL K H p ys ∨ SqT K H p ys) ∧ ∀ l, H l = none → Q (.ref l) (upd H l (.lst ys))
theorem call_listA : CallR X (.type "list") (rListA X.K) := call_list_of
theorem cd_list {o : Bool} : CallD K (rListA K) (qList o) := by
  intro W H σ e vs ds P Q S r t k
  unfold qList at t
  split at t
  · obtain ⟨v, rfl, r1⟩ := r.one
    obtain ⟨xs, e1, p⟩ := t
    obtain ⟨a, vs, rfl, h1, h2⟩ := S.ok.seq r1 e1
    exact ⟨a, vs, rfl, h1, newL_ok S h2 p k⟩
  · exact t.elim
/-- either, as one likes -/
def qListE : List D → DE := fun ds e P => qList false ds e P ∨ qList true ds e P
theorem cd_listE : CallD K (rListA K) qListE := fun W H σ e vs ds P Q S r t k => t.elim (fun t => cd_list W H σ e vs ds P Q S r t k) fun t => cd_list W H σ e vs ds P Q S r t k
def qTuple : List D → DE
  | [.tup xs] => fun e P => P (.tup xs) e
  | [d] => fun e P => ∃ xs, lk e.cs d = some xs ∧ P (.tup xs) e
  | _ => fun _ _ => False
def rTupleA (K : PySem.W.Frag) : List V → Hp → VK → Prop := fun xs H Q => ∃ p ys, xs = [.ref p] ∧ ((SqL K H p ys ∧ ∀ l, H l = none → Q (.ref l) (upd H l (.tup ys))) ∨ (SqT K H p ys ∧ Q (.ref p) H))
theorem call_tupleA : CallR X (.type "tuple") (rTupleA X.K) := call_tuple_of
theorem cd_tuple : CallD K (rTupleA K) qTuple := by
  intro W H σ e vs ds P Q S r t k
  unfold qTuple at t
  split at t
  · obtain ⟨v, rfl, r1⟩ := r.one
    cases r1 with
    | tup h1 h2 => exact ⟨_, _, rfl, .inr ⟨Evl.ex_t S.ok.ex h1, k _ _ _ _ _ t W.le_refl S (.tup h1 h2)⟩⟩
  · obtain ⟨v, rfl, r1⟩ := r.one
    obtain ⟨xs, e1, p⟩ := t
    obtain ⟨a, vs, rfl, h1, h2⟩ := S.ok.lk r1 e1
    exact ⟨a, vs, rfl, .inl ⟨h1, newT_ok S h2 p k⟩⟩
  · exact t.elim
def qAll : List D → DE
  | [d] => fun e P => ∃ bs : List Bool, lk e.cs d = some (bs.map .bl) ∧ P (.bl (bs.all fun b => b)) e
  | _ => fun _ _ => False
theorem cd_all : CallD K (rAll K) qAll := by
  intro W H σ e vs ds P Q S r t k
  unfold qAll at t
  split at t
  · obtain ⟨v, rfl, r1⟩ := r.one
    obtain ⟨bs, e1, p⟩ := t
    obtain ⟨a, vs, rfl, h1, h2⟩ := S.ok.lk r1 e1
    rw [h2.bls_inv] at h1
    exact ⟨a, bs, rfl, h1, k _ _ _ _ _ p W.le_refl S (.bl _)⟩
  · exact t.elim
/-- sum of a list or a tuple of ints -/
def rSumA (K : PySem.W.Frag) : List V → Hp → VK → Prop := fun vs H Q => rSum K vs H Q ∨ ∃ (a : Addr) (ns : List Int), vs = [V.ref a] ∧ SqT K H a (ns.map V.int) ∧ Q (.int ns.sum) H
theorem call_sumT (hc : X.calm = true) : CallR X (.builtin "sum") (fun vs H Q => ∃ (a : Addr) (ns : List Int), vs = [V.ref a] ∧ SqT X.K H a (ns.map V.int) ∧ Q (.int ns.sum) H) := by
  intro pins s σ H xs us Q I r h
  obtain ⟨a, ns, rfl, hs, q⟩ := h
  obtain ⟨u, rfl, ru⟩ := vals1 r
  cases (show u = Value.ref a from ru)
  obtain ⟨its, rv, ht, hz⟩ := I.tuple hs
  have hi : IntsAre its ns := Vals.ints rv
  obtain ⟨xs, e⟩ := hi.allInts.items
  have hn : numsOf (intItems xs).toList = ns := by rw [← e]; exact hi.numsOf
  rw [nums_intItems] at hn
  rw [e] at ht
  refine PySem.W.ktm_sumG (I.ok.hd hc) ht fun h' tk t' hk => ?_
  have e2 : PySem.preSum (numAt xs) xs.size = ns.sum := by rw [preSum_eq, List.take_of_length_le (by simp), hn]
  rw [e2]
  exact ⟨.int ns.sum, H, I.kept (t' := tk) hk, ⟨_, rfl⟩, q⟩
theorem call_sumA (hc : X.calm = true) : CallR X (.builtin "sum") (rSumA X.K) := (cr_sum hc).or (call_sumT hc)
def qSum : List D → DE
  | [d] => fun e P => ∃ ns : List Int, seqD e.cs d = some (ns.map .int) ∧ P (.int ns.sum) e
  | _ => fun _ _ => False
theorem cd_sum : CallD K (rSumA K) qSum := by
  intro W H σ e vs ds P Q S r t k
  unfold qSum at t
  split at t
  · obtain ⟨v, rfl, r1⟩ := r.one
    obtain ⟨ns, e1, p⟩ := t
    obtain ⟨a, vs, rfl, h1, h2⟩ := S.ok.seq r1 e1
    rw [h2.ints_inv] at h1
    have q := k _ _ _ _ _ p W.le_refl S (.int _)
    rcases h1 with h1 | h1
    · exact .inl ⟨a, ns, rfl, h1, q⟩
    · exact .inr ⟨a, ns, rfl, h1, q⟩
  · exact t.elim
def qInt : List D → DE
  | [.int i] => fun e P => P (.int i) e
  | [.bl b] => fun e P => P (.int (if b then 1 else 0)) e
  | [.str s] => fun e P => s.length ≤ 640 ∧ ∃ n, PySem.intText? s = some n ∧ P (.int n) e
  | _ => fun _ _ => False
def rIntA : List V → Hp → VK → Prop := fun xs H Q => ((∃ i, xs = [.int i] ∧ Q (.int i) H) ∨ ∃ k, xs = [.bl k] ∧ Q (.int (if k then 1 else 0)) H) ∨ ∃ a n, xs = [.str a] ∧ PySem.intText? a = some n ∧ a.length ≤ 640 ∧ Q (.int n) H
theorem call_intA : CallR X (.type "int") rIntA := call_int1.or call_int_str
theorem cd_int : CallD K rIntA qInt := by
  intro W H σ e vs ds P Q S r t k
  unfold qInt at t
  split at t
  · obtain ⟨v, rfl, r1⟩ := r.one
    cases r1
    exact .inl (.inl ⟨_, rfl, k _ _ _ _ _ t W.le_refl S (.int _)⟩)
  · obtain ⟨v, rfl, r1⟩ := r.one
    cases r1
    exact .inl (.inr ⟨_, rfl, k _ _ _ _ _ t W.le_refl S (.int _)⟩)
  · obtain ⟨v, rfl, r1⟩ := r.one
    obtain ⟨hz, n, hn, t⟩ := t
    cases r1
    exact .inr ⟨_, n, rfl, hn, hz, k _ _ _ _ _ t W.le_refl S (.int _)⟩
  · exact t.elim
end
end DL
namespace DL
open PySem PySem.Spec PyProof.Rows L2
open Evl (Ex)

/-! ### isinstance with a built-in type -/
def tyN (cs : List Cel) : D → Option String
  | .non => some "NoneType"
  | .bl _ => some "bool"
  | .int _ => some "int"
  | .str _ => some "str"
  | .tup _ => some "tuple"
  | .lst _ => some "list"
  | .dct => some "dict"
  | .cell n => match cs[n]? with
    | some (.lst _) => some "list"
    | _ => none
  | _ => none
def isTy (a T : String) : Bool := a == T || (a == "bool" && T == "int")
def tyKnown (T : String) : Bool := ["int", "bool", "str", "tuple", "list"].contains T
theorem kit_all : (["NoneType", "bool", "int", "str", "tuple", "list", "dict"].all fun a => ["int", "bool", "str", "tuple", "list"].all fun T => decide (kitB a T = some (isTy a T))) = true := by decide +kernel
theorem kit_in {a T : String} (ha : a ∈ ["NoneType", "bool", "int", "str", "tuple", "list", "dict"]) (hT : tyKnown T = true) : kitB a T = some (isTy a T) :=
  of_decide_eq_true (List.all_eq_true.mp (List.all_eq_true.mp kit_all a ha) T (List.contains_iff_mem.mp hT))
section
variable {K : PySem.W.Frag} {W : Wd} {H : Hp} {cs : List Cel}
theorem SqT.ty {a : Addr} {vs : List V} (h : SqT K H a vs) : TyX K H (.ref a) (.type "tuple") := by
  rcases h with (h | ⟨o, h⟩) | ⟨o, its, n, h1, h2, _⟩
  · exact .base (.tup h)
  · exact .fTuple h
  · exact .kTuple h1 h2
theorem Ok.ty (h : Ok K W H cs) {d : D} {v : V} {a : String} (r : R K W v d) (e : tyN cs d = some a) : TyX K H v (.type a) ∧ a ∈ ["NoneType", "bool", "int", "str", "tuple", "list", "dict"] := by
  cases r <;> simp only [tyN] at e <;> try cases e
  · exact ⟨.base .non, by decide⟩
  · exact ⟨.base (.bl _), by decide⟩
  · exact ⟨.base (.int _), by decide⟩
  · exact ⟨.base (.str _), by decide⟩
  · rename_i a vs hs ha
    exact ⟨SqT.ty (Evl.ex_t h.ex hs), by decide⟩
  · rename_i a vs hs ha
    exact ⟨.base (.lst (h.ex _ _ hs)), by decide⟩
  · rename_i n a' hm
    split at e
    · rename_i xs hc
      cases e
      obtain ⟨vs, h1, h2⟩ := h.cellL hm hc
      exact ⟨.base (.lst h1), by decide⟩
    · cases e
  · exact ⟨.base (.dK (h.ex _ _ (by assumption))), by decide⟩
def qIsi : List D → DE
  | [d, .raw (.ty T)] => fun e P => tyKnown T = true ∧ ∃ a, tyN e.cs d = some a ∧ P (.bl (isTy a T)) e
  | _ => fun _ _ => False
theorem cd_isi : CallD K (rIsi K) qIsi := by
  intro W H σ e vs ds P Q S r t k
  unfold qIsi at t
  split at t
  · obtain ⟨v, v2, rfl, r1, r2⟩ := r.two
    obtain ⟨hT, a, ea, p⟩ := t
    obtain ⟨ty, mem⟩ := S.ok.ty r1 ea
    cases r2
    exact ⟨v, .ty _, _, _, _, rfl, .ty _, ty, kit_ty (kit_in mem hT), k _ _ _ _ _ p W.le_refl S (.bl _)⟩
  · exact t.elim
end

/-! ### instances -/
def insD (cs : List Cel) : D → Option (Addr × List Str × List D)
  | .ins C ns xs => some (C, ns, xs)
  | .cell n => match cs[n]? with
    | some (.ins C ns xs) => some (C, ns, xs)
    | _ => none
  | _ => none
def getF (f : Str) : List Str → List D → Option D
  | n :: ns, x :: xs => if f = n then some x else getF f ns xs
  | _, _ => none
section
variable {K : PySem.W.Frag} {W : Wd} {H : Hp} {cs : List Cel}
theorem RAll.fld {f : Str} : ∀ {gs : List (Str × V)} {ns : List Str} {xs : List D} {d : D}, gs.map (·.1) = ns → RAll K W (gs.map (·.2)) xs → getF f ns xs = some d → ∃ v, gs.lookup f = some v ∧ R K W v d
  | [], _, _, _, rfl, r, e => by cases r; cases e
  | (n, v) :: gs, _, _, d, rfl, r, e => by
    cases r with
    | cons r1 r2 =>
      have e : (if f = n then some _ else getF f (gs.map (·.1)) _) = some d := e
      by_cases h : f = n
      · rw [if_pos h] at e
        cases e
        exact ⟨v, by simp [List.lookup, h], r1⟩
      · rw [if_neg h] at e
        obtain ⟨w, h1, h2⟩ := RAll.fld rfl r2 e
        have hb : (f == n) = false := by simpa using h
        exact ⟨w, by simp only [List.lookup, hb]; exact h1, h2⟩
theorem lookup_none {f : Str} : ∀ {gs : List (Str × V)}, f ∉ gs.map (·.1) → gs.lookup f = none
  | [], _ => rfl
  | (n, v) :: gs, h => by
    have h1 : f ≠ n := fun e => h (by rw [e]; exact List.mem_cons_self)
    have hb : (f == n) = false := by simpa using h1
    simp only [List.lookup, hb]
    exact lookup_none fun m => h (List.mem_cons_of_mem _ m)
theorem Ok.ins (h : Ok K W H cs) {d : D} {v : V} {C : Addr} {ns : List Str} {xs : List D} (r : R K W v d) (e : insD cs d = some (C, ns, xs)) : ∃ a dx gs, v = .ref a ∧ H a = some (.ins C dx gs) ∧ gs.map (·.1) = ns ∧ RAll K W (gs.map (·.2)) xs := by
  cases r <;> simp only [insD] at e <;> try cases e
  · exact ⟨_, _, _, rfl, h.ex _ _ (by assumption), rfl, by assumption⟩
  · rename_i n a hm
    split at e
    · rename_i C' ns' xs' hc
      cases e
      obtain ⟨dx, gs, h1, h2, h3⟩ := h.cl n a _ hm hc
      exact ⟨a, dx, gs, rfl, h1, h2, h3⟩
    · cases e
end
def eFld (C : Addr) (f : Str) (t : DE) : DE := fun e P => t e fun d e1 => ∃ ns xs v, insD e1.cs d = some (C, ns, xs) ∧ getF f ns xs = some v ∧ P v e1
/-- self.f = v, self an instance that changes -/
def sFldD (C : Addr) (f : Str) (to tv : DE) : DS := fun P e => tv e fun v e1 => to e1 fun o e2 => ∃ n ns xs, o = .cell n ∧ e2.cs[n]? = some (.ins C ns xs) ∧ f ∉ ns ∧ ns.length < 900 ∧ P.nx { e2 with cs := e2.cs.set n (.ins C (ns ++ [f]) (xs ++ [v])) }
/-- a call's promise, by data -/
abbrev Spc := List D → List Cel → (D → List Cel → Prop) → Prop
def spD (K : PySem.W.Frag) (sp : Spc) : Sp := fun vs H Q _ => ∃ W cs ds P, Ok K W H cs ∧ RAll K W vs ds ∧ sp ds cs P ∧ ∀ d cs' W' H' v, P d cs' → W.le W' → Ok K W' H' cs' → R K W' v d → Q v H'
def eCall (sp : Spc) (ta : DA) : DE := fun e P => ta e fun ds e1 => sp ds e1.cs fun d cs' => P d { e1 with cs := cs' }
def eProp (C : Addr) (sp : Spc) (t : DE) : DE := fun e P => t e fun d e1 => (∃ ns xs, insD e1.cs d = some (C, ns, xs)) ∧ sp [d] e1.cs fun r cs' => P r { e1 with cs := cs' }
def eMeth (C : Addr) (m : Str) (sp : Spc) (t : DE) (ta : DA) : DE := fun e P => t e fun d e1 => (∃ ns xs, insD e1.cs d = some (C, ns, xs) ∧ m ∉ ns) ∧ ta e1 fun ds e2 => sp (d :: ds) e2.cs fun r cs' => P r { e2 with cs := cs' }
section
variable {X : Cx} {B : Bs} {ex o : Expr} {es : List Expr} {te tv : DE} {ta : DA} {C : Addr} {f m x : Str} {pos apos p : Pos} {CX : CXT} {k : Nat} {fn pp : Addr} {fd : FuncData} {ps : List Str} {sp : Spc} {dvs : List V} {ds : List Value}
theorem de_fld (c : Cls X.K C) (n : NoAttr X.K C f) (he : PE X ex (lE X.K B te)) (hb : attributeBase ex f X.env (eval ex X.env) = eval ex X.env := by rfl) : PE X (.Attribute ex f pos) (lE X.K B (eFld C f te)) :=
  PE.imp (pe_fld he hb) fun σ H Q ⟨W, e, P, bl, S, t, k⟩ => ⟨W, e, _, bl, S, t, fun d e1 W1 H1 v ⟨ns, xs, w, hi, hf, p⟩ l S1 r => by
    obtain ⟨a, dx, gs, rfl, h1, h2, h3⟩ := S1.ok.ins r hi
    obtain ⟨u, hu, ru⟩ := h3.fld h2 hf
    exact ⟨a, C, dx, gs, u, rfl, h1, c, n, hu, k _ _ _ _ _ p l S1 ru⟩⟩
theorem call_ok {E : XK} (hd : dvs = []) : ∀ σ H Q, lE X.K B (eCall sp ta) σ H Q → tCall (spD X.K sp) dvs E (lA X.K B ta) σ H Q := fun σ H Q ⟨W, e, P, bl, S, t, k⟩ =>
  ⟨W, e, _, bl, S, t, fun ds e1 W1 H1 vs h l S1 r => by
    subst hd
    rw [List.append_nil]
    exact ⟨W1, e1.cs, ds, _, S1.ok, r, h, fun d cs' W2 H2 v p l2 ok2 r2 => k _ _ _ _ _ p (l.tr l2) ⟨ok2, S1.sl.mono l2⟩ r2⟩⟩
theorem de_call (F : FnOk X.prog X.w X.K X.mg X.base CX0 k fn fd ps (spD X.K sp)) (hr : Room k X.A) (hg : Gl X x) (hm : X.mg x = some (.ref fn)) (hk : PySem.W.keepIn X.K (.ref fn) = true) (hb : Binds X.K fd ps [])
    (ha : PA X (ex :: es) (lA X.K B ta)) (hdb : (x == ("__debug__" : Str)) = false := by decide) (he : starEach (ex :: es) X.env = (false, eval ex X.env) :: starEach es X.env := by rfl) (hpl : (backTo pos (starEach es X.env)).any (·.1) = false := by rfl) :
    PE X (.Call (.Name x p) (ex :: es) [] pos) (lE X.K B (eCall sp ta)) := PE.imp (pe_call F hr hg hm hk hb .nil pass0 ha hdb he hpl) (call_ok rfl)
theorem de_prop (c : Cls X.K C) (hp : PropOf X.K C f pp fn) (F : FnOk X.prog X.w X.K X.mg X.base CX0 k fn fd ps (spD X.K sp)) (hr : Room (k + 1) X.A) (hb : Binds X.K fd ps []) (he : PE X ex (lE X.K B te))
    (hab : attributeBase ex f X.env (eval ex X.env) = eval ex X.env := by rfl) : PE X (.Attribute ex f pos) (lE X.K B (eProp C sp te)) :=
  PE.imp (pe_prop he c hp F hr hb .nil (E := E0) (fun _ _ _ _ _ _ _ h => h.elim) hab) fun σ H Q ⟨W, e, P, bl, S, t, k⟩ => ⟨W, e, _, bl, S, t, fun d e1 W1 H1 v ⟨⟨ns, xs, hi⟩, h⟩ l S1 r => by
    obtain ⟨a, dx, gs, rfl, h1, h2, h3⟩ := S1.ok.ins r hi
    exact ⟨a, dx, gs, rfl, h1, W1, e1.cs, [d], _, S1.ok, .cons r .nil, h, fun d cs' W2 H2 v p l2 ok2 r2 => k _ _ _ _ _ p (l.tr l2) ⟨ok2, S1.sl.mono l2⟩ r2⟩⟩
theorem de_meth {pl : Sem Bool} (c : Cls X.K C) (hm : Meth X.K C m fn) (F : FnOk X.prog X.w X.K X.mg X.base CX0 k fn fd ps (spD X.K sp)) (hr : Room k X.A) (hb : Binds X.K fd ps []) (ho : PE X o (lE X.K B te)) (ha : PA X (ex :: es) (lA X.K B ta))
    (hst : starEach (ex :: es) X.env = (false, eval ex X.env) :: starEach es X.env := by rfl) (hpl : (backTo pos (starEach es X.env)).any (·.1) = false := by rfl)
    (ht : eval (.Call (.Attribute o m apos) (ex :: es) [] pos) X.env = (do
      let ov ← eval o X.env
      standAt apos.atName
      let (f, first) ← holding [ov] (getMethod ov m pl)
      callWith pos f first (backTo pos (starEach (ex :: es) X.env)) (backToKw pos (keywordEach [] X.env))) := by rfl) :
    PE X (.Call (.Attribute o m apos) (ex :: es) [] pos) (lE X.K B (eMeth C m sp te ta)) :=
  PE.imp (pe_meth ho c hm F hr hb .nil pass0 ha hst hpl ht) fun σ H Q ⟨W, e, P, bl, S, t, k⟩ => ⟨W, e, _, bl, S, t, fun d e1 W1 H1 v ⟨⟨ns, xs, hi, hn⟩, h⟩ l S1 r => by
    obtain ⟨a, dx, gs, rfl, h1, h2, h3⟩ := S1.ok.ins r hi
    refine ⟨a, dx, gs, rfl, h1, lookup_none (by rw [h2]; exact hn), W1, e1, _, B.up bl l, S1, h, fun ds e2 W2 H2 vs h l2 S2 r2 => ?_⟩
    show spD X.K sp (V.ref a :: (vs ++ [])) H2 Q E0
    rw [List.append_nil]
    exact ⟨W2, e2.cs, d :: ds, _, S2.ok, .cons (R.mono l2 _ _ r) r2, h, fun d cs' W3 H3 v p l3 ok3 r3 => k _ _ _ _ _ p ((l.tr l2).tr l3) ⟨ok3, S2.sl.mono l3⟩ r3⟩⟩
theorem de_meth0 {pl : Sem Bool} (c : Cls X.K C) (hm : Meth X.K C m fn) (F : FnOk X.prog X.w X.K X.mg X.base CX0 k fn fd ps (spD X.K sp)) (hr : Room k X.A) (hb : Binds X.K fd ps []) (ho : PE X o (lE X.K B te))
    (ht : eval (.Call (.Attribute o m apos) [] [] pos) X.env = (do
      let ov ← eval o X.env
      standAt apos.atName
      let (f, first) ← holding [ov] (getMethod ov m pl)
      callWith pos f first (backTo pos (starEach [] X.env)) (backToKw pos (keywordEach [] X.env))) := by rfl) :
    PE X (.Call (.Attribute o m apos) [] [] pos) (lE X.K B (eMeth C m sp te aNil)) :=
  PE.imp (pe_meth0 ho c hm F hr hb .nil pass0 ht) fun σ H Q ⟨W, e, P, bl, S, t, k⟩ => ⟨W, e, _, bl, S, t, fun d e1 W1 H1 v ⟨⟨ns, xs, hi, hn⟩, h⟩ l S1 r => by
    obtain ⟨a, dx, gs, rfl, h1, h2, h3⟩ := S1.ok.ins r hi
    refine ⟨a, dx, gs, rfl, h1, lookup_none (by rw [h2]; exact hn), ?_⟩
    exact ⟨W1, e1.cs, [d], _, S1.ok, .cons r .nil, h, fun d cs' W3 H3 v p l3 ok3 r3 => k _ _ _ _ _ p (l.tr l3) ⟨ok3, S1.sl.mono l3⟩ r3⟩⟩
end
/-! ### a store to a field -/
section
variable {X : Cx} {B : Bs} {o ex : Expr} {te tv : DE} {C : Addr} {f : Str} {pos pos' : Pos} {K : PySem.W.Frag} {W : Wd}
theorem putF_new {f : Str} {v : V} : ∀ {gs : List (Str × V)}, f ∉ gs.map (·.1) → putF f v gs = gs ++ [(f, v)]
  | [], _ => rfl
  | (g, w) :: gs, h => by
    have h1 : f ≠ g := fun e => h (by rw [e]; exact List.mem_cons_self)
    have h2 : f ∉ gs.map (·.1) := fun m => h (List.mem_cons_of_mem _ m)
    have ih := putF_new (v := v) h2
    unfold putF
    first
      | (rw [if_neg h1, ih]; rfl)
      | (rw [if_neg (Ne.symm h1), ih]; rfl)
      | simp [h1, Ne.symm h1, ih]
theorem ds_fld (c : Cls X.K C) (n : NoAttr X.K C f) (ho : PE X o (lE X.K B te)) (hv : PE X ex (lE X.K B tv)) (hs : swapsWith ex (some (.Attribute o f pos')) pos.line X.env = pure false := by rfl) :
    PS X (.Assign [.Attribute o f pos'] ex pos) (lS X.K B (sFldD C f te tv)) := PS.imp (ps_fld ho hv hs) fun E σ H h => by
  obtain ⟨W, e, P, bl, S, h, cv⟩ := lS_un h
  refine ⟨W, e, _, bl, S, h, fun d e1 W1 H1 v t1 l1 S1 r1 => ⟨W1, e1, _, B.up bl l1, S1, t1, fun ob e2 W2 H2 w t2 l2 S2 r2 => ?_⟩⟩
  obtain ⟨n', ns, xs, rfl, hc, hf, hl, p⟩ := t2
  cases r2 with
  | cell hm =>
    obtain ⟨dx, gs, h1, h2, h3⟩ := S2.ok.cl _ _ _ hm hc
    have hgl : gs.length = ns.length := by rw [← h2, List.length_map]
    have hf' : f ∉ gs.map (·.1) := by rw [h2]; exact hf
    refine ⟨_, C, dx, gs, rfl, h1, c, n, by rw [hgl]; omega, ?_⟩
    have r1' := R.mono l2 _ _ r1
    have fin : ∀ gs', gs' = gs ++ [(f, v)] → E.nx σ (upd H2 _ (.ins C dx gs')) := fun gs' e => by
      subst e
      refine cv.nx _ _ _ _ p (l1.tr l2) ⟨S2.ok.setC hm hc (fun z => nomatch z) ⟨dx, _, upd_same, by rw [List.map_append, h2]; rfl, ?_⟩, S2.sl⟩
      rw [List.map_append]
      exact h3.append (.cons r1' .nil)
    exact fin _ (putF_new hf')
end

/-! ### a def keeps its promise -/
mutual
theorem R.lo_of {K : PySem.W.Frag} {W : Wd} : ∀ (d : D) (v : V), R K W v d → loD W.m.length d = true
  | .non, _, _ => rfl
  | .bl _, _, _ => rfl
  | .int _, _, _ => rfl
  | .str _, _, _ => rfl
  | .tup xs, _, h => by
    cases h with
    | tup hs ha => exact RAll.lo_of xs _ ha
  | .lst xs, _, h => by
    cases h with
    | lst hs ha => exact RAll.lo_of xs _ ha
  | .fro xs, _, h => by
    cases h with
    | fro hs ha => exact RAll.lo_of xs _ ha
  | .ins _ _ xs, _, h => by
    cases h with
    | ins hs ha => exact RAll.lo_of xs _ ha
  | .cell n, _, h => by
    cases h with
    | cell hs => exact decide_eq_true (List.getElem?_eq_some_iff.mp hs).1
  | .dct, _, _ => rfl
  | .raw _, _, _ => rfl
  | .exc _ _, _, _ => rfl
theorem RAll.lo_of {K : PySem.W.Frag} {W : Wd} : ∀ (ds : List D) (vs : List V), RAll K W vs ds → los W.m.length ds = true
  | [], _, _ => rfl
  | d :: ds, _, h => by
    cases h with
    | cons h1 h2 =>
      show (loD _ d && los _ ds) = true
      rw [R.lo_of d _ h1, RAll.lo_of ds _ h2] <;> rfl
end
theorem RKs.lo_of {K : PySem.W.Frag} {W : Wd} : ∀ {ps : List (Key × V)} {kxs : List (Int × D)}, RKs K W ps kxs → los W.m.length (kxs.map (·.2)) = true
  | _, _, .nil => rfl
  | _, _, @RKs.cons _ _ _ _ d _ kxs r t => by
    show (loD _ d && los _ (kxs.map (·.2))) = true
    rw [R.lo_of d _ r, RKs.lo_of t] <;> rfl
theorem Ok.cl_lo {K : PySem.W.Frag} {W : Wd} {H : Hp} {cs : List Cel} (h : Ok K W H cs) : ∀ c ∈ cs, c.loD cs.length = true := fun c hc => by
  obtain ⟨n, hn, e⟩ := List.mem_iff_getElem.mp hc
  have hm : n < W.m.length := by rw [h.len]; exact hn
  have x := h.cl n W.m[n] c (by simp [hm]) (by simp [hn, e])
  rw [← h.len]
  cases c with
  | dead => rfl
  | lst xs => obtain ⟨vs, _, r⟩ := x; exact RAll.lo_of _ _ r
  | ins C ns xs => obtain ⟨dx, gs, _, _, r⟩ := x; exact RAll.lo_of _ _ r
  | dic kxs => obtain ⟨ps, _, r⟩ := x; exact r.lo_of
/-- what the caller sees of a def's end: its own cells (from k on) are forgotten, a new list of its own is handed on -/
def FinD (cs0 : List Cel) (P : D → List Cel → Prop) (d : D) (cs : List Cel) : Prop :=
  P d cs ∨ (loD cs0.length d = true ∧ (∀ c ∈ cs.take cs0.length, c ∈ cs0 ∨ c.loD cs0.length = true) ∧ P d (cs.take cs0.length)) ∨
  ∃ n xs, d = .cell n ∧ cs0.length ≤ n ∧ cs[n]? = some (.lst xs) ∧ los cs0.length xs = true ∧ (∀ c ∈ cs.take cs0.length, c ∈ cs0 ∨ c.loD cs0.length = true) ∧
    (P (.lst xs) (cs.take cs0.length) ∨ P (.cell cs0.length) (cs.take cs0.length ++ [.lst xs]))
/-- a list that was just made: the caller takes it as one that changes no more, or as a cell -/
def fresh (xs : List D) (cs : List Cel) (P : D → List Cel → Prop) : Prop := P (.lst xs) cs ∨ P (.cell cs.length) (cs ++ [.lst xs])
section
variable {K : PySem.W.Frag} {W0 W : Wd} {H0 H : Hp} {cs0 cs : List Cel}
theorem Ok.trim (h0 : Ok K W0 H0 cs0) (h : Ok K W H cs) (l : W0.le W) (hc : ∀ c ∈ cs.take cs0.length, c ∈ cs0 ∨ c.loD cs0.length = true) :
    Ok K ⟨W.F, W.m.take cs0.length, W.h⟩ H (cs.take cs0.length) ∧ W0.le ⟨W.F, W.m.take cs0.length, W.h⟩ := by
  refine ⟨h.low (List.all_eq_true.mpr fun c hm => (hc c hm).elim (h0.cl_lo c) fun z => z), l.1, ⟨[], ?_⟩, l.2.2⟩
  obtain ⟨more, e⟩ := l.2.1
  show W.m.take cs0.length = W0.m ++ []
  rw [e, ← h0.len, List.take_left, List.append_nil]
theorem fin_ok {P : D → List Cel → Prop} {Q : VK} (h0 : Ok K W0 H0 cs0) (k : ∀ d cs' W' H' v, P d cs' → W0.le W' → Ok K W' H' cs' → R K W' v d → Q v H') :
    ∀ d cs' W' H' v, FinD cs0 P d cs' → W0.le W' → Ok K W' H' cs' → R K W' v d → Q v H' := by
  intro d cs' W' H' v f l ok r
  rcases f with p | ⟨hd, hc, p⟩ | ⟨n, xs, rfl, hn, hx, hl, hc, p⟩
  · exact k _ _ _ _ _ p l ok r
  · obtain ⟨ok2, l2⟩ := h0.trim ok l hc
    exact k _ _ _ _ _ p l2 ok2 (R.low _ _ r hd)
  · cases r with
    | @cell _ a hm =>
      obtain ⟨vs, h1, h2⟩ := ok.cellL hm hx
      obtain ⟨ok2, l2⟩ := h0.trim ok l hc
      have r2 : RAll K ⟨W'.F, W'.m.take cs0.length, W'.h⟩ vs xs := RAll.low _ _ h2 hl
      have na : a ∉ W'.m.take cs0.length := fun hm2 => by
        obtain ⟨j, hj, e⟩ := List.mem_iff_getElem.mp hm2
        have hj' : j < cs0.length := by rw [List.length_take] at hj; omega
        have e2 : W'.m[j]? = some a := by
          rw [← e]
          have : (W'.m.take cs0.length)[j]? = W'.m[j]? := List.getElem?_take_of_lt hj'
          rw [← this]; exact List.getElem?_eq_getElem hj
        obtain ⟨g1, e1⟩ := List.getElem?_eq_some_iff.mp e2
        obtain ⟨g2, e3⟩ := List.getElem?_eq_some_iff.mp hm
        have := (List.getElem_inj ok.nd).mp (e1.trans e3.symm)
        omega
      have hF : W'.F a = none := (ok.fr n a _ hm hx).resolve_left fun z => nomatch z
      have nh : ∀ q ∈ W'.h, q.1 ≠ a := fun q hq e => (ok.hd q hq).2.2 (e ▸ List.mem_of_getElem? hm)
      -- as a hidden list, then shown
      have okh : Ok K ⟨W'.F, W'.m.take cs0.length, (a, vs) :: W'.h⟩ H' (cs'.take cs0.length) := by
        refine ⟨ok2.ex, ok2.len, ok2.nd, ok2.here, ok2.fr, fun n a c e1 e2 => ClOk.to (ok2.cl n a c e1 e2) rfl rfl, fun q hq => ?_, ?_⟩
        · rcases List.mem_cons.mp hq with rfl | hq
          · exact ⟨h1, hF, na⟩
          · exact ok2.hd q hq
        · show (a :: W'.h.map (·.1)).Nodup
          refine List.nodup_cons.mpr ⟨fun hm => ?_, ok.hn⟩
          obtain ⟨q, hq, e⟩ := List.mem_map.mp hm
          exact nh q hq e
      rcases p with p | p
      · obtain ⟨ok3, l3⟩ := okh.showF
        exact k _ _ _ _ _ p (l2.tr l3) ok3 (.lst upd_same (RAll.mono l3 _ _ r2))
      · obtain ⟨ok3, l3⟩ := okh.showC r2
        refine k _ _ _ _ _ p (l2.tr l3) ok3 (.cell ?_)
        show (W'.m.take cs0.length ++ [a])[cs0.length]? = some a
        have hl : (W'.m.take cs0.length).length = cs0.length := by
          obtain ⟨more, e⟩ := l.2.1
          rw [List.length_take, e, List.length_append, h0.len]; omega
        rw [List.getElem?_append_right (by omega), hl]
        simp
end
/-- a new instance: a cell, or one that changes no more -/
def eMake (C : Addr) (sp : Spc) (ta : DA) : DE := fun e P => ta e fun ds e1 => sp (.cell e1.cs.length :: ds) (e1.cs ++ [.ins C [] []]) fun r cs' => r = .non ∧
  (P (.cell e1.cs.length) { e1 with cs := cs' } ∨ ∃ cs1 C' ns xs, cs' = cs1 ++ [.ins C' ns xs] ∧ cs1.length = e1.cs.length ∧ los e1.cs.length xs = true ∧ (∀ c ∈ cs1, c ∈ e1.cs ∨ c.loD e1.cs.length = true) ∧ P (.ins C' ns xs) { e1 with cs := cs1 })
section
variable {K : PySem.W.Frag} {W : Wd} {H : Hp} {cs : List Cel}
theorem Ok.addF (h : Ok K W H cs) {a : Addr} {o : HO} (ha : H a = some o) (hF : W.F a = none) (hm : a ∉ W.m) (hh : ∀ q ∈ W.h, q.1 ≠ a) : Ok K ⟨upd W.F a o, W.m, W.h⟩ H cs ∧ W.le ⟨upd W.F a o, W.m, W.h⟩ := by
  have l : W.le ⟨upd W.F a o, W.m, W.h⟩ := ⟨Ex.new hF, ⟨[], (List.append_nil _).symm⟩, rfl⟩
  have ne : ∀ b ∈ W.m, b ≠ a := fun b hb e => hm (e ▸ hb)
  refine ⟨⟨fun b u e => ?_, h.len, h.nd, h.here, fun n b c e1 e2 => ?_, fun n b c e1 e2 => (h.cl n b c e1 e2).mono l, fun q hq => ?_, h.hn⟩, l⟩
  · have e : upd W.F a o b = some u := e
    by_cases q : b = a
    · subst q; rw [upd_same] at e; rw [ha]; exact e
    · rw [upd_ne q] at e; exact h.ex b u e
  · rcases h.fr n b c e1 e2 with q | q
    · exact .inl q
    · exact .inr (by show upd W.F a o b = none; rw [upd_ne (ne b (List.mem_of_getElem? e1))]; exact q)
  · obtain ⟨g1, g2, g3⟩ := h.hd q hq
    exact ⟨g1, by show upd W.F a o q.1 = none; rw [upd_ne (hh q hq)]; exact g2, g3⟩
theorem Ok.old_out (h : Ok K W H cs) {n k : Nat} {a : Addr} (hm : W.m[n]? = some a) (hk : k ≤ n := by exact Nat.le_refl _) : a ∉ W.m.take k := fun hm2 => by
  obtain ⟨j, hj, e⟩ := List.mem_iff_getElem.mp hm2
  have hj' : j < k := by rw [List.length_take] at hj; omega
  have e2 : W.m[j]? = some a := by
    rw [← e]
    have : (W.m.take k)[j]? = W.m[j]? := List.getElem?_take_of_lt hj'
    rw [← this]; exact List.getElem?_eq_getElem hj
  obtain ⟨g1, e1⟩ := List.getElem?_eq_some_iff.mp e2
  obtain ⟨g2, e3⟩ := List.getElem?_eq_some_iff.mp hm
  have := (List.getElem_inj h.nd).mp (e1.trans e3.symm)
  omega
end
section
variable {X : Cx} {B : Bs} {ex o : Expr} {es : List Expr} {te tv : DE} {ta : DA} {C : Addr} {f m x : Str} {pos apos p : Pos} {CX : CXT} {k : Nat} {fn pp : Addr} {fd : FuncData} {ps : List Str} {sp : Spc} {dvs : List V} {ds : List Value}
theorem de_make (M : Mk X.K C fn) (F : FnOk X.prog X.w X.K X.mg X.base CX0 k fn fd ps (spD X.K sp)) (hr : Room (k + 1) X.A) (hg : Gl X x) (hm : X.mg x = some (.ref C)) (hb : Binds X.K fd ps [])
    (ha : PA X (ex :: es) (lA X.K B ta)) (hdb : (x == ("__debug__" : Str)) = false := by decide) (he : starEach (ex :: es) X.env = (false, eval ex X.env) :: starEach es X.env := by rfl) (hpl : (backTo pos (starEach es X.env)).any (·.1) = false := by rfl) :
    PE X (.Call (.Name x p) (ex :: es) [] pos) (lE X.K B (eMake C sp ta)) :=
  PE.imp (pe_make M F hr hg hm hb .nil pass0 ha hdb he hpl) fun σ H Q ⟨W, e, P, bl, S, t, k⟩ => ⟨W, e, _, bl, S, t, fun ds e1 W1 H1 vs h l S1 r => fun x dx hx hdx hne => by
    have hx2 : upd H1 dx (.own x) x = none := by rw [upd_ne (Ne.symm hne)]; exact hx
    have okd : Ok X.K W1 (upd H1 dx (.own x)) e1.cs := by
      have ne : ∀ a ∈ W1.m, a ≠ dx := fun a ha e => S1.ok.fresh hdx (e ▸ ha)
      have neh : ∀ q ∈ W1.h, q.1 ≠ dx := fun q hq e => by
        have := (S1.ok.hd q hq).1
        rw [e, hdx] at this; cases this
      refine ⟨S1.ok.ex.trans (Ex.new hdx), S1.ok.len, S1.ok.nd, fun a ha => by rw [upd_ne (ne a ha)]; exact S1.ok.here a ha, S1.ok.fr, fun n a c e1 e2 => (S1.ok.cl n a c e1 e2).heap (upd_ne (ne a (List.mem_of_getElem? e1))), fun q hq => ?_, S1.ok.hn⟩
      obtain ⟨g1, g2, g3⟩ := S1.ok.hd q hq
      exact ⟨by rw [upd_ne (neh q hq)]; exact g1, g2, g3⟩
    obtain ⟨ok, l2⟩ := okd.newC (o := .ins C dx []) (c := .ins C [] []) hx2 fun W' l => ⟨dx, [], upd_same, rfl, .nil⟩
    have rc : R X.K ⟨W1.F, W1.m ++ [x], W1.h⟩ (.ref x) (.cell e1.cs.length) := .cell (by
      show (W1.m ++ [x])[e1.cs.length]? = some x
      rw [← S1.ok.len, List.getElem?_append_right (Nat.le_refl _)]
      simp)
    rw [List.append_nil]
    refine ⟨_, _, _, _, ok, .cons rc (RAll.mono l2 _ _ r), h, fun d cs' W3 H3 v ⟨hd, p⟩ l3 ok3 r3 => ⟨by subst hd; exact r3.non_inv, ?_⟩⟩
    rcases p with p | ⟨cs1, C', ns, xs, rfl, hl, hx, hc, p⟩
    · exact k _ _ _ _ _ p ((l.tr l2).tr l3) ⟨ok3, S1.sl.mono (l2.tr l3)⟩ (R.mono l3 _ _ rc)
    · have l13 := l2.tr l3
      have tk : (cs1 ++ [Cel.ins C' ns xs]).take e1.cs.length = cs1 := by rw [← hl]; exact List.take_left
      obtain ⟨ok4, l4⟩ := S1.ok.trim ok3 l13 (by rw [tk]; exact hc)
      rw [tk] at ok4
      have rc3 := R.mono l3 _ _ rc
      cases rc3 with
      | cell hm =>
        have hcl : (cs1 ++ [Cel.ins C' ns xs])[e1.cs.length]? = some (Cel.ins C' ns xs) := by
          rw [← hl, List.getElem?_append_right (Nat.le_refl _)]; simp
        obtain ⟨dx', gs, g1, g2, g3⟩ := ok3.cl _ _ _ hm hcl
        have g4 : RAll X.K ⟨W3.F, W3.m.take e1.cs.length, W3.h⟩ (gs.map (·.2)) xs := RAll.low _ _ g3 hx
        have hF : W3.F x = none := (ok3.fr _ _ _ hm hcl).resolve_left fun z => nomatch z
        obtain ⟨ok5, l5⟩ := ok4.addF g1 hF (ok3.old_out hm) (fun q hq e => (ok3.hd q hq).2.2 (e ▸ List.mem_of_getElem? hm))
        subst g2
        exact k _ _ _ _ _ p (l.tr (l4.tr l5)) ⟨ok5, S1.sl.mono (l4.tr l5)⟩ (.ins upd_same (RAll.mono l5 _ _ g4))⟩
end
def startD (N : List Str) (ds : List D) : List (Option D) := ds.map some ++ List.replicate (N.length - ds.length) none
theorem start_ok {K : PySem.W.Frag} {W : Wd} {N : List Str} {vs : List V} {ds : List D} (r : RAll K W vs ds) : SlO K W (L2.start N vs) (startD N ds) := by
  refine ⟨by simp [L2.start, startD, r.length], fun i d e => ?_⟩
  unfold startD at e
  unfold L2.start
  by_cases hi : i < ds.length
  · rw [List.getElem?_append_left (by simpa using hi), List.getElem?_map] at e
    cases h : ds[i]? with
    | none => rw [h] at e; cases e
    | some d' =>
      rw [h] at e
      cases e
      obtain ⟨v, hv, rv⟩ := r.get h
      exact ⟨v, by rw [List.getElem?_append_left (by rw [List.length_map, r.length]; exact hi), List.getElem?_map, hv] <;> rfl, rv⟩
  · rw [List.getElem?_append_right (by simpa using hi), List.getElem?_replicate] at e
    split at e <;> cases e
abbrev cx0 (P : Program) (w : World) (K : PySem.W.Frag) (mg : Str → Option Value) (base : Heap) (N : List Str) (qual : Str) (scope : Scope) (f : Addr) (cd : Value) (A : Around) (outer : List Env) (s : Shared) (H : Hp) (E : XK) : Cx := (cxOf CX0 P w K mg base N qual scope f cd A outer s H E).nox
/-- a def's end -/
def Po.fn (cs : List Cel) (Q : D → List Cel → Prop) : Po := { nx := fun e => FinD cs Q .non e.cs, rt := FinD cs Q }
/-- THE RULE for a def that raises nothing -/
theorem fn_d {P : Program} {w : World} {K : PySem.W.Frag} {mg : Str → Option Value} {base : Heap} {x qual : Str} {params : Arguments} {body : List Stmt} {scope : Scope} {dvs : List V} {kws : List (Str × V)} {f : Addr} {fd : FuncData} {N ps : List Str} {k : Nat} {sp : Spc} {t : DS}
    (F : FunD K x qual params body scope dvs kws f fd) (S : FnScope N ps scope) (len : ∀ ds cs Q, sp ds cs Q → ds.length = ps.length)
    (der : ∀ (cdv : Value) (A : Around) (outer : List Env) (s : Shared) (H : Hp) (E : XK) (B : Bs), Room k (A.deeper (envOfC qual scope s.heap.objs.size f cdv)) → PSs (cx0 P w K mg base N qual scope f cdv A outer s H E) body (lS K B t))
    (vc : ∀ ds cs Q, (∀ d ∈ ds, loD cs.length d = true) → (∀ c ∈ cs, c.loD cs.length = true) → sp ds cs Q → t (Po.fn cs Q) ⟨startD N ds, cs⟩) : FnOk P w K mg base CX0 (k + 1) f fd ps (spD K sp) := by
  refine F.ok S (fun vs H Q E ⟨W, cs, ds, P', ok, r, h, _⟩ => by rw [r.length]; exact len _ _ _ h) fun cdv A outer s H vs Q E hr ⟨W, cs, ds, P', ok, r, h, kk⟩ => ?_
  refine ⟨_, PSs.nox (der cdv A outer s H E (Bs.of W) hr), W, ⟨startD N ds, cs⟩, _, W.le_refl, ⟨ok, start_ok r⟩, vc ds cs P' (fun d hd => ?_) ok.cl_lo h, ?_, fin_ok ok kk, fun _ _ _ _ z => z.elim, fun _ _ _ _ z => z.elim⟩
  · obtain ⟨i, hi, e⟩ := List.mem_iff_getElem.mp hd
    obtain ⟨v, hv, rv⟩ := r.get (i := i) (d := d) (by simp [hi, e])
    rw [← ok.len]
    exact R.lo_of _ _ rv
  · exact fun e' W' H' σ' p l S' => fin_ok ok kk .non e'.cs W' H' .non p l S'.ok .non
end DL
namespace DL
open PySem PySem.Spec PyProof.Rows L2
open Evl (Ex)

/-! ### a list's methods -/
def MtD (K : PySem.W.Frag) (r : V → List V → Hp → VK → Prop) (q : D → List D → DE) : Prop := ∀ (W : Wd) (H : Hp) (σ : L2.St) (e : En) (x : V) (vs : List V) (d : D) (ds : List D) (P : D → En → Prop) (Q : VK), Sd K W H σ e → R K W x d → RAll K W vs ds → q d ds e P →
  (∀ d e' W' H' v, P d e' → W.le W' → Sd K W' H' σ e' → R K W' v d → Q v H') → r x vs H Q
def eBM (q : D → List D → DE) (te : DE) (ta : DA) : DE := fun e P => te e fun d e1 => (∃ xs, lk e1.cs d = some xs) ∧ ta e1 fun ds e2 => q d ds e2 P
def eBM0 (q : D → List D → DE) (te : DE) : DE := fun e P => te e fun d e1 => (∃ xs, lk e1.cs d = some xs) ∧ q d [] e1 P
section
variable {K : PySem.W.Frag} {X : Cx} {B : Bs} {o ex : Expr} {es : List Expr} {te : DE} {ta : DA} {name : Str} {apos cpos : Pos} {id : String} {r : V → List V → Hp → VK → Prop} {q : D → List D → DE}
theorem Ok.tyL {W : Wd} {H : Hp} {cs : List Cel} (h : Ok K W H cs) {d : D} {v : V} {xs : List D} (r : R K W v d) (e : DL.lk cs d = some xs) : tyV K "list" v H := by
  obtain ⟨a, vs, rfl, h1, _⟩ := h.lk r e
  exact .inl ⟨rfl, vs, h1⟩
theorem de_bm (pa : PlainAttrs "list") (slot : Slot "list" name id) (hty : typeOf (.builtin id) = pure (.type "method_descriptor")) (hm : MtR X id r) (hq : MtD X.K r q) (ho : PE X o (lE X.K B te)) (ha : PA X (ex :: es) (lA X.K B ta))
    (hbase : attributeBase o name X.env (eval o X.env) = eval o X.env := by rfl)
    (hfew : ((backTo cpos (starEach (ex :: es) X.env)).all (fun x => !x.1) && (backToKw cpos (keywordEach [] X.env)).all (fun x => x.1.isSome)
      && decide ((ex :: es).length + ([] : List Keyword).length + (if ([] : List Keyword).isEmpty then 0 else 1) < 30)) = true := by rfl)
    (hline : (apos.endLine == cpos.line) = true := by rfl) (hs : starEach (ex :: es) X.env = (false, eval ex X.env) :: starEach es X.env := by rfl) (hplain : (backTo cpos (starEach es X.env)).any (·.1) = false := by rfl) :
    PE X (.Call (.Attribute o name apos) (ex :: es) [] cpos) (lE X.K B (eBM q te ta)) :=
  PE.imp (pe_bm pa slot hty hm ho ha hbase hfew hline hs hplain) fun σ H Q ⟨W, e, P, bl, S, t, k⟩ => ⟨W, e, _, bl, S, t, fun d e1 W1 H1 v ⟨⟨xs, hx⟩, t1⟩ l1 S1 r1 =>
    ⟨S1.ok.tyL r1 hx, W1, e1, _, B.up bl l1, S1, t1, fun ds e2 W2 H2 vs t2 l2 S2 r2 => hq W2 H2 σ e2 v vs d ds P Q S2 (R.mono l2 _ _ r1) r2 t2 fun d e3 W3 H3 v3 p l3 S3 r3 => k d e3 W3 H3 v3 p ((l1.tr l2).tr l3) S3 r3⟩⟩
theorem de_bm0 (pa : PlainAttrs "list") (slot : Slot "list" name id) (hty : typeOf (.builtin id) = pure (.type "method_descriptor")) (hm : MtR X id r) (hq : MtD X.K r q) (ho : PE X o (lE X.K B te))
    (hbase : attributeBase o name X.env (eval o X.env) = eval o X.env := by rfl) (hline : (apos.endLine == cpos.line) = true := by rfl) : PE X (.Call (.Attribute o name apos) [] [] cpos) (lE X.K B (eBM0 q te)) :=
  PE.imp (pe_bm0 pa slot hty hm ho hbase hline) fun σ H Q ⟨W, e, P, bl, S, t, k⟩ => ⟨W, e, _, bl, S, t, fun d e1 W1 H1 v ⟨⟨xs, hx⟩, t1⟩ l1 S1 r1 =>
    ⟨S1.ok.tyL r1 hx, hq W1 H1 σ e1 v [] d [] P Q S1 r1 .nil t1 fun d e3 W3 H3 v3 p l3 S3 r3 => k d e3 W3 H3 v3 p (l1.tr l3) S3 r3⟩⟩
def qApp : D → List D → DE := fun d ds e P => ∃ n xs y, d = .cell n ∧ ds = [y] ∧ e.cs[n]? = some (.lst xs) ∧ xs.length < sizeLine ∧ P .non { e with cs := e.cs.set n (.lst (xs ++ [y])) }
theorem md_app : MtD K rAppend qApp := by
  rintro W H σ e x vs d ds P Q S r rs ⟨n, xs, y, rfl, rfl, hc, hz, p⟩ k
  obtain ⟨v, rfl, rv⟩ := rs.one
  cases r with
  | @cell _ a hm =>
    obtain ⟨vs, h1, h2⟩ := S.ok.cellL hm hc
    refine ⟨a, vs, v, rfl, rfl, h1, by rw [h2.length]; exact hz, ?_⟩
    exact k _ _ _ _ _ p W.le_refl ⟨S.ok.setC hm hc (fun z => nomatch z) ⟨_, upd_same, h2.app1 rv⟩, S.sl⟩ .non
def qRevM : D → List D → DE := fun d ds e P => ∃ n xs, d = .cell n ∧ e.cs[n]? = some (.lst xs) ∧ P .non { e with cs := e.cs.set n (.lst xs.reverse) }
theorem md_rev : MtD K rReverse (fun d ds e P => ds = [] ∧ qRevM d ds e P) := by
  rintro W H σ e x vs d ds P Q S r rs ⟨rfl, n, xs, rfl, hc, p⟩ k
  cases rs
  cases r with
  | @cell _ a hm =>
    obtain ⟨vs, h1, h2⟩ := S.ok.cellL hm hc
    refine ⟨a, vs, rfl, rfl, h1, ?_⟩
    exact k _ _ _ _ _ p W.le_refl ⟨S.ok.setC hm hc (fun z => nomatch z) ⟨_, upd_same, h2.reverse⟩, S.sl⟩ .non
end

/-! ### what is left to show, step by step -/
section
variable {e : En} {P : D → En → Prop} {PB : Bool → En → Prop} {PA' : List D → En → Prop} {Po' : Po} {i : Nat} {d x y : D} {ta tb tc te tv to ti : DE} {t u : DT} {q q' : D → D → DE} {a b : Int} {k : Bool} {s : DS} {A C : Prop} {o : Bool} {tr : DA}
theorem v_var (h : e.sl[i]? = some (some d)) (p : P d e) : eV i e P := ⟨d, h, p⟩
theorem v_c (p : P d e) : eC d e P := p
theorem v_bin (h : ta e fun x e1 => tb e1 fun y e2 => q x y e2 P) : eBin q ta tb e P := h
theorem v_chain (h : ta e fun x e1 => tb e1 fun y e2 => q x y e2 fun z e3 => ∃ k, z = .bl k ∧ if k = true then tc e3 fun w e4 => q' y w e4 P else P (.bl false) e3) : eChain q q' ta tb tc e P := h
theorem v_test (h : te e fun d e1 => ∃ k, d = .bl k ∧ PB k e1) : eTest te e PB := h
theorem v_tru (h : te e fun d e1 => ∃ k, tru e1.cs d = some k ∧ PB k e1) : eTru te e PB := h
theorem v_dand (h : t e fun c e1 => if c = true then u e1 PB else PB false e1) : dAnd t u e PB := h
theorem v_dor (h : t e fun c e1 => if c = true then PB true e1 else u e1 PB) : dOr t u e PB := h
theorem v_dnot (h : t e fun c e1 => PB (!c) e1) : dNot t e PB := h
theorem v_dyes (h : PB true e) : dYes e PB := h
theorem v_eand (h : ta e fun x e1 => ∃ c, x = .bl c ∧ if c = true then tb e1 P else P (.bl false) e1) : eAnd ta tb e P := h
theorem v_eor (h : ta e fun x e1 => ∃ c, x = .bl c ∧ if c = true then P (.bl true) e1 else tb e1 P) : eOr ta tb e P := h
theorem v_enot (h : ta e fun x e1 => ∃ c, x = .bl c ∧ P (.bl (!c)) e1) : eNot ta e P := h
theorem v_eif (h : t e fun c e1 => if c = true then ta e1 P else tb e1 P) : eIf t ta tb e P := h
theorem v_anil (h : PA' [] e) : aNil e PA' := h
theorem v_acons (h : te e fun d e1 => tr e1 fun ds e2 => PA' (d :: ds) e2) : aCons te tr e PA' := h
theorem v_tup (h : tr e fun ds e1 => ds.length ≤ sizeLine ∧ P (.tup ds) e1) : eTup tr e P := h
theorem v_lst (h : tr e fun ds e1 => ds.length ≤ sizeLine ∧ newL o ds e1 P) : eLst o tr e P := h
theorem v_newF {xs : List D} (h : P (.lst xs) e) : newL false xs e P := h
theorem v_newC {xs : List D} (h : P (.cell e.cs.length) { e with cs := e.cs ++ [.lst xs] }) : newL true xs e P := h
theorem v_cb {qq : List D → DE} (h : tr e fun ds e1 => qq ds e1 P) : eCB qq tr e P := h
theorem v_call {sp : Spc} (h : tr e fun ds e1 => sp ds e1.cs fun d cs' => P d { e1 with cs := cs' }) : eCall sp tr e P := h
theorem v_sl {tl th : DO} (h : te e fun x e1 => tl e1 fun l e2 => th e2 fun h e3 => qSl o x l h e3 P) : eSl o te tl th e P := h
theorem v_onone {PO' : Option Int → En → Prop} (h : PO' none e) : oNone e PO' := h
theorem v_osome {PO' : Option Int → En → Prop} (h : te e fun d e1 => ∃ i, d = .int i ∧ PO' (some i) e1) : oSome te e PO' := h
theorem v_bm {qq : D → List D → DE} (h : te e fun d e1 => (∃ xs, lk e1.cs d = some xs) ∧ tr e1 fun ds e2 => qq d ds e2 P) : eBM qq te tr e P := h
theorem v_bm0 {qq : D → List D → DE} (h : te e fun d e1 => (∃ xs, lk e1.cs d = some xs) ∧ qq d [] e1 P) : eBM0 qq te e P := h
theorem v_prop {C : Addr} {sp : Spc} (h : te e fun d e1 => (∃ ns xs, insD e1.cs d = some (C, ns, xs)) ∧ sp [d] e1.cs fun r cs' => P r { e1 with cs := cs' }) : eProp C sp te e P := h
theorem v_fld {C : Addr} {f : Str} (h : te e fun d e1 => ∃ ns xs v, insD e1.cs d = some (C, ns, xs) ∧ getF f ns xs = some v ∧ P v e1) : eFld C f te e P := h
theorem v_meth {C : Addr} {m : Str} {sp : Spc} (h : te e fun d e1 => (∃ ns xs, insD e1.cs d = some (C, ns, xs) ∧ m ∉ ns) ∧ tr e1 fun ds e2 => sp (d :: ds) e2.cs fun r cs' => P r { e2 with cs := cs' }) : eMeth C m sp te tr e P := h
theorem v_make {C : Addr} {sp : Spc} (h : tr e fun ds e1 => sp (.cell e1.cs.length :: ds) (e1.cs ++ [.ins C [] []]) fun r cs' => r = .non ∧
  (P (.cell e1.cs.length) { e1 with cs := cs' } ∨ ∃ cs1 C' ns xs, cs' = cs1 ++ [.ins C' ns xs] ∧ cs1.length = e1.cs.length ∧ los e1.cs.length xs = true ∧ (∀ c ∈ cs1, c ∈ e1.cs ∨ c.loD e1.cs.length = true) ∧ P (.ins C' ns xs) { e1 with cs := cs1 })) : eMake C sp tr e P := h
-- statements
theorem v_nthn {u : DS} (h : u Po' e) : (Po'.thn u).nx e := h
theorem v_rthn {u : DS} {cs : List Cel} (h : Po'.rt d cs) : (Po'.thn u).rt d cs := h
theorem v_bthn {u : DS} (h : Po'.bk e) : (Po'.thn u).bk e := h
theorem v_cthn {u : DS} (h : Po'.ct e) : (Po'.thn u).ct e := h
theorem v_nlp {N : En → Prop} (h : N e) : (Po'.lp N).nx e := h
theorem v_rlp {N : En → Prop} {cs : List Cel} (h : Po'.rt d cs) : (Po'.lp N).rt d cs := h
theorem v_blp {N : En → Prop} (h : Po'.nx e) : (Po'.lp N).bk e := h
theorem v_clp {N : En → Prop} (h : N e) : (Po'.lp N).ct e := h
theorem v_nfn {cs : List Cel} {Q : D → List Cel → Prop} (h : FinD cs Q .non e.cs) : (Po.fn cs Q).nx e := h
theorem v_rfn {cs cs' : List Cel} {Q : D → List Cel → Prop} (h : FinD cs Q d cs') : (Po.fn cs Q).rt d cs' := h
theorem v_break (h : Po'.bk e) : sBreak Po' e := h
theorem v_cont (h : Po'.ct e) : sCont Po' e := h
theorem v_seq {s1 s2 : DS} (h : s1 (Po'.thn s2) e) : sSeq s1 s2 Po' e := h
theorem v_next (h : Po'.nx e) : sNext Po' e := h
theorem v_drop (h : te e fun _ e1 => Po'.nx e1) : sDrop te Po' e := h
theorem v_ret (h : te e fun d e1 => Po'.rt d e1.cs) : sRet te Po' e := h
theorem v_retN (h : Po'.rt .non e.cs) : sRetN Po' e := h
theorem v_if {s1 s2 : DS} (h : t e fun b e1 => if b = true then s1 Po' e1 else s2 Po' e1) : sIf t s1 s2 Po' e := h
theorem v_asg (h : te e fun d e1 => Po'.nx { e1 with sl := e1.sl.set i (some d) }) : sAsg te i Po' e := h
theorem v_asgT {tg : Tg} (h : te e fun d e1 => ∃ sl', setTg tg d e1.sl = some sl' ∧ Po'.nx ⟨sl', e1.cs⟩) : sAsgT te tg Po' e := h
theorem v_lenL {xs : List D} (h : seqD e.cs d = some xs) (hs : ∀ s, d ≠ .str s) (p : P (.int xs.length) e) : qLen [d] e P := by
  cases d <;> first | exact absurd rfl (hs _) | exact ⟨xs, h, p⟩
theorem v_listL {xs : List D} (h : seqD e.cs d = some xs) (p : newL o xs e P) : qList o [d] e P := ⟨xs, h, p⟩
theorem v_tupL {xs : List D} (h : lk e.cs d = some xs) (ht : ∀ s, d ≠ .tup s) (p : P (.tup xs) e) : qTuple [d] e P := by
  cases d <;> first | exact absurd rfl (ht _) | exact ⟨xs, h, p⟩
theorem v_tupT {xs : List D} (p : P (.tup xs) e) : qTuple [.tup xs] e P := p
theorem v_sumL {ns : List Int} (h : seqD e.cs d = some (ns.map .int)) (p : P (.int ns.sum) e) : qSum [d] e P := ⟨ns, h, p⟩
theorem v_allL {bs : List Bool} (h : lk e.cs d = some (bs.map .bl)) (p : P (.bl (bs.all fun b => b)) e) : qAll [d] e P := ⟨bs, h, p⟩
theorem v_slL {xs : List D} {l h : Option Int} (h1 : lk e.cs d = some xs) (ht : ∀ s, d ≠ .tup s) (hs : ∀ s, d ≠ .str s) (p : newL o (cutD xs l h) e P) : qSl o d l h e P := by
  unfold qSl
  split
  · exact absurd rfl (ht _)
  · exact absurd rfl (hs _)
  · exact ⟨xs, h1, p⟩
theorem v_sub {tv to ti : DE} (h : tv e fun v e1 => to e1 fun o e2 => ti e2 fun i e3 => ∃ n xs k j, o = .cell n ∧ e3.cs[n]? = some (.lst xs) ∧ i = .int k ∧ ixN xs.length k = some j ∧ Po'.nx { e3 with cs := e3.cs.set n (.lst (xs.set j v)) }) : sSub tv to ti Po' e := h
theorem v_rev (h : te e fun x e1 => ∃ xs, lk e1.cs x = some xs ∧ newL o xs.reverse e1 P) : eRev o te e P := h
theorem v_sz {xs : List D} {p : Prop} (h : decide (xs.length ≤ 1000) = true) (q : p) : xs.length ≤ sizeLine ∧ p := ⟨Nat.le_trans (of_decide_eq_true h) (by decide), q⟩
-- operators on known kinds
theorem v_addI (p : P (.int (a + b)) e) : qAdd o (.int a) (.int b) e P := p
theorem v_subI (p : P (.int (a - b)) e) : qSub (.int a) (.int b) e P := p
theorem v_mulI (c : MulOk a b) (p : P (.int (a * b)) e) : qMul (.int a) (.int b) e P := ⟨c, p⟩
theorem v_fdivI (c : FdivOk a b) (p : P (.int (a / b)) e) : qFdiv (.int a) (.int b) e P := ⟨c, p⟩
theorem v_modI (c : 0 < b) (p : P (.int (a % b)) e) : qMod (.int a) (.int b) e P := ⟨c, p⟩
theorem v_powI (c : CPow a b) (p : P (.int (a ^ b.toNat)) e) : qPow (.int a) (.int b) e P := ⟨c, p⟩
theorem v_ltI (p : P (.bl (decide (a < b))) e) : qLt (.int a) (.int b) e P := p
theorem v_leI (p : P (.bl (decide (a ≤ b))) e) : qLe (.int a) (.int b) e P := p
theorem v_gtI (p : P (.bl (decide (b < a))) e) : qGt (.int a) (.int b) e P := p
theorem v_geI (p : P (.bl (decide (b ≤ a))) e) : qGe (.int a) (.int b) e P := p
theorem v_eqI (p : P (.bl (decide (a = b))) e) : qEq (.int a) (.int b) e P := p
theorem v_neI (p : P (.bl (!decide (a = b))) e) : qNe (.int a) (.int b) e P := p
theorem v_intI (p : P (.int a) e) : qInt [.int a] e P := p
theorem v_intB (p : P (.int (if k then 1 else 0)) e) : qInt [.bl k] e P := p
theorem v_isi {T : String} {c : String} (h : tyKnown T = true) (h1 : tyN e.cs d = some c) (p : P (.bl (isTy c T)) e) : qIsi [d, .raw (.ty T)] e P := ⟨h, c, h1, p⟩
theorem v_isiT {T c : String} (h : tyKnown T = true) (h1 : tyN e.cs d = some c) (h2 : isTy c T = true) (p : P (.bl true) e) : qIsi [d, .raw (.ty T)] e P := ⟨h, c, h1, by rw [h2]; exact p⟩
theorem v_isiF {T c : String} (h : tyKnown T = true) (h1 : tyN e.cs d = some c) (h2 : isTy c T = false) (p : P (.bl false) e) : qIsi [d, .raw (.ty T)] e P := ⟨h, c, h1, by rw [h2]; exact p⟩
theorem v_ixT {xs : List D} (h : atI xs a = some d) (p : P d e) : qIx (.tup xs) (.int a) e P := ⟨d, h, p⟩
theorem v_ixL {xs : List D} (h : atI xs a = some d) (p : P d e) : qIx (.lst xs) (.int a) e P := ⟨xs, rfl, d, h, p⟩
theorem v_ixC {n : Nat} {xs : List D} (hc : e.cs[n]? = some (.lst xs)) (h : atI xs a = some d) (p : P d e) : qIx (.cell n) (.int a) e P := ⟨xs, by show (match e.cs[n]? with | some (.lst xs) => some xs | _ => none) = some xs; rw [hc], d, h, p⟩
theorem tyN_cell {cs : List Cel} {n : Nat} {a : String} (h : tyN cs (.cell n) = some a) : a = "list" := by
  simp only [tyN] at h
  split at h
  · cases h; rfl
  · cases h
theorem v_ixCx {n : Nat} (h : ∃ xs d, e.cs[n]? = some (.lst xs) ∧ atI xs a = some d ∧ P d e) : qIx (.cell n) (.int a) e P := by
  obtain ⟨xs, d, h1, h2, h3⟩ := h
  exact v_ixC h1 h2 h3
theorem v_bl {PK : Bool → Prop} (h : PK k) : ∃ k', D.bl k = .bl k' ∧ PK k' := ⟨k, rfl, h⟩
theorem v_in {PK : Int → Prop} (h : PK a) : ∃ k', D.int a = .int k' ∧ PK k' := ⟨a, rfl, h⟩
theorem v_T {A B : Prop} (h : A) : if true = true then A else B := iteT h
theorem v_F {A B : Prop} (h : B) : if false = true then A else B := iteF h
theorem v_ite {c : Bool} {A B : Prop} (h1 : c = true → A) (h2 : c = false → B) : if c = true then A else B := by
  cases c with
  | true => exact iteT (h1 rfl)
  | false => exact iteF (h2 rfl)
theorem v_itd {c : Prop} [Decidable c] {A B : Prop} (h1 : c → A) (h2 : ¬ c → B) : if decide c = true then A else B := by
  by_cases h : c
  · rw [decide_eq_true h]; exact iteT (h1 h)
  · rw [decide_eq_false h]; exact iteF (h2 h)
theorem v_itdn {c : Prop} [Decidable c] {A B : Prop} (h1 : ¬ c → A) (h2 : c → B) : if (!decide c) = true then A else B := by
  by_cases h : c
  · rw [decide_eq_true h]; exact iteF (h2 h)
  · rw [decide_eq_false h]; exact iteT (h1 h)
end
end DL
namespace DL
open PySem PySem.Spec PyProof.Rows L2
open Evl (Ex)

/-- the def at f keeps its promise, at most k deep -/
def Good (P : Program) (w : World) (K : PySem.W.Frag) (mg : Str → Option Value) (base : Heap) (k : Nat) (f : Addr) (ps : List Str) (sp : Spc) : Prop :=
  ∃ fd, FnOk P w K mg base CX0 k f fd ps (spD K sp) ∧ Binds K fd ps [] ∧ PySem.W.keepIn K (.ref f) = true
theorem Good.mono {P : Program} {w : World} {K : PySem.W.Frag} {mg : Str → Option Value} {base : Heap} {j k : Nat} {f : Addr} {ps : List Str} {sp : Spc} (g : Good P w K mg base j f ps sp) (h : j ≤ k) : Good P w K mg base k f ps sp := by
  obtain ⟨fd, F, b, kp⟩ := g
  exact ⟨fd, F.mono h, b, kp⟩
section
variable {X : Cx} {B : Bs} {ex o a b : Expr} {es : List Expr} {te tv ta' tb' : DE} {ta : DA} {C : Addr} {f m x : Str} {pos apos p : Pos} {k : Nat} {fn pp : Addr} {ps : List Str} {sp : Spc}
theorem de_callG (G : Good X.prog X.w X.K X.mg X.base k fn ps sp) (hr : Room k X.A) (hm : X.mg x = some (.ref fn)) (ha : PA X (ex :: es) (lA X.K B ta)) (hg : Gl X x := by rfl) (hdb : (x == ("__debug__" : Str)) = false := by decide)
    (he : starEach (ex :: es) X.env = (false, eval ex X.env) :: starEach es X.env := by rfl) (hpl : (backTo pos (starEach es X.env)).any (·.1) = false := by rfl) : PE X (.Call (.Name x p) (ex :: es) [] pos) (lE X.K B (eCall sp ta)) := by
  obtain ⟨fd, F, b, kp⟩ := G
  exact de_call F hr hg hm kp b ha hdb he hpl
theorem de_propG (G : Good X.prog X.w X.K X.mg X.base k fn ps sp) (hr : Room (k + 1) X.A) (c : Cls X.K C) (hp : PropOf X.K C f pp fn) (he : PE X ex (lE X.K B te)) (hab : attributeBase ex f X.env (eval ex X.env) = eval ex X.env := by rfl) :
    PE X (.Attribute ex f pos) (lE X.K B (eProp C sp te)) := by
  obtain ⟨fd, F, b, kp⟩ := G
  exact de_prop c hp F hr b he hab
theorem de_methG {pl : Sem Bool} (G : Good X.prog X.w X.K X.mg X.base k fn ps sp) (hr : Room k X.A) (c : Cls X.K C) (hm : Meth X.K C m fn) (ho : PE X o (lE X.K B te)) (ha : PA X (ex :: es) (lA X.K B ta))
    (hst : starEach (ex :: es) X.env = (false, eval ex X.env) :: starEach es X.env := by rfl) (hpl : (backTo pos (starEach es X.env)).any (·.1) = false := by rfl)
    (ht : eval (.Call (.Attribute o m apos) (ex :: es) [] pos) X.env = (do
      let ov ← eval o X.env
      standAt apos.atName
      let (f, first) ← holding [ov] (getMethod ov m pl)
      callWith pos f first (backTo pos (starEach (ex :: es) X.env)) (backToKw pos (keywordEach [] X.env))) := by rfl) :
    PE X (.Call (.Attribute o m apos) (ex :: es) [] pos) (lE X.K B (eMeth C m sp te ta)) := by
  obtain ⟨fd, F, b, kp⟩ := G
  exact de_meth (pl := pl) c hm F hr b ho ha hst hpl ht
theorem de_methG0 {pl : Sem Bool} (G : Good X.prog X.w X.K X.mg X.base k fn ps sp) (hr : Room k X.A) (c : Cls X.K C) (hm : Meth X.K C m fn) (ho : PE X o (lE X.K B te))
    (ht : eval (.Call (.Attribute o m apos) [] [] pos) X.env = (do
      let ov ← eval o X.env
      standAt apos.atName
      let (f, first) ← holding [ov] (getMethod ov m pl)
      callWith pos f first (backTo pos (starEach [] X.env)) (backToKw pos (keywordEach [] X.env))) := by rfl) :
    PE X (.Call (.Attribute o m apos) [] [] pos) (lE X.K B (eMeth C m sp te aNil)) := by
  obtain ⟨fd, F, b, kp⟩ := G
  exact de_meth0 (pl := pl) c hm F hr b ho ht
theorem de_makeG (G : Good X.prog X.w X.K X.mg X.base k fn ps sp) (hr : Room (k + 1) X.A) (M : Mk X.K C fn) (hm : X.mg x = some (.ref C)) (ha : PA X (ex :: es) (lA X.K B ta)) (hg : Gl X x := by rfl) (hdb : (x == ("__debug__" : Str)) = false := by decide)
    (he : starEach (ex :: es) X.env = (false, eval ex X.env) :: starEach es X.env := by rfl) (hpl : (backTo pos (starEach es X.env)).any (·.1) = false := by rfl) : PE X (.Call (.Name x p) (ex :: es) [] pos) (lE X.K B (eMake C sp ta)) := by
  obtain ⟨fd, F, b, kp⟩ := G
  exact de_make M F hr hg hm b ha hdb he hpl
end

/-! ### own special methods -/
/-- the class at C has the special method m, the def at f -/
structure Sm (K : PySem.W.Frag) (C : Addr) (m : Str) (f : Addr) : Prop where
  at_ : PySem.W.findIn K (.ref C) m = some (some (.ref f))
  fn : PySem.W.isFn K (.ref f) = true
theorem Inv.inst {X : Cx} {pins : List (Addr × Obj)} {σ : L2.St} {H : Hp} {s : Shared} {a C dx : Addr} {fs : List (Str × V)} (I : Inv X pins σ H s) (e : H a = some (.ins C dx fs)) : ∃ od, PySem.W.InstAt s.heap a (PySem.W.instObj C dx) C (some od) := by
  obtain ⟨mA, O, _, _, _, _⟩ := ins_get I.hok e
  obtain ⟨od, J, _⟩ := O.look
  exact ⟨od, J⟩
/-- the callee at any nearness -/
theorem run_in {X : Cx} {pins : List (Addr × Obj)} {σ : L2.St} {H : Hp} {s : Shared} {A : Around} {k : Nat} {fn : Addr} {fd : FuncData} {ps : List Str} {sp : Sp} {Q : VK} {us : List Value} {vs : List V} (F : FnOk X.prog X.w X.K X.mg X.base CX0 k fn fd ps sp) (hb : Binds X.K fd ps []) (hr : Room k A)
    (e0 : Env0 X.prog X.w X.K X.mg X.base A X.stack s H) (I : Inv X pins σ H s) (r : Vals vs us) (h : sp vs H Q E0) {E : Value → Shared → Prop} : wpAny (model X.prog X.w) A (call (.ref fn) us) (EP X pins σ Q) E s := by
  have hl : (us ++ []).length = ps.length := by rw [List.append_nil, ← r.length]; exact F.len _ _ _ _ h
  have hbt := hb s us I.kIn hl
  rw [List.append_nil] at hbt
  refine wpAny_call (codeAny_mono (F.run A X.stack s H ⟨us, []⟩ us vs Q E0 hr e0 hbt r h) fun r s' hq => ?_)
  cases r with
  | error e => exact False.elim hq
  | ok fl =>
    cases fl with
    | ret u => exact I.after hq
    | next => exact False.elim hq
    | brk => exact False.elim hq
    | cont => exact False.elim hq
/-- two values, a promise -/
def rOwn1 (K : PySem.W.Frag) (C : Addr) (sp : Spc) (T : V → Prop) : V → Hp → VK → Prop := fun x H Q => ∃ a dx gs, x = .ref a ∧ H a = some (.ins C dx gs) ∧ spD K sp [.ref a] H (fun v H' => T v ∧ Q v H') E0
def rOwn2 (K : PySem.W.Frag) (C : Addr) (sp : Spc) (T : V → Prop) : R2 := fun x y H Q => ∃ a dx gs, x = .ref a ∧ H a = some (.ins C dx gs) ∧ spD K sp [.ref a, y] H (fun v H' => T v ∧ Q v H') E0
section
variable {X : Cx} {B : Bs} {C fn : Addr} {k : Nat} {ps : List Str} {sp : Spc} {K : PySem.W.Frag}
theorem call_lenO (G : Good X.prog X.w X.K X.mg X.base k fn ps sp) (hr : Room (k + 1) X.A) (sm : Sm X.K C "__len__" fn) : CallR X (.builtin "len") (fun xs H Q => ∃ x, xs = [x] ∧ rOwn1 X.K C sp (fun v => ∃ n : Int, v = .int n ∧ 0 ≤ n ∧ n < 2 ^ 63) x H Q) := by
  intro pins s σ H xs us Q I r h
  obtain ⟨x, rfl, a, dx, gs, rfl, ha, h⟩ := h
  obtain ⟨fd, F, b, kp⟩ := G
  obtain ⟨u, rfl, ru⟩ := vals1 r
  cases (show u = Value.ref a from ru)
  obtain ⟨od, J⟩ := Inv.inst I ha
  obtain ⟨m, hF⟩ := I.fr
  refine PySem.W.len_K hF I.ok.mod.kin J sm.at_ sm.fn (wpAny_mono (run_in (us := [.ref a]) (vs := [V.ref a]) F b hr.in1 I.env0.in1 I (.cons rfl .nil) h) (fun v s' z => ?_) fun _ _ z => z)
  obtain ⟨v', H', I', rv, ⟨n, rfl, h0, h1⟩, q⟩ := z
  obtain ⟨t, rfl⟩ := rv
  exact ⟨⟨h0, h1⟩, .int n, H', I'.tok _, ⟨_, rfl⟩, q⟩
/-- what an own special method asks, by data -/
def qOwn1 (C : Addr) (sp : Spc) (T : D → Prop) : D → DE := fun d e P => (∃ ns xs, insD e.cs d = some (C, ns, xs)) ∧ sp [d] e.cs fun r cs' => T r ∧ P r { e with cs := cs' }
def qOwn2 (C : Addr) (sp : Spc) (T : D → Prop) : D → D → DE := fun d y e P => (∃ ns xs, insD e.cs d = some (C, ns, xs)) ∧ sp [d, y] e.cs fun r cs' => T r ∧ P r { e with cs := cs' }
theorem own1_ok {T : V → Prop} {T' : D → Prop} (hT : ∀ W v d, R K W v d → T' d → T v) {W : Wd} {H : Hp} {σ : L2.St} {e : En} {x : V} {d : D} {P : D → En → Prop} {Q : VK} (S : Sd K W H σ e) (r : R K W x d) (t : qOwn1 C sp T' d e P)
    (kk : ∀ d e' W' H' v, P d e' → W.le W' → Sd K W' H' σ e' → R K W' v d → Q v H') : rOwn1 K C sp T x H Q := by
  obtain ⟨⟨ns, xs, hi⟩, h⟩ := t
  obtain ⟨a, dx, gs, rfl, h1, h2, h3⟩ := S.ok.ins r hi
  exact ⟨a, dx, gs, rfl, h1, W, e.cs, [d], _, S.ok, .cons r .nil, h, fun d cs' W' H' v ⟨t, p⟩ l ok r' => ⟨hT _ _ _ r' t, kk _ _ _ _ _ p l ⟨ok, S.sl.mono l⟩ r'⟩⟩
theorem own2_ok {T : V → Prop} {T' : D → Prop} (hT : ∀ W v d, R K W v d → T' d → T v) {W : Wd} {H : Hp} {σ : L2.St} {e : En} {x y : V} {d d2 : D} {P : D → En → Prop} {Q : VK} (S : Sd K W H σ e) (r : R K W x d) (r2 : R K W y d2) (t : qOwn2 C sp T' d d2 e P)
    (kk : ∀ d e' W' H' v, P d e' → W.le W' → Sd K W' H' σ e' → R K W' v d → Q v H') : rOwn2 K C sp T x y H Q := by
  obtain ⟨⟨ns, xs, hi⟩, h⟩ := t
  obtain ⟨a, dx, gs, rfl, h1, h2, h3⟩ := S.ok.ins r hi
  exact ⟨a, dx, gs, rfl, h1, W, e.cs, [d, d2], _, S.ok, .cons r (.cons r2 .nil), h, fun d cs' W' H' v ⟨t, p⟩ l ok r' => ⟨hT _ _ _ r' t, kk _ _ _ _ _ p l ⟨ok, S.sl.mono l⟩ r'⟩⟩
def lenT (d : D) : Prop := ∃ n : Int, d = .int n ∧ 0 ≤ n ∧ n < 2 ^ 63
def qLenO (C : Addr) (sp : Spc) : List D → DE
  | [d] => qOwn1 C sp lenT d
  | _ => fun _ _ => False
theorem cd_lenO : CallD K (fun xs H Q => ∃ x, xs = [x] ∧ rOwn1 K C sp (fun v => ∃ n : Int, v = .int n ∧ 0 ≤ n ∧ n < 2 ^ 63) x H Q) (qLenO C sp) := by
  intro W H σ e vs ds P Q S r t k
  unfold qLenO at t
  split at t
  · obtain ⟨v, rfl, r1⟩ := r.one
    exact ⟨v, rfl, own1_ok (fun W v d r ⟨n, e, h⟩ => ⟨n, by subst e; exact r.int_inv, h⟩) S r1 t k⟩
  · exact t.elim
variable {a b : Expr} {ta tb : DE} {pos : Pos}
theorem od_own2 {K : PySem.W.Frag} {T : V → Prop} {T' : D → Prop} (hT : ∀ W v d, R K W v d → T' d → T v) : OpD K (rOwn2 K C sp T) (qOwn2 C sp T') := fun W H σ e x y d1 d2 P Q S r1 r2 t k => own2_ok hT S r1 r2 t k
/-- o[i] -/
theorem pe_ixO {ta tb : TE} {T : V → Prop} (G : Good X.prog X.w X.K X.mg X.base k fn ps sp) (hr : Room (k + 1) X.A) (sm : Sm X.K C "__getitem__" fn) (hf : PySem.W.fnIn X.K fn = true) (ha : PE X a ta) (hb : PE X b tb)
    (hsl : ∀ x i, subscripted b true (.ref x) i = runValue (.builtin "lifetime.subscript" ⟨[.ref x, i], []⟩)) : PE X (.Subscript a b pos) (tOp (rOwn2 X.K C sp T) ta tb) := by
  refine ⟨fun pins s σ H Q I h => ?_⟩
  obtain ⟨fd, F, bi, kp⟩ := G
  refine Subscript_ (binT ha hb I h fun v u s2 x y H2 I2 rx ry q => ?_)
  obtain ⟨a', dx, gs, rfl, h1, h⟩ := q
  cases (show v = Value.ref a' from rx)
  obtain ⟨od, J⟩ := Inv.inst I2 h1
  obtain ⟨m, hF⟩ := I2.fr
  refine PySem.W.sub_K hF I2.ok.mod.kin J sm.at_ hf sm.fn (wpAny_mono (run_in (us := [.ref a', u]) (vs := [V.ref a', y]) F bi hr.in1 I2.env0.in1 I2 (.cons rfl (.cons ry .nil)) h) (fun v s' z => ?_) fun _ _ z => z) (hsl _ _)
  obtain ⟨v', H', I', rv, _, q⟩ := z
  exact ⟨v', H', I', rv, q⟩
theorem de_ixO (G : Good X.prog X.w X.K X.mg X.base k fn ps sp) (hr : Room (k + 1) X.A) (sm : Sm X.K C "__getitem__" fn) (hf : PySem.W.fnIn X.K fn = true) (ha : PE X a (lE X.K B ta)) (hb : PE X b (lE X.K B tb))
    (hsl : ∀ x i, subscripted b true (.ref x) i = runValue (.builtin "lifetime.subscript" ⟨[.ref x, i], []⟩) := by intros; with_unfolding_all rfl) : PE X (.Subscript a b pos) (lE X.K B (eBin (qOwn2 C sp fun _ => True) ta tb)) :=
  PE.imp (pe_ixO (T := fun _ => True) G hr sm hf ha hb hsl) (bin_ok (od_own2 fun _ _ _ _ _ => trivial))
theorem RelV.cmp {P : Value → Shared → Prop} {z : V} {v : Value} {s' : Shared} (r : RelV z v) (h : P v s') : PySem.W.CmpBack P v s' := by
  cases z with
  | non => cases (show v = Value.none from r); exact h
  | bl b => cases (show v = Value.bool b from r); exact h
  | int i =>
    obtain ⟨t, e⟩ := (show ∃ t, v = Value.int i t from r)
    cases e
    exact h
  | str x =>
    obtain ⟨t, e⟩ := (show ∃ t, v = Value.str x t from r)
    cases e
    exact h
  | byt b =>
    obtain ⟨t, e⟩ := (show ∃ t, v = Value.bytes b t from r)
    cases e
    exact h
  | flt b =>
    obtain ⟨t, e⟩ := (show ∃ t, v = Value.float b t from r)
    cases e
    exact h
  | ref a => cases (show v = Value.ref a from r); exact h
  | ty n => cases (show v = Value.type n from r); exact h
end
end DL
namespace DL
open PySem PySem.Spec PyProof.Rows L2
open Evl (Ex)

/-! ### a list or a tuple walked -/
section
variable {X : Cx} {B : Bs} {tg l ex : Expr} {te : DE}
def iAny (K : PySem.W.Frag) (tl : TE) : TI := fun σ H R => tl σ H fun x H1 => (∃ a, x = .ref a ∧ (∃ xs, SqL K H1 a xs) ∧ R (Itl K a) H1) ∨ ∃ a, x = .ref a ∧ (∃ xs, SqT K H1 a xs) ∧ R (Itt K a) H1
theorem pi_any {tl : TE} (hl : PE X l tl) : PI X tg l (iAny X.K tl) := by
  refine ⟨fun pins s σ H R I h => ?_⟩
  refine thn (hl.run pins s σ H _ I h) fun v s1 ⟨x, H1, I1, r1, q1⟩ => ?_
  rcases q1 with ⟨a, e, ⟨xs, hq⟩, q⟩ | ⟨a, e, ⟨xs, hq⟩, q⟩
  · subst e
    cases r1
    obtain ⟨its, rv, p, hz⟩ := I1.list hq
    refine wpAny_pyIter_list p.isList ?_
    refine ⟨s1.heap.objs.size, [s1.heap.objs.size], _, _, H1, rfl, I1.kept (t' := s1.toks) fun b o e => Heap.get?_push_of_some _ e, turn_list a _, ⟨_, Heap.get?_push_size _ rfl, rfl, rfl⟩, fun b hb => ?_, q⟩
    have e : b = s1.heap.objs.size := by simpa using hb
    subst e
    exact I1.fpOk (Nat.le_refl _) (I1.hok.fresh (Nat.le_refl _))
  · subst e
    cases r1
    obtain ⟨its, rv, p, hz⟩ := I1.tuple hq
    refine wpAny_pyIter_tuple (show s1.heap.IsTuple a its.toArray from p) ?_
    refine ⟨s1.heap.objs.size, [s1.heap.objs.size], _, _, H1, rfl, I1.kept (t' := s1.toks) fun b o e => Heap.get?_push_of_some _ e, turn_tuple a _, ⟨_, Heap.get?_push_size _ rfl, rfl, rfl⟩, fun b hb => ?_, q⟩
    have e : b = s1.heap.objs.size := by simpa using hb
    subst e
    exact I1.fpOk (Nat.le_refl _) (I1.hok.fresh (Nat.le_refl _))
/-- a list that changes no more, or a tuple -/
def fixS : D → Option (List D)
  | .lst xs => some xs
  | .fro xs => some xs
  | .tup xs => some xs
  | _ => none
/-- what is walked, and how -/
def itS (d : D) (e : En) (P : List D → (List Cel → Prop) → En → Prop) : Prop :=
  (∃ xs, fixS d = some xs ∧ P xs anyC e) ∨ ∃ n xs, d = .cell n ∧ e.cs[n]? = some (.lst xs) ∧ P xs (fun cs => cs[n]? = some (.lst xs)) e
def iS (t : DE) : DI := fun e P => t e fun d e1 => itS d e1 P
theorem di_any (h : PE X ex (lE X.K B te)) : PI X tg ex (lI X.K B (iS te)) := PI.imp (pi_any h) fun σ H Q ⟨W, e, P, bl, S, t, k⟩ => by
  refine ⟨W, e, _, bl, S, t, fun d e1 W1 H1 v hp l S1 r => ?_⟩
  rcases hp with ⟨xs, hx, p⟩ | ⟨n, xs, rfl, hc, p⟩
  · cases r <;> simp only [fixS] at hx <;> cases hx
    · exact .inr ⟨_, rfl, ⟨_, Evl.ex_t S1.ok.ex (by assumption)⟩, k _ _ _ _ _ _ p l S1 (wk_tup (by assumption) (by assumption))⟩
    · exact .inl ⟨_, rfl, ⟨_, SqL.of (S1.ok.ex _ _ (by assumption))⟩, k _ _ _ _ _ _ p l S1 (wk_list (SqL.of (by assumption)) (by assumption))⟩
    · exact .inl ⟨_, rfl, ⟨_, Evl.ex_l S1.ok.ex (by assumption)⟩, k _ _ _ _ _ _ p l S1 (wk_list (by assumption) (by assumption))⟩
  · cases r with
    | cell hm =>
      obtain ⟨vs, h1, _⟩ := S1.ok.cellL hm hc
      exact .inl ⟨_, rfl, ⟨_, SqL.of h1⟩, k _ _ _ _ _ _ p l S1 (wk_cell hm)⟩
theorem v_iS {t : DE} {e : En} {P : List D → (List Cel → Prop) → En → Prop} (h : t e fun d e1 => itS d e1 P) : iS t e P := h
theorem v_itF {d : D} {e : En} {P : List D → (List Cel → Prop) → En → Prop} (h : ∃ xs, fixS d = some xs ∧ P xs anyC e) : itS d e P := .inl h
theorem v_itC {n : Nat} {e : En} {P : List D → (List Cel → Prop) → En → Prop} (h : ∃ xs, e.cs[n]? = some (.lst xs) ∧ P xs (fun cs => cs[n]? = some (.lst xs)) e) : itS (.cell n) e P := let ⟨xs, h1, h2⟩ := h; .inr ⟨n, xs, rfl, h1, h2⟩
theorem v_iR1 {t : DA} {e : En} {P : List D → (List Cel → Prop) → En → Prop} (h : t e fun ds e1 => ∃ j, ds = [.int j] ∧ -(2 ^ 62) ≤ j ∧ j < 2 ^ 62 ∧ P (intsD 0 j.toNat) anyC e1) : iR1 t e P := h
theorem v_iR2 {t : DA} {e : En} {P : List D → (List Cel → Prop) → En → Prop} (h : t e fun ds e1 => ∃ i j, ds = [.int i, .int j] ∧ (-(2 ^ 62) ≤ i ∧ i < 2 ^ 62 ∧ -(2 ^ 62) ≤ j ∧ j < 2 ^ 62) ∧ P (intsD i (j - i).toNat) anyC e1) : iR2 t e P := h
end

theorem prop_ok {K : PySem.W.Frag} {c f : Str} (h : (Fx.prop c f).ok K = true) : PropOf K (He.ga K c) f (He.ma K (He.ga K c) f) (pga K (He.ga K c) f) := by
  obtain ⟨h1, h2⟩ := He.ba h
  obtain ⟨h3, h4⟩ := He.ba h2
  obtain ⟨h5, h6⟩ := He.ba h4
  refine ⟨He.eqO_ok h1, He.eqO_ok h3, of_decide_eq_true h5, ?_⟩
  split at h6
  · rename_i g rest e
    exact ⟨rest, by rw [e, ← of_decide_eq_true h6]⟩
  · cases h6
theorem sm_ok {K : PySem.W.Frag} {c m : Str} (h : (Fx.sm c m).ok K = true) : Sm K (He.ga K c) m (He.ma K (He.ga K c) m) := by
  obtain ⟨h1, h2⟩ := He.ba h
  exact ⟨He.eqO_ok h1, h2⟩
theorem insc_ok {K : PySem.W.Frag} {c : Str} (h : (Fx.insc c).ok K = true) : C8.InsC K (He.ga K c) := by
  obtain ⟨h1, h2⟩ := He.ba h
  obtain ⟨h3, h4⟩ := He.ba h2
  obtain ⟨h5, h6⟩ := He.ba h4
  obtain ⟨h7, h8⟩ := He.ba h6
  exact ⟨He.cls_ok h1, He.eqO_ok h3, He.eqO_ok h5, of_decide_eq_true h7, of_decide_eq_true h8, by unfold PySem.W.kitOne; simp⟩
theorem kto_ok {K : PySem.W.Frag} {c : Str} (h : (Fx.kto c).ok K = true) : ∀ a ∈ tysB, PySem.W.kitOne K (.type a) (.ref (He.ga K c)) = some false := fun a m => of_decide_eq_true (List.all_eq_true.mp h a m)
theorem nosl_ok {K : PySem.W.Frag} {c : Str} {nm : String} (h : (Fx.nosl c nm).ok K = true) : NoSl K (He.ga K c) nm := by
  obtain ⟨h1, h2⟩ := He.ba h
  obtain ⟨h3, h4⟩ := He.ba h2
  obtain ⟨h5, h6⟩ := He.ba h4
  obtain ⟨h7, h8⟩ := He.ba h6
  refine ⟨?_, He.eqO_ok h3, He.eqO_ok h5, He.eqO_ok h7, He.eqO_ok h8⟩
  split at h1
  · rename_i cd e
    exact ⟨cd, e, of_decide_eq_true h1⟩
  · cases h1
theorem oexO_ok {C : Addr} {o : Obj} (h : oexO C o = true) : ∃ nm q N bs bm sn sub ab col dd k0 k1 k2 k3 k5, o = excClassObj nm q C N bs bm true sn sub ab col dd k0 k1 k2 k3 k5 "ValueError.__new__" ∧ PySem.HandSPX.refsVE bm = true := by
  obtain ⟨oc, od, dt, sl⟩ := o
  obtain ⟨h1, h0⟩ := Bool.and_eq_true_iff.mp (show (decide (oc = .type "type") && _) = true from h)
  have h1 : oc = .type "type" := of_decide_eq_true h1
  subst h1
  clear h
  split at h0
  · rename_i cd e
    have e : dt = .cls cd := e
    subst e
    have h2 := (Bool.and_eq_true_iff.mp h0).1
    replace h0 := (Bool.and_eq_true_iff.mp h0).2
    have h3 := (Bool.and_eq_true_iff.mp h0).1
    replace h0 := (Bool.and_eq_true_iff.mp h0).2
    obtain ⟨nm, bs, mro, ns, qn, hd, sn, sub, ab, col, del⟩ := cd
    dsimp only at h2 h3 h0
    split at h0
    · rename_i C' bm
      have h4 := (Bool.and_eq_true_iff.mp h0).1
      replace h0 := (Bool.and_eq_true_iff.mp h0).2
      have h5 := (Bool.and_eq_true_iff.mp h0).1
      replace h0 := (Bool.and_eq_true_iff.mp h0).2
      have h4 := of_decide_eq_true h4
      split at h0
      · rename_i k0 k1 k2 k3 n k5 hs
        have hn := of_decide_eq_true h0
        have hsl : sl = #[k0, k1, k2, k3, some (.builtin n), k5] := by
          obtain ⟨l⟩ := sl
          exact congrArg Array.mk hs
        have hdel : del = false := by simpa using h2
        subst h4 hn hsl hdel h3
        exact ⟨nm, qn, ns, bs, bm, sn, sub, ab, col, od, k0, k1, k2, k3, k5, rfl, h5⟩
      · exact absurd h0 Bool.false_ne_true
    · exact absurd h0 Bool.false_ne_true
  · exact absurd h0 Bool.false_ne_true
theorem oex_ok {K : PySem.W.Frag} {c : Str} (h : (Fx.oex c).ok K = true) : OexC K (He.ga K c) := by
  obtain ⟨h1, h⟩ := He.ba h
  obtain ⟨h2, h⟩ := He.ba h
  obtain ⟨h3, h⟩ := He.ba h
  obtain ⟨h4, h5⟩ := He.ba h
  refine ⟨?_, He.eqO_ok h2, of_decide_eq_true h3, of_decide_eq_true h4, h5⟩
  unfold oexB at h1
  split at h1
  · rename_i o e
    obtain ⟨nm, q, N, bs, bm, sn, sub, ab, col, dd, k0, k1, k2, k3, k5, e2, e3⟩ := oexO_ok h1
    subst e2
    exact ⟨nm, q, N, bs, bm, sn, sub, ab, col, dd, k0, k1, k2, k3, k5, e, e3⟩
  · cases h1
theorem noix_ok {K : PySem.W.Frag} {c : Str} (h : (Fx.noix c).ok K = true) : PySem.W.findIn K (.ref (He.ga K c)) "index" = some none := He.eqO_ok h
/-- a def of no defaults -/
theorem good_of {P : Program} {w : World} {K : PySem.W.Frag} {mg : Str → Option Value} {base : Heap} {x qual : Str} {params : Arguments} {body : List Stmt} {scope : Scope} {f : Addr} {N ps : List Str} {k : Nat} {sp : Spc} {t : DS}
    (F : ∃ fd, FunD K x qual params body scope [] [] f fd) (S : FnScope N ps scope) (len : ∀ ds cs Q, sp ds cs Q → ds.length = ps.length)
    (bi : ∀ (kV doc pm : Value) (an : Option Addr) (cdv ct : Value) (us : List Value), us.length = ps.length → bindArgs (PySem.W.fnOf x qual params body scope .none kV doc pm an cdv ct) ⟨us, []⟩ = pure (ps.zip us))
    (der : ∀ (cdv : Value) (A : Around) (outer : List Env) (s : Shared) (H : Hp) (E : XK) (B : Bs), Room k (A.deeper (envOfC qual scope s.heap.objs.size f cdv)) → PSs (cx0 P w K mg base N qual scope f cdv A outer s H E) body (lS K B t))
    (vc : ∀ ds cs Q, (∀ d ∈ ds, loD cs.length d = true) → (∀ c ∈ cs, c.loD cs.length = true) → sp ds cs Q → t (Po.fn cs Q) ⟨startD N ds, cs⟩) : Good P w K mg base (k + 1) f ps sp := by
  obtain ⟨fd, F⟩ := F
  exact ⟨fd, fn_d F S len der vc, F.bindsN bi, F.kp⟩
/-- what a law asks: the script, at most 63 ints; True -/
def spLaw : Spc := fun ds cs P => ∃ ns : List Int, ds = [.fro (ns.map .int)] ∧ ns.length ≤ 63 ∧ cs = [] ∧ ∀ cs', P (.bl true) cs'
theorem law_says {K : PySem.W.Frag} (H : Hp) (a : Addr) (ns : List Int) (hl : ns.length ≤ 63) (hS : SqL K H a (ns.map V.int)) : spD K spLaw [.ref a] H (fun v _ => v = .bl true) fun _ _ _ => False :=
  ⟨⟨H, [], []⟩, [], [.fro (ns.map .int)], fun d _ => d = .bl true, ⟨Ex.refl _, rfl, List.nodup_nil, fun _ h => (by cases h), fun n a c h => (by simp at h), fun n a c h => (by simp at h), fun _ h => (by cases h), List.nodup_nil⟩, .cons (.fro hS (RAll.ints ns)) .nil,
    ⟨ns, rfl, hl, rfl, fun _ => rfl⟩, fun d cs' W' H' v e _ _ r => by subst e; exact r.bl_inv⟩
theorem bt_len : bootBuiltins "len" = some (.builtin "len") := boot_len
theorem bt_all : bootBuiltins "all" = some (.builtin "all") := by decide +kernel
theorem bt_sum : bootBuiltins "sum" = some (.builtin "sum") := by decide +kernel
theorem bt_isinstance : bootBuiltins "isinstance" = some (.builtin "isinstance") := by decide +kernel
theorem bt_int : bootBuiltins "int" = some (.type "int") := by decide +kernel
theorem bt_bool : bootBuiltins "bool" = some (.type "bool") := by decide +kernel
theorem bt_tuple : bootBuiltins "tuple" = some (.type "tuple") := by decide +kernel
theorem bt_list : bootBuiltins "list" = some (.type "list") := by decide +kernel
theorem bt_str : bootBuiltins "str" = some (.type "str") := by decide +kernel
end DL
namespace DL
open PySem PySem.Spec PyProof.Rows L2
open Evl (Ex)

/-! ### data that stands for values of Lean -/
structure EqE {α : Type} [DecidableEq α] (enc : α → D) (n : Nat) : Prop where
  ok : ∀ a, okD (enc a) = true
  lay : ∀ a, (toP (enc a)).canLay0 = true
  dep : ∀ a, (toP (enc a)).depth ≤ n
  eqv : ∀ a b, PyData.eqv (toP (enc a)) (toP (enc b)) = decide (a = b)
section
variable {α : Type} [DecidableEq α] {enc : α → D} {n : Nat}
theorem EqE.shp (h : EqE enc n) (hn : n ≤ 64) (a : α) : shp (enc a) = true := by
  unfold DL.shp SeqAt.shaped
  rw [h.ok a, h.lay a, decide_eq_true (Nat.le_trans (h.dep a) hn)] <;> rfl
theorem EqE.oks (h : EqE enc n) : ∀ xs : List α, okDs (xs.map enc) = true
  | [] => rfl
  | x :: xs => by
    show (okD (enc x) && okDs (xs.map enc)) = true
    rw [h.ok x, h.oks xs] <;> rfl
theorem EqE.lays (h : EqE enc n) : ∀ xs : List α, PyData.canLayAll0 (toPs (xs.map enc)) = true
  | [] => rfl
  | x :: xs => by
    show ((toP (enc x)).canLay0 && PyData.canLayAll0 (toPs (xs.map enc))) = true
    rw [h.lay x, h.lays xs] <;> rfl
theorem EqE.deps (h : EqE enc n) : ∀ xs : List α, PyData.depthAll (toPs (xs.map enc)) ≤ n
  | [] => Nat.zero_le _
  | x :: xs => by
    have h1 := h.dep x
    have h2 := h.deps xs
    show PyData.depthAll (toP (enc x) :: toPs (xs.map enc)) ≤ n
    simp only [PyData.depthAll]
    omega
theorem EqE.eqvs (h : EqE enc n) : ∀ xs ys : List α, PyData.eqvAll (toPs (xs.map enc)) (toPs (ys.map enc)) = decide (xs = ys)
  | [], [] => rfl
  | [], y :: ys => rfl
  | x :: xs, [] => rfl
  | x :: xs, y :: ys => by
    show (PyData.eqv (toP (enc x)) (toP (enc y)) && PyData.eqvAll (toPs (xs.map enc)) (toPs (ys.map enc))) = decide (x :: xs = y :: ys)
    rw [h.eqv x y, h.eqvs xs ys]
    simp
theorem EqE.tup (h : EqE enc n) : EqE (fun xs : List α => D.tup (xs.map enc)) (n + 1) where
  ok := h.oks
  lay := fun xs => by
    show (PyData.tuple (toPs (xs.map enc))).canLay0 = true
    simp only [PyData.canLay0]
    exact h.lays xs
  dep := fun xs => by
    show (PyData.tuple (toPs (xs.map enc))).depth ≤ n + 1
    have := h.deps xs
    simp only [PyData.depth]
    omega
  eqv := fun xs ys => by
    show PyData.eqv (.tuple (toPs (xs.map enc))) (.tuple (toPs (ys.map enc))) = _
    simp only [PyData.eqv]
    exact h.eqvs xs ys
theorem EqE.lst (h : EqE enc n) : EqE (fun xs : List α => D.lst (xs.map enc)) (n + 1) where
  ok := h.oks
  lay := fun xs => by
    show (PyData.list (toPs (xs.map enc))).canLay0 = true
    simp only [PyData.canLay0]
    exact h.lays xs
  dep := fun xs => by
    show (PyData.list (toPs (xs.map enc))).depth ≤ n + 1
    have := h.deps xs
    simp only [PyData.depth]
    omega
  eqv := fun xs ys => by
    show PyData.eqv (.list (toPs (xs.map enc))) (.list (toPs (ys.map enc))) = _
    simp only [PyData.eqv]
    exact h.eqvs xs ys
end
theorem encI : EqE D.int 0 where
  ok := fun _ => rfl
  lay := fun _ => rfl
  dep := fun _ => by
    show (PyData.int _).depth ≤ 0
    simp [PyData.depth]
  eqv := fun a b => Bool.beq_eq_decide_eq a b
/-- a column of figures -/
def encC (c : List Int) : D := .tup (c.map .int)
theorem encCE : EqE encC 1 := encI.tup
/-- == of two lists or tuples, by Lean's -/
theorem v_eqE {α : Type} [DecidableEq α] {enc : α → D} {n : Nat} (h : EqE enc n) {a b : α} {e : En} {P : D → En → Prop} {x y : D} (hx : drf e.cs x = enc a) (hy : drf e.cs y = enc b) (p : P (.bl (decide (a = b))) e)
    (hn : n ≤ 64 := by decide) (hni : (∀ i, x ≠ .int i) ∨ (∀ i, y ≠ .int i) := by first | exact .inl (fun _ z => nomatch z) | exact .inr (fun _ z => nomatch z)) : qEq x y e P := by
  have q : shp (drf e.cs x) = true ∧ shp (drf e.cs y) = true ∧ P (.bl (PyData.eqv (toP (drf e.cs x)) (toP (drf e.cs y)))) e := by
    rw [hx, hy, h.eqv]
    exact ⟨h.shp hn a, h.shp hn b, p⟩
  unfold qEq
  split
  · rcases hni with z | z
    · exact absurd rfl (z _)
    · exact absurd rfl (z _)
  · exact q
theorem v_neE {α : Type} [DecidableEq α] {enc : α → D} {n : Nat} (h : EqE enc n) {a b : α} {e : En} {P : D → En → Prop} {x y : D} (hx : drf e.cs x = enc a) (hy : drf e.cs y = enc b) (p : P (.bl (!decide (a = b))) e)
    (hn : n ≤ 64 := by decide) (hni : (∀ i, x ≠ .int i) ∨ (∀ i, y ≠ .int i) := by first | exact .inl (fun _ z => nomatch z) | exact .inr (fun _ z => nomatch z)) : qNe x y e P := by
  have q : shp (drf e.cs x) = true ∧ shp (drf e.cs y) = true ∧ P (.bl (!PyData.eqv (toP (drf e.cs x)) (toP (drf e.cs y)))) e := by
    rw [hx, hy, h.eqv]
    exact ⟨h.shp hn a, h.shp hn b, p⟩
  unfold qNe
  split
  · rcases hni with z | z
    · exact absurd rfl (z _)
    · exact absurd rfl (z _)
  · exact q
/-! a list of cells' own data -/
theorem los_map {α : Type} {enc : α → D} {k : Nat} (h : ∀ a, loD k (enc a) = true) : ∀ xs : List α, los k (xs.map enc) = true
  | [] => rfl
  | x :: xs => by
    show (loD k (enc x) && los k (xs.map enc)) = true
    rw [h x, los_map h xs] <;> rfl
theorem los_int {k : Nat} (xs : List Int) : los k (xs.map .int) = true := los_map (fun _ => rfl) xs
theorem lo_encC {k : Nat} (c : List Int) : loD k (encC c) = true := los_int c
theorem los_encC {k : Nat} (cs : List (List Int)) : los k (cs.map encC) = true := los_map lo_encC cs
theorem los_bl {k : Nat} (xs : List Bool) : los k (xs.map .bl) = true := los_map (fun _ => rfl) xs
/-! looking -/
theorem lk_cell {cs : List Cel} {n : Nat} {xs : List D} (h : cs[n]? = some (.lst xs)) : lk cs (.cell n) = some xs := by
  show (match cs[n]? with | some (.lst xs) => some xs | _ => none) = some xs
  rw [h]
theorem drf_cell {cs : List Cel} {n : Nat} {xs : List D} (h : cs[n]? = some (.lst xs)) : drf cs (.cell n) = .lst xs := by
  show (match cs[n]? with | some (.lst xs) => .lst xs | _ => .cell n) = D.lst xs
  rw [h]
theorem atI_map {α : Type} {f : α → D} {xs : List α} {i : Nat} {x : α} (h : xs[i]? = some x) : atI (xs.map f) (i : Int) = some (f x) := atI_nat (by rw [List.getElem?_map, h] <;> rfl)
end DL
namespace DL
open PySem PySem.Spec PyProof.Rows L2
open Evl (Ex)

/-! ### more steps -/
theorem set_get {cs : List Cel} {n : Nat} {c0 c : Cel} (h : cs[n]? = some c0) : (cs.set n c)[n]? = some c := by
  have := (List.getElem?_eq_some_iff.mp h).1
  simp [this]
theorem app_get {cs : List Cel} {c : Cel} : (cs ++ [c])[cs.length]? = some c := by simp
theorem app_get_lt {cs : List Cel} {n : Nat} {c0 c : Cel} (h : cs[n]? = some c0) : (cs ++ [c])[n]? = some c0 := by
  have := (List.getElem?_eq_some_iff.mp h).1
  rw [List.getElem?_append_left this]; exact h
theorem cut63 (xs : List D) : cutD xs none (some 63) = xs.take 63 := by
  unfold cutD
  rw [HT.sIx_none, show (63 : Int) = ((63 : Nat) : Int) from rfl, HT.sIx_nat]
  simp
section
variable {e : En} {P : D → En → Prop} {tg : Tg} {tt : DT} {te : DE} {vs : List Nat} {o : Bool} {it : DI} {a b : Int} {G : List Cel → Prop}
theorem v_lc (h : it e fun ds G e1 => ds.length ≤ sizeLine ∧ ∃ I : Nat → List D → List Cel → Prop, I 0 [] e1.cs ∧
  (∀ i d acc cs, ds[i]? = some d → I i acc cs → G cs ∧ ∃ sl', setTg tg d (wipeD e1.sl vs) = some sl' ∧ tt ⟨sl', cs⟩ fun b e2 => if b = true then te e2 fun y e3 => I (i + 1) (acc ++ [y]) e3.cs else I (i + 1) acc e2.cs) ∧
  ∀ acc cs, acc.length ≤ ds.length → I ds.length acc cs → G cs ∧ newL o acc ⟨e1.sl, cs⟩ P) : eLc o it tg tt te vs e P := h
theorem v_for {Po' : Po} {tb : DS} (h : it e fun ds G e1 => ∃ I : Nat → En → Prop, I 0 e1 ∧
  (∀ i d e2, ds[i]? = some d → I i e2 → G e2.cs ∧ ∃ sl', setTg tg d e2.sl = some sl' ∧ tb (Po'.lp (I (i + 1))) ⟨sl', e2.cs⟩) ∧ ∀ e2, I ds.length e2 → G e2.cs ∧ Po'.nx e2) : sFor it tg tb Po' e := h
theorem v_j1 {PQ : List D → Prop} {n : Nat} (hn : n ≤ 1000) (h : PQ (intsD 0 n)) : ∃ j, [D.int n] = [.int j] ∧ -(2 ^ 62) ≤ j ∧ j < 2 ^ 62 ∧ PQ (intsD 0 j.toNat) :=
  ⟨n, rfl, by omega, by omega, h⟩
theorem v_j1i {PQ : List D → Prop} (h0 : -1000 ≤ a) (h1 : a ≤ 1000) (h : PQ (intsD 0 a.toNat)) : ∃ j, [D.int a] = [.int j] ∧ -(2 ^ 62) ≤ j ∧ j < 2 ^ 62 ∧ PQ (intsD 0 j.toNat) :=
  ⟨a, rfl, by omega, by omega, h⟩
theorem v_j2i {PQ : List D → Prop} (h0 : -1000 ≤ a) (h1 : a ≤ 1000) (h2 : -1000 ≤ b) (h3 : b ≤ 1000) (h : PQ (intsD a (b - a).toNat)) : ∃ i j, [D.int a, D.int b] = [.int i, .int j] ∧ (-(2 ^ 62) ≤ i ∧ i < 2 ^ 62 ∧ -(2 ^ 62) ≤ j ∧ j < 2 ^ 62) ∧ PQ (intsD i (j - i).toNat) :=
  ⟨a, b, rfl, ⟨by omega, by omega, by omega, by omega⟩, h⟩
theorem v_varX {i : Nat} (h : ∃ d, e.sl[i]? = some (some d) ∧ P d e) : eV i e P := h
theorem v_isXT {T : String} {d : D} (h : ∃ c, tyN e.cs d = some c ∧ isTy c T = true ∧ tyKnown T = true ∧ P (.bl true) e) : qIsi [d, .raw (.ty T)] e P := let ⟨_, h1, h2, h3, p⟩ := h; v_isiT h3 h1 h2 p
theorem v_isXF {T : String} {d : D} (h : ∃ c, tyN e.cs d = some c ∧ isTy c T = false ∧ tyKnown T = true ∧ P (.bl false) e) : qIsi [d, .raw (.ty T)] e P := let ⟨_, h1, h2, h3, p⟩ := h; v_isiF h3 h1 h2 p
theorem v_ixTX {xs : List D} (h : ∃ d, atI xs a = some d ∧ P d e) : qIx (.tup xs) (.int a) e P := h
theorem v_ixLX {xs : List D} (h : ∃ d, atI xs a = some d ∧ P d e) : qIx (.lst xs) (.int a) e P := let ⟨_, h1, p⟩ := h; v_ixL h1 p
theorem v_szX {xs : List D} {p : Prop} (h : decide (xs.length ≤ 1000) = true ∧ p) : xs.length ≤ sizeLine ∧ p := v_sz h.1 h.2
theorem v_fdivX (h : FdivOk a b ∧ P (.int (a / b)) e) : qFdiv (.int a) (.int b) e P := h
theorem v_mulX (h : MulOk a b ∧ P (.int (a * b)) e) : qMul (.int a) (.int b) e P := h
theorem v_modX (h : 0 < b ∧ P (.int (a % b)) e) : qMod (.int a) (.int b) e P := h
theorem v_powX (h : CPow a b ∧ P (.int (a ^ b.toNat)) e) : qPow (.int a) (.int b) e P := h
theorem v_j1X {PQ : Int → Prop} (h : (-1000 ≤ a ∧ a ≤ 1000) ∧ PQ a) : ∃ j, [D.int a] = [.int j] ∧ -(2 ^ 62) ≤ j ∧ j < 2 ^ 62 ∧ PQ j := ⟨a, rfl, by omega, by omega, h.2⟩
theorem v_j2X {PQ : Int → Int → Prop} (h : (-1000 ≤ a ∧ a ≤ 1000 ∧ -1000 ≤ b ∧ b ≤ 1000) ∧ PQ a b) : ∃ i j, [D.int a, D.int b] = [.int i, .int j] ∧ (-(2 ^ 62) ≤ i ∧ i < 2 ^ 62 ∧ -(2 ^ 62) ≤ j ∧ j < 2 ^ 62) ∧ PQ i j := ⟨a, b, rfl, ⟨by omega, by omega, by omega, by omega⟩, h.2⟩
theorem v_truB {b : Bool} {PK : Bool → Prop} (h : PK b) : ∃ k', tru e.cs (.bl b) = some k' ∧ PK k' := ⟨b, rfl, h⟩
theorem v_truB' {cs : List Cel} {b : Bool} {PK : Bool → Prop} (h : PK b) : ∃ k', tru cs (.bl b) = some k' ∧ PK k' := ⟨b, rfl, h⟩
theorem v_nT {A B : Prop} (h : B) : if (!true) = true then A else B := iteF h
theorem v_nF {A B : Prop} (h : A) : if (!false) = true then A else B := iteT h
theorem v_fix {d : D} {PQ : List D → Prop} (h : ∃ xs, fixS d = some xs ∧ PQ xs) : ∃ xs, fixS d = some xs ∧ PQ xs := h
theorem v_insX {cs : List Cel} {d : D} {C : Addr} {f : Str} {PQ : D → Prop} (h : ∃ ns xs v, insD cs d = some (C, ns, xs) ∧ getF f ns xs = some v ∧ PQ v) : ∃ ns xs v, insD cs d = some (C, ns, xs) ∧ getF f ns xs = some v ∧ PQ v := h
theorem v_insP {cs : List Cel} {d : D} {C : Addr} {R : Prop} (h : (∃ ns xs, insD cs d = some (C, ns, xs)) ∧ R) : (∃ ns xs, insD cs d = some (C, ns, xs)) ∧ R := h
theorem v_lkX {cs : List Cel} {d : D} {PQ : List D → Prop} (h : ∃ xs, lk cs d = some xs ∧ PQ xs) : ∃ xs, lk cs d = some xs ∧ PQ xs := h
theorem v_fldS {C : Addr} {f : Str} {to tv : DE} {Po' : Po} (h : tv e fun v e1 => to e1 fun o e2 => ∃ n ns xs, o = .cell n ∧ e2.cs[n]? = some (.ins C ns xs) ∧ f ∉ ns ∧ ns.length < 900 ∧ Po'.nx { e2 with cs := e2.cs.set n (.ins C (ns ++ [f]) (xs ++ [v])) }) : sFldD C f to tv Po' e := h
theorem v_lenK {d : D} {xs : List D} (h : lk e.cs d = some xs) (p : P (.int xs.length) e) : qLen [d] e P := by
  cases d <;> first | exact ⟨xs, h, p⟩ | cases h
theorem v_ixK {d y : D} {xs : List D} (h : lk e.cs d = some xs) (h2 : atI xs a = some y) (p : P y e) : qIx d (.int a) e P := by
  cases d <;> first | exact ⟨xs, h, y, h2, p⟩ | cases h
theorem seq_lk {cs : List Cel} {d : D} {xs : List D} (h : lk cs d = some xs) : seqD cs d = some xs := by
  cases d <;> first | exact h | cases h
theorem rep_map (k : Nat) (z : Int) : (List.range k).map (fun _ => D.int z) = (List.replicate k z).map D.int := by
  rw [List.map_replicate, List.map_const', List.length_range]
theorem v_tupK {d : D} {xs : List D} (h : lk e.cs d = some xs) (p : P (.tup xs) e) : qTuple [d] e P := by
  cases d <;> first | exact ⟨xs, h, p⟩ | cases h
theorem v_subX {cs : List Cel} {o i : D} {PQ : Nat → List D → Nat → Prop} (h : ∃ n xs k j, o = .cell n ∧ cs[n]? = some (.lst xs) ∧ i = .int k ∧ ixN xs.length k = some j ∧ PQ n xs j) : ∃ n xs k j, o = .cell n ∧ cs[n]? = some (.lst xs) ∧ i = .int k ∧ ixN xs.length k = some j ∧ PQ n xs j := h
theorem v_fldX {cs : List Cel} {o : D} {C : Addr} {f : Str} {PQ : Nat → List Str → List D → Prop} (h : ∃ n ns xs, o = .cell n ∧ cs[n]? = some (.ins C ns xs) ∧ f ∉ ns ∧ ns.length < 900 ∧ PQ n ns xs) : ∃ n ns xs, o = .cell n ∧ cs[n]? = some (.ins C ns xs) ∧ f ∉ ns ∧ ns.length < 900 ∧ PQ n ns xs := h
theorem lk_cell_iff {cs : List Cel} {n : Nat} {xs : List D} (h : lk cs (.cell n) = some xs) : cs[n]? = some (.lst xs) := by
  have h' : (match cs[n]? with | some (.lst xs) => some xs | _ => none) = some xs := h
  split at h'
  · rename_i e
    cases h'
    exact e
  · cases h'
theorem v_itK {d : D} {xs : List D} {P : List D → (List Cel → Prop) → En → Prop} (h : lk e.cs d = some xs) (p : ∀ G : List Cel → Prop, G e.cs → P xs G e) : itS d e P := by
  cases d with
  | lst ys => cases h; exact .inl ⟨_, rfl, p _ trivial⟩
  | fro ys => cases h; exact .inl ⟨_, rfl, p _ trivial⟩
  | cell n => exact .inr ⟨n, xs, rfl, lk_cell_iff h, p _ (lk_cell_iff h)⟩
  | _ => cases h
theorem lk_set {cs : List Cel} {n : Nat} {c c0 : Cel} {d : D} {xs : List D} (h : lk cs d = some xs) (hn : cs[n]? = some c0) (hc : ∀ ys, c0 ≠ .lst ys) : lk (cs.set n c) d = some xs := by
  cases d with
  | cell m =>
    have hm := lk_cell_iff h
    have hne : n ≠ m := by
      rintro rfl
      rw [hn] at hm
      cases hm
      exact hc _ rfl
    exact lk_cell (by rw [List.getElem?_set_ne hne]; exact hm)
  | _ => exact h
theorem lk_app {cs : List Cel} {c : Cel} {d : D} {xs : List D} (h : lk cs d = some xs) : lk (cs ++ [c]) d = some xs := by
  cases d with
  | cell m => exact lk_cell (app_get_lt (lk_cell_iff h))
  | _ => exact h
theorem ty_lk {cs : List Cel} {d : D} {xs : List D} (h : lk cs d = some xs) (hf : ∀ ys, d ≠ .fro ys) : tyN cs d = some "list" := by
  cases d with
  | cell m =>
    have := lk_cell_iff h
    show (match cs[m]? with | some (.lst _) => some "list" | _ => none) = some "list"
    rw [this]
  | lst ys => rfl
  | fro ys => exact absurd rfl (hf _)
  | _ => cases h
theorem trim_back {cs cs' : List Cel} {Q : D → List Cel → Prop} {d : D} (h : cs'.take cs.length = cs) (hl : loD cs.length d = true) (q : Q d cs) : FinD cs Q d cs' :=
  .inr (.inl ⟨hl, fun c hc => .inl (by rw [h] at hc; exact hc), by rw [h]; exact q⟩)
theorem sz_le {α : Type} {xs : List α} (h : xs.length ≤ 100000) : xs.length ≤ sizeLine := Nat.le_trans h (by decide)
/-- a comprehension that maps, and leaves the cells as they are -/
theorem v_lcT {α : Type} {ds : List D} {e1 : En} (xs : List α) (enc f : α → D) (hd : ds = xs.map enc) (hz : xs.length ≤ 100000)
  (turn : ∀ (Q : D → List Cel → Prop) (i : Nat) (x : α), xs[i]? = some x → Q (f x) e1.cs → ∃ sl', setTg tg (enc x) (wipeD e1.sl vs) = some sl' ∧ tt ⟨sl', e1.cs⟩ fun b e2 => b = true ∧ te e2 fun y e3 => Q y e3.cs) (hm : ∀ e (P P' : Bool → En → Prop), (∀ b e, P b e → P' b e) → tt e P → tt e P')
  (done : newL o (xs.map f) ⟨e1.sl, e1.cs⟩ P) (g : G e1.cs := by first | trivial | assumption) : ds.length ≤ sizeLine ∧ ∃ I : Nat → List D → List Cel → Prop, I 0 [] e1.cs ∧
  (∀ i d acc cs, ds[i]? = some d → I i acc cs → G cs ∧ ∃ sl', setTg tg d (wipeD e1.sl vs) = some sl' ∧ tt ⟨sl', cs⟩ fun b e2 => if b = true then te e2 fun y e3 => I (i + 1) (acc ++ [y]) e3.cs else I (i + 1) acc e2.cs) ∧
  ∀ acc cs, acc.length ≤ ds.length → I ds.length acc cs → G cs ∧ newL o acc ⟨e1.sl, cs⟩ P := by
  subst hd
  refine ⟨sz_le (by simpa using hz), fun i acc cs => acc = (xs.take i).map f ∧ cs = e1.cs, ⟨rfl, rfl⟩, ?_, ?_⟩
  · rintro i d acc cs hi ⟨rfl, rfl⟩
    simp only [List.getElem?_map, Option.map_eq_some_iff] at hi
    obtain ⟨x, hx, rfl⟩ := hi
    obtain ⟨sl', h1, h2⟩ := turn (fun y cs => (xs.take i).map f ++ [y] = (xs.take (i + 1)).map f ∧ cs = e1.cs) i x hx ⟨by rw [List.take_add_one, hx]; simp, rfl⟩
    refine ⟨g, sl', h1, hm _ _ _ ?_ h2⟩
    rintro b e2 ⟨rfl, h3⟩
    exact v_T h3
  · rintro acc cs _ ⟨rfl, rfl⟩
    exact ⟨g, by simpa using done⟩
/-- with no filter -/
theorem v_lcY {α : Type} {ds : List D} {e1 : En} (xs : List α) (enc f : α → D) (hd : ds = xs.map enc) (hz : xs.length ≤ 100000)
  (turn : ∀ (Q : D → List Cel → Prop) (i : Nat) (x : α), xs[i]? = some x → Q (f x) e1.cs → ∃ sl', setTg tg (enc x) (wipeD e1.sl vs) = some sl' ∧ te ⟨sl', e1.cs⟩ fun y e3 => Q y e3.cs)
  (done : newL o (xs.map f) ⟨e1.sl, e1.cs⟩ P) (g : G e1.cs := by first | trivial | assumption) : ds.length ≤ sizeLine ∧ ∃ I : Nat → List D → List Cel → Prop, I 0 [] e1.cs ∧
  (∀ i d acc cs, ds[i]? = some d → I i acc cs → G cs ∧ ∃ sl', setTg tg d (wipeD e1.sl vs) = some sl' ∧ dYes ⟨sl', cs⟩ fun b e2 => if b = true then te e2 fun y e3 => I (i + 1) (acc ++ [y]) e3.cs else I (i + 1) acc e2.cs) ∧
  ∀ acc cs, acc.length ≤ ds.length → I ds.length acc cs → G cs ∧ newL o acc ⟨e1.sl, cs⟩ P :=
  v_lcT xs enc f hd hz (fun Q i x hx q => let ⟨sl', h1, h2⟩ := turn Q i x hx q; ⟨sl', h1, rfl, h2⟩) (fun _ _ _ k h => k _ _ h) done g
/-- a def hands back the list it just made -/
theorem own_back {cs : List Cel} {Q : D → List Cel → Prop} {xs : List D} (h : los cs.length xs = true) (q : fresh xs cs Q) : FinD cs Q (.cell cs.length) (cs ++ [.lst xs]) := by
  have e : (cs ++ [Cel.lst xs]).take cs.length = cs := by simp
  refine .inr (.inr ⟨_, xs, rfl, Nat.le_refl _, app_get, h, ?_, ?_⟩)
  · rw [e]
    exact fun c hc => .inl hc
  · rw [e]
    exact q
theorem own_back2 {cs cs1 : List Cel} {Q : D → List Cel → Prop} {xs : List D} (hl : cs1.length = cs.length) (hc : ∀ c ∈ cs1, c ∈ cs ∨ c.loD cs.length = true) (h : los cs.length xs = true) (q : fresh xs cs1 Q) : FinD cs Q (.cell cs1.length) (cs1 ++ [.lst xs]) := by
  have e : (cs1 ++ [Cel.lst xs]).take cs.length = cs1 := by rw [← hl]; simp
  refine .inr (.inr ⟨_, xs, rfl, by rw [hl]; exact Nat.le_refl _, app_get, h, ?_, ?_⟩)
  · rw [e]
    exact hc
  · rw [e, ← hl]
    exact q
theorem set_lo {cs : List Cel} {n : Nat} {c : Cel} (h : c.loD cs.length = true) : ∀ x ∈ cs.set n c, x ∈ cs ∨ x.loD cs.length = true := fun x hx => by
  rcases List.mem_or_eq_of_mem_set hx with h1 | rfl
  · exact .inl h1
  · exact .inr h
theorem trim_back2 {cs cs' : List Cel} {Q : D → List Cel → Prop} {d : D} (hc : ∀ c ∈ cs'.take cs.length, c ∈ cs ∨ c.loD cs.length = true) (hl : loD cs.length d = true) (q : Q d (cs'.take cs.length)) : FinD cs Q d cs' := .inr (.inl ⟨hl, hc, q⟩)
end
end DL
namespace DL
open PySem PySem.Spec PyProof.Rows L2
open Evl (Ex)

/-! ### a field that is there already -/
def ixF (f : Str) : List Str → Option Nat
  | [] => none
  | n :: ns => if n = f then some 0 else (ixF f ns).map (· + 1)
theorem putF_upd {f : Str} {v : V} : ∀ {gs : List (Str × V)} {i : Nat}, ixF f (gs.map (·.1)) = some i → (putF f v gs).map (·.1) = gs.map (·.1) ∧ (putF f v gs).map (·.2) = (gs.map (·.2)).set i v
  | [], _, h => by cases h
  | (g, w) :: gs, i, h => by
    have h' : (if g = f then some 0 else (ixF f (gs.map (·.1))).map (· + 1)) = some i := h
    have e : putF f v ((g, w) :: gs) = if g = f then (g, v) :: gs else (g, w) :: putF f v gs := rfl
    rw [e]
    by_cases q : g = f
    · rw [if_pos q] at h' ⊢
      cases h'
      exact ⟨rfl, rfl⟩
    · rw [if_neg q] at h' ⊢
      rw [Option.map_eq_some_iff] at h'
      obtain ⟨j, hj, rfl⟩ := h'
      obtain ⟨h1, h2⟩ := putF_upd (v := v) hj
      exact ⟨by rw [List.map_cons, h1]; rfl, by rw [List.map_cons, h2]; rfl⟩
theorem RAll.setAt {K : PySem.W.Frag} {W : Wd} {vs : List V} {ds : List D} {v : V} {d : D} (r : RAll K W vs ds) (r1 : R K W v d) (i : Nat) : RAll K W (vs.set i v) (ds.set i d) := RAll.set r1 i r
/-- a store to a field: what is left to show -/
def updF (C : Addr) (f : Str) (o v : D) (e : En) (P : En → Prop) : Prop := ∃ n ns xs i, o = .cell n ∧ e.cs[n]? = some (.ins C ns xs) ∧ ns.length < 900 ∧ ixF f ns = some i ∧ P { e with cs := e.cs.set n (.ins C ns (xs.set i v)) }
section
variable {K : PySem.W.Frag} {W W0 : Wd} {H : Hp} {σ : L2.St} {e : En} {C : Addr} {f : Str} {o d : D} {P : En → Prop} {w v : V}
theorem updF_ok (S : Sd K W H σ e) (ro : R K W w o) (rv : R K W v d) (h : updF C f o d e P) : ∃ a dx gs, w = .ref a ∧ H a = some (.ins C dx gs) ∧ gs.length < 1000 ∧ ∃ e', P e' ∧ Sd K W (upd H a (.ins C dx (putF f v gs))) σ e' := by
  obtain ⟨n, ns, xs, i, rfl, hc, hl, hi, p⟩ := h
  cases ro with
  | cell hm =>
    obtain ⟨dx, gs, h1, h2, h3⟩ := S.ok.cl _ _ _ hm hc
    have hgl : gs.length = ns.length := by rw [← h2, List.length_map]
    have hi' : ixF f (gs.map (·.1)) = some i := by rw [h2]; exact hi
    obtain ⟨k1, k2⟩ := putF_upd (v := v) hi'
    refine ⟨_, dx, gs, rfl, h1, by omega, _, p, S.ok.setC hm hc (fun z => nomatch z) ⟨dx, _, upd_same, by rw [k1, h2], ?_⟩, S.sl⟩
    rw [k2]
    exact h3.setAt rv i
end
def sFldU (C : Addr) (f : Str) (to tv : DE) : DS := fun P e => tv e fun v e1 => to e1 fun o e2 => updF C f o v e2 P.nx
def sFldA (C : Addr) (f : Str) (q : D → D → DE) (to tv : DE) : DS := fun P e => to e fun o e1 => ∃ ns xs x, insD e1.cs o = some (C, ns, xs) ∧ getF f ns xs = some x ∧ tv e1 fun y e2 => q x y e2 fun z e3 => updF C f o z e3 P.nx
/-- a target, by data -/
abbrev DG := D → En → (En → Prop) → Prop
def lG (K : PySem.W.Frag) (B : Bs) (t : DG) : TG := fun v σ H Q => ∃ W e d P, B.p W ∧ Sd K W H σ e ∧ R K W v d ∧ t d e P ∧ ∀ e' W' H' σ', P e' → W.le W' → Sd K W' H' σ' e' → Q σ' H'
abbrev DGs := List D → En → (En → Prop) → Prop
def lGs (K : PySem.W.Frag) (B : Bs) (t : DGs) : TGs := fun vs σ H Q => ∃ W e ds P, B.p W ∧ Sd K W H σ e ∧ RAll K W vs ds ∧ t ds e P ∧ ∀ e' W' H' σ', P e' → W.le W' → Sd K W' H' σ' e' → Q σ' H'
theorem PG.imp {X : Cx} {tg : Expr} {t t' : TG} (h : PG X tg t) (i : ∀ v σ H Q, t' v σ H Q → t v σ H Q) : PG X tg t' := ⟨fun pins s σ H v u Q I r w => h.run pins s σ H v u Q I r (i v σ H Q w)⟩
theorem PGs.imp {X : Cx} {tg : List Expr} {t t' : TGs} (h : PGs X tg t) (i : ∀ v σ H Q, t' v σ H Q → t v σ H Q) : PGs X tg t' := ⟨fun pins s σ H v u Q I r w => h.run pins s σ H v u Q I r (i v σ H Q w)⟩
def gN (i : Nat) : DG := fun d e P => P { e with sl := e.sl.set i (some d) }
def gF (C : Addr) (f : Str) (to : DE) : DG := fun d e P => to e fun o e1 => updF C f o d e1 P
def gZ : DGs := fun ds e P => ds = [] ∧ P e
def gC (t : DG) (u : DGs) : DGs := fun ds e P => ∃ x xs, ds = x :: xs ∧ t x e fun e1 => u xs e1 P
def gT (n : Nat) (u : DGs) : DG := fun d e P => ∃ xs, d = .tup xs ∧ xs.length = n ∧ u xs e P
def sAsgG (t : DE) (g : DG) : DS := fun P e => t e fun d e1 => g d e1 P.nx
/-- two ints added in place -/
def qAddI : D → D → DE := fun x y e P => ∃ i j, x = .int i ∧ y = .int j ∧ P (.int (i + j)) e
section
variable {X : Cx} {B : Bs} {o ex tg : Expr} {te tv to : DE} {C : Addr} {f : Str} {pos pos' tpos : Pos} {ta : TE}
theorem ds_fldU (c : Cls X.K C) (n : NoAttr X.K C f) (ho : PE X o (lE X.K B te)) (hv : PE X ex (lE X.K B tv)) (hs : swapsWith ex (some (.Attribute o f pos')) pos.line X.env = pure false := by rfl) :
    PS X (.Assign [.Attribute o f pos'] ex pos) (lS X.K B (sFldU C f te tv)) := PS.imp (ps_fld ho hv hs) fun E σ H h => by
  obtain ⟨W, e, P, bl, S, h, cv⟩ := lS_un h
  refine ⟨W, e, _, bl, S, h, fun d e1 W1 H1 v t1 l1 S1 r1 => ⟨W1, e1, _, B.up bl l1, S1, t1, fun ob e2 W2 H2 w t2 l2 S2 r2 => ?_⟩⟩
  obtain ⟨a, dx, gs, rfl, h1, h2, e', p, S'⟩ := updF_ok S2 r2 (R.mono l2 _ _ r1) t2
  exact ⟨a, C, dx, gs, rfl, h1, c, n, h2, cv.nx _ _ _ _ p (l1.tr l2) S'⟩
theorem ds_fldA {op : Operator} {rd : V → V → Hp → VK → Prop} {q : D → D → DE} (c : Cls X.K C) (n : NoAttr X.K C f) (ho : PE X o (lE X.K B te)) (hv : PE X ex (lE X.K B tv)) (hop : InOp X op rd) (hq : OpD X.K rd q) :
    PS X (.AugAssign (.Attribute o f tpos) op ex pos) (lS X.K B (sFldA C f q te tv)) := PS.imp (ps_fldaug ho hv hop) fun E σ H h => by
  obtain ⟨W, e, P, bl, S, h, cv⟩ := lS_un h
  refine ⟨W, e, _, bl, S, h, fun ob e1 W1 H1 w t1 l1 S1 r1 => ?_⟩
  obtain ⟨ns, xs, x, hi, hx, t1⟩ := t1
  obtain ⟨a, dx, gs, rfl, h1, h2, h3⟩ := S1.ok.ins r1 hi
  obtain ⟨v, hv', rv⟩ := RAll.fld h2 h3 hx
  refine ⟨a, C, dx, gs, v, rfl, h1, c, n, hv', W1, e1, _, B.up bl l1, S1, t1, fun y e2 W2 H2 u t2 l2 S2 r2 => ?_⟩
  refine hq W2 H2 σ e2 v u x y _ _ S2 (R.mono l2 _ _ rv) r2 t2 fun z e3 W3 H3 zv t3 l3 S3 r3 => ?_
  obtain ⟨a', dx', gs', ea, h1', h2', e', p, S'⟩ := updF_ok S3 (R.mono (l2.tr l3) _ _ r1) r3 t3
  cases ea
  exact ⟨dx', gs', h1', h2', cv.nx _ _ _ _ p ((l1.tr l2).tr l3) S'⟩
theorem dg_name {i : Nat} {x : Str} (hN : X.N.Nodup) (hi : X.N[i]? = some x) (hx : Loc X.env.scope x) (hf : X.fn x = true ∨ X.env.scope.names.lookup x = some .local := by first | exact .inl rfl | exact .inr rfl | assumption) : PG X (.Name x pos) (lG X.K B (gN i)) :=
  PG.imp (pg_name hN hi hx hf) fun v σ H Q ⟨W, e, d, P, bl, S, r, p, k⟩ => k _ W H _ p W.le_refl ⟨S.ok, S.sl.set r⟩
/-- the field of an instance, a target -/
def gFldV (K : PySem.W.Frag) (ta : TE) (f : Str) : TG := fun y σ H Q => ta σ H fun x H2 => ∃ a C dx fs, x = .ref a ∧ H2 a = some (.ins C dx fs) ∧ Cls K C ∧ NoAttr K C f ∧ fs.length < 1000 ∧ Q σ (upd H2 a (.ins C dx (putF f y fs)))
theorem pg_fld (ha : PE X o ta) (hs : ∀ v, assign (.Attribute o f pos) X.env v = (do
      let ov ← holding [v] (eval o X.env)
      standAt pos.atName
      holding [v, ov] (setAttr ov f v)
      release [v, ov] []) := by intro _; rfl) : PG X (.Attribute o f pos) (gFldV X.K ta f) := by
  refine ⟨fun pins s σ H v u Q I r h => ?_⟩
  rw [hs]
  refine wpAny_bind (wpAny_holding (thn (ha.run pins s σ H _ I h) fun ov s1 ⟨x, H1, I1, r1, q1⟩ => ?_))
  obtain ⟨a, C, dx, fs, rfl, ea, c, n, l, q⟩ := q1
  obtain rfl : ov = Value.ref a := r1
  refine wpAny_bind (wpAny_standAt (wpAny_bind (wpAny_holding ?_)))
  exact setattr_ok I1 ea c n l r fun s3 I3 => wpAny_release ⟨σ, _, I3, q⟩
theorem dg_fld (c : Cls X.K C) (n : NoAttr X.K C f) (ho : PE X o (lE X.K B to)) (hs : ∀ v, assign (.Attribute o f pos) X.env v = (do
      let ov ← holding [v] (eval o X.env)
      standAt pos.atName
      holding [v, ov] (setAttr ov f v)
      release [v, ov] []) := by intro _; rfl) : PG X (.Attribute o f pos) (lG X.K B (gF C f to)) :=
  PG.imp (pg_fld ho hs) fun v σ H Q ⟨W, e, d, P, bl, S, r, t, k⟩ => ⟨W, e, _, bl, S, t, fun ob e1 W1 H1 w t1 l1 S1 r1 => by
    obtain ⟨a, dx, gs, rfl, h1, h2, e', p, S'⟩ := updF_ok S1 r1 (R.mono l1 _ _ r) t1
    exact ⟨a, C, dx, gs, rfl, h1, c, n, h2, k _ _ _ _ p l1 S'⟩⟩
theorem dg_nil : PGs X [] (lGs X.K B gZ) := PGs.imp pgs_nil fun vs σ H Q ⟨W, e, ds, P, bl, S, r, ⟨hd, p⟩, k⟩ => by
  subst hd
  cases r
  exact ⟨rfl, k _ _ _ _ p W.le_refl S⟩
theorem dg_cons {e0 : Expr} {es : List Expr} {t : DG} {u : DGs} (h1 : PG X e0 (lG X.K B t)) (h2 : PGs X es (lGs X.K B u))
    (hs : (assignEach (e0 :: es) X.env).map (·.2) = assign e0 X.env :: (assignEach es X.env).map (·.2) := by rfl) : PGs X (e0 :: es) (lGs X.K B (gC t u)) :=
  PGs.imp (pgs_cons h1 h2 hs) fun vs σ H Q ⟨W, e, ds, P, bl, S, r, ⟨x, xs, hd, p⟩, k⟩ => by
    subst hd
    cases r with
    | cons r1 r2 => exact ⟨_, _, rfl, W, e, _, _, bl, S, r1, p, fun e' W' H' σ' p' l' S' => ⟨W', e', _, _, B.up bl l', S', RAll.mono l' _ _ r2, p', fun e2 W2 H2 σ2 p2 l2 S2 => k _ _ _ _ p2 (l'.tr l2) S2⟩⟩
theorem dg_tup {es : List Expr} {k : Nat} {u : DGs} {n : Nat} (hc : X.calm = true) (h : PGs X es (lGs X.K B u))
    (hn : (assignEach es X.env).length = n := by rfl) (hst : (assignEach es X.env).findIdx? (·.1) = none := by rfl) : PG X (.Tuple es k pos) (lG X.K B (gT n u)) :=
  PG.imp (pg_tup hc h hn hst) fun v σ H Q ⟨W, e, d, P, bl, S, r, ⟨xs, hd, hl, p⟩, kk⟩ => by
    subst hd
    cases r with
    | tup h1 h2 => exact ⟨_, _, rfl, Evl.ex_t S.ok.ex h1, by rw [h2.length]; exact hl, W, e, _, _, bl, S, h2, p, kk⟩
theorem ds_asgG {g : DG} (he : PE X ex (lE X.K B te)) (hg : PG X tg (lG X.K B g)) (hs : swapsWithSole [tg] ex pos.line X.env = pure false := by rfl) (hw : swappedStores [tg] ex X.env = pure none := by rfl)
    (h1 : (assignEach [tg] X.env).map (·.2) = [assign tg X.env] := by rfl) : PS X (.Assign [tg] ex pos) (lS X.K B (sAsgG te g)) := PS.imp (ps_asg he hg hs hw h1) fun E σ H h => by
  obtain ⟨W, e, P, bl, S, h, c⟩ := lS_un h
  exact ⟨W, e, _, bl, S, h, fun d e1 W1 H1 v t1 l1 S1 r1 => ⟨W1, e1, d, _, B.up bl l1, S1, r1, t1, fun e' W' H' σ' p l S' => c.nx _ _ _ _ p (l1.tr l) S'⟩⟩
theorem od_inadd {K : PySem.W.Frag} : OpD K rAdd qAddI := fun W H σ e x y d1 d2 P Q S r1 r2 t k => by
  obtain ⟨i, j, rfl, rfl, p⟩ := t
  exact ⟨i, j, r1.int_inv, r2.int_inv, k _ _ _ _ _ p W.le_refl S (.int _)⟩
end
end DL
namespace DL
open PySem PySem.Spec PyProof.Rows L2
open Evl (Ex)

/-! ### operators of own classes -/
section
variable {K : PySem.W.Frag} {C C2 : Addr} {nm : String}
theorem NoSl.looks {M : Model} {h : Heap} (n : NoSl K C nm) (X : K.In h) : PySem.W.Looks M h (fillsNumberSlot (.ref C) nm) false := by
  intro A Q E s k q
  obtain ⟨cd, hc, hm⟩ := n.cd
  unfold fillsNumberSlot
  refine wpAny_bind ((PySem.W.looks_clsIn X hc).andThen (f := fun cd => pure cd.mro) .now A _ E s k ?_)
  rw [hm, List.anyM_cons]
  refine wpAny_bind ?_
  show wpAny M A (List.anyM _ [PySem.dunder nm, dunderR nm]) _ _ _
  rw [List.anyM_cons]
  refine wpAny_bind (wpAny_bind (PySem.W.looks_findIn X n.a A _ E s k ?_))
  dsimp only
  refine wpAny_pure ?_
  rw [if_neg (show ¬ (false = true) by simp), List.anyM_cons]
  refine wpAny_bind (wpAny_bind (PySem.W.looks_findIn X n.b A _ E s k ?_))
  dsimp only
  refine wpAny_pure ?_
  rw [if_neg (show ¬ (false = true) by simp)]
  refine wpAny_pure ?_
  rw [if_neg (show ¬ (false = true) by simp), List.anyM_cons]
  refine wpAny_bind (wpAny_bind (PySem.W.looks_findIn X n.oa A _ E s k (wpAny_bind (PySem.W.looks_findIn X n.ob A _ E s k ?_))))
  refine wpAny_pure ?_
  simp only [Option.isSome_none, Bool.false_and, Bool.or_self]
  rw [if_neg (show ¬ (false = true) by simp)]
  exact wpAny_pure q
end
section
variable {prog : Program} {w : World} {A : Around} {E : Value → Shared → Prop} {s : Shared} {K : PySem.W.Frag} {x C C2 L f : Addr} {h₀ : Heap} {m : Str → Option Value} {ox : Obj} {od : Option Obj}
open PySem.W in
/-- an operator of an own class, the other one of a class that has none -/
theorem binop_two {op : Operator} {b : Value} {Q : Value → Shared → Prop} (F : Fr h₀ L s.heap m) (X₀ : K.In h₀) (I : InstAt s.heap x ox C od) (hb : Looks (model prog w) s.heap (typeOf b) (.ref C2)) (n2 : NoSl K C2 op.info.2) (hc : selfFirst K C = true)
    (hs : findIn K (.ref C) (PySem.dunder op.info.2) = some (some (.ref f))) (hf : isFn K (.ref f) = true)
    (h : wpAny (model prog w) A (call (.ref f) [.ref x, b]) (PySem.W.CmpBack Q) E s) : wpAny (model prog w) A (binaryOp op (.ref x) b) Q E s := by
  have X := X₀.keeps F.keep
  obtain ⟨cd, hcd, hm⟩ := any_some hc
  obtain ⟨rest, hm⟩ : ∃ rest, cd.mro = .ref C :: rest := by
    cases q : cd.mro with
    | nil => rw [q] at hm; cases hm
    | cons a r => rw [q] at hm; exact ⟨r, by rw [List.head?_cons] at hm; cases (beq_iff_eq.mp hm); rfl⟩
  by_cases hcc : C = C2
  · subst hcc
    exact binop_K F X₀ I hb hc hs hf h
  have hne : (Value.ref C == Value.ref C2) = false := beq_eq_false_iff_ne.mpr fun e => hcc (by cases e; rfl)
  unfold binaryOp
  refine wpAny_holding (wpAny_bind ?_)
  unfold binaryOp1
  refine wpAny_bind (I.type.here (wpAny_bind (hb.here (wpAny_bind ((fills_K X hcd hm hs).here ?_)))))
  simp only [hne, Bool.false_eq_true, if_false]
  refine wpAny_bind ((n2.looks X).here ?_)
  simp only [Bool.and_false, Bool.false_eq_true, if_false, Bool.false_and]
  refine wpAny_bind (wpAny_pure ?_)
  simp only [Bool.and_false, Bool.false_eq_true, if_false, Bool.false_and]
  refine wpAny_bind (m := tryMethod (.ref x) _ b) ?_
  unfold tryMethod
  refine wpAny_bind (special_fn X I hs (beq_iff_eq.mp hf) (wpAny_mono h (fun v s' hv => ?_) fun _ _ e => e))
  cases v <;> first | exact hv.elim | exact wpAny_pure (wpAny_pure (wpAny_pure hv))
end
/-- a call of two values, the second one an instance of C2 -/
def rTwo (K : PySem.W.Frag) (C C2 : Addr) (sp : Spc) : R2 := fun x y H Q => ∃ a dx gs b dy gt, x = .ref a ∧ H a = some (.ins C dx gs) ∧ y = .ref b ∧ H b = some (.ins C2 dy gt) ∧ spD K sp [.ref a, .ref b] H Q E0
def qTwo (C C2 : Addr) (sp : Spc) : D → D → DE := fun d y e P => (∃ ns xs, insD e.cs d = some (C, ns, xs)) ∧ (∃ ns xs, insD e.cs y = some (C2, ns, xs)) ∧ sp [d, y] e.cs fun r cs' => P r { e with cs := cs' }
theorem od_two {K : PySem.W.Frag} {C C2 : Addr} {sp : Spc} : OpD K (rTwo K C C2 sp) (qTwo C C2 sp) := fun W H σ e x y d1 d2 P Q S r1 r2 ⟨⟨n1, x1, i1⟩, ⟨n2, x2, i2⟩, t⟩ k => by
  obtain ⟨a, dx, gs, rfl, h1, h2, h3⟩ := S.ok.ins r1 i1
  obtain ⟨b, dy, gt, rfl, h1', h2', h3'⟩ := S.ok.ins r2 i2
  exact ⟨a, dx, gs, b, dy, gt, rfl, h1, rfl, h1', W, e.cs, [d1, d2], _, S.ok, .cons r1 (.cons r2 .nil), t, fun d cs' W' H' v p l ok r' => k _ _ _ _ _ p l ⟨ok, S.sl.mono l⟩ r'⟩
section
variable {X : Cx} {C C2 fn : Addr} {k : Nat} {ps : List Str} {sp : Spc}
theorem cmp_eq {op : CmpOp} (h1 : op ≠ .Is) (h2 : op ≠ .IsNot) (h3 : op ≠ .In) (h4 : op ≠ .NotIn) (a b : Value) : compareOp op a b = richCompare op a b := by
  cases op <;> first | rfl | exact absurd rfl ‹_›
theorem op_cmpO {op : CmpOp} (G : Good X.prog X.w X.K X.mg X.base k fn ps sp) (hr : Room k X.A) (hu : X.A.units < cLine) (sm : Sm X.K C (cmpInfo op).2.1 fn) (hop : ∀ a b, compareOp op a b = richCompare op a b := by intros; rfl) : OpR X (compareOp op) (rTwo X.K C C sp) := by
  rintro pins s σ H x y v u Q I rx ry ⟨a, dx, gs, b, dy, gt, rfl, ha, rfl, hb, h⟩
  obtain ⟨fd, F, bi, kp⟩ := G
  cases (show v = Value.ref a from rx)
  cases (show u = Value.ref b from ry)
  obtain ⟨od, J⟩ := Inv.inst I ha
  obtain ⟨od2, J2⟩ := Inv.inst I hb
  obtain ⟨m, hF⟩ := I.fr
  rw [hop]
  refine PySem.W.cmp_K hu hF I.ok.mod.kin J J2.type (by unfold PySem.W.notFirst; simp) sm.at_ sm.fn (wpAny_mono (run_in (us := [.ref a, .ref b]) (vs := [V.ref a, V.ref b]) F bi hr I.env0 I (.cons rfl (.cons rfl .nil)) h) (fun v s' z => ?_) fun _ _ z => z)
  obtain ⟨v', H', I', rv, q⟩ := z
  exact RelV.cmp rv (P := EP X pins σ Q) ⟨v', H', I', rv, q⟩
theorem op_binO {op : Operator} (G : Good X.prog X.w X.K X.mg X.base k fn ps sp) (hr : Room k X.A) (sm : Sm X.K C (PySem.dunder op.info.2) fn) (hc : PySem.W.selfFirst X.K C = true) : OpR X (binaryOp op) (rTwo X.K C C sp) := by
  rintro pins s σ H x y v u Q I rx ry ⟨a, dx, gs, b, dy, gt, rfl, ha, rfl, hb, h⟩
  obtain ⟨fd, F, bi, kp⟩ := G
  cases (show v = Value.ref a from rx)
  cases (show u = Value.ref b from ry)
  obtain ⟨od, J⟩ := Inv.inst I ha
  obtain ⟨od2, J2⟩ := Inv.inst I hb
  obtain ⟨m, hF⟩ := I.fr
  refine PySem.W.binop_K hF I.ok.mod.kin J J2.type hc sm.at_ sm.fn (wpAny_mono (run_in (us := [.ref a, .ref b]) (vs := [V.ref a, V.ref b]) F bi hr I.env0 I (.cons rfl (.cons rfl .nil)) h) (fun v s' z => ?_) fun _ _ z => z)
  obtain ⟨v', H', I', rv, q⟩ := z
  exact RelV.cmp rv (P := EP X pins σ Q) ⟨v', H', I', rv, q⟩
theorem op_binT {op : Operator} (G : Good X.prog X.w X.K X.mg X.base k fn ps sp) (hr : Room k X.A) (sm : Sm X.K C (PySem.dunder op.info.2) fn) (hc : PySem.W.selfFirst X.K C = true) (n2 : NoSl X.K C2 op.info.2) : OpR X (binaryOp op) (rTwo X.K C C2 sp) := by
  rintro pins s σ H x y v u Q I rx ry ⟨a, dx, gs, b, dy, gt, rfl, ha, rfl, hb, h⟩
  obtain ⟨fd, F, bi, kp⟩ := G
  cases (show v = Value.ref a from rx)
  cases (show u = Value.ref b from ry)
  obtain ⟨od, J⟩ := Inv.inst I ha
  obtain ⟨od2, J2⟩ := Inv.inst I hb
  obtain ⟨m, hF⟩ := I.fr
  refine binop_two hF I.ok.mod.kin J J2.type n2 hc sm.at_ sm.fn (wpAny_mono (run_in (us := [.ref a, .ref b]) (vs := [V.ref a, V.ref b]) F bi hr I.env0 I (.cons rfl (.cons rfl .nil)) h) (fun v s' z => ?_) fun _ _ z => z)
  obtain ⟨v', H', I', rv, q⟩ := z
  exact RelV.cmp rv (P := EP X pins σ Q) ⟨v', H', I', rv, q⟩
end

/-! ### o[i] = v of an own class -/
section
variable {X : Cx} {B : Bs} {C fn : Addr} {k : Nat} {ps : List Str} {sp : Spc} {o i ex : Expr} {to ti tv : DE} {pos p2 : Pos}
def rSetO (K : PySem.W.Frag) (C : Addr) (sp : Spc) : TSet := fun x i v H Q => ∃ a dx gs, x = .ref a ∧ H a = some (.ins C dx gs) ∧ spD K sp [.ref a, i, v] H (fun _ H' => Q H') E0
theorem set_own (G : Good X.prog X.w X.K X.mg X.base k fn ps sp) (hr : Room k X.A) (sm : Sm X.K C "__setitem__" fn) (hq : PySem.W.noSeq X.K C = true) : PSet X (rSetO X.K C sp) := by
  rintro pins s σ H x i v ov iv u Q I rx ri rv ⟨a, dx, gs, rfl, ha, h⟩
  obtain ⟨fd, F, bi, kp⟩ := G
  cases (show ov = Value.ref a from rx)
  obtain ⟨od, J⟩ := Inv.inst I ha
  obtain ⟨m, hF⟩ := I.fr
  have KX := I.kIn
  unfold setItem sequenceKey callSpecial?
  refine wpAny_holding (wpAny_bind (wpAny_bind (J.type.here ?_)))
  refine wpAny_bind ((PySem.W.anyM_none KX hq).here ?_)
  rw [if_pos (show (!false) = true from rfl)]
  refine wpAny_pure (wpAny_bind ?_)
  refine wpAny_mono (PySem.W.special_fn (Q := fun r s' => r ≠ none ∧ ∃ H', Inv X pins σ H' s' ∧ Q H') KX J sm.at_ (beq_iff_eq.mp sm.fn) (wpAny_mono (run_in (us := [.ref a, iv, u]) (vs := [V.ref a, i, v]) F bi hr I.env0 I (.cons rfl (.cons ri (.cons rv .nil))) h) (fun v s' z => ?_) fun _ _ z => z)) (fun r s' z => ?_) fun _ _ z => z
  · obtain ⟨v', H', I', rv, q⟩ := z
    exact ⟨(fun z => nomatch z), H', I', q⟩
  · obtain ⟨h1, H', I', q⟩ := z
    cases r with
    | none => exact absurd rfl h1
    | some _ => exact wpAny_pure ⟨H', I', q⟩
def sSetO (C : Addr) (sp : Spc) (tv to ti : DE) : DS := fun P e => tv e fun v e1 => to e1 fun o e2 => ti e2 fun i e3 => (∃ ns xs, insD e3.cs o = some (C, ns, xs)) ∧ sp [o, i, v] e3.cs fun _ cs' => P.nx { e3 with cs := cs' }
theorem ds_setO (G : Good X.prog X.w X.K X.mg X.base k fn ps sp) (hr : Room k X.A) (sm : Sm X.K C "__setitem__" fn) (hq : PySem.W.noSeq X.K C = true) (hv : PE X ex (lE X.K B tv)) (ho : PE X o (lE X.K B to)) (hi : PE X i (lE X.K B ti))
    (ha : ∀ v, assign (.Subscript o i p2) X.env v = (do
      let ov ← holding [v] (eval o X.env)
      let iv ← holding [v, ov] (eval i X.env)
      standAt p2
      holding [v, ov, iv] (setItem ov iv v)
      release [v, ov, iv] []) := by intro _; rfl)
    (hs : swapsWithSole [.Subscript o i p2] ex pos.line X.env = pure false := by rfl) (hw : swappedStores [.Subscript o i p2] ex X.env = pure none := by rfl)
    (h1 : (assignEach [.Subscript o i p2] X.env).map (·.2) = [assign (.Subscript o i p2) X.env] := by rfl) : PS X (.Assign [.Subscript o i p2] ex pos) (lS X.K B (sSetO C sp tv to ti)) := PS.imp (ps_asg hv (pg_sub ho hi (set_own G hr sm hq) ha) hs hw h1) fun E σ H h => by
  obtain ⟨W, e, P, bl, S, h, c⟩ := lS_un h
  refine ⟨W, e, _, bl, S, h, fun d e1 W1 H1 v t1 l1 S1 r1 => ⟨W1, e1, _, B.up bl l1, S1, t1, fun ob e2 W2 H2 w t2 l2 S2 r2 => ⟨W2, e2, _, B.up bl (l1.tr l2), S2, t2, fun ix e3 W3 H3 x t3 l3 S3 r3 => ?_⟩⟩⟩
  obtain ⟨⟨ns, xs, hi⟩, t3⟩ := t3
  have r23 := R.mono l3 _ _ r2
  obtain ⟨a, dx, gs, rfl, h1', h2', h3'⟩ := S3.ok.ins r23 hi
  exact ⟨a, dx, gs, rfl, h1', W3, e3.cs, [ob, ix, d], _, S3.ok, .cons r23 (.cons r3 (.cons (R.mono (l2.tr l3) _ _ r1) .nil)), t3, fun d' cs' W' H' v' p l ok r' => c.nx _ _ _ _ p (((l1.tr l2).tr l3).tr l) ⟨ok, S3.sl.mono l⟩⟩
end

/-! ### isinstance with an own class -/
def qIsiC (C : Addr) : List D → DE
  | [d, .raw (.ref C')] => fun e P => C' = C ∧ (∃ ns xs, insD e.cs d = some (C, ns, xs)) ∧ P (.bl true) e
  | _ => fun _ _ => False
theorem cd_isiC {K : PySem.W.Frag} {C : Addr} : CallD K (fun xs H Q => ∃ a dx fs, xs = [.ref a, .ref C] ∧ H a = some (.ins C dx fs) ∧ Q (.bl true) H) (qIsiC C) := by
  intro W H σ e vs ds P Q S r t k
  unfold qIsiC at t
  split at t
  · obtain ⟨v, v2, rfl, r1, r2⟩ := r.two
    obtain ⟨rfl, ⟨ns, xs, hi⟩, p⟩ := t
    obtain ⟨a, dx, gs, rfl, h1, _⟩ := S.ok.ins r1 hi
    cases r2
    exact ⟨a, dx, gs, rfl, h1, k _ _ _ _ _ p W.le_refl S (.bl _)⟩
  · exact t.elim
theorem de_cls {X : Cx} {B : Bs} {x : Str} {C : Addr} {pos : Pos} (hg : Gl X x) (hm : X.mg x = some (.ref C)) (hd : (x == ("__debug__" : Str)) = false := by decide) : PE X (.Name x pos) (lE X.K B (eC (.raw (.ref C)))) :=
  de_glob hg hm (show RelV (.ref C) (.ref C) from rfl) (fun _ => .raw _) hd
end DL
namespace DL
open PySem PySem.Spec PyProof.Rows L2
open Evl (Ex)

/-! ### in, not in -/
def flD : D → Bool
  | .non => true
  | .bl _ => true
  | .int _ => true
  | .str _ => true
  | _ => false
def eqF : D → D → Bool
  | .non, .non => true
  | .bl a, .bl b => a == b
  | .bl a, .int b => (if a then 1 else 0) == b
  | .int a, .bl b => a == (if b then 1 else 0)
  | .int a, .int b => a == b
  | .str a, .str b => a == b
  | _, _ => false
def inF (x : D) (xs : List D) : Bool := xs.any fun y => eqF y x
section
variable {K : PySem.W.Frag} {W : Wd}
theorem R.flat {v : V} {d : D} (r : R K W v d) (h : flD d = true) : flatV v = true := by
  cases d <;> first | (cases h; done) | (cases r; rfl)
theorem R.eqv {v w : V} {d d' : D} (r : R K W v d) (r' : R K W w d') (h : flD d = true) (h' : flD d' = true) : eqV v w = eqF d d' := by
  cases d <;> first | (cases h; done) | (cases d' <;> first | (cases h'; done) | (cases r; cases r'; rfl))
theorem RAll.flat : ∀ {vs : List V} {ds : List D}, RAll K W vs ds → ds.all flD = true → vs.all flatV = true
  | _, _, .nil, _ => rfl
  | _, _, .cons r t, h => by
    rw [List.all_cons, Bool.and_eq_true] at h
    rw [List.all_cons, r.flat h.1, RAll.flat t h.2] <;> rfl
theorem RAll.inv {x : V} {d : D} (r : R K W x d) (h : flD d = true) : ∀ {vs : List V} {ds : List D}, RAll K W vs ds → ds.all flD = true → inV x vs = inF d ds
  | _, _, .nil, _ => rfl
  | _, _, .cons r1 t, h1 => by
    rw [List.all_cons, Bool.and_eq_true] at h1
    have ih := RAll.inv r h t h1.2
    unfold inV inF at ih ⊢
    rw [List.any_cons, List.any_cons, R.eqv r1 r h1.1 h, ih]
end
def qIn (neg : Bool) : D → D → DE := fun x y e P => (flD x = true ∧ ∃ xs, seqD e.cs y = some xs ∧ xs.all flD = true ∧ P (.bl (if neg then !inF x xs else inF x xs)) e) ∨
  ∃ ys, drf e.cs y = .lst ys ∧ shp (drf e.cs x) = true ∧ shp (.lst ys) = true ∧ P (.bl (if neg then !((toPs ys).any fun z => PyData.eqv z (toP (drf e.cs x))) else (toPs ys).any fun z => PyData.eqv z (toP (drf e.cs x)))) e
def rInA (K : PySem.W.Frag) (neg : Bool) : R2 := fun x y H Q => rIn K neg x y H Q ∨ (if neg then rNotInD K else rInD K) x y H Q
section
variable {X : Cx} {K : PySem.W.Frag}
theorem op_inA (hu : X.A.units + 65 < cLine) : OpR X (compareOp .In) (rInA X.K false) := op_in_seq.or (op_inD hu)
theorem op_notInA (hu : X.A.units + 65 < cLine) : OpR X (compareOp .NotIn) (rInA X.K true) := op_notIn_seq.or (op_notInD hu)
theorem od_in {neg : Bool} : OpD K (rInA K neg) (qIn neg) := by
  intro W H σ e x y d1 d2 P Q S r1 r2 t k
  rcases t with ⟨h1, xs, h2, h3, t⟩ | ⟨ys, h1, h2, h3, t⟩
  · obtain ⟨a, vs, rfl, h4, h5⟩ := S.ok.seq r2 h2
    refine .inl ⟨a, vs, rfl, h4, r1.flat h1, h5.flat h3, ?_⟩
    have := k _ _ _ _ (.bl (if neg then !inF d1 xs else inF d1 xs)) t W.le_refl S (.bl _)
    rw [RAll.inv r1 h1 h5 h3]
    exact this
  · obtain ⟨o1, s1⟩ := shp_and h2
    obtain ⟨o2, s2⟩ := shp_and h3
    have hx := S.ok.dp r1 o1
    have hy := S.ok.dp r2 (by rw [h1]; exact o2)
    rw [h1] at hy
    cases neg with
    | false => exact .inr ⟨_, _, hx, hy, s1, s2, k _ _ _ _ _ t W.le_refl S (.bl _)⟩
    | true => exact .inr ⟨_, _, hx, hy, s1, s2, k _ _ _ _ _ t W.le_refl S (.bl _)⟩
end
theorem units5 {k : Nat} {A : Around} (r : Room k A) : A.units + 65 < cLine := by have := r.un; omega
end DL
namespace DL
open PySem PySem.Spec PyProof.Rows L2
open Evl (Ex)

/-! ### enumerate, zip -/
/-- the list at a stays ds as long as G -/
def Stay (K : PySem.W.Frag) (W : Wd) (a : Addr) (G : List Cel → Prop) (ds : List D) : Prop := ∀ W' H σ e, W.sub W' → Sd K W' H σ e → G e.cs → ∃ vs, SqL K H a vs ∧ RAll K W' vs ds
def itL (d : D) (e : En) (P : List D → (List Cel → Prop) → En → Prop) : Prop :=
  (∃ xs, fixL d = some xs ∧ P xs anyC e) ∨ ∃ n xs, d = .cell n ∧ e.cs[n]? = some (.lst xs) ∧ P xs (fun cs => cs[n]? = some (.lst xs)) e
theorem v_itLF {d : D} {e : En} {P : List D → (List Cel → Prop) → En → Prop} (h : ∃ xs, fixL d = some xs ∧ P xs anyC e) : itL d e P := .inl h
theorem v_itLC {n : Nat} {e : En} {P : List D → (List Cel → Prop) → En → Prop} (h : ∃ xs, e.cs[n]? = some (.lst xs) ∧ P xs (fun cs => cs[n]? = some (.lst xs)) e) : itL (.cell n) e P := let ⟨xs, h1, h2⟩ := h; .inr ⟨n, xs, rfl, h1, h2⟩
section
variable {K : PySem.W.Frag} {W : Wd} {H : Hp} {σ : L2.St} {e : En}
theorem itL_stay {d : D} {v : V} {P : List D → (List Cel → Prop) → En → Prop} (S : Sd K W H σ e) (r : R K W v d) (h : itL d e P) : ∃ a xs G, v = .ref a ∧ (∃ vs, SqL K H a vs ∧ RAll K W vs xs) ∧ Stay K W a G xs ∧ P xs G e := by
  rcases h with ⟨xs, hx, p⟩ | ⟨n, xs, rfl, hc, p⟩
  · cases r <;> simp only [fixL] at hx <;> cases hx
    · rename_i a vs h1 h2
      exact ⟨a, _, _, rfl, ⟨vs, SqL.of (S.ok.ex _ _ h1), h2⟩, fun W' H' σ' e' l S' _ => ⟨vs, SqL.of (S'.ok.ex _ _ (l.1 _ _ h1)), RAll.mono' l _ _ h2⟩, p⟩
    · rename_i a vs h1 h2
      exact ⟨a, _, _, rfl, ⟨vs, Evl.ex_l S.ok.ex h1, h2⟩, fun W' H' σ' e' l S' _ => ⟨vs, Evl.ex_l (l.1.trans S'.ok.ex) h1, RAll.mono' l _ _ h2⟩, p⟩
  · cases r with
    | cell hm =>
      obtain ⟨vs, h1, h2⟩ := S.ok.cellL hm hc
      refine ⟨_, xs, _, rfl, ⟨vs, SqL.of h1, h2⟩, fun W' H' σ' e' l S' g => ?_, p⟩
      obtain ⟨more, e2⟩ := l.2
      have := (List.getElem?_eq_some_iff.mp hm).1
      obtain ⟨vs', h1', h2'⟩ := S'.ok.cellL (show W'.m[n]? = some _ by rw [e2, List.getElem?_append_left this]; exact hm) g
      exact ⟨vs', SqL.of h1', h2'⟩
def enumD : Nat → List D → List D
  | _, [] => []
  | k, x :: xs => .tup [.int (k : Int), x] :: enumD (k + 1) xs
theorem enumD_len : ∀ (k : Nat) (xs : List D), (enumD k xs).length = xs.length
  | _, [] => rfl
  | k, x :: xs => congrArg (· + 1) (enumD_len (k + 1) xs)
theorem enumD_get {d : D} : ∀ {k : Nat} {xs : List D} {i : Nat}, (enumD k xs)[i]? = some d → ∃ x, xs[i]? = some x ∧ d = .tup [.int ((k + i : Nat) : Int), x]
  | _, [], _, h => by simp [enumD] at h
  | k, x :: xs, 0, h => by
    simp [enumD] at h
    exact ⟨x, by simp, h.symm⟩
  | k, x :: xs, i + 1, h => by
    have h' : (enumD (k + 1) xs)[i]? = some d := by simpa [enumD] using h
    obtain ⟨y, h1, h2⟩ := enumD_get h'
    exact ⟨y, by simpa using h1, by rw [h2, show k + 1 + i = k + (i + 1) by omega]⟩
def zipD : List D → List D → List D
  | x :: xs, y :: ys => .tup [x, y] :: zipD xs ys
  | _, _ => []
theorem zipD_len : ∀ xs ys : List D, (zipD xs ys).length = min xs.length ys.length
  | [], _ => by simp [zipD]
  | _ :: _, [] => by simp [zipD]
  | x :: xs, y :: ys => by
    have := zipD_len xs ys
    simp only [zipD, List.length_cons]
    omega
theorem zipD_get {d : D} : ∀ {xs ys : List D} {i : Nat}, (zipD xs ys)[i]? = some d → ∃ x y, xs[i]? = some x ∧ ys[i]? = some y ∧ d = .tup [x, y]
  | [], _, _, h => by simp [zipD] at h
  | _ :: _, [], _, h => by simp [zipD] at h
  | x :: xs, y :: ys, 0, h => by
    simp [zipD] at h
    exact ⟨x, y, by simp, by simp, h.symm⟩
  | x :: xs, y :: ys, i + 1, h => by
    have h' : (zipD xs ys)[i]? = some d := by simpa [zipD] using h
    obtain ⟨a, b, h1, h2, h3⟩ := zipD_get h'
    exact ⟨a, b, by simpa using h1, by simpa using h2, h3⟩
theorem new2 (S : Sd K W H σ e) {T : Addr} {x y : V} {a b : D} (hT : H T = none) (r1 : R K W x a) (r2 : R K W y b) : ∃ W', W.le W' ∧ Sd K W' (upd H T (.tup [x, y])) σ e ∧ R K W' (.ref T) (.tup [a, b]) := by
  obtain ⟨ok, l⟩ := S.ok.newF (o := .tup [x, y]) hT
  exact ⟨_, l, ⟨ok, S.sl.mono l⟩, .tup (SqT.of upd_same) (.cons (R.mono l _ _ r1) (.cons (R.mono l _ _ r2) .nil))⟩
theorem wk_enum {a : Addr} {G : List Cel → Prop} {ds : List D} (s : Stay K W a G ds) : Wk K W (Ite K a) G (enumD 0 ds) where
  go := fun i W' H σ e l S g hi => by
    obtain ⟨vs, h1, h2⟩ := s W' H σ e l S g
    rw [enumD_len] at hi
    have hi' : i < vs.length := by rw [h2.length]; exact hi
    exact ⟨vs, vs[i], h1, by simp [hi']⟩
  yld := fun i W' H σ e x H' d l S g hd y => by
    obtain ⟨vs, h1, h2⟩ := s W' H σ e l S g
    obtain ⟨T, x', rfl, hT, rfl, y⟩ := y
    obtain ⟨z, hz, rfl⟩ := enumD_get hd
    obtain ⟨v, hv, rv⟩ := h2.get hz
    have e1 := y vs h1
    rw [hv] at e1
    cases e1
    rw [Nat.zero_add]
    exact new2 S hT (.int _) rv
  stop := fun i W' H σ e l S g hi => by
    obtain ⟨vs, h1, h2⟩ := s W' H σ e l S g
    rw [enumD_len] at hi
    exact ⟨vs, h1, by rw [h2.length]; exact hi⟩
theorem wk_zip {a b : Addr} {G G' : List Cel → Prop} {ds ds' : List D} (s : Stay K W a G ds) (s' : Stay K W b G' ds') : Wk K W (Itz K a b) (fun cs => G cs ∧ G' cs) (zipD ds ds') where
  go := fun i W' H σ e l S g hi => by
    obtain ⟨vs, h1, h2⟩ := s W' H σ e l S g.1
    obtain ⟨us, h3, h4⟩ := s' W' H σ e l S g.2
    rw [zipD_len] at hi
    have hi1 : i < vs.length := by rw [h2.length]; omega
    have hi2 : i < us.length := by rw [h4.length]; omega
    exact ⟨vs, us, vs[i], us[i], h1, h3, by simp [hi1], by simp [hi2]⟩
  yld := fun i W' H σ e x H' d l S g hd y => by
    obtain ⟨vs, h1, h2⟩ := s W' H σ e l S g.1
    obtain ⟨us, h3, h4⟩ := s' W' H σ e l S g.2
    obtain ⟨T, x', y', rfl, hT, rfl, q1, q2⟩ := y
    obtain ⟨z, z', hz, hz', rfl⟩ := zipD_get hd
    obtain ⟨v, hv, rv⟩ := h2.get hz
    obtain ⟨u, hu, ru⟩ := h4.get hz'
    have e1 := q1 vs h1
    rw [hv] at e1
    cases e1
    have e2 := q2 us h3
    rw [hu] at e2
    cases e2
    exact new2 S hT rv ru
  stop := fun i W' H σ e l S g hi => by
    obtain ⟨vs, h1, h2⟩ := s W' H σ e l S g.1
    obtain ⟨us, h3, h4⟩ := s' W' H σ e l S g.2
    rw [zipD_len] at hi
    exact ⟨vs, us, h1, h3, by rw [h2.length, h4.length]; omega⟩
theorem wk_zipT {a b : Addr} {vs us : List V} {ds ds' : List D} (h1 : SqT K W.F a vs) (h2 : RAll K W vs ds) (h3 : SqT K W.F b us) (h4 : RAll K W us ds') : Wk K W (RZ.ItzT K a b) anyC (zipD ds ds') where
  go := fun i W' H σ e l S g hi => by
    rw [zipD_len] at hi
    have hi1 : i < vs.length := by rw [h2.length]; omega
    have hi2 : i < us.length := by rw [h4.length]; omega
    exact ⟨vs, us, vs[i], us[i], Evl.ex_t (l.1.trans S.ok.ex) h1, Evl.ex_t (l.1.trans S.ok.ex) h3, by simp [hi1], by simp [hi2]⟩
  yld := fun i W' H σ e x H' d l S g hd y => by
    obtain ⟨T, x', y', rfl, hT, rfl, q1, q2⟩ := y
    obtain ⟨z, z', hz, hz', rfl⟩ := zipD_get hd
    obtain ⟨v, hv, rv⟩ := h2.get hz
    obtain ⟨u, hu, ru⟩ := h4.get hz'
    have e1 := q1 vs (Evl.ex_t (l.1.trans S.ok.ex) h1)
    rw [hv] at e1
    cases e1
    have e2 := q2 us (Evl.ex_t (l.1.trans S.ok.ex) h3)
    rw [hu] at e2
    cases e2
    exact new2 S hT (R.mono' l _ _ rv) (R.mono' l _ _ ru)
  stop := fun i W' H σ e l S g hi => by
    rw [zipD_len] at hi
    exact ⟨vs, us, Evl.ex_t (l.1.trans S.ok.ex) h1, Evl.ex_t (l.1.trans S.ok.ex) h3, by rw [h2.length, h4.length]; omega⟩
end
def iEn (t : DA) : DI := fun e P => t e fun ds e1 => ∃ d, ds = [d] ∧ itL d e1 fun xs G e2 => P (enumD 0 xs) G e2
def iZp (t : DA) : DI := fun e P => t e fun ds e1 => ∃ x y, ds = [x, y] ∧ ((itL x e1 fun xs G _ => itL y e1 fun ys G' _ => P (zipD xs ys) (fun cs => G cs ∧ G' cs) e1) ∨ ∃ xs ys, x = .tup xs ∧ y = .tup ys ∧ P (zipD xs ys) anyC e1)
section
variable {X : Cx} {B : Bs} {ex e2 : Expr} {ta : DA} {p pos tpos : Pos} {elts : List Expr} {kk : Nat}
theorem di_enum (hg : Gl X "enumerate") (hm : X.mg "enumerate" = none) (ha : PA X [ex] (lA X.K B ta)) (hs : starEach [ex] X.env = [(false, eval ex X.env)] := by rfl) : PI X (.Tuple elts kk tpos) (.Call (.Name "enumerate" p) [ex] [] pos) (lI X.K B (iEn ta)) :=
  PI.imp (pi_enum hg hm ha hs) fun σ H Q ⟨W, e, P, bl, S, t, k⟩ => ⟨W, e, _, bl, S, t, fun ds e1 W1 H1 vs ⟨d, hd, p⟩ l S1 r => by
    subst hd
    obtain ⟨v, rfl, r1⟩ := r.one
    obtain ⟨a, xs, G, rfl, ⟨us, h1, h2⟩, st, q⟩ := itL_stay S1 r1 p
    exact ⟨a, us, rfl, h1, k _ _ _ _ _ _ q l S1 (wk_enum st)⟩⟩
theorem di_zip (hg : Gl X "zip") (hm : X.mg "zip" = none) (ha : PA X [ex, e2] (lA X.K B ta)) (hs : starEach [ex, e2] X.env = (false, eval ex X.env) :: starEach [e2] X.env := by rfl) (hpl : (backTo pos (starEach [e2] X.env)).any (·.1) = false := by rfl) :
    PI X (.Tuple elts kk tpos) (.Call (.Name "zip" p) [ex, e2] [] pos) (lI X.K B (iZp ta)) :=
  PI.imp (RZ.pi_zipA hg hm ha hs hpl) fun σ H Q ⟨W, e, P, bl, S, t, k⟩ => ⟨W, e, _, bl, S, t, fun ds e1 W1 H1 vs ⟨x, y, hd, p⟩ l S1 r => by
    subst hd
    obtain ⟨v, v2, rfl, r1, r2⟩ := r.two
    rcases p with p | ⟨xs, ys, rfl, rfl, p⟩
    · obtain ⟨a, xs, G, rfl, ⟨us, h1, h2⟩, st, q⟩ := itL_stay S1 r1 p
      obtain ⟨b, ys, G', rfl, ⟨ws, h3, h4⟩, st', q'⟩ := itL_stay S1 r2 q
      exact ⟨a, b, us, ws, rfl, .inl ⟨h1, h3, k _ _ _ _ _ _ q' l S1 (wk_zip st st')⟩⟩
    · cases r1 with
      | tup h1 h2 =>
        cases r2 with
        | tup h3 h4 => exact ⟨_, _, _, _, rfl, .inr ⟨Evl.ex_t S1.ok.ex h1, Evl.ex_t S1.ok.ex h3, k _ _ _ _ _ _ p l S1 (wk_zipT h1 h2 h3 h4)⟩⟩⟩
end
/-- a tuple of the module -/
theorem de_tupG {X : Cx} {B : Bs} {x : Str} {a : Addr} {vs : List V} {ds : List D} {pos : Pos} (hg : Gl X x) (hm : X.mg x = some (.ref a)) (h : ∀ H, SqT X.K H a vs) (r : ∀ W, RAll X.K W vs ds) (hd : (x == ("__debug__" : Str)) = false := by decide) :
    PE X (.Name x pos) (lE X.K B (eC (.tup ds))) := de_glob hg hm (show RelV (.ref a) (.ref a) from rfl) (fun W => .tup (h W.F) (r W)) hd
end DL
namespace DL
open PySem PySem.Spec PyProof.Rows L2
open Evl (Ex)

/-! ### more steps -/
section
variable {e : En} {P : D → En → Prop} {x y d : D} {a b : Int} {te tv to : DE} {Po' : Po} {C : Addr} {f : Str} {PE' : En → Prop} {k : Bool}
theorem v_isN0 (p : P (.bl true) e) : qIs .non .non e P := ⟨rfl, rfl, p⟩
theorem v_isN1 (h : isN x = false ∧ notRaw x = true ∧ P (.bl false) e) : qIs x .non e P := by
  obtain ⟨h1, h2, p⟩ := h
  rw [← h1] at p
  cases x <;> first | (cases h1; done) | (cases h2; done) | exact ⟨rfl, rfl, p⟩
theorem v_isnN0 (p : P (.bl false) e) : qIsNot .non .non e P := ⟨rfl, rfl, p⟩
theorem v_isnN1 (h : isN x = false ∧ notRaw x = true ∧ P (.bl true) e) : qIsNot x .non e P := by
  obtain ⟨h1, h2, p⟩ := h
  cases x <;> first | (cases h1; done) | (cases h2; done) | exact ⟨rfl, rfl, p⟩
def noInt : D → Bool
  | .int _ => false
  | _ => true
theorem v_eqP (h : (noInt x || noInt y) = true ∧ shp (drf e.cs x) = true ∧ shp (drf e.cs y) = true ∧ PyData.eqv (toP (drf e.cs x)) (toP (drf e.cs y)) = k ∧ P (.bl k) e) : qEq x y e P := by
  obtain ⟨h0, h1, h2, h3, p⟩ := h
  have q : shp (drf e.cs x) = true ∧ shp (drf e.cs y) = true ∧ P (.bl (PyData.eqv (toP (drf e.cs x)) (toP (drf e.cs y)))) e := ⟨h1, h2, by rw [h3]; exact p⟩
  unfold qEq
  split
  · exact nomatch (show false = true from h0)
  · exact q
theorem v_neP (h : (noInt x || noInt y) = true ∧ shp (drf e.cs x) = true ∧ shp (drf e.cs y) = true ∧ PyData.eqv (toP (drf e.cs x)) (toP (drf e.cs y)) = k ∧ P (.bl (!k)) e) : qNe x y e P := by
  obtain ⟨h0, h1, h2, h3, p⟩ := h
  have q : shp (drf e.cs x) = true ∧ shp (drf e.cs y) = true ∧ P (.bl (!PyData.eqv (toP (drf e.cs x)) (toP (drf e.cs y)))) e := ⟨h1, h2, by rw [h3]; exact p⟩
  unfold qNe
  split
  · exact nomatch (show false = true from h0)
  · exact q
theorem v_eqPT (h : (noInt x || noInt y) = true ∧ shp (drf e.cs x) = true ∧ shp (drf e.cs y) = true ∧ PyData.eqv (toP (drf e.cs x)) (toP (drf e.cs y)) = true ∧ P (.bl true) e) : qEq x y e P := v_eqP h
theorem v_eqPF (h : (noInt x || noInt y) = true ∧ shp (drf e.cs x) = true ∧ shp (drf e.cs y) = true ∧ PyData.eqv (toP (drf e.cs x)) (toP (drf e.cs y)) = false ∧ P (.bl false) e) : qEq x y e P := v_eqP h
theorem v_nePT (h : (noInt x || noInt y) = true ∧ shp (drf e.cs x) = true ∧ shp (drf e.cs y) = true ∧ PyData.eqv (toP (drf e.cs x)) (toP (drf e.cs y)) = true ∧ P (.bl false) e) : qNe x y e P := v_neP h
theorem v_nePF (h : (noInt x || noInt y) = true ∧ shp (drf e.cs x) = true ∧ shp (drf e.cs y) = true ∧ PyData.eqv (toP (drf e.cs x)) (toP (drf e.cs y)) = false ∧ P (.bl true) e) : qNe x y e P := v_neP h
def nd : D → Bool
  | .cell _ => false
  | .fro _ => false
  | _ => true
theorem nd_drf {cs : List Cel} {d : D} (h : nd d = true) : drf cs d = d := by cases d <;> first | rfl | cases h
theorem v_eqN (h : (nd x = true ∧ nd y = true ∧ (noInt x || noInt y) = true) ∧ shp x = true ∧ shp y = true ∧ PyData.eqv (toP x) (toP y) = k ∧ P (.bl k) e) : qEq x y e P := by
  obtain ⟨⟨h1, h2, h3⟩, h4, h5, h6, p⟩ := h
  exact v_eqP ⟨h3, by rw [nd_drf h1]; exact h4, by rw [nd_drf h2]; exact h5, by rw [nd_drf h1, nd_drf h2]; exact h6, p⟩
theorem v_neN (h : (nd x = true ∧ nd y = true ∧ (noInt x || noInt y) = true) ∧ shp x = true ∧ shp y = true ∧ PyData.eqv (toP x) (toP y) = k ∧ P (.bl (!k)) e) : qNe x y e P := by
  obtain ⟨⟨h1, h2, h3⟩, h4, h5, h6, p⟩ := h
  exact v_neP ⟨h3, by rw [nd_drf h1]; exact h4, by rw [nd_drf h2]; exact h5, by rw [nd_drf h1, nd_drf h2]; exact h6, p⟩
theorem v_eqNT (h : (nd x = true ∧ nd y = true ∧ (noInt x || noInt y) = true) ∧ shp x = true ∧ shp y = true ∧ PyData.eqv (toP x) (toP y) = true ∧ P (.bl true) e) : qEq x y e P := v_eqN h
theorem v_eqNF (h : (nd x = true ∧ nd y = true ∧ (noInt x || noInt y) = true) ∧ shp x = true ∧ shp y = true ∧ PyData.eqv (toP x) (toP y) = false ∧ P (.bl false) e) : qEq x y e P := v_eqN h
theorem v_neNT (h : (nd x = true ∧ nd y = true ∧ (noInt x || noInt y) = true) ∧ shp x = true ∧ shp y = true ∧ PyData.eqv (toP x) (toP y) = true ∧ P (.bl false) e) : qNe x y e P := v_neN h
theorem v_neNF (h : (nd x = true ∧ nd y = true ∧ (noInt x || noInt y) = true) ∧ shp x = true ∧ shp y = true ∧ PyData.eqv (toP x) (toP y) = false ∧ P (.bl true) e) : qNe x y e P := v_neN h
theorem ins_cell {cs : List Cel} {n : Nat} {ns : List Str} {xs : List D} (h : cs[n]? = some (.ins C ns xs)) : insD cs (.cell n) = some (C, ns, xs) := by
  show (match cs[n]? with | some (.ins C ns xs) => some (C, ns, xs) | _ => none) = some (C, ns, xs)
  rw [h]
theorem v_asgG {g : DG} (h : te e fun d e1 => g d e1 Po'.nx) : sAsgG te g Po' e := h
theorem v_gN {i : Nat} (h : PE' { e with sl := e.sl.set i (some d) }) : gN i d e PE' := h
theorem v_gF (h : to e fun o e1 => updF C f o d e1 PE') : gF C f to d e PE' := h
theorem v_gZ (h : PE' e) : gZ [] e PE' := ⟨rfl, h⟩
theorem v_gC {t : DG} {u : DGs} {xs : List D} (h : t x e fun e1 => u xs e1 PE') : gC t u (x :: xs) e PE' := ⟨_, _, rfl, h⟩
theorem v_gT {n : Nat} {u : DGs} {xs : List D} (h : xs.length = n ∧ u xs e PE') : gT n u (.tup xs) e PE' := ⟨_, rfl, h⟩
theorem v_updF (h : ∃ n ns xs i, x = .cell n ∧ e.cs[n]? = some (.ins C ns xs) ∧ ns.length < 900 ∧ ixF f ns = some i ∧ PE' { e with cs := e.cs.set n (.ins C ns (xs.set i d)) }) : updF C f x d e PE' := h
theorem v_fldU (h : tv e fun v e1 => to e1 fun o e2 => updF C f o v e2 Po'.nx) : sFldU C f to tv Po' e := h
theorem v_fldA {q : D → D → DE} (h : to e fun o e1 => ∃ ns xs x, insD e1.cs o = some (C, ns, xs) ∧ getF f ns xs = some x ∧ tv e1 fun y e2 => q x y e2 fun z e3 => updF C f o z e3 Po'.nx) : sFldA C f q to tv Po' e := h
theorem v_addII (p : P (.int (a + b)) e) : qAddI (.int a) (.int b) e P := ⟨a, b, rfl, rfl, p⟩
theorem v_methX {cs : List Cel} {m : Str} {R : Prop} (h : (∃ ns xs, insD cs d = some (C, ns, xs) ∧ m ∉ ns) ∧ R) : (∃ ns xs, insD cs d = some (C, ns, xs) ∧ m ∉ ns) ∧ R := h
theorem v_while {c : DT} {tb : DS} (h : ∃ I : Nat → En → Prop, (∃ m, I m e) ∧ ∀ m e1, I m e1 → c e1 fun b e2 => if b = true then tb (Po'.lp fun e3 => ∃ m', m' < m ∧ I m' e3) e2 else Po'.nx e2) : sWhile c tb Po' e := h
theorem v_setO {ti : DE} {sp : Spc} (h : tv e fun v e1 => to e1 fun o e2 => ti e2 fun i e3 => (∃ ns xs, insD e3.cs o = some (C, ns, xs)) ∧ sp [o, i, v] e3.cs fun _ cs' => Po'.nx { e3 with cs := cs' }) : sSetO C sp tv to ti Po' e := h
theorem v_en {t : DA} {Q : List D → (List Cel → Prop) → En → Prop} (h : t e fun ds e1 => ∃ d, ds = [d] ∧ itL d e1 fun xs G e2 => Q (enumD 0 xs) G e2) : iEn t e Q := h
theorem v_oneD {PQ : D → Prop} (h : PQ d) : ∃ d', [d] = [d'] ∧ PQ d' := ⟨d, rfl, h⟩
theorem v_addL {o : Bool} {xs ys : List D} (h : xs.length + ys.length ≤ 100000 ∧ newL o (xs ++ ys) e P) : qAdd o (.lst xs) (.lst ys) e P := ⟨xs, ys, rfl, rfl, Nat.le_trans h.1 (by decide), h.2⟩
end
end DL
namespace DL
open PySem PySem.Spec PyProof.Rows L2
open Evl (Ex)

/-! ### data that may be compared -/
structure Sh (n : Nat) (d : D) : Prop where
  ok : okD d = true
  lay : (toP d).canLay0 = true
  dep : (toP d).depth ≤ n
structure Shs (n : Nat) (ds : List D) : Prop where
  ok : okDs ds = true
  lay : PyData.canLayAll0 (toPs ds) = true
  dep : PyData.depthAll (toPs ds) ≤ n
theorem Sh.shp {n : Nat} {d : D} (h : Sh n d) (hn : n ≤ 64 := by decide) : shp d = true := by
  unfold DL.shp SeqAt.shaped
  rw [h.ok, h.lay, decide_eq_true (Nat.le_trans h.dep hn)] <;> rfl
theorem Sh.mono {n m : Nat} {d : D} (h : Sh n d) (hn : n ≤ m) : Sh m d := ⟨h.ok, h.lay, Nat.le_trans h.dep hn⟩
theorem Sh.int (i : Int) : Sh 0 (.int i) := ⟨rfl, rfl, by show (PyData.int _).depth ≤ 0; simp [PyData.depth]⟩
theorem Sh.bl (b : Bool) : Sh 0 (.bl b) := ⟨rfl, rfl, by show (PyData.bool _).depth ≤ 0; simp [PyData.depth]⟩
theorem Sh.non : Sh 0 .non := ⟨rfl, rfl, by show (PyData.none).depth ≤ 0; simp [PyData.depth]⟩
theorem Sh.str {s : Str} (h : (PyData.str s).canLay0 = true) : Sh 0 (.str s) := ⟨rfl, h, by show (PyData.str _).depth ≤ 0; simp [PyData.depth]⟩
theorem Sh.ofE {α : Type} [DecidableEq α] {enc : α → D} {n : Nat} (h : EqE enc n) (a : α) : Sh n (enc a) := ⟨h.ok a, h.lay a, h.dep a⟩
theorem Shs.nil {n : Nat} : Shs n [] := ⟨rfl, rfl, Nat.zero_le _⟩
theorem Shs.cons {n : Nat} {d : D} {ds : List D} (h : Sh n d) (t : Shs n ds) : Shs n (d :: ds) := by
  refine ⟨?_, ?_, ?_⟩
  · show (okD d && okDs ds) = true
    rw [h.ok, t.ok] <;> rfl
  · show ((toP d).canLay0 && PyData.canLayAll0 (toPs ds)) = true
    rw [h.lay, t.lay] <;> rfl
  · have h1 := h.dep
    have h2 := t.dep
    show PyData.depthAll (toP d :: toPs ds) ≤ n
    simp only [PyData.depthAll]
    omega
theorem Shs.all {n : Nat} : ∀ {ds : List D}, (∀ d ∈ ds, Sh n d) → Shs n ds
  | [], _ => .nil
  | d :: ds, h => .cons (h d (List.mem_cons_self ..)) (Shs.all fun x hx => h x (List.mem_cons_of_mem _ hx))
theorem Sh.tup {n : Nat} {ds : List D} (h : Shs n ds) : Sh (n + 1) (.tup ds) := ⟨h.ok, by show (PyData.tuple (toPs ds)).canLay0 = true; simp only [PyData.canLay0]; exact h.lay, by have := h.dep; show (PyData.tuple (toPs ds)).depth ≤ n + 1; simp only [PyData.depth]; omega⟩
theorem Sh.lst {n : Nat} {ds : List D} (h : Shs n ds) : Sh (n + 1) (.lst ds) := ⟨h.ok, by show (PyData.list (toPs ds)).canLay0 = true; simp only [PyData.canLay0]; exact h.lay, by have := h.dep; show (PyData.list (toPs ds)).depth ≤ n + 1; simp only [PyData.depth]; omega⟩
mutual
theorem eqv_refl : ∀ d : PyData, d.canLay0 = true → PyData.eqv d d = true
  | .none, _ => by simp only [PyData.eqv]
  | .bool b, _ => by simp only [PyData.eqv, beq_self_eq_true]
  | .int i, _ => by simp only [PyData.eqv, beq_self_eq_true]
  | .str s, _ => by simp only [PyData.eqv, beq_self_eq_true]
  | .list xs, h => by
    simp only [PyData.canLay0] at h
    simp only [PyData.eqv]
    exact eqvs_refl xs h
  | .tuple xs, h => by
    simp only [PyData.canLay0] at h
    simp only [PyData.eqv]
    exact eqvs_refl xs h
  | .dict _, h => by simp only [PyData.canLay0] at h; cases h
theorem eqvs_refl : ∀ ds : List PyData, PyData.canLayAll0 ds = true → PyData.eqvAll ds ds = true
  | [], _ => by simp only [PyData.eqvAll]
  | d :: ds, h => by
    simp only [PyData.canLayAll0, Bool.and_eq_true] at h
    simp only [PyData.eqvAll, eqv_refl d h.1, eqvs_refl ds h.2, Bool.and_self]
end
section
variable {e : En} {P : D → En → Prop} {x y d : D} {n : Nat}
theorem drf_lk {cs : List Cel} {d : D} {xs : List D} (h : lk cs d = some xs) : drf cs d = .lst xs := by
  cases d with
  | cell n => exact drf_cell (lk_cell_iff h)
  | lst ys => cases h; rfl
  | fro ys => cases h; rfl
  | _ => cases h
theorem v_tgX {tg : Tg} {d : D} {sl : List (Option D)} {PQ : List (Option D) → Prop} (h : ∃ sl', setTg tg d sl = some sl' ∧ PQ sl') : ∃ sl', setTg tg d sl = some sl' ∧ PQ sl' := h
theorem app_set' {cs : List Cel} {c0 c : Cel} : (cs ++ [c0]).set cs.length c = cs ++ [c] := by simp
/-- the same data on both sides -/
theorem v_eqS (hx : drf e.cs x = d) (hy : drf e.cs y = d) (h : Sh n d) (p : P (.bl true) e) (hni : (noInt x || noInt y) = true := by rfl) (hn : n ≤ 64 := by decide) : qEq x y e P :=
  v_eqP ⟨hni, by rw [hx]; exact h.shp hn, by rw [hy]; exact h.shp hn, by rw [hx, hy]; exact eqv_refl _ h.lay, p⟩
theorem v_neS (hx : drf e.cs x = d) (hy : drf e.cs y = d) (h : Sh n d) (p : P (.bl false) e) (hni : (noInt x || noInt y) = true := by rfl) (hn : n ≤ 64 := by decide) : qNe x y e P :=
  v_nePT ⟨hni, by rw [hx]; exact h.shp hn, by rw [hy]; exact h.shp hn, by rw [hx, hy]; exact eqv_refl _ h.lay, p⟩
end
end DL
namespace DL
open PySem PySem.Spec PyProof.Rows L2
open Evl (Ex)

/-! ### an own class beside what is none of it -/
theorem mro_ty : ∀ a ∈ tysB, (PySem.fastBuiltinMro a).isSome = true := by decide +kernel
theorem subIn_ty {K : PySem.W.Frag} {C : Addr} {a : String} (h : a ∈ tysB) : PySem.W.subIn K (.type a) (.ref C) = some false := by
  have q := mro_ty a h
  show (PySem.fastBuiltinMro a).map (·.contains (Value.ref C)) = some false
  unfold PySem.fastBuiltinMro at q ⊢
  cases e : PySem.fastFind? a with
  | none => rw [e] at q; cases q
  | some m =>
    show some ((m.mro.map Value.type).contains (Value.ref C)) = some false
    rw [Option.some.injEq, Bool.eq_false_iff]
    intro z
    obtain ⟨n, _, e⟩ := List.mem_map.mp (List.contains_iff_mem.mp z)
    cases e
theorem nf_ty {K : PySem.W.Frag} {C : Addr} {a : String} (h : a ∈ tysB) : PySem.W.notFirst K C (.type a) = true := by
  unfold PySem.W.notFirst
  rw [subIn_ty h]
  simp
def rCmpA (K : PySem.W.Frag) (C : Addr) (sp : Spc) : R2 := fun x y H Q => ∃ a dx gs t, x = .ref a ∧ H a = some (.ins C dx gs) ∧ TyX K H y (.type t) ∧ t ∈ tysB ∧ spD K sp [.ref a, y] H Q E0
def qCmpA (C : Addr) (sp : Spc) : D → D → DE := fun d y e P => (∃ ns xs, insD e.cs d = some (C, ns, xs)) ∧ ((∃ ns xs, insD e.cs y = some (C, ns, xs)) ∨ ∃ t, tyN e.cs y = some t) ∧ sp [d, y] e.cs fun r cs' => P r { e with cs := cs' }
theorem od_cmpA {K : PySem.W.Frag} {C : Addr} {sp : Spc} : OpD K (fun x y H Q => rTwo K C C sp x y H Q ∨ rCmpA K C sp x y H Q) (qCmpA C sp) := fun W H σ e x y d1 d2 P Q S r1 r2 ⟨⟨n1, x1, i1⟩, h2, t⟩ k => by
  rcases h2 with h2 | ⟨t', h2⟩
  · exact .inl (od_two W H σ e x y d1 d2 P Q S r1 r2 ⟨⟨n1, x1, i1⟩, h2, t⟩ k)
  · obtain ⟨a, dx, gs, rfl, h1, h2', h3⟩ := S.ok.ins r1 i1
    obtain ⟨ty, mem⟩ := S.ok.ty r2 h2
    exact .inr ⟨a, dx, gs, t', rfl, h1, ty, mem, W, e.cs, [d1, d2], _, S.ok, .cons r1 (.cons r2 .nil), t, fun d cs' W' H' v p l ok r' => k _ _ _ _ _ p l ⟨ok, S.sl.mono l⟩ r'⟩
section
variable {X : Cx} {C fn : Addr} {k : Nat} {ps : List Str} {sp : Spc}
theorem op_cmpT {op : CmpOp} (G : Good X.prog X.w X.K X.mg X.base k fn ps sp) (hr : Room k X.A) (hu : X.A.units < cLine) (sm : Sm X.K C (cmpInfo op).2.1 fn) (hop : ∀ a b, compareOp op a b = richCompare op a b := by intros; rfl) : OpR X (compareOp op) (rCmpA X.K C sp) := by
  rintro pins s σ H x y v u Q I rx ry ⟨a, dx, gs, t, rfl, ha, ty, mem, h⟩
  obtain ⟨fd, F, bi, kp⟩ := G
  cases (show v = Value.ref a from rx)
  obtain ⟨od, J⟩ := Inv.inst I ha
  obtain ⟨m, hF⟩ := I.fr
  obtain ⟨Ph, Z, hz, _⟩ := kit_of I ry ty
  rw [hop]
  refine PySem.W.cmp_K hu hF I.ok.mod.kin J (Z.ty _ _ I.kIn hz) (nf_ty mem) sm.at_ sm.fn (wpAny_mono (run_in (us := [.ref a, u]) (vs := [V.ref a, y]) F bi hr I.env0 I (.cons rfl (.cons ry .nil)) h) (fun v s' z => ?_) fun _ _ z => z)
  obtain ⟨v', H', I', rv, q⟩ := z
  exact RelV.cmp rv (P := EP X pins σ Q) ⟨v', H', I', rv, q⟩
theorem op_cmpA {op : CmpOp} (G : Good X.prog X.w X.K X.mg X.base k fn ps sp) (hr : Room k X.A) (hu : X.A.units < cLine) (sm : Sm X.K C (cmpInfo op).2.1 fn) (hop : ∀ a b, compareOp op a b = richCompare op a b := by intros; rfl) :
    OpR X (compareOp op) (fun x y H Q => rTwo X.K C C sp x y H Q ∨ rCmpA X.K C sp x y H Q) := (op_cmpO G hr hu sm hop).or (op_cmpT G hr hu sm hop)
end
def qIsiA (C : Addr) : List D → DE
  | [d, .raw (.ref C')] => fun e P => C' = C ∧ (((∃ ns xs, insD e.cs d = some (C, ns, xs)) ∧ P (.bl true) e) ∨ ((∃ t, tyN e.cs d = some t) ∧ P (.bl false) e))
  | _ => fun _ _ => False
theorem cd_isiA {K : PySem.W.Frag} {C : Addr} (kt : ∀ a ∈ tysB, PySem.W.kitOne K (.type a) (.ref C) = some false) : CallD K (fun xs H Q => (∃ a dx fs, xs = [.ref a, .ref C] ∧ H a = some (.ins C dx fs) ∧ Q (.bl true) H) ∨ rIsi K xs H Q) (qIsiA C) := by
  intro W H σ e vs ds P Q S r t k
  unfold qIsiA at t
  split at t
  · obtain ⟨v, v2, rfl, r1, r2⟩ := r.two
    obtain ⟨rfl, t⟩ := t
    rcases t with ⟨⟨ns, xs, hi⟩, p⟩ | ⟨⟨a, ea⟩, p⟩
    · obtain ⟨a, dx, gs, rfl, h1, _⟩ := S.ok.ins r1 hi
      cases r2
      exact .inl ⟨a, dx, gs, rfl, h1, k _ _ _ _ _ p W.le_refl S (.bl _)⟩
    · obtain ⟨ty, mem⟩ := S.ok.ty r1 ea
      cases r2
      exact .inr ⟨v, .ref _, _, _, _, rfl, .own _, ty, kt _ mem, k _ _ _ _ _ p W.le_refl S (.bl _)⟩
  · exact t.elim
theorem v_isAT {C : Addr} {d : D} {e : En} {P : D → En → Prop} (h : ∃ ns xs, insD e.cs d = some (C, ns, xs)) (p : P (.bl true) e) : qIsiA C [d, .raw (.ref C)] e P := ⟨rfl, .inl ⟨h, p⟩⟩
theorem v_isAF {C : Addr} {d : D} {e : En} {P : D → En → Prop} (h : ∃ t, tyN e.cs d = some t) (p : P (.bl false) e) : qIsiA C [d, .raw (.ref C)] e P := ⟨rfl, .inr ⟨h, p⟩⟩

/-! ### minus -/
def eNeg (ta : DE) : DE := fun e P => ta e fun x e1 => ∃ i, x = .int i ∧ P (.int (-i)) e1
section
variable {X : Cx} {B : Bs} {a : Expr} {pos : Pos} {ta : DE}
theorem de_neg (ha : PE X a (lE X.K B ta)) : PE X (.UnaryOp .USub a pos) (lE X.K B (eNeg ta)) :=
  PE.imp (pe_un un_neg ha) fun σ H Q ⟨W, e, P, bl, S, t, k⟩ => ⟨W, e, _, bl, S, t, fun x e1 W1 H1 v ⟨c, ex, h1⟩ l1 S1 r1 => ⟨c, by subst ex; exact r1.int_inv, k _ _ _ _ _ h1 l1 S1 (.int _)⟩⟩
end
theorem v_neg {ta : DE} {e : En} {P : D → En → Prop} (h : ta e fun x e1 => ∃ i, x = .int i ∧ P (.int (-i)) e1) : eNeg ta e P := h
theorem v_oneI {i : Int} {PQ : Int → Prop} (h : PQ i) : ∃ j, D.int i = .int j ∧ PQ j := ⟨i, rfl, h⟩
section
variable {e : En} {P : D → En → Prop}
theorem v_isnB {a b : Bool} (p : P (.bl (!decide (a = b))) e) : qIsNot (.bl a) (.bl b) e P := p
theorem v_isB {a b : Bool} (p : P (.bl (decide (a = b))) e) : qIs (.bl a) (.bl b) e P := p
end
theorem cut_last {α : Type} (f : α → D) (fs : List α) : cutD (fs.map f) none (some (-1)) = (fs.take (fs.length - 1)).map f := by
  unfold cutD
  have h := HT.clip_eq (-1) fs.length fs.length
  rw [if_pos (by decide)] at h
  have h2 : HT.sIx fs.length fs.length (some (-1)) = fs.length - 1 := by omega
  rw [HT.sIx_none, List.length_map, List.drop_zero, h2, ← List.map_take, Nat.sub_zero]
theorem cut_from {α : Type} (f : α → D) (fs : List α) (k : Nat) : cutD (fs.map f) (some (k : Int)) none = (fs.drop k).map f := by
  unfold cutD
  rw [HT.sIx_none, HT.sIx_nat, List.length_map, ← List.map_drop, ← List.map_take]
  congr 1
  rcases Nat.le_total k fs.length with h | h
  · rw [Nat.min_eq_left h, List.take_of_length_le (by simp)]
  · rw [Nat.min_eq_right h, List.drop_eq_nil_of_le (Nat.le_refl _), List.drop_eq_nil_of_le h]
    simp
theorem cut_mid {α : Type} (f : α → D) (fs : List α) (i j : Nat) (h : i ≤ j) (h2 : j ≤ fs.length) : cutD (fs.map f) (some (i : Int)) (some (j : Int)) = ((fs.drop i).take (j - i)).map f := by
  unfold cutD
  rw [HT.sIx_nat, HT.sIx_nat, List.length_map, ← List.map_drop, ← List.map_take, Nat.min_eq_left h2, Nat.min_eq_left (Nat.le_trans h h2)]
theorem atI_end {α : Type} {f : α → D} {xs : List α} {x : α} (h : xs[xs.length - 1]? = some x) : atI (xs.map f) (-1) = some (f x) := by
  have hl := (List.getElem?_eq_some_iff.mp h).1
  have e : ixN (xs.map f).length (-1) = some (xs.length - 1) := by
    unfold ixN
    rw [List.length_map, if_neg (by decide), if_pos (by omega)]
    congr 1
    omega
  unfold atI
  rw [e]
  show (xs.map f)[xs.length - 1]? = some (f x)
  rw [List.getElem?_map, h]
  rfl
end DL
namespace DL
open PySem PySem.Spec PyProof.Rows L2
open Evl (Ex)

/-! ### in, of an own class -/
section
variable {prog : Program} {w : World} {A : Around} {E : Value → Shared → Prop} {s : Shared} {K : PySem.W.Frag} {x C f : Addr} {ox : Obj} {od : Option Obj} {y : Value} {Q : Bool → Shared → Prop}
open PySem.W in
theorem contains_own {M : Model} (X : K.In s.heap) (I : InstAt s.heap x ox C od) (hs : findIn K (.ref C) "__contains__" = some (some (.ref f))) (hf : typeIn K (.ref f) = some (.type "function"))
    (h : wpAny M A (call (.ref f) [.ref x, y]) (fun v s' => ∃ b, v = .bool b ∧ Q b s') E s) : wpAny M A (contains (.ref x) y) Q E s := by
  unfold contains specialOf
  refine wpAny_holding ?_
  refine wpAny_bind (wpAny_bind (I.type.here ((looks_findIn X hs).here ?_)))
  rw [if_neg (show ¬ ((some (Value.ref f) == some Value.none) = true) by simp)]
  unfold callSpecialUnlessNone? specialOf
  refine wpAny_bind (wpAny_bind (wpAny_bind (I.type.here ((looks_findIn X hs).here ?_))))
  refine wpAny_holding (wpAny_bind ((bind_fn X _ hf).here ?_))
  dsimp only
  rw [if_neg (show ¬ ((Value.ref f == Value.none) = true) by simp)]
  refine wpAny_bind (wpAny_mono h (fun v s' hv => ?_) fun _ _ z => z)
  obtain ⟨b, rfl, q⟩ := hv
  exact wpAny_pure (wpAny_truthy_bool q)
end
def isB : D → Prop := fun d => ∃ b, d = .bl b
def rInO (K : PySem.W.Frag) (C : Addr) (sp : Spc) : R2 := fun y x H Q => ∃ a dx gs, x = .ref a ∧ H a = some (.ins C dx gs) ∧ spD K sp [.ref a, y] H (fun v H' => (∃ b, v = .bl b) ∧ Q v H') E0
def qInO (C : Addr) (sp : Spc) : D → D → DE := fun y d e P => (∃ ns xs, insD e.cs d = some (C, ns, xs)) ∧ sp [d, y] e.cs fun r cs' => isB r ∧ P r { e with cs := cs' }
theorem od_inO {K : PySem.W.Frag} {C : Addr} {sp : Spc} : OpD K (rInO K C sp) (qInO C sp) := fun W H σ e x y d1 d2 P Q S r1 r2 ⟨⟨n1, x1, i1⟩, t⟩ k => by
  obtain ⟨a, dx, gs, rfl, h1, h2, h3⟩ := S.ok.ins r2 i1
  exact ⟨a, dx, gs, rfl, h1, W, e.cs, [d2, d1], _, S.ok, .cons r2 (.cons r1 .nil), t, fun d cs' W' H' v ⟨⟨b, hb⟩, p⟩ l ok r' => ⟨⟨b, by subst hb; exact r'.bl_inv⟩, k _ _ _ _ _ p l ⟨ok, S.sl.mono l⟩ r'⟩⟩
theorem op_inO {X : Cx} {C fn : Addr} {k : Nat} {ps : List Str} {sp : Spc} (G : Good X.prog X.w X.K X.mg X.base k fn ps sp) (hr : Room k X.A) (sm : Sm X.K C "__contains__" fn) : OpR X (compareOp .In) (rInO X.K C sp) := by
  rintro pins s σ H y x v u Q I ry rx ⟨a, dx, gs, rfl, ha, h⟩
  obtain ⟨fd, F, bi, kp⟩ := G
  cases (show u = Value.ref a from rx)
  obtain ⟨od, J⟩ := Inv.inst I ha
  show wpAny (model X.prog X.w) X.A ((contains (.ref a) v) >>= fun b => pure (Value.bool b)) _ _ s
  have c : wpAny (model X.prog X.w) X.A (contains (.ref a) v) (fun b s' => EP X pins σ Q (Value.bool b) s') X.xe s := by
    refine contains_own I.kIn J sm.at_ (beq_iff_eq.mp sm.fn) (wpAny_mono (run_in (us := [.ref a, v]) (vs := [V.ref a, y]) F bi hr I.env0 I (.cons rfl (.cons ry .nil)) h) (fun v s' z => ?_) fun _ _ z => z)
    obtain ⟨v', H', I', rv, ⟨b, rfl⟩, q⟩ := z
    cases rv
    exact ⟨b, rfl, .bl b, H', I', rfl, q⟩
  exact wpAny_bind (wpAny_mono c (fun b s' q => wpAny_pure q) fun _ _ z => z)

/-! ### more list methods -/
section
variable {K : PySem.W.Frag}
theorem RAll.eraseIdx {W : Wd} : ∀ {vs : List V} {ds : List D} (k : Nat), RAll K W vs ds → RAll K W (vs.eraseIdx k) (ds.eraseIdx k)
  | _, _, _, .nil => .nil
  | _, _, 0, .cons _ t => t
  | _, _, k + 1, .cons r t => .cons r (RAll.eraseIdx k t)
def qClr : D → List D → DE := fun d ds e P => ∃ n xs, d = .cell n ∧ ds = [] ∧ e.cs[n]? = some (.lst xs) ∧ P .non { e with cs := e.cs.set n (.lst []) }
theorem md_clr : MtD K rClear qClr := by
  rintro W H σ e x vs d ds P Q S r rs ⟨n, xs, rfl, rfl, hc, p⟩ k
  cases rs
  cases r with
  | @cell _ a hm =>
    obtain ⟨vs, h1, h2⟩ := S.ok.cellL hm hc
    refine ⟨a, vs, rfl, rfl, h1, ?_⟩
    exact k _ _ _ _ _ p W.le_refl ⟨S.ok.setC hm hc (fun z => nomatch z) ⟨_, upd_same, .nil⟩, S.sl⟩ .non
/-- xs.pop(i), i from the front -/
def qPopI : D → List D → DE := fun d ds e P => ∃ (n : Nat) (xs : List D) (i : Nat) (y : D), d = .cell n ∧ ds = [.int (i : Nat)] ∧ e.cs[n]? = some (.lst xs) ∧ xs[i]? = some y ∧ i < 1000000 ∧ P y { e with cs := e.cs.set n (.lst (xs.eraseIdx i)) }
theorem md_popI : MtD K rPopAt qPopI := by
  rintro W H σ e x vs d ds P Q S r rs ⟨n, xs, i, y, rfl, rfl, hc, hy, hi, p⟩ k
  obtain ⟨v, rfl, rv⟩ := rs.one
  cases rv
  cases r with
  | @cell _ a hm =>
    obtain ⟨vs, h1, h2⟩ := S.ok.cellL hm hc
    obtain ⟨z, hz, rz⟩ := h2.get hy
    have hl := (List.getElem?_eq_some_iff.mp hz).1
    refine ⟨a, vs, _, i, z, rfl, rfl, h1, by omega, by omega, ?_, hz, ?_⟩
    · exact (ixN_seq (Evl.ixN_nat hl)).1
    · exact k _ _ _ _ _ p W.le_refl ⟨S.ok.setC hm hc (fun z => nomatch z) ⟨_, upd_same, h2.eraseIdx i⟩, S.sl⟩ rz
end
/-! ### whole numbers of the module -/
theorem de_intG {X : Cx} {B : Bs} {x : Str} {i : Int} {pos : Pos} (hg : Gl X x) (hm : ∃ t, X.mg x = some (.int i t)) (hd : (x == ("__debug__" : Str)) = false := by decide) : PE X (.Name x pos) (lE X.K B (eC (.int i))) := by
  obtain ⟨t, hm⟩ := hm
  exact de_glob hg hm (show RelV (.int i) (.int i t) from ⟨t, rfl⟩) (fun _ => .int i) hd
end DL
namespace DL
open PySem PySem.Spec PyProof.Rows L2
open Evl (Ex)

/-! ### comprehensions of two clauses -/
def eLc2 (o : Bool) (it : DI) (tg : Tg) (tt : DT) (it1 : DI) (tg1 : Tg) (tt1 : DT) (te : DE) (vs vs1 : List Nat) : DE := fun e P => it e fun ds G e1 => ∃ I : Nat → List D → List Cel → Prop, I 0 [] e1.cs ∧
  (∀ i d acc cs, ds[i]? = some d → I i acc cs → G cs ∧ ∃ sl', setTg tg d (wipeD e1.sl vs) = some sl' ∧ tt ⟨sl', cs⟩ fun b e2 => if b = true then
    it1 e2 fun ds1 G1 e3 => ∃ I1 : Nat → List D → List Cel → Prop, I1 0 acc e3.cs ∧
      (∀ j d1 acc1 cs1, ds1[j]? = some d1 → I1 j acc1 cs1 → G1 cs1 ∧ ∃ sl2, setTg tg1 d1 (wipeD e3.sl vs1) = some sl2 ∧ tt1 ⟨sl2, cs1⟩ fun b1 e4 => if b1 = true then te e4 fun y e5 => acc1.length < sizeLine ∧ I1 (j + 1) (acc1 ++ [y]) e5.cs else I1 (j + 1) acc1 e4.cs) ∧
      ∀ acc1 cs1, I1 ds1.length acc1 cs1 → G1 cs1 ∧ I (i + 1) acc1 cs1
    else I (i + 1) acc e2.cs) ∧
  ∀ acc cs, I ds.length acc cs → G cs ∧ newL o acc ⟨e1.sl, cs⟩ P
section
variable {K : PySem.W.Frag} {X : Cx} {B : Bs} {elt tgE iter tgE1 iter1 : Expr} {ifs ifs1 : List Expr} {scope : Scope} {own : List (Str × Nat)} {pos : Pos} {it it1 : DI} {tg tg1 : Tg} {tt tt1 : DT} {te : DE} {o : Bool}
/-- the list that grows, hidden -/
def HidS (K : PySem.W.Frag) (F1 : Hp) (m1 : List Addr) (h1 : List (Addr × List V)) (Dl : Addr) (H : Hp) (acc : List D) (cs : List Cel) : Prop :=
  ∃ (F : Hp) (mm : List Addr) (vs' : List V), Wd.sub ⟨F1, m1, h1⟩ ⟨F, mm, (Dl, vs') :: h1⟩ ∧ Ok K ⟨F, mm, (Dl, vs') :: h1⟩ H cs ∧ RAll K ⟨F, mm, (Dl, vs') :: h1⟩ vs' acc
theorem lc2_ok {vs vs1 : List Nat} (hv : ∀ i ∈ tg.on, i ∈ vs) (hv1 : ∀ i ∈ tg1.on, i ∈ vs1) : ∀ σ H Q, lE K B (eLc2 o it tg tt it1 tg1 tt1 te vs vs1) σ H Q →
    tLc2 (lI K B it) (gV K tg) (lT K Bs.any tt) (lI K Bs.any it1) (gV K tg1) (lT K Bs.any tt1) (lE K Bs.any te) vs vs1 σ H Q := by
  rintro σ H Q ⟨W, e, P, bl, S, t, k⟩
  refine ⟨W, e, _, bl, S, t, fun ds G e1 W1 H1 J ⟨I, i0, turn, done⟩ l1 S1 wk Dl hD => ?_⟩
  obtain ⟨F1, m1, h1⟩ := W1
  refine ⟨fun i m H => m = ds.length - i ∧ i ≤ ds.length ∧ ∃ (acc : List D) (cs : List Cel), HidS K F1 m1 h1 Dl H acc cs ∧ I i acc cs,
    ⟨_, rfl, Nat.zero_le _, [], e1.cs, ⟨F1, m1, [], ⟨Ex.refl _, [], (List.append_nil _).symm⟩, S1.ok.hide hD, .nil⟩, i0⟩, ?_⟩
  rintro i m H2 ⟨rfl, hi, acc, cs, ⟨F, mm, vs', sb, ok, ra⟩, p⟩
  have Sx : Sd K ⟨F, mm, (Dl, vs') :: h1⟩ H2 σ ⟨e1.sl, cs⟩ := ⟨ok, S1.sl.mono' sb⟩
  by_cases hlt : i < ds.length
  · have hd : ds[i]? = some ds[i] := by simp [hlt]
    obtain ⟨g2, sl', hsl, p3⟩ := turn i _ acc cs hd p
    refine .inr ⟨wk.go i _ H2 σ _ sb Sx g2 hlt, fun H => ∃ (acc : List D) (cs : List Cel), HidS K F1 m1 h1 Dl H acc cs ∧ I (i + 1) acc cs, fun H' q => ⟨ds.length - (i + 1), by omega, rfl, hlt, q⟩, fun x H' y => ?_⟩
    obtain ⟨W3, l3, S3, r3⟩ := wk.yld i _ H2 σ _ x H' _ sb Sx g2 hd y
    have S3w : Sd K W3 H' (wipe σ vs) ⟨wipeD e1.sl vs, cs⟩ := ⟨S3.ok, S3.sl.wipe vs⟩
    refine gV_ok (vs := vs) S3w r3 hsl fun σ4 S4 w4 => ⟨by rw [w4 hv, wipe_wipe], ?_⟩
    refine ⟨W3, _, _, trivial, S4, p3, fun b e5 W5 H5 p5 l5 S5 => ?_⟩
    have l35 := l3.tr l5
    cases b with
    | false =>
      refine iteF ⟨acc, e5.cs, ?_, p5⟩
      have ra5 := RAll.mono l35 _ _ ra
      obtain ⟨F5, m5, h5⟩ := W5
      obtain rfl : h5 = (Dl, vs') :: h1 := l35.2.2
      exact ⟨F5, m5, vs', sb.tr (W2 := ⟨F5, m5, (Dl, vs') :: h1⟩) ⟨l35.1, l35.2.1⟩, S5.ok, ra5⟩
    | true =>
      refine iteT ⟨W5, e5, _, trivial, S5, p5, fun ds1 G1 e6 W6 H6 J1 ⟨I1, i10, turn1, done1⟩ l6 S6 wk1 => ?_⟩
      have l36 := l35.tr l6
      have ra6 := RAll.mono l36 _ _ ra
      obtain ⟨F6, m6, h6⟩ := W6
      obtain rfl : h6 = (Dl, vs') :: h1 := l36.2.2
      have sb6 : Wd.sub ⟨F1, m1, h1⟩ ⟨F6, m6, (Dl, vs') :: h1⟩ := sb.tr (W2 := ⟨F6, m6, (Dl, vs') :: h1⟩) ⟨l36.1, l36.2.1⟩
      refine ⟨fun j k H => k = ds1.length - j ∧ j ≤ ds1.length ∧ ∃ (acc1 : List D) (cs1 : List Cel), HidS K F6 m6 h1 Dl H acc1 cs1 ∧ I1 j acc1 cs1,
        ⟨_, rfl, Nat.zero_le _, acc, e6.cs, ⟨F6, m6, vs', ⟨Ex.refl _, [], (List.append_nil _).symm⟩, S6.ok, ra6⟩, i10⟩, ?_⟩
      rintro j k1 H7 ⟨rfl, hj, acc1, cs1, ⟨F7, mm7, vs7, sb7, ok7, ra7⟩, q1⟩
      have sb7' : Wd.sub ⟨F6, m6, (Dl, vs') :: h1⟩ ⟨F7, mm7, (Dl, vs7) :: h1⟩ := ⟨sb7.1, sb7.2⟩
      have Sx7 : Sd K ⟨F7, mm7, (Dl, vs7) :: h1⟩ H7 σ4 ⟨e6.sl, cs1⟩ := ⟨ok7, S6.sl.mono' sb7'⟩
      by_cases hlt1 : j < ds1.length
      · have hd1 : ds1[j]? = some ds1[j] := by simp [hlt1]
        obtain ⟨g7, sl7, hsl7, p7⟩ := turn1 j _ acc1 cs1 hd1 q1
        refine .inr ⟨wk1.go j _ H7 σ4 _ sb7' Sx7 g7 hlt1, fun H => ∃ (acc1 : List D) (cs1 : List Cel), HidS K F6 m6 h1 Dl H acc1 cs1 ∧ I1 (j + 1) acc1 cs1, fun H' q => ⟨ds1.length - (j + 1), by omega, rfl, hlt1, q⟩, fun x1 H8 y1 => ?_⟩
        obtain ⟨W8, l8, S8, r8⟩ := wk1.yld j _ H7 σ4 _ x1 H8 _ sb7' Sx7 g7 hd1 y1
        have S8w : Sd K W8 H8 (wipe σ4 vs1) ⟨wipeD e6.sl vs1, cs1⟩ := ⟨S8.ok, S8.sl.wipe vs1⟩
        refine gV_ok (vs := vs1) S8w r8 hsl7 fun σ9 S9 w9 => ⟨by rw [w9 hv1, wipe_wipe], ?_⟩
        refine ⟨W8, _, _, trivial, S9, p7, fun b1 e10 W10 H10 p10 l10 S10 => ?_⟩
        have l810 := l8.tr l10
        cases b1 with
        | false =>
          refine iteF ⟨acc1, e10.cs, ?_, p10⟩
          have ra10 := RAll.mono l810 _ _ ra7
          obtain ⟨F10, m10, h10⟩ := W10
          obtain rfl : h10 = (Dl, vs7) :: h1 := l810.2.2
          exact ⟨F10, m10, vs7, sb7.tr (W2 := ⟨F10, m10, (Dl, vs7) :: h1⟩) ⟨l810.1, l810.2.1⟩, S10.ok, ra10⟩
        | true =>
          refine iteT ⟨W10, e10, _, trivial, S10, p10, fun y e11 W11 H11 v11 ⟨hz, p11⟩ l11 S11 r11 => ?_⟩
          have l811 := l810.tr l11
          have hD11 : H11 Dl = some (.lst vs7) := (S11.ok.hd (Dl, vs7) (by rw [l811.2.2]; exact List.mem_cons_self)).1
          have ra11 := RAll.mono l811 _ _ ra7
          refine ⟨vs7, hD11, by rw [ra11.length]; exact hz, acc1 ++ [y], e11.cs, ?_, p11⟩
          have ok11 := S11.ok
          have ra12 := ra11.app1 r11
          obtain ⟨F11, m11, h11⟩ := W11
          obtain rfl : h11 = (Dl, vs7) :: h1 := l811.2.2
          exact ⟨F11, m11, vs7 ++ [v11], sb7.tr (W2 := ⟨F11, m11, (Dl, vs7 ++ [v11]) :: h1⟩) ⟨l811.1, l811.2.1⟩, ok11.grow, ra12.world rfl rfl⟩
      · have ei : j = ds1.length := by omega
        subst ei
        obtain ⟨g7, q7⟩ := done1 acc1 cs1 q1
        exact .inl ⟨wk1.stop _ _ H7 σ4 _ sb7' Sx7 g7 (Nat.le_refl _), acc1, cs1, ⟨F7, mm7, vs7, sb6.tr (W2 := ⟨F7, mm7, (Dl, vs7) :: h1⟩) sb7', ok7, ra7⟩, q7⟩
  · have ei : i = ds.length := by omega
    subst ei
    obtain ⟨g2, q⟩ := done acc cs p
    refine .inl ⟨wk.stop _ _ H2 σ _ sb Sx g2 (Nat.le_refl _), ?_⟩
    have ra' : RAll K ⟨F, mm, h1⟩ vs' acc := ra.world rfl rfl
    have lx : (⟨F1, m1, h1⟩ : Wd).le ⟨F, mm, h1⟩ := ⟨sb.1, sb.2, rfl⟩
    cases o with
    | false =>
      obtain ⟨ok', l'⟩ := ok.showF
      exact k _ _ _ _ _ q (l1.tr (lx.tr l')) ⟨ok', S1.sl.mono (lx.tr l')⟩ (.lst upd_same (RAll.mono l' _ _ ra'))
    | true =>
      obtain ⟨ok', l'⟩ := ok.showC ra'
      refine k _ _ _ _ _ q (l1.tr (lx.tr l')) ⟨ok', S1.sl.mono (lx.tr l')⟩ (.cell ?_)
      show (mm ++ [Dl])[cs.length]? = some Dl
      have hl : mm.length = cs.length := ok.len
      rw [← hl, List.getElem?_append_right (Nat.le_refl _)]
      simp
theorem de_lc2 {vs1 : List Nat} (hc : X.calm = true) (hN : X.N.Nodup) (hi : PI X tgE iter (lI X.K B it)) (ok : BlkOk X.N X.env.scope scope own) (hv : ∀ i ∈ tg.on, i ∈ own.map (·.2)) (hv1 : ∀ i ∈ tg1.on, i ∈ vs1) (hv2 : ∀ i ∈ vs1, i ∈ own.map (·.2))
    (hg : ∀ (s : Shared) (H : Hp) (C : Addr) (cl : List (Str × Addr)) (fp : List Addr), PG (X.blk s H scope (compEnvC scope cl C X.env) fp) tgE (gV X.K tg)) (ht : ∀ (s : Shared) (H : Hp) (C : Addr) (cl : List (Str × Addr)) (fp : List Addr), PTs (X.blk s H scope (compEnvC scope cl C X.env) fp) ifs (lT X.K Bs.any tt))
    (hi1 : ∀ (s : Shared) (H : Hp) (C : Addr) (cl : List (Str × Addr)) (fp : List Addr), PI (X.blk s H scope (compEnvC scope cl C X.env) fp) tgE1 iter1 (lI X.K Bs.any it1))
    (hg1 : ∀ (s : Shared) (H : Hp) (C : Addr) (cl : List (Str × Addr)) (fp : List Addr), PG (X.blk s H scope (compEnvC scope cl C X.env) fp) tgE1 (gV X.K tg1)) (ht1 : ∀ (s : Shared) (H : Hp) (C : Addr) (cl : List (Str × Addr)) (fp : List Addr), PTs (X.blk s H scope (compEnvC scope cl C X.env) fp) ifs1 (lT X.K Bs.any tt1))
    (he : ∀ (s : Shared) (H : Hp) (C : Addr) (cl : List (Str × Addr)) (fp : List Addr), PE (X.blk s H scope (compEnvC scope cl C X.env) fp) elt (lE X.K Bs.any te)) (hs : ∀ x, foldedSetIterable iter X.env x = pure x := by intro _; rfl) (hs1 : ∀ env x, foldedSetIterable iter1 env x = pure x := by intro _ _; rfl) :
    PE X (.ListComp elt [⟨tgE, iter, ifs, 0⟩, ⟨tgE1, iter1, ifs1, 0⟩] scope pos) (lE X.K B (eLc2 o it tg tt it1 tg1 tt1 te (own.map (·.2)) vs1)) := PE.imp (pe_lc2 hc hN hi ok hv2 hg ht hi1 hg1 ht1 he hs hs1) (lc2_ok hv hv1)
end
theorem v_lc2 {e : En} {P : D → En → Prop} {tg tg1 : Tg} {tt tt1 : DT} {te : DE} {vs vs1 : List Nat} {o : Bool} {it it1 : DI} (h : it e fun ds G e1 => ∃ I : Nat → List D → List Cel → Prop, I 0 [] e1.cs ∧
  (∀ i d acc cs, ds[i]? = some d → I i acc cs → G cs ∧ ∃ sl', setTg tg d (wipeD e1.sl vs) = some sl' ∧ tt ⟨sl', cs⟩ fun b e2 => if b = true then
    it1 e2 fun ds1 G1 e3 => ∃ I1 : Nat → List D → List Cel → Prop, I1 0 acc e3.cs ∧
      (∀ j d1 acc1 cs1, ds1[j]? = some d1 → I1 j acc1 cs1 → G1 cs1 ∧ ∃ sl2, setTg tg1 d1 (wipeD e3.sl vs1) = some sl2 ∧ tt1 ⟨sl2, cs1⟩ fun b1 e4 => if b1 = true then te e4 fun y e5 => acc1.length < sizeLine ∧ I1 (j + 1) (acc1 ++ [y]) e5.cs else I1 (j + 1) acc1 e4.cs) ∧
      ∀ acc1 cs1, I1 ds1.length acc1 cs1 → G1 cs1 ∧ I (i + 1) acc1 cs1
    else I (i + 1) acc e2.cs) ∧
  ∀ acc cs, I ds.length acc cs → G cs ∧ newL o acc ⟨e1.sl, cs⟩ P) : eLc2 o it tg tt it1 tg1 tt1 te vs vs1 e P := h
end DL
namespace DL
open PySem PySem.Spec PyProof.Rows L2
open Evl (Ex)

/-! ### max, min of two -/
section
variable {K : PySem.W.Frag}
def qMax2 : List D → DE
  | [.int i, .int j] => fun e P => P (.int (if j > i then j else i)) e
  | _ => fun _ _ => False
def qMin2 : List D → DE
  | [.int i, .int j] => fun e P => P (.int (if j < i then j else i)) e
  | _ => fun _ _ => False
theorem cd_max2 : CallD K (fun xs H Q => ∃ i j, xs = [.int i, .int j] ∧ Q (.int (if j > i then j else i)) H) qMax2 := by
  intro W H σ e vs ds P Q S r t k
  unfold qMax2 at t
  split at t
  · exact ⟨_, _, r.two_int, k _ _ _ _ _ t W.le_refl S (.int _)⟩
  · exact t.elim
theorem cd_min2 : CallD K (fun xs H Q => ∃ i j, xs = [.int i, .int j] ∧ Q (.int (if j < i then j else i)) H) qMin2 := by
  intro W H σ e vs ds P Q S r t k
  unfold qMin2 at t
  split at t
  · exact ⟨_, _, r.two_int, k _ _ _ _ _ t W.le_refl S (.int _)⟩
  · exact t.elim
end
section
variable {e : En} {P : D → En → Prop} {a b : Int}
theorem v_max2 (p : P (.int (if b > a then b else a)) e) : qMax2 [.int a, .int b] e P := p
theorem v_min2 (p : P (.int (if b < a then b else a)) e) : qMin2 [.int a, .int b] e P := p
end
theorem bt_max : bootBuiltins "max" = some (.builtin "max") := by rfl
theorem bt_min : bootBuiltins "min" = some (.builtin "min") := by rfl
/-! ### extend; what is never reached -/
def qExt : D → List D → DE := fun d ds e P => ∃ n xs y ys, d = .cell n ∧ ds = [y] ∧ e.cs[n]? = some (.lst xs) ∧ lkP e.cs y = some ys ∧ xs.length + ys.length ≤ 100000 ∧ P .non { e with cs := e.cs.set n (.lst (xs ++ ys)) }
theorem RAll.app {K : PySem.W.Frag} {W : Wd} : ∀ {vs ws : List V} {xs ys : List D}, RAll K W vs xs → RAll K W ws ys → RAll K W (vs ++ ws) (xs ++ ys)
  | _, _, _, _, .nil, h => h
  | _, _, _, _, .cons r t, h => .cons r (RAll.app t h)
theorem md_ext {K : PySem.W.Frag} : MtD K rExtend qExt := by
  rintro W H σ e x vs d ds P Q S r rs ⟨n, xs, y, ys, rfl, rfl, hc, hy, hz, p⟩ k
  obtain ⟨v, rfl, rv⟩ := rs.one
  cases r with
  | @cell _ a hm =>
    obtain ⟨vs, h1, h2⟩ := S.ok.cellL hm hc
    obtain ⟨b, ws, rfl, h3, h4⟩ := S.ok.lkP rv hy
    refine ⟨a, b, vs, ws, rfl, rfl, h1, h3, ?_, ?_⟩
    · rw [h2.length, h4.length]
      exact Nat.le_trans hz (by decide)
    exact k _ _ _ _ _ p W.le_refl ⟨S.ok.setC hm hc (fun z => nomatch z) ⟨_, upd_same, h2.app h4⟩, S.sl⟩ .non
def eNever : DE := fun _ _ => False
theorem de_never {X : Cx} {B : Bs} {ex : Expr} : PE X ex (lE X.K B eNever) := ⟨fun _ _ _ _ _ _ ⟨_, _, _, _, _, t, _⟩ => t.elim⟩
/-! ### a, b = x, y -/
def sPar (i j : Nat) (ta : DA) : DS := fun P e => ta e fun ds e1 => ∃ x y, ds = [x, y] ∧ P.nx { e1 with sl := (e1.sl.set i (some x)).set j (some y) }
theorem ds_par {X : Cx} {B : Bs} {i j : Nat} {x y : Str} {a b : Expr} {ta : DA} {px py pt k2p pos : Pos} {kt k2} (hc : X.calm = true) (hN : X.N.Nodup) (hi : X.N[i]? = some x) (hj : X.N[j]? = some y) (hij : i ≠ j)
    (hx : X.env.scope.names.lookup x = some .local) (hy : X.env.scope.names.lookup y = some .local) (ha : PA X [a, b] (lA X.K B ta))
    (hw : swappedStores [.Tuple [.Name x px, .Name y py] kt pt] (.Tuple [a, b] k2 k2p) X.env = pure (some [x, y]) := by rfl)
    (hs : swapsWithSole [.Tuple [.Name x px, .Name y py] kt pt] (.Tuple [a, b] k2 k2p) pos.line X.env = pure false := by rfl) :
    PS X (.Assign [.Tuple [.Name x px, .Name y py] kt pt] (.Tuple [a, b] k2 k2p) pos) (lS X.K B (sPar i j ta)) :=
  PS.imp (ps_par hc hN hi hj hij hx hy ha hw hs) fun E σ H h => by
    obtain ⟨W, e, P, bl, S, h, c⟩ := lS_un h
    refine ⟨W, e, _, bl, S, h, fun ds e1 W1 H1 vs ⟨x, y, hd, p⟩ l S1 r => ?_⟩
    subst hd
    cases r with
    | cons r1 r2 =>
      cases r2 with
      | cons r2 r3 =>
        cases r3
        exact ⟨_, _, rfl, c.nx _ _ _ _ p l ⟨S1.ok, (S1.sl.set r1).set r2⟩⟩
theorem v_par {i j : Nat} {ta : DA} {P : Po} {e : En} (h : ta e fun ds e1 => ∃ x y, ds = [x, y] ∧ P.nx { e1 with sl := (e1.sl.set i (some x)).set j (some y) }) : sPar i j ta P e := h
/-! ### xs.index(k), whole numbers -/
def qIdx : D → List D → DE := fun d ds e P => ∃ (ns : List Int) (k : Int) (j : Nat), lk e.cs d = some (ns.map .int) ∧ ds = [.int k] ∧ ns[j]? = some k ∧ (∀ (m : Nat) (z : Int), m < j → ns[m]? = some z → z ≠ k) ∧ P (.int (j : Nat)) e
theorem md_idx {K : PySem.W.Frag} : MtD K (rIndex K) qIdx := by
  rintro W H σ e x vs d ds P Q S r rs ⟨ns, k, j, hl, rfl, h1, h2, p⟩ kk
  obtain ⟨v, rfl, rv⟩ := rs.one
  cases rv
  obtain ⟨a, ws, rfl, h3, h4⟩ := S.ok.lk r hl
  cases RAll.ints_inv h4
  refine ⟨a, ns.map V.int, _, j, .int k, rfl, rfl, h3, rfl, ?_, ?_, ?_, ?_, kk _ _ _ _ _ p W.le_refl S (.int _)⟩
  · rw [List.all_map]
    exact List.all_eq_true.mpr fun _ _ => rfl
  · rw [List.getElem?_map, h1]
    rfl
  · exact beq_self_eq_true k
  · intro m z' hm hz
    rw [List.getElem?_map] at hz
    obtain ⟨z, hz1, rfl⟩ := Option.map_eq_some_iff.mp hz
    exact beq_eq_false_iff_ne.mpr (h2 m z hm hz1)
theorem v_idx {ns : List Int} {d : D} {e : En} {P : D → En → Prop} {k : Int} {j : Nat} (hl : lk e.cs d = some (ns.map .int)) (h1 : ns[j]? = some k) (h2 : ∀ (m : Nat) (z : Int), m < j → ns[m]? = some z → z ≠ k) (p : P (.int (j : Nat)) e) : qIdx d [.int k] e P := ⟨ns, k, j, hl, rfl, h1, h2, p⟩
/-! ### a dict that is only handed on: none of its keys is looked at -/
def eDct : DE := fun e P => P .dct e
theorem de_dct0 {X : Cx} {B : Bs} {pos : Pos} : PE X (.Dict [] [] pos) (lE X.K B eDct) := PE.imp pe_dnewK fun σ H Q ⟨W, e, P, _, S, t, k⟩ p hp => by
  obtain ⟨ok, l⟩ := S.ok.newF (o := .dK []) hp
  exact k .dct e _ _ _ t l ⟨ok, S.sl.mono l⟩ (.dct upd_same)
theorem de_dctI {X : Cx} {B : Bs} {pos p1 p2 : Pos} {i j : Int} {j1 j2} : PE X (.Dict [some (.Constant (.int i) j1 p1)] [.Constant (.int j) j2 p2] pos) (lE X.K B eDct) :=
  PE.imp (pe_disp (pps_cons (pe_int (i := i)) (pe_int (i := j)) pps_nil) rfl rfl (fun z => nomatch z) (by simp)) fun σ H Q ⟨W, e, P, _, S, t, k⟩ p hp => by
    obtain ⟨ok, l⟩ := S.ok.newF (o := .dK (mergeK [] [(.inl i, .int j)])) hp
    refine ⟨upd_same, [(.inl i, .int j)], rfl, by simp, ?_⟩
    rw [upd_upd]
    exact k .dct e _ _ _ t l ⟨ok, S.sl.mono l⟩ (.dct upd_same)
theorem v_dct {e : En} {P : D → En → Prop} (p : P .dct e) : eDct e P := p
end DL
/-! a dict that changes (int keys), list.remove, list.pop(), list.count, list.index of nested items, (x,) * n, [*xs, y], a, b, c = x, y, z -/
namespace DL
open PySem PySem.Spec PyProof.Rows L2
open Evl (Ex)

/-! ### a dict with int keys as a cell -/
def getI : List (Int × D) → Int → Option D
  | [], _ => none
  | p :: r, k => if p.1 = k then some p.2 else getI r k
def putI (kxs : List (Int × D)) (k : Int) (d : D) : List (Int × D) :=
  if (kxs.any fun p => decide (p.1 = k)) = true then kxs.map (fun p => if p.1 = k then (p.1, d) else p) else kxs ++ [(k, d)]
section
variable {K : PySem.W.Frag} {W : Wd}
theorem RKs.length : ∀ {ps : List (Key × V)} {kxs : List (Int × D)}, RKs K W ps kxs → ps.length = kxs.length
  | _, _, .nil => rfl
  | _, _, .cons _ t => by rw [List.length_cons, List.length_cons, RKs.length t]
theorem RKs.get (k : Int) : ∀ {ps : List (Key × V)} {kxs : List (Int × D)}, RKs K W ps kxs → (getI kxs k = none ∧ valV ps (.inl k) = none) ∨ ∃ d v, getI kxs k = some d ∧ valV ps (.inl k) = some v ∧ R K W v d
  | _, _, .nil => .inl ⟨rfl, rfl⟩
  | _, _, @RKs.cons _ _ k' v d ps kxs r t => by
    by_cases e : k' = k
    · exact .inr ⟨d, v, by unfold getI; rw [if_pos e], valV_pos (p := ((.inl k' : Key), v)) (by rw [e]), r⟩
    · have e2 : ¬ ((Sum.inl k' : Key) = .inl k) := fun z => e (Sum.inl.inj z)
      have e3 : valV (((.inl k' : Key), v) :: ps) (.inl k) = valV ps (.inl k) := valV_neg (p := ((.inl k' : Key), v)) e2
      have e4 : getI ((k', d) :: kxs) k = getI kxs k := by
        show (if k' = k then some d else getI kxs k) = _
        rw [if_neg e]
      rw [e3, e4]
      exact RKs.get k t
theorem RKs.any (k : Int) : ∀ {ps : List (Key × V)} {kxs : List (Int × D)}, RKs K W ps kxs → (ps.any fun p => decide (p.1 = (.inl k : Key))) = (kxs.any fun p => decide (p.1 = k))
  | _, _, .nil => rfl
  | _, _, @RKs.cons _ _ k' v d ps kxs r t => by
    rw [List.any_cons, List.any_cons, RKs.any k t]
    congr 1
    exact decide_eq_decide.mpr ⟨fun z => Sum.inl.inj z, fun z => by rw [show k' = k from z]⟩
theorem RKs.repl {v : V} {d : D} (rv : R K W v d) (k : Int) : ∀ {ps : List (Key × V)} {kxs : List (Int × D)}, RKs K W ps kxs → RKs K W (ps.map fun p => if p.1 = (.inl k : Key) then (p.1, v) else p) (kxs.map fun p => if p.1 = k then (p.1, d) else p)
  | _, _, .nil => .nil
  | _, _, @RKs.cons _ _ k' v' d' ps kxs r t => by
    rw [List.map_cons, List.map_cons]
    by_cases e : k' = k
    · subst e
      rw [if_pos rfl, if_pos rfl]
      exact .cons rv (RKs.repl rv k' t)
    · rw [if_neg (fun z => e (Sum.inl.inj z)), if_neg e]
      exact .cons r (RKs.repl rv k t)
theorem RKs.app1 {v : V} {d : D} (rv : R K W v d) (k : Int) : ∀ {ps : List (Key × V)} {kxs : List (Int × D)}, RKs K W ps kxs → RKs K W (ps ++ [(.inl k, v)]) (kxs ++ [(k, d)])
  | _, _, .nil => .cons rv .nil
  | _, _, .cons r t => .cons r (RKs.app1 rv k t)
theorem RKs.put {v : V} {d : D} (rv : R K W v d) (k : Int) {ps : List (Key × V)} {kxs : List (Int × D)} (h : RKs K W ps kxs) : RKs K W (putK ps (.inl k) v) (putI kxs k d) := by
  unfold putK putI
  rw [h.any k]
  split
  · exact h.repl rv k
  · exact h.app1 rv k
theorem Ok.cellD {H : Hp} {cs : List Cel} (h : Ok K W H cs) {n : Nat} {a : Addr} {kxs : List (Int × D)} (hm : W.m[n]? = some a) (hc : cs[n]? = some (.dic kxs)) : ∃ ps, H a = some (.dK ps) ∧ RKs K W ps kxs := h.cl n a _ hm hc
end
/-- {} -/
def eDnew : DE := fun e P => P (.cell e.cs.length) { e with cs := e.cs ++ [.dic []] }
theorem de_dnew {X : Cx} {B : Bs} {pos : Pos} : PE X (.Dict [] [] pos) (lE X.K B eDnew) := PE.imp pe_dnewK fun σ H Q ⟨W, e, P, _, S, t, k⟩ p hp => by
  obtain ⟨ok, l⟩ := S.ok.newC (o := .dK []) (c := .dic []) hp fun W' l => ⟨[], upd_same, .nil⟩
  refine k _ _ _ _ _ t l ⟨ok, S.sl.mono l⟩ (.cell ?_)
  show (W.m ++ [p])[e.cs.length]? = some p
  rw [← S.ok.len]
  simp
theorem v_dnew {e : En} {P : D → En → Prop} (p : P (.cell e.cs.length) { e with cs := e.cs ++ [.dic []] }) : eDnew e P := p
/-- d[k] = v -/
def sDput (td ti tv : DE) : DS := fun P e => tv e fun y e1 => td e1 fun d e2 => ti e2 fun i e3 => ∃ n kxs k, d = .cell n ∧ i = .int k ∧ e3.cs[n]? = some (.dic kxs) ∧ kxs.length < sizeLine ∧ P.nx { e3 with cs := e3.cs.set n (.dic (putI kxs k y)) }
theorem ds_dput {X : Cx} {B : Bs} {o i value : Expr} {td ti tv : DE} {pos pos' : Pos} (hu : X.A.units + 1 < cLine) (hv : PE X value (lE X.K B tv)) (ho : PE X o (lE X.K B td)) (hi : PE X i (lE X.K B ti))
    (hs : swapsWith value (some (.Subscript o i pos')) pos.line X.env = pure false := by rfl) : PS X (.Assign [.Subscript o i pos'] value pos) (lS X.K B (sDput td ti tv)) :=
  PS.imp (ps_dput hu ho hi hv hs) fun E σ H h => by
    obtain ⟨W, e, P, bl, S, h, c⟩ := lS_un h
    refine ⟨W, e, _, bl, S, h, fun y e1 W1 H1 vy t1 l1 S1 r1 => ?_⟩
    refine ⟨W1, e1, _, B.up bl l1, S1, t1, fun d e2 W2 H2 vd t2 l2 S2 r2 => ?_⟩
    refine ⟨W2, e2, _, B.up (B.up bl l1) l2, S2, t2, fun j e3 W3 H3 vj ⟨n, kxs, k, hd, hj, hc, hz, p⟩ l3 S3 r3 => ?_⟩
    subst hd hj
    cases r3
    have r2' := R.mono l3 _ _ r2
    cases r2' with
    | @cell _ a hm =>
      obtain ⟨ps, h1, h2⟩ := S3.ok.cellD hm hc
      refine ⟨a, _, rfl, DPut.k (k := .inl k) h1 (by rw [h2.length]; exact hz), ?_⟩
      have ry := R.mono l3 _ _ (R.mono l2 _ _ r1)
      exact c.nx _ _ _ _ p ((l1.tr l2).tr l3) ⟨S3.ok.setC hm hc (fun z => nomatch z) ⟨_, upd_same, h2.put ry k⟩, S3.sl⟩
theorem v_dput {td ti tv : DE} {P : Po} {e : En} (h : tv e fun y e1 => td e1 fun d e2 => ti e2 fun i e3 => ∃ n kxs k, d = .cell n ∧ i = .int k ∧ e3.cs[n]? = some (.dic kxs) ∧ kxs.length < sizeLine ∧ P.nx { e3 with cs := e3.cs.set n (.dic (putI kxs k y)) }) : sDput td ti tv P e := h
/-- d.get(k, x) -/
def eDget (td ti tx : DE) : DE := fun e P => td e fun d e1 => (∃ n kxs, d = .cell n ∧ e1.cs[n]? = some (.dic kxs)) ∧ ti e1 fun i e2 => tx e2 fun x e3 => ∃ n kxs k, d = .cell n ∧ i = .int k ∧ e3.cs[n]? = some (.dic kxs) ∧ P ((getI kxs k).getD x) e3
theorem de_dget {X : Cx} {B : Bs} {o i f : Expr} {td ti tx : DE} {apos cpos : Pos} (hu : X.A.units + 1 < cLine) (ho : PE X o (lE X.K B td)) (hi : PE X i (lE X.K B ti)) (hf : PE X f (lE X.K B tx)) (m : M2 X o "get" apos i f cpos) :
    PE X (.Call (.Attribute o "get" apos) [i, f] [] cpos) (lE X.K B (eDget td ti tx)) :=
  PE.imp (pe_dget2 hu ho hi hf m) fun σ H Q ⟨W, e, P, bl, S, t, k⟩ => ⟨W, e, _, bl, S, t, fun d e1 W1 H1 v1 ⟨⟨n, kxs, hd, hc⟩, t1⟩ l1 S1 r1 => by
    subst hd
    cases r1 with
    | @cell _ a hm =>
      obtain ⟨ps, h1, h2⟩ := S1.ok.cellD hm hc
      refine ⟨a, rfl, .inl ⟨ps, .inl h1⟩, W1, e1, _, B.up bl l1, S1, t1, fun j e2 W2 H2 v2 t2 l2 S2 r2 => ?_⟩
      refine ⟨W2, e2, _, B.up (B.up bl l1) l2, S2, t2, fun x e3 W3 H3 v3 ⟨n', kxs', kk, hn, hj, hc', p⟩ l3 S3 r3 => ?_⟩
      subst hj
      cases hn
      cases r2
      obtain ⟨ps', h3, h4⟩ := S3.ok.cellD (Wd.get_more (Wd.le.tr l2 l3).2.1 hm) hc'
      refine ⟨_, DGet.k (k := .inl kk) h3, ?_⟩
      have l := (l1.tr l2).tr l3
      rcases h4.get kk with ⟨g1, g2⟩ | ⟨dd, vv, g1, g2, g3⟩
      · rw [g2]
        rw [g1] at p
        exact k _ _ _ _ _ p l S3 r3
      · rw [g2]
        rw [g1] at p
        exact k _ _ _ _ _ p l S3 g3⟩
theorem v_dget {td ti tx : DE} {e : En} {P : D → En → Prop} (h : td e fun d e1 => (∃ n kxs, d = .cell n ∧ e1.cs[n]? = some (.dic kxs)) ∧ ti e1 fun i e2 => tx e2 fun x e3 => ∃ n kxs k, d = .cell n ∧ i = .int k ∧ e3.cs[n]? = some (.dic kxs) ∧ P ((getI kxs k).getD x) e3) : eDget td ti tx e P := h
/-- k in d -/
def eDin (ti td : DE) : DE := fun e P => ti e fun i e1 => td e1 fun d e2 => ∃ n kxs k, d = .cell n ∧ i = .int k ∧ e2.cs[n]? = some (.dic kxs) ∧ P (.bl (getI kxs k).isSome) e2
theorem dc_din {X : Cx} {B : Bs} {o i : Expr} {td ti : DE} (hu : X.A.units + 1 < cLine) (hi : PE X i (lE X.K B ti)) (ho : PE X o (lE X.K B td)) : PC X .In i o (lE X.K B (eDin ti td)) :=
  ⟨fun pins s σ H Q I ⟨W, e, P, bl, S, t, k⟩ => (pc_din hu hi ho).run pins s σ H Q I ⟨W, e, _, bl, S, t, fun j e1 W1 H1 v1 t1 l1 S1 r1 => ⟨W1, e1, _, B.up bl l1, S1, t1, fun d e2 W2 H2 v2 ⟨n, kxs, kk, hd, hj, hc, p⟩ l2 S2 r2 => by
    subst hd hj
    cases r1
    cases r2 with
    | @cell _ a hm =>
      obtain ⟨ps, h1, h2⟩ := S2.ok.cellD hm hc
      refine ⟨a, _, rfl, DGet.k (k := .inl kk) h1, ?_⟩
      have e1 : (valV ps (.inl kk)).isSome = (getI kxs kk).isSome := by
        rcases h2.get kk with ⟨g1, g2⟩ | ⟨dd, vv, g1, g2, _⟩
        · rw [g1, g2] <;> rfl
        · rw [g1, g2] <;> rfl
      rw [show (valV ps (.inl kk)).isSome = _ from e1]
      exact k _ _ _ _ _ p (l1.tr l2) S2 (.bl _)⟩⟩⟩
theorem v_din {ti td : DE} {e : En} {P : D → En → Prop} (h : ti e fun i e1 => td e1 fun d e2 => ∃ n kxs k, d = .cell n ∧ i = .int k ∧ e2.cs[n]? = some (.dic kxs) ∧ P (.bl (getI kxs k).isSome) e2) : eDin ti td e P := h
/-! ### list.pop() -/
def qPop0 : D → List D → DE := fun d ds e P => ∃ (n : Nat) (xs : List D) (y : D), d = .cell n ∧ ds = [] ∧ e.cs[n]? = some (.lst xs) ∧ xs[xs.length - 1]? = some y ∧ P y { e with cs := e.cs.set n (.lst xs.dropLast) }
theorem md_pop0 {K : PySem.W.Frag} : MtD K rPop qPop0 := by
  rintro W H σ e x vs d ds P Q S r rs ⟨n, xs, y, rfl, rfl, hc, hy, p⟩ k
  cases rs
  cases r with
  | @cell _ a hm =>
    obtain ⟨vs, h1, h2⟩ := S.ok.cellL hm hc
    obtain ⟨z, hz, rz⟩ := h2.get hy
    refine ⟨a, vs, z, rfl, rfl, h1, by rw [h2.length]; exact hz, ?_⟩
    exact k _ _ _ _ _ p W.le_refl ⟨S.ok.setC hm hc (fun z => nomatch z) ⟨_, upd_same, h2.dropLast⟩, S.sl⟩ rz
/-! ### remove, count, index: items of any depth -/
def rRemD (K : PySem.W.Frag) : V → List V → Hp → VK → Prop := fun x xs H Q => ∃ (a : Addr) (ys : List V) (y : V) (d : PyData) (ds : List PyData) (j : Nat) (z : PyData), x = V.ref a ∧ xs = [y] ∧ H a = some (.lst ys) ∧ DpAll K H ys ds ∧ Dp K H y d ∧
  SeqAt.shaped (.list ds) = true ∧ SeqAt.shaped d = true ∧ ds[j]? = some z ∧ PyData.eqv z d = true ∧ (∀ (m : Nat) (z' : PyData), m < j → ds[m]? = some z' → PyData.eqv z' d = false) ∧ Q .non (upd H a (.lst (ys.eraseIdx j)))
theorem mt_remD {X : Cx} (hu : X.A.units + 65 < cLine) : MtM X "list.remove" (rRemD X.K) := by
  intro pins s σ H x xs v us Q I rx rxs h
  obtain ⟨a, ys, y, d, ds, j, z, rfl, rfl, hH, ha, hy, sl, sd, hz, hzj, hno, q⟩ := h
  cases rx
  obtain ⟨uy, rfl, ry⟩ := rxs.one
  obtain ⟨bs, r1⟩ := Dp.reads I d y uy hy ry
  have hxs : PyData.canLayAll0 ds = true := SeqAt.canLay_of_shaped sl
  have hroom : X.A.units + 1 + min (PyData.depthAll ds) d.depth < cLine := room_in_shaped sd hu
  obtain ⟨zz, its, n, rv, hl, ho⟩ := I.lstM hH
  obtain ⟨as, h4⟩ := Dp.readsAll I ds _ its ha rv
  have hn : its.length = ds.length := SeqAt.ReadsAll.length ds its as h4
  have hmap : its.map (SeqAt.readOf s.heap) = ds := SeqAt.readsAll_map ds its as hxs h4
  obtain ⟨hjd, _⟩ := List.getElem?_eq_some_iff.mp hz
  have hjl : j < its.length := by omega
  have hj : j < its.toArray.size := by simpa using hjl
  have at_ : ∀ (m : Nat) (hm : m < its.toArray.size) (z' : PyData), ds[m]? = some z' → SeqAt.readOf s.heap its.toArray[m] = z' := by
    intro m hm z' hz'
    have hml : m < its.length := by simpa using hm
    rw [← hmap, List.getElem?_map, List.getElem?_eq_getElem hml] at hz'
    have e1 : SeqAt.readOf s.heap its[m] = z' := Option.some.inj (show some (SeqAt.readOf s.heap its[m]) = some z' from hz')
    simpa using e1
  refine call_meets PySem.F.slot_list_remove ⟨_, ho, rfl⟩ PySem.F.entry_list_remove (PySem.F.args_list_remove_2 _ _)
    (SeqAt.list_removeAt a its.toArray n none #[] uy (fun u => PyData.eqv (SeqAt.readOf s.heap u) d) j hj ?_ ?_ (by rw [List.size_toArray]; omega)) ⟨ho, SeqAt.items_eqAt (vs := its.toArray) (show ReadsAll s.heap its.toArray.toList ds as from h4) r1 hxs (SeqAt.canLay_of_shaped sd) hroom, ?_⟩
  · show PyData.eqv (SeqAt.readOf s.heap its.toArray[j]) d = true
    rw [at_ j hj z hz]
    exact hzj
  · intro m hm hmj
    have hmd : m < ds.length := by omega
    have hz' : ds[m]? = some ds[m] := List.getElem?_eq_getElem hmd
    show PyData.eqv (SeqAt.readOf s.heap its.toArray[m]) d = false
    rw [at_ m hm _ hz']
    exact hno m _ hmj hz'
  · have rr := rv.eraseIdx j
    refine ⟨.non, _, I.lset (its' := its.eraseIdx j) (t' := s.toks) hH ho ?_ rr ?_, rfl, q⟩
    · show its.toArray.eraseIdxIfInBounds j = (its.eraseIdx j).toArray
      rw [List.eraseIdxIfInBounds_toArray]
    · have z2 := List.length_eraseIdx_le ys j
      omega
/-- where the first equal item stands -/
def FstAt (xs : List D) (y : D) (j : Nat) : Prop := (∃ z, xs[j]? = some z ∧ PyData.eqv (toP z) (toP y) = true) ∧ ∀ (m : Nat) (z : D), m < j → xs[m]? = some z → PyData.eqv (toP z) (toP y) = false
theorem toPs_map : ∀ xs : List D, toPs xs = xs.map toP
  | [] => rfl
  | x :: xs => by rw [toPs, toPs_map xs] <;> rfl
theorem FstAt.at {xs : List D} {y : D} {j : Nat} (h : FstAt xs y j) : (∃ z, (toPs xs)[j]? = some z ∧ PyData.eqv z (toP y) = true) ∧ ∀ (m : Nat) (z : PyData), m < j → (toPs xs)[m]? = some z → PyData.eqv z (toP y) = false := by
  obtain ⟨⟨z, h1, h2⟩, h3⟩ := h
  refine ⟨⟨toP z, by rw [toPs_map, List.getElem?_map, h1] <;> rfl, h2⟩, fun m w hm hw => ?_⟩
  rw [toPs_map, List.getElem?_map] at hw
  obtain ⟨z', e1, rfl⟩ := Option.map_eq_some_iff.mp hw
  exact h3 m z' hm e1
def qRem : D → List D → DE := fun d ds e P => ∃ (n : Nat) (xs : List D) (y : D) (j : Nat), d = .cell n ∧ ds = [y] ∧ e.cs[n]? = some (.lst xs) ∧ shp (.lst xs) = true ∧ shp (drf e.cs y) = true ∧ FstAt xs (drf e.cs y) j ∧ P .non { e with cs := e.cs.set n (.lst (xs.eraseIdx j)) }
theorem md_rem {K : PySem.W.Frag} : MtD K (rRemD K) qRem := by
  rintro W H σ e x vs d ds P Q S r rs ⟨n, xs, y, j, rfl, rfl, hc, s1, s2, hj, p⟩ k
  obtain ⟨v, rfl, rv⟩ := rs.one
  obtain ⟨o1, t1⟩ := shp_and s1
  obtain ⟨o2, t2⟩ := shp_and s2
  obtain ⟨⟨z, hz1, hz2⟩, hno⟩ := hj.at
  cases r with
  | @cell _ a hm =>
    obtain ⟨vs, h1, h2⟩ := S.ok.cellL hm hc
    refine ⟨a, vs, v, toP (drf e.cs y), toPs xs, j, z, rfl, rfl, h1, RAll.dp S.ok.ex xs vs h2 o1, S.ok.dp rv o2, t1, t2, hz1, hz2, hno, ?_⟩
    exact k _ _ _ _ _ p W.le_refl ⟨S.ok.setC hm hc (fun z => nomatch z) ⟨_, upd_same, h2.eraseIdx j⟩, S.sl⟩ .non
/-- xs.index(y) -/
def qIdxD : D → List D → DE := fun d ds e P => ∃ (xs : List D) (y : D) (j : Nat), lk e.cs d = some xs ∧ ds = [y] ∧ shp (.lst xs) = true ∧ shp (drf e.cs y) = true ∧ FstAt xs (drf e.cs y) j ∧ P (.int (j : Nat)) e
theorem md_idxD {K : PySem.W.Frag} : MtD K (rIndexD K) qIdxD := by
  rintro W H σ e x vs d ds P Q S r rs ⟨xs, y, j, hl, rfl, s1, s2, hj, p⟩ k
  obtain ⟨v, rfl, rv⟩ := rs.one
  obtain ⟨o1, t1⟩ := shp_and s1
  obtain ⟨o2, t2⟩ := shp_and s2
  obtain ⟨⟨z, hz1, hz2⟩, hno⟩ := hj.at
  obtain ⟨a, ws, rfl, h3, h4⟩ := S.ok.lk r hl
  exact ⟨a, v, toP (drf e.cs y), toPs xs, j, z, rfl, rfl, .lst h3 (RAll.dp S.ok.ex xs ws h4 o1), S.ok.dp rv o2, t1, t2, hz1, hz2, hno, k _ _ _ _ _ p W.le_refl S (.int _)⟩
/-- xs.count(y) -/
def rCntD (K : PySem.W.Frag) : V → List V → Hp → VK → Prop := fun x xs H Q => ∃ (a : Addr) (y : V) (d : PyData) (ds : List PyData), x = V.ref a ∧ xs = [y] ∧ Dp K H (V.ref a) (.list ds) ∧ Dp K H y d ∧
  SeqAt.shaped (.list ds) = true ∧ SeqAt.shaped d = true ∧ Q (.int (ds.countP (fun z => PyData.eqv z d) : Nat)) H
theorem mt_cntD {X : Cx} (hu : X.A.units + 65 < cLine) : MtR X "list.count" (rCntD X.K) := by
  intro pins s σ H x xs v us Q I rx rxs h
  obtain ⟨a, y, d, ds, rfl, rfl, hl, hy, sl, sd, q⟩ := h
  cases rx
  obtain ⟨uy, rfl, ry⟩ := rxs.one
  obtain ⟨bs, r1⟩ := Dp.reads I d y uy hy ry
  have hxs : PyData.canLayAll0 ds = true := SeqAt.canLay_of_shaped sl
  have hroom : X.A.units + 1 + min (PyData.depthAll ds) d.depth < cLine := room_in_shaped sd hu
  cases hl with
  | lst hs ha =>
    obtain ⟨its, rv, ⟨⟨cls, dd, data, sls⟩, n, ho, hc, hdn, hdt⟩, hlen⟩ := I.list hs
    simp only at hc hdt
    subst hc hdt
    obtain ⟨as, h4⟩ := Dp.readsAll I ds _ its ha rv
    have hmap : its.map (SeqAt.readOf s.heap) = ds := SeqAt.readsAll_map ds its as hxs h4
    refine call_meets PySem.F.slot_list_count ⟨_, ho, rfl⟩ PySem.F.entry_list_count (PySem.F.args_list_count_2 _ _)
      (SeqAt.list_countAt a its.toArray n dd sls uy (fun u => PyData.eqv (SeqAt.readOf s.heap u) d)) ⟨ho, SeqAt.items_eqAt (vs := its.toArray) (show ReadsAll s.heap its.toArray.toList ds as from h4) r1 hxs (SeqAt.canLay_of_shaped sd) hroom, ?_⟩
    have ec : its.toArray.toList.countP (fun u => PyData.eqv (SeqAt.readOf s.heap u) d) = ds.countP (fun z => PyData.eqv z d) := by
      rw [← hmap, List.countP_map]
      rfl
    refine ⟨.int (ds.countP (fun z => PyData.eqv z d) : Nat), H, I.tok _, ⟨s.toks, ?_⟩, q⟩
    rw [ec]
def qCntD : D → List D → DE := fun d ds e P => ∃ (xs : List D) (y : D), lk e.cs d = some xs ∧ ds = [y] ∧ shp (.lst xs) = true ∧ shp (drf e.cs y) = true ∧ P (.int (xs.countP (fun z => PyData.eqv (toP z) (toP (drf e.cs y))) : Nat)) e
theorem md_cntD {K : PySem.W.Frag} : MtD K (rCntD K) qCntD := by
  rintro W H σ e x vs d ds P Q S r rs ⟨xs, y, hl, rfl, s1, s2, p⟩ k
  obtain ⟨v, rfl, rv⟩ := rs.one
  obtain ⟨o1, t1⟩ := shp_and s1
  obtain ⟨o2, t2⟩ := shp_and s2
  obtain ⟨a, ws, rfl, h3, h4⟩ := S.ok.lk r hl
  refine ⟨a, v, toP (drf e.cs y), toPs xs, rfl, rfl, .lst h3 (RAll.dp S.ok.ex xs ws h4 o1), S.ok.dp rv o2, t1, t2, ?_⟩
  have ec : (toPs xs).countP (fun z => PyData.eqv z (toP (drf e.cs y))) = xs.countP (fun z => PyData.eqv (toP z) (toP (drf e.cs y))) := by
    rw [toPs_map, List.countP_map]
    rfl
  rw [ec]
  exact k _ _ _ _ _ p W.le_refl S (.int _)
/-! ### [*xs, y] -/
def aStar (te : DE) (tr : DA) : DA := fun e P => te e fun d e1 => ∃ xs, lkP e1.cs d = some xs ∧ tr e1 fun ys e2 => P (xs ++ ys) e2
theorem da_star {X : Cx} {B : Bs} {ex : Expr} {es : List Expr} {te : DE} {tr : DA} {p : Pos} (he : PE X ex (lE X.K B te)) (hr : PA X es (lA X.K B tr)) (hs : starEach (.Starred ex p :: es) X.env = (true, eval ex X.env) :: starEach es X.env := by rfl) : PA X (.Starred ex p :: es) (lA X.K B (aStar te tr)) :=
  PA.imp (StX.pa_star he hr hs) fun σ H Q ⟨W, e, P, bl, S, t, k⟩ => ⟨W, e, _, bl, S, t, fun d e1 W1 H1 v ⟨xs, hx, t1⟩ l1 S1 r1 => by
    obtain ⟨a, vs, rfl, h1, h2⟩ := S1.ok.lkP r1 hx
    exact ⟨a, vs, rfl, .inr (SqL.of h1), W1, e1, _, B.up bl l1, S1, t1, fun ys e2 W2 H2 ws p l2 S2 r2 => k _ _ _ _ _ p (l1.tr l2) S2 ((RAll.mono l2 _ _ h2).append r2)⟩⟩
theorem v_star {te : DE} {tr : DA} {e : En} {P : List D → En → Prop} (h : te e fun d e1 => ∃ xs, lkP e1.cs d = some xs ∧ tr e1 fun ys e2 => P (xs ++ ys) e2) : aStar te tr e P := h
/-! ### a, b, c = x, y, z -/
def sPar3 (i j l : Nat) (ta : DA) : DS := fun P e => ta e fun ds e1 => ∃ x y z, ds = [x, y, z] ∧ P.nx { e1 with sl := ((e1.sl.set i (some x)).set j (some y)).set l (some z) }
theorem ds_par3 {X : Cx} {B : Bs} {i j l : Nat} {x y z : Str} {a b c : Expr} {ta : DA} {px py pz pt k2p pos : Pos} {kt k2} (hc : X.calm = true) (hN : X.N.Nodup) (hi : X.N[i]? = some x) (hj : X.N[j]? = some y) (hl : X.N[l]? = some z) (hij : i ≠ j) (hil : i ≠ l) (hjl : j ≠ l)
    (hx : X.env.scope.names.lookup x = some .local) (hy : X.env.scope.names.lookup y = some .local) (hz : X.env.scope.names.lookup z = some .local) (ha : PA X [a, b, c] (lA X.K B ta))
    (hw : swappedStores [.Tuple [.Name x px, .Name y py, .Name z pz] kt pt] (.Tuple [a, b, c] k2 k2p) X.env = pure (some [x, y, z]) := by rfl)
    (hs : swapsWithSole [.Tuple [.Name x px, .Name y py, .Name z pz] kt pt] (.Tuple [a, b, c] k2 k2p) pos.line X.env = pure false := by rfl) :
    PS X (.Assign [.Tuple [.Name x px, .Name y py, .Name z pz] kt pt] (.Tuple [a, b, c] k2 k2p) pos) (lS X.K B (sPar3 i j l ta)) :=
  PS.imp (ps_par3 hc hN hi hj hl hij hil hjl hx hy hz ha hw hs) fun E σ H h => by
    obtain ⟨W, e, P, bl, S, h, cc⟩ := lS_un h
    refine ⟨W, e, _, bl, S, h, fun ds e1 W1 H1 vs ⟨x, y, z, hd, p⟩ l S1 r => ?_⟩
    subst hd
    cases r with
    | cons r1 r =>
      cases r with
      | cons r2 r =>
        cases r with
        | cons r3 r4 =>
          cases r4
          exact ⟨_, _, _, rfl, cc.nx _ _ _ _ p l ⟨S1.ok, ((S1.sl.set r1).set r2).set r3⟩⟩
theorem v_par3 {i j l : Nat} {ta : DA} {P : Po} {e : En} (h : ta e fun ds e1 => ∃ x y z, ds = [x, y, z] ∧ P.nx { e1 with sl := ((e1.sl.set i (some x)).set j (some y)).set l (some z) }) : sPar3 i j l ta P e := h
/-! ### (x, ..) * n -/
theorem tuple_mul1 (l : Addr) (items : Array Value) (n : Nat) (dd : Option Addr) (sl : Array (Option Value)) (u : Tok) :
    Meets (Builtin.«tuple.__mul__» ⟨[.ref l, .int 1 u], []⟩) (fun _ R s => s.heap.get? l = some { cls := .type "tuple", dict := dd, data := .seq items n, slots := sl } ∧ R (.ok (.ret (Value.ref l))) s) :=
  .of_wp fun prog w A R s h => by
    obtain ⟨hp, g, d, tk, os⟩ := s
    obtain ⟨hl, h⟩ := h
    have f1 := AutoSeq1.idx_int
    have c0 : (decide ((1 : Int) < -(2 ^ 63)) || decide ((1 : Int) ≥ 2 ^ 63)) = false := by decide
    have c1 : (items.isEmpty || (1 : Int) == 1) = true := by simp
    wp_walk using wpAny_loadPart' hl
    repeat (first
      | (refine wpAny_ite_false (decide_eq_false (by rw [c0]; exact Bool.false_ne_true)) ?_; wp_walk using wpAny_loadPart' hl)
      | (refine wpAny_ite_true (decide_eq_true (by rw [c1])) ?_; wp_walk using wpAny_loadPart' hl))
    exact ⟨_, rfl, h⟩
def rRep1 (K : PySem.W.Frag) : R2 := fun x y H Q => ∃ l xs, x = .ref l ∧ y = .int 1 ∧ SqT K H l xs ∧ Q x H
theorem op_rep1 {X : Cx} : OpR X (binaryOp .Mult) (rRep1 X.K) := by
  intro pins s σ H x y v u Q I rx ry h
  obtain ⟨l, xs, rfl, rfl, hT, q⟩ := h
  cases rx
  obtain ⟨t, rfl⟩ := ry
  obtain ⟨its, r, ⟨⟨cls, dd, data, sl⟩, ho, hc, n, hd⟩, hs⟩ := I.tuple hT
  simp only at hc hd
  subst hc hd
  refine wpAny_binaryOp_repeat_ref (T := "tuple") (U := "int") (by decide) ⟨_, ho, rfl⟩ (fun s' => typeIs_int s' 1 t) noFill_tuple_mul PySem.F.fills_int_mul PySem.F.slot_int_rmul repeat_tuple PySem.F.slot_int_index.lookup
    (call_meets PySem.F.slot_int_rmul (typeIs_int s 1 t) PySem.F.entry_int_rmul (PySem.F.args_int_rmul_2 _ _) (int_rmul_tuple 1 t l its.toArray n dd sl)
      ⟨ho, rfl, ⟨_, ho, rfl⟩, call_meets PySem.F.slot_tuple_mul ⟨_, ho, rfl⟩ PySem.F.entry_tuple_mul (PySem.F.args_tuple_mul_2 _ _) (tuple_mul1 l its.toArray n dd sl t) ⟨ho, ?_⟩⟩)
  exact ⟨.ref l, H, I, rfl, q⟩
def rRepA (K : PySem.W.Frag) : R2 := fun x y H Q => rRepT K x y H Q ∨ rRep1 K x y H Q
theorem op_repA {X : Cx} : OpR X (binaryOp .Mult) (rRepA X.K) := op_repT.or op_rep1
def qRepT : D → D → DE
  | .tup xs, .int k => fun e P => xs ≠ [] ∧ 1 ≤ k ∧ k ≤ 1000 ∧ xs.length ≤ 1000 ∧ P (.tup (List.replicate k.toNat xs).flatten) e
  | _, _ => fun _ _ => False
theorem RAll.rep {K : PySem.W.Frag} {W : Wd} {vs : List V} {ds : List D} (h : RAll K W vs ds) : ∀ n : Nat, RAll K W (List.replicate n vs).flatten (List.replicate n ds).flatten
  | 0 => .nil
  | n + 1 => by
    rw [List.replicate_succ, List.replicate_succ, List.flatten_cons, List.flatten_cons]
    exact h.append (RAll.rep h n)
theorem od_rep {K : PySem.W.Frag} : OpD K (rRepA K) qRepT := by
  intro W H σ e x y d1 d2 P Q S r1 r2 t k
  unfold qRepT at t
  split at t
  · obtain ⟨hne, h1, h2, hz, p⟩ := t
    cases r2
    cases r1 with
    | @tup l vs _ hs ha =>
      rename_i kk
      by_cases e1 : kk = 1
      · subst e1
        refine .inr ⟨l, vs, rfl, rfl, Evl.ex_t S.ok.ex hs, ?_⟩
        refine k _ _ _ _ _ p W.le_refl S ?_
        have e2 : ∀ {α : Type} (ys : List α), (List.replicate (1 : Int).toNat ys).flatten = ys := fun ys => by simp
        rw [e2]
        exact .tup hs ha
      · refine .inl ⟨l, _, vs, rfl, rfl, Evl.ex_t S.ok.ex hs, fun z => hne ?_, by omega, h2, by rw [ha.length]; exact hz, ?_⟩
        · subst z; cases ha; rfl
        · exact newT_ok S (ha.rep kk.toNat) p k
  · exact t.elim
theorem v_rep {xs : List D} {n : Int} {e : En} {P : D → En → Prop} (hne : xs ≠ []) (h1 : 1 ≤ n) (h2 : n ≤ 1000) (hz : xs.length ≤ 1000) (p : P (.tup (List.replicate n.toNat xs).flatten) e) : qRepT (.tup xs) (.int n) e P := ⟨hne, h1, h2, hz, p⟩
/-! ### isinstance(x, (T1, T2)) -/
def rIsiS (K : PySem.W.Frag) : List V → Hp → VK → Prop := fun xs H Q => ∃ (x : V) (tp : Addr) (cs : List V) (t : Value) (us : List Value) (b : Bool), xs = [x, .ref tp] ∧ SqT K H tp cs ∧ Paired ClsV cs us ∧ TyX K H x t ∧ PySem.W.kitAny K t us = some b ∧ Q (.bl b) H
theorem call_isiS {X : Cx} : CallR X (.builtin "isinstance") (rIsiS X.K) := by
  intro pins s σ H xs us Q I r h
  obtain ⟨x, tp, cs, t, ws, b, rfl, hT, k, ty, e, q⟩ := h
  obtain ⟨u1, u2, rfl, r1, r2⟩ := vals2 r
  cases (show u2 = Value.ref tp from r2)
  obtain ⟨P, Z, p, hx⟩ := kit_of I r1 ty
  obtain ⟨its, rv, ⟨o, h1, h2, n, h3⟩, _⟩ := I.tuple hT
  have e3 := ClsV.all k rv
  subst e3
  obtain ⟨oc, od, dt, sl⟩ := o
  simp only at h2 h3
  subst h2 h3
  exact PySem.W.kia_tup Z I.kIn p h1 e hx fun tk => ⟨.bl b, H, I.tok tk, rfl, q⟩
def qIsi2 : List D → DE
  | [d, .tup [.raw (.ty T), .raw (.ty U)]] => fun e P => tyKnown T = true ∧ tyKnown U = true ∧ ∃ a, tyN e.cs d = some a ∧ P (.bl (isTy a T || isTy a U)) e
  | _ => fun _ _ => False
theorem cd_isi2 {K : PySem.W.Frag} : CallD K (rIsiS K) qIsi2 := by
  intro W H σ e vs ds P Q S r t k
  unfold qIsi2 at t
  split at t
  · obtain ⟨v, v2, rfl, r1, r2⟩ := r.two
    obtain ⟨hT, hU, a, ea, p⟩ := t
    obtain ⟨ty, mem⟩ := S.ok.ty r1 ea
    cases r2 with
    | tup hs ha =>
      cases ha with
      | cons a1 a2 =>
        cases a2 with
        | cons a2 a3 =>
          cases a1; cases a2; cases a3
          refine ⟨v, _, _, _, [.type _, .type _], _, rfl, Evl.ex_t S.ok.ex hs, .cons (.ty _) (.cons (.ty _) .nil), ty, ?_, k _ _ _ _ _ p W.le_refl S (.bl _)⟩
          have e1 := kit_ty (K := K) (kit_in mem hT)
          have e2 := kit_ty (K := K) (kit_in mem hU)
          unfold PySem.W.kitAny
          rw [e1]
          rename_i T' U' _
          cases hb : isTy a T' with
          | true => rfl
          | false =>
            show (match PySem.W.kitOne K _ _ with
              | some true => some true
              | some false => PySem.W.kitAny K _ []
              | none => none) = _
            rw [e2]
            cases hb2 : isTy a U' with
            | true => rfl
            | false => rfl
  · exact t.elim
/-! ### k in d as a test -/
theorem de_din {X : Cx} {B : Bs} {o i : Expr} {td ti : DE} {pos : Pos} (hu : X.A.units + 1 < cLine) (hi : PE X i (lE X.K B ti)) (ho : PE X o (lE X.K B td)) (hm : behindInMarks CmpOp.In o = false) : PE X (.Compare i [.In] [o] pos) (lE X.K B (eDin ti td)) := pe_cmp (dc_din hu hi ho) hm
theorem dt_din {X : Cx} {B : Bs} {o i : Expr} {td ti : DE} {pos : Pos} (hu : X.A.units + 1 < cLine) (hi : PE X i (lE X.K B ti)) (ho : PE X o (lE X.K B td)) (hm : behindInMarks CmpOp.In o = false) : PT X (.Compare i [.In] [o] pos) (lT X.K B (eTest (eDin ti td))) :=
  PT.imp (pt_cmp (dc_din hu hi ho) hm) (test_ok fun _ _ _ z => z)
theorem units1 {k : Nat} {A : Around} (r : Room k A) : A.units + 1 < cLine := by have := r.un; omega
/-! ### a list that is given up: it changes no more -/
mutual
def subC (n : Nat) (ys : List D) : D → D
  | .tup xs => .tup (subCs n ys xs)
  | .lst xs => .lst (subCs n ys xs)
  | .fro xs => .fro (subCs n ys xs)
  | .ins C ns xs => .ins C ns (subCs n ys xs)
  | .cell m => if m = n then .lst ys else .cell m
  | .non => .non
  | .bl b => .bl b
  | .int i => .int i
  | .str s => .str s
  | .dct => .dct
  | .raw v => .raw v
  | .exc C p => .exc C p
def subCs (n : Nat) (ys : List D) : List D → List D
  | [] => []
  | x :: xs => subC n ys x :: subCs n ys xs
end
section
variable {K : PySem.W.Frag} {W : Wd} {n : Nat} {a : Addr} {vs : List V} {ys : List D}
mutual
theorem R.subC (hm : W.m[n]? = some a) (hF : W.F a = some (.lst vs)) (hr : RAll K W vs ys) : ∀ (d : D) (v : V), R K W v d → R K W v (DL.subC n ys d)
  | .non, _, h => by cases h; exact .non
  | .bl b, _, h => by cases h; exact .bl b
  | .int i, _, h => by cases h; exact .int i
  | .str s, _, h => by cases h; exact .str s
  | .tup xs, _, h => by
    cases h with
    | tup hs ha => exact .tup hs (RAll.subC hm hF hr xs _ ha)
  | .lst xs, _, h => by
    cases h with
    | lst hs ha => exact .lst hs (RAll.subC hm hF hr xs _ ha)
  | .fro xs, _, h => by
    cases h with
    | fro hs ha => exact .fro hs (RAll.subC hm hF hr xs _ ha)
  | .ins C ns xs, _, h => by
    cases h with
    | ins hs ha => exact .ins hs (RAll.subC hm hF hr xs _ ha)
  | .cell m, _, h => by
    cases h with
    | cell hs =>
      unfold DL.subC
      by_cases e : m = n
      · subst e
        rw [hm] at hs
        cases hs
        rw [if_pos rfl]
        exact .lst hF hr
      · rw [if_neg e]
        exact .cell hs
  | .dct, _, h => by cases h with | dct hs => exact .dct hs
  | .raw v, _, h => by cases h; exact .raw v
  | .exc C p, _, h => by cases h with | exc hs hp => exact .exc hs hp
theorem RAll.subC (hm : W.m[n]? = some a) (hF : W.F a = some (.lst vs)) (hr : RAll K W vs ys) : ∀ (ds : List D) (us : List V), RAll K W us ds → RAll K W us (DL.subCs n ys ds)
  | [], _, h => by cases h; exact .nil
  | d :: ds, _, h => by
    cases h with
    | cons h1 h2 => exact .cons (R.subC hm hF hr d _ h1) (RAll.subC hm hF hr ds _ h2)
end
end
/-- lists given up, one after the other -/
inductive Fzs : D → List Cel → D → List Cel → Prop
  | nil {d : D} {cs : List Cel} : Fzs d cs d cs
  | one {d d' : D} {cs cs' : List Cel} {n : Nat} {xs : List D} : cs[n]? = some (.lst xs) → Fzs (subC n xs d) (cs.set n .dead) d' cs' → Fzs d cs d' cs'
def eFz (te : DE) : DE := fun e P => te e fun d e1 => ∃ d' cs', Fzs d e1.cs d' cs' ∧ P d' { e1 with cs := cs' }
theorem fz_ok {K : PySem.W.Frag} {H : Hp} {σ : L2.St} {sl : List (Option D)} {v : V} {d d' : D} {cs cs' : List Cel} (h : Fzs d cs d' cs') : ∀ {W : Wd}, Sd K W H σ ⟨sl, cs⟩ → R K W v d → ∃ W', W.le W' ∧ Sd K W' H σ ⟨sl, cs'⟩ ∧ R K W' v d' := by
  induction h with
  | nil => exact fun {W} S r => ⟨W, W.le_refl, S, r⟩
  | @one d d' cs cs' n xs hc _ ih =>
    intro W S r
    have hn : n < W.m.length := by
      rw [S.ok.len]
      exact (List.getElem?_eq_some_iff.mp hc).1
    have hm : W.m[n]? = some W.m[n] := List.getElem?_eq_getElem hn
    obtain ⟨vs, h1, h2⟩ := S.ok.cellL hm hc
    obtain ⟨ok, l⟩ := S.ok.freeze hm hc h1
    have S2 : Sd K ⟨upd W.F W.m[n] (.lst vs), W.m, W.h⟩ H σ ⟨sl, cs.set n .dead⟩ := ⟨ok, S.sl.mono l⟩
    have r2 := R.subC (W := ⟨upd W.F W.m[n] (.lst vs), W.m, W.h⟩) (n := n) hm (show upd W.F W.m[n] (.lst vs) W.m[n] = _ from upd_same) (RAll.mono l _ _ h2) d v (R.mono l _ _ r)
    obtain ⟨W', l', S', r'⟩ := ih S2 r2
    exact ⟨W', l.tr l', S', r'⟩
theorem de_fz {X : Cx} {B : Bs} {ex : Expr} {te : DE} (he : PE X ex (lE X.K B te)) : PE X ex (lE X.K B (eFz te)) :=
  PE.imp he fun σ H Q ⟨W, e, P, bl, S, t, k⟩ => ⟨W, e, _, bl, S, t, fun d e1 W1 H1 v ⟨d', cs', hz, p⟩ l1 S1 r1 => by
    obtain ⟨W2, l2, S2, r2⟩ := fz_ok hz (sl := e1.sl) S1 r1
    exact k _ _ _ _ _ p (l1.tr l2) S2 r2⟩
theorem v_fz {te : DE} {e : En} {P : D → En → Prop} (h : te e fun d e1 => ∃ d' cs', Fzs d e1.cs d' cs' ∧ P d' { e1 with cs := cs' }) : eFz te e P := h
/-! ### script + [..]: a list that is known as it is -/
theorem list_addP (l : Addr) (o1 : Obj) (items : Array Value) (n : Nat) (b : Addr) (o2 : Obj) (items2 : Array Value) (n2 : Nat) (c1 : o1.cls = .type "list") (d1 : o1.data = .seq items n) (c2 : o2.cls = .type "list") (d2 : o2.data = .seq items2 n2) (hc0 : items.size + items2.size ≤ sizeLine) :
    Meets (Builtin.«list.__add__» ⟨[.ref l, .ref b], []⟩) (fun _ R s => s.heap.get? l = some o1 ∧ s.heap.get? b = some o2 ∧ R (.ok (.ret (Value.ref s.heap.objs.size))) { s with heap := s.heap.push { cls := Value.type "list", data := Data.seq (items ++ items2) }, toks := s.toks }) :=
  .of_wp fun prog w A R s h => by
    obtain ⟨oc, od, dt, sl⟩ := o1
    obtain ⟨oc2, od2, dt2, sl2⟩ := o2
    simp only at c1 d1 c2 d2
    subst c1 d1 c2 d2
    obtain ⟨hp, g, d, tk, os⟩ := s; obtain ⟨hl, hb, h⟩ := h; have f1 := PySem.AutoSeq1.idx_int; have f2 := PySem.AutoSeq1.sub_tuple_tuple; have f3 := PySem.AutoSeq1.sub_list_list; have f4 := PySem.AutoSeq1.sub_tuple_list; have f5 := PySem.AutoSeq1.sub_list_tuple; wp_walk using wpAny_loadPart' hl, wpAny_loadPart' hb; exact ⟨_, rfl, h⟩
def rCatF (K : PySem.W.Frag) : R2 := fun x y H Q => ∃ l b xs zs, x = .ref l ∧ y = .ref b ∧ SqL K H l xs ∧ H b = some (.lst zs) ∧ xs.length + zs.length ≤ sizeLine ∧ ∀ p, H p = none → Q (.ref p) (upd H p (.lst (xs ++ zs)))
theorem op_catF {X : Cx} : OpR X (binaryOp .Add) (rCatF X.K) := by
  intro pins s σ H x y v u Q I rx ry h
  obtain ⟨l, b, xs, zs, rfl, rfl, hH, hB, hz, q⟩ := h
  cases rx
  cases ry
  obtain ⟨its, r, ⟨o, n, e, hc, _, hdt⟩, hl⟩ := I.list hH
  obtain ⟨z2, its2, n2, r2, hl2, e2⟩ := I.lstM hB
  have el := r.length
  refine concat_meets ⟨o, e, hc⟩ ⟨_, e2, rfl⟩ noFill_list_add seq_list_add F.slot_list_add F.entry_list_add (F.args_list_add_2 _ _) (list_addP l o its.toArray n b _ its2.toArray n2 hc hdt rfl rfl (by rw [List.size_toArray, List.size_toArray]; omega)) ⟨e, e2, ?_⟩
  have ea : its.toArray ++ its2.toArray = (its ++ its2).toArray := by simp
  rw [ea]
  exact ⟨.ref _, _, I.lnew (t' := s.toks) (r.append r2) (by rw [List.length_append]; omega), rfl, q _ I.fresh⟩
def qCatF (o : Bool) : D → D → DE := fun x y e P => ∃ xs ys, x = .fro xs ∧ lkP e.cs y = some ys ∧ xs.length + ys.length ≤ sizeLine ∧ newL o (xs ++ ys) e P
theorem od_catF {K : PySem.W.Frag} {o : Bool} : OpD K (rCatF K) (qCatF o) := by
  rintro W H σ e x y d1 d2 P Q S r1 r2 ⟨xs, ys, rfl, e2, hz, t⟩ k
  cases r1 with
  | fro h1 q1 =>
    obtain ⟨p2, ws, rfl, h2, q2⟩ := S.ok.lkP r2 e2
    exact ⟨_, p2, _, ws, rfl, rfl, Evl.ex_l S.ok.ex h1, h2, by rw [q1.length, q2.length]; exact hz, newL_ok S (q1.append q2) t k⟩
theorem v_catF {o : Bool} {x y : D} {e : En} {P : D → En → Prop} {xs ys : List D} (h1 : x = .fro xs) (h2 : lkP e.cs y = some ys) (hz : xs.length + ys.length ≤ 100000) (p : newL o (xs ++ ys) e P) : qCatF o x y e P := ⟨xs, ys, h1, h2, Nat.le_trans hz (by decide), p⟩
end DL
/-! exceptions: what leaves a def, by class, what it holds, and cells -/
namespace DL
open PySem PySem.Spec PyProof.Rows L2
open Evl (Ex)

/-- an exception: its class, and its field index, if its class has that -/
structure XN where
  c : Str
  p : Option Int
def xnF (i : Int) : List (Str × V) := [("index", .int i)]
def PayOk (p : Option Int) (d : Option Addr) (W : Wd) : Prop := match p with
  | none => d = none
  | some i => ∃ dd, d = some dd ∧ W.F dd = some (.xd (xnF i))
theorem PayOk.mono {p : Option Int} {d : Option Addr} {W W' : Wd} (h : PayOk p d W) (l : W.le W') : PayOk p d W' := by
  cases p with
  | none => exact h
  | some i =>
    obtain ⟨dd, e1, e2⟩ := h
    exact ⟨dd, e1, l.1 _ _ e2⟩
/-- a promise with what may be raised -/
abbrev SpX := List D → List Cel → (D → List Cel → Prop) → (XN → List Cel → Prop) → Prop
def spDX (K : PySem.W.Frag) (sp : SpX) : Sp := fun vs H Q E => ∃ W cs ds P PX, Ok K W H cs ∧ RAll K W vs ds ∧ sp ds cs P PX ∧ (∀ d cs' W' H' v, P d cs' → W.le W' → Ok K W' H' cs' → R K W' v d → Q v H') ∧
  ∀ x cs' W' H' d, PX x cs' → PayOk x.p d W' → W.le W' → Ok K W' H' cs' → E (.ref (He.ga K x.c)) d H'
def GoodX (P : Program) (w : World) (K : PySem.W.Frag) (mg : Str → Option Value) (base : Heap) (k : Nat) (f : Addr) (ps : List Str) (sp : SpX) : Prop :=
  ∃ fd, FnOk P w K mg base (L2.CX P w) k f fd ps (spDX K sp) ∧ Binds K fd ps [] ∧ PySem.W.keepIn K (.ref f) = true
theorem GoodX.mono {P : Program} {w : World} {K : PySem.W.Frag} {mg : Str → Option Value} {base : Heap} {j k : Nat} {f : Addr} {ps : List Str} {sp : SpX} (g : GoodX P w K mg base j f ps sp) (h : j ≤ k) : GoodX P w K mg base k f ps sp := by
  obtain ⟨fd, F, b, kp⟩ := g
  exact ⟨fd, F.mono h, b, kp⟩
/-- what is wished of an exception -/
def wE (K : PySem.W.Frag) (B : Bs) (XX : XN → List Cel → Prop) : XK := fun cls d H => ∃ x W cs, cls = .ref (He.ga K x.c) ∧ PayOk x.p d W ∧ B.p W ∧ Ok K W H cs ∧ XX x cs
def XT (X : Cx) (B : Bs) (XX : XN → List Cel → Prop) : Prop := L2.Takes X (fun cls d _ H => wE X.K B XX cls d H)
theorem XT.passes {X : Cx} {B : Bs} {XX : XN → List Cel → Prop} (tk : XT X B XX) : Passes (L2.CX X.prog X.w) X (wE X.K B XX) :=
  fun pins σ H s e s' I c => L2.passes_call tk (fun _ _ _ _ h => h) pins σ H s e s' I c
/-- with the slots' number -/
theorem XT.of {X : Cx} {B : Bs} {XX : XN → List Cel → Prop} {W : WX} (t : L2.Takes X W) (h : ∀ cls d σ H, σ.length = X.N.length → wE X.K B XX cls d H → W cls d σ H) : XT X B XX :=
  fun u s' ⟨a, B', sI, pins, σ, H, cls, d, e, I, nb, up, sky, na, os, ag, w⟩ => t u s' ⟨a, B', sI, pins, σ, H, cls, d, e, I, nb, up, sky, na, os, ag, h _ _ _ _ I.len w⟩

/-! ### raise -/
section
variable {X : Cx} {B : Bs} {XX : XN → List Cel → Prop} {ex a b o ix : Expr} {es : List Expr} {te tv to ti ta' tb' : DE} {ta : DA} {C : Addr} {f m x : Str} {pos apos p p2 : Pos} {k : Nat} {fn : Addr} {ps : List Str} {sp : SpX}
def sRaise (XX : XN → List Cel → Prop) (c : Str) : DS := fun _ e => XX ⟨c, none⟩ e.cs
theorem ds_raise {c : Str} {j : Nat} (hc : X.calm = true) (tk : XT X B XX) (xo : PySem.W.excIn X.K (He.ga X.K c) He.veBase "ValueError.__new__" = true ∧ PySem.W.keepIn X.K (.ref (He.ga X.K c)) = true ∧ PySem.W.subIn X.K (.ref (He.ga X.K c)) (.type "BaseException") = some true ∧ PySem.W.typeIn X.K (.ref (He.ga X.K c)) = some (.type "type"))
    (gC : X.mg c = some (.ref (He.ga X.K c))) (hg : Gl X c) (hdb : (c == ("__debug__" : Str)) = false := by decide) : PS X (.Raise (some (.Call (.Name c p) [.Constant (.str m) j p2] [] pos)) none apos) (lS X.K B (sRaise XX c)) :=
  PS.imp (L2.ps_raise hc tk (L2.pmk_own F.excBase_ValueError xo.1 gC xo.2.1 (raises_own xo.2.2.1 xo.2.2.2) hg hdb)) fun E σ H h => by
    obtain ⟨W, e, P, bl, S, h, _⟩ := lS_un h
    exact ⟨⟨c, none⟩, W, e.cs, rfl, rfl, bl, S.ok, h⟩

/-! ### calls that may raise -/
def eCallX (XX : XN → List Cel → Prop) (sp : SpX) (ta : DA) : DE := fun e P => ta e fun ds e1 => sp ds e1.cs (fun d cs' => P d { e1 with cs := cs' }) XX
theorem de_callX (G : GoodX X.prog X.w X.K X.mg X.base k fn ps sp) (tk : XT X B XX) (hr : Room k X.A) (hm : X.mg x = some (.ref fn)) (ha : PA X (ex :: es) (lA X.K B ta)) (hg : Gl X x := by rfl) (hdb : (x == ("__debug__" : Str)) = false := by decide)
    (he : starEach (ex :: es) X.env = (false, eval ex X.env) :: starEach es X.env := by rfl) (hpl : (backTo pos (starEach es X.env)).any (·.1) = false := by rfl) : PE X (.Call (.Name x p) (ex :: es) [] pos) (lE X.K B (eCallX XX sp ta)) := by
  obtain ⟨fd, F, b, kp⟩ := G
  refine PE.imp (pe_call F hr hg hm kp b .nil tk.passes ha hdb he hpl) fun σ H Q ⟨W, e, P, bl, S, t, k⟩ => ⟨W, e, _, bl, S, t, fun ds e1 W1 H1 vs h l S1 r => ?_⟩
  show spDX X.K sp (vs ++ []) H1 Q (wE X.K B XX)
  rw [List.append_nil]
  exact ⟨W1, e1.cs, ds, _, XX, S1.ok, r, h, fun d cs' W2 H2 v p l2 ok2 r2 => k _ _ _ _ _ p (l.tr l2) ⟨ok2, S1.sl.mono l2⟩ r2, fun x cs' W2 H2 d px pd l2 ok2 => ⟨x, W2, cs', rfl, pd, B.up bl (l.tr l2), ok2, px⟩⟩
/-- what the caller sees: its own cells -/
def FinX (cs0 : List Cel) (PX : XN → List Cel → Prop) (x : XN) (cs : List Cel) : Prop := PX x cs ∨ ((∀ c ∈ cs.take cs0.length, c ∈ cs0 ∨ c.loD cs0.length = true) ∧ PX x (cs.take cs0.length))
def eMakeX (C : Addr) (XX : XN → List Cel → Prop) (sp : SpX) (ta : DA) : DE := fun e P => ta e fun ds e1 => sp (.cell e1.cs.length :: ds) (e1.cs ++ [.ins C [] []])
  (fun d cs' => d = .non ∧ (P (.cell e1.cs.length) { e1 with cs := cs' } ∨ ∃ cs1 C' ns xs, cs' = cs1 ++ [.ins C' ns xs] ∧ cs1.length = e1.cs.length ∧ los e1.cs.length xs = true ∧ (∀ c ∈ cs1, c ∈ e1.cs ∨ c.loD e1.cs.length = true) ∧ P (.ins C' ns xs) { e1 with cs := cs1 }))
  (FinX e1.cs XX)
theorem de_makeX (G : GoodX X.prog X.w X.K X.mg X.base k fn ps sp) (tk : XT X B XX) (hr : Room (k + 1) X.A) (M : Mk X.K C fn) (hm : X.mg x = some (.ref C)) (ha : PA X (ex :: es) (lA X.K B ta)) (hg : Gl X x := by rfl) (hdb : (x == ("__debug__" : Str)) = false := by decide)
    (he : starEach (ex :: es) X.env = (false, eval ex X.env) :: starEach es X.env := by rfl) (hpl : (backTo pos (starEach es X.env)).any (·.1) = false := by rfl) : PE X (.Call (.Name x p) (ex :: es) [] pos) (lE X.K B (eMakeX C XX sp ta)) := by
  obtain ⟨fd, F, bb, kp⟩ := G
  refine PE.imp (pe_make M F hr hg hm bb .nil tk.passes ha hdb he hpl) fun σ H Q ⟨W, e, P, bl, S, t, k⟩ => ⟨W, e, _, bl, S, t, fun ds e1 W1 H1 vs h l S1 r => fun x dx hx hdx hne => ?_⟩
  have hx2 : upd H1 dx (.own x) x = none := by rw [upd_ne (Ne.symm hne)]; exact hx
  have okd : Ok X.K W1 (upd H1 dx (.own x)) e1.cs := by
    have ne : ∀ a ∈ W1.m, a ≠ dx := fun a ha e => S1.ok.fresh hdx (e ▸ ha)
    have neh : ∀ q ∈ W1.h, q.1 ≠ dx := fun q hq e => by
      have := (S1.ok.hd q hq).1
      rw [e, hdx] at this; cases this
    refine ⟨S1.ok.ex.trans (Ex.new hdx), S1.ok.len, S1.ok.nd, fun a ha => by rw [upd_ne (ne a ha)]; exact S1.ok.here a ha, S1.ok.fr, fun n a c e1 e2 => (S1.ok.cl n a c e1 e2).heap (upd_ne (ne a (List.mem_of_getElem? e1))), fun q hq => ?_, S1.ok.hn⟩
    obtain ⟨g1, g2, g3⟩ := S1.ok.hd q hq
    exact ⟨by rw [upd_ne (neh q hq)]; exact g1, g2, g3⟩
  obtain ⟨ok, l2⟩ := okd.newC (o := .ins C dx []) (c := .ins C [] []) hx2 fun W' l => ⟨dx, [], upd_same, rfl, .nil⟩
  have rc : R X.K ⟨W1.F, W1.m ++ [x], W1.h⟩ (.ref x) (.cell e1.cs.length) := .cell (by
    show (W1.m ++ [x])[e1.cs.length]? = some x
    rw [← S1.ok.len, List.getElem?_append_right (Nat.le_refl _)]
    simp)
  rw [List.append_nil]
  refine ⟨_, _, _, _, FinX e1.cs XX, ok, .cons rc (RAll.mono l2 _ _ r), h, fun d cs' W3 H3 v ⟨hd, p⟩ l3 ok3 r3 => ⟨by subst hd; exact r3.non_inv, ?_⟩, fun xn cs' W3 H3 dd px pd l3 ok3 => ?_⟩
  · rcases p with p | ⟨cs1, C', ns, xs, rfl, hl, hx, hc, p⟩
    · exact k _ _ _ _ _ p ((l.tr l2).tr l3) ⟨ok3, S1.sl.mono (l2.tr l3)⟩ (R.mono l3 _ _ rc)
    · have l13 := l2.tr l3
      have tk : (cs1 ++ [Cel.ins C' ns xs]).take e1.cs.length = cs1 := by rw [← hl]; exact List.take_left
      obtain ⟨ok4, l4⟩ := S1.ok.trim ok3 l13 (by rw [tk]; exact hc)
      rw [tk] at ok4
      have rc3 := R.mono l3 _ _ rc
      cases rc3 with
      | cell hm =>
        have hcl : (cs1 ++ [Cel.ins C' ns xs])[e1.cs.length]? = some (Cel.ins C' ns xs) := by
          rw [← hl, List.getElem?_append_right (Nat.le_refl _)]; simp
        obtain ⟨dx', gs, g1, g2, g3⟩ := ok3.cl _ _ _ hm hcl
        have g4 : RAll X.K ⟨W3.F, W3.m.take e1.cs.length, W3.h⟩ (gs.map (·.2)) xs := RAll.low _ _ g3 hx
        have hF : W3.F x = none := (ok3.fr _ _ _ hm hcl).resolve_left fun z => nomatch z
        obtain ⟨ok5, l5⟩ := ok4.addF g1 hF (ok3.old_out hm) (fun q hq e => (ok3.hd q hq).2.2 (e ▸ List.mem_of_getElem? hm))
        subst g2
        exact k _ _ _ _ _ p (l.tr (l4.tr l5)) ⟨ok5, S1.sl.mono (l4.tr l5)⟩ (.ins upd_same (RAll.mono l5 _ _ g4))
  · have l13 := l2.tr l3
    rcases px with px | ⟨hc, px⟩
    · exact ⟨xn, W3, cs', rfl, pd, B.up bl (l.tr l13), ok3, px⟩
    · obtain ⟨ok4, l4⟩ := S1.ok.trim ok3 l13 hc
      exact ⟨xn, ⟨W3.F, W3.m.take e1.cs.length, W3.h⟩, _, rfl, pd, B.up bl (l.tr l4), ok4, px⟩
/-- the callee at any nearness -/
theorem run_inX {pins : List (Addr × Obj)} {σ : L2.St} {H : Hp} {s : Shared} {A : Around} {fd : FuncData} {sp : Sp} {E : XK} {Q : VK} {us : List Value} {vs : List V} (F : FnOk X.prog X.w X.K X.mg X.base (L2.CX X.prog X.w) k fn fd ps sp) (hb : Binds X.K fd ps []) (hr : Room k A)
    (e0 : Env0 X.prog X.w X.K X.mg X.base A X.stack s H) (hx : Passes (L2.CX X.prog X.w) X E) (I : Inv X pins σ H s) (r : Vals vs us) (h : sp vs H Q E) : wpAny (model X.prog X.w) A (call (.ref fn) us) (EP X pins σ Q) X.xe s := by
  have hl : (us ++ []).length = ps.length := by rw [List.append_nil, ← r.length]; exact F.len _ _ _ _ h
  have hbt := hb s us I.kIn hl
  rw [List.append_nil] at hbt
  refine wpAny_call (codeAny_mono (F.run A X.stack s H ⟨us, []⟩ us vs Q E hr e0 hbt r h) fun r s' hq => ?_)
  cases r with
  | error e => exact hx _ _ _ _ _ _ I hq
  | ok fl =>
    cases fl with
    | ret u => exact I.after hq
    | next => exact False.elim hq
    | brk => exact False.elim hq
    | cont => exact False.elim hq
def rTwoX (K : PySem.W.Frag) (B : Bs) (XX : XN → List Cel → Prop) (C C2 : Addr) (sp : SpX) : R2 := fun x y H Q => ∃ a dx gs b dy gt, x = .ref a ∧ H a = some (.ins C dx gs) ∧ y = .ref b ∧ H b = some (.ins C2 dy gt) ∧ spDX K sp [.ref a, .ref b] H Q (wE K B XX)
def qTwoX (C C2 : Addr) (XX : XN → List Cel → Prop) (sp : SpX) : D → D → DE := fun d y e P => (∃ ns xs, insD e.cs d = some (C, ns, xs)) ∧ (∃ ns xs, insD e.cs y = some (C2, ns, xs)) ∧ sp [d, y] e.cs (fun r cs' => P r { e with cs := cs' }) XX
theorem op_binX {C : Addr} {op : Operator} (G : GoodX X.prog X.w X.K X.mg X.base k fn ps sp) (tk : XT X B XX) (hr : Room k X.A) (sm : Sm X.K C (PySem.dunder op.info.2) fn) (hc : PySem.W.selfFirst X.K C = true) : OpR X (binaryOp op) (rTwoX X.K B XX C C sp) := by
  rintro pins s σ H x y v u Q I rx ry ⟨a, dx, gs, b, dy, gt, rfl, ha, rfl, hb, h⟩
  obtain ⟨fd, F, bi, kp⟩ := G
  cases (show v = Value.ref a from rx)
  cases (show u = Value.ref b from ry)
  obtain ⟨od, J⟩ := Inv.inst I ha
  obtain ⟨od2, J2⟩ := Inv.inst I hb
  obtain ⟨m, hF⟩ := I.fr
  refine PySem.W.binop_K hF I.ok.mod.kin J J2.type hc sm.at_ sm.fn (wpAny_mono (run_inX (us := [.ref a, .ref b]) (vs := [V.ref a, V.ref b]) F bi hr I.env0 tk.passes I (.cons rfl (.cons rfl .nil)) h) (fun v s' z => ?_) fun _ _ z => z)
  obtain ⟨v', H', I', rv, q⟩ := z
  exact RelV.cmp rv (P := EP X pins σ Q) ⟨v', H', I', rv, q⟩
/-- such an operation: the world is known all along -/
def OpDX (K : PySem.W.Frag) (B : Bs) (r : R2) (q : D → D → DE) : Prop := ∀ (W : Wd) (H : Hp) (σ : L2.St) (e : En) (x y : V) (d1 d2 : D) (P : D → En → Prop) (Q : VK), B.p W → Sd K W H σ e → R K W x d1 → R K W y d2 → q d1 d2 e P →
  (∀ d e' W' H' v, P d e' → W.le W' → Sd K W' H' σ e' → R K W' v d → Q v H') → r x y H Q
theorem od_twoX {K : PySem.W.Frag} {C C2 : Addr} : OpDX K B (rTwoX K B XX C C2 sp) (qTwoX C C2 XX sp) := fun W H σ e x y d1 d2 P Q bl S r1 r2 ⟨⟨n1, x1, i1⟩, ⟨n2, x2, i2⟩, t⟩ k => by
  obtain ⟨a, dx, gs, rfl, h1, h2, h3⟩ := S.ok.ins r1 i1
  obtain ⟨b, dy, gt, rfl, h1', h2', h3'⟩ := S.ok.ins r2 i2
  exact ⟨a, dx, gs, b, dy, gt, rfl, h1, rfl, h1', W, e.cs, [d1, d2], _, XX, S.ok, .cons r1 (.cons r2 .nil), t, fun d cs' W' H' v p l ok r' => k _ _ _ _ _ p l ⟨ok, S.sl.mono l⟩ r', fun x cs' W' H' d px pd l ok => ⟨x, W', cs', rfl, pd, B.up bl l, ok, px⟩⟩
theorem de_binX {op : Operator} {r : R2} {q : D → D → DE} (ho : OpR X (binaryOp op) r) (hq : OpDX X.K B r q) (ha : PE X a (lE X.K B ta')) (hb : PE X b (lE X.K B tb')) : PE X (.BinOp a op b pos) (lE X.K B (eBin q ta' tb')) :=
  PE.imp (pe_op ho ha hb) fun σ H Q ⟨W, e, P, bl, S, t, k⟩ => ⟨W, e, _, bl, S, t, fun x e1 W1 H1 v1 t1 l1 S1 r1 => ⟨W1, e1, _, (B.up bl l1), S1, t1, fun y e2 W2 H2 v2 t2 l2 S2 r2 =>
    hq W2 H2 σ e2 v1 v2 x y P Q (B.up bl (l1.tr l2)) S2 (R.mono l2 _ _ r1) r2 t2 fun d e3 W3 H3 v3 p l3 S3 r3 => k d e3 W3 H3 v3 p ((l1.tr l2).tr l3) S3 r3⟩⟩
def rSetX (K : PySem.W.Frag) (B : Bs) (XX : XN → List Cel → Prop) (C : Addr) (sp : SpX) : TSet := fun x i v H Q => ∃ a dx gs, x = .ref a ∧ H a = some (.ins C dx gs) ∧ spDX K sp [.ref a, i, v] H (fun _ H' => Q H') (wE K B XX)
theorem set_ownX (G : GoodX X.prog X.w X.K X.mg X.base k fn ps sp) (tk : XT X B XX) (hr : Room k X.A) (sm : Sm X.K C "__setitem__" fn) (hq : PySem.W.noSeq X.K C = true) : PSet X (rSetX X.K B XX C sp) := by
  rintro pins s σ H x i v ov iv u Q I rx ri rv ⟨a, dx, gs, rfl, ha, h⟩
  obtain ⟨fd, F, bi, kp⟩ := G
  cases (show ov = Value.ref a from rx)
  obtain ⟨od, J⟩ := Inv.inst I ha
  obtain ⟨m, hF⟩ := I.fr
  have KX := I.kIn
  unfold setItem sequenceKey callSpecial?
  refine wpAny_holding (wpAny_bind (wpAny_bind (J.type.here ?_)))
  refine wpAny_bind ((PySem.W.anyM_none KX hq).here ?_)
  rw [if_pos (show (!false) = true from rfl)]
  refine wpAny_pure (wpAny_bind ?_)
  refine wpAny_mono (PySem.W.special_fn (Q := fun r s' => r ≠ none ∧ ∃ H', Inv X pins σ H' s' ∧ Q H') KX J sm.at_ (beq_iff_eq.mp sm.fn) (wpAny_mono (run_inX (us := [.ref a, iv, u]) (vs := [V.ref a, i, v]) F bi hr I.env0 tk.passes I (.cons rfl (.cons ri (.cons rv .nil))) h) (fun v s' z => ?_) fun _ _ z => z)) (fun r s' z => ?_) fun _ _ z => z
  · obtain ⟨v', H', I', rv, q⟩ := z
    exact ⟨(fun z => nomatch z), H', I', q⟩
  · obtain ⟨h1, H', I', q⟩ := z
    cases r with
    | none => exact absurd rfl h1
    | some _ => exact wpAny_pure ⟨H', I', q⟩
def sSetX (C : Addr) (XX : XN → List Cel → Prop) (sp : SpX) (tv to ti : DE) : DS := fun P e => tv e fun v e1 => to e1 fun o e2 => ti e2 fun i e3 => (∃ ns xs, insD e3.cs o = some (C, ns, xs)) ∧ sp [o, i, v] e3.cs (fun _ cs' => P.nx { e3 with cs := cs' }) XX
theorem ds_setX (G : GoodX X.prog X.w X.K X.mg X.base k fn ps sp) (tk : XT X B XX) (hr : Room k X.A) (sm : Sm X.K C "__setitem__" fn) (hq : PySem.W.noSeq X.K C = true) (hv : PE X ex (lE X.K B tv)) (ho : PE X o (lE X.K B to)) (hi : PE X ix (lE X.K B ti))
    (ha : ∀ v, assign (.Subscript o ix p2) X.env v = (do
      let ov ← holding [v] (eval o X.env)
      let iv ← holding [v, ov] (eval ix X.env)
      standAt p2
      holding [v, ov, iv] (setItem ov iv v)
      release [v, ov, iv] []) := by intro _; rfl)
    (hs : swapsWithSole [.Subscript o ix p2] ex pos.line X.env = pure false := by rfl) (hw : swappedStores [.Subscript o ix p2] ex X.env = pure none := by rfl)
    (h1 : (assignEach [.Subscript o ix p2] X.env).map (·.2) = [assign (.Subscript o ix p2) X.env] := by rfl) : PS X (.Assign [.Subscript o ix p2] ex pos) (lS X.K B (sSetX C XX sp tv to ti)) := PS.imp (ps_asg hv (pg_sub ho hi (set_ownX G tk hr sm hq) ha) hs hw h1) fun E σ H h => by
  obtain ⟨W, e, P, bl, S, h, c⟩ := lS_un h
  refine ⟨W, e, _, bl, S, h, fun d e1 W1 H1 v t1 l1 S1 r1 => ⟨W1, e1, _, B.up bl l1, S1, t1, fun ob e2 W2 H2 w t2 l2 S2 r2 => ⟨W2, e2, _, B.up bl (l1.tr l2), S2, t2, fun ix e3 W3 H3 x t3 l3 S3 r3 => ?_⟩⟩⟩
  obtain ⟨⟨ns, xs, hi⟩, t3⟩ := t3
  have r23 := R.mono l3 _ _ r2
  have b3 := B.up bl ((l1.tr l2).tr l3)
  obtain ⟨a, dx, gs, rfl, h1', h2', h3'⟩ := S3.ok.ins r23 hi
  exact ⟨a, dx, gs, rfl, h1', W3, e3.cs, [ob, ix, d], _, XX, S3.ok, .cons r23 (.cons r3 (.cons (R.mono (l2.tr l3) _ _ r1) .nil)), t3, fun d' cs' W' H' v' p l ok r' => c.nx _ _ _ _ p (((l1.tr l2).tr l3).tr l) ⟨ok, S3.sl.mono l⟩,
    fun x cs' W' H' d px pd l ok => ⟨x, W', cs', rfl, pd, B.up b3 l, ok, px⟩⟩
end

/-! ### a def that may raise -/
abbrev cxX (P : Program) (w : World) (K : PySem.W.Frag) (mg : Str → Option Value) (base : Heap) (N : List Str) (qual : Str) (scope : Scope) (f : Addr) (cd : Value) (A : Around) (outer : List Env) (s : Shared) (H : Hp) (E : XK) : Cx := cxOf (L2.CX P w) P w K mg base N qual scope f cd A outer s H E
theorem fn_dX {P : Program} {w : World} {K : PySem.W.Frag} {mg : Str → Option Value} {base : Heap} {x qual : Str} {params : Arguments} {body : List Stmt} {scope : Scope} {dvs : List V} {kws : List (Str × V)} {f : Addr} {fd : FuncData} {N ps : List Str} {k : Nat} {sp : SpX} {t : (XN → List Cel → Prop) → DS}
    (F : FunD K x qual params body scope dvs kws f fd) (S : FnScope N ps scope) (len : ∀ ds cs Q QX, sp ds cs Q QX → ds.length = ps.length)
    (der : ∀ (cdv : Value) (A : Around) (outer : List Env) (s : Shared) (H : Hp) (E : XK) (B : Bs) (XX : XN → List Cel → Prop), Room k (A.deeper (envOfC qual scope s.heap.objs.size f cdv)) → XT (cxX P w K mg base N qual scope f cdv A outer s H E) B XX →
      PassesOwn (model P w) (A.deeper (envOfC qual scope s.heap.objs.size f cdv)) (envOfC qual scope s.heap.objs.size f cdv) (cxX P w K mg base N qual scope f cdv A outer s H E).xe → PSs (cxX P w K mg base N qual scope f cdv A outer s H E) body (lS K B (t XX)))
    (vc : ∀ ds cs Q QX, (∀ d ∈ ds, loD cs.length d = true) → (∀ c ∈ cs, c.loD cs.length = true) → sp ds cs Q QX → t (FinX cs QX) (Po.fn cs Q) ⟨startD N ds, cs⟩) : FnOk P w K mg base (L2.CX P w) (k + 1) f fd ps (spDX K sp) := by
  refine F.ok S (fun vs H Q E ⟨W, cs, ds, P', PX, ok, r, h, _⟩ => by rw [r.length]; exact len _ _ _ _ h) fun cdv A outer s H vs Q E hr ⟨W, cs, ds, P', PX, ok, r, h, kk, kx⟩ => ?_
  have tk0 : L2.Takes (cxX P w K mg base N qual scope f cdv A outer s H E) (fun cls d _ H => E cls d H) := L2.takes_of (X := cxX P w K mg base N qual scope f cdv A outer s H E) rfl rfl rfl rfl
  have tk : XT (cxX P w K mg base N qual scope f cdv A outer s H E) (Bs.of W) (FinX cs PX) := L2.Takes.imp tk0 fun cls d σ H' ⟨c, W', cs', e1, e2, bp, ok', px⟩ => by
    subst e1
    rcases px with px | ⟨hc, px⟩
    · exact kx c cs' W' H' d px e2 bp ok'
    · obtain ⟨ok4, l4⟩ := ok.trim ok' bp hc
      exact kx c _ ⟨W'.F, W'.m.take cs.length, W'.h⟩ H' d px e2 l4 ok4
  refine ⟨_, der cdv A outer s H E (Bs.of W) (FinX cs PX) hr tk (passes_of (X := cxX P w K mg base N qual scope f cdv A outer s H E) rfl), W, ⟨startD N ds, cs⟩, _, W.le_refl, ⟨ok, start_ok r⟩, vc ds cs P' PX (fun d hd => ?_) ok.cl_lo h, ?_, fin_ok ok kk, fun _ _ _ _ z => z.elim, fun _ _ _ _ z => z.elim⟩
  · obtain ⟨i, hi, e⟩ := List.mem_iff_getElem.mp hd
    obtain ⟨v, hv, rv⟩ := r.get (i := i) (d := d) (by simp [hi, e])
    rw [← ok.len]
    exact R.lo_of _ _ rv
  · exact fun e' W' H' σ' p l S' => fin_ok ok kk .non e'.cs W' H' .non p l S'.ok .non
theorem good_ofX {P : Program} {w : World} {K : PySem.W.Frag} {mg : Str → Option Value} {base : Heap} {x qual : Str} {params : Arguments} {body : List Stmt} {scope : Scope} {f : Addr} {N ps : List Str} {k : Nat} {sp : SpX} {t : (XN → List Cel → Prop) → DS}
    (F : ∃ fd, FunD K x qual params body scope [] [] f fd) (S : FnScope N ps scope) (len : ∀ ds cs Q QX, sp ds cs Q QX → ds.length = ps.length)
    (bi : ∀ (kV doc pm : Value) (an : Option Addr) (cdv ct : Value) (us : List Value), us.length = ps.length → bindArgs (PySem.W.fnOf x qual params body scope .none kV doc pm an cdv ct) ⟨us, []⟩ = pure (ps.zip us))
    (der : ∀ (cdv : Value) (A : Around) (outer : List Env) (s : Shared) (H : Hp) (E : XK) (B : Bs) (XX : XN → List Cel → Prop), Room k (A.deeper (envOfC qual scope s.heap.objs.size f cdv)) → XT (cxX P w K mg base N qual scope f cdv A outer s H E) B XX →
      PassesOwn (model P w) (A.deeper (envOfC qual scope s.heap.objs.size f cdv)) (envOfC qual scope s.heap.objs.size f cdv) (cxX P w K mg base N qual scope f cdv A outer s H E).xe → PSs (cxX P w K mg base N qual scope f cdv A outer s H E) body (lS K B (t XX)))
    (vc : ∀ ds cs Q QX, (∀ d ∈ ds, loD cs.length d = true) → (∀ c ∈ cs, c.loD cs.length = true) → sp ds cs Q QX → t (FinX cs QX) (Po.fn cs Q) ⟨startD N ds, cs⟩) : GoodX P w K mg base (k + 1) f ps sp := by
  obtain ⟨fd, F⟩ := F
  exact ⟨fd, fn_dX F S len der vc, F.bindsN bi, F.kp⟩

/-! ### try .. except C as n -/
def Po.un (P : Po) (i : Nat) : Po := { nx := fun e => P.nx { e with sl := e.sl.set i none }, rt := P.rt, bk := fun e => P.bk { e with sl := e.sl.set i none }, ct := fun e => P.ct { e with sl := e.sl.set i none } }
def sTryAs (tbl : List (Str × Bool)) (i L : Nat) (tb : (XN → List Cel → Prop) → DS) (ts : XN → Addr → DS) (XXo : XN → List Cel → Prop) : DS := fun P e => ∃ XX, tb XX P e ∧
  ∀ x cs', XX x cs' → ∃ b, (x.c, b) ∈ tbl ∧ (b = true → ∀ a, ts x a (P.un i) ⟨(List.replicate L none).set i (some (.raw (.ref a))), cs'⟩) ∧ (b = false → XXo x cs')
theorem SlO.none_ {K : PySem.W.Frag} {W : Wd} {σ : L2.St} {L : Nat} (h : σ.length = L) : SlO K W σ (List.replicate L none) := ⟨by rw [h, List.length_replicate], fun i d e => by
  rw [List.getElem?_replicate] at e
  split at e <;> cases e⟩
theorem SlO.unset {K : PySem.W.Frag} {W : Wd} {σ : L2.St} {sl : List (Option D)} {i : Nat} (h : SlO K W σ sl) : SlO K W (σ.set i none) (sl.set i none) := by
  refine ⟨by simp [h.1], fun j d e => ?_⟩
  rw [List.getElem?_set] at e
  by_cases hij : i = j
  · subst hij
    rw [if_pos rfl] at e
    split at e <;> cases e
  · rw [if_neg hij] at e
    obtain ⟨v, a, b⟩ := h.2 j d e
    exact ⟨v, by rw [List.getElem?_set_ne hij]; exact a, b⟩
theorem PSs.ofEx {X : Cx} {ss : List Stmt} {α : Type} {t : TS} {q : α → Prop} {u : α → TS} (h : ∀ x, q x → PSs X ss (u x)) (i : ∀ D σ H, t D σ H → ∃ x, q x ∧ u x D σ H) : PSs X ss t := ⟨fun pins s σ H D I w => by
  obtain ⟨x, hq, hu⟩ := i D σ H w
  exact (h x hq).run pins s σ H D I hu⟩
/-- an own exception class: isinstance, and no attribute index of its own -/
structure ExcZ (K : PySem.W.Frag) (D : Addr) : Prop where
  e : ExcC K D
  n : PySem.W.findIn K (.ref D) "index" = some none
theorem ExcZ.xf {K : PySem.W.Frag} {D : Addr} (h : ExcZ K D) : XfC K D := ⟨h.e.hg, h.e.hk, h.e.hs, h.e.hd⟩
theorem ds_tryAs {X : Cx} {B : Bs} {x n : Str} {C : Addr} {i : Nat} {body suite : List Stmt} {b₀ : Stmt} {np pos pos' : Pos} {tbl : List (Str × Bool)} {tb : (XN → List Cel → Prop) → DS} {ts : XN → Addr → DS} {XXo : XN → List Cel → Prop}
    (hs : X.stack = X.env :: X.outer) (hf : X.env.frame = some X.env.locals) (hN : X.N.Nodup) (hi : X.N[i]? = some n) (hln : X.env.kindOf n = some .local) (hm : X.mg x = some (.ref C)) (hg : Gl X x) (tko : XT X B XXo)
    (hx : ∀ p ∈ tbl, PySem.W.exmOne X.K (.ref (He.ga X.K p.1)) (.ref C) = some p.2) (hE : ∀ p ∈ tbl, ExcZ X.K (He.ga X.K p.1))
    (hb : ∀ (B : Bs) (XX : XN → List Cel → Prop) (pn : List (Addr × Obj)) (xe : Value → Shared → Prop), XT (X.tr pn xe) B XX → PassesOwn (model X.prog X.w) X.A X.env xe → PSs (X.tr pn xe) body (lS X.K B (tb XX)))
    (hsu : ∀ (B : Bs) (x : XN) (a : Addr) (oe : Obj) (d : Option Addr) (pn : List (Addr × Obj)), ExcZ X.K (He.ga X.K x.c) → Zc (.ref (He.ga X.K x.c)) d oe → (∃ vs, oe.data = .fields vs) → (∀ W, B.p W → PayOk x.p d W) → PSs (X.suite a ((a, oe) :: pn)) (b₀ :: suite) (lS X.K B (ts x a)))
    (hdb : (x == ("__debug__" : Str)) = false := by decide) :
    PS X (.Try body [.ExceptHandler (some (.Name x np)) (some n) (b₀ :: suite) pos'] [] [] pos) (lS X.K B (sTryAs tbl i X.N.length tb ts XXo)) := by
  refine PS.imp (L2.ps_try_as (x := x) (n := n) (c := .ref C) (i := i) (Wout := fun cls d _ H => wE X.K B XXo cls d H)
    (tb := fun W D σ H => ∃ p : Bs × (XN → List Cel → Prop), (∀ cls d σ H, σ.length = X.N.length → wE X.K p.1 p.2 cls d H → W cls d σ H) ∧ lS X.K p.1 (tb p.2) D σ H)
    (ts := fun a cls d D σ H => ∃ p : Bs × XN, (cls = .ref (He.ga X.K p.2.c) ∧ ExcZ X.K (He.ga X.K p.2.c) ∧ ∀ W, p.1.p W → PayOk p.2.p d W) ∧ lS X.K p.1 (ts p.2 a) D σ H)
    hs hf hN hi hln ⟨hg, hdb, .inl hm⟩ tko (fun W pn xe tk po => ?_) (fun a oe cls d pn hz hfd => ?_)) fun E σ H h => ?_
  · exact PSs.ofEx (q := fun p : Bs × (XN → List Cel → Prop) => ∀ cls d σ H, σ.length = X.N.length → wE X.K p.1 p.2 cls d H → W cls d σ H) (u := fun p => lS X.K p.1 (tb p.2)) (fun p hp => hb p.1 p.2 pn xe (XT.of (X := X.tr pn xe) tk hp) po) fun D σ H h => h
  · exact PSs.ofEx (q := fun p : Bs × XN => cls = .ref (He.ga X.K p.2.c) ∧ ExcZ X.K (He.ga X.K p.2.c) ∧ ∀ W, p.1.p W → PayOk p.2.p d W) (u := fun p => lS X.K p.1 (ts p.2 a)) (fun p ⟨h1, h2, h3⟩ => by
      subst h1
      exact hsu p.1 p.2 a oe d pn h2 hz hfd h3) fun D σ H h => h
  · obtain ⟨W, e, P, bl, S, ⟨XX, h, hc⟩, c⟩ := lS_un h
    refine ⟨(Bs.of W, XX), fun cls d σ' H' hl ⟨cc, W', cs', e1, e2, bp, ok', px⟩ => ?_, lS_mk W.le_refl S h c⟩
    subst e1
    obtain ⟨b, hbm, hy, hn⟩ := hc cc cs' px
    refine ⟨b, hx _ hbm, fun eb a na => ?_, fun eb => ⟨cc, W', cs', rfl, e2, B.up bl bp, ok', hn eb⟩⟩
    refine ⟨(Bs.of W', cc), ⟨rfl, hE _ hbm, fun W1 l1 => e2.mono l1⟩, lS_mk (P := P.un i) W'.le_refl ⟨ok', (SlO.none_ hl).set (.raw (.ref a))⟩ (hy eb a) ?_⟩
    exact ⟨fun e' W2 H2 σ2 p l S2 => c.nx _ _ _ _ p (bp.tr l) ⟨S2.ok, S2.sl.unset⟩, fun d cs W2 H2 v p l ok r => c.rt _ _ _ _ _ p (bp.tr l) ok r, fun e' W2 H2 σ2 p l S2 => c.bk _ _ _ _ p (bp.tr l) ⟨S2.ok, S2.sl.unset⟩, fun e' W2 H2 σ2 p l S2 => c.ct _ _ _ _ p (bp.tr l) ⟨S2.ok, S2.sl.unset⟩⟩
/-! ### the field of what was caught -/
def eXf (x : XN) (a : Addr) (te : DE) : DE := fun e P => te e fun d e1 => d = .raw (.ref a) ∧ ∃ i, x.p = some i ∧ P (.int i) e1
theorem de_xf {X : Cx} {B : Bs} {x : XN} {a : Addr} {oe : Obj} {d : Option Addr} {pn : List (Addr × Obj)} {ex : Expr} {te : DE} {pos : Pos} (T : ExcZ X.K (He.ga X.K x.c)) (hz : Zc (.ref (He.ga X.K x.c)) d oe) (hf : ∃ vs, oe.data = .fields vs)
    (hp : ∀ W, B.p W → PayOk x.p d W) (he : PE (X.suite a ((a, oe) :: pn)) ex (lE X.K B te)) (hb : attributeBase ex "index" X.env (eval ex X.env) = eval ex X.env := by rfl) : PE (X.suite a ((a, oe) :: pn)) (.Attribute ex "index" pos) (lE X.K B (eXf x a te)) :=
  PE.imp (pe_xf T.xf T.n hz hf he hb) fun σ H Q ⟨W, e, P, bl, S, t, k⟩ => ⟨W, e, _, bl, S, t, fun dd e1 W1 H1 v ⟨hd, i, hi, p⟩ l S1 r => by
    subst hd
    cases r
    have h := hp W1 (B.up bl l)
    rw [hi] at h
    obtain ⟨q, e1', e2⟩ := h
    exact ⟨rfl, rfl, q, xnF i, .int i, e1', S1.ok.ex _ _ e2, rfl, k _ _ _ _ _ p l S1 (.int i)⟩⟩
/-! ### raise C(i), C having its own __init__ -/
def spIx (C : Addr) : Sp := fun vs H Q _ => ∃ (a : Addr) (i : Int), vs = [.ref a, .int i] ∧ H a = some (exo a C none) ∧ ∀ dx, H dx = none → dx ≠ a → Q .non (upd (upd H dx (exd dx (xnF i))) a (exo a C (some dx)))
def GoodIx (P : Program) (w : World) (K : PySem.W.Frag) (mg : Str → Option Value) (base : Heap) (k : Nat) (f : Addr) (c : Str) : Prop :=
  ∃ fd, FnOk P w K mg base CX0 k f fd ["self", "index"] (spIx (He.ga K c)) ∧ Binds K fd ["self", "index"] [] ∧ OexC K (He.ga K c) ∧ PySem.W.findIn K (.ref (He.ga K c)) "__init__" = some (some (.ref f)) ∧ PySem.W.typeIn K (.ref f) = some (.type "function")
theorem goodIx_of {P : Program} {w : World} {K : PySem.W.Frag} {mg : Str → Option Value} {base : Heap} {x qual c : Str} {params : Arguments} {body : List Stmt} {scope : Scope} {f : Addr} {k : Nat}
    (F : ∃ fd, FunD K x qual params body scope [] [] f fd) (S : FnScope ["self", "index"] ["self", "index"] scope)
    (bi : ∀ (kV doc pm : Value) (an : Option Addr) (cdv ct : Value) (us : List Value), us.length = 2 → bindArgs (PySem.W.fnOf x qual params body scope .none kV doc pm an cdv ct) ⟨us, []⟩ = pure ((["self", "index"] : List Str).zip us))
    (der : ∀ (cdv : Value) (A : Around) (outer : List Env) (s : Shared) (H : Hp) (E : XK), PSs (cxOf CX0 P w K mg base ["self", "index"] qual scope f cdv A outer s H E) body (tOst K "index" (tVar 0) (tVar 1)))
    (T : OexC K (He.ga K c)) (hno : PySem.W.findIn K (.ref (He.ga K c)) "index" = some none) (sm : Sm K (He.ga K c) "__init__" f) : GoodIx P w K mg base (k + 1) f c := by
  obtain ⟨fd, F⟩ := F
  refine ⟨fd, F.ok S (fun vs H Q E ⟨a, i, e, _⟩ => by rw [e]; rfl) fun cdv A outer s H vs Q E hr ⟨a, i, e, h1, h2⟩ => ⟨tOst K "index" (tVar 0) (tVar 1), der cdv A outer s H E, ?_⟩, F.bindsN bi, T, sm.at_, beq_iff_eq.mp sm.fn⟩
  subst e
  exact ⟨.int i, rfl, .ref a, rfl, a, _, rfl, T, hno, .inl ⟨h1, h2⟩⟩
def sRaiseI (XX : XN → List Cel → Prop) (c : Str) (te : DE) : DS := fun _ e => te e fun d e1 => ∃ i, [d] = [D.int i] ∧ XX ⟨c, some i⟩ e1.cs
theorem ds_raiseI {X : Cx} {B : Bs} {XX : XN → List Cel → Prop} {c : Str} {ex : Expr} {te : DE} {k : Nat} {f : Addr} {p pos apos : Pos} (G : GoodIx X.prog X.w X.K X.mg X.base k f c) (hc : X.calm = true) (tk : XT X B XX) (hr : Room (k + 1) X.A) (gC : X.mg c = some (.ref (He.ga X.K c))) (hg : Gl X c)
    (he : PE X ex (lE X.K B te)) (hdb : (c == ("__debug__" : Str)) = false := by decide) (hse : starEach [ex] X.env = (false, eval ex X.env) :: starEach [] X.env := by rfl) (hpl : (backTo pos (starEach ([] : List Expr) X.env)).any (·.1) = false := by rfl) :
    PS X (.Raise (some (.Call (.Name c p) [ex] [] pos)) none apos) (lS X.K B (sRaiseI XX c te)) := by
  obtain ⟨fd, F, bi, T, iC, tI⟩ := G
  refine PS.imp (L2.ps_raise hc tk (L2.pmk_oex T iC tI F hr bi .nil pass0 hg gC (da_cons he da_nil hse) hdb hse hpl)) fun E σ H h => ?_
  obtain ⟨W, e, P, bl, S, h, _⟩ := lS_un h
  refine ⟨W, e, _, bl, S, (show aCons te aNil e (fun ds e1 => ∃ i, ds = [.int i] ∧ XX ⟨c, some i⟩ e1.cs) from ?_), fun ds e1 W1 H1 vs ⟨i, hd, px⟩ l S1 r => ?_⟩
  · exact h
  subst hd
  obtain ⟨v, rfl, r1⟩ : ∃ v, vs = [v] ∧ R X.K W1 v (.int i) := by
    cases r with
    | cons r1 r2 => cases r2; exact ⟨_, rfl, r1⟩
  cases r1
  refine ⟨by simp, fun a ha => ⟨a, i, rfl, upd_same, fun dx hdx hne => ⟨rfl, dx, xnF i, upd_same, ?_, ?_, ?_⟩⟩⟩
  · rw [upd_ne hne, upd_same]
  · rw [upd_ne hne] at hdx
    exact hdx
  · rw [upd_ne hne] at hdx
    obtain ⟨ok2, l2⟩ := S1.ok.newF (o := .xd (xnF i)) hdx
    have eh : upd (del (upd (upd (upd H1 a (exo a (He.ga X.K c) none)) dx (exd dx (xnF i))) a (exo a (He.ga X.K c) (some dx))) a) dx (.xd (xnF i)) = upd H1 dx (.xd (xnF i)) := by
      funext b
      by_cases h1 : b = dx
      · subst h1
        rw [upd_same, upd_same]
      · rw [upd_ne h1, upd_ne h1]
        by_cases h2 : b = a
        · subst h2
          rw [del_same, ha]
        · rw [del_ne h2, upd_ne h2, upd_ne h1, upd_ne h2]
    rw [eh]
    exact ⟨⟨c, some i⟩, _, e1.cs, rfl, ⟨dx, rfl, upd_same⟩, B.up bl (l.tr l2), ok2, px⟩
/-! ### what the head tells -/
theorem excc_ok {K : PySem.W.Frag} {c : Str} (h : (Fx.excc c).ok K = true) : ExcC K (He.ga K c) := by
  obtain ⟨h1, h2⟩ := He.ba h
  obtain ⟨h3, h4⟩ := He.ba h2
  obtain ⟨h5, h6⟩ := He.ba h4
  obtain ⟨h7, h8⟩ := He.ba h6
  obtain ⟨h9, h10⟩ := He.ba h8
  obtain ⟨h11, h12⟩ := He.ba h10
  obtain ⟨h13, h14⟩ := He.ba h12
  exact ⟨He.eqO_ok h3, He.eqO_ok h5, (He.exc_ok h1).2.2.1, h7, He.eqO_ok h9, He.eqO_ok h11, of_decide_eq_true h13, of_decide_eq_true h14⟩
theorem exci_ok {K : PySem.W.Frag} {c : Str} (h : (Fx.exci c).ok K = true) : ExcC K (He.ga K c) := by
  obtain ⟨h1, h2⟩ := He.ba h
  obtain ⟨h3, h4⟩ := He.ba h2
  obtain ⟨h5, h6⟩ := He.ba h4
  obtain ⟨h7, h8⟩ := He.ba h6
  obtain ⟨h9, h10⟩ := He.ba h8
  obtain ⟨h11, h12⟩ := He.ba h10
  obtain ⟨h13, h14⟩ := He.ba h12
  exact ⟨He.eqO_ok h3, He.eqO_ok h5, of_decide_eq_true h1, h7, He.eqO_ok h9, He.eqO_ok h11, of_decide_eq_true h13, of_decide_eq_true h14⟩
theorem kitb_ok {K : PySem.W.Frag} {T : String} {l : List (Str × Bool)} (h : (Fx.kitb T l).ok K = true) : ∀ p ∈ l, PySem.W.kitOne K (.ref (He.ga K p.1)) (.type T) = some p.2 := fun p m => of_decide_eq_true (List.all_eq_true.mp h p m)
theorem exm_okT {K : PySem.W.Frag} {c : Str} {l : List (Str × Bool)} (h : (Fx.exm c l).ok K = true) : ∀ p ∈ l, PySem.W.exmOne K (.ref (He.ga K p.1)) (.ref (He.ga K c)) = some p.2 := fun p m => of_decide_eq_true (List.all_eq_true.mp h p m)
theorem excL_nil {K : PySem.W.Frag} : ∀ p ∈ ([] : List (Str × Bool)), ExcZ K (He.ga K p.1) := fun _ h => nomatch h
theorem excL_cons {K : PySem.W.Frag} {c : Str} {b : Bool} {l : List (Str × Bool)} (h : ExcZ K (He.ga K c)) (t : ∀ p ∈ l, ExcZ K (He.ga K p.1)) : ∀ p ∈ (c, b) :: l, ExcZ K (He.ga K p.1) := fun p m => by
  rcases List.mem_cons.mp m with rfl | m
  · exact h
  · exact t p m
theorem XT.never {X : Cx} {B : Bs} : XT X B (fun _ _ => False) := fun _ _ ⟨_, _, _, _, _, _, _, _, _, _, _, _, _, _, _, _, _, _, _, _, _, _, _, w⟩ => w.elim
section
variable {XX : XN → List Cel → Prop} {sp : SpX} {ta : DA} {tv to ti te : DE} {e : En} {P : D → En → Prop} {Po' : Po} {C C2 : Addr} {d y tg : D} {ds : List D} {c : Str} {a : Addr} {tbl : List (Str × Bool)}
theorem v_callX (h : ta e fun ds e1 => sp ds e1.cs (fun d cs' => P d { e1 with cs := cs' }) XX) : eCallX XX sp ta e P := h
theorem v_makeX (h : ta e fun ds e1 => sp (.cell e1.cs.length :: ds) (e1.cs ++ [.ins C [] []])
  (fun d cs' => d = .non ∧ (P (.cell e1.cs.length) { e1 with cs := cs' } ∨ ∃ cs1 C' ns xs, cs' = cs1 ++ [.ins C' ns xs] ∧ cs1.length = e1.cs.length ∧ los e1.cs.length xs = true ∧ (∀ c ∈ cs1, c ∈ e1.cs ∨ c.loD e1.cs.length = true) ∧ P (.ins C' ns xs) { e1 with cs := cs1 }))
  (FinX e1.cs XX)) : eMakeX C XX sp ta e P := h
theorem v_setX (h : tv e fun v e1 => to e1 fun o e2 => ti e2 fun i e3 => (∃ ns xs, insD e3.cs o = some (C, ns, xs)) ∧ sp [o, i, v] e3.cs (fun _ cs' => Po'.nx { e3 with cs := cs' }) XX) : sSetX C XX sp tv to ti Po' e := h
theorem v_twoX (h : (∃ ns xs, insD e.cs d = some (C, ns, xs)) ∧ (∃ ns xs, insD e.cs y = some (C2, ns, xs)) ∧ sp [d, y] e.cs (fun r cs' => P r { e with cs := cs' }) XX) : qTwoX C C2 XX sp d y e P := h
theorem v_raise (h : XX ⟨c, none⟩ e.cs) : sRaise XX c Po' e := h
theorem v_raiseI (h : te e fun d e1 => ∃ i, [d] = [D.int i] ∧ XX ⟨c, some i⟩ e1.cs) : sRaiseI XX c te Po' e := h
theorem v_xf {x : XN} (h : te e fun d e1 => d = .raw (.ref a) ∧ ∃ i, x.p = some i ∧ P (.int i) e1) : eXf x a te e P := h
theorem v_tryAs {i L : Nat} {tb : (XN → List Cel → Prop) → DS} {ts : XN → Addr → DS} {XXo : XN → List Cel → Prop} (XX : XN → List Cel → Prop) (h1 : tb XX Po' e)
    (h2 : ∀ x cs', XX x cs' → ∃ b, (x.c, b) ∈ tbl ∧ (b = true → ∀ a, ts x a (Po'.un i) ⟨(List.replicate L none).set i (some (.raw (.ref a))), cs'⟩) ∧ (b = false → XXo x cs')) : sTryAs tbl i L tb ts XXo Po' e := ⟨XX, h1, h2⟩
end
theorem v_unx {P : Po} {i : Nat} {e : En} (h : P.nx { e with sl := e.sl.set i none }) : (P.un i).nx e := h
theorem v_urt {P : Po} {i : Nat} {d : D} {cs : List Cel} (h : P.rt d cs) : (P.un i).rt d cs := h
theorem encB : EqE D.bl 0 where
  ok := fun _ => rfl
  lay := fun _ => rfl
  dep := fun _ => by
    show (PyData.bool _).depth ≤ 0
    simp [PyData.depth]
  eqv := fun a b => by
    show PyData.eqv (.bool a) (.bool b) = _
    simp only [PyData.eqv]
    exact Bool.beq_eq_decide_eq a b
theorem encBL : EqE (fun xs : List Bool => D.lst (xs.map D.bl)) 1 := encB.lst
theorem atI_zero {x : D} {xs : List D} : atI (x :: xs) 0 = some x := atI_nat (j := 0) rfl
theorem atI_one {x y : D} {xs : List D} : atI (x :: y :: xs) 1 = some y := atI_nat (j := 1) rfl
/-! ### a comprehension in a comprehension -/
def relS (scope sc : Scope) : Scope := { scope with names := scope.names.map fun (n, k) => if (k == .free && sc.kind == .function && sc.names.lookup n == some .cell) then (n, .cell) else (n, k) }
theorem blkOk_in {N : List Str} {scope0 sc0 scope : Scope} {env : PySem.Env} {own : List (Str × Nat)} (he : env.scope = sc0) (h : blkC N (relS scope0 sc0) scope own = true) : BlkOk N (relabel scope0 env) scope own := by
  subst he
  exact blkOk_by h
/-! ### isinstance(x, T), x one of an own class, or a plain value -/
def qIsiO (C : Addr) (T : String) : List D → DE
  | [d, .raw (.ty T')] => fun e P => T' = T ∧ (((∃ ns xs, insD e.cs d = some (C, ns, xs)) ∧ P (.bl false) e) ∨ (tyKnown T = true ∧ ∃ a, tyN e.cs d = some a ∧ P (.bl (isTy a T)) e))
  | _ => fun _ _ => False
theorem cd_isiO {K : PySem.W.Frag} {C : Addr} {T : String} (ic : C8.InsC K C) (kt : PySem.W.kitOne K (.ref C) (.type T) = some false) : CallD K (rIsi K) (qIsiO C T) := by
  intro W H σ e vs ds P Q S r t k
  unfold qIsiO at t
  split at t
  · obtain ⟨v, v2, rfl, r1, r2⟩ := r.two
    obtain ⟨rfl, t⟩ := t
    cases r2
    rcases t with ⟨⟨ns, xs, hi⟩, p⟩ | ⟨hT, a, ea, p⟩
    · obtain ⟨a, dx, gs, rfl, h1, h2, h3⟩ := S.ok.ins r1 hi
      exact ⟨.ref a, .ty _, .ref C, _, false, rfl, .ty _, .base (TyOf.ins h1 ic.cl ic.ha ic.hn ic.htk ic.hm), kt, k _ _ _ _ _ p W.le_refl S (.bl _)⟩
    · obtain ⟨ty, mem⟩ := S.ok.ty r1 ea
      exact ⟨v, .ty _, _, _, _, rfl, .ty _, ty, kit_ty (kit_in mem hT), k _ _ _ _ _ p W.le_refl S (.bl _)⟩
  · exact t.elim
theorem v_isiOF {C : Addr} {T : String} {d : D} {e : En} {P : D → En → Prop} (h : ∃ ns xs, insD e.cs d = some (C, ns, xs)) (p : P (.bl false) e) : qIsiO C T [d, .raw (.ty T)] e P := ⟨rfl, .inl ⟨h, p⟩⟩
theorem v_isiOT {C : Addr} {T : String} {d : D} {e : En} {P : D → En → Prop} {a : String} (hT : tyKnown T = true) (h : tyN e.cs d = some a) (p : P (.bl (isTy a T)) e) : qIsiO C T [d, .raw (.ty T)] e P := ⟨rfl, .inr ⟨hT, a, h, p⟩⟩
end DL
/-! isinstance of what was caught, with a field or without; try .. except C without a name -/
namespace DL
open PySem PySem.Spec PyProof.Rows L2
open Evl (Ex)
/-- the caught one's dict, as the heap has it -/
def HasD (d : Option Addr) (H : Hp) : Prop := d = none ∨ ∃ dd fs, d = some dd ∧ H dd = some (.xd fs)
theorem inst_of {X : Cx} {a D : Addr} {oe : Obj} {d : Option Addr} {pn pins : List (Addr × Obj)} {σ : L2.St} {H : Hp} {s : Shared} (I : Inv (X.suite a ((a, oe) :: pn)) pins σ H s) (hz : Zc (.ref D) d oe) (hf : ∃ vs, oe.data = .fields vs) (hd : HasD d H) : ∃ od, PySem.W.InstAt s.heap a oe D od := by
  obtain ⟨hget, _⟩ := I.pin (a, oe) (List.mem_append.mpr (.inl List.mem_cons_self))
  obtain ⟨vs, hv⟩ := hf
  rcases hd with rfl | ⟨dd, fs, rfl, ea⟩
  · refine ⟨none, hget, hz.1, by unfold PySem.W.notCls; rw [hv] <;> rfl, ?_⟩
    rw [hz.2]
    trivial
  · obtain ⟨mA, hns, hr⟩ := (I.hok dd _ ea : ObjOk X.prog X.w H s.heap dd (.xd fs))
    obtain ⟨od, ho, hl⟩ := lookIn_ns hns
    refine ⟨some od, hget, hz.1, by unfold PySem.W.notCls; rw [hv] <;> rfl, ?_⟩
    rw [hz.2]
    exact ho
theorem cls_some {K : PySem.W.Frag} {D : Addr} (h : PySem.W.hasDictIn K D = true) : (PySem.W.clsIn K D).isSome = true := by
  obtain ⟨cd, hc, _⟩ := PySem.W.any_some h
  rw [hc]
  rfl
def rIsEz (K : PySem.W.Frag) (D a : Addr) (d : Option Addr) : List V → Hp → VK → Prop := fun xs H Q => HasD d H ∧ rIsE K D a xs H Q
theorem call_isEz {X : Cx} {a D : Addr} {oe : Obj} {d : Option Addr} {pn : List (Addr × Obj)} (C : ExcC X.K D) (hz : Zc (.ref D) d oe) (hf : ∃ vs, oe.data = .fields vs) : CallR (X.suite a ((a, oe) :: pn)) (.builtin "isinstance") (rIsEz X.K D a d) := by
  intro pins s σ H xs us Q I r ⟨hd, h⟩
  obtain ⟨c, cv, b, rfl, hcv, e, q⟩ := h
  cases r with
  | cons rx rr =>
    cases rr with
    | cons rt rr =>
      cases rr
      cases rx
      have ec := hcv _ rt
      subst ec
      obtain ⟨od, J⟩ := inst_of I hz hf hd
      exact PySem.W.kia_one (PySem.W.kitx_exc (cls_some C.hd) C.hg C.hk C.hs C.ha C.hn C.ht C.hm) I.kIn J e (fun z => nomatch z) fun tk => ⟨.bl b, H, I.kept (t' := tk) fun _ _ z => z, rfl, q⟩
def rIsETz (K : PySem.W.Frag) (D a : Addr) (d : Option Addr) : List V → Hp → VK → Prop := fun xs H Q => HasD d H ∧ ∃ (tp : Addr) (vs : List V) (us : List Value) (b : Bool), xs = [.ref a, .ref tp] ∧ SqT K H tp vs ∧ Paired ClsV vs us ∧ PySem.W.kitAny K (.ref D) us = some b ∧ Q (.bl b) H
theorem call_isETz {X : Cx} {a D : Addr} {oe : Obj} {d : Option Addr} {pn : List (Addr × Obj)} (C : ExcC X.K D) (hz : Zc (.ref D) d oe) (hf : ∃ vs, oe.data = .fields vs) : CallR (X.suite a ((a, oe) :: pn)) (.builtin "isinstance") (rIsETz X.K D a d) := by
  intro pins s σ H xs us Q I r ⟨hd, h⟩
  obtain ⟨tp, vs, ws, b, rfl, hT, k, e, q⟩ := h
  obtain ⟨u1, u2, rfl, r1, r2⟩ := vals2 r
  cases (show u1 = Value.ref a from r1)
  cases (show u2 = Value.ref tp from r2)
  obtain ⟨its, rv, ⟨o, h1, h2, n, h3⟩, _⟩ := I.tuple hT
  have e3 := ClsV.all k rv
  subst e3
  obtain ⟨oc, od0, dt, sl⟩ := o
  simp only at h2 h3
  subst h2 h3
  obtain ⟨od, J⟩ := inst_of I hz hf hd
  exact PySem.W.kia_tup (PySem.W.kitx_exc (cls_some C.hd) C.hg C.hk C.hs C.ha C.hn C.ht C.hm) I.kIn J h1 e (fun z => nomatch z) fun tk => ⟨.bl b, H, I.kept (t' := tk) fun _ _ z => z, rfl, q⟩
/-- the answer for the class c stands in the table -/
def qIsE (x : XN) (a : Addr) (tbl : List (Str × Bool)) (tg : D) : List D → DE := fun ds e P => ∃ d, ds = [.raw (.ref a), d] ∧ d = tg ∧ ∃ b, (x.c, b) ∈ tbl ∧ P (.bl b) e
/-- the same, where the caught one's dict is known -/
def CallDB (K : PySem.W.Frag) (B : Bs) (r : List V → Hp → VK → Prop) (q : List D → DE) : Prop := ∀ (W : Wd) (H : Hp) (σ : L2.St) (e : En) (vs : List V) (ds : List D) (P : D → En → Prop) (Q : VK), B.p W → Sd K W H σ e → RAll K W vs ds → q ds e P →
  (∀ d e' W' H' v, P d e' → W.le W' → Sd K W' H' σ e' → R K W' v d → Q v H') → r vs H Q
section
variable {K : PySem.W.Frag} {X : Cx} {B : Bs} {x : Str} {p pos : Pos} {ex : Expr} {es : List Expr} {ta : DA} {id T : String} {r : List V → Hp → VK → Prop} {q : List D → DE}
theorem de_callBB (hc : CallR X (.builtin id) r) (hq : CallDB X.K B r q) (hg : Gl X x) (hm : X.mg x = none) (hv : bootBuiltins x = some (.builtin id)) (ha : PA X (ex :: es) (lA X.K B ta)) (hn : x ≠ "__name__" := by decide) (hdb : (x == ("__debug__" : Str)) = false := by decide)
    (he : starEach (ex :: es) X.env = (false, eval ex X.env) :: starEach es X.env := by rfl) (hpl : (backTo pos (starEach es X.env)).any (·.1) = false := by rfl) : PE X (.Call (.Name x p) (ex :: es) [] pos) (lE X.K B (eCB q ta)) :=
  PE.imp (pe_callB hc hg hm hv ha hn hdb he hpl) fun σ H Q ⟨W, e, P, bl, S, t, k⟩ =>
    ⟨W, e, _, bl, S, t, fun ds e1 W1 H1 vs t1 l1 S1 r1 => hq W1 H1 σ e1 vs ds P Q (B.up bl l1) S1 r1 t1 fun d e2 W2 H2 v p l2 S2 r2 => k d e2 W2 H2 v p (l1.tr l2) S2 r2⟩
end
theorem hasD_of {x : XN} {d : Option Addr} {W : Wd} {H : Hp} (hp : PayOk x.p d W) (ex : Ex W.F H) : HasD d H := by
  unfold PayOk at hp
  split at hp
  · exact .inl hp
  · obtain ⟨dd, e1, e2⟩ := hp
    exact .inr ⟨dd, _, e1, ex _ _ e2⟩
section
variable {K : PySem.W.Frag} {B : Bs} {x : XN} {a : Addr} {d : Option Addr} {tbl : List (Str × Bool)}
theorem cd_isE {C : Addr} (hp : ∀ W, B.p W → PayOk x.p d W) (h : ∀ p ∈ tbl, PySem.W.kitOne K (.ref (He.ga K p.1)) (.ref C) = some p.2) : CallDB K B (rIsEz K (He.ga K x.c) a d) (qIsE x a tbl (.raw (.ref C))) := by
  rintro W H σ e vs ds P Q bw S r ⟨d, rfl, rfl, b, hb, p⟩ k
  obtain ⟨v, v2, rfl, r1, r2⟩ := r.two
  cases r1
  cases r2
  exact ⟨hasD_of (hp W bw) S.ok.ex, .ref C, .ref C, b, rfl, fun u hu => hu, h _ hb, k _ _ _ _ _ p W.le_refl S (.bl _)⟩
theorem cd_isEB {T : String} (hp : ∀ W, B.p W → PayOk x.p d W) (h : ∀ p ∈ tbl, PySem.W.kitOne K (.ref (He.ga K p.1)) (.type T) = some p.2) : CallDB K B (rIsEz K (He.ga K x.c) a d) (qIsE x a tbl (.raw (.ty T))) := by
  rintro W H σ e vs ds P Q bw S r ⟨d, rfl, rfl, b, hb, p⟩ k
  obtain ⟨v, v2, rfl, r1, r2⟩ := r.two
  cases r1
  cases r2
  exact ⟨hasD_of (hp W bw) S.ok.ex, .ty T, .type T, b, rfl, fun u hu => hu, h _ hb, k _ _ _ _ _ p W.le_refl S (.bl _)⟩
theorem clsv_map {W : Wd} : ∀ {Cs : List Addr} {vs : List V}, RAll K W vs (Cs.map fun C => D.raw (.ref C)) → Paired ClsV vs (Cs.map fun C => Value.ref C)
  | [], _, .nil => .nil
  | C :: Cs, _, .cons r t => by
    cases r
    exact .cons (.own C) (clsv_map t)
theorem cd_isET {Cs : List Addr} (hp : ∀ W, B.p W → PayOk x.p d W) (h : ∀ p ∈ tbl, PySem.W.kitAny K (.ref (He.ga K p.1)) (Cs.map fun C => .ref C) = some p.2) : CallDB K B (rIsETz K (He.ga K x.c) a d) (qIsE x a tbl (.tup (Cs.map fun C => .raw (.ref C)))) := by
  rintro W H σ e vs ds P Q bw S r ⟨d, rfl, rfl, b, hb, p⟩ k
  obtain ⟨v, v2, rfl, r1, r2⟩ := r.two
  cases r1
  cases r2 with
  | tup h1 h2 => exact ⟨hasD_of (hp W bw) S.ok.ex, _, _, _, b, rfl, Evl.ex_t S.ok.ex h1, clsv_map h2, h _ hb, k _ _ _ _ _ p W.le_refl S (.bl _)⟩
end
theorem kito_ok {K : PySem.W.Frag} {c : Str} {l : List (Str × Bool)} (h : (Fx.kito c l).ok K = true) : ∀ p ∈ l, PySem.W.kitOne K (.ref (He.ga K p.1)) (.ref (He.ga K c)) = some p.2 := fun p m => of_decide_eq_true (List.all_eq_true.mp h p m)
theorem kita_ok {K : PySem.W.Frag} {cs : List Str} {l : List (Str × Bool)} (h : (Fx.kita cs l).ok K = true) : ∀ p ∈ l, PySem.W.kitAny K (.ref (He.ga K p.1)) (cs.map fun x => .ref (He.ga K x)) = some p.2 := fun p m => of_decide_eq_true (List.all_eq_true.mp h p m)
theorem bt_ValueError : bootBuiltins "ValueError" = some (.type "ValueError") := by decide +kernel
theorem v_isEX {x : XN} {a : Addr} {tbl : List (Str × Bool)} {tg : D} {ds : List D} {e : En} {P : D → En → Prop} (h : ∃ d, ds = [.raw (.ref a), d] ∧ d = tg ∧ ∃ b, (x.c, b) ∈ tbl ∧ P (.bl b) e) : qIsE x a tbl tg ds e P := h
/-! ### without a name -/
def sTryN (tbl : List (Str × Bool)) (L : Nat) (tb : (XN → List Cel → Prop) → DS) (ts : DS) (XXo : XN → List Cel → Prop) : DS := fun P e => ∃ XX, tb XX P e ∧
  ∀ x cs', XX x cs' → ∃ b, (x.c, b) ∈ tbl ∧ (b = true → ts P ⟨List.replicate L none, cs'⟩) ∧ (b = false → XXo x cs')
theorem ds_tryN {X : Cx} {B : Bs} {x : Str} {C : Addr} {body suite : List Stmt} {b₀ : Stmt} {np pos pos' : Pos} {tbl : List (Str × Bool)} {tb : (XN → List Cel → Prop) → DS} {ts : DS} {XXo : XN → List Cel → Prop}
    (hs : X.stack = X.env :: X.outer) (hf : X.env.frame = some X.env.locals) (hm : X.mg x = some (.ref C)) (hg : Gl X x) (tko : XT X B XXo)
    (hx : ∀ p ∈ tbl, PySem.W.exmOne X.K (.ref (He.ga X.K p.1)) (.ref C) = some p.2)
    (hb : ∀ (B : Bs) (XX : XN → List Cel → Prop) (pn : List (Addr × Obj)) (xe : Value → Shared → Prop), XT (X.tr pn xe) B XX → PassesOwn (model X.prog X.w) X.A X.env xe → PSs (X.tr pn xe) body (lS X.K B (tb XX)))
    (hsu : ∀ (B : Bs) (a : Addr) (oe : Obj) (pn : List (Addr × Obj)), PSs (X.suite a ((a, oe) :: pn)) (b₀ :: suite) (lS X.K B ts))
    (hdb : (x == ("__debug__" : Str)) = false := by decide) :
    PS X (.Try body [.ExceptHandler (some (.Name x np)) none (b₀ :: suite) pos'] [] [] pos) (lS X.K B (sTryN tbl X.N.length tb ts XXo)) := by
  refine PS.imp (L2.ps_try_many (Wout := fun cls d _ H => wE X.K B XXo cls d H)
    (tb := fun W D σ H => ∃ p : Bs × (XN → List Cel → Prop), (∀ cls d σ H, σ.length = X.N.length → wE X.K p.1 p.2 cls d H → W cls d σ H) ∧ lS X.K p.1 (tb p.2) D σ H)
    (l := [(.ref C, fun a cls d D σ H => ∃ p : Bs, lS X.K p ts D σ H)])
    hs hf tko (fun W pn xe tk po => ?_) (.cons ⟨hg, hdb, .inl hm⟩ (fun a oe cls d pn hz hfd => ?_) .nil)) fun E σ H h => ?_
  · exact PSs.ofEx (q := fun p : Bs × (XN → List Cel → Prop) => ∀ cls d σ H, σ.length = X.N.length → wE X.K p.1 p.2 cls d H → W cls d σ H) (u := fun p => lS X.K p.1 (tb p.2)) (fun p hp => hb p.1 p.2 pn xe (XT.of (X := X.tr pn xe) tk hp) po) fun D σ H h => h
  · exact PSs.ofEx (q := fun _ : Bs => True) (u := fun p => lS X.K p ts) (fun p _ => hsu p a oe pn) fun D σ H ⟨p, h⟩ => ⟨p, trivial, h⟩
  · obtain ⟨W, e, P, bl, S, ⟨XX, h, hc⟩, c⟩ := lS_un h
    refine ⟨(Bs.of W, XX), fun cls d σ' H' hl ⟨cc, W', cs', e1, e2, bp, ok', px⟩ => ?_, lS_mk W.le_refl S h c⟩
    subst e1
    obtain ⟨b, hbm, hy, hn⟩ := hc cc cs' px
    refine ⟨b, hx _ hbm, fun eb a na => ?_, fun eb => ⟨cc, W', cs', rfl, e2, B.up bl bp, ok', hn eb⟩⟩
    refine ⟨Bs.any, lS_mk (P := P) trivial ⟨ok', SlO.none_ hl⟩ (hy eb) ?_⟩
    exact ⟨fun e' W2 H2 σ2 p l S2 => c.nx _ _ _ _ p (bp.tr l) S2, fun d cs W2 H2 v p l ok r => c.rt _ _ _ _ _ p (bp.tr l) ok r, fun e' W2 H2 σ2 p l S2 => c.bk _ _ _ _ p (bp.tr l) S2, fun e' W2 H2 σ2 p l S2 => c.ct _ _ _ _ p (bp.tr l) S2⟩
theorem v_tryN {e : En} {Po' : Po} {tbl : List (Str × Bool)} {L : Nat} {tb : (XN → List Cel → Prop) → DS} {ts : DS} {XXo : XN → List Cel → Prop} (XX : XN → List Cel → Prop) (h1 : tb XX Po' e)
    (h2 : ∀ x cs', XX x cs' → ∃ b, (x.c, b) ∈ tbl ∧ (b = true → ts Po' ⟨List.replicate L none, cs'⟩) ∧ (b = false → XXo x cs')) : sTryN tbl L tb ts XXo Po' e := ⟨XX, h1, h2⟩
theorem set_self {cs : List Cel} {n : Nat} {c : Cel} (h : cs[n]? = some c) : cs.set n c = cs := by
  apply List.ext_getElem?
  intro k
  rw [List.getElem?_set]
  by_cases hk : n = k
  · subst hk
    rw [if_pos rfl, if_pos (List.getElem?_eq_some_iff.mp h).1, h]
  · rw [if_neg hk]
end DL
/-! a caught exception that is kept behind its suite: try .. except C as e: x = e, and isinstance(x, T) later -/
namespace DL
open PySem PySem.Spec PyProof.Rows L2
open Evl (Ex)
section
variable {X : Cx} {pins : List (Addr × Obj)} {σ : L2.St} {H : Hp} {s : Shared}
theorem inv_keep {a C : Addr} {d : Option Addr} {oe : Obj} (I : Inv X pins σ H s) (na : H a = none) (e : s.heap.get? a = some oe) (hz : Zc (.ref C) d oe) (hf : ∃ vs, oe.data = .fields vs)
    (n0 : X.s_0.heap.get? a = none) (nL : a ≠ X.env.locals) (np : ∀ p ∈ X.pn ++ pins, p.1 ≠ a) : Inv X pins σ (upd H a (exV a C d)) s where
  ok := I.ok
  os := I.os
  bare := I.bare
  base := by
    have ne : ∀ {b : Addr} {u : HO}, H b = some u → b ≠ a := fun {b u} q z => by rw [z, na] at q; cases q
    refine ⟨I.base.keep, I.base.slot, fun b o q n x => ?_, I.base.there, fun b xs q => ?_, fun b o u q => ?_, fun b ps q => ?_⟩
    · have hb : b ≠ a := fun z => by rw [z, n0] at q; cases q
      rw [upd_ne hb]
      exact I.base.free b o q n x
    · have z := I.base.tups b xs q
      rw [upd_ne (ne z)]
      exact z
    · have z := I.base.frzs b o u q
      rw [upd_ne (ne z)]
      exact z
    · obtain ⟨more, z⟩ := I.base.tbls b ps q
      exact ⟨more, by rw [upd_ne (ne z)]; exact z⟩
  loc := I.loc
  cell := I.cell
  free := by rw [upd_ne (Ne.symm nL)]; exact I.free
  freeC := fun x c hc => by
    have hca : c ≠ a := fun z => by
      obtain ⟨v, o, q1, q2⟩ := I.cell x c hc
      obtain ⟨vs, q3⟩ := hf
      rw [z, e] at q1
      cases q1
      rw [q3] at q2
      cases q2
    rw [upd_ne hca]
    exact I.freeC x c hc
  pin := fun p hp => by
    obtain ⟨p1, p2, p3⟩ := I.pin p hp
    exact ⟨p1, by rw [upd_ne (np p hp)]; exact p2, p3⟩
  hok := I.hok.laidN (fun _ _ q => q) na ⟨⟨oe, e, hz.1, hz.2, hf⟩, ⟨oe, e⟩, fun h1 h2 ⟨o, q, r⟩ k => ⟨o, k o q, r⟩⟩
  len := I.len
end
/-- the ends behind a suite whose exception is kept -/
def keepE (i : Nat) (a C : Addr) (d : Option Addr) (D : Ends) : Ends where
  nx := fun σ H => H a = none → D.nx (σ.set i none) (upd H a (exV a C d))
  rt := fun v H => H a = none → D.rt v (upd H a (exV a C d))
  bk := fun σ H => H a = none → D.bk (σ.set i none) (upd H a (exV a C d))
  ct := fun σ H => H a = none → D.ct (σ.set i none) (upd H a (exV a C d))
def wKe (K : PySem.W.Frag) (c : Value) (i : Nat) (ts : Addr → Addr → Option Addr → TS) (Wout : WX) (D : Ends) : WX := fun cls d σ H =>
  ∃ C : Addr, cls = .ref C ∧ ∃ b, PySem.W.exmOne K cls c = some b ∧ (b = true → ∀ a, H a = none → ts a C d (keepE i a C d D) (σ.set i (some (.ref a))) H) ∧ (b = false → Wout cls d σ H)
theorem ps_try_keep {X : Cx} {x n : Str} {c : Value} {i : Nat} {body suite : List Stmt} {b₀ : Stmt} {np pos pos' : Pos} {tb : WX → TS} {ts : Addr → Addr → Option Addr → TS} {Wout : WX}
    (hx0 : X.ex = []) (hs : X.stack = X.env :: X.outer) (hf : X.env.frame = some X.env.locals) (nd : X.N.Nodup) (hi : X.N[i]? = some n) (kl : X.env.kindOf n = some .local) (nm : Names X x c) (tko : Takes X Wout)
    (tB : ∀ (W : WX) (pn : List (Addr × Obj)) (xe : Value → Shared → Prop), Takes (X.tr pn xe) W → PassesOwn (model X.prog X.w) X.A X.env xe → PSs (X.tr pn xe) body (tb W))
    (tS : ∀ (a : Addr) (oe : Obj) (C : Addr) (d : Option Addr) (pn : List (Addr × Obj)), Zc (.ref C) d oe → (∃ vs, oe.data = .fields vs) → PSs (X.suite a ((a, oe) :: pn)) (b₀ :: suite) (ts a C d)) :
    PS X (.Try body [.ExceptHandler (some (.Name x np)) (some n) (b₀ :: suite) pos'] [] [] pos) (fun D σ H => tb (wKe X.K c i ts Wout D) D σ H) := by
  refine ⟨fun pins s σ H D I start => ?_⟩
  have XO := I.ok
  have frm : X.A.frames = some (X.env :: X.outer) := (XO.frames).trans (by rw [hs])
  let hd : List ExceptHandler := [.ExceptHandler (some (.Name x np)) (some n) (b₀ :: suite) pos']
  refine wpAny_Try_except (wpAny_mono ((tB (wKe X.K c i ts Wout D) (X.pn ++ pins) (fun e t1 => wpAny (model X.prog X.w) X.A (noteFrame e X.env) (fun _ t2 => wpAny (model X.prog X.w) X.A (setFlight e none) (fun _ t3 =>
    wpAny (model X.prog X.w) X.A (handleBy e X.env hd) (SP X pins D) X.xe t3) X.xe t2) X.xe t1) (fun u s' air => ?caught) PassesOwn.looking).run [] s σ H D (I.toTry _) start) (fun f t post => ?through) fun _ _ z => z)
  case caught =>
    obtain ⟨a, B, sI, pins', σ1, H1, cls, d, rfl, JJ, low, up, sky, na, osE, bareE, C, rfl, b, hb, yes, no⟩ := air
    have J := JJ.ofTry (pins := pins) XO
    have sky1 : Sky B (X.env :: X.outer) a (Zc (.ref C) d) X.env.locals s'.heap := by rw [← hs]; exact sky
    show wpAny (model X.prog X.w) X.A (noteFrame (.ref a) X.env) _ _ _
    refine Sky.land Zc.steady frm hf sky1 fun g1 land1 up1 => ?_
    have J1 : Inv X pins σ1 H1 { s' with heap := g1 } := J.landed low land1.1 (up.trans up1) osE bareE
    obtain ⟨o1, vs1, e1, z1, f1⟩ := land1.there
    have nst : a ∉ frs (X.env :: X.outer) := fun hm => by
      obtain ⟨_, o', e', nf⟩ := land1.2.2.1.mem hm
      rw [e1] at e'
      cases e'
      exact nf _ f1
    have nLoc : a ≠ X.env.locals := fun z => nst (List.mem_filterMap.mpr ⟨X.env, List.mem_cons_self, by rw [hf, z]⟩)
    have nFs : a ∉ X.fs := fun hm => by
      obtain ⟨v, hv, q⟩ := List.mem_filterMap.mp hm
      exact nst (List.mem_filterMap.mpr ⟨v, List.mem_cons_of_mem _ hv, q⟩)
    -- nothing stood there before
    have Bnone : B.get? a = none := by
      rcases sky with h | h | h
      · exact h.2.1
      · exact h.2.1
      · exact h.2.1
    have none1 : ∀ o, sI.heap.get? a = some o → False := fun o q => by
      have := low a o q (by rw [hs]; exact nst)
      rw [Bnone] at this
      cases this
    have none0 : X.s_0.heap.get? a = none := by
      cases q : X.s_0.heap.get? a with
      | none => rfl
      | some o =>
        obtain ⟨o', q'⟩ := J.base.there a o q (by rw [hx0]; exact fun z => nomatch z)
        exact (none1 o' q').elim
    have nPin : ∀ p ∈ X.pn ++ pins, p.1 ≠ a := fun p hp z => by
      have := (J.pin p hp).1
      rw [z] at this
      exact none1 _ this
    have S1 := J1.suite e1 f1 na nLoc nFs
    refine wpAny_handleBy_cons (codeAny_handlers_test ?_) (by intro q; cases q)
    have LT : PySem.W.Looks (model X.prog X.w) g1 (typeOf (.ref a)) (.ref C) := fun _ _ _ _ k q => wpAny_typeOf_ref (k _ _ e1) (by rw [z1.1]; exact q)
    have LM := PySem.W.exm_one (M := model X.prog X.w) J1.kIn LT hb
    have ask : ∀ {Q : Value → Shared → Prop} {E : Value → Shared → Prop}, Q c { s' with heap := g1 } → wpAny (model X.prog X.w) (X.A.mark (some (.ref a))) (eval (.Name x np) X.env) Q E { s' with heap := g1 } := fun {Q E} q => by
      obtain ⟨gx, db, m | ⟨m, v, nn⟩⟩ := nm
      · exact ld_glob (X := X.suite a ((a, o1) :: (X.pn ++ pins))) S1 gx m q db
      · exact ld_blt (X := X.suite a ((a, o1) :: (X.pn ++ pins))) S1 gx m v q nn db
    refine ask (LM.here ?_)
    cases b with
    | true =>
      refine codeAny_handlers_suite_as (HandSPX.lands_againZ land1 fun g2 land2 up2 => ?_)
      have J2 : Inv X pins σ1 H1 { s' with heap := g2 } := J.landed low land2.1 ((up.trans up1).trans up2) osE bareE
      obtain ⟨o2, vs2, e2, z2, f2⟩ := land2.there
      refine store_ok (X := X.suite a ((a, o2) :: (X.pn ++ pins))) (v := .ref a) (J2.suite e2 f2 na nLoc nFs) nd hi (.inl kl) rfl (fun t5 T5 => ?_) (.inr kl)
      refine wpAny_mono ((tS a o2 C d (X.pn ++ pins) z2 ⟨_, f2⟩).run [] t5 _ H1 _ T5 (yes rfl a na)) (fun f t6 post => ?_) fun _ _ z => z.elim
      have pinned : ∀ {σ6 : L2.St} {H6 : Hp}, Inv (X.suite a ((a, o2) :: (X.pn ++ pins))) [] σ6 H6 t6 → t6.heap.get? a = some o2 ∧ H6 a = none := fun T6 =>
        let z := T6.pin (a, o2) (List.mem_append_left _ List.mem_cons_self)
        ⟨z.1, z.2.1⟩
      have away : ∀ {σ6 : L2.St} {H6 : Hp} {Q : Shared → Prop}, Inv (X.suite a ((a, o2) :: (X.pn ++ pins))) [] σ6 H6 t6 → (∀ t7, Inv X pins (σ6.set i none) (upd H6 a (exV a C d)) t7 → Q t7) →
          wpAny (model X.prog X.w) X.A (do bindName X.env n .none; unbindBehindTheSuite X.env n pos') (fun _ t7 => Q t7) X.xe t6 := fun {σ6 H6 Q} T6 hq =>
        gone_ok (inv_keep (T6.unsuite XO) (pinned T6).2 (pinned T6).1 z2 ⟨_, f2⟩ none0 nLoc nPin) nd hi kl hq
      match f, post with
      | .next, ⟨σ6, H6, T6, q6⟩ => exact away T6 fun t7 J7 => ⟨_, _, J7, q6 (pinned T6).2⟩
      | .brk, ⟨σ6, H6, T6, q6⟩ => exact away T6 fun t7 J7 => ⟨_, _, J7, q6 (pinned T6).2⟩
      | .cont, ⟨σ6, H6, T6, q6⟩ => exact away T6 fun t7 J7 => ⟨_, _, J7, q6 (pinned T6).2⟩
      | .ret u, ⟨v6, σ6, H6, T6, r6, q6⟩ => exact away T6 fun t7 J7 => ⟨_, _, _, J7, r6, q6 (pinned T6).2⟩
    | false =>
      show wpAny _ X.A (handleBy (.ref a) X.env []) _ _ _
      refine wpAny_handleBy_nil ?_
      obtain ⟨_, _, _, ob, vb, T, oT, tt, eb, zb, fb, v1, _⟩ := id land1
      unfold PySem.passOn
      refine wpAny_bind (wpAny_field eb fb v1 ?_)
      rw [if_neg (show ¬ ((Value.ref T == Value.none) = true) by simp)]
      have out : wpAny (model X.prog X.w) X.A (setFlight (.ref a) X.env.frame) (fun _ t4 => wpAny (model X.prog X.w) X.A (throw (.ref a) : Sem Flow) (SP X pins D) X.xe t4) X.xe { s' with heap := g1 } := by
        rw [hf]
        exact HandSPX.setFlight_upZ land1 fun g2 held up2 => wpAny_throw (tko _ _ ⟨a, B, sI, pins, σ1, H1, .ref C, d, rfl, J, low, (up.trans up1).trans up2, .inr (.inr (by rw [hs]; exact held)), na, osE, bareE, no rfl⟩)
      first
        | exact wpAny_bind (wpAny_pure (wpAny_bind out))
        | exact wpAny_bind out
  case through =>
    match f, post with
    | .next, ⟨σ1, H1, J1, q⟩ => exact wpAny_execs_nil ⟨σ1, H1, J1.ofTry XO, q⟩
    | .brk, ⟨σ1, H1, J1, q⟩ => exact ⟨σ1, H1, J1.ofTry XO, q⟩
    | .cont, ⟨σ1, H1, J1, q⟩ => exact ⟨σ1, H1, J1.ofTry XO, q⟩
    | .ret u, ⟨v, σ1, H1, J1, r, q⟩ => exact ⟨v, σ1, H1, J1.ofTry XO, r, q⟩
/-! ### by data -/
/-- what was caught is an exception from now on -/
inductive ConvE (a C : Addr) (p : Option Int) : List (Option D) → List (Option D) → Prop
  | nil : ConvE a C p [] []
  | same {x : Option D} {xs ys : List (Option D)} : ConvE a C p xs ys → ConvE a C p (x :: xs) (x :: ys)
  | exc {xs ys : List (Option D)} : ConvE a C p xs ys → ConvE a C p (some (.raw (.ref a)) :: xs) (some (.exc C p) :: ys)
theorem ConvE.len {a C : Addr} {p : Option Int} : ∀ {xs ys : List (Option D)}, ConvE a C p xs ys → xs.length = ys.length
  | _, _, .nil => rfl
  | _, _, .same h => by rw [List.length_cons, List.length_cons, h.len]
  | _, _, .exc h => by rw [List.length_cons, List.length_cons, h.len]
theorem ConvE.get {a C : Addr} {p : Option Int} : ∀ {xs ys : List (Option D)} {j : Nat} {d : D}, ConvE a C p xs ys → ys[j]? = some (some d) → xs[j]? = some (some d) ∨ (d = .exc C p ∧ xs[j]? = some (some (.raw (.ref a))))
  | _, _, _, _, .nil, e => by simp at e
  | _, _, 0, _, .same _, e => by simp at e; subst e; exact .inl rfl
  | _, _, j + 1, _, .same h, e => by simpa using h.get (j := j) (by simpa using e)
  | _, _, 0, _, .exc _, e => by simp at e; subst e; exact .inr ⟨rfl, rfl⟩
  | _, _, j + 1, _, .exc h, e => by simpa using h.get (j := j) (by simpa using e)
theorem ConvE.refl {a C : Addr} {p : Option Int} : ∀ xs : List (Option D), ConvE a C p xs xs
  | [] => .nil
  | _ :: xs => .same (ConvE.refl xs)
def Po.kp (P : Po) (i : Nat) (a C : Addr) (p : Option Int) : Po where
  nx := fun e => ∃ sl, ConvE a C p (e.sl.set i none) sl ∧ P.nx ⟨sl, e.cs⟩
  rt := P.rt
  bk := fun e => ∃ sl, ConvE a C p (e.sl.set i none) sl ∧ P.bk ⟨sl, e.cs⟩
  ct := fun e => ∃ sl, ConvE a C p (e.sl.set i none) sl ∧ P.ct ⟨sl, e.cs⟩
def sTryKe (K : PySem.W.Frag) (tbl : List (Str × Bool)) (i L : Nat) (tb : (XN → List Cel → Prop) → DS) (ts : XN → Addr → DS) (XXo : XN → List Cel → Prop) : DS := fun P e => ∃ XX, tb XX P e ∧
  ∀ x cs', XX x cs' → ∃ b, (x.c, b) ∈ tbl ∧ (b = true → ∀ a, ts x a (P.kp i a (He.ga K x.c) x.p) ⟨(List.replicate L none).set i (some (.raw (.ref a))), cs'⟩) ∧ (b = false → XXo x cs')
theorem SlO.conv {K : PySem.W.Frag} {W : Wd} {σ : L2.St} {a C : Addr} {p : Option Int} {d : Option Addr} {sl sl' : List (Option D)} (h : SlO K W σ sl) (hF : W.F a = some (exV a C d)) (hp : PayV p d W) (c : ConvE a C p sl sl') : SlO K W σ sl' := by
  refine ⟨by rw [h.1, c.len], fun j y e => ?_⟩
  rcases c.get e with q | ⟨rfl, q⟩
  · exact h.2 j y q
  · obtain ⟨v, e1, r⟩ := h.2 j _ q
    cases r
    exact ⟨_, e1, .exc hF hp⟩
theorem pay_of {p : Option Int} {d : Option Addr} {W : Wd} (h : PayOk p d W) : PayV p d W := by
  cases p <;> exact h
theorem ds_tryKeep {X : Cx} {B : Bs} {x n : Str} {C : Addr} {i : Nat} {body suite : List Stmt} {b₀ : Stmt} {np pos pos' : Pos} {tbl : List (Str × Bool)} {tb : (XN → List Cel → Prop) → DS} {ts : XN → Addr → DS} {XXo : XN → List Cel → Prop}
    (hx0 : X.ex = []) (hs : X.stack = X.env :: X.outer) (hf : X.env.frame = some X.env.locals) (hN : X.N.Nodup) (hi : X.N[i]? = some n) (hln : X.env.kindOf n = some .local) (hm : X.mg x = some (.ref C)) (hg : Gl X x) (tko : XT X B XXo)
    (hx : ∀ p ∈ tbl, PySem.W.exmOne X.K (.ref (He.ga X.K p.1)) (.ref C) = some p.2) (hE : ∀ p ∈ tbl, ExcZ X.K (He.ga X.K p.1))
    (hb : ∀ (B : Bs) (XX : XN → List Cel → Prop) (pn : List (Addr × Obj)) (xe : Value → Shared → Prop), XT (X.tr pn xe) B XX → PassesOwn (model X.prog X.w) X.A X.env xe → PSs (X.tr pn xe) body (lS X.K B (tb XX)))
    (hsu : ∀ (B : Bs) (x : XN) (a : Addr) (oe : Obj) (d : Option Addr) (pn : List (Addr × Obj)), ExcZ X.K (He.ga X.K x.c) → Zc (.ref (He.ga X.K x.c)) d oe → (∃ vs, oe.data = .fields vs) → (∀ W, B.p W → PayOk x.p d W) → PSs (X.suite a ((a, oe) :: pn)) (b₀ :: suite) (lS X.K B (ts x a)))
    (hdb : (x == ("__debug__" : Str)) = false := by decide) :
    PS X (.Try body [.ExceptHandler (some (.Name x np)) (some n) (b₀ :: suite) pos'] [] [] pos) (lS X.K B (sTryKe X.K tbl i X.N.length tb ts XXo)) := by
  refine PS.imp (ps_try_keep (x := x) (n := n) (c := .ref C) (i := i) (Wout := fun cls d _ H => wE X.K B XXo cls d H)
    (tb := fun W D σ H => ∃ p : Bs × (XN → List Cel → Prop), (∀ cls d σ H, σ.length = X.N.length → wE X.K p.1 p.2 cls d H → W cls d σ H) ∧ lS X.K p.1 (tb p.2) D σ H)
    (ts := fun a E d D σ H => ∃ p : Bs × XN, (E = He.ga X.K p.2.c ∧ ExcZ X.K (He.ga X.K p.2.c) ∧ ∀ W, p.1.p W → PayOk p.2.p d W) ∧ lS X.K p.1 (ts p.2 a) D σ H)
    hx0 hs hf hN hi hln ⟨hg, hdb, .inl hm⟩ tko (fun W pn xe tk po => ?_) (fun a oe E d pn hz hfd => ?_)) fun E σ H h => ?_
  · exact PSs.ofEx (q := fun p : Bs × (XN → List Cel → Prop) => ∀ cls d σ H, σ.length = X.N.length → wE X.K p.1 p.2 cls d H → W cls d σ H) (u := fun p => lS X.K p.1 (tb p.2)) (fun p hp => hb p.1 p.2 pn xe (XT.of (X := X.tr pn xe) tk hp) po) fun D σ H h => h
  · exact PSs.ofEx (q := fun p : Bs × XN => E = He.ga X.K p.2.c ∧ ExcZ X.K (He.ga X.K p.2.c) ∧ ∀ W, p.1.p W → PayOk p.2.p d W) (u := fun p => lS X.K p.1 (ts p.2 a)) (fun p ⟨h1, h2, h3⟩ => by
      subst h1
      exact hsu p.1 p.2 a oe d pn h2 hz hfd h3) fun D σ H h => h
  · obtain ⟨W, e, P, bl, S, ⟨XX, h, hc⟩, c⟩ := lS_un h
    refine ⟨(Bs.of W, XX), fun cls d σ' H' hl ⟨cc, W', cs', e1, e2, bp, ok', px⟩ => ?_, lS_mk W.le_refl S h c⟩
    subst e1
    obtain ⟨b, hbm, hy, hn⟩ := hc cc cs' px
    refine ⟨_, rfl, b, hx _ hbm, fun eb a na => ?_, fun eb => ⟨cc, W', cs', rfl, e2, B.up bl bp, ok', hn eb⟩⟩
    refine ⟨(Bs.of W', cc), ⟨rfl, hE _ hbm, fun W1 l1 => e2.mono l1⟩, lS_mk (P := P.kp i a (He.ga X.K cc.c) cc.p) W'.le_refl ⟨ok', (SlO.none_ hl).set (.raw (.ref a))⟩ (hy eb a) ?_⟩
    have next : ∀ {e' : En} {W2 : Wd} {H2 : Hp} {σ2 : L2.St} {sl : List (Option D)}, W'.le W2 → Sd X.K W2 H2 σ2 e' → H2 a = none → ConvE a (He.ga X.K cc.c) cc.p (e'.sl.set i none) sl → ∃ W3, W'.le W3 ∧ Sd X.K W3 (upd H2 a (exV a (He.ga X.K cc.c) d)) (σ2.set i none) ⟨sl, e'.cs⟩ := by
      intro e' W2 H2 σ2 sl l S2 na2 cv
      obtain ⟨ok3, l3⟩ := S2.ok.newF (o := exV a (He.ga X.K cc.c) d) na2
      exact ⟨_, l.tr l3, ok3, SlO.conv (S2.sl.unset.mono l3) upd_same ((pay_of (e2.mono l)).mono l3.1) cv⟩
    refine ⟨fun e' W2 H2 σ2 ⟨sl, cv, p⟩ l S2 na2 => ?_, fun y cs W2 H2 v p l ok r na2 => ?_, fun e' W2 H2 σ2 ⟨sl, cv, p⟩ l S2 na2 => ?_, fun e' W2 H2 σ2 ⟨sl, cv, p⟩ l S2 na2 => ?_⟩
    · obtain ⟨W3, l3, S3⟩ := next l S2 na2 cv
      exact c.nx _ _ _ _ p (bp.tr l3) S3
    · obtain ⟨ok3, l3⟩ := ok.newF (o := exV a (He.ga X.K cc.c) d) na2
      exact c.rt _ _ _ _ _ p (bp.tr (l.tr l3)) ok3 (R.mono l3 _ _ r)
    · obtain ⟨W3, l3, S3⟩ := next l S2 na2 cv
      exact c.bk _ _ _ _ p (bp.tr l3) S3
    · obtain ⟨W3, l3, S3⟩ := next l S2 na2 cv
      exact c.ct _ _ _ _ p (bp.tr l3) S3
theorem v_tryKe {K : PySem.W.Frag} {e : En} {Po' : Po} {tbl : List (Str × Bool)} {i L : Nat} {tb : (XN → List Cel → Prop) → DS} {ts : XN → Addr → DS} {XXo : XN → List Cel → Prop} (XX : XN → List Cel → Prop) (h1 : tb XX Po' e)
    (h2 : ∀ x cs', XX x cs' → ∃ b, (x.c, b) ∈ tbl ∧ (b = true → ∀ a, ts x a (Po'.kp i a (He.ga K x.c) x.p) ⟨(List.replicate L none).set i (some (.raw (.ref a))), cs'⟩) ∧ (b = false → XXo x cs')) : sTryKe K tbl i L tb ts XXo Po' e := ⟨XX, h1, h2⟩
theorem v_kpn {P : Po} {i : Nat} {a C : Addr} {p : Option Int} {e : En} (h : ∃ sl, ConvE a C p (e.sl.set i none) sl ∧ P.nx ⟨sl, e.cs⟩) : (P.kp i a C p).nx e := h
theorem v_kpr {P : Po} {i : Nat} {a C : Addr} {p : Option Int} {d : D} {cs : List Cel} (h : P.rt d cs) : (P.kp i a C p).rt d cs := h
/-! ### isinstance(x, T), x an exception that is kept -/
theorem inst_kept {X : Cx} {a C : Addr} {d : Option Addr} {pins : List (Addr × Obj)} {σ : L2.St} {H : Hp} {s : Shared} (I : Inv X pins σ H s) (h : H a = some (exV a C d)) (hd : HasD d H) : ∃ oe od, PySem.W.InstAt s.heap a oe C od := by
  obtain ⟨⟨oe, g1, g2, g3, vs, g4⟩, _⟩ := (show ObjOk X.prog X.w H s.heap a (exV a C d) from I.hok a _ h)
  rcases hd with rfl | ⟨dd, fs, rfl, ea⟩
  · refine ⟨oe, none, g1, g2, by unfold PySem.W.notCls; rw [g4] <;> rfl, ?_⟩
    rw [g3]
    trivial
  · obtain ⟨mA, hns, hr⟩ := (show ObjOk X.prog X.w H s.heap dd (.xd fs) from I.hok dd _ ea)
    obtain ⟨od, ho, hl⟩ := lookIn_ns hns
    refine ⟨oe, some od, g1, g2, by unfold PySem.W.notCls; rw [g4] <;> rfl, ?_⟩
    rw [g3]
    exact ho
def rIsK (K : PySem.W.Frag) : List V → Hp → VK → Prop := fun xs H Q => ∃ (a C : Addr) (d : Option Addr) (c : V) (cv : Value) (b : Bool), xs = [.ref a, c] ∧ H a = some (exV a C d) ∧ HasD d H ∧ ExcC K C ∧ (∀ u, RelV c u → u = cv) ∧ PySem.W.kitOne K (.ref C) cv = some b ∧ Q (.bl b) H
theorem call_isK {X : Cx} : CallR X (.builtin "isinstance") (rIsK X.K) := by
  intro pins s σ H xs us Q I r h
  obtain ⟨a, D, d, c, cv, b, rfl, ha, hd, C, hcv, e, q⟩ := h
  cases r with
  | cons rx rr =>
    cases rr with
    | cons rt rr =>
      cases rr
      cases rx
      have ec := hcv _ rt
      subst ec
      obtain ⟨oe, od, J⟩ := inst_kept I ha hd
      exact PySem.W.kia_one (PySem.W.kitx_exc (cls_some C.hd) C.hg C.hk C.hs C.ha C.hn C.ht C.hm) I.kIn J e (fun z => nomatch z) fun tk => ⟨.bl b, H, I.kept (t' := tk) fun _ _ z => z, rfl, q⟩
def rIsKT (K : PySem.W.Frag) : List V → Hp → VK → Prop := fun xs H Q => ∃ (a C : Addr) (d : Option Addr) (tp : Addr) (vs : List V) (us : List Value) (b : Bool), xs = [.ref a, .ref tp] ∧ H a = some (exV a C d) ∧ HasD d H ∧ ExcC K C ∧ SqT K H tp vs ∧ Paired ClsV vs us ∧ PySem.W.kitAny K (.ref C) us = some b ∧ Q (.bl b) H
theorem call_isKT {X : Cx} : CallR X (.builtin "isinstance") (rIsKT X.K) := by
  intro pins s σ H xs us Q I r h
  obtain ⟨a, D, d, tp, vs, ws, b, rfl, ha, hd, C, hT, k, e, q⟩ := h
  obtain ⟨u1, u2, rfl, r1, r2⟩ := vals2 r
  cases (show u1 = Value.ref a from r1)
  cases (show u2 = Value.ref tp from r2)
  obtain ⟨its, rv, ⟨o, h1, h2, n, h3⟩, _⟩ := I.tuple hT
  have e3 := ClsV.all k rv
  subst e3
  obtain ⟨oc, od0, dt, sl⟩ := o
  simp only at h2 h3
  subst h2 h3
  obtain ⟨oe, od, J⟩ := inst_kept I ha hd
  exact PySem.W.kia_tup (PySem.W.kitx_exc (cls_some C.hd) C.hg C.hk C.hs C.ha C.hn C.ht C.hm) I.kIn J h1 e (fun z => nomatch z) fun tk => ⟨.bl b, H, I.kept (t' := tk) fun _ _ z => z, rfl, q⟩
/-- the answer for the class stands in the table -/
def qIsK (K : PySem.W.Frag) (tbl : List (Str × Bool)) (tg : D) : List D → DE := fun ds e P => ∃ (c : Str) (p : Option Int) (d : D), ds = [.exc (He.ga K c) p, d] ∧ d = tg ∧ ∃ b, (c, b) ∈ tbl ∧ P (.bl b) e
theorem hasD_pay {p : Option Int} {d : Option Addr} {W : Wd} {H : Hp} (hp : PayV p d W) (ex : Ex W.F H) : HasD d H := hasD_of (x := ⟨"", p⟩) (show PayOk p d W by cases p <;> exact hp) ex
section
variable {K : PySem.W.Frag} {tbl : List (Str × Bool)}
theorem cd_isK {C : Addr} (hE : ∀ p ∈ tbl, ExcZ K (He.ga K p.1)) (h : ∀ p ∈ tbl, PySem.W.kitOne K (.ref (He.ga K p.1)) (.ref C) = some p.2) : CallD K (rIsK K) (qIsK K tbl (.raw (.ref C))) := by
  rintro W H σ e vs ds P Q S r ⟨c, p, d, rfl, rfl, b, hb, t⟩ k
  obtain ⟨v, v2, rfl, r1, r2⟩ := r.two
  cases r2
  cases r1 with
  | exc hF hp => exact ⟨_, _, _, .ref C, .ref C, b, rfl, S.ok.ex _ _ hF, hasD_pay hp S.ok.ex, (hE _ hb).e, fun u hu => hu, h _ hb, k _ _ _ _ _ t W.le_refl S (.bl _)⟩
theorem cd_isKB {T : String} (hE : ∀ p ∈ tbl, ExcZ K (He.ga K p.1)) (h : ∀ p ∈ tbl, PySem.W.kitOne K (.ref (He.ga K p.1)) (.type T) = some p.2) : CallD K (rIsK K) (qIsK K tbl (.raw (.ty T))) := by
  rintro W H σ e vs ds P Q S r ⟨c, p, d, rfl, rfl, b, hb, t⟩ k
  obtain ⟨v, v2, rfl, r1, r2⟩ := r.two
  cases r2
  cases r1 with
  | exc hF hp => exact ⟨_, _, _, .ty T, .type T, b, rfl, S.ok.ex _ _ hF, hasD_pay hp S.ok.ex, (hE _ hb).e, fun u hu => hu, h _ hb, k _ _ _ _ _ t W.le_refl S (.bl _)⟩
theorem cd_isKT {Cs : List Addr} (hE : ∀ p ∈ tbl, ExcZ K (He.ga K p.1)) (h : ∀ p ∈ tbl, PySem.W.kitAny K (.ref (He.ga K p.1)) (Cs.map fun C => .ref C) = some p.2) : CallD K (rIsKT K) (qIsK K tbl (.tup (Cs.map fun C => .raw (.ref C)))) := by
  rintro W H σ e vs ds P Q S r ⟨c, p, d, rfl, rfl, b, hb, t⟩ k
  obtain ⟨v, v2, rfl, r1, r2⟩ := r.two
  cases r2 with
  | tup h1 h2 =>
    cases r1 with
    | exc hF hp => exact ⟨_, _, _, _, _, _, b, rfl, S.ok.ex _ _ hF, hasD_pay hp S.ok.ex, (hE _ hb).e, Evl.ex_t S.ok.ex h1, clsv_map h2, h _ hb, k _ _ _ _ _ t W.le_refl S (.bl _)⟩
end
theorem v_isK {K : PySem.W.Frag} {tbl : List (Str × Bool)} {tg : D} {ds : List D} {e : En} {P : D → En → Prop} (h : ∃ (c : Str) (p : Option Int) (d : D), ds = [.exc (He.ga K c) p, d] ∧ d = tg ∧ ∃ b, (c, b) ∈ tbl ∧ P (.bl b) e) : qIsK K tbl tg ds e P := h
/-! ### xs.insert(i, y) -/
def qIns : D → List D → DE := fun d ds e P => ∃ (n : Nat) (xs : List D) (i : Int) (y : D), d = .cell n ∧ ds = [.int i, y] ∧ e.cs[n]? = some (.lst xs) ∧ xs.length < 100000 ∧ 0 ≤ i ∧ i < 1000000 ∧ P .non { e with cs := e.cs.set n (.lst (xs.take i.toNat ++ [y] ++ xs.drop i.toNat)) }
theorem md_ins {K : PySem.W.Frag} : MtD K (fun x vs H Q => ∃ (l : Addr) (xs : List V) (i : Int) (y : V), x = .ref l ∧ vs = [.int i, y] ∧ H l = some (.lst xs) ∧ xs.length < sizeLine ∧ 0 ≤ i ∧ i < 2 ^ 63 ∧ Q .non (upd H l (.lst (xs.take i.toNat ++ [y] ++ xs.drop i.toNat)))) qIns := by
  rintro W H σ e x vs d ds P Q S r rs ⟨n, xs, i, y, rfl, rfl, hc, hz, h0, h1, p⟩ k
  obtain ⟨v, v2, rfl, rv, r2⟩ := rs.two
  cases rv
  cases r with
  | @cell _ a hm =>
    obtain ⟨vs, g1, g2⟩ := S.ok.cellL hm hc
    refine ⟨a, vs, i, v2, rfl, rfl, g1, ?_, h0, by omega, ?_⟩
    · rw [g2.length]
      exact Nat.lt_of_lt_of_le hz (by decide)
    · exact k _ _ _ _ _ p W.le_refl ⟨S.ok.setC hm hc (fun z => nomatch z) ⟨_, upd_same, ((g2.take i.toNat).append (.cons r2 .nil)).append (g2.drop i.toNat)⟩, S.sl⟩ .non
/-! ### [x, ..] * n -/
def qRepL (o : Bool) : D → D → DE := fun x y e P => ∃ xs k, lkP e.cs x = some xs ∧ y = .int k ∧ -1000000 ≤ k ∧ k ≤ 1000000 ∧ xs.length * k.toNat ≤ 100000 ∧ newL o (List.replicate k.toNat xs).flatten e P
theorem rep_all {K : PySem.W.Frag} {W : Wd} {vs : List V} {xs : List D} (h : RAll K W vs xs) : ∀ n : Nat, RAll K W (List.replicate n vs).flatten (List.replicate n xs).flatten
  | 0 => .nil
  | n + 1 => by
    rw [List.replicate_succ, List.replicate_succ, List.flatten_cons, List.flatten_cons]
    exact h.append (rep_all h n)
theorem od_repL {K : PySem.W.Frag} {o : Bool} : OpD K rRep (qRepL o) := by
  rintro W H σ e x y d1 d2 P Q S r1 r2 ⟨xs, k0, h1, rfl, g1, g2, g3, t⟩ k
  obtain ⟨p1, vs, rfl, e1, q1⟩ := S.ok.lkP r1 h1
  cases r2
  exact ⟨p1, k0, vs, rfl, rfl, e1, by omega, by omega, by rw [q1.length]; exact Nat.le_trans g3 (by decide), newL_ok S (rep_all q1 _) t k⟩
theorem v_repL {o : Bool} {x : D} {k : Int} {xs : List D} {e : En} {P : D → En → Prop} (h : lkP e.cs x = some xs) (h1 : -1000000 ≤ k) (h2 : k ≤ 1000000) (hz : xs.length * k.toNat ≤ 100000) (p : newL o (List.replicate k.toNat xs).flatten e P) : qRepL o x (.int k) e P := ⟨xs, k, h, rfl, h1, h2, hz, p⟩
/-! ### a, b = a list -/
def sAsgL (t : DE) (is : List Nat) : DS := fun P e => t e fun d e1 => ∃ xs, lk e1.cs d = some xs ∧ xs.length = is.length ∧ P.nx ⟨setAll is xs e1.sl, e1.cs⟩
theorem lk_seq {K : PySem.W.Frag} {W : Wd} {H : Hp} {cs : List Cel} {d : D} {v : V} {xs : List D} (ok : Ok K W H cs) (r : R K W v d) (h : lk cs d = some xs) : ∃ a vs, v = .ref a ∧ SqL K H a vs ∧ RAll K W vs xs := by
  cases d with
  | lst ys =>
    cases h
    cases r with
    | lst h1 h2 => exact ⟨_, _, rfl, SqL.of (ok.ex _ _ h1), h2⟩
  | fro ys =>
    cases h
    cases r with
    | fro h1 h2 => exact ⟨_, _, rfl, Evl.ex_l ok.ex h1, h2⟩
  | cell n =>
    cases r with
    | cell hm =>
      have h' : (match cs[n]? with | some (.lst xs) => some xs | _ => none) = some xs := h
      split at h'
      · rename_i ys hc
        cases h'
        obtain ⟨vs, h1, h2⟩ := ok.cellL hm hc
        exact ⟨_, _, rfl, SqL.of h1, h2⟩
      · cases h'
  | _ => cases h
theorem ds_asgL {X : Cx} {B : Bs} {es : List Expr} {ex : Expr} {te : DE} {is : List Nat} {k : Nat} {tp pos : Pos} (he : PE X ex (lE X.K B te)) (hg : PG X (.Tuple es k tp) (gLst X.K is.length (gVs is))) (hs : swapsWithSole [.Tuple es k tp] ex pos.line X.env = pure false := by rfl) (hw : swappedStores [.Tuple es k tp] ex X.env = pure none := by rfl)
    (h1 : (assignEach [.Tuple es k tp] X.env).map (·.2) = [assign (.Tuple es k tp) X.env] := by rfl) : PS X (.Assign [.Tuple es k tp] ex pos) (lS X.K B (sAsgL te is)) := PS.imp (ps_asg he hg hs hw h1) fun E σ H h => by
  obtain ⟨W, e, P, bl, S, h, c⟩ := lS_un h
  refine ⟨W, e, _, bl, S, h, fun d e1 W1 H1 v ⟨xs, hx, hl, p⟩ l S1 r => ?_⟩
  obtain ⟨a, vs, rfl, h2, h3⟩ := lk_seq S1.ok r hx
  exact ⟨a, vs, rfl, h2, by rw [h3.length]; exact hl, gVs_ok (vs := []) is _ _ _ _ h3 hl S1.sl fun σ' S' _ => c.nx _ _ _ _ p l ⟨S1.ok, S'⟩⟩
theorem v_asgL {t : DE} {is : List Nat} {Po' : Po} {e : En} (h : t e fun d e1 => ∃ xs, lk e1.cs d = some xs ∧ xs.length = is.length ∧ Po'.nx ⟨setAll is xs e1.sl, e1.cs⟩) : sAsgL t is Po' e := h
/-! ### a list that changes no more from here on -/
def sFrz (t : DS) : DS := fun P e => t { P with nx := fun e1 => ∃ n xs, e1.cs[n]? = some (.lst xs) ∧ P.nx ⟨e1.sl.map (Option.map (subC n xs)), e1.cs.set n .dead⟩ } e
theorem frz_ok {K : PySem.W.Frag} {W : Wd} {H : Hp} {σ : L2.St} {sl : List (Option D)} {cs : List Cel} {n : Nat} {xs : List D} (S : Sd K W H σ ⟨sl, cs⟩) (hc : cs[n]? = some (.lst xs)) : ∃ W', W.le W' ∧ Sd K W' H σ ⟨sl.map (Option.map (subC n xs)), cs.set n .dead⟩ := by
  have hn : n < W.m.length := by
    rw [S.ok.len]
    exact (List.getElem?_eq_some_iff.mp hc).1
  have hm : W.m[n]? = some W.m[n] := List.getElem?_eq_getElem hn
  obtain ⟨vs, h1, h2⟩ := S.ok.cellL hm hc
  obtain ⟨ok, l⟩ := S.ok.freeze hm hc h1
  refine ⟨_, l, ok, ⟨by rw [S.sl.1, List.length_map], fun j d' e => ?_⟩⟩
  rw [List.getElem?_map, Option.map_eq_some_iff] at e
  obtain ⟨y, e1, e2⟩ := e
  obtain ⟨d, rfl, rfl⟩ := Option.map_eq_some_iff.mp e2
  obtain ⟨v, g1, g2⟩ := S.sl.2 j d e1
  exact ⟨v, g1, R.subC (W := ⟨upd W.F W.m[n] (.lst vs), W.m, W.h⟩) (n := n) hm (show upd W.F W.m[n] (.lst vs) W.m[n] = _ from upd_same) (RAll.mono l _ _ h2) d v (R.mono l _ _ g2)⟩
theorem ds_frz {X : Cx} {B : Bs} {st : Stmt} {t : DS} (h : PS X st (lS X.K B t)) : PS X st (lS X.K B (sFrz t)) := PS.imp h fun E σ H z => by
  obtain ⟨W, e, P, bl, S, h, c⟩ := lS_un z
  refine ⟨W, e, _, bl, S, h, ⟨fun e' W' H' σ' ⟨n, xs, hc, p⟩ l S' => ?_, c.rt, c.bk, c.ct⟩⟩
  obtain ⟨W2, l2, S2⟩ := frz_ok S' hc
  exact c.nx _ _ _ _ p (l.tr l2) S2
theorem v_frz {t : DS} {Po' : Po} {e : En} (h : t { Po' with nx := fun e1 => ∃ n xs, e1.cs[n]? = some (.lst xs) ∧ Po'.nx ⟨e1.sl.map (Option.map (subC n xs)), e1.cs.set n .dead⟩ } e) : sFrz t Po' e := h
end DL
/-! methods that may raise, with one keyword-only parameter and its default -/
namespace L2
open PySem PySem.Spec PyProof.Rows
section
variable {X : Cx} {CX : CXT} {k n : Nat} {f C : Addr} {fd : FuncData} {ps ks : List Str} {sp : Sp} {E : XK} {m : Str} {pos apos : Pos} {e o : Expr} {es : List Expr} {kws : List Keyword} {ta : TE} {t tk : TA} {g : List Value → List Value → List Value} {gV : List V → List V → List V}
theorem PK.imp (h : PK X kws t) (f : ∀ σ H Q, tk σ H Q → t σ H Q) : PK X kws tk := ⟨fun pos pins s σ H Q I p => h.run pos pins s σ H Q I (f σ H Q p)⟩
def tMethK (C : Addr) (m : Str) (n k : Nat) (sp : Sp) (gV : List V → List V → List V) (E : XK) (ta : TE) (t tk : TA) : TE := fun σ H Q => ta σ H fun x H1 => ∃ a dx fs, x = .ref a ∧ H1 a = some (.ins C dx fs) ∧ fs.lookup m = none ∧
  t σ H1 fun vs H2 => tk σ H2 fun zs H3 => vs.length + 1 = n ∧ zs.length = k ∧ sp (gV (x :: vs) zs) H3 Q E
/-- o.m(e, .., k = v) -/
theorem pe_methK {pl : Sem Bool} (he : PE X o ta) (c : Cls X.K C) (hm : Meth X.K C m f) (F : FnOk X.prog X.w X.K X.mg X.base CX k f fd ps sp) (hr : Room k X.A) (hb : KBn X.K fd ps n ks g gV) (hx : Passes CX X E) (ha : PA X (e :: es) t) (hkw : PK X kws tk)
    (hall : (backToKw pos (keywordEach kws X.env)).all (·.1.isSome) = true := by rfl) (hks : (backToKw pos (keywordEach kws X.env)).filterMap (·.1) = ks := by rfl)
    (hst : starEach (e :: es) X.env = (false, eval e X.env) :: starEach es X.env := by rfl) (hpl : ((backTo pos (starEach (e :: es) X.env)).any (·.1) || (backToKw pos (keywordEach kws X.env)).any (·.1.isNone)) = false := by rfl)
    (ht : eval (.Call (.Attribute o m apos) (e :: es) kws pos) X.env = (do
      let ov ← eval o X.env
      standAt apos.atName
      let (f, first) ← holding [ov] (getMethod ov m pl)
      callWith pos f first (backTo pos (starEach (e :: es) X.env)) (backToKw pos (keywordEach kws X.env))) := by rfl) :
    PE X (.Call (.Attribute o m apos) (e :: es) kws pos) (tMethK C m n ks.length sp gV E ta t tk) := by
  refine ⟨fun pins s σ H Q I h => ?_⟩
  refine PySem.W.methodCall_KW (pl := pl) (thn (he.run pins s σ H _ I h) fun u s1 ⟨x, H1, I1, rx, a, dx, fs, ex, ea, l, q⟩ => ?_) ht
  subst ex
  obtain rfl : u = Value.ref a := rx
  refine getmeth_ok I1 ea c hm l ?_
  refine PySem.W.callWith_KW (first := [.ref a]) (h₀ := X.base) I.ok.mod.kin hm.kp hall (thn (ha.run pos pins s1 σ H1 _ I1 q) fun us s2 ⟨vs, H2, I2, r, q2⟩ => ?_) hpl hst
  refine thn (hkw.run pos pins s2 σ H2 _ I2 q2) fun ws s3 ⟨zs, H3, I3, rz, l1, l2, q3⟩ => ⟨I3.kIn, ?_⟩
  rw [hks]
  exact run_fnN (us := .ref a :: us) (vs := .ref a :: vs) F hr hb hx I3 (.cons rfl r) rz l1 l2 q3
/-- o.m(k = v) -/
theorem pe_methK0 {pl : Sem Bool} (he : PE X o ta) (c : Cls X.K C) (hm : Meth X.K C m f) (F : FnOk X.prog X.w X.K X.mg X.base CX k f fd ps sp) (hr : Room k X.A) (hb : KBn X.K fd ps n ks g gV) (hx : Passes CX X E) (hkw : PK X kws tk)
    (hall : (backToKw pos (keywordEach kws X.env)).all (·.1.isSome) = true := by rfl) (hks : (backToKw pos (keywordEach kws X.env)).filterMap (·.1) = ks := by rfl)
    (hpl : ((backTo pos (starEach [] X.env)).any (·.1) || (backToKw pos (keywordEach kws X.env)).any (·.1.isNone)) = false := by rfl)
    (ht : eval (.Call (.Attribute o m apos) [] kws pos) X.env = (do
      let ov ← eval o X.env
      standAt apos.atName
      let (f, first) ← holding [ov] (getMethod ov m pl)
      callWith pos f first (backTo pos (starEach [] X.env)) (backToKw pos (keywordEach kws X.env))) := by rfl) :
    PE X (.Call (.Attribute o m apos) [] kws pos) (tMethK C m n ks.length sp gV E ta tNil tk) := by
  refine ⟨fun pins s σ H Q I h => ?_⟩
  refine PySem.W.methodCall_KW (pl := pl) (thn (he.run pins s σ H _ I h) fun u s1 ⟨x, H1, I1, rx, a, dx, fs, ex, ea, l, q⟩ => ?_) ht
  subst ex
  obtain rfl : u = Value.ref a := rx
  refine getmeth_ok I1 ea c hm l ?_
  refine PySem.W.callWith_KW0 (first := [.ref a]) (h₀ := X.base) I.ok.mod.kin hm.kp hall ?_ hpl
  refine thn (hkw.run pos pins s1 σ H1 _ I1 q) fun ws s3 ⟨zs, H3, I3, rz, l1, l2, q3⟩ => ⟨I3.kIn, ?_⟩
  rw [hks]
  exact run_fnN (us := [.ref a]) (vs := [.ref a]) F hr hb hx I3 (.cons rfl .nil) rz l1 l2 q3
end
end L2
namespace DL
open PySem PySem.Spec PyProof.Rows L2
open Evl (Ex)
/-- a method with n parameters and one more, keyword-only, kw, with a default (dd as data) -/
def GoodK (P : Program) (w : World) (K : PySem.W.Frag) (mg : Str → Option Value) (base : Heap) (k : Nat) (f : Addr) (ps : List Str) (n : Nat) (kw : Str) (dd : D) (sp : SpX) : Prop :=
  ∃ fd us0 dv, FnOk P w K mg base (L2.CX P w) k f fd ps (spDX K sp) ∧ PySem.W.keepIn K (.ref f) = true ∧ Binds K fd ps us0 ∧ Vals [dv] us0 ∧ (∀ W, R K W dv dd) ∧ KBn K fd ps n [kw] (fun us ws => us ++ ws) (fun vs zs => vs ++ zs)
theorem GoodK.mono {P : Program} {w : World} {K : PySem.W.Frag} {mg : Str → Option Value} {base : Heap} {j k n : Nat} {f : Addr} {ps : List Str} {kw : Str} {dd : D} {sp : SpX} (g : GoodK P w K mg base j f ps n kw dd sp) (h : j ≤ k) : GoodK P w K mg base k f ps n kw dd sp := by
  obtain ⟨fd, us0, dv, F, r⟩ := g
  exact ⟨fd, us0, dv, F.mono h, r⟩
def eMethX (C : Addr) (m : Str) (XX : XN → List Cel → Prop) (sp : SpX) (dd : List D) (t : DE) (ta : DA) : DE := fun e P => t e fun d e1 => (∃ ns xs, insD e1.cs d = some (C, ns, xs) ∧ m ∉ ns) ∧ ta e1 fun ds e2 => sp (d :: (ds ++ dd)) e2.cs (fun r cs' => P r { e2 with cs := cs' }) XX
/-- with the keyword: its value stands behind the others -/
def eMethK (C : Addr) (m : Str) (XX : XN → List Cel → Prop) (sp : SpX) (n : Nat) (t : DE) (ta tk : DA) : DE := fun e P => t e fun d e1 => (∃ ns xs, insD e1.cs d = some (C, ns, xs) ∧ m ∉ ns) ∧ ta e1 fun ds e2 => tk e2 fun zs e3 => ds.length + 1 = n ∧ zs.length = 1 ∧ sp (d :: (ds ++ zs)) e3.cs (fun r cs' => P r { e3 with cs := cs' }) XX
section
variable {X : Cx} {B : Bs} {XX : XN → List Cel → Prop} {ex o : Expr} {es : List Expr} {kws : List Keyword} {te t1 : DE} {ta t2 tk' : DA} {C : Addr} {f m x kw : Str} {pos apos p kpos : Pos} {k n : Nat} {fn : Addr} {ps ks : List Str} {sp : SpX} {dd : D} {nm : Option Str}
/-- the keywords' values, as data -/
theorem dk_nil : PK X [] (lA X.K B aNil) := PK.imp pk_nil fun σ H Q ⟨W, e, P, bl, S, t, k⟩ => k [] e W H [] t W.le_refl S .nil
theorem dk_cons (ha : PE X ex (lE X.K B t1)) (hr : PK X kws (lA X.K B t2)) : PK X (⟨nm, ex, kpos⟩ :: kws) (lA X.K B (aCons t1 t2)) :=
  PK.imp (pk_cons ha hr) fun σ H Q ⟨W, e, P, bl, S, t, k⟩ => ⟨W, e, _, bl, S, t, fun d e1 W1 H1 v t1 l1 S1 r1 => ⟨W1, e1, _, (B.up bl l1), S1, t1, fun ds e2 W2 H2 vs p l2 S2 r2 => k _ _ _ _ _ p (l1.tr l2) S2 (.cons (R.mono l2 _ _ r1) r2)⟩⟩
theorem de_methX {pl : Sem Bool} (G : GoodK X.prog X.w X.K X.mg X.base k fn ps n kw dd sp) (tk : XT X B XX) (hr : Room k X.A) (c : Cls X.K C) (hm : Meth X.K C m fn) (ho : PE X o (lE X.K B te)) (ha : PA X (ex :: es) (lA X.K B ta))
    (hst : starEach (ex :: es) X.env = (false, eval ex X.env) :: starEach es X.env := by rfl) (hpl : (backTo pos (starEach es X.env)).any (·.1) = false := by rfl)
    (ht : eval (.Call (.Attribute o m apos) (ex :: es) [] pos) X.env = (do
      let ov ← eval o X.env
      standAt apos.atName
      let (f, first) ← holding [ov] (getMethod ov m pl)
      callWith pos f first (backTo pos (starEach (ex :: es) X.env)) (backToKw pos (keywordEach [] X.env))) := by rfl) :
    PE X (.Call (.Attribute o m apos) (ex :: es) [] pos) (lE X.K B (eMethX C m XX sp [dd] te ta)) := by
  obtain ⟨fd, us0, dv, F, kp, b, rv, rd, _⟩ := G
  refine PE.imp (pe_meth ho c hm F hr b rv tk.passes ha hst hpl ht) fun σ H Q ⟨W, e, P, bl, S, t, k⟩ => ⟨W, e, _, bl, S, t, fun d e1 W1 H1 v ⟨⟨ns, xs, hi, hn⟩, h⟩ l S1 r => ?_⟩
  obtain ⟨a, dx, gs, rfl, h1, h2, h3⟩ := S1.ok.ins r hi
  refine ⟨a, dx, gs, rfl, h1, lookup_none (by rw [h2]; exact hn), W1, e1, _, B.up bl l, S1, h, fun ds e2 W2 H2 vs h l2 S2 r2 => ?_⟩
  exact ⟨W2, e2.cs, d :: (ds ++ [dd]), _, XX, S2.ok, .cons (R.mono l2 _ _ r) (r2.append (.cons (rd W2) .nil)), h, fun d cs' W3 H3 v p l3 ok3 r3 => k _ _ _ _ _ p ((l.tr l2).tr l3) ⟨ok3, S2.sl.mono l3⟩ r3, fun y cs' W3 H3 d' px pd l3 ok3 => ⟨y, W3, cs', rfl, pd, B.up bl ((l.tr l2).tr l3), ok3, px⟩⟩
theorem de_methX0 {pl : Sem Bool} (G : GoodK X.prog X.w X.K X.mg X.base k fn ps n kw dd sp) (tk : XT X B XX) (hr : Room k X.A) (c : Cls X.K C) (hm : Meth X.K C m fn) (ho : PE X o (lE X.K B te))
    (ht : eval (.Call (.Attribute o m apos) [] [] pos) X.env = (do
      let ov ← eval o X.env
      standAt apos.atName
      let (f, first) ← holding [ov] (getMethod ov m pl)
      callWith pos f first (backTo pos (starEach [] X.env)) (backToKw pos (keywordEach [] X.env))) := by rfl) :
    PE X (.Call (.Attribute o m apos) [] [] pos) (lE X.K B (eMethX C m XX sp [dd] te aNil)) := by
  obtain ⟨fd, us0, dv, F, kp, b, rv, rd, _⟩ := G
  refine PE.imp (pe_meth0 ho c hm F hr b rv tk.passes ht) fun σ H Q ⟨W, e, P, bl, S, t, k⟩ => ⟨W, e, _, bl, S, t, fun d e1 W1 H1 v ⟨⟨ns, xs, hi, hn⟩, h⟩ l S1 r => ?_⟩
  obtain ⟨a, dx, gs, rfl, h1, h2, h3⟩ := S1.ok.ins r hi
  refine ⟨a, dx, gs, rfl, h1, lookup_none (by rw [h2]; exact hn), ?_⟩
  exact ⟨W1, e1.cs, [d, dd], _, XX, S1.ok, .cons r (.cons (rd W1) .nil), h, fun d cs' W3 H3 v p l3 ok3 r3 => k _ _ _ _ _ p (l.tr l3) ⟨ok3, S1.sl.mono l3⟩ r3, fun y cs' W3 H3 d' px pd l3 ok3 => ⟨y, W3, cs', rfl, pd, B.up bl (l.tr l3), ok3, px⟩⟩
theorem de_methXK {pl : Sem Bool} (G : GoodK X.prog X.w X.K X.mg X.base k fn ps n kw dd sp) (tk : XT X B XX) (hr : Room k X.A) (c : Cls X.K C) (hm : Meth X.K C m fn) (ho : PE X o (lE X.K B te)) (ha : PA X (ex :: es) (lA X.K B ta)) (hk : PK X kws (lA X.K B tk'))
    (hall : (backToKw pos (keywordEach kws X.env)).all (·.1.isSome) = true := by rfl) (hks : (backToKw pos (keywordEach kws X.env)).filterMap (·.1) = [kw] := by rfl)
    (hst : starEach (ex :: es) X.env = (false, eval ex X.env) :: starEach es X.env := by rfl) (hpl : ((backTo pos (starEach (ex :: es) X.env)).any (·.1) || (backToKw pos (keywordEach kws X.env)).any (·.1.isNone)) = false := by rfl)
    (ht : eval (.Call (.Attribute o m apos) (ex :: es) kws pos) X.env = (do
      let ov ← eval o X.env
      standAt apos.atName
      let (f, first) ← holding [ov] (getMethod ov m pl)
      callWith pos f first (backTo pos (starEach (ex :: es) X.env)) (backToKw pos (keywordEach kws X.env))) := by rfl) :
    PE X (.Call (.Attribute o m apos) (ex :: es) kws pos) (lE X.K B (eMethK C m XX sp n te ta tk')) := by
  obtain ⟨fd, us0, dv, F, kp, _, _, _, b⟩ := G
  refine PE.imp (pe_methK ho c hm F hr b tk.passes ha hk hall hks hst hpl ht) fun σ H Q ⟨W, e, P, bl, S, t, k⟩ => ⟨W, e, _, bl, S, t, fun d e1 W1 H1 v ⟨⟨ns, xs, hi, hn⟩, h⟩ l S1 r => ?_⟩
  obtain ⟨a, dx, gs, rfl, h1, h2, h3⟩ := S1.ok.ins r hi
  refine ⟨a, dx, gs, rfl, h1, lookup_none (by rw [h2]; exact hn), W1, e1, _, B.up bl l, S1, h, fun ds e2 W2 H2 vs h l2 S2 r2 => ⟨W2, e2, _, B.up bl (l.tr l2), S2, h, fun zs e3 W3 H3 ws ⟨z1, z2, h⟩ l3 S3 r3 => ⟨by rw [r2.length]; exact z1, by rw [r3.length]; exact z2, ?_⟩⟩⟩
  exact ⟨W3, e3.cs, d :: (ds ++ zs), _, XX, S3.ok, .cons (R.mono (l2.tr l3) _ _ r) ((r2.mono l3).append r3), h, fun d cs' W4 H4 v p l4 ok4 r4 => k _ _ _ _ _ p (((l.tr l2).tr l3).tr l4) ⟨ok4, S3.sl.mono l4⟩ r4, fun y cs' W4 H4 d' px pd l4 ok4 => ⟨y, W4, cs', rfl, pd, B.up bl (((l.tr l2).tr l3).tr l4), ok4, px⟩⟩
theorem de_methXK0 {pl : Sem Bool} (G : GoodK X.prog X.w X.K X.mg X.base k fn ps n kw dd sp) (tk : XT X B XX) (hr : Room k X.A) (c : Cls X.K C) (hm : Meth X.K C m fn) (ho : PE X o (lE X.K B te)) (hk : PK X kws (lA X.K B tk'))
    (hall : (backToKw pos (keywordEach kws X.env)).all (·.1.isSome) = true := by rfl) (hks : (backToKw pos (keywordEach kws X.env)).filterMap (·.1) = [kw] := by rfl)
    (hpl : ((backTo pos (starEach [] X.env)).any (·.1) || (backToKw pos (keywordEach kws X.env)).any (·.1.isNone)) = false := by rfl)
    (ht : eval (.Call (.Attribute o m apos) [] kws pos) X.env = (do
      let ov ← eval o X.env
      standAt apos.atName
      let (f, first) ← holding [ov] (getMethod ov m pl)
      callWith pos f first (backTo pos (starEach [] X.env)) (backToKw pos (keywordEach kws X.env))) := by rfl) :
    PE X (.Call (.Attribute o m apos) [] kws pos) (lE X.K B (eMethK C m XX sp n te aNil tk')) := by
  obtain ⟨fd, us0, dv, F, kp, _, _, _, b⟩ := G
  refine PE.imp (pe_methK0 ho c hm F hr b tk.passes hk hall hks hpl ht) fun σ H Q ⟨W, e, P, bl, S, t, k⟩ => ⟨W, e, _, bl, S, t, fun d e1 W1 H1 v ⟨⟨ns, xs, hi, hn⟩, h⟩ l S1 r => ?_⟩
  obtain ⟨a, dx, gs, rfl, h1, h2, h3⟩ := S1.ok.ins r hi
  refine ⟨a, dx, gs, rfl, h1, lookup_none (by rw [h2]; exact hn), W1, e1, _, B.up bl l, S1, h, fun zs e3 W3 H3 ws ⟨z1, z2, h⟩ l3 S3 r3 => ⟨z1, by rw [r3.length]; exact z2, ?_⟩⟩
  exact ⟨W3, e3.cs, d :: zs, _, XX, S3.ok, .cons (R.mono l3 _ _ r) r3, h, fun d cs' W4 H4 v p l4 ok4 r4 => k _ _ _ _ _ p ((l.tr l3).tr l4) ⟨ok4, S3.sl.mono l4⟩ r4, fun y cs' W4 H4 d' px pd l4 ok4 => ⟨y, W4, cs', rfl, pd, B.up bl ((l.tr l3).tr l4), ok4, px⟩⟩
end
/-! ### x not in o of an own class -/
def rNinO (K : PySem.W.Frag) (C : Addr) (sp : Spc) : R2 := fun y x H Q => rInO K C sp y x H fun v H' => ∃ b, v = .bl b ∧ Q (.bl (!b)) H'
def qNinO (C : Addr) (sp : Spc) : D → D → DE := fun y d => fun e P => qInO C sp y d e fun r e' => ∃ b, r = .bl b ∧ P (.bl (!b)) e'
theorem od_ninO {K : PySem.W.Frag} {C : Addr} {sp : Spc} : OpD K (rNinO K C sp) (qNinO C sp) := fun W H σ e x y d1 d2 P Q S r1 r2 t k =>
  od_inO W H σ e x y d1 d2 _ _ S r1 r2 t fun d e1 W1 H1 v ⟨b, hb, p⟩ l S1 r => by
    subst hb
    exact ⟨b, r.bl_inv, k _ _ _ _ _ p l S1 (.bl _)⟩
theorem op_ninO {X : Cx} {C fn : Addr} {k : Nat} {ps : List Str} {sp : Spc} (G : Good X.prog X.w X.K X.mg X.base k fn ps sp) (hr : Room k X.A) (sm : Sm X.K C "__contains__" fn) : OpR X (compareOp .NotIn) (rNinO X.K C sp) := by
  rintro pins s σ H y x v u Q I ry rx ⟨a, dx, gs, rfl, ha, h⟩
  obtain ⟨fd, F, bi, kp⟩ := G
  cases (show u = Value.ref a from rx)
  obtain ⟨od, J⟩ := Inv.inst I ha
  show wpAny (model X.prog X.w) X.A ((contains (.ref a) v) >>= fun b => pure (Value.bool (!b))) _ _ s
  have c : wpAny (model X.prog X.w) X.A (contains (.ref a) v) (fun b s' => EP X pins σ Q (Value.bool (!b)) s') X.xe s := by
    refine contains_own I.kIn J sm.at_ (beq_iff_eq.mp sm.fn) (wpAny_mono (run_in (us := [.ref a, v]) (vs := [V.ref a, y]) F bi hr I.env0 I (.cons rfl (.cons ry .nil)) h) (fun v s' z => ?_) fun _ _ z => z)
    obtain ⟨v', H', I', rv, ⟨b, rfl⟩, ⟨b2, e2, q⟩⟩ := z
    cases e2
    cases rv
    exact ⟨b, rfl, .bl (!b), H', I', rfl, q⟩
  exact wpAny_bind (wpAny_mono c (fun b s' q => wpAny_pure q) fun _ _ z => z)
section
variable {X : Cx} {B : Bs} {XX : XN → List Cel → Prop} {ex o : Expr} {es : List Expr} {te : DE} {ta : DA} {C : Addr} {m : Str} {pos apos : Pos} {k : Nat} {fn : Addr} {ps : List Str} {sp : SpX}
/-- a method of that kind without such a parameter -/
theorem de_methGX {pl : Sem Bool} (G : GoodX X.prog X.w X.K X.mg X.base k fn ps sp) (tk : XT X B XX) (hr : Room k X.A) (c : Cls X.K C) (hm : Meth X.K C m fn) (ho : PE X o (lE X.K B te)) (ha : PA X (ex :: es) (lA X.K B ta))
    (hst : starEach (ex :: es) X.env = (false, eval ex X.env) :: starEach es X.env := by rfl) (hpl : (backTo pos (starEach es X.env)).any (·.1) = false := by rfl)
    (ht : eval (.Call (.Attribute o m apos) (ex :: es) [] pos) X.env = (do
      let ov ← eval o X.env
      standAt apos.atName
      let (f, first) ← holding [ov] (getMethod ov m pl)
      callWith pos f first (backTo pos (starEach (ex :: es) X.env)) (backToKw pos (keywordEach [] X.env))) := by rfl) :
    PE X (.Call (.Attribute o m apos) (ex :: es) [] pos) (lE X.K B (eMethX C m XX sp [] te ta)) := by
  obtain ⟨fd, F, b, _⟩ := G
  refine PE.imp (pe_meth ho c hm F hr b .nil tk.passes ha hst hpl ht) fun σ H Q ⟨W, e, P, bl, S, t, k⟩ => ⟨W, e, _, bl, S, t, fun d e1 W1 H1 v ⟨⟨ns, xs, hi, hn⟩, h⟩ l S1 r => ?_⟩
  obtain ⟨a, dx, gs, rfl, h1, h2, h3⟩ := S1.ok.ins r hi
  refine ⟨a, dx, gs, rfl, h1, lookup_none (by rw [h2]; exact hn), W1, e1, _, B.up bl l, S1, h, fun ds e2 W2 H2 vs h l2 S2 r2 => ?_⟩
  exact ⟨W2, e2.cs, d :: (ds ++ []), _, XX, S2.ok, .cons (R.mono l2 _ _ r) (r2.append .nil), h, fun d cs' W3 H3 v p l3 ok3 r3 => k _ _ _ _ _ p ((l.tr l2).tr l3) ⟨ok3, S2.sl.mono l3⟩ r3, fun y cs' W3 H3 d' px pd l3 ok3 => ⟨y, W3, cs', rfl, pd, B.up bl ((l.tr l2).tr l3), ok3, px⟩⟩
theorem de_methGX0 {pl : Sem Bool} (G : GoodX X.prog X.w X.K X.mg X.base k fn ps sp) (tk : XT X B XX) (hr : Room k X.A) (c : Cls X.K C) (hm : Meth X.K C m fn) (ho : PE X o (lE X.K B te))
    (ht : eval (.Call (.Attribute o m apos) [] [] pos) X.env = (do
      let ov ← eval o X.env
      standAt apos.atName
      let (f, first) ← holding [ov] (getMethod ov m pl)
      callWith pos f first (backTo pos (starEach [] X.env)) (backToKw pos (keywordEach [] X.env))) := by rfl) :
    PE X (.Call (.Attribute o m apos) [] [] pos) (lE X.K B (eMethX C m XX sp [] te aNil)) := by
  obtain ⟨fd, F, b, _⟩ := G
  refine PE.imp (pe_meth0 ho c hm F hr b .nil tk.passes ht) fun σ H Q ⟨W, e, P, bl, S, t, k⟩ => ⟨W, e, _, bl, S, t, fun d e1 W1 H1 v ⟨⟨ns, xs, hi, hn⟩, h⟩ l S1 r => ?_⟩
  obtain ⟨a, dx, gs, rfl, h1, h2, h3⟩ := S1.ok.ins r hi
  refine ⟨a, dx, gs, rfl, h1, lookup_none (by rw [h2]; exact hn), ?_⟩
  exact ⟨W1, e1.cs, [d], _, XX, S1.ok, .cons r .nil, h, fun d cs' W3 H3 v p l3 ok3 r3 => k _ _ _ _ _ p (l.tr l3) ⟨ok3, S1.sl.mono l3⟩ r3, fun y cs' W3 H3 d' px pd l3 ok3 => ⟨y, W3, cs', rfl, pd, B.up bl (l.tr l3), ok3, px⟩⟩
end
theorem goodK_of {P : Program} {w : World} {K : PySem.W.Frag} {mg : Str → Option Value} {base : Heap} {x qual kw : Str} {params : Arguments} {body : List Stmt} {scope : Scope} {f : Addr} {N ps : List Str} {k n : Nat} {dv : V} {dd : D} {sp : SpX} {t : (XN → List Cel → Prop) → DS}
    (F : ∃ fd, FunD K x qual params body scope [] [(kw, dv)] f fd) (S : FnScope N ps scope) (len : ∀ ds cs Q QX, sp ds cs Q QX → ds.length = ps.length) (hn : n + 1 = ps.length) (rd : ∀ W, R K W dv dd)
    (b0 : ∀ (D : Addr) (doc pm : Value) (an : Option Addr) (cdv ct : Value) (us ks : List Value), us.length = n → ks.length = 1 → KwChain D ([kw].zip ks) (bindArgs (PySem.W.fnOf x qual params body scope .none (.ref D) doc pm an cdv ct) ⟨us, []⟩) (ps.zip (us ++ ks)))
    (b1 : ∀ (kV doc pm : Value) (an : Option Addr) (cdv ct : Value) (us ks : List Value), us.length = n → ks.length = 1 → bindArgs (PySem.W.fnOf x qual params body scope .none kV doc pm an cdv ct) ⟨us, [kw].zip ks⟩ = pure (ps.zip (us ++ ks)))
    (der : ∀ (cdv : Value) (A : Around) (outer : List Env) (s : Shared) (H : Hp) (E : XK) (B : Bs) (XX : XN → List Cel → Prop), Room k (A.deeper (envOfC qual scope s.heap.objs.size f cdv)) → XT (cxX P w K mg base N qual scope f cdv A outer s H E) B XX →
      PassesOwn (model P w) (A.deeper (envOfC qual scope s.heap.objs.size f cdv)) (envOfC qual scope s.heap.objs.size f cdv) (cxX P w K mg base N qual scope f cdv A outer s H E).xe → PSs (cxX P w K mg base N qual scope f cdv A outer s H E) body (lS K B (t XX)))
    (vc : ∀ ds cs Q QX, (∀ d ∈ ds, loD cs.length d = true) → (∀ c ∈ cs, c.loD cs.length = true) → sp ds cs Q QX → t (FinX cs QX) (Po.fn cs Q) ⟨startD N ds, cs⟩) : GoodK P w K mg base (k + 1) f ps n kw dd sp := by
  obtain ⟨fd, F⟩ := F
  obtain ⟨us0, rv, b⟩ := F.binds0 (ps := ps) n (by simp) hn fun D doc pm an cdv ct us ks h1 h2 => b0 D doc pm an cdv ct us ks h1 h2
  refine ⟨fd, us0, dv, fn_dX F S len der vc, F.kp, b, rv, rd, ⟨fun s us ws X h1 h2 => ?_, fun r1 r2 => r1.append r2⟩⟩
  obtain ⟨oc, od, dV, kV, doc, pm, an, cdv, ct, osl, rfl, lk, hcd, hD, hK⟩ := F.ex
  rcases hD with ⟨_, rfl⟩ | ⟨e, _⟩
  · exact BindsTo.of_looks fun M => PySem.W.Looks.of_pure (b1 kV doc pm an cdv ct us ws h1 h2)
  · exact absurd rfl e
end DL
/-! strings: sep.join(a list); t + u of any two tuples -/
namespace DL
open PySem PySem.Spec PyProof.Rows L2
open Evl (Ex)
def eJoin (to te : DE) : DE := fun e P => to e fun d e1 => ∃ a : Str, d = .str a ∧ te e1 fun x e2 => ∃ ys : List Str, lk e2.cs x = some (ys.map .str) ∧ (ys.map (·.length)).sum + ys.length * a.length ≤ 16777216 ∧ P (.str (Txt.join a ys)) e2
section
variable {X : Cx} {B : Bs} {o ex : Expr} {to te : DE} {pos apos : Pos}
theorem de_join (ho : PE X o (lE X.K B to)) (he : PE X ex (lE X.K B te)) (hs : starEach [ex] X.env = [(false, eval ex X.env)] := by rfl) (hbase : attributeBase o "join" X.env (eval o X.env) = eval o X.env := by rfl) (hline : (apos.endLine == pos.line) = true := by rfl) :
    PE X (.Call (.Attribute o "join" apos) [ex] [] pos) (lE X.K B (eJoin to te)) := by
  refine PE.imp (pe_join ho he hs hbase hline) fun σ H Q ⟨W, e, P, bl, S, t, k⟩ => ⟨W, e, _, bl, S, t, fun d e1 W1 H1 v ⟨a, hd, t2⟩ l1 S1 r1 => ?_⟩
  subst hd
  cases r1
  refine ⟨⟨a, rfl⟩, W1, e1, _, B.up bl l1, S1, t2, fun x e2 W2 H2 u ⟨ys, hl, hz, p⟩ l2 S2 r2 => ?_⟩
  obtain ⟨q, ws, rfl, h3, h4⟩ := S2.ok.lk r2 hl
  cases RAll.strs_inv h4
  exact ⟨a, q, ys, rfl, rfl, .inl h3, hz, k _ _ _ _ _ p (l1.tr l2) S2 (.str _)⟩
end
/-! t + u -/
def qAddT : D → D → DE := fun x y e P => ∃ xs ys, x = .tup xs ∧ y = .tup ys ∧ xs.length + ys.length ≤ 100000 ∧ P (.tup (xs ++ ys)) e
theorem od_addT {K : PySem.W.Frag} : OpD K (rCatA K) qAddT := by
  rintro W H σ e x y d1 d2 P Q S r1 r2 ⟨xs, ys, rfl, rfl, hz, t⟩ k
  cases r1 with
  | tup h1 q1 =>
    cases r2 with
    | tup h2 q2 =>
      refine ⟨_, _, _, _, rfl, rfl, Evl.ex_t S.ok.ex h1, Evl.ex_t S.ok.ex h2, by rw [q1.length, q2.length]; exact Nat.le_trans hz (by decide), ?_, ?_, ?_⟩
      · exact fun z => k _ _ _ _ _ t W.le_refl S (by
          subst z; cases q1
          exact .tup h2 q2)
      · exact fun _ z => k _ _ _ _ _ t W.le_refl S (by
          subst z; cases q2
          rw [List.append_nil]
          exact .tup h1 q1)
      · exact fun _ _ => newT_ok S (q1.append q2) t k
theorem v_addT {xs ys : List D} {e : En} {P : D → En → Prop} (hz : xs.length + ys.length ≤ 100000) (p : P (.tup (xs ++ ys)) e) : qAddT (.tup xs) (.tup ys) e P := ⟨xs, ys, rfl, rfl, hz, p⟩
end DL
/-! strings: for c in s, str(s), a in s, s.split(t) -/
namespace DL
open PySem PySem.Spec PyProof.Rows L2
open Evl (Ex)
/-! ### for c in a string -/
def chars (x : Str) : List D := x.cps.toList.map fun c => .str ⟨#[c]⟩
theorem chars_len (x : Str) : (chars x).length = x.cps.size := by unfold chars; rw [List.length_map, Array.length_toList]
theorem chars_get {x : Str} {i : Nat} {d : D} (h : (chars x)[i]? = some d) : ∃ c, x.cps[i]? = some c ∧ d = .str ⟨#[c]⟩ := by
  unfold chars at h
  rw [List.getElem?_map, Option.map_eq_some_iff] at h
  obtain ⟨c, h1, rfl⟩ := h
  exact ⟨c, by rw [← Array.getElem?_toList]; exact h1, rfl⟩
theorem wk_str {K : PySem.W.Frag} {W : Wd} {x : Str} : Wk K W (Its x) anyC (chars x) where
  go := fun i W' H σ e l S _ hi => by rw [chars_len] at hi; exact hi
  yld := fun i W' H σ e y H' d l S _ hd yl => by
    obtain ⟨rfl, c, hc, rfl⟩ := yl
    obtain ⟨c', hc', rfl⟩ := chars_get hd
    rw [hc] at hc'
    cases hc'
    exact ⟨W', W'.le_refl, S, .str _⟩
  stop := fun i W' H σ e l S _ hi => by rw [chars_len] at hi; exact hi
def iSt (t : DE) : DI := fun e P => t e fun d e1 => ∃ x : Str, d = .str x ∧ P (chars x) anyC e1
theorem di_str {X : Cx} {B : Bs} {tg ex : Expr} {te : DE} (h : PE X ex (lE X.K B te)) : PI X tg ex (lI X.K B (iSt te)) := PI.imp (pi_str h) fun σ H Q ⟨W, e, P, bl, S, t, k⟩ => by
  refine ⟨W, e, _, bl, S, t, fun d e1 W1 H1 v ⟨x, hd, p⟩ l S1 r => ?_⟩
  subst hd
  cases r
  exact ⟨x, rfl, k _ _ _ _ _ _ p l S1 wk_str⟩
/-! ### str of an integer or a string -/
def rStrA2 : List V → Hp → VK → Prop := fun xs H Q => (∃ i, xs = [.int i] ∧ i.natAbs.log2 < 1920 ∧ Q (.str (toString i)) H) ∨ ∃ a, xs = [.str a] ∧ Q (.str a) H
theorem call_strA2 {X : Cx} : CallR X (.type "str") rStrA2 := call_str_int.or SkE.call_str_str
def qStr2 : List D → DE
  | [.int i] => fun e P => i.natAbs.log2 < 1920 ∧ P (.str (toString i)) e
  | [.str a] => fun e P => P (.str a) e
  | _ => fun _ _ => False
theorem cd_str2 {K : PySem.W.Frag} : CallD K rStrA2 qStr2 := by
  intro W H σ e vs ds P Q S r t k
  unfold qStr2 at t
  split at t
  · obtain ⟨v, rfl, r1⟩ := r.one
    obtain ⟨h, p⟩ := t
    cases r1
    exact .inl ⟨_, rfl, h, k _ _ _ _ _ p W.le_refl S (.str _)⟩
  · obtain ⟨v, rfl, r1⟩ := r.one
    cases r1
    exact .inr ⟨_, rfl, k _ _ _ _ _ t W.le_refl S (.str _)⟩
  · exact t.elim
theorem v_str2I {i : Int} {e : En} {P : D → En → Prop} (h : i.natAbs.log2 < 1920) (p : P (.str (toString i)) e) : qStr2 [.int i] e P := ⟨h, p⟩
/-! ### a in b -/
def inS (a b : Str) : Bool := !(Builtin.Str.occurrences b a 0 b.length 1).isEmpty
def rInS (neg : Bool) : R2 := fun x y H Q => ∃ i j, x = .str i ∧ y = .str j ∧ Q (.bl (if neg then !inS i j else inS i j)) H
theorem op_inS {X : Cx} : OpR X (compareOp .In) (rInS false) := op_in_str
theorem op_notInS {X : Cx} : OpR X (compareOp .NotIn) (rInS true) := op_notin_str
def qInS (neg : Bool) : D → D → DE := fun x y e P => ∃ a b : Str, x = .str a ∧ y = .str b ∧ P (.bl (if neg then !inS a b else inS a b)) e
theorem od_inS {K : PySem.W.Frag} {neg : Bool} : OpD K (rInS neg) (qInS neg) := by
  rintro W H σ e x y d1 d2 P Q S r1 r2 ⟨a, b, rfl, rfl, t⟩ k
  exact ⟨a, b, r1.str_inv, r2.str_inv, k _ _ _ _ _ t W.le_refl S (.bl _)⟩
theorem v_inS {a b : Str} {e : En} {P : D → En → Prop} (p : P (.bl (inS a b)) e) : qInS false (.str a) (.str b) e P := ⟨a, b, rfl, rfl, p⟩
/-! ### x.split(y) -/
theorem strs_all {K : PySem.W.Frag} {W : Wd} : ∀ ys : List Str, RAll K W (ys.map V.str) (ys.map D.str)
  | [] => .nil
  | y :: ys => .cons (.str y) (strs_all ys)
def eSplit (o : Bool) (to te : DE) : DE := fun e P => to e fun d e1 => ∃ a : Str, d = .str a ∧ te e1 fun x e2 => ∃ b : Str, x = .str b ∧ (b.length == 0) = false ∧ a.length ≤ 99998 ∧ newL o ((Txt.split a b).map .str) e2 P
/-! ### x.find(y) -/
def eFind (to te : DE) : DE := fun e P => to e fun d e1 => ∃ a : Str, d = .str a ∧ te e1 fun x e2 => ∃ b : Str, x = .str b ∧ P (.int (Txt.find a b)) e2
section
variable {X : Cx} {B : Bs} {o ex : Expr} {to te : DE} {pos apos : Pos}
theorem de_split {ob : Bool} (ho : PE X o (lE X.K B to)) (he : PE X ex (lE X.K B te)) (hs : starEach [ex] X.env = [(false, eval ex X.env)] := by rfl) (hbase : attributeBase o "split" X.env (eval o X.env) = eval o X.env := by rfl) (hline : (apos.endLine == pos.line) = true := by rfl) :
    PE X (.Call (.Attribute o "split" apos) [ex] [] pos) (lE X.K B (eSplit ob to te)) := by
  refine PE.imp (pe_split ho he hs hbase hline) fun σ H Q ⟨W, e, P, bl, S, t, k⟩ => ⟨W, e, _, bl, S, t, fun d e1 W1 H1 v ⟨a, hd, t2⟩ l1 S1 r1 => ?_⟩
  subst hd
  cases r1
  refine ⟨⟨a, rfl⟩, W1, e1, _, B.up bl l1, S1, t2, fun x e2 W2 H2 u ⟨b, hx, hb, hz, p⟩ l2 S2 r2 => ?_⟩
  subst hx
  cases r2
  exact ⟨a, b, rfl, rfl, hb, Nat.le_trans (Nat.add_le_add_right hz 2) (by decide), newL_ok S2 (strs_all _) p fun d e' W' H' v p' l' S' r' => k _ _ _ _ _ p' ((l1.tr l2).tr l') S' r'⟩
theorem de_find (ho : PE X o (lE X.K B to)) (he : PE X ex (lE X.K B te)) (hs : starEach [ex] X.env = [(false, eval ex X.env)] := by rfl) (hbase : attributeBase o "find" X.env (eval o X.env) = eval o X.env := by rfl) (hline : (apos.endLine == pos.line) = true := by rfl) :
    PE X (.Call (.Attribute o "find" apos) [ex] [] pos) (lE X.K B (eFind to te)) := by
  refine PE.imp (pe_m1 PySem.F.slot_str_find PySem.F.type_str_find mt_find ho he hs hbase hline) fun σ H Q ⟨W, e, P, bl, S, t, k⟩ => ⟨W, e, _, bl, S, t, fun d e1 W1 H1 v ⟨a, hd, t2⟩ l1 S1 r1 => ?_⟩
  subst hd
  cases r1
  refine ⟨⟨a, rfl⟩, W1, e1, _, B.up bl l1, S1, t2, fun x e2 W2 H2 u ⟨b, hx, p⟩ l2 S2 r2 => ?_⟩
  subst hx
  cases r2
  exact ⟨a, b, rfl, rfl, k _ _ _ _ _ p (l1.tr l2) S2 (.int _)⟩
theorem de_strG {x z : Str} {pos : Pos} (hg : Gl X x) (hm : ∃ t, X.mg x = some (.str z t)) (hd : (x == ("__debug__" : Str)) = false := by decide) : PE X (.Name x pos) (lE X.K B (eC (.str z))) := by
  obtain ⟨t, hm⟩ := hm
  exact de_glob hg hm (show RelV (.str z) (.str z t) from ⟨t, rfl⟩) (fun _ => .str z) hd
end
end DL
/-! exceptions that are made as values: C(e), and their field index -/
namespace DL
open PySem PySem.Spec PyProof.Rows L2
open Evl (Ex)

theorem exV_ok {P : Program} {w : World} {H : Hp} {h : Heap} {a C : Addr} {d : Option Addr} {oe : Obj} {vs : Array Value} (e : h.get? a = some oe) (c : oe.cls = .ref C) (q : oe.dict = d) (v : oe.data = .fields vs) : ObjOk P w H h a (exV a C d) :=
  ⟨⟨oe, e, c, q, vs, v⟩, ⟨oe, e⟩, fun _ _ ⟨o, g, r⟩ k => ⟨o, k o g, r⟩⟩
section
variable {X : Cx} {x : Str} {e ex : Expr} {es : List Expr} {ta : TA} {te : TE} {p pos : Pos}
/-- C(e), an own class without own __init__ -/
theorem pe_excV {C : Addr} {bmB : List Value} {B newId initId : String} (F : ExcBaseFacts B newId initId bmB) (q : PySem.W.excIn X.K C bmB newId = true) (gC : X.mg x = some (.ref C)) (kC : PySem.W.keepIn X.K (.ref C) = true) (hg : Gl X x)
    (he : PE X e te) (hs : starEach [e] X.env = (false, eval e X.env) :: starEach [] X.env := by rfl) (hdb : (x == ("__debug__" : Str)) = false := by decide) :
    PE X (.Call (.Name x p) [e] [] pos) (fun σ H Q => te σ H fun _ H1 => ∀ a, H1 a = none → Q (.ref a) (upd H1 a (exV a C none))) := by
  refine ⟨fun pins s σ H Q I h => ?_⟩
  refine wpAny_Call_Name_kw (ld_glob I hg gC ?_ hdb)
  refine PySem.W.callWith_K (h₀ := X.base) I.ok.mod.kin kC ?_ hs (by rfl)
  rw [hs]
  show wpAny _ _ (spliced ((false, eval e X.env) :: backTo pos (starEach [] X.env))) _ _ s
  refine Calls.spliced_cons (thn (he.run pins s σ H _ I h) fun u s1 ⟨v, H1, I1, r1, q1⟩ => ?_)
  refine Calls.spliced_nil ⟨I1.kIn, ?_⟩
  show wpAny _ _ (call (.ref C) [u]) _ _ _
  obtain ⟨bm, N, nm, qn, bs, hdct, sn, sub, ab, col, dd, k0, k1, k2, k3, k5, mN, hC, hN, hni, T⟩ := exc_obj I1.kIn q
  refine wpAny_call_exc_subT F T hC hN hni (fun h' a hm => ?_) (by show 1 ≤ sizeLine; rw [sizeLine_eq]; omega)
  have hn : H1 a = none := I1.hok.gone hm.new
  obtain ⟨t, ht, _, _⟩ := hm.there
  exact ⟨.ref a, upd H1 a (exV a C none), I1.laidN hm.keeps hm.new hn (exV_ok ht rfl rfl rfl), rfl, q1 a hn⟩
/-- the end of C(e): it stays, its dict stands as an exception's dict -/
theorem mk_endV {pins : List (Addr × Obj)} {σ : L2.St} {H1 H2 : Hp} {hp hp2 h2 : Heap} {g1 g2 : Array GenState} {d1 d2 : Drawn} {t1 t2 : Nat} {os1 os2 : OsState} {a C d : Addr} {fs : List (Str × V)} (I1 : Inv X pins σ H1 ⟨hp, g1, d1, t1, os1⟩)
    (ha : hp.objs.size ≤ a) (k : ∀ b o, hp.get? b = some o → hp2.get? b = some o) (un : Un (frs X.stack) [] (upd H1 a (exo a C none)) H2 hp2 h2) (hok : HOk X.prog X.w H2 h2) (ho : os2 = os1) (hb : AllBare g2)
    (ea : H2 a = some (exo a C (some d))) (ed : H2 d = some (exd d fs)) (hd1 : H1 d = none) : Inv X pins σ (upd (upd H2 d (.xd fs)) a (exV a C (some d))) ⟨h2, g2, d2, t2, os2⟩ := by
  obtain ⟨t0, hoe⟩ := exo_at hok ea
  obtain ⟨mA, hns, rel⟩ := exd_at hok ed
  have hn : H1 a = none := I1.hok.fresh ha
  have nha : ∀ {b : Addr} {o : Obj}, hp.get? b = some o → b ≠ a := fun {b o} z => Nat.ne_of_lt (Nat.lt_of_lt_of_le (Heap.lt_size z) ha)
  have up : ∀ {b : Addr}, b ≠ a → H1 b = none → upd H1 a (exo a C none) b = none := fun {b} hb n => by rw [upd_ne hb]; exact n
  have nd : ∀ {b : Addr} {o : Obj}, hp.get? b = some o → H1 b = none → b ≠ d := fun {b o} z n e => by
    have y := un.free b o (k b o z) (up (nha z) n) (by simp)
    rw [e, ed] at y
    cases y
  have U : Un (frs X.stack) [] H1 (upd (upd H2 d (.xd fs)) a (exV a C (some d))) hp h2 := {
    keep := fun b o z n hf hx => un.keep b o (k b o z) (up (nha z) n) hf hx
    slot := fun b o z n hf hx => un.slot b o (k b o z) (up (nha z) n) hf hx
    free := fun b o z n hx => by
      rw [upd_ne (nha z), upd_ne (nd z n)]
      exact un.free b o (k b o z) (up (nha z) n) hx
    there := fun b o z hx => un.there b o (k b o z) hx
    tups := fun b xs z => by
      rw [upd_ne (ne_of_none z hn), upd_ne (ne_of_none z hd1)]
      exact un.tups b xs (by rw [upd_ne (ne_of_none z hn)]; exact z)
    frzs := fun b o v z => by
      rw [upd_ne (ne_of_none z hn), upd_ne (ne_of_none z hd1)]
      exact un.frzs b o v (by rw [upd_ne (ne_of_none z hn)]; exact z)
    tbls := fun b ps z => by
      rw [upd_ne (ne_of_none z hn), upd_ne (ne_of_none z hd1)]
      exact un.tbls b ps (by rw [upd_ne (ne_of_none z hn)]; exact z) }
  refine I1.call' (ch := []) ho U (fun b o z => ?_) hb (fun b z => absurd z (by simp))
  by_cases hba : b = a
  · subst hba
    rw [upd_same] at z
    cases z
    exact exV_ok hoe rfl rfl rfl
  · rw [upd_ne hba] at z
    by_cases hbd : b = d
    · subst hbd
      rw [upd_same] at z
      cases z
      exact ⟨mA, hns, rel⟩
    · rw [upd_ne hbd] at z
      exact (hok b o z).stay (fun c v _ y => y) (fun c hc => by rw [upd_ne (at_ne ea hc exo_own), upd_ne (at_ne ed hc exd_own)]; exact hc) (fun c xs hc => by rw [upd_ne (at_ne ea hc exo_tup), upd_ne (at_ne ed hc exd_tup)]; exact hc)
def tMkV (C : Addr) (sp : Sp) (dvs : List V) (ta : TA) : L2.St → Hp → VK → Prop := fun σ H Q => ta σ H fun vs H1 => vs.length ≤ 1000 ∧ ∀ a, H1 a = none → sp (.ref a :: (vs ++ dvs)) (upd H1 a (exo a C none))
  (fun v H2 => v = .non ∧ ∃ (d : Addr) (fs : List (Str × V)), H2 a = some (exo a C (some d)) ∧ H2 d = some (exd d fs) ∧ H1 d = none ∧ Q (.ref a) (upd (upd H2 d (.xd fs)) a (exV a C (some d)))) (fun _ _ _ => False)
/-- C(e, ..), C having its own __init__ -/
theorem pe_oexV {CX : CXT} {C fI : Addr} {k : Nat} {fd : FuncData} {ps : List Str} {sp : Sp} {ds : List Value} {dvs : List V} (T : OexC X.K C) (iC : PySem.W.findIn X.K (.ref C) "__init__" = some (some (.ref fI))) (tI : PySem.W.typeIn X.K (.ref fI) = some (.type "function"))
    (F1 : FnOk X.prog X.w X.K X.mg X.base CX k fI fd ps sp) (hr : Room (k + 1) X.A) (hb : Binds X.K fd ps ds) (hd : Vals dvs ds) (hx : Passes CX X (fun _ _ _ => False)) (hg : Gl X x) (hm : X.mg x = some (.ref C)) (ha : PA X (e :: es) ta)
    (hdb : (x == ("__debug__" : Str)) = false := by decide) (he : starEach (e :: es) X.env = (false, eval e X.env) :: starEach es X.env := by rfl) (hpl : (backTo pos (starEach es X.env)).any (·.1) = false := by rfl) :
    PE X (.Call (.Name x p) (e :: es) [] pos) (tMkV C sp dvs ta) := by
  refine ⟨fun pins s σ H Q I h => ?_⟩
  obtain ⟨nm, q, N, bs, bm, sn, sub, ab, col, dd, k0, k1, k2, k3, k5, hC, hbm⟩ := T.cls
  refine wpAny_Call_Name_kw (ld_glob I hg hm ?_ hdb)
  refine PySem.W.callWith_K (h₀ := X.base) I.ok.mod.kin T.kC (thn (ha.run pos pins s σ H _ I h) fun us s1 ⟨vs, H1, I1, r1, hz, q1⟩ => ⟨I1.kIn, ?_⟩) he hpl
  show wpAny _ _ (call (.ref C) us) _ _ _
  obtain ⟨hp, g, dr, tk, os⟩ := s1
  have hsz : hp.objs.size ≤ hp.objs.size + 1 := Nat.le_succ _
  have hn : H1 (hp.objs.size + 1) = none := I1.hok.fresh hsz
  have hq := q1 (hp.objs.size + 1) hn
  have kk : ∀ b o, hp.get? b = some o → ((hp.push (PySem.W.kdv_tup us)).push (PySem.HandSPX.excO C hp.objs.size)).get? b = some o := fun b o e => Heap.get?_push_of_some _ (Heap.get?_push_of_some _ e)
  have hget : ((hp.push (PySem.W.kdv_tup us)).push (PySem.HandSPX.excO C hp.objs.size)).get? (hp.objs.size + 1) = some (PySem.HandSPX.excO C hp.objs.size) := by heap_get
  have I2 : Inv X pins σ (upd H1 (hp.objs.size + 1) (exo (hp.objs.size + 1) C none)) ⟨(hp.push (PySem.W.kdv_tup us)).push (PySem.HandSPX.excO C hp.objs.size), g, dr, tk, os⟩ :=
    I1.laid (t' := tk) (a := hp.objs.size + 1) (o := exo (hp.objs.size + 1) C none) (h' := (hp.push (PySem.W.kdv_tup us)).push (PySem.HandSPX.excO C hp.objs.size)) kk hsz (exo_ok hget)
  have r2 : Vals (V.ref (hp.objs.size + 1) :: (vs ++ dvs)) (Value.ref (hp.objs.size + 1) :: (us ++ ds)) := .cons rfl (r1.append hd)
  have hl : (Value.ref (hp.objs.size + 1) :: us ++ ds).length = ps.length := by
    have e := r2.length
    rw [F1.len _ _ _ _ hq] at e
    exact e.symm
  have hus : us.length ≤ sizeLine := by
    rw [← Paired.length r1, sizeLine_eq]
    omega
  refine wpAny_call (PySem.HandSPX.call_own F.excBase_ValueError (fun Y => PySem.HandSPX.refsVE_contains Y bm hbm) (I1.kIn _ _ hC) (PySem.W.looks_findIn I1.kIn iC) (fun self => PySem.W.bind_fn I1.kIn self tI) hus
    (codeAny_mono (F1.run _ X.stack _ _ ⟨Value.ref (hp.objs.size + 1) :: us, []⟩ (Value.ref (hp.objs.size + 1) :: (us ++ ds)) _ _ (fun _ _ _ => False) (hr.make C us []) (I2.env0.make C us []) (hb _ (Value.ref (hp.objs.size + 1) :: us) I2.kIn hl) r2 hq) fun r s' hq' => ?_))
  cases r with
  | error er => exact hx pins σ _ _ er s' I2 hq'
  | ok fl =>
    cases fl with
    | ret u =>
      obtain ⟨v, H2, os2, bare2, un2, hok2, rv, ev, d, fs, ea, ed, hd1, q2⟩ := hq'
      subst ev
      obtain ⟨h2, g2, d2, t2, os'⟩ := s'
      exact ⟨rv, .ref (hp.objs.size + 1), _, mk_endV I1 hsz kk un2 hok2 os2 bare2 ea ed hd1, rfl, q2⟩
    | next => exact False.elim hq'
    | brk => exact False.elim hq'
    | cont => exact False.elim hq'
/-- e.n of such -/
def tXfV (K : PySem.W.Frag) (n : Str) (te : TE) : TE := fun σ H Q => te σ H fun x H1 => ∃ (a C dd : Addr) (fs : List (Str × V)) (v : V), x = .ref a ∧ XfC K C ∧ PySem.W.findIn K (.ref C) n = some none ∧ H1 a = some (exV a C (some dd)) ∧ H1 dd = some (.xd fs) ∧ fs.lookup n = some v ∧ Q v H1
theorem pe_xfV {n : Str} (he : PE X e te) (hb : attributeBase e n X.env (eval e X.env) = eval e X.env := by rfl) : PE X (.Attribute e n pos) (tXfV X.K n te) := by
  refine ⟨fun pins s σ H Q I h => ?_⟩
  refine attr_of hb (thn (he.run pins s σ H _ I h) fun u s1 hh => ?_)
  obtain ⟨x, H1, I1, rx, a, C, dd, fs, v, ex, T, hno, hA, ea, l, q⟩ := hh
  subst ex
  obtain rfl : u = Value.ref a := rx
  obtain ⟨⟨oe, g1, g2, g3, vs, g4⟩, _⟩ := (show ObjOk X.prog X.w H1 s1.heap a (exV a C (some dd)) from I1.hok a _ hA)
  have hx : ObjOk X.prog X.w H1 s1.heap dd (.xd fs) := I1.hok dd _ ea
  obtain ⟨mA, hns, hr⟩ := hx
  obtain ⟨od, ho, hl⟩ := lookIn_ns hns
  obtain ⟨u, hu, ru⟩ := RelO.some_of (v := v) (o := mA n) (by rw [← l]; exact hr n)
  have J : PySem.W.InstAt s1.heap a oe C (some od) := ⟨g1, g2, by unfold PySem.W.notCls; rw [g4] <;> rfl, by rw [g3]; exact ho⟩
  exact HandSPX.exc_get I1.kIn J T.ga T.gg T.exC (PySem.W.findObj_own T.hdC hno rfl (by rw [hl, hu])) (handed_of ru) ⟨v, H1, I1.tok _, ru, q⟩
end
/-! ### by data -/
def eExcV (C : Addr) (te : DE) : DE := fun e P => te e fun _ e1 => P (.exc C none) e1
theorem de_excV {X : Cx} {B : Bs} {c : Str} {ex : Expr} {te : DE} {p pos : Pos} (xo : PySem.W.excIn X.K (He.ga X.K c) He.veBase "ValueError.__new__" = true ∧ PySem.W.keepIn X.K (.ref (He.ga X.K c)) = true ∧ PySem.W.subIn X.K (.ref (He.ga X.K c)) (.type "BaseException") = some true ∧ PySem.W.typeIn X.K (.ref (He.ga X.K c)) = some (.type "type"))
    (gC : X.mg c = some (.ref (He.ga X.K c))) (he : PE X ex (lE X.K B te)) (hg : Gl X c := by rfl) (hs : starEach [ex] X.env = (false, eval ex X.env) :: starEach [] X.env := by rfl) (hdb : (c == ("__debug__" : Str)) = false := by decide) :
    PE X (.Call (.Name c p) [ex] [] pos) (lE X.K B (eExcV (He.ga X.K c) te)) :=
  PE.imp (pe_excV F.excBase_ValueError xo.1 gC xo.2.1 hg he hs hdb) fun σ H Q ⟨W, e, P, bl, S, t, k⟩ => ⟨W, e, _, bl, S, t, fun d e1 W1 H1 v p l S1 r => fun a ha => by
    obtain ⟨ok2, l2⟩ := S1.ok.newF (o := exV a (He.ga X.K c) none) ha
    exact k _ _ _ _ _ p (l.tr l2) ⟨ok2, S1.sl.mono l2⟩ (.exc upd_same rfl)⟩
def eExcI (C : Addr) (te : DE) : DE := fun e P => te e fun d e1 => ∃ i, d = .int i ∧ P (.exc C (some i)) e1
theorem de_excI {X : Cx} {B : Bs} {c : Str} {ex : Expr} {te : DE} {k : Nat} {f : Addr} {p pos : Pos} (G : GoodIx X.prog X.w X.K X.mg X.base k f c) (hr : Room (k + 1) X.A) (gC : X.mg c = some (.ref (He.ga X.K c)))
    (he : PE X ex (lE X.K B te)) (hg : Gl X c := by rfl) (hdb : (c == ("__debug__" : Str)) = false := by decide) (hse : starEach [ex] X.env = (false, eval ex X.env) :: starEach [] X.env := by rfl) (hpl : (backTo pos (starEach ([] : List Expr) X.env)).any (·.1) = false := by rfl) :
    PE X (.Call (.Name c p) [ex] [] pos) (lE X.K B (eExcI (He.ga X.K c) te)) := by
  obtain ⟨fd, F, bi, T, iC, tI⟩ := G
  refine PE.imp (pe_oexV T iC tI F hr bi .nil pass0 hg gC (da_cons he da_nil hse) hdb hse hpl) fun σ H Q h => ?_
  obtain ⟨W, e, P, bl, S, t, k⟩ := h
  refine ⟨W, e, _, bl, S, (show aCons te aNil e (fun ds e1 => ∃ i, ds = [.int i] ∧ P (.exc (He.ga X.K c) (some i)) e1) from ?_), fun ds e1 W1 H1 vs ⟨i, hd, px⟩ l S1 r => ?_⟩
  · show te e fun d e1 => ∃ i, [d] = [D.int i] ∧ P (.exc (He.ga X.K c) (some i)) e1
    have eq : (fun d e1 => ∃ i, [d] = [D.int i] ∧ P (.exc (He.ga X.K c) (some i)) e1) = fun d e1 => ∃ i, d = D.int i ∧ P (.exc (He.ga X.K c) (some i)) e1 := by
      funext d e1
      simp only [List.cons.injEq, and_true]
    rw [eq]
    exact t
  subst hd
  obtain ⟨v, rfl, r1⟩ : ∃ v, vs = [v] ∧ R X.K W1 v (.int i) := by
    cases r with
    | cons r1 r2 => cases r2; exact ⟨_, rfl, r1⟩
  cases r1
  refine ⟨by simp, fun a ha => ⟨a, i, rfl, upd_same, fun dx hdx hne => ⟨rfl, dx, xnF i, upd_same, ?_, ?_, ?_⟩⟩⟩
  · rw [upd_ne hne, upd_same]
  · rw [upd_ne hne] at hdx
    exact hdx
  · rw [upd_ne hne] at hdx
    obtain ⟨ok2, l2⟩ := S1.ok.newF (o := .xd (xnF i)) hdx
    have ha2 : upd H1 dx (.xd (xnF i)) a = none := by rw [upd_ne (Ne.symm hne)]; exact ha
    obtain ⟨ok3, l3⟩ := ok2.newF (o := exV a (He.ga X.K c) (some dx)) ha2
    have eh : upd (upd (upd (upd (upd H1 a (exo a (He.ga X.K c) none)) dx (exd dx (xnF i))) a (exo a (He.ga X.K c) (some dx))) dx (.xd (xnF i))) a (exV a (He.ga X.K c) (some dx)) = upd (upd H1 dx (.xd (xnF i))) a (exV a (He.ga X.K c) (some dx)) := by
      funext b
      by_cases h2 : b = a
      · subst h2
        rw [upd_same, upd_same]
      · rw [upd_ne h2, upd_ne h2]
        by_cases h1 : b = dx
        · subst h1
          rw [upd_same, upd_same]
        · rw [upd_ne h1, upd_ne h1, upd_ne h2, upd_ne h1, upd_ne h2]
    rw [eh]
    exact k _ _ _ _ _ px ((l.tr l2).tr l3) ⟨ok3, S1.sl.mono (l2.tr l3)⟩ (.exc upd_same ⟨dx, rfl, l3.1 _ _ upd_same⟩)
def eXfV (C : Addr) (te : DE) : DE := fun e P => te e fun d e1 => ∃ i, d = .exc C (some i) ∧ P (.int i) e1
theorem de_xfV {X : Cx} {B : Bs} {C : Addr} {ex : Expr} {te : DE} {pos : Pos} (T : XfC X.K C) (hn : PySem.W.findIn X.K (.ref C) "index" = some none) (he : PE X ex (lE X.K B te)) (hb : attributeBase ex "index" X.env (eval ex X.env) = eval ex X.env := by rfl) :
    PE X (.Attribute ex "index" pos) (lE X.K B (eXfV C te)) :=
  PE.imp (pe_xfV he hb) fun σ H Q ⟨W, e, P, bl, S, t, k⟩ => ⟨W, e, _, bl, S, t, fun dd e1 W1 H1 v ⟨i, hd, p⟩ l S1 r => by
    subst hd
    cases r with
    | exc hF hp =>
      obtain ⟨d2, rfl, e2⟩ := hp
      exact ⟨_, C, d2, xnF i, .int i, rfl, T, hn, S1.ok.ex _ _ hF, S1.ok.ex _ _ e2, rfl, k _ _ _ _ _ p l S1 (.int i)⟩⟩
theorem v_excV {C : Addr} {te : DE} {e : En} {P : D → En → Prop} (h : te e fun _ e1 => P (.exc C none) e1) : eExcV C te e P := h
theorem v_excI {C : Addr} {te : DE} {e : En} {P : D → En → Prop} (h : te e fun d e1 => ∃ i, d = .int i ∧ P (.exc C (some i)) e1) : eExcI C te e P := h
theorem v_xfV {C : Addr} {te : DE} {e : En} {P : D → En → Prop} (h : te e fun d e1 => ∃ i, d = .exc C (some i) ∧ P (.int i) e1) : eXfV C te e P := h
end DL
/-! strings: s.partition(t), s.upper() -/
namespace DL
open PySem PySem.Spec PyProof.Rows L2
open Evl (Ex)
def ePart (to te : DE) : DE := fun e P => to e fun d e1 => ∃ a : Str, d = .str a ∧ te e1 fun x e2 => ∃ b : Str, x = .str b ∧ (b.length == 0) = false ∧ a.length ≤ 99998 ∧ P (.tup [.str (Txt.partition a b).1, .str (Txt.partition a b).2.1, .str (Txt.partition a b).2.2]) e2
def eUpper (to : DE) : DE := fun e P => to e fun d e1 => ∃ a : Str, d = .str a ∧ a.length ≤ 99998 ∧ P (.str (Txt.upper a)) e1
section
variable {X : Cx} {B : Bs} {o ex : Expr} {to te : DE} {pos apos : Pos}
theorem de_part (ho : PE X o (lE X.K B to)) (he : PE X ex (lE X.K B te)) (hs : starEach [ex] X.env = [(false, eval ex X.env)] := by rfl) (hbase : attributeBase o "partition" X.env (eval o X.env) = eval o X.env := by rfl) (hline : (apos.endLine == pos.line) = true := by rfl) :
    PE X (.Call (.Attribute o "partition" apos) [ex] [] pos) (lE X.K B (ePart to te)) := by
  refine PE.imp (pe_partition ho he hs hbase hline) fun σ H Q ⟨W, e, P, bl, S, t, k⟩ => ⟨W, e, _, bl, S, t, fun d e1 W1 H1 v ⟨a, hd, t2⟩ l1 S1 r1 => ?_⟩
  subst hd
  cases r1
  refine ⟨⟨a, rfl⟩, W1, e1, _, B.up bl l1, S1, t2, fun x e2 W2 H2 u ⟨b, hx, hb, hz, p⟩ l2 S2 r2 => ?_⟩
  subst hx
  cases r2
  exact ⟨a, b, rfl, rfl, hb, Nat.le_trans hz (by decide), newT_ok S2 (.cons (.str _) (.cons (.str _) (.cons (.str _) .nil))) p fun d e' W' H' v p' l' S' r' => k _ _ _ _ _ p' ((l1.tr l2).tr l') S' r'⟩
theorem de_upper (ho : PE X o (lE X.K B to)) (hbase : attributeBase o "upper" X.env (eval o X.env) = eval o X.env := by rfl) (hline : (apos.endLine == pos.line) = true := by rfl) :
    PE X (.Call (.Attribute o "upper" apos) [] [] pos) (lE X.K B (eUpper to)) := by
  refine PE.imp (pe_upper ho hbase hline) fun σ H Q ⟨W, e, P, bl, S, t, k⟩ => ⟨W, e, _, bl, S, t, fun d e1 W1 H1 v ⟨a, hd, hz, p⟩ l1 S1 r1 => ?_⟩
  subst hd
  cases r1
  exact ⟨⟨a, rfl⟩, a, rfl, rfl, Nat.le_trans hz (by decide), k _ _ _ _ _ p l1 S1 (.str _)⟩
theorem de_callG0 {k : Nat} {fn : Addr} {ps : List Str} {sp : Spc} {x : Str} {p : Pos} (G : Good X.prog X.w X.K X.mg X.base k fn ps sp) (hr : Room k X.A) (hm : X.mg x = some (.ref fn)) (hg : Gl X x := by rfl) (hdb : (x == ("__debug__" : Str)) = false := by decide) :
    PE X (.Call (.Name x p) [] [] pos) (lE X.K B (eCall sp aNil)) := by
  obtain ⟨fd, F, b, kp⟩ := G
  refine PE.imp (pe_call0 F hr hg hm kp b .nil pass0 hdb) fun σ H Q ⟨W, e, P, bl, S, t, kk⟩ => ?_
  exact ⟨W, e.cs, [], _, S.ok, .nil, t, fun d cs' W2 H2 v p l ok r => kk _ _ _ _ _ p l ⟨ok, S.sl.mono l⟩ r⟩
end
end DL
/-! order of nested data -/
namespace DL
open PySem PySem.Spec PyProof.Rows L2
def rOrd (lt : Bool) (neg : Bool) (K : PySem.W.Frag) : R2 := fun x y H Q => ∃ d e, Dp K H x d ∧ Dp K H y e ∧ PySem.W.alike d e = true ∧ d ≠ .none ∧ min d.depth e.depth ≤ 64 ∧ Q (.bl (xor neg (if lt = true then PySem.W.dataLt d e else PySem.W.dataLt e d))) H
section
variable {X : Cx} (hu : X.A.units + 64 < cLine)
include hu
theorem op_ltN : OpR X (compareOp .Lt) (rOrd true false X.K) := by
  intro pins s σ H x y v u Q I rx ry ⟨d, e, hd, he, ha, hn, hm, q⟩
  obtain ⟨as, r1⟩ := Dp.reads I d x v hd rx
  obtain ⟨bs, r2⟩ := Dp.reads I e y u he ry
  rw [Bool.false_xor, if_pos rfl] at q
  exact PySem.W.lt_data r1 r2 ha hn (by omega) ⟨.bl _, H, I, rfl, q⟩
theorem op_gtN : OpR X (compareOp .Gt) (rOrd false false X.K) := by
  intro pins s σ H x y v u Q I rx ry ⟨d, e, hd, he, ha, hn, hm, q⟩
  obtain ⟨as, r1⟩ := Dp.reads I d x v hd rx
  obtain ⟨bs, r2⟩ := Dp.reads I e y u he ry
  rw [Bool.false_xor, if_neg (by decide)] at q
  exact PySem.W.gt_data r1 r2 ha hn (by omega) ⟨.bl _, H, I, rfl, q⟩
theorem op_leN : OpR X (compareOp .LtE) (rOrd false true X.K) := by
  intro pins s σ H x y v u Q I rx ry ⟨d, e, hd, he, ha, hn, hm, q⟩
  obtain ⟨as, r1⟩ := Dp.reads I d x v hd rx
  obtain ⟨bs, r2⟩ := Dp.reads I e y u he ry
  rw [Bool.true_xor, if_neg (by decide)] at q
  exact PySem.W.le_data r1 r2 ha hn (by omega) ⟨.bl _, H, I, rfl, q⟩
theorem op_geN : OpR X (compareOp .GtE) (rOrd true true X.K) := by
  intro pins s σ H x y v u Q I rx ry ⟨d, e, hd, he, ha, hn, hm, q⟩
  obtain ⟨as, r1⟩ := Dp.reads I d x v hd rx
  obtain ⟨bs, r2⟩ := Dp.reads I e y u he ry
  rw [Bool.true_xor, if_pos rfl] at q
  exact PySem.W.ge_data r1 r2 ha hn (by omega) ⟨.bl _, H, I, rfl, q⟩
end
/-- the answer of an order of data -/
def ordD (lt neg : Bool) (x y : D) : Bool := xor neg (if lt = true then PySem.W.dataLt (toP x) (toP y) else PySem.W.dataLt (toP y) (toP x))
def qOrd (lt neg : Bool) : D → D → DE := fun x y e P => shp (drf e.cs x) = true ∧ shp (drf e.cs y) = true ∧ PySem.W.alike (toP (drf e.cs x)) (toP (drf e.cs y)) = true ∧ toP (drf e.cs x) ≠ .none ∧ min (toP (drf e.cs x)).depth (toP (drf e.cs y)).depth ≤ 64 ∧ P (.bl (ordD lt neg (drf e.cs x) (drf e.cs y))) e
theorem od_ord {lt neg : Bool} {K : PySem.W.Frag} : OpD K (rOrd lt neg K) (qOrd lt neg) := by
  intro W H σ e x y d1 d2 P Q S r1 r2 ⟨h1, h2, ha, hn, hm, t⟩ k
  obtain ⟨o1, s1⟩ := shp_and h1
  obtain ⟨o2, s2⟩ := shp_and h2
  exact ⟨_, _, S.ok.dp r1 o1, S.ok.dp r2 o2, ha, hn, hm, k _ _ _ _ _ t W.le_refl S (.bl _)⟩
end DL
namespace DL
open PySem PySem.Spec PyProof.Rows L2
/-! ### tuples with changing lists in them -/
def drf2 (cs : List Cel) : D → D
  | .tup xs => .tup (xs.map (drf cs))
  | d => drf cs d
theorem dp_all {K : PySem.W.Frag} {W : Wd} {H : Hp} {cs : List Cel} (h : Ok K W H cs) : ∀ {xs : List D} {vs : List V}, RAll K W vs xs → okDs (xs.map (drf cs)) = true → DpAll K H vs (toPs (xs.map (drf cs)))
  | [], _, r, _ => by cases r; exact .nil
  | x :: xs, _, r, o => by
    cases r with
    | cons r1 r2 =>
      have o' : (okD (drf cs x) && okDs (xs.map (drf cs))) = true := o
      rw [Bool.and_eq_true] at o'
      exact .cons (h.dp r1 o'.1) (dp_all h r2 o'.2)
theorem Ok.dp2 {K : PySem.W.Frag} {W : Wd} {H : Hp} {cs : List Cel} (h : Ok K W H cs) {d : D} {v : V} (r : R K W v d) (o : okD (drf2 cs d) = true) : Dp K H v (toP (drf2 cs d)) := by
  cases d with
  | tup xs =>
    cases r with
    | tup hs ha => exact .tup (Evl.ex_t h.ex hs) (dp_all h ha o)
  | _ => exact h.dp r o
def qOrd2 (lt neg : Bool) : D → D → DE := fun x y e P => shp (drf2 e.cs x) = true ∧ shp (drf2 e.cs y) = true ∧ PySem.W.alike (toP (drf2 e.cs x)) (toP (drf2 e.cs y)) = true ∧ toP (drf2 e.cs x) ≠ .none ∧ min (toP (drf2 e.cs x)).depth (toP (drf2 e.cs y)).depth ≤ 64 ∧ P (.bl (ordD lt neg (drf2 e.cs x) (drf2 e.cs y))) e
theorem od_ord2 {lt neg : Bool} {K : PySem.W.Frag} : OpD K (rOrd lt neg K) (qOrd2 lt neg) := by
  intro W H σ e x y d1 d2 P Q S r1 r2 ⟨h1, h2, ha, hn, hm, t⟩ k
  obtain ⟨o1, s1⟩ := shp_and h1
  obtain ⟨o2, s2⟩ := shp_and h2
  exact ⟨_, _, S.ok.dp2 r1 o1, S.ok.dp2 r2 o2, ha, hn, hm, k _ _ _ _ _ t W.le_refl S (.bl _)⟩
def qEq2 : D → D → DE := fun x y e P => shp (drf2 e.cs x) = true ∧ shp (drf2 e.cs y) = true ∧ P (.bl (PyData.eqv (toP (drf2 e.cs x)) (toP (drf2 e.cs y)))) e
theorem od_eq2 {K : PySem.W.Frag} : OpD K (rEqD K) qEq2 := by
  intro W H σ e x y d1 d2 P Q S r1 r2 ⟨h1, h2, t⟩ k
  obtain ⟨o1, s1⟩ := shp_and h1
  obtain ⟨o2, s2⟩ := shp_and h2
  exact ⟨_, _, S.ok.dp2 r1 o1, S.ok.dp2 r2 o2, s1, s2, k _ _ _ _ _ t W.le_refl S (.bl _)⟩
end DL
namespace LW
open PySem PySem.Spec PyProof.Rows L2 DL
open Evl (Ex)
/-! ### what each def promises -/
def isI : D → Bool
  | .int _ => true
  | _ => false
def okC (b r : Int) (c : List Int) : Bool := decide ((c.length : Int) = r) && c.all fun n => decide (0 ≤ n) && decide (n < b)
def shN : List Str := ["held_base", "held_rows", "held_columns", "size"]
def shD (K : PySem.W.Frag) (b r : Int) (cols : List (List Int)) : D := .ins (He.ga K "Sheet") shN [.int b, .int r, .lst (cols.map encC), .int cols.length]
def isSh (K : PySem.W.Frag) (cs : List Cel) (d : D) (b r : Int) (cols : List (List Int)) : Prop := ∃ hc, insD cs d = some (He.ga K "Sheet", shN, [.int b, .int r, hc, .int cols.length]) ∧ lk cs hc = some (cols.map encC) ∧ ∀ ys, hc ≠ .fro ys
structure Gd (b r : Int) (cols : List (List Int)) : Prop where
  b2 : 2 ≤ b
  b12 : b ≤ 12
  r1 : 1 ≤ r
  r4 : r ≤ 4
  c : ∀ c ∈ cols, okC b r c = true
  n : cols.length ≤ 1000
abbrev shC (K : PySem.W.Frag) (b r : Int) (m : Nat) (z : Int) : Cel := .ins (He.ga K "Sheet") shN [.int b, .int r, .cell m, .int z]
def sp_is_integer (K : PySem.W.Frag) : Spc := fun ds cs P => ∃ d, ds = [d] ∧ (∃ a, tyN cs d = some a) ∧ P (.bl (isI d)) cs
def sp_Sheet_init (K : PySem.W.Frag) : Spc := fun ds cs P => ∃ n d cols b r, ds = [.cell n, .int b, .int r, d] ∧ cs[n]? = some (.ins (He.ga K "Sheet") [] []) ∧ lk cs d = some (cols.map encC) ∧ (∀ ys, d ≠ .fro ys) ∧ Gd b r cols ∧
  (P .non (cs.set n (.ins (He.ga K "Sheet") shN [.int b, .int r, .lst (cols.map encC), .int cols.length])) ∨
    P .non (cs.set n (.ins (He.ga K "Sheet") shN [.int b, .int r, .cell cs.length, .int cols.length]) ++ [.lst (cols.map encC)]))
def sp_Sheet_columns (K : PySem.W.Frag) : Spc := fun ds cs P => ∃ (d : D) (b r : Int) (cols : List (List Int)), ds = [d] ∧ isSh K cs d b r cols ∧ fresh (cols.map encC) cs P
abbrev deckC (a b c : Int) : Cel := .lst [.int a, .int b, .int c]
def sp_law_deck (K : PySem.W.Frag) : Spc := fun ds cs P => ∃ n : Int, ds = [.int n] ∧ ∀ a b c : Int, P (.cell cs.length) (cs ++ [deckC a b c])
def sp_law_draw (K : PySem.W.Frag) : Spc := fun ds cs P => ∃ n m a b c, ds = [.cell n, .int m] ∧ cs[n]? = some (deckC a b c) ∧ 0 < m ∧ m ≤ 1000000000 ∧ ∀ r a' b' : Int, 0 ≤ r → r < m → P (.int r) (cs.set n (deckC a' b' c))
def sp_law_column (K : PySem.W.Frag) : Spc := fun ds cs P => ∃ n b r a x c, ds = [.cell n, .int b, .int r] ∧ cs[n]? = some (deckC a x c) ∧ 2 ≤ b ∧ b ≤ 12 ∧ 1 ≤ r ∧ r ≤ 4 ∧
  ∀ col a' x', okC b r col = true → P (encC col) (cs.set n (deckC a' x' c))
def sp_law_cells (K : PySem.W.Frag) : Spc := fun ds cs P => ∃ ns : List Int, ds = [.fro (ns.map .int)] ∧ ∀ ms : List Int, ms.length ≤ 63 → ms ≠ [] → P (.lst (ms.map .int)) cs
def sp_Sheet_base (K : PySem.W.Frag) : Spc := fun ds cs P => ∃ (d : D) (b r : Int) (cols : List (List Int)), ds = [d] ∧ isSh K cs d b r cols ∧ P (.int b) cs
def sp_Sheet_rows (K : PySem.W.Frag) : Spc := fun ds cs P => ∃ (d : D) (b r : Int) (cols : List (List Int)), ds = [d] ∧ isSh K cs d b r cols ∧ P (.int r) cs
def sp_law_columns (K : PySem.W.Frag) : Spc := fun ds cs P => ∃ n b r m a x c, ds = [.cell n, .int b, .int r, .int m] ∧ cs[n]? = some (deckC a x c) ∧ 2 ≤ b ∧ b ≤ 12 ∧ 1 ≤ r ∧ r ≤ 4 ∧ 0 ≤ m ∧ m ≤ 900 ∧
  ∀ cols a' x', Gd b r cols → (cols.length : Int) ≤ 6 + m → fresh (cols.map encC) (cs.set n (deckC a' x' c)) P
/-! a deed, asked of any plain value -/
def plT : D → Bool
  | .non => true
  | .bl _ => true
  | .int _ => true
  | .str _ => true
  | .tup _ => true
  | .lst _ => true
  | .dct => true
  | _ => false
def layH : List D → Bool
  | .str w :: _ => (PyData.str w).canLay0
  | _ => true
/-- a plain value, and what it holds -/
def okV : D → Bool
  | .tup xs => decide (xs.length ≤ 1000) && (xs.all plT && layH xs)
  | d => plT d
/-! a column, asked of any plain value -/
def figB (b : Int) : D → Bool
  | .int i => decide (0 ≤ i) && decide (i < b)
  | _ => false
def sp_is_column (K : PySem.W.Frag) : Spc := fun ds cs P => ∃ (v : D) (b r : Int), ds = [v, .int b, .int r] ∧ ((∃ c : List Int, v = encC c ∧ c.length ≤ 1000 ∧ P (.bl (okC b r c)) cs) ∨
  (∃ xs, v = .tup xs ∧ xs.length ≤ 1000 ∧ (∀ x ∈ xs, okV x = true) ∧ P (.bl (decide ((xs.length : Int) = r) && xs.all (figB b))) cs) ∨ ((∃ T, tyN cs v = some T ∧ T ≠ "tuple") ∧ P (.bl false) cs))
/-! texts -/
def numS (i : Int) : Str := toString i
def codeF (f : Int) : Nat := if f < 10 then 48 + f.toNat else 87 + f.toNat
def figC (f : Int) : Str := ⟨#[codeF f]⟩
def figsS (fs : List Int) : Str := if fs = [] then "-" else Txt.join "" (fs.map figC)
def rowF (cols : List (List Int)) (j : Nat) : List Int := cols.reverse.map fun c => c.getD j 0
def txtW (b r : Int) (cols : List (List Int)) : List Str := (numS b ++ ":") :: (List.range r.toNat).map fun j => figsS (rowF cols j)
def txtS (b r : Int) (cols : List (List Int)) : Str := Txt.join " " (txtW b r cols)
/-- no run without a space is longer -/
def Wb (k : Nat) (l : List Nat) : Prop := ∀ a b c, l = a ++ (b ++ c) → 32 ∉ b → b.length ≤ k
/-- a text of so many signs -/
structure Tx (L k : Nat) (s : Str) : Prop where
  n : s.length ≤ L
  a : ∀ c ∈ TL.tl s, c < 128
  w : Wb k (TL.tl s)
noncomputable def isN (w : Str) : Bool := @decide (∃ n : Nat, w = numS (n : Nat)) (Classical.propDecidable _)
def noStr (v : D) : Prop := ∃ T, (∀ cs, tyN cs v = some T) ∧ T ≠ "str"
/-- a text of a sheet -/
def IsT (s : Str) (b r : Int) (cols : List (List Int)) : Prop := Gd b r cols ∧ cols.length ≤ 150 ∧ s = txtS b r cols
def Vw (v : D) : Prop := (∃ s, v = .str s ∧ Tx 700 150 s) ∨ noStr v
def sp_law_text (K : PySem.W.Frag) : Spc := fun ds cs P => ∃ (n : Nat) (a b c : Int), ds = [.cell n] ∧ cs[n]? = some (deckC a b c) ∧ ∀ (s : Str) (a' b' : Int), Tx 140 26 s → P (.str s) (cs.set n (deckC a' b' c))
def sp_law_spoilt (K : PySem.W.Frag) : Spc := fun ds cs P => ∃ (n : Nat) (a b c : Int) (s : Str) (L k : Nat), ds = [.cell n, .str s] ∧ cs[n]? = some (deckC a b c) ∧ Tx L k s ∧ L ≤ 10000 ∧ 1 ≤ k ∧ ∀ (s' : Str) (a' b' : Int), Tx (2 * L + 2) (2 * k + 2) s' → P (.str s') (cs.set n (deckC a' b' c))
def sp_law_near (K : PySem.W.Frag) : Spc := fun ds cs P => ∃ (n : Nat) (a b c : Int), ds = [.cell n] ∧ cs[n]? = some (deckC a b c) ∧ ∀ (v : D) (a' b' : Int), Vw v → (∀ k, loD k v = true) → P v (cs.set n (deckC a' b' c))
def sp_is_number (K : PySem.W.Frag) : Spc := fun ds cs P => ∃ w : Str, ds = [.str w] ∧ (∀ c ∈ TL.tl w, c < 128) ∧ w.length ≤ 10000 ∧ P (.bl (isN w)) cs
def sp_show_figures (K : PySem.W.Frag) : Spc := fun ds cs P => ∃ fs : List Int, ds = [.lst (fs.map .int)] ∧ (∀ f ∈ fs, 0 ≤ f ∧ f < 12) ∧ fs.length ≤ 150 ∧ P (.str (figsS fs)) cs
def sp_show_sheet (K : PySem.W.Frag) : Spc := fun ds cs P => ∃ (d : D) (b r : Int) (cols : List (List Int)), ds = [d] ∧ isSh K cs d b r cols ∧ Gd b r cols ∧ cols.length ≤ 150 ∧ P (.str (txtS b r cols)) cs
def sp_read_sheet (K : PySem.W.Frag) : SpX := fun ds cs P PX => ∃ v : D, ds = [v] ∧ ((noStr v ∧ PX ⟨"InvalidText", none⟩ cs) ∨ ∃ s, v = .str s ∧ Tx 700 150 s ∧ (∀ b r cols, IsT s b r cols → P (shD K b r cols) cs) ∧ ((∀ b r cols, ¬ IsT s b r cols) → PX ⟨"InvalidText", none⟩ cs))
def sp_law_read (K : PySem.W.Frag) : Spc := fun ds cs P => ∃ v : D, ds = [v] ∧ ((noStr v ∧ P (.lst [.bl true, .bl true, .bl false]) cs) ∨ ∃ s, v = .str s ∧ Tx 700 150 s ∧ (∀ b r cols, IsT s b r cols → P (shD K b r cols) cs) ∧ ((∀ b r cols, ¬ IsT s b r cols) → P (.lst [.bl true, .bl true, .bl false]) cs))
def sp_law_is_text (K : PySem.W.Frag) : Spc := fun ds cs P => ∃ v : D, ds = [v] ∧ ((noStr v ∧ P (.bl false) cs) ∨ ∃ s, v = .str s ∧ Tx 700 150 s ∧ (∀ b r cols, IsT s b r cols → P (.bl true) cs) ∧ ((∀ b r cols, ¬ IsT s b r cols) → P (.bl false) cs))
def sp_law_right (K : PySem.W.Frag) : Spc := fun ds cs P => ∃ v : D, ds = [v] ∧ Vw v ∧ P (.bl true) cs
def sp_law (K : PySem.W.Frag) : Spc := spLaw
abbrev Lo (ds : List D) (cs : List Cel) : Prop := (∀ d ∈ ds, loD cs.length d = true)
abbrev LoC (cs : List Cel) : Prop := (∀ c ∈ cs, c.loD cs.length = true)
structure Txt (K : PySem.W.Frag) (mg : Str → Option Value) : Prop where
  g_law_cells : mg "_law_cells" = some (.ref (He.ga K "_law_cells"))
  g_law_deck : mg "_law_deck" = some (.ref (He.ga K "_law_deck"))
  g_law_draw : mg "_law_draw" = some (.ref (He.ga K "_law_draw"))
  g_law_text : mg "_law_text" = some (.ref (He.ga K "_law_text"))
  g_law_spoilt : mg "_law_spoilt" = some (.ref (He.ga K "_law_spoilt"))
  g_law_near : mg "_law_near" = some (.ref (He.ga K "_law_near"))
  g_law_right : mg "_law_right" = some (.ref (He.ga K "_law_right"))
  g_law_columns : mg "_law_columns" = some (.ref (He.ga K "_law_columns"))
  g_law_column : mg "_law_column" = some (.ref (He.ga K "_law_column"))
  g_law_read : mg "_law_read" = some (.ref (He.ga K "_law_read"))
  g_law_is_text : mg "_law_is_text" = some (.ref (He.ga K "_law_is_text"))
  g_show_sheet : mg "show_sheet" = some (.ref (He.ga K "show_sheet"))
  g_SlipError : mg "SlipError" = some (.ref (He.ga K "SlipError"))
  g_read_sheet : mg "read_sheet" = some (.ref (He.ga K "read_sheet"))
  g_InvalidSheet : mg "InvalidSheet" = some (.ref (He.ga K "InvalidSheet"))
  g_InvalidCommand : mg "InvalidCommand" = some (.ref (He.ga K "InvalidCommand"))
  g_InvalidKind : mg "InvalidKind" = some (.ref (He.ga K "InvalidKind"))
  g_InvalidLot : mg "InvalidLot" = some (.ref (He.ga K "InvalidLot"))
  g_InvalidSlips : mg "InvalidSlips" = some (.ref (He.ga K "InvalidSlips"))
  g_InvalidColumn : mg "InvalidColumn" = some (.ref (He.ga K "InvalidColumn"))
  g_NotAlike : mg "NotAlike" = some (.ref (He.ga K "NotAlike"))
  g_NotPossible : mg "NotPossible" = some (.ref (He.ga K "NotPossible"))
  g_NotReady : mg "NotReady" = some (.ref (He.ga K "NotReady"))
  g_NothingToUndo : mg "NothingToUndo" = some (.ref (He.ga K "NothingToUndo"))
  g_TooMany : mg "TooMany" = some (.ref (He.ga K "TooMany"))
  g_Waits : mg "Waits" = some (.ref (He.ga K "Waits"))
  g_InvalidText : mg "InvalidText" = some (.ref (He.ga K "InvalidText"))
  g_is_number : mg "is_number" = some (.ref (He.ga K "is_number"))
  g_Sheet : mg "Sheet" = some (.ref (He.ga K "Sheet"))
  g_is_integer : mg "is_integer" = some (.ref (He.ga K "is_integer"))
  g_is_column : mg "is_column" = some (.ref (He.ga K "is_column"))
  g_show_figures : mg "show_figures" = some (.ref (He.ga K "show_figures"))
  g_law : mg "law" = some (.ref (He.ga K "law"))
  n_int : mg "int" = none
  n_str : mg "str" = none
  n_range : mg "range" = none
  n_tuple : mg "tuple" = none
  n_len : mg "len" = none
  n_isinstance : mg "isinstance" = none
  ic_Sheet : C8.InsC K (He.ga K "Sheet")
  kb_list : ∀ p ∈ ([("Sheet", false)] : List (Str × Bool)), PySem.W.kitOne K (.ref (He.ga K p.1)) (.type "list") = some p.2
  n_list : mg "list" = none
  xm_SlipError : ∀ p ∈ ([("InvalidText", true)] : List (Str × Bool)), PySem.W.exmOne K (.ref (He.ga K p.1)) (.ref (He.ga K "SlipError")) = some p.2
  xc_InvalidText : ExcC K (He.ga K "InvalidText")
  nx_InvalidText : PySem.W.findIn K (.ref (He.ga K "InvalidText")) "index" = some none
  ka_InvalidSheet_InvalidCommand_InvalidKind_InvalidLot_InvalidSlips_InvalidColumn : ∀ p ∈ ([("InvalidText", false)] : List (Str × Bool)), PySem.W.kitAny K (.ref (He.ga K p.1)) (List.map (fun x => .ref (He.ga K x)) (["InvalidSheet", "InvalidCommand", "InvalidKind", "InvalidLot", "InvalidSlips", "InvalidColumn"] : List Str)) = some p.2
  ka_NotAlike_NotPossible_NotReady_NothingToUndo_TooMany_Waits : ∀ p ∈ ([("InvalidText", false)] : List (Str × Bool)), PySem.W.kitAny K (.ref (He.ga K p.1)) (List.map (fun x => .ref (He.ga K x)) (["NotAlike", "NotPossible", "NotReady", "NothingToUndo", "TooMany", "Waits"] : List Str)) = some p.2
  n_ValueError : mg "ValueError" = none
  kb_ValueError : ∀ p ∈ ([("InvalidText", true)] : List (Str × Bool)), PySem.W.kitOne K (.ref (He.ga K p.1)) (.type "ValueError") = some p.2
  ko_InvalidText : ∀ p ∈ ([("InvalidText", true)] : List (Str × Bool)), PySem.W.kitOne K (.ref (He.ga K p.1)) (.ref (He.ga K "InvalidText")) = some p.2
  xo_InvalidText : PySem.W.excIn K (He.ga K "InvalidText") He.veBase "ValueError.__new__" = true ∧ PySem.W.keepIn K (.ref (He.ga K "InvalidText")) = true ∧ PySem.W.subIn K (.ref (He.ga K "InvalidText")) (.type "BaseException") = some true ∧ PySem.W.typeIn K (.ref (He.ga K "InvalidText")) = some (.type "type")
  n_all : mg "all" = none
  c_Sheet : Cls K (He.ga K "Sheet")
  mk_Sheet : Mk K (He.ga K "Sheet") (He.ma K (He.ga K "Sheet") "__init__")
  xg_FIGURES : ∃ t, mg "FIGURES" = some (.str "0123456789ab" t)
  xg_DIGITS : ∃ t, mg "DIGITS" = some (.str "0123456789" t)
  na_Sheet_held_base : NoAttr K (He.ga K "Sheet") "held_base"
  na_Sheet_held_rows : NoAttr K (He.ga K "Sheet") "held_rows"
  na_Sheet_held_columns : NoAttr K (He.ga K "Sheet") "held_columns"
  na_Sheet_size : NoAttr K (He.ga K "Sheet") "size"
  n_bool : mg "bool" = none
  p_Sheet_columns : PropOf K (He.ga K "Sheet") "columns" (He.ma K (He.ga K "Sheet") "columns") (pga K (He.ga K "Sheet") "columns")
  p_Sheet_base : PropOf K (He.ga K "Sheet") "base" (He.ma K (He.ga K "Sheet") "base") (pga K (He.ga K "Sheet") "base")
  p_Sheet_rows : PropOf K (He.ga K "Sheet") "rows" (He.ma K (He.ga K "Sheet") "rows") (pga K (He.ga K "Sheet") "rows")
  F_law_cells : ∃ fd, FunD K "_law_cells" "_law_cells" (defArgs s_law_cells) (defBody s_law_cells) (defScope s_law_cells) [] [] (He.ga K "_law_cells") fd
  F_law_deck : ∃ fd, FunD K "_law_deck" "_law_deck" (defArgs s_law_deck) (defBody s_law_deck) (defScope s_law_deck) [] [] (He.ga K "_law_deck") fd
  F_law_draw : ∃ fd, FunD K "_law_draw" "_law_draw" (defArgs s_law_draw) (defBody s_law_draw) (defScope s_law_draw) [] [] (He.ga K "_law_draw") fd
  F_law_column : ∃ fd, FunD K "_law_column" "_law_column" (defArgs s_law_column) (defBody s_law_column) (defScope s_law_column) [] [] (He.ga K "_law_column") fd
  F_law_columns : ∃ fd, FunD K "_law_columns" "_law_columns" (defArgs s_law_columns) (defBody s_law_columns) (defScope s_law_columns) [] [] (He.ga K "_law_columns") fd
  F_law_text : ∃ fd, FunD K "_law_text" "_law_text" (defArgs s_law_text) (defBody s_law_text) (defScope s_law_text) [] [] (He.ga K "_law_text") fd
  F_law_spoilt : ∃ fd, FunD K "_law_spoilt" "_law_spoilt" (defArgs s_law_spoilt) (defBody s_law_spoilt) (defScope s_law_spoilt) [] [] (He.ga K "_law_spoilt") fd
  F_law_near : ∃ fd, FunD K "_law_near" "_law_near" (defArgs s_law_near) (defBody s_law_near) (defScope s_law_near) [] [] (He.ga K "_law_near") fd
  F_is_number : ∃ fd, FunD K "is_number" "is_number" (defArgs s_is_number) (defBody s_is_number) (defScope s_is_number) [] [] (He.ga K "is_number") fd
  F_is_integer : ∃ fd, FunD K "is_integer" "is_integer" (defArgs s_is_integer) (defBody s_is_integer) (defScope s_is_integer) [] [] (He.ga K "is_integer") fd
  F_is_column : ∃ fd, FunD K "is_column" "is_column" (defArgs s_is_column) (defBody s_is_column) (defScope s_is_column) [] [] (He.ga K "is_column") fd
  F_Sheet_init : ∃ fd, FunD K "__init__" "Sheet.__init__" (defArgs s_Sheet_init) (defBody s_Sheet_init) (defScope s_Sheet_init) [] [] (He.ma K (He.ga K "Sheet") "__init__") fd
  F_read_sheet : ∃ fd, FunD K "read_sheet" "read_sheet" (defArgs s_read_sheet) (defBody s_read_sheet) (defScope s_read_sheet) [] [] (He.ga K "read_sheet") fd
  F_law_read : ∃ fd, FunD K "_law_read" "_law_read" (defArgs s_law_read) (defBody s_law_read) (defScope s_law_read) [] [] (He.ga K "_law_read") fd
  F_law_is_text : ∃ fd, FunD K "_law_is_text" "_law_is_text" (defArgs s_law_is_text) (defBody s_law_is_text) (defScope s_law_is_text) [] [] (He.ga K "_law_is_text") fd
  F_Sheet_columns : ∃ fd, FunD K "columns" "Sheet.columns" (defArgs s_Sheet_columns) (defBody s_Sheet_columns) (defScope s_Sheet_columns) [] [] (pga K (He.ga K "Sheet") "columns") fd
  F_Sheet_base : ∃ fd, FunD K "base" "Sheet.base" (defArgs s_Sheet_base) (defBody s_Sheet_base) (defScope s_Sheet_base) [] [] (pga K (He.ga K "Sheet") "base") fd
  F_Sheet_rows : ∃ fd, FunD K "rows" "Sheet.rows" (defArgs s_Sheet_rows) (defBody s_Sheet_rows) (defScope s_Sheet_rows) [] [] (pga K (He.ga K "Sheet") "rows") fd
  F_show_figures : ∃ fd, FunD K "show_figures" "show_figures" (defArgs s_show_figures) (defBody s_show_figures) (defScope s_show_figures) [] [] (He.ga K "show_figures") fd
  F_show_sheet : ∃ fd, FunD K "show_sheet" "show_sheet" (defArgs s_show_sheet) (defBody s_show_sheet) (defScope s_show_sheet) [] [] (He.ga K "show_sheet") fd
  F_law_right : ∃ fd, FunD K "_law_right" "_law_right" (defArgs s_law_right) (defBody s_law_right) (defScope s_law_right) [] [] (He.ga K "_law_right") fd
  F_law : ∃ fd, FunD K "law" "law" (defArgs s_law) (defBody s_law) (defScope s_law) [] [] (He.ga K "law") fd
section
variable {P : Program} {w : World} {K : PySem.W.Frag} {mg : Str → Option Value} {base : Heap}
def t_law_cells (K : PySem.W.Frag) : DS := (sSeq (sIf (eTest (eBin qEq (eV 0) (eLst false aNil))) (sRet (eLst false (aCons (eC (.int 0)) aNil))) sNext) (sRet (eSl false (eV 0) oNone (oSome (eC (.int 63))))))
theorem d_law_cells (T : Txt K mg) : ∀ (cdv : Value) (A : Around) (outer : List Env) (s : Shared) (H : Hp) (E : XK) (B : Bs), Room 1 (A.deeper (envOfC "_law_cells" (defScope s_law_cells) s.heap.objs.size (He.ga K "_law_cells") cdv)) → PSs (cx0 P w K mg base N_law_cells "_law_cells" (defScope s_law_cells) (He.ga K "_law_cells") cdv A outer s H E) (defBody s_law_cells) (lS K B (t_law_cells K)) := by
  intro cdv A outer s H E B hr
  exact (dss_cons (ds_if (dt_cmp (op_eqD hr.units) od_eq (dv 0) (de_lst (o := false) da_nil) (nomark _)) (dss_one (ds_ret (de_lst (o := false) (da_cons de_int da_nil)))) dss_nil) (dss_one (ds_ret (de_slice (o := false) (dv 0) do_none (do_some de_int)))))
def t_law_deck (K : PySem.W.Frag) : DS := (sSeq (sIf (eTest (eBin qGe (eV 0) (eBin (qPow) (eC (.int 10)) (eC (.int 18))))) (sRet (eLst true (aCons (eBin (qSub) (eV 0) (eBin (qPow) (eC (.int 10)) (eC (.int 18)))) (aCons (eC (.int 0)) (aCons (eC (.int 1)) aNil))))) sNext) (sRet (eLst true (aCons (eC (.int 0)) (aCons (eC (.int 0)) (aCons (eBin (qAdd false) (eBin (qMod) (eCB qInt (aCons (eV 0) aNil)) (eC (.int 2147483629))) (eC (.int 2))) aNil))))))
theorem d_law_deck (T : Txt K mg) : ∀ (cdv : Value) (A : Around) (outer : List Env) (s : Shared) (H : Hp) (E : XK) (B : Bs), Room 1 (A.deeper (envOfC "_law_deck" (defScope s_law_deck) s.heap.objs.size (He.ga K "_law_deck") cdv)) → PSs (cx0 P w K mg base N_law_deck "_law_deck" (defScope s_law_deck) (He.ga K "_law_deck") cdv A outer s H E) (defBody s_law_deck) (lS K B (t_law_deck K)) := by
  intro cdv A outer s H E B hr
  exact (dss_cons (ds_if (dt_cmp op_ge od_ge (dv 0) (de_bin op_pow od_pow de_int de_int) (nomark _)) (dss_one (ds_ret (de_lst (o := true) (da_cons (de_bin op_sub od_sub (dv 0) (de_bin op_pow od_pow de_int de_int)) (da_cons de_int (da_cons de_int da_nil)))))) dss_nil) (dss_one (ds_ret (de_lst (o := true) (da_cons de_int (da_cons de_int (da_cons (de_bin op_addA (od_add (o := false)) (de_bin op_mod od_mod (de_callTy call_intA cd_int rfl T.n_int bt_int (da_cons (dv 0) da_nil)) de_int) de_int) da_nil)))))))
def t_law_draw (K : PySem.W.Frag) : DS := (sSeq (sIf (eTest (eBin qGt (eBin qIx (eV 0) (eC (.int 0))) (eC (.int 0)))) (sSeq (sAsg (eBin (qMod) (eCB qInt (aCons (eBin qIx (eV 0) (eC (.int 0))) aNil)) (eV 1)) 2) (sSeq (sSub (eBin (qFdiv) (eBin qIx (eV 0) (eC (.int 0))) (eV 1)) (eV 0) (eC (.int 0))) (sRet (eV 2)))) sNext) (sSeq (sSub (eBin (qAdd false) (eBin qIx (eV 0) (eC (.int 1))) (eC (.int 1))) (eV 0) (eC (.int 1))) (sSeq (sAsg (eBin (qMod) (eCB qInt (aCons (eBin (qAdd false) (eBin (qMul) (eBin qIx (eV 0) (eC (.int 2))) (eC (.int 48271))) (eBin (qMul) (eBin qIx (eV 0) (eC (.int 1))) (eC (.int 69621)))) aNil)) (eC (.int 2147483647))) 3) (sSeq (sAsg (eBin (qMod) (eCB qInt (aCons (eBin (qAdd false) (eBin (qMul) (eV 3) (eV 3)) (eBin qIx (eV 0) (eC (.int 1)))) aNil)) (eC (.int 2147483629))) 3) (sSeq (sAsg (eBin (qMod) (eCB qInt (aCons (eBin (qMul) (eV 3) (eC (.int 40692))) aNil)) (eC (.int 2147483399))) 3) (sRet (eBin (qMod) (eCB qInt (aCons (eBin (qFdiv) (eV 3) (eC (.int 8))) aNil)) (eV 1))))))))
theorem d_law_draw (T : Txt K mg) : ∀ (cdv : Value) (A : Around) (outer : List Env) (s : Shared) (H : Hp) (E : XK) (B : Bs), Room 1 (A.deeper (envOfC "_law_draw" (defScope s_law_draw) s.heap.objs.size (He.ga K "_law_draw") cdv)) → PSs (cx0 P w K mg base N_law_draw "_law_draw" (defScope s_law_draw) (He.ga K "_law_draw") cdv A outer s H E) (defBody s_law_draw) (lS K B (t_law_draw K)) := by
  intro cdv A outer s H E B hr
  exact (dss_cons (ds_if (dt_cmp op_gt od_gt (de_ix (dv 0) de_int (fun _ _ => rfl)) de_int (nomark _)) (dss_cons (ds_set (i := 2) sc_law_draw.nd rfl (Or.inl rfl) (de_bin op_mod od_mod (de_callTy call_intA cd_int rfl T.n_int bt_int (da_cons (de_ix (dv 0) de_int (fun _ _ => rfl)) da_nil)) (dv 1))) (dss_cons (ds_sub (de_bin op_fdivA od_fdiv (de_ix (dv 0) de_int (fun _ _ => rfl)) (dv 1)) (dv 0) de_int) (dss_one (ds_ret (dv 2))))) dss_nil) (dss_cons (ds_sub (de_bin op_addA (od_add (o := false)) (de_ix (dv 0) de_int (fun _ _ => rfl)) de_int) (dv 0) de_int) (dss_cons (ds_set (i := 3) sc_law_draw.nd rfl (Or.inl rfl) (de_bin op_mod od_mod (de_callTy call_intA cd_int rfl T.n_int bt_int (da_cons (de_bin op_addA (od_add (o := false)) (de_bin op_mulA od_mul (de_ix (dv 0) de_int (fun _ _ => rfl)) de_int) (de_bin op_mulA od_mul (de_ix (dv 0) de_int (fun _ _ => rfl)) de_int)) da_nil)) de_int)) (dss_cons (ds_set (i := 3) sc_law_draw.nd rfl (Or.inl rfl) (de_bin op_mod od_mod (de_callTy call_intA cd_int rfl T.n_int bt_int (da_cons (de_bin op_addA (od_add (o := false)) (de_bin op_mulA od_mul (dv 3) (dv 3)) (de_ix (dv 0) de_int (fun _ _ => rfl))) da_nil)) de_int)) (dss_cons (ds_set (i := 3) sc_law_draw.nd rfl (Or.inl rfl) (de_bin op_mod od_mod (de_callTy call_intA cd_int rfl T.n_int bt_int (da_cons (de_bin op_mulA od_mul (dv 3) de_int) da_nil)) de_int)) (dss_one (ds_ret (de_bin op_mod od_mod (de_callTy call_intA cd_int rfl T.n_int bt_int (da_cons (de_bin op_fdivA od_fdiv (dv 3) de_int) da_nil)) (dv 1)))))))))
def t_law_column (K : PySem.W.Frag) : DS := (sSeq (sAsg (eCall (sp_law_draw K) (aCons (eV 0) (aCons (eC (.int 5)) aNil))) 3) (sSeq (sAsg (eLc false (iR1 (aCons (eV 2) aNil)) (.one 5) dYes (eCall (sp_law_draw K) (aCons (eV 0) (aCons (eV 1) aNil))) [5]) 4) (sSeq (sIf (eTest (eBin qEq (eV 3) (eC (.int 0)))) (sAsg (eLc false (iR1 (aCons (eV 2) aNil)) (.one 5) dYes (eC (.int 0)) [5]) 4) sNext) (sSeq (sIf (eTest (eBin qEq (eV 3) (eC (.int 1)))) (sAsg (eLc false (iR1 (aCons (eV 2) aNil)) (.one 5) dYes (eBin (qSub) (eV 1) (eC (.int 1))) [5]) 4) sNext) (sRet (eCB qTuple (aCons (eV 4) aNil)))))))
theorem d_law_column (T : Txt K mg) (G_law_draw : Good P w K mg base 2 (He.ga K "_law_draw") ["deck", "many"] (sp_law_draw K)) : ∀ (cdv : Value) (A : Around) (outer : List Env) (s : Shared) (H : Hp) (E : XK) (B : Bs), Room 4 (A.deeper (envOfC "_law_column" (defScope s_law_column) s.heap.objs.size (He.ga K "_law_column") cdv)) → PSs (cx0 P w K mg base N_law_column "_law_column" (defScope s_law_column) (He.ga K "_law_column") cdv A outer s H E) (defBody s_law_column) (lS K B (t_law_column K)) := by
  intro cdv A outer s H E B hr
  exact (dss_cons (ds_set (i := 3) sc_law_column.nd rfl (Or.inl rfl) (de_callG G_law_draw (hr.mono (by decide)) T.g_law_draw (da_cons (dv 0) (da_cons de_int da_nil)))) (dss_cons (ds_setLc (o := false) (i := 4) (own := [("j", 5)]) (tg := (.one 5)) rfl sc_law_column.nd rfl rfl (sw_true rfl rfl rfl (by decide +kernel)) (di_range1 rfl T.n_range (da_cons (dv 2) da_nil)) (blkOk_by (own := [("j", 5)]) (N := N_law_column) (sc := defScope s_law_column) (by decide +kernel)) (by decide) (fun _ _ _ _ _ => (pg_name (i := 5) sc_law_column.nd rfl (Or.inl rfl))) (fun _ _ _ _ _ => dts_nil) (fun _ _ _ _ _ => (de_callG G_law_draw (hr.mono (by decide)) T.g_law_draw (da_cons (dv 0) (da_cons (dv 1) da_nil))))) (dss_cons (ds_if (dt_cmp (op_eqD hr.units) od_eq (dv 3) de_int (nomark _)) (dss_one (ds_setLc (o := false) (i := 4) (own := [("j", 5)]) (tg := (.one 5)) rfl sc_law_column.nd rfl rfl (sw_true rfl rfl rfl (by decide +kernel)) (di_range1 rfl T.n_range (da_cons (dv 2) da_nil)) (blkOk_by (own := [("j", 5)]) (N := N_law_column) (sc := defScope s_law_column) (by decide +kernel)) (by decide) (fun _ _ _ _ _ => (pg_name (i := 5) sc_law_column.nd rfl (Or.inl rfl))) (fun _ _ _ _ _ => dts_nil) (fun _ _ _ _ _ => de_int))) dss_nil) (dss_cons (ds_if (dt_cmp (op_eqD hr.units) od_eq (dv 3) de_int (nomark _)) (dss_one (ds_setLc (o := false) (i := 4) (own := [("j", 5)]) (tg := (.one 5)) rfl sc_law_column.nd rfl rfl (sw_true rfl rfl rfl (by decide +kernel)) (di_range1 rfl T.n_range (da_cons (dv 2) da_nil)) (blkOk_by (own := [("j", 5)]) (N := N_law_column) (sc := defScope s_law_column) (by decide +kernel)) (by decide) (fun _ _ _ _ _ => (pg_name (i := 5) sc_law_column.nd rfl (Or.inl rfl))) (fun _ _ _ _ _ => dts_nil) (fun _ _ _ _ _ => (de_bin op_sub od_sub (dv 1) de_int)))) dss_nil) (dss_one (ds_ret (de_callTy call_tupleA cd_tuple rfl T.n_tuple bt_tuple (da_cons (dv 4) da_nil))))))))
def t_law_columns (K : PySem.W.Frag) : DS := (sSeq (sAsg (eCall (sp_law_draw K) (aCons (eV 0) (aCons (eC (.int 7)) aNil))) 4) (sSeq (sIf (eTest (eBin qEq (eCall (sp_law_draw K) (aCons (eV 0) (aCons (eC (.int 3)) aNil))) (eC (.int 0)))) (sAsg (eCall (sp_law_draw K) (aCons (eV 0) (aCons (eBin (qAdd false) (eV 3) (eC (.int 1))) aNil))) 4) sNext) (sRet (eLc true (iR1 (aCons (eV 4) aNil)) (.one 5) dYes (eCall (sp_law_column K) (aCons (eV 0) (aCons (eV 1) (aCons (eV 2) aNil)))) [5]))))
theorem d_law_columns (T : Txt K mg) (G_law_draw : Good P w K mg base 2 (He.ga K "_law_draw") ["deck", "many"] (sp_law_draw K)) (G_law_column : Good P w K mg base 5 (He.ga K "_law_column") ["deck", "base", "rows"] (sp_law_column K)) : ∀ (cdv : Value) (A : Around) (outer : List Env) (s : Shared) (H : Hp) (E : XK) (B : Bs), Room 7 (A.deeper (envOfC "_law_columns" (defScope s_law_columns) s.heap.objs.size (He.ga K "_law_columns") cdv)) → PSs (cx0 P w K mg base N_law_columns "_law_columns" (defScope s_law_columns) (He.ga K "_law_columns") cdv A outer s H E) (defBody s_law_columns) (lS K B (t_law_columns K)) := by
  intro cdv A outer s H E B hr
  exact (dss_cons (ds_set (i := 4) sc_law_columns.nd rfl (Or.inl rfl) (de_callG G_law_draw (hr.mono (by decide)) T.g_law_draw (da_cons (dv 0) (da_cons de_int da_nil)))) (dss_cons (ds_if (dt_cmp (op_eqD hr.units) od_eq (de_callG G_law_draw (hr.mono (by decide)) T.g_law_draw (da_cons (dv 0) (da_cons de_int da_nil))) de_int (nomark _)) (dss_one (ds_set (i := 4) sc_law_columns.nd rfl (Or.inl rfl) (de_callG G_law_draw (hr.mono (by decide)) T.g_law_draw (da_cons (dv 0) (da_cons (de_bin op_addA (od_add (o := false)) (dv 3) de_int) da_nil))))) dss_nil) (dss_one (ds_ret (de_lc (o := true) (own := [("i", 5)]) (tg := (.one 5)) rfl sc_law_columns.nd (di_range1 rfl T.n_range (da_cons (dv 4) da_nil)) (blkOk_by (own := [("i", 5)]) (N := N_law_columns) (sc := defScope s_law_columns) (by decide +kernel)) (by decide) (fun _ _ _ _ _ => (pg_name (i := 5) sc_law_columns.nd rfl (Or.inl rfl))) (fun _ _ _ _ _ => dts_nil) (fun _ _ _ _ _ => (de_callG G_law_column (hr.mono (by decide)) T.g_law_column (da_cons (dv 0) (da_cons (dv 1) (da_cons (dv 2) da_nil))))))))))
def t_law_text (K : PySem.W.Frag) : DS := (sSeq (sAsg (eBin (qAdd false) (eC (.int 2)) (eCall (sp_law_draw K) (aCons (eV 0) (aCons (eC (.int 11)) aNil)))) 1) (sSeq (sAsg (eBin (qAdd false) (eC (.int 1)) (eCall (sp_law_draw K) (aCons (eV 0) (aCons (eC (.int 4)) aNil)))) 2) (sSeq (sAsg (eCall (sp_law_columns K) (aCons (eV 0) (aCons (eV 1) (aCons (eV 2) (aCons (eC (.int 20)) aNil))))) 3) (sSeq (sAsg (eBin (qAdd false) (eCB qStr2 (aCons (eV 1) aNil)) (eC (.str ":"))) 4) (sSeq (sFor (iR1 (aCons (eV 2) aNil)) (.one 5) (sSeq (sAsg (eJoin (eC (.str "")) (eLc false (iS (eV 3)) (.one 7) dYes (eBin qIx (eC (.str "0123456789ab")) (eBin qIx (eV 7) (eV 5))) [7])) 6) (sSeq (sIf (eTest (eBin qEq (eV 3) (eLst false aNil))) (sAsg (eC (.str "-")) 6) sNext) (sAsg (eBin (qAdd false) (eBin (qAdd false) (eV 4) (eC (.str " "))) (eV 6)) 4)))) (sRet (eV 4)))))))
theorem d_law_text (T : Txt K mg) (G_law_draw : Good P w K mg base 2 (He.ga K "_law_draw") ["deck", "many"] (sp_law_draw K)) (G_law_columns : Good P w K mg base 8 (He.ga K "_law_columns") ["deck", "base", "rows", "most"] (sp_law_columns K)) : ∀ (cdv : Value) (A : Around) (outer : List Env) (s : Shared) (H : Hp) (E : XK) (B : Bs), Room 10 (A.deeper (envOfC "_law_text" (defScope s_law_text) s.heap.objs.size (He.ga K "_law_text") cdv)) → PSs (cx0 P w K mg base N_law_text "_law_text" (defScope s_law_text) (He.ga K "_law_text") cdv A outer s H E) (defBody s_law_text) (lS K B (t_law_text K)) := by
  intro cdv A outer s H E B hr
  exact (dss_cons (ds_set (i := 1) sc_law_text.nd rfl (Or.inl rfl) (de_bin op_addA (od_add (o := false)) de_int (de_callG G_law_draw (hr.mono (by decide)) T.g_law_draw (da_cons (dv 0) (da_cons de_int da_nil))))) (dss_cons (ds_set (i := 2) sc_law_text.nd rfl (Or.inl rfl) (de_bin op_addA (od_add (o := false)) de_int (de_callG G_law_draw (hr.mono (by decide)) T.g_law_draw (da_cons (dv 0) (da_cons de_int da_nil))))) (dss_cons (ds_set (i := 3) sc_law_text.nd rfl (Or.inl rfl) (de_callG G_law_columns (hr.mono (by decide)) T.g_law_columns (da_cons (dv 0) (da_cons (dv 1) (da_cons (dv 2) (da_cons de_int da_nil)))))) (dss_cons (ds_set (i := 4) sc_law_text.nd rfl (Or.inl rfl) (de_bin op_addA (od_add (o := false)) (de_callTy call_strA2 cd_str2 rfl T.n_str bt_str (da_cons (dv 1) da_nil)) de_str)) (dss_cons (ds_for (tg := (.one 5)) PassesOwn.never rfl (di_range1 rfl T.n_range (da_cons (dv 2) da_nil)) (pg_name (i := 5) sc_law_text.nd rfl (Or.inr rfl)) (dss_cons (ds_set (i := 6) sc_law_text.nd rfl (Or.inl rfl) (de_join de_str (de_lc (o := false) (own := [("column", 7)]) (tg := (.one 7)) rfl sc_law_text.nd (di_any (dv 3)) (blkOk_by (own := [("column", 7)]) (N := N_law_text) (sc := defScope s_law_text) (by decide +kernel)) (by decide) (fun _ _ _ _ _ => (pg_name (i := 7) sc_law_text.nd rfl (Or.inl rfl))) (fun _ _ _ _ _ => dts_nil) (fun _ _ _ _ _ => (de_ix de_str (de_ix (dv 7) (dv 5) (fun _ _ => rfl)) (fun _ _ => rfl)))))) (dss_cons (ds_if (dt_cmp (op_eqD hr.units) od_eq (dv 3) (de_lst (o := false) da_nil) (nomark _)) (dss_one (ds_set (i := 6) sc_law_text.nd rfl (Or.inl rfl) de_str)) dss_nil) (dss_one (ds_set (i := 4) sc_law_text.nd rfl (Or.inl rfl) (de_bin op_addA (od_add (o := false)) (de_bin op_addA (od_add (o := false)) (dv 4) de_str) (dv 6))))))) (dss_one (ds_ret (dv 4))))))))
def t_law_spoilt (K : PySem.W.Frag) : DS := (sSeq (sAsg (eCall (sp_law_draw K) (aCons (eV 0) (aCons (eC (.int 8)) aNil))) 2) (sSeq (sAsg (eCall (sp_law_draw K) (aCons (eV 0) (aCons (eBin (qAdd false) (eCB qLen (aCons (eV 1) aNil)) (eC (.int 1))) aNil))) 3) (sSeq (sAsg (eBin (qAdd false) (eV 3) (eCall (sp_law_draw K) (aCons (eV 0) (aCons (eBin (qSub) (eBin (qAdd false) (eCB qLen (aCons (eV 1) aNil)) (eC (.int 1))) (eV 3)) aNil)))) 4) (sSeq (sAsg (eC (.str "0123456789abc:,- ABtfs.+_~!")) 5) (sSeq (sAsg (eBin qIx (eV 5) (eCall (sp_law_draw K) (aCons (eV 0) (aCons (eCB qLen (aCons (eV 5) aNil)) aNil)))) 6) (sSeq (sIf (eTest (eBin qEq (eV 2) (eC (.int 0)))) (sRet (eBin (qAdd false) (eBin (qAdd false) (eSl false (eV 1) oNone (oSome (eV 3))) (eV 6)) (eSl false (eV 1) (oSome (eV 3)) oNone))) sNext) (sSeq (sIf (eTest (eBin qEq (eV 2) (eC (.int 1)))) (sRet (eBin (qAdd false) (eSl false (eV 1) oNone (oSome (eV 3))) (eSl false (eV 1) (oSome (eBin (qAdd false) (eV 3) (eC (.int 1)))) oNone))) sNext) (sSeq (sIf (eTest (eBin qEq (eV 2) (eC (.int 2)))) (sRet (eBin (qAdd false) (eBin (qAdd false) (eSl false (eV 1) oNone (oSome (eV 3))) (eV 6)) (eSl false (eV 1) (oSome (eBin (qAdd false) (eV 3) (eC (.int 1)))) oNone))) sNext) (sSeq (sIf (eTest (eBin qEq (eV 2) (eC (.int 3)))) (sSeq (sAsg (eBin (qAdd false) (eSl false (eV 1) (oSome (eBin (qAdd false) (eV 3) (eC (.int 1)))) (oSome (eBin (qAdd false) (eV 3) (eC (.int 2))))) (eSl false (eV 1) (oSome (eV 3)) (oSome (eBin (qAdd false) (eV 3) (eC (.int 1)))))) 7) (sRet (eBin (qAdd false) (eBin (qAdd false) (eSl false (eV 1) oNone (oSome (eV 3))) (eV 7)) (eSl false (eV 1) (oSome (eBin (qAdd false) (eV 3) (eC (.int 2)))) oNone)))) sNext) (sSeq (sIf (eTest (eBin qEq (eV 2) (eC (.int 4)))) (sRet (eBin (qAdd false) (eSl false (eV 1) oNone (oSome (eV 3))) (eSl false (eV 1) (oSome (eV 4)) oNone))) sNext) (sSeq (sIf (eTest (eBin qEq (eV 2) (eC (.int 5)))) (sRet (eSl false (eV 1) (oSome (eV 3)) (oSome (eV 4)))) sNext) (sSeq (sIf (eTest (eBin qEq (eV 2) (eC (.int 6)))) (sRet (eBin (qAdd false) (eSl false (eV 1) oNone (oSome (eV 4))) (eSl false (eV 1) (oSome (eV 3)) oNone))) sNext) (sSeq (sAsg (eLst false (aCons (eBin (qAdd false) (eV 1) (eC (.str " "))) (aCons (eBin (qAdd false) (eC (.str " ")) (eV 1)) (aCons (eBin (qAdd false) (eV 1) (eV 6)) (aCons (eBin (qAdd false) (eV 6) (eV 1)) (aCons (eUpper (eV 1)) (aCons (eBin (qAdd false) (eV 1) (eV 1)) aNil))))))) 8) (sRet (eBin qIx (eV 8) (eCall (sp_law_draw K) (aCons (eV 0) (aCons (eCB qLen (aCons (eV 8) aNil)) aNil))))))))))))))))))
theorem d_law_spoilt (T : Txt K mg) (G_law_draw : Good P w K mg base 2 (He.ga K "_law_draw") ["deck", "many"] (sp_law_draw K)) : ∀ (cdv : Value) (A : Around) (outer : List Env) (s : Shared) (H : Hp) (E : XK) (B : Bs), Room 4 (A.deeper (envOfC "_law_spoilt" (defScope s_law_spoilt) s.heap.objs.size (He.ga K "_law_spoilt") cdv)) → PSs (cx0 P w K mg base N_law_spoilt "_law_spoilt" (defScope s_law_spoilt) (He.ga K "_law_spoilt") cdv A outer s H E) (defBody s_law_spoilt) (lS K B (t_law_spoilt K)) := by
  intro cdv A outer s H E B hr
  exact (dss_cons (ds_set (i := 2) sc_law_spoilt.nd rfl (Or.inl rfl) (de_callG G_law_draw (hr.mono (by decide)) T.g_law_draw (da_cons (dv 0) (da_cons de_int da_nil)))) (dss_cons (ds_set (i := 3) sc_law_spoilt.nd rfl (Or.inl rfl) (de_callG G_law_draw (hr.mono (by decide)) T.g_law_draw (da_cons (dv 0) (da_cons (de_bin op_addA (od_add (o := false)) (de_callB call_lenA cd_len rfl T.n_len bt_len (da_cons (dv 1) da_nil)) de_int) da_nil)))) (dss_cons (ds_set (i := 4) sc_law_spoilt.nd rfl (Or.inl rfl) (de_bin op_addA (od_add (o := false)) (dv 3) (de_callG G_law_draw (hr.mono (by decide)) T.g_law_draw (da_cons (dv 0) (da_cons (de_bin op_sub od_sub (de_bin op_addA (od_add (o := false)) (de_callB call_lenA cd_len rfl T.n_len bt_len (da_cons (dv 1) da_nil)) de_int) (dv 3)) da_nil))))) (dss_cons (ds_set (i := 5) sc_law_spoilt.nd rfl (Or.inl rfl) de_str) (dss_cons (ds_set (i := 6) sc_law_spoilt.nd rfl (Or.inl rfl) (de_ix (dv 5) (de_callG G_law_draw (hr.mono (by decide)) T.g_law_draw (da_cons (dv 0) (da_cons (de_callB call_lenA cd_len rfl T.n_len bt_len (da_cons (dv 5) da_nil)) da_nil))) (fun _ _ => rfl))) (dss_cons (ds_if (dt_cmp (op_eqD hr.units) od_eq (dv 2) de_int (nomark _)) (dss_one (ds_ret (de_bin op_addA (od_add (o := false)) (de_bin op_addA (od_add (o := false)) (de_slice (o := false) (dv 1) do_none (do_some (dv 3))) (dv 6)) (de_slice (o := false) (dv 1) (do_some (dv 3)) do_none)))) dss_nil) (dss_cons (ds_if (dt_cmp (op_eqD hr.units) od_eq (dv 2) de_int (nomark _)) (dss_one (ds_ret (de_bin op_addA (od_add (o := false)) (de_slice (o := false) (dv 1) do_none (do_some (dv 3))) (de_slice (o := false) (dv 1) (do_some (de_bin op_addA (od_add (o := false)) (dv 3) de_int)) do_none)))) dss_nil) (dss_cons (ds_if (dt_cmp (op_eqD hr.units) od_eq (dv 2) de_int (nomark _)) (dss_one (ds_ret (de_bin op_addA (od_add (o := false)) (de_bin op_addA (od_add (o := false)) (de_slice (o := false) (dv 1) do_none (do_some (dv 3))) (dv 6)) (de_slice (o := false) (dv 1) (do_some (de_bin op_addA (od_add (o := false)) (dv 3) de_int)) do_none)))) dss_nil) (dss_cons (ds_if (dt_cmp (op_eqD hr.units) od_eq (dv 2) de_int (nomark _)) (dss_cons (ds_set (i := 7) sc_law_spoilt.nd rfl (Or.inl rfl) (de_bin op_addA (od_add (o := false)) (de_slice (o := false) (dv 1) (do_some (de_bin op_addA (od_add (o := false)) (dv 3) de_int)) (do_some (de_bin op_addA (od_add (o := false)) (dv 3) de_int))) (de_slice (o := false) (dv 1) (do_some (dv 3)) (do_some (de_bin op_addA (od_add (o := false)) (dv 3) de_int))))) (dss_one (ds_ret (de_bin op_addA (od_add (o := false)) (de_bin op_addA (od_add (o := false)) (de_slice (o := false) (dv 1) do_none (do_some (dv 3))) (dv 7)) (de_slice (o := false) (dv 1) (do_some (de_bin op_addA (od_add (o := false)) (dv 3) de_int)) do_none))))) dss_nil) (dss_cons (ds_if (dt_cmp (op_eqD hr.units) od_eq (dv 2) de_int (nomark _)) (dss_one (ds_ret (de_bin op_addA (od_add (o := false)) (de_slice (o := false) (dv 1) do_none (do_some (dv 3))) (de_slice (o := false) (dv 1) (do_some (dv 4)) do_none)))) dss_nil) (dss_cons (ds_if (dt_cmp (op_eqD hr.units) od_eq (dv 2) de_int (nomark _)) (dss_one (ds_ret (de_slice (o := false) (dv 1) (do_some (dv 3)) (do_some (dv 4))))) dss_nil) (dss_cons (ds_if (dt_cmp (op_eqD hr.units) od_eq (dv 2) de_int (nomark _)) (dss_one (ds_ret (de_bin op_addA (od_add (o := false)) (de_slice (o := false) (dv 1) do_none (do_some (dv 4))) (de_slice (o := false) (dv 1) (do_some (dv 3)) do_none)))) dss_nil) (dss_cons (ds_set (i := 8) sc_law_spoilt.nd rfl (Or.inl rfl) (de_lst (o := false) (da_cons (de_bin op_addA (od_add (o := false)) (dv 1) de_str) (da_cons (de_bin op_addA (od_add (o := false)) de_str (dv 1)) (da_cons (de_bin op_addA (od_add (o := false)) (dv 1) (dv 6)) (da_cons (de_bin op_addA (od_add (o := false)) (dv 6) (dv 1)) (da_cons (de_upper (dv 1)) (da_cons (de_bin op_addA (od_add (o := false)) (dv 1) (dv 1)) da_nil)))))))) (dss_one (ds_ret (de_ix (dv 8) (de_callG G_law_draw (hr.mono (by decide)) T.g_law_draw (da_cons (dv 0) (da_cons (de_callB call_lenA cd_len rfl T.n_len bt_len (da_cons (dv 8) da_nil)) da_nil))) (fun _ _ => rfl)))))))))))))))))
def t_law_near (K : PySem.W.Frag) : DS := (sSeq (sAsg (eLst false (aCons (eC (.str "")) (aCons (eC (.str "10")) (aCons (eC (.str "10:")) (aCons (eC (.str "10: ")) (aCons (eC (.str "10:-")) (aCons (eC (.str "10: - 0")) (aCons (eC (.str "10: 0 -")) (aCons (eC (.str "10: --")) (aCons (eC (.str "10: 1 2 3 4 5")) (aCons (eC (.str "10: 1  2")) (aCons (eC (.str "10 : 1 2")) aNil)))))))))))) 1) (sSeq (sAsg (eBin (qAdd false) (eV 1) (eLst false (aCons (eC (.str "010: 1")) (aCons (eC (.str "1: 0")) (aCons (eC (.str "13: 1")) (aCons (eC (.str "0: 0")) (aCons (eC (.str "00: -")) (aCons (eC (.str "2: 2")) (aCons (eC (.str "10: a")) (aCons (eC (.str "11: A")) (aCons (eC (.str "12: 1b c")) (aCons (eC (.str "10:: 1")) (aCons (eC (.str ": 1")) aNil))))))))))))) 1) (sSeq (sAsg (eBin (qAdd false) (eV 1) (eLst false (aCons (eC (.str "+10: 1")) (aCons (eC (.str "-2: 1")) (aCons (eC (.str "10: 1,2")) (aCons (eC (.str "10: 12 3")) (aCons (eC (.str "10: 1 23")) (aCons (eC (.str "a: 1")) (aCons (eC (.str "10: - - - - -")) (aCons (eC (.str "3: 12 0 ")) (aCons (eC (.str "10:1 1")) aNil))))))))))) 1) (sSeq (sAsg (eBin (qAdd false) (eV 1) (eLst false (aCons (eC .non) (aCons (eC (.int 10)) (aCons (eC (.bl true)) (aCons (eLst false (aCons (eC (.str "10: 1")) aNil)) (aCons (eTup (aCons (eC (.str "10: 1")) aNil)) (aCons (eC (.int 0)) (aCons (eLst false aNil) aNil))))))))) 1) (sRet (eBin qIx (eV 1) (eCall (sp_law_draw K) (aCons (eV 0) (aCons (eCB qLen (aCons (eV 1) aNil)) aNil)))))))))
theorem d_law_near (T : Txt K mg) (G_law_draw : Good P w K mg base 2 (He.ga K "_law_draw") ["deck", "many"] (sp_law_draw K)) : ∀ (cdv : Value) (A : Around) (outer : List Env) (s : Shared) (H : Hp) (E : XK) (B : Bs), Room 4 (A.deeper (envOfC "_law_near" (defScope s_law_near) s.heap.objs.size (He.ga K "_law_near") cdv)) → PSs (cx0 P w K mg base N_law_near "_law_near" (defScope s_law_near) (He.ga K "_law_near") cdv A outer s H E) (defBody s_law_near) (lS K B (t_law_near K)) := by
  intro cdv A outer s H E B hr
  exact (dss_cons (ds_set (i := 1) sc_law_near.nd rfl (Or.inl rfl) (de_lst (o := false) (da_cons de_str (da_cons de_str (da_cons de_str (da_cons de_str (da_cons de_str (da_cons de_str (da_cons de_str (da_cons de_str (da_cons de_str (da_cons de_str (da_cons de_str da_nil))))))))))))) (dss_cons (ds_set (i := 1) sc_law_near.nd rfl (Or.inl rfl) (de_bin op_addA (od_add (o := false)) (dv 1) (de_lst (o := false) (da_cons de_str (da_cons de_str (da_cons de_str (da_cons de_str (da_cons de_str (da_cons de_str (da_cons de_str (da_cons de_str (da_cons de_str (da_cons de_str (da_cons de_str da_nil)))))))))))))) (dss_cons (ds_set (i := 1) sc_law_near.nd rfl (Or.inl rfl) (de_bin op_addA (od_add (o := false)) (dv 1) (de_lst (o := false) (da_cons de_str (da_cons de_str (da_cons de_str (da_cons de_str (da_cons de_str (da_cons de_str (da_cons de_str (da_cons de_str (da_cons de_str da_nil)))))))))))) (dss_cons (ds_set (i := 1) sc_law_near.nd rfl (Or.inl rfl) (de_bin op_addA (od_add (o := false)) (dv 1) (de_lst (o := false) (da_cons de_non (da_cons de_int (da_cons de_bl (da_cons (de_lst (o := false) (da_cons de_str da_nil)) (da_cons (de_tup (da_cons de_str da_nil)) (da_cons de_int (da_cons (de_lst (o := false) da_nil) da_nil)))))))))) (dss_one (ds_ret (de_ix (dv 1) (de_callG G_law_draw (hr.mono (by decide)) T.g_law_draw (da_cons (dv 0) (da_cons (de_callB call_lenA cd_len rfl T.n_len bt_len (da_cons (dv 1) da_nil)) da_nil))) (fun _ _ => rfl))))))))
def t_is_number (K : PySem.W.Frag) : DS := (sSeq (sIf (dOr (eTest (eBin qEq (eV 0) (eC (.str "")))) (dAnd (eTest (eBin qGt (eCB qLen (aCons (eV 0) aNil)) (eC (.int 1)))) (eTest (eBin qEq (eBin qIx (eV 0) (eC (.int 0))) (eC (.str "0")))))) (sRet (eC (.bl false))) sNext) (sRet (eCB qAll (aCons (eLc false (iSt (eV 0)) (.one 1) dYes (eBin (qInS false) (eV 1) (eC (.str "0123456789"))) [1]) aNil))))
theorem d_is_number (T : Txt K mg) : ∀ (cdv : Value) (A : Around) (outer : List Env) (s : Shared) (H : Hp) (E : XK) (B : Bs), Room 1 (A.deeper (envOfC "is_number" (defScope s_is_number) s.heap.objs.size (He.ga K "is_number") cdv)) → PSs (cx0 P w K mg base N_is_number "is_number" (defScope s_is_number) (He.ga K "is_number") cdv A outer s H E) (defBody s_is_number) (lS K B (t_is_number K)) := by
  intro cdv A outer s H E B hr
  exact (dss_cons (ds_if (PW.pt (dw_or (dt_cmp (op_eqD hr.units) od_eq (dv 0) de_str (nomark _)) (dw_or1 (PW.pt (dw_and (dt_cmp op_gt od_gt (de_callB call_lenA cd_len rfl T.n_len bt_len (da_cons (dv 0) da_nil)) de_int (nomark _)) (dw_and1 (dt_cmp (op_eqD hr.units) od_eq (de_ix (dv 0) de_int (fun _ _ => rfl)) de_str (nomark _)))))))) (dss_one (ds_ret de_bl)) dss_nil) (dss_one (ds_ret (de_callB (cr_all rfl) cd_all rfl T.n_all bt_all (da_cons (de_lc (o := false) (own := [("char", 1)]) (tg := (.one 1)) rfl sc_is_number.nd (di_str (dv 0)) (blkOk_by (own := [("char", 1)]) (N := N_is_number) (sc := defScope s_is_number) (by decide +kernel)) (by decide) (fun _ _ _ _ _ => (pg_name (i := 1) sc_is_number.nd rfl (Or.inl rfl))) (fun _ _ _ _ _ => dts_nil) (fun _ _ _ _ _ => (de_cmp op_inS od_inS (dv 1) (de_strG rfl T.xg_DIGITS) rfl))) da_nil)))))
def t_is_integer (K : PySem.W.Frag) : DS := (sRet (eAnd (eCB qIsi (aCons (eV 0) (aCons (eC (.raw (.ty "int"))) aNil))) (eNot (eCB qIsi (aCons (eV 0) (aCons (eC (.raw (.ty "bool"))) aNil))))))
theorem d_is_integer (T : Txt K mg) : ∀ (cdv : Value) (A : Around) (outer : List Env) (s : Shared) (H : Hp) (E : XK) (B : Bs), Room 1 (A.deeper (envOfC "is_integer" (defScope s_is_integer) s.heap.objs.size (He.ga K "is_integer") cdv)) → PSs (cx0 P w K mg base N_is_integer "is_integer" (defScope s_is_integer) (He.ga K "is_integer") cdv A outer s H E) (defBody s_is_integer) (lS K B (t_is_integer K)) := by
  intro cdv A outer s H E B hr
  exact (dss_one (ds_ret (de_and (de_callB call_isi cd_isi rfl T.n_isinstance bt_isinstance (da_cons (dv 0) (da_cons (de_ty rfl T.n_int bt_int) da_nil))) (de_one (de_not (de_callB call_isi cd_isi rfl T.n_isinstance bt_isinstance (da_cons (dv 0) (da_cons (de_ty rfl T.n_bool bt_bool) da_nil))))))))
def t_is_column (K : PySem.W.Frag) : DS := (sSeq (sIf (dOr (dNot (eTru (eCB qIsi (aCons (eV 0) (aCons (eC (.raw (.ty "tuple"))) aNil))))) (eTest (eBin qNe (eCB qLen (aCons (eV 0) aNil)) (eV 2)))) (sRet (eC (.bl false))) sNext) (sRet (eCB qAll (aCons (eLc false (iS (eV 0)) (.one 3) dYes (eAnd (eCall (sp_is_integer K) (aCons (eV 3) aNil)) (eChain qLe qLt (eC (.int 0)) (eV 3) (eV 1))) [3]) aNil))))
theorem d_is_column (T : Txt K mg) (G_is_integer : Good P w K mg base 2 (He.ga K "is_integer") ["value"] (sp_is_integer K)) : ∀ (cdv : Value) (A : Around) (outer : List Env) (s : Shared) (H : Hp) (E : XK) (B : Bs), Room 4 (A.deeper (envOfC "is_column" (defScope s_is_column) s.heap.objs.size (He.ga K "is_column") cdv)) → PSs (cx0 P w K mg base N_is_column "is_column" (defScope s_is_column) (He.ga K "is_column") cdv A outer s H E) (defBody s_is_column) (lS K B (t_is_column K)) := by
  intro cdv A outer s H E B hr
  exact (dss_cons (ds_if (PW.pt (dw_or (dt_not (dt_tru (de_callB call_isi cd_isi rfl T.n_isinstance bt_isinstance (da_cons (dv 0) (da_cons (de_ty rfl T.n_tuple bt_tuple) da_nil))))) (dw_or1 (dt_cmp (op_neD hr.units) od_ne (de_callB call_lenA cd_len rfl T.n_len bt_len (da_cons (dv 0) da_nil)) (dv 2) (nomark _))))) (dss_one (ds_ret de_bl)) dss_nil) (dss_one (ds_ret (de_callB (cr_all rfl) cd_all rfl T.n_all bt_all (da_cons (de_lc (o := false) (own := [("figure", 3)]) (tg := (.one 3)) rfl sc_is_column.nd (di_any (dv 0)) (blkOk_by (own := [("figure", 3)]) (N := N_is_column) (sc := defScope s_is_column) (by decide +kernel)) (by decide) (fun _ _ _ _ _ => (pg_name (i := 3) sc_is_column.nd rfl (Or.inl rfl))) (fun _ _ _ _ _ => dts_nil) (fun _ _ _ _ _ => (de_and (de_callG G_is_integer (hr.mono (by decide)) T.g_is_integer (da_cons (dv 3) da_nil)) (de_one (de_chain op_le op_lt od_le od_lt de_int (dv 3) (dv 1)))))) da_nil)))))
def t_Sheet_init (K : PySem.W.Frag) : DS := (sSeq (sIf (dOr (dNot (eTru (eCall (sp_is_integer K) (aCons (eV 1) aNil)))) (dNot (eTest (eChain qLe qLe (eC (.int 2)) (eV 1) (eC (.int 12)))))) sNever sNext) (sSeq (sIf (dOr (dNot (eTru (eCall (sp_is_integer K) (aCons (eV 2) aNil)))) (dNot (eTest (eChain qLe qLe (eC (.int 1)) (eV 2) (eC (.int 4)))))) sNever sNext) (sSeq (sIf (dOr (dNot (eTru (eCB qIsi (aCons (eV 3) (aCons (eC (.raw (.ty "list"))) aNil))))) (dNot (eTru (eCB qAll (aCons (eLc false (iS (eV 3)) (.one 4) dYes (eCall (sp_is_column K) (aCons (eV 4) (aCons (eV 1) (aCons (eV 2) aNil)))) [4]) aNil))))) sNever sNext) (sSeq (sFldD (He.ga K "Sheet") "held_base" (eV 0) (eV 1)) (sSeq (sFldD (He.ga K "Sheet") "held_rows" (eV 0) (eV 2)) (sSeq (sFldD (He.ga K "Sheet") "held_columns" (eV 0) (eCB qListE (aCons (eV 3) aNil))) (sFldD (He.ga K "Sheet") "size" (eV 0) (eCB qLen (aCons (eV 3) aNil)))))))))
theorem d_Sheet_init (T : Txt K mg) (G_is_integer : Good P w K mg base 2 (He.ga K "is_integer") ["value"] (sp_is_integer K)) (G_is_column : Good P w K mg base 5 (He.ga K "is_column") ["value", "base", "rows"] (sp_is_column K)) : ∀ (cdv : Value) (A : Around) (outer : List Env) (s : Shared) (H : Hp) (E : XK) (B : Bs), Room 7 (A.deeper (envOfC "Sheet.__init__" (defScope s_Sheet_init) s.heap.objs.size (He.ma K (He.ga K "Sheet") "__init__") cdv)) → PSs (cx0 P w K mg base N_Sheet_init "Sheet.__init__" (defScope s_Sheet_init) (He.ma K (He.ga K "Sheet") "__init__") cdv A outer s H E) (defBody s_Sheet_init) (lS K B (t_Sheet_init K)) := by
  intro cdv A outer s H E B hr
  exact (dss_cons (ds_if (PW.pt (dw_or (dt_not (dt_tru (de_callG G_is_integer (hr.mono (by decide)) T.g_is_integer (da_cons (dv 1) da_nil)))) (dw_or1 (dt_not (dt_chain op_le op_le od_le od_le de_int (dv 1) de_int))))) (dss_one ds_never) dss_nil) (dss_cons (ds_if (PW.pt (dw_or (dt_not (dt_tru (de_callG G_is_integer (hr.mono (by decide)) T.g_is_integer (da_cons (dv 2) da_nil)))) (dw_or1 (dt_not (dt_chain op_le op_le od_le od_le de_int (dv 2) de_int))))) (dss_one ds_never) dss_nil) (dss_cons (ds_if (PW.pt (dw_or (dt_not (dt_tru (de_callB call_isi cd_isi rfl T.n_isinstance bt_isinstance (da_cons (dv 3) (da_cons (de_ty rfl T.n_list bt_list) da_nil))))) (dw_or1 (dt_not (dt_tru (de_callB (cr_all rfl) cd_all rfl T.n_all bt_all (da_cons (de_lc (o := false) (own := [("column", 4)]) (tg := (.one 4)) rfl sc_Sheet_init.nd (di_any (dv 3)) (blkOk_by (own := [("column", 4)]) (N := N_Sheet_init) (sc := defScope s_Sheet_init) (by decide +kernel)) (by decide) (fun _ _ _ _ _ => (pg_name (i := 4) sc_Sheet_init.nd rfl (Or.inl rfl))) (fun _ _ _ _ _ => dts_nil) (fun _ _ _ _ _ => (de_callG G_is_column (hr.mono (by decide)) T.g_is_column (da_cons (dv 4) (da_cons (dv 1) (da_cons (dv 2) da_nil)))))) da_nil))))))) (dss_one ds_never) dss_nil) (dss_cons (ds_fld T.c_Sheet T.na_Sheet_held_base (dv 0) (dv 1)) (dss_cons (ds_fld T.c_Sheet T.na_Sheet_held_rows (dv 0) (dv 2)) (dss_cons (ds_fld T.c_Sheet T.na_Sheet_held_columns (dv 0) (de_callTy call_listA cd_listE rfl T.n_list bt_list (da_cons (dv 3) da_nil))) (dss_one (ds_fld T.c_Sheet T.na_Sheet_size (dv 0) (de_callB call_lenA cd_len rfl T.n_len bt_len (da_cons (dv 3) da_nil))))))))))
def t_read_sheet (K : PySem.W.Frag) (XX : XN → List Cel → Prop) : DS := (sSeq (sIf (dNot (eTru (eCB qIsi (aCons (eV 0) (aCons (eC (.raw (.ty "str"))) aNil))))) (sRaise XX "InvalidText") sNext) (sSeq (sAsg (eSplit false (eV 0) (eC (.str " "))) 1) (sSeq (sAsg (eSl false (eV 1) (oSome (eC (.int 1))) oNone) 2) (sSeq (sAsg (eSl false (eBin qIx (eV 1) (eC (.int 0))) oNone (oSome (eNeg (eC (.int 1))))) 3) (sSeq (sIf (dOr (eTest (eBin qNe (eSl false (eBin qIx (eV 1) (eC (.int 0))) (oSome (eNeg (eC (.int 1)))) oNone) (eC (.str ":")))) (dOr (dNot (eTru (eCall (sp_is_number K) (aCons (eV 3) aNil)))) (dOr (eTest (eBin qGt (eCB qLen (aCons (eV 3) aNil)) (eC (.int 2)))) (dNot (eTest (eChain qLe qLe (eC (.int 1)) (eCB qLen (aCons (eV 2) aNil)) (eC (.int 4)))))))) (sRaise XX "InvalidText") sNext) (sSeq (sAsg (eCB qInt (aCons (eV 3) aNil)) 4) (sSeq (sIf (dNot (eTest (eChain qLe qLe (eC (.int 2)) (eV 4) (eC (.int 12))))) (sRaise XX "InvalidText") sNext) (sSeq (sIf (eTru (eCB qAll (aCons (eLc false (iS (eV 2)) (.one 6) dYes (eBin qEq (eV 6) (eC (.str "-"))) [6]) aNil))) (sRet (eMake (He.ga K "Sheet") (sp_Sheet_init K) (aCons (eV 4) (aCons (eCB qLen (aCons (eV 2) aNil)) (aCons (eLst false aNil) aNil))))) sNext) (sSeq (sAsg (eCB qLen (aCons (eBin qIx (eV 2) (eC (.int 0))) aNil)) 5) (sSeq (sFor (iS (eV 2)) (.one 6) (sIf (dOr (eTest (eBin qEq (eV 6) (eC (.str "")))) (dOr (eTest (eBin qNe (eCB qLen (aCons (eV 6) aNil)) (eV 5))) (dNot (eTru (eCB qAll (aCons (eLc false (iSt (eV 6)) (.one 8) dYes (eBin (qInS false) (eV 8) (eSl false (eC (.str "0123456789ab")) oNone (oSome (eV 4)))) [8]) aNil)))))) (sRaise XX "InvalidText") sNext)) (sSeq (sAsg (eLc false (iR1 (aCons (eV 5) aNil)) (.one 9) dYes (eCB qTuple (aCons (eLc false (iS (eV 2)) (.one 6) dYes (eFind (eC (.str "0123456789ab")) (eBin qIx (eV 6) (eV 9))) [6]) aNil)) [9]) 7) (sRet (eMake (He.ga K "Sheet") (sp_Sheet_init K) (aCons (eV 4) (aCons (eCB qLen (aCons (eV 2) aNil)) (aCons (eRev false (eV 7)) aNil))))))))))))))))
theorem d_read_sheet (T : Txt K mg) (G_is_number : Good P w K mg base 2 (He.ga K "is_number") ["word"] (sp_is_number K)) (G_Sheet_init : Good P w K mg base 8 (He.ma K (He.ga K "Sheet") "__init__") ["self", "base", "rows", "columns"] (sp_Sheet_init K)) : ∀ (cdv : Value) (A : Around) (outer : List Env) (s : Shared) (H : Hp) (E : XK) (B : Bs) (XX : XN → List Cel → Prop), Room 10 (A.deeper (envOfC "read_sheet" (defScope s_read_sheet) s.heap.objs.size (He.ga K "read_sheet") cdv)) → XT (cxX P w K mg base N_read_sheet "read_sheet" (defScope s_read_sheet) (He.ga K "read_sheet") cdv A outer s H E) B XX → PassesOwn (model P w) (A.deeper (envOfC "read_sheet" (defScope s_read_sheet) s.heap.objs.size (He.ga K "read_sheet") cdv)) (envOfC "read_sheet" (defScope s_read_sheet) s.heap.objs.size (He.ga K "read_sheet") cdv) (cxX P w K mg base N_read_sheet "read_sheet" (defScope s_read_sheet) (He.ga K "read_sheet") cdv A outer s H E).xe → PSs (cxX P w K mg base N_read_sheet "read_sheet" (defScope s_read_sheet) (He.ga K "read_sheet") cdv A outer s H E) (defBody s_read_sheet) (lS K B (t_read_sheet K XX)) := by
  intro cdv A outer s H E B XX hr tk po
  exact (dss_cons (ds_if (dt_not (dt_tru (de_callB call_isi cd_isi rfl T.n_isinstance bt_isinstance (da_cons (dv 0) (da_cons (de_ty rfl T.n_str bt_str) da_nil))))) (dss_one (ds_raise rfl tk T.xo_InvalidText T.g_InvalidText rfl)) dss_nil) (dss_cons (ds_set (i := 1) sc_read_sheet.nd rfl (Or.inl rfl) (de_split (ob := false) (dv 0) de_str)) (dss_cons (ds_set (i := 2) sc_read_sheet.nd rfl (Or.inr rfl) (de_slice (o := false) (dv 1) (do_some de_int) do_none)) (dss_cons (ds_set (i := 3) sc_read_sheet.nd rfl (Or.inl rfl) (de_slice (o := false) (de_ix (dv 1) de_int (fun _ _ => rfl)) do_none (do_some (de_neg de_int)))) (dss_cons (ds_if (PW.pt (dw_or (dt_cmp (op_neD hr.units) od_ne (de_slice (o := false) (de_ix (dv 1) de_int (fun _ _ => rfl)) (do_some (de_neg de_int)) do_none) de_str (nomark _)) (dw_or (dt_not (dt_tru (de_callG G_is_number (hr.mono (by decide)) T.g_is_number (da_cons (dv 3) da_nil)))) (dw_or (dt_cmp op_gt od_gt (de_callB call_lenA cd_len rfl T.n_len bt_len (da_cons (dv 3) da_nil)) de_int (nomark _)) (dw_or1 (dt_not (dt_chain op_le op_le od_le od_le de_int (de_callB call_lenA cd_len rfl T.n_len bt_len (da_cons (dv 2) da_nil)) de_int))))))) (dss_one (ds_raise rfl tk T.xo_InvalidText T.g_InvalidText rfl)) dss_nil) (dss_cons (ds_set (i := 4) sc_read_sheet.nd rfl (Or.inr rfl) (de_callTy call_intA cd_int rfl T.n_int bt_int (da_cons (dv 3) da_nil))) (dss_cons (ds_if (dt_not (dt_chain op_le op_le od_le od_le de_int (dv 4) de_int)) (dss_one (ds_raise rfl tk T.xo_InvalidText T.g_InvalidText rfl)) dss_nil) (dss_cons (ds_if (dt_tru (de_callB (cr_all rfl) cd_all rfl T.n_all bt_all (da_cons (de_lc (o := false) (own := [("row", 6)]) (tg := (.one 6)) rfl sc_read_sheet.nd (di_any (dv 2)) (blkOk_by (own := [("row", 6)]) (N := N_read_sheet) (sc := defScope s_read_sheet) (by decide +kernel)) (by decide) (fun _ _ _ _ _ => (pg_name (i := 6) sc_read_sheet.nd rfl (Or.inl rfl))) (fun _ _ _ _ _ => dts_nil) (fun _ _ _ _ _ => (de_cmp (op_eqD hr.units) od_eq (dv 6) de_str (nomark _)))) da_nil))) (dss_one (ds_ret (de_makeG G_Sheet_init (hr.mono (by decide)) T.mk_Sheet T.g_Sheet (da_cons (dv 4) (da_cons (de_callB call_lenA cd_len rfl T.n_len bt_len (da_cons (dv 2) da_nil)) (da_cons (de_lst (o := false) da_nil) da_nil)))))) dss_nil) (dss_cons (ds_set (i := 5) sc_read_sheet.nd rfl (Or.inl rfl) (de_callB call_lenA cd_len rfl T.n_len bt_len (da_cons (de_ix (dv 2) de_int (fun _ _ => rfl)) da_nil))) (dss_cons (ds_for (tg := (.one 6)) po rfl (di_any (dv 2)) (pg_name (i := 6) sc_read_sheet.nd rfl (Or.inl rfl)) (dss_one (ds_if (PW.pt (dw_or (dt_cmp (op_eqD hr.units) od_eq (dv 6) de_str (nomark _)) (dw_or (dt_cmp (op_neD hr.units) od_ne (de_callB call_lenA cd_len rfl T.n_len bt_len (da_cons (dv 6) da_nil)) (dv 5) (nomark _)) (dw_or1 (dt_not (dt_tru (de_callB (cr_all rfl) cd_all rfl T.n_all bt_all (da_cons (de_lc (o := false) (own := [("char", 8)]) (tg := (.one 8)) rfl sc_read_sheet.nd (di_str (dv 6)) (blkOk_by (own := [("char", 8)]) (N := N_read_sheet) (sc := defScope s_read_sheet) (by decide +kernel)) (by decide) (fun _ _ _ _ _ => (pg_name (i := 8) sc_read_sheet.nd rfl (Or.inl rfl))) (fun _ _ _ _ _ => dts_nil) (fun _ _ _ _ _ => (de_cmp op_inS od_inS (dv 8) (de_slice (o := false) (de_strG rfl T.xg_FIGURES) do_none (do_some (dv 4))) rfl))) da_nil)))))))) (dss_one (ds_raise rfl tk T.xo_InvalidText T.g_InvalidText rfl)) dss_nil))) (dss_cons (ds_setLc (o := false) (i := 7) (own := [("at", 9)]) (tg := (.one 9)) rfl sc_read_sheet.nd rfl rfl (sw_true rfl rfl rfl (by decide +kernel)) (di_range1 rfl T.n_range (da_cons (dv 5) da_nil)) (blkOk_by (own := [("at", 9)]) (N := N_read_sheet) (sc := defScope s_read_sheet) (by decide +kernel)) (by decide) (fun _ _ _ _ _ => (pg_name (i := 9) sc_read_sheet.nd rfl (Or.inr rfl))) (fun _ _ _ _ _ => dts_nil) (fun _ _ _ _ _ => (de_callTy call_tupleA cd_tuple rfl T.n_tuple bt_tuple (da_cons (de_lc (o := false) (own := [("row", 6)]) (tg := (.one 6)) rfl sc_read_sheet.nd (di_any (dv 2)) (blkOk_in (own := [("row", 6)]) (N := N_read_sheet) (sc0 := defScope s_read_sheet) rfl (by decide +kernel)) (by decide) (fun _ _ _ _ _ => (pg_name (i := 6) sc_read_sheet.nd rfl (Or.inl rfl))) (fun _ _ _ _ _ => dts_nil) (fun _ _ _ _ _ => (de_find (de_strG rfl T.xg_FIGURES) (de_ix (dv 6) (dv 9) (fun _ _ => rfl))))) da_nil)))) (dss_one (ds_ret (de_makeG G_Sheet_init (hr.mono (by decide)) T.mk_Sheet T.g_Sheet (da_cons (dv 4) (da_cons (de_callB call_lenA cd_len rfl T.n_len bt_len (da_cons (dv 2) da_nil)) (da_cons (de_rev (o := false) (dv 7)) da_nil)))))))))))))))))
def t_law_read (K : PySem.W.Frag) : DS := (sSeq (sAsg (eLst false aNil) 1) (sSeq (sTryAs [("InvalidText", true)] 2 (List.length N_law_read) (fun XX => (sAsg (eCallX XX (sp_read_sheet K) (aCons (eV 0) aNil)) 1)) (fun c a => (sSeq (sAsg (eCB (qIsE c a [("InvalidText", false)] (.tup (List.map (fun C => .raw (.ref C)) [He.ga K "InvalidSheet", He.ga K "InvalidCommand", He.ga K "InvalidKind", He.ga K "InvalidLot", He.ga K "InvalidSlips", He.ga K "InvalidColumn"]))) (aCons (eV 2) (aCons (eTup (aCons (eC (.raw (.ref (He.ga K "InvalidSheet")))) (aCons (eC (.raw (.ref (He.ga K "InvalidCommand")))) (aCons (eC (.raw (.ref (He.ga K "InvalidKind")))) (aCons (eC (.raw (.ref (He.ga K "InvalidLot")))) (aCons (eC (.raw (.ref (He.ga K "InvalidSlips")))) (aCons (eC (.raw (.ref (He.ga K "InvalidColumn")))) aNil))))))) aNil))) 3) (sSeq (sAsg (eOr (eV 3) (eCB (qIsE c a [("InvalidText", false)] (.tup (List.map (fun C => .raw (.ref C)) [He.ga K "NotAlike", He.ga K "NotPossible", He.ga K "NotReady", He.ga K "NothingToUndo", He.ga K "TooMany", He.ga K "Waits"]))) (aCons (eV 2) (aCons (eTup (aCons (eC (.raw (.ref (He.ga K "NotAlike")))) (aCons (eC (.raw (.ref (He.ga K "NotPossible")))) (aCons (eC (.raw (.ref (He.ga K "NotReady")))) (aCons (eC (.raw (.ref (He.ga K "NothingToUndo")))) (aCons (eC (.raw (.ref (He.ga K "TooMany")))) (aCons (eC (.raw (.ref (He.ga K "Waits")))) aNil))))))) aNil)))) 3) (sAsg (eLst false (aCons (eCB (qIsE c a [("InvalidText", true)] (.raw (.ref (He.ga K "InvalidText")))) (aCons (eV 2) (aCons (eC (.raw (.ref (He.ga K "InvalidText")))) aNil))) (aCons (eCB (qIsE c a [("InvalidText", true)] (.raw (.ty "ValueError"))) (aCons (eV 2) (aCons (eC (.raw (.ty "ValueError"))) aNil))) (aCons (eV 3) aNil)))) 1)))) (fun _ _ => False)) (sRet (eV 1))))
theorem d_law_read (T : Txt K mg) (G_read_sheet : GoodX P w K mg base 11 (He.ga K "read_sheet") ["text"] (sp_read_sheet K)) : ∀ (cdv : Value) (A : Around) (outer : List Env) (s : Shared) (H : Hp) (E : XK) (B : Bs), Room 13 (A.deeper (envOfC "_law_read" (defScope s_law_read) s.heap.objs.size (He.ga K "_law_read") cdv)) → PSs (cx0 P w K mg base N_law_read "_law_read" (defScope s_law_read) (He.ga K "_law_read") cdv A outer s H E) (defBody s_law_read) (lS K B (t_law_read K)) := by
  intro cdv A outer s H E B hr
  exact (dss_cons (ds_set (i := 1) sc_law_read.nd rfl (Or.inl rfl) (de_lst (o := false) da_nil)) (dss_cons (ds_tryAs (i := 2) (tbl := [("InvalidText", true)]) (tb := fun XX => (sAsg (eCallX XX (sp_read_sheet K) (aCons (eV 0) aNil)) 1)) (ts := fun c a => (sSeq (sAsg (eCB (qIsE c a [("InvalidText", false)] (.tup (List.map (fun C => .raw (.ref C)) [He.ga K "InvalidSheet", He.ga K "InvalidCommand", He.ga K "InvalidKind", He.ga K "InvalidLot", He.ga K "InvalidSlips", He.ga K "InvalidColumn"]))) (aCons (eV 2) (aCons (eTup (aCons (eC (.raw (.ref (He.ga K "InvalidSheet")))) (aCons (eC (.raw (.ref (He.ga K "InvalidCommand")))) (aCons (eC (.raw (.ref (He.ga K "InvalidKind")))) (aCons (eC (.raw (.ref (He.ga K "InvalidLot")))) (aCons (eC (.raw (.ref (He.ga K "InvalidSlips")))) (aCons (eC (.raw (.ref (He.ga K "InvalidColumn")))) aNil))))))) aNil))) 3) (sSeq (sAsg (eOr (eV 3) (eCB (qIsE c a [("InvalidText", false)] (.tup (List.map (fun C => .raw (.ref C)) [He.ga K "NotAlike", He.ga K "NotPossible", He.ga K "NotReady", He.ga K "NothingToUndo", He.ga K "TooMany", He.ga K "Waits"]))) (aCons (eV 2) (aCons (eTup (aCons (eC (.raw (.ref (He.ga K "NotAlike")))) (aCons (eC (.raw (.ref (He.ga K "NotPossible")))) (aCons (eC (.raw (.ref (He.ga K "NotReady")))) (aCons (eC (.raw (.ref (He.ga K "NothingToUndo")))) (aCons (eC (.raw (.ref (He.ga K "TooMany")))) (aCons (eC (.raw (.ref (He.ga K "Waits")))) aNil))))))) aNil)))) 3) (sAsg (eLst false (aCons (eCB (qIsE c a [("InvalidText", true)] (.raw (.ref (He.ga K "InvalidText")))) (aCons (eV 2) (aCons (eC (.raw (.ref (He.ga K "InvalidText")))) aNil))) (aCons (eCB (qIsE c a [("InvalidText", true)] (.raw (.ty "ValueError"))) (aCons (eV 2) (aCons (eC (.raw (.ty "ValueError"))) aNil))) (aCons (eV 3) aNil)))) 1)))) rfl rfl sc_law_read.nd rfl rfl T.g_SlipError rfl XT.never T.xm_SlipError (excL_cons ⟨T.xc_InvalidText, T.nx_InvalidText⟩ excL_nil) (fun B XX pn xe tk po => (dss_one (ds_set (i := 1) sc_law_read.nd rfl (Or.inl rfl) (de_callX G_read_sheet tk (hr.mono (by decide)) T.g_read_sheet (da_cons (dv 0) da_nil))))) (fun B c a oe d pn hE hz hf hp => (dss_cons (ds_set (i := 3) sc_law_read.nd rfl (Or.inl rfl) (de_callBB (call_isETz hE.e hz hf) (cd_isET (Cs := [He.ga K "InvalidSheet", He.ga K "InvalidCommand", He.ga K "InvalidKind", He.ga K "InvalidLot", He.ga K "InvalidSlips", He.ga K "InvalidColumn"]) (tbl := [("InvalidText", false)]) hp T.ka_InvalidSheet_InvalidCommand_InvalidKind_InvalidLot_InvalidSlips_InvalidColumn) rfl T.n_isinstance bt_isinstance (da_cons (dv 2) (da_cons (de_tup (da_cons (de_cls rfl T.g_InvalidSheet) (da_cons (de_cls rfl T.g_InvalidCommand) (da_cons (de_cls rfl T.g_InvalidKind) (da_cons (de_cls rfl T.g_InvalidLot) (da_cons (de_cls rfl T.g_InvalidSlips) (da_cons (de_cls rfl T.g_InvalidColumn) da_nil))))))) da_nil)))) (dss_cons (ds_set (i := 3) sc_law_read.nd rfl (Or.inl rfl) (de_or (dv 3) (de_one (de_callBB (call_isETz hE.e hz hf) (cd_isET (Cs := [He.ga K "NotAlike", He.ga K "NotPossible", He.ga K "NotReady", He.ga K "NothingToUndo", He.ga K "TooMany", He.ga K "Waits"]) (tbl := [("InvalidText", false)]) hp T.ka_NotAlike_NotPossible_NotReady_NothingToUndo_TooMany_Waits) rfl T.n_isinstance bt_isinstance (da_cons (dv 2) (da_cons (de_tup (da_cons (de_cls rfl T.g_NotAlike) (da_cons (de_cls rfl T.g_NotPossible) (da_cons (de_cls rfl T.g_NotReady) (da_cons (de_cls rfl T.g_NothingToUndo) (da_cons (de_cls rfl T.g_TooMany) (da_cons (de_cls rfl T.g_Waits) da_nil))))))) da_nil)))))) (dss_one (ds_set (i := 1) sc_law_read.nd rfl (Or.inl rfl) (de_lst (o := false) (da_cons (de_callBB (call_isEz hE.e hz hf) (cd_isE (tbl := [("InvalidText", true)]) hp T.ko_InvalidText) rfl T.n_isinstance bt_isinstance (da_cons (dv 2) (da_cons (de_cls rfl T.g_InvalidText) da_nil))) (da_cons (de_callBB (call_isEz hE.e hz hf) (cd_isEB (tbl := [("InvalidText", true)]) hp T.kb_ValueError) rfl T.n_isinstance bt_isinstance (da_cons (dv 2) (da_cons (de_ty rfl T.n_ValueError bt_ValueError) da_nil))) (da_cons (dv 3) da_nil)))))))))) (dss_one (ds_ret (dv 1)))))
def t_law_is_text (K : PySem.W.Frag) : DS := (sSeq (sIf (dNot (eTru (eCB qIsi (aCons (eV 0) (aCons (eC (.raw (.ty "str"))) aNil))))) (sRet (eC (.bl false))) sNext) (sSeq (sAsg (eSplit false (eV 0) (eC (.str " "))) 1) (sSeq (sAsg (eLst false (aCons (eC (.str "2:")) (aCons (eC (.str "3:")) (aCons (eC (.str "4:")) (aCons (eC (.str "5:")) (aCons (eC (.str "6:")) (aCons (eC (.str "7:")) (aCons (eC (.str "8:")) (aCons (eC (.str "9:")) (aCons (eC (.str "10:")) (aCons (eC (.str "11:")) (aCons (eC (.str "12:")) aNil)))))))))))) 2) (sSeq (sAsg (eSl false (eV 1) (oSome (eC (.int 1))) oNone) 3) (sSeq (sIf (dOr (eTest (eBin (qIn true) (eBin qIx (eV 1) (eC (.int 0))) (eV 2))) (dNot (eTest (eChain qLe qLe (eC (.int 1)) (eCB qLen (aCons (eV 3) aNil)) (eC (.int 4)))))) (sRet (eC (.bl false))) sNext) (sSeq (sAsg (eSl false (eC (.str "0123456789ab")) oNone (oSome (eBin (qAdd false) (eC (.int 2)) (eBM qIdxD (eV 2) (aCons (eBin qIx (eV 1) (eC (.int 0))) aNil))))) 4) (sSeq (sIf (eTru (eCB qAll (aCons (eLc false (iS (eV 3)) (.one 5) dYes (eBin qEq (eV 5) (eC (.str "-"))) [5]) aNil))) (sRet (eC (.bl true))) sNext) (sSeq (sFor (iS (eV 3)) (.one 5) (sIf (dOr (eTest (eBin qEq (eV 5) (eC (.str "")))) (dOr (eTest (eBin qNe (eCB qLen (aCons (eV 5) aNil)) (eCB qLen (aCons (eBin qIx (eV 3) (eC (.int 0))) aNil)))) (dNot (eTru (eCB qAll (aCons (eLc false (iSt (eV 5)) (.one 6) dYes (eBin (qInS false) (eV 6) (eV 4)) [6]) aNil)))))) (sRet (eC (.bl false))) sNext)) (sRet (eC (.bl true)))))))))))
theorem d_law_is_text (T : Txt K mg) : ∀ (cdv : Value) (A : Around) (outer : List Env) (s : Shared) (H : Hp) (E : XK) (B : Bs), Room 1 (A.deeper (envOfC "_law_is_text" (defScope s_law_is_text) s.heap.objs.size (He.ga K "_law_is_text") cdv)) → PSs (cx0 P w K mg base N_law_is_text "_law_is_text" (defScope s_law_is_text) (He.ga K "_law_is_text") cdv A outer s H E) (defBody s_law_is_text) (lS K B (t_law_is_text K)) := by
  intro cdv A outer s H E B hr
  exact (dss_cons (ds_if (dt_not (dt_tru (de_callB call_isi cd_isi rfl T.n_isinstance bt_isinstance (da_cons (dv 0) (da_cons (de_ty rfl T.n_str bt_str) da_nil))))) (dss_one (ds_ret de_bl)) dss_nil) (dss_cons (ds_set (i := 1) sc_law_is_text.nd rfl (Or.inl rfl) (de_split (ob := false) (dv 0) de_str)) (dss_cons (ds_set (i := 2) sc_law_is_text.nd rfl (Or.inl rfl) (de_lst (o := false) (da_cons de_str (da_cons de_str (da_cons de_str (da_cons de_str (da_cons de_str (da_cons de_str (da_cons de_str (da_cons de_str (da_cons de_str (da_cons de_str (da_cons de_str da_nil))))))))))))) (dss_cons (ds_set (i := 3) sc_law_is_text.nd rfl (Or.inl rfl) (de_slice (o := false) (dv 1) (do_some de_int) do_none)) (dss_cons (ds_if (PW.pt (dw_or (dt_cmp (op_notInA (units5 hr)) od_in (de_ix (dv 1) de_int (fun _ _ => rfl)) (dv 2) rfl) (dw_or1 (dt_not (dt_chain op_le op_le od_le od_le de_int (de_callB call_lenA cd_len rfl T.n_len bt_len (da_cons (dv 3) da_nil)) de_int))))) (dss_one (ds_ret de_bl)) dss_nil) (dss_cons (ds_set (i := 4) sc_law_is_text.nd rfl (Or.inr rfl) (de_slice (o := false) de_str do_none (do_some (de_bin op_addA (od_add (o := false)) de_int (de_bm PySem.F.plainAttrs_list PySem.F.slot_list_index PySem.F.type_list_index (mt_indexD (units5 hr)) md_idxD (dv 2) (da_cons (de_ix (dv 1) de_int (fun _ _ => rfl)) da_nil)))))) (dss_cons (ds_if (dt_tru (de_callB (cr_all rfl) cd_all rfl T.n_all bt_all (da_cons (de_lc (o := false) (own := [("row", 5)]) (tg := (.one 5)) rfl sc_law_is_text.nd (di_any (dv 3)) (blkOk_by (own := [("row", 5)]) (N := N_law_is_text) (sc := defScope s_law_is_text) (by decide +kernel)) (by decide) (fun _ _ _ _ _ => (pg_name (i := 5) sc_law_is_text.nd rfl (Or.inl rfl))) (fun _ _ _ _ _ => dts_nil) (fun _ _ _ _ _ => (de_cmp (op_eqD hr.units) od_eq (dv 5) de_str (nomark _)))) da_nil))) (dss_one (ds_ret de_bl)) dss_nil) (dss_cons (ds_for (tg := (.one 5)) PassesOwn.never rfl (di_any (dv 3)) (pg_name (i := 5) sc_law_is_text.nd rfl (Or.inl rfl)) (dss_one (ds_if (PW.pt (dw_or (dt_cmp (op_eqD hr.units) od_eq (dv 5) de_str (nomark _)) (dw_or (dt_cmp (op_neD hr.units) od_ne (de_callB call_lenA cd_len rfl T.n_len bt_len (da_cons (dv 5) da_nil)) (de_callB call_lenA cd_len rfl T.n_len bt_len (da_cons (de_ix (dv 3) de_int (fun _ _ => rfl)) da_nil)) (nomark _)) (dw_or1 (dt_not (dt_tru (de_callB (cr_all rfl) cd_all rfl T.n_all bt_all (da_cons (de_lc (o := false) (own := [("char", 6)]) (tg := (.one 6)) rfl sc_law_is_text.nd (di_str (dv 5)) (blkOk_by (own := [("char", 6)]) (N := N_law_is_text) (sc := defScope s_law_is_text) (by decide +kernel)) (by decide) (fun _ _ _ _ _ => (pg_name (i := 6) sc_law_is_text.nd rfl (Or.inl rfl))) (fun _ _ _ _ _ => dts_nil) (fun _ _ _ _ _ => (de_cmp op_inS od_inS (dv 6) (dv 4) rfl))) da_nil)))))))) (dss_one (ds_ret de_bl)) dss_nil))) (dss_one (ds_ret de_bl))))))))))
def t_Sheet_columns (K : PySem.W.Frag) : DS := (sRet (eCB (qList true) (aCons (eFld (He.ga K "Sheet") "held_columns" (eV 0)) aNil)))
theorem d_Sheet_columns (T : Txt K mg) : ∀ (cdv : Value) (A : Around) (outer : List Env) (s : Shared) (H : Hp) (E : XK) (B : Bs), Room 1 (A.deeper (envOfC "Sheet.columns" (defScope s_Sheet_columns) s.heap.objs.size (pga K (He.ga K "Sheet") "columns") cdv)) → PSs (cx0 P w K mg base N_Sheet_columns "Sheet.columns" (defScope s_Sheet_columns) (pga K (He.ga K "Sheet") "columns") cdv A outer s H E) (defBody s_Sheet_columns) (lS K B (t_Sheet_columns K)) := by
  intro cdv A outer s H E B hr
  exact (dss_one (ds_ret (de_callTy call_listA (cd_list (o := true)) rfl T.n_list bt_list (da_cons (de_fld T.c_Sheet T.na_Sheet_held_columns (dv 0)) da_nil))))
def t_Sheet_base (K : PySem.W.Frag) : DS := (sRet (eFld (He.ga K "Sheet") "held_base" (eV 0)))
theorem d_Sheet_base (T : Txt K mg) : ∀ (cdv : Value) (A : Around) (outer : List Env) (s : Shared) (H : Hp) (E : XK) (B : Bs), Room 1 (A.deeper (envOfC "Sheet.base" (defScope s_Sheet_base) s.heap.objs.size (pga K (He.ga K "Sheet") "base") cdv)) → PSs (cx0 P w K mg base N_Sheet_base "Sheet.base" (defScope s_Sheet_base) (pga K (He.ga K "Sheet") "base") cdv A outer s H E) (defBody s_Sheet_base) (lS K B (t_Sheet_base K)) := by
  intro cdv A outer s H E B hr
  exact (dss_one (ds_ret (de_fld T.c_Sheet T.na_Sheet_held_base (dv 0))))
def t_Sheet_rows (K : PySem.W.Frag) : DS := (sRet (eFld (He.ga K "Sheet") "held_rows" (eV 0)))
theorem d_Sheet_rows (T : Txt K mg) : ∀ (cdv : Value) (A : Around) (outer : List Env) (s : Shared) (H : Hp) (E : XK) (B : Bs), Room 1 (A.deeper (envOfC "Sheet.rows" (defScope s_Sheet_rows) s.heap.objs.size (pga K (He.ga K "Sheet") "rows") cdv)) → PSs (cx0 P w K mg base N_Sheet_rows "Sheet.rows" (defScope s_Sheet_rows) (pga K (He.ga K "Sheet") "rows") cdv A outer s H E) (defBody s_Sheet_rows) (lS K B (t_Sheet_rows K)) := by
  intro cdv A outer s H E B hr
  exact (dss_one (ds_ret (de_fld T.c_Sheet T.na_Sheet_held_rows (dv 0))))
def t_show_figures (K : PySem.W.Frag) : DS := (sSeq (sIf (eTest (eBin qEq (eCB qLen (aCons (eV 0) aNil)) (eC (.int 0)))) (sRet (eC (.str "-"))) sNext) (sRet (eJoin (eC (.str "")) (eLc false (iS (eV 0)) (.one 1) dYes (eBin qIx (eC (.str "0123456789ab")) (eV 1)) [1]))))
theorem d_show_figures (T : Txt K mg) : ∀ (cdv : Value) (A : Around) (outer : List Env) (s : Shared) (H : Hp) (E : XK) (B : Bs), Room 1 (A.deeper (envOfC "show_figures" (defScope s_show_figures) s.heap.objs.size (He.ga K "show_figures") cdv)) → PSs (cx0 P w K mg base N_show_figures "show_figures" (defScope s_show_figures) (He.ga K "show_figures") cdv A outer s H E) (defBody s_show_figures) (lS K B (t_show_figures K)) := by
  intro cdv A outer s H E B hr
  exact (dss_cons (ds_if (dt_cmp (op_eqD hr.units) od_eq (de_callB call_lenA cd_len rfl T.n_len bt_len (da_cons (dv 0) da_nil)) de_int (nomark _)) (dss_one (ds_ret de_str)) dss_nil) (dss_one (ds_ret (de_join de_str (de_lc (o := false) (own := [("figure", 1)]) (tg := (.one 1)) rfl sc_show_figures.nd (di_any (dv 0)) (blkOk_by (own := [("figure", 1)]) (N := N_show_figures) (sc := defScope s_show_figures) (by decide +kernel)) (by decide) (fun _ _ _ _ _ => (pg_name (i := 1) sc_show_figures.nd rfl (Or.inl rfl))) (fun _ _ _ _ _ => dts_nil) (fun _ _ _ _ _ => (de_ix (de_strG rfl T.xg_FIGURES) (dv 1) (fun _ _ => rfl))))))))
def t_show_sheet (K : PySem.W.Frag) : DS := (sSeq (sAsg (eRev false (eProp (He.ga K "Sheet") (sp_Sheet_columns K) (eV 0))) 1) (sSeq (sAsg (eLst true (aCons (eBin (qAdd false) (eCB qStr2 (aCons (eProp (He.ga K "Sheet") (sp_Sheet_base K) (eV 0)) aNil)) (eC (.str ":"))) aNil)) 2) (sSeq (sFor (iR1 (aCons (eProp (He.ga K "Sheet") (sp_Sheet_rows K) (eV 0)) aNil)) (.one 3) (sDrop (eBM qApp (eV 2) (aCons (eCall (sp_show_figures K) (aCons (eLc false (iS (eV 1)) (.one 4) dYes (eBin qIx (eV 4) (eV 3)) [4]) aNil)) aNil)))) (sRet (eJoin (eC (.str " ")) (eV 2))))))
theorem d_show_sheet (T : Txt K mg) (G_Sheet_columns : Good P w K mg base 2 (pga K (He.ga K "Sheet") "columns") ["self"] (sp_Sheet_columns K)) (G_Sheet_base : Good P w K mg base 2 (pga K (He.ga K "Sheet") "base") ["self"] (sp_Sheet_base K)) (G_Sheet_rows : Good P w K mg base 2 (pga K (He.ga K "Sheet") "rows") ["self"] (sp_Sheet_rows K)) (G_show_figures : Good P w K mg base 2 (He.ga K "show_figures") ["figures"] (sp_show_figures K)) : ∀ (cdv : Value) (A : Around) (outer : List Env) (s : Shared) (H : Hp) (E : XK) (B : Bs), Room 4 (A.deeper (envOfC "show_sheet" (defScope s_show_sheet) s.heap.objs.size (He.ga K "show_sheet") cdv)) → PSs (cx0 P w K mg base N_show_sheet "show_sheet" (defScope s_show_sheet) (He.ga K "show_sheet") cdv A outer s H E) (defBody s_show_sheet) (lS K B (t_show_sheet K)) := by
  intro cdv A outer s H E B hr
  exact (dss_cons (ds_set (i := 1) sc_show_sheet.nd rfl (Or.inl rfl) (de_rev (o := false) (de_propG G_Sheet_columns (hr.mono (by decide)) T.c_Sheet T.p_Sheet_columns (dv 0)))) (dss_cons (ds_set (i := 2) sc_show_sheet.nd rfl (Or.inl rfl) (de_lst (o := true) (da_cons (de_bin op_addA (od_add (o := false)) (de_callTy call_strA2 cd_str2 rfl T.n_str bt_str (da_cons (de_propG G_Sheet_base (hr.mono (by decide)) T.c_Sheet T.p_Sheet_base (dv 0)) da_nil)) de_str) da_nil))) (dss_cons (ds_for (tg := (.one 3)) PassesOwn.never rfl (di_range1 rfl T.n_range (da_cons (de_propG G_Sheet_rows (hr.mono (by decide)) T.c_Sheet T.p_Sheet_rows (dv 0)) da_nil)) (pg_name (i := 3) sc_show_sheet.nd rfl (Or.inr rfl)) (dss_one (ds_expr (de_bm PySem.F.plainAttrs_list PySem.F.slot_list_append PySem.F.type_list_append mt_append md_app (dv 2) (da_cons (de_callG G_show_figures (hr.mono (by decide)) T.g_show_figures (da_cons (de_lc (o := false) (own := [("column", 4)]) (tg := (.one 4)) rfl sc_show_sheet.nd (di_any (dv 1)) (blkOk_by (own := [("column", 4)]) (N := N_show_sheet) (sc := defScope s_show_sheet) (by decide +kernel)) (by decide) (fun _ _ _ _ _ => (pg_name (i := 4) sc_show_sheet.nd rfl (Or.inl rfl))) (fun _ _ _ _ _ => dts_nil) (fun _ _ _ _ _ => (de_ix (dv 4) (dv 3) (fun _ _ => rfl)))) da_nil)) da_nil))))) (dss_one (ds_ret (de_join de_str (dv 2)))))))
def t_law_right (K : PySem.W.Frag) : DS := (sSeq (sAsg (eCall (sp_law_read K) (aCons (eV 0) aNil)) 1) (sSeq (sIf (dNot (eTru (eCall (sp_law_is_text K) (aCons (eV 0) aNil)))) (sRet (eAnd (eCB (qIsiO (He.ga K "Sheet") "list") (aCons (eV 1) (aCons (eC (.raw (.ty "list"))) aNil))) (eBin qEq (eV 1) (eLst false (aCons (eC (.bl true)) (aCons (eC (.bl true)) (aCons (eC (.bl false)) aNil))))))) sNext) (sRet (eAnd (eNot (eCB (qIsiO (He.ga K "Sheet") "list") (aCons (eV 1) (aCons (eC (.raw (.ty "list"))) aNil)))) (eBin qEq (eCall (sp_show_sheet K) (aCons (eV 1) aNil)) (eV 0))))))
theorem d_law_right (T : Txt K mg) (G_law_read : Good P w K mg base 14 (He.ga K "_law_read") ["value"] (sp_law_read K)) (G_law_is_text : Good P w K mg base 2 (He.ga K "_law_is_text") ["value"] (sp_law_is_text K)) (G_show_sheet : Good P w K mg base 5 (He.ga K "show_sheet") ["sheet"] (sp_show_sheet K)) : ∀ (cdv : Value) (A : Around) (outer : List Env) (s : Shared) (H : Hp) (E : XK) (B : Bs), Room 16 (A.deeper (envOfC "_law_right" (defScope s_law_right) s.heap.objs.size (He.ga K "_law_right") cdv)) → PSs (cx0 P w K mg base N_law_right "_law_right" (defScope s_law_right) (He.ga K "_law_right") cdv A outer s H E) (defBody s_law_right) (lS K B (t_law_right K)) := by
  intro cdv A outer s H E B hr
  exact (dss_cons (ds_set (i := 1) sc_law_right.nd rfl (Or.inl rfl) (de_callG G_law_read (hr.mono (by decide)) T.g_law_read (da_cons (dv 0) da_nil))) (dss_cons (ds_if (dt_not (dt_tru (de_callG G_law_is_text (hr.mono (by decide)) T.g_law_is_text (da_cons (dv 0) da_nil)))) (dss_one (ds_ret (de_and (de_callB call_isi (cd_isiO (T := "list") T.ic_Sheet (T.kb_list _ List.mem_cons_self)) rfl T.n_isinstance bt_isinstance (da_cons (dv 1) (da_cons (de_ty rfl T.n_list bt_list) da_nil))) (de_one (de_cmp (op_eqD hr.units) od_eq (dv 1) (de_lst (o := false) (da_cons de_bl (da_cons de_bl (da_cons de_bl da_nil)))) (nomark _)))))) dss_nil) (dss_one (ds_ret (de_and (de_not (de_callB call_isi (cd_isiO (T := "list") T.ic_Sheet (T.kb_list _ List.mem_cons_self)) rfl T.n_isinstance bt_isinstance (da_cons (dv 1) (da_cons (de_ty rfl T.n_list bt_list) da_nil)))) (de_one (de_cmp (op_eqD hr.units) od_eq (de_callG G_show_sheet (hr.mono (by decide)) T.g_show_sheet (da_cons (dv 1) da_nil)) (dv 0) (nomark _))))))))
def t_law (K : PySem.W.Frag) : DS := (sSeq (sFor (iS (eCall (sp_law_cells K) (aCons (eV 0) aNil))) (.one 1) (sSeq (sAsg (eCall (sp_law_deck K) (aCons (eV 1) aNil)) 2) (sSeq (sAsg (eCall (sp_law_draw K) (aCons (eV 2) (aCons (eC (.int 4)) aNil))) 3) (sSeq (sAsg (eCall (sp_law_text K) (aCons (eV 2) aNil)) 4) (sSeq (sAsg (eCall (sp_law_spoilt K) (aCons (eV 2) (aCons (eV 4) aNil))) 5) (sSeq (sIf (eTest (eBin qEq (eV 3) (eC (.int 1)))) (sAsg (eCall (sp_law_spoilt K) (aCons (eV 2) (aCons (eV 5) aNil))) 5) sNext) (sSeq (sIf (eTest (eBin qEq (eV 3) (eC (.int 2)))) (sAsg (eCall (sp_law_near K) (aCons (eV 2) aNil)) 5) sNext) (sIf (dOr (dNot (eTru (eCall (sp_law_right K) (aCons (eV 4) aNil)))) (dOr (dNot (eTru (eCall (sp_law_right K) (aCons (eV 5) aNil)))) (dNot (eTru (eCall (sp_law_right K) (aCons (eV 4) aNil)))))) (sRet (eC (.bl false))) sNext)))))))) (sRet (eC (.bl true))))
theorem d_law (T : Txt K mg) (G_law_cells : Good P w K mg base 2 (He.ga K "_law_cells") ["script"] (sp_law_cells K)) (G_law_deck : Good P w K mg base 2 (He.ga K "_law_deck") ["cell"] (sp_law_deck K)) (G_law_draw : Good P w K mg base 2 (He.ga K "_law_draw") ["deck", "many"] (sp_law_draw K)) (G_law_text : Good P w K mg base 11 (He.ga K "_law_text") ["deck"] (sp_law_text K)) (G_law_spoilt : Good P w K mg base 5 (He.ga K "_law_spoilt") ["deck", "text"] (sp_law_spoilt K)) (G_law_near : Good P w K mg base 5 (He.ga K "_law_near") ["deck"] (sp_law_near K)) (G_law_right : Good P w K mg base 17 (He.ga K "_law_right") ["value"] (sp_law_right K)) : ∀ (cdv : Value) (A : Around) (outer : List Env) (s : Shared) (H : Hp) (E : XK) (B : Bs), Room 19 (A.deeper (envOfC "law" (defScope s_law) s.heap.objs.size (He.ga K "law") cdv)) → PSs (cx0 P w K mg base N_law "law" (defScope s_law) (He.ga K "law") cdv A outer s H E) (defBody s_law) (lS K B (t_law K)) := by
  intro cdv A outer s H E B hr
  exact (dss_cons (ds_for (tg := (.one 1)) PassesOwn.never rfl (di_any (de_callG G_law_cells (hr.mono (by decide)) T.g_law_cells (da_cons (dv 0) da_nil))) (pg_name (i := 1) sc_law.nd rfl (Or.inl rfl)) (dss_cons (ds_set (i := 2) sc_law.nd rfl (Or.inl rfl) (de_callG G_law_deck (hr.mono (by decide)) T.g_law_deck (da_cons (dv 1) da_nil))) (dss_cons (ds_set (i := 3) sc_law.nd rfl (Or.inl rfl) (de_callG G_law_draw (hr.mono (by decide)) T.g_law_draw (da_cons (dv 2) (da_cons de_int da_nil)))) (dss_cons (ds_set (i := 4) sc_law.nd rfl (Or.inl rfl) (de_callG G_law_text (hr.mono (by decide)) T.g_law_text (da_cons (dv 2) da_nil))) (dss_cons (ds_set (i := 5) sc_law.nd rfl (Or.inl rfl) (de_callG G_law_spoilt (hr.mono (by decide)) T.g_law_spoilt (da_cons (dv 2) (da_cons (dv 4) da_nil)))) (dss_cons (ds_if (dt_cmp (op_eqD hr.units) od_eq (dv 3) de_int (nomark _)) (dss_one (ds_set (i := 5) sc_law.nd rfl (Or.inl rfl) (de_callG G_law_spoilt (hr.mono (by decide)) T.g_law_spoilt (da_cons (dv 2) (da_cons (dv 5) da_nil))))) dss_nil) (dss_cons (ds_if (dt_cmp (op_eqD hr.units) od_eq (dv 3) de_int (nomark _)) (dss_one (ds_set (i := 5) sc_law.nd rfl (Or.inl rfl) (de_callG G_law_near (hr.mono (by decide)) T.g_law_near (da_cons (dv 2) da_nil)))) dss_nil) (dss_one (ds_if (PW.pt (dw_or (dt_not (dt_tru (de_callG G_law_right (hr.mono (by decide)) T.g_law_right (da_cons (dv 4) da_nil)))) (dw_or (dt_not (dt_tru (de_callG G_law_right (hr.mono (by decide)) T.g_law_right (da_cons (dv 5) da_nil)))) (dw_or1 (dt_not (dt_tru (de_callG G_law_right (hr.mono (by decide)) T.g_law_right (da_cons (dv 4) da_nil)))))))) (dss_one (ds_ret de_bl)) dss_nil))))))))) (dss_one (ds_ret de_bl)))
end
local macro_rules | `(tactic| walk_at "v") => `(tactic| repeat' (first
  | ((with_reducible refine v_varX ?_); (refine ⟨_, rfl, ?_⟩))
  | with_reducible refine v_c ?_
  | with_reducible refine v_seq ?_
  | with_reducible refine v_bin ?_
  | with_reducible refine v_asg ?_
  | with_reducible refine v_acons ?_
  | with_reducible refine v_anil ?_
  | with_reducible refine v_test ?_
  | with_reducible refine v_bl ?_
  | with_reducible refine v_in ?_
  | with_reducible refine v_call ?_
  | with_reducible refine v_cb ?_
  | with_reducible refine v_if ?_
  | with_reducible refine v_ret ?_
  | with_reducible refine v_addI ?_
  | with_reducible refine v_subI ?_
  | with_reducible refine v_eqI ?_
  | with_reducible refine v_neI ?_
  | with_reducible refine v_ltI ?_
  | with_reducible refine v_leI ?_
  | with_reducible refine v_gtI ?_
  | with_reducible refine v_geI ?_
  | with_reducible refine v_intI ?_
  | with_reducible refine v_intB ?_
  | with_reducible refine v_T ?_
  | with_reducible refine v_F ?_
  | with_reducible refine v_dnot ?_
  | with_reducible refine v_dand ?_
  | with_reducible refine v_dor ?_
  | with_reducible refine v_dyes ?_
  | with_reducible refine v_enot ?_
  | with_reducible refine v_eand ?_
  | with_reducible refine v_eor ?_
  | with_reducible refine v_eif ?_
  | with_reducible refine v_chain ?_
  | with_reducible refine v_tru ?_
  | with_reducible refine v_tup ?_
  | with_reducible refine v_lst ?_
  | with_reducible refine v_lc ?_
  | with_reducible refine v_for ?_
  | ((with_reducible refine v_j1X ?_); (refine ⟨by omega, ?_⟩))
  | ((with_reducible refine v_j2X ?_); (refine ⟨by omega, ?_⟩))
  | with_reducible refine v_newF ?_
  | with_reducible refine v_newC ?_
  | with_reducible refine v_sl ?_
  | with_reducible refine v_onone ?_
  | with_reducible refine v_osome ?_
  | with_reducible refine v_bm ?_
  | with_reducible refine v_bm0 ?_
  | with_reducible refine v_next ?_
  | with_reducible refine v_drop ?_
  | with_reducible refine v_retN ?_
  | with_reducible refine v_asgT ?_
  | with_reducible refine v_iS ?_
  | with_reducible refine v_iR1 ?_
  | with_reducible refine v_iR2 ?_
  | with_reducible refine v_prop ?_
  | with_reducible refine v_fld ?_
  | with_reducible refine v_meth ?_
  | with_reducible refine v_make ?_
  | with_reducible refine v_nthn ?_
  | with_reducible refine v_rthn ?_
  | with_reducible refine v_bthn ?_
  | with_reducible refine v_cthn ?_
  | with_reducible refine v_nlp ?_
  | with_reducible refine v_rlp ?_
  | with_reducible refine v_blp ?_
  | with_reducible refine v_clp ?_
  | with_reducible refine v_nfn ?_
  | with_reducible refine v_rfn ?_
  | ((with_reducible refine v_isXT ?_); (refine ⟨_, (by first | exact rfl | assumption), ?_⟩); (refine ⟨rfl, rfl, ?_⟩))
  | ((with_reducible refine v_isXF ?_); (refine ⟨_, (by first | exact rfl | assumption), ?_⟩); (refine ⟨rfl, rfl, ?_⟩))
  | ((with_reducible refine v_ixTX ?_); (refine ⟨_, rfl, ?_⟩))
  | ((with_reducible refine v_ixCx ?_); (refine ⟨_, _, (by first | assumption | exact DL.app_get | exact DL.set_get (by first | assumption | exact DL.app_get | exact DL.set_get (by first | assumption | exact DL.app_get | exact DL.set_get (by first | assumption | exact DL.app_get | exact DL.set_get (by first | assumption | exact DL.app_get | exact DL.set_get (by first | assumption | exact DL.app_get) | exact DL.app_get_lt (by first | assumption | exact DL.app_get)) | exact DL.app_get_lt (by first | assumption | exact DL.app_get | exact DL.set_get (by first | assumption | exact DL.app_get) | exact DL.app_get_lt (by first | assumption | exact DL.app_get))) | exact DL.app_get_lt (by first | assumption | exact DL.app_get | exact DL.set_get (by first | assumption | exact DL.app_get | exact DL.set_get (by first | assumption | exact DL.app_get) | exact DL.app_get_lt (by first | assumption | exact DL.app_get)) | exact DL.app_get_lt (by first | assumption | exact DL.app_get | exact DL.set_get (by first | assumption | exact DL.app_get) | exact DL.app_get_lt (by first | assumption | exact DL.app_get)))) | exact DL.app_get_lt (by first | assumption | exact DL.app_get | exact DL.set_get (by first | assumption | exact DL.app_get | exact DL.set_get (by first | assumption | exact DL.app_get | exact DL.set_get (by first | assumption | exact DL.app_get) | exact DL.app_get_lt (by first | assumption | exact DL.app_get)) | exact DL.app_get_lt (by first | assumption | exact DL.app_get | exact DL.set_get (by first | assumption | exact DL.app_get) | exact DL.app_get_lt (by first | assumption | exact DL.app_get))) | exact DL.app_get_lt (by first | assumption | exact DL.app_get | exact DL.set_get (by first | assumption | exact DL.app_get | exact DL.set_get (by first | assumption | exact DL.app_get) | exact DL.app_get_lt (by first | assumption | exact DL.app_get)) | exact DL.app_get_lt (by first | assumption | exact DL.app_get | exact DL.set_get (by first | assumption | exact DL.app_get) | exact DL.app_get_lt (by first | assumption | exact DL.app_get))))) | exact DL.app_get_lt (by first | assumption | exact DL.app_get | exact DL.set_get (by first | assumption | exact DL.app_get | exact DL.set_get (by first | assumption | exact DL.app_get | exact DL.set_get (by first | assumption | exact DL.app_get | exact DL.set_get (by first | assumption | exact DL.app_get) | exact DL.app_get_lt (by first | assumption | exact DL.app_get)) | exact DL.app_get_lt (by first | assumption | exact DL.app_get | exact DL.set_get (by first | assumption | exact DL.app_get) | exact DL.app_get_lt (by first | assumption | exact DL.app_get))) | exact DL.app_get_lt (by first | assumption | exact DL.app_get | exact DL.set_get (by first | assumption | exact DL.app_get | exact DL.set_get (by first | assumption | exact DL.app_get) | exact DL.app_get_lt (by first | assumption | exact DL.app_get)) | exact DL.app_get_lt (by first | assumption | exact DL.app_get | exact DL.set_get (by first | assumption | exact DL.app_get) | exact DL.app_get_lt (by first | assumption | exact DL.app_get)))) | exact DL.app_get_lt (by first | assumption | exact DL.app_get | exact DL.set_get (by first | assumption | exact DL.app_get | exact DL.set_get (by first | assumption | exact DL.app_get | exact DL.set_get (by first | assumption | exact DL.app_get) | exact DL.app_get_lt (by first | assumption | exact DL.app_get)) | exact DL.app_get_lt (by first | assumption | exact DL.app_get | exact DL.set_get (by first | assumption | exact DL.app_get) | exact DL.app_get_lt (by first | assumption | exact DL.app_get))) | exact DL.app_get_lt (by first | assumption | exact DL.app_get | exact DL.set_get (by first | assumption | exact DL.app_get | exact DL.set_get (by first | assumption | exact DL.app_get) | exact DL.app_get_lt (by first | assumption | exact DL.app_get)) | exact DL.app_get_lt (by first | assumption | exact DL.app_get | exact DL.set_get (by first | assumption | exact DL.app_get) | exact DL.app_get_lt (by first | assumption | exact DL.app_get)))))), rfl, ?_⟩))
  | ((with_reducible refine v_szX ?_); (refine ⟨rfl, ?_⟩))
  | ((with_reducible refine v_fdivX ?_); (refine ⟨.inl ⟨by omega, by omega⟩, ?_⟩))
  | ((with_reducible refine v_mulX ?_); (first | refine ⟨.inl (.inr ⟨by omega, by omega⟩), ?_⟩ | refine ⟨.inl (.inl ⟨by omega, by omega⟩), ?_⟩))
  | ((with_reducible refine v_powX ?_); (refine ⟨⟨by decide, by decide, by decide⟩, ?_⟩))
  | ((with_reducible refine v_modX ?_); (refine ⟨by omega, ?_⟩))
  | with_reducible refine v_sub ?_
  | with_reducible refine v_rev ?_
  | with_reducible refine v_tupT ?_
  | ((with_reducible refine v_subX ?_); refine ⟨_, _, _, _, rfl, (by first | assumption | exact DL.app_get | exact DL.set_get (by first | assumption | exact DL.app_get | exact DL.set_get (by first | assumption | exact DL.app_get | exact DL.set_get (by first | assumption | exact DL.app_get | exact DL.set_get (by first | assumption | exact DL.app_get | exact DL.set_get (by first | assumption | exact DL.app_get) | exact DL.app_get_lt (by first | assumption | exact DL.app_get)) | exact DL.app_get_lt (by first | assumption | exact DL.app_get | exact DL.set_get (by first | assumption | exact DL.app_get) | exact DL.app_get_lt (by first | assumption | exact DL.app_get))) | exact DL.app_get_lt (by first | assumption | exact DL.app_get | exact DL.set_get (by first | assumption | exact DL.app_get | exact DL.set_get (by first | assumption | exact DL.app_get) | exact DL.app_get_lt (by first | assumption | exact DL.app_get)) | exact DL.app_get_lt (by first | assumption | exact DL.app_get | exact DL.set_get (by first | assumption | exact DL.app_get) | exact DL.app_get_lt (by first | assumption | exact DL.app_get)))) | exact DL.app_get_lt (by first | assumption | exact DL.app_get | exact DL.set_get (by first | assumption | exact DL.app_get | exact DL.set_get (by first | assumption | exact DL.app_get | exact DL.set_get (by first | assumption | exact DL.app_get) | exact DL.app_get_lt (by first | assumption | exact DL.app_get)) | exact DL.app_get_lt (by first | assumption | exact DL.app_get | exact DL.set_get (by first | assumption | exact DL.app_get) | exact DL.app_get_lt (by first | assumption | exact DL.app_get))) | exact DL.app_get_lt (by first | assumption | exact DL.app_get | exact DL.set_get (by first | assumption | exact DL.app_get | exact DL.set_get (by first | assumption | exact DL.app_get) | exact DL.app_get_lt (by first | assumption | exact DL.app_get)) | exact DL.app_get_lt (by first | assumption | exact DL.app_get | exact DL.set_get (by first | assumption | exact DL.app_get) | exact DL.app_get_lt (by first | assumption | exact DL.app_get))))) | exact DL.app_get_lt (by first | assumption | exact DL.app_get | exact DL.set_get (by first | assumption | exact DL.app_get | exact DL.set_get (by first | assumption | exact DL.app_get | exact DL.set_get (by first | assumption | exact DL.app_get | exact DL.set_get (by first | assumption | exact DL.app_get) | exact DL.app_get_lt (by first | assumption | exact DL.app_get)) | exact DL.app_get_lt (by first | assumption | exact DL.app_get | exact DL.set_get (by first | assumption | exact DL.app_get) | exact DL.app_get_lt (by first | assumption | exact DL.app_get))) | exact DL.app_get_lt (by first | assumption | exact DL.app_get | exact DL.set_get (by first | assumption | exact DL.app_get | exact DL.set_get (by first | assumption | exact DL.app_get) | exact DL.app_get_lt (by first | assumption | exact DL.app_get)) | exact DL.app_get_lt (by first | assumption | exact DL.app_get | exact DL.set_get (by first | assumption | exact DL.app_get) | exact DL.app_get_lt (by first | assumption | exact DL.app_get)))) | exact DL.app_get_lt (by first | assumption | exact DL.app_get | exact DL.set_get (by first | assumption | exact DL.app_get | exact DL.set_get (by first | assumption | exact DL.app_get | exact DL.set_get (by first | assumption | exact DL.app_get) | exact DL.app_get_lt (by first | assumption | exact DL.app_get)) | exact DL.app_get_lt (by first | assumption | exact DL.app_get | exact DL.set_get (by first | assumption | exact DL.app_get) | exact DL.app_get_lt (by first | assumption | exact DL.app_get))) | exact DL.app_get_lt (by first | assumption | exact DL.app_get | exact DL.set_get (by first | assumption | exact DL.app_get | exact DL.set_get (by first | assumption | exact DL.app_get) | exact DL.app_get_lt (by first | assumption | exact DL.app_get)) | exact DL.app_get_lt (by first | assumption | exact DL.app_get | exact DL.set_get (by first | assumption | exact DL.app_get) | exact DL.app_get_lt (by first | assumption | exact DL.app_get)))))), rfl, rfl, ?_⟩)
  | with_reducible refine v_break ?_
  | with_reducible refine v_cont ?_
  | with_reducible refine v_truB' ?_
  | with_reducible refine v_nT ?_
  | with_reducible refine v_nF ?_
  | ((with_reducible refine v_itF ?_); (refine ⟨_, (by first | exact rfl | assumption), ?_⟩))
  | ((with_reducible refine v_itC ?_); (refine ⟨_, (by first | assumption | exact DL.app_get | exact DL.set_get (by first | assumption | exact DL.app_get | exact DL.set_get (by first | assumption | exact DL.app_get | exact DL.set_get (by first | assumption | exact DL.app_get | exact DL.set_get (by first | assumption | exact DL.app_get | exact DL.set_get (by first | assumption | exact DL.app_get) | exact DL.app_get_lt (by first | assumption | exact DL.app_get)) | exact DL.app_get_lt (by first | assumption | exact DL.app_get | exact DL.set_get (by first | assumption | exact DL.app_get) | exact DL.app_get_lt (by first | assumption | exact DL.app_get))) | exact DL.app_get_lt (by first | assumption | exact DL.app_get | exact DL.set_get (by first | assumption | exact DL.app_get | exact DL.set_get (by first | assumption | exact DL.app_get) | exact DL.app_get_lt (by first | assumption | exact DL.app_get)) | exact DL.app_get_lt (by first | assumption | exact DL.app_get | exact DL.set_get (by first | assumption | exact DL.app_get) | exact DL.app_get_lt (by first | assumption | exact DL.app_get)))) | exact DL.app_get_lt (by first | assumption | exact DL.app_get | exact DL.set_get (by first | assumption | exact DL.app_get | exact DL.set_get (by first | assumption | exact DL.app_get | exact DL.set_get (by first | assumption | exact DL.app_get) | exact DL.app_get_lt (by first | assumption | exact DL.app_get)) | exact DL.app_get_lt (by first | assumption | exact DL.app_get | exact DL.set_get (by first | assumption | exact DL.app_get) | exact DL.app_get_lt (by first | assumption | exact DL.app_get))) | exact DL.app_get_lt (by first | assumption | exact DL.app_get | exact DL.set_get (by first | assumption | exact DL.app_get | exact DL.set_get (by first | assumption | exact DL.app_get) | exact DL.app_get_lt (by first | assumption | exact DL.app_get)) | exact DL.app_get_lt (by first | assumption | exact DL.app_get | exact DL.set_get (by first | assumption | exact DL.app_get) | exact DL.app_get_lt (by first | assumption | exact DL.app_get))))) | exact DL.app_get_lt (by first | assumption | exact DL.app_get | exact DL.set_get (by first | assumption | exact DL.app_get | exact DL.set_get (by first | assumption | exact DL.app_get | exact DL.set_get (by first | assumption | exact DL.app_get | exact DL.set_get (by first | assumption | exact DL.app_get) | exact DL.app_get_lt (by first | assumption | exact DL.app_get)) | exact DL.app_get_lt (by first | assumption | exact DL.app_get | exact DL.set_get (by first | assumption | exact DL.app_get) | exact DL.app_get_lt (by first | assumption | exact DL.app_get))) | exact DL.app_get_lt (by first | assumption | exact DL.app_get | exact DL.set_get (by first | assumption | exact DL.app_get | exact DL.set_get (by first | assumption | exact DL.app_get) | exact DL.app_get_lt (by first | assumption | exact DL.app_get)) | exact DL.app_get_lt (by first | assumption | exact DL.app_get | exact DL.set_get (by first | assumption | exact DL.app_get) | exact DL.app_get_lt (by first | assumption | exact DL.app_get)))) | exact DL.app_get_lt (by first | assumption | exact DL.app_get | exact DL.set_get (by first | assumption | exact DL.app_get | exact DL.set_get (by first | assumption | exact DL.app_get | exact DL.set_get (by first | assumption | exact DL.app_get) | exact DL.app_get_lt (by first | assumption | exact DL.app_get)) | exact DL.app_get_lt (by first | assumption | exact DL.app_get | exact DL.set_get (by first | assumption | exact DL.app_get) | exact DL.app_get_lt (by first | assumption | exact DL.app_get))) | exact DL.app_get_lt (by first | assumption | exact DL.app_get | exact DL.set_get (by first | assumption | exact DL.app_get | exact DL.set_get (by first | assumption | exact DL.app_get) | exact DL.app_get_lt (by first | assumption | exact DL.app_get)) | exact DL.app_get_lt (by first | assumption | exact DL.app_get | exact DL.set_get (by first | assumption | exact DL.app_get) | exact DL.app_get_lt (by first | assumption | exact DL.app_get)))))), ?_⟩))
  | ((with_reducible refine v_insX ?_); (refine ⟨_, _, _, (by first | assumption | exact DL.ins_cell (by first | assumption | exact DL.app_get | exact DL.set_get (by first | assumption | exact DL.app_get | exact DL.set_get (by first | assumption | exact DL.app_get | exact DL.set_get (by first | assumption | exact DL.app_get | exact DL.set_get (by first | assumption | exact DL.app_get) | exact DL.app_get_lt (by first | assumption | exact DL.app_get)) | exact DL.app_get_lt (by first | assumption | exact DL.app_get | exact DL.set_get (by first | assumption | exact DL.app_get) | exact DL.app_get_lt (by first | assumption | exact DL.app_get))) | exact DL.app_get_lt (by first | assumption | exact DL.app_get | exact DL.set_get (by first | assumption | exact DL.app_get | exact DL.set_get (by first | assumption | exact DL.app_get) | exact DL.app_get_lt (by first | assumption | exact DL.app_get)) | exact DL.app_get_lt (by first | assumption | exact DL.app_get | exact DL.set_get (by first | assumption | exact DL.app_get) | exact DL.app_get_lt (by first | assumption | exact DL.app_get)))) | exact DL.app_get_lt (by first | assumption | exact DL.app_get | exact DL.set_get (by first | assumption | exact DL.app_get | exact DL.set_get (by first | assumption | exact DL.app_get | exact DL.set_get (by first | assumption | exact DL.app_get) | exact DL.app_get_lt (by first | assumption | exact DL.app_get)) | exact DL.app_get_lt (by first | assumption | exact DL.app_get | exact DL.set_get (by first | assumption | exact DL.app_get) | exact DL.app_get_lt (by first | assumption | exact DL.app_get))) | exact DL.app_get_lt (by first | assumption | exact DL.app_get | exact DL.set_get (by first | assumption | exact DL.app_get | exact DL.set_get (by first | assumption | exact DL.app_get) | exact DL.app_get_lt (by first | assumption | exact DL.app_get)) | exact DL.app_get_lt (by first | assumption | exact DL.app_get | exact DL.set_get (by first | assumption | exact DL.app_get) | exact DL.app_get_lt (by first | assumption | exact DL.app_get)))))), rfl, ?_⟩))
  | ((with_reducible refine v_insP ?_); (refine ⟨⟨_, _, (by first | assumption | exact DL.ins_cell (by first | assumption | exact DL.app_get | exact DL.set_get (by first | assumption | exact DL.app_get | exact DL.set_get (by first | assumption | exact DL.app_get | exact DL.set_get (by first | assumption | exact DL.app_get | exact DL.set_get (by first | assumption | exact DL.app_get) | exact DL.app_get_lt (by first | assumption | exact DL.app_get)) | exact DL.app_get_lt (by first | assumption | exact DL.app_get | exact DL.set_get (by first | assumption | exact DL.app_get) | exact DL.app_get_lt (by first | assumption | exact DL.app_get))) | exact DL.app_get_lt (by first | assumption | exact DL.app_get | exact DL.set_get (by first | assumption | exact DL.app_get | exact DL.set_get (by first | assumption | exact DL.app_get) | exact DL.app_get_lt (by first | assumption | exact DL.app_get)) | exact DL.app_get_lt (by first | assumption | exact DL.app_get | exact DL.set_get (by first | assumption | exact DL.app_get) | exact DL.app_get_lt (by first | assumption | exact DL.app_get)))) | exact DL.app_get_lt (by first | assumption | exact DL.app_get | exact DL.set_get (by first | assumption | exact DL.app_get | exact DL.set_get (by first | assumption | exact DL.app_get | exact DL.set_get (by first | assumption | exact DL.app_get) | exact DL.app_get_lt (by first | assumption | exact DL.app_get)) | exact DL.app_get_lt (by first | assumption | exact DL.app_get | exact DL.set_get (by first | assumption | exact DL.app_get) | exact DL.app_get_lt (by first | assumption | exact DL.app_get))) | exact DL.app_get_lt (by first | assumption | exact DL.app_get | exact DL.set_get (by first | assumption | exact DL.app_get | exact DL.set_get (by first | assumption | exact DL.app_get) | exact DL.app_get_lt (by first | assumption | exact DL.app_get)) | exact DL.app_get_lt (by first | assumption | exact DL.app_get | exact DL.set_get (by first | assumption | exact DL.app_get) | exact DL.app_get_lt (by first | assumption | exact DL.app_get))))))⟩, ?_⟩))
  | ((with_reducible refine v_lkX ?_); (refine ⟨_, (by first | exact rfl | assumption), ?_⟩))
  | with_reducible refine v_fldS ?_
  | ((with_reducible refine v_fldX ?_); refine ⟨_, _, _, rfl, (by first | assumption | exact DL.app_get | exact DL.set_get (by first | assumption | exact DL.app_get | exact DL.set_get (by first | assumption | exact DL.app_get | exact DL.set_get (by first | assumption | exact DL.app_get | exact DL.set_get (by first | assumption | exact DL.app_get | exact DL.set_get (by first | assumption | exact DL.app_get) | exact DL.app_get_lt (by first | assumption | exact DL.app_get)) | exact DL.app_get_lt (by first | assumption | exact DL.app_get | exact DL.set_get (by first | assumption | exact DL.app_get) | exact DL.app_get_lt (by first | assumption | exact DL.app_get))) | exact DL.app_get_lt (by first | assumption | exact DL.app_get | exact DL.set_get (by first | assumption | exact DL.app_get | exact DL.set_get (by first | assumption | exact DL.app_get) | exact DL.app_get_lt (by first | assumption | exact DL.app_get)) | exact DL.app_get_lt (by first | assumption | exact DL.app_get | exact DL.set_get (by first | assumption | exact DL.app_get) | exact DL.app_get_lt (by first | assumption | exact DL.app_get)))) | exact DL.app_get_lt (by first | assumption | exact DL.app_get | exact DL.set_get (by first | assumption | exact DL.app_get | exact DL.set_get (by first | assumption | exact DL.app_get | exact DL.set_get (by first | assumption | exact DL.app_get) | exact DL.app_get_lt (by first | assumption | exact DL.app_get)) | exact DL.app_get_lt (by first | assumption | exact DL.app_get | exact DL.set_get (by first | assumption | exact DL.app_get) | exact DL.app_get_lt (by first | assumption | exact DL.app_get))) | exact DL.app_get_lt (by first | assumption | exact DL.app_get | exact DL.set_get (by first | assumption | exact DL.app_get | exact DL.set_get (by first | assumption | exact DL.app_get) | exact DL.app_get_lt (by first | assumption | exact DL.app_get)) | exact DL.app_get_lt (by first | assumption | exact DL.app_get | exact DL.set_get (by first | assumption | exact DL.app_get) | exact DL.app_get_lt (by first | assumption | exact DL.app_get))))) | exact DL.app_get_lt (by first | assumption | exact DL.app_get | exact DL.set_get (by first | assumption | exact DL.app_get | exact DL.set_get (by first | assumption | exact DL.app_get | exact DL.set_get (by first | assumption | exact DL.app_get | exact DL.set_get (by first | assumption | exact DL.app_get) | exact DL.app_get_lt (by first | assumption | exact DL.app_get)) | exact DL.app_get_lt (by first | assumption | exact DL.app_get | exact DL.set_get (by first | assumption | exact DL.app_get) | exact DL.app_get_lt (by first | assumption | exact DL.app_get))) | exact DL.app_get_lt (by first | assumption | exact DL.app_get | exact DL.set_get (by first | assumption | exact DL.app_get | exact DL.set_get (by first | assumption | exact DL.app_get) | exact DL.app_get_lt (by first | assumption | exact DL.app_get)) | exact DL.app_get_lt (by first | assumption | exact DL.app_get | exact DL.set_get (by first | assumption | exact DL.app_get) | exact DL.app_get_lt (by first | assumption | exact DL.app_get)))) | exact DL.app_get_lt (by first | assumption | exact DL.app_get | exact DL.set_get (by first | assumption | exact DL.app_get | exact DL.set_get (by first | assumption | exact DL.app_get | exact DL.set_get (by first | assumption | exact DL.app_get) | exact DL.app_get_lt (by first | assumption | exact DL.app_get)) | exact DL.app_get_lt (by first | assumption | exact DL.app_get | exact DL.set_get (by first | assumption | exact DL.app_get) | exact DL.app_get_lt (by first | assumption | exact DL.app_get))) | exact DL.app_get_lt (by first | assumption | exact DL.app_get | exact DL.set_get (by first | assumption | exact DL.app_get | exact DL.set_get (by first | assumption | exact DL.app_get) | exact DL.app_get_lt (by first | assumption | exact DL.app_get)) | exact DL.app_get_lt (by first | assumption | exact DL.app_get | exact DL.set_get (by first | assumption | exact DL.app_get) | exact DL.app_get_lt (by first | assumption | exact DL.app_get)))))), by decide, by decide, ?_⟩)
  | with_reducible refine v_isN0 ?_
  | with_reducible refine v_isnN0 ?_
  | ((with_reducible refine v_isN1 ?_); (refine ⟨rfl, rfl, ?_⟩))
  | ((with_reducible refine v_isnN1 ?_); (refine ⟨rfl, rfl, ?_⟩))
  | ((with_reducible refine v_eqNF ?_); (refine ⟨⟨rfl, rfl, rfl⟩, (by first | rfl | decide +kernel), (by first | rfl | decide +kernel), (by first | rfl | decide +kernel), ?_⟩))
  | ((with_reducible refine v_eqNT ?_); (refine ⟨⟨rfl, rfl, rfl⟩, (by first | rfl | decide +kernel), (by first | rfl | decide +kernel), (by first | rfl | decide +kernel), ?_⟩))
  | ((with_reducible refine v_neNF ?_); (refine ⟨⟨rfl, rfl, rfl⟩, (by first | rfl | decide +kernel), (by first | rfl | decide +kernel), (by first | rfl | decide +kernel), ?_⟩))
  | ((with_reducible refine v_neNT ?_); (refine ⟨⟨rfl, rfl, rfl⟩, (by first | rfl | decide +kernel), (by first | rfl | decide +kernel), (by first | rfl | decide +kernel), ?_⟩))
  | with_reducible refine v_asgG ?_
  | with_reducible refine v_gN ?_
  | with_reducible refine v_gF ?_
  | with_reducible refine v_gZ ?_
  | with_reducible refine v_gC ?_
  | ((with_reducible refine v_gT ?_); (refine ⟨rfl, ?_⟩))
  | ((with_reducible refine v_updF ?_); (refine ⟨_, _, _, _, rfl, (by first | assumption | exact DL.app_get | exact DL.set_get (by first | assumption | exact DL.app_get | exact DL.set_get (by first | assumption | exact DL.app_get | exact DL.set_get (by first | assumption | exact DL.app_get | exact DL.set_get (by first | assumption | exact DL.app_get | exact DL.set_get (by first | assumption | exact DL.app_get) | exact DL.app_get_lt (by first | assumption | exact DL.app_get)) | exact DL.app_get_lt (by first | assumption | exact DL.app_get | exact DL.set_get (by first | assumption | exact DL.app_get) | exact DL.app_get_lt (by first | assumption | exact DL.app_get))) | exact DL.app_get_lt (by first | assumption | exact DL.app_get | exact DL.set_get (by first | assumption | exact DL.app_get | exact DL.set_get (by first | assumption | exact DL.app_get) | exact DL.app_get_lt (by first | assumption | exact DL.app_get)) | exact DL.app_get_lt (by first | assumption | exact DL.app_get | exact DL.set_get (by first | assumption | exact DL.app_get) | exact DL.app_get_lt (by first | assumption | exact DL.app_get)))) | exact DL.app_get_lt (by first | assumption | exact DL.app_get | exact DL.set_get (by first | assumption | exact DL.app_get | exact DL.set_get (by first | assumption | exact DL.app_get | exact DL.set_get (by first | assumption | exact DL.app_get) | exact DL.app_get_lt (by first | assumption | exact DL.app_get)) | exact DL.app_get_lt (by first | assumption | exact DL.app_get | exact DL.set_get (by first | assumption | exact DL.app_get) | exact DL.app_get_lt (by first | assumption | exact DL.app_get))) | exact DL.app_get_lt (by first | assumption | exact DL.app_get | exact DL.set_get (by first | assumption | exact DL.app_get | exact DL.set_get (by first | assumption | exact DL.app_get) | exact DL.app_get_lt (by first | assumption | exact DL.app_get)) | exact DL.app_get_lt (by first | assumption | exact DL.app_get | exact DL.set_get (by first | assumption | exact DL.app_get) | exact DL.app_get_lt (by first | assumption | exact DL.app_get))))) | exact DL.app_get_lt (by first | assumption | exact DL.app_get | exact DL.set_get (by first | assumption | exact DL.app_get | exact DL.set_get (by first | assumption | exact DL.app_get | exact DL.set_get (by first | assumption | exact DL.app_get | exact DL.set_get (by first | assumption | exact DL.app_get) | exact DL.app_get_lt (by first | assumption | exact DL.app_get)) | exact DL.app_get_lt (by first | assumption | exact DL.app_get | exact DL.set_get (by first | assumption | exact DL.app_get) | exact DL.app_get_lt (by first | assumption | exact DL.app_get))) | exact DL.app_get_lt (by first | assumption | exact DL.app_get | exact DL.set_get (by first | assumption | exact DL.app_get | exact DL.set_get (by first | assumption | exact DL.app_get) | exact DL.app_get_lt (by first | assumption | exact DL.app_get)) | exact DL.app_get_lt (by first | assumption | exact DL.app_get | exact DL.set_get (by first | assumption | exact DL.app_get) | exact DL.app_get_lt (by first | assumption | exact DL.app_get)))) | exact DL.app_get_lt (by first | assumption | exact DL.app_get | exact DL.set_get (by first | assumption | exact DL.app_get | exact DL.set_get (by first | assumption | exact DL.app_get | exact DL.set_get (by first | assumption | exact DL.app_get) | exact DL.app_get_lt (by first | assumption | exact DL.app_get)) | exact DL.app_get_lt (by first | assumption | exact DL.app_get | exact DL.set_get (by first | assumption | exact DL.app_get) | exact DL.app_get_lt (by first | assumption | exact DL.app_get))) | exact DL.app_get_lt (by first | assumption | exact DL.app_get | exact DL.set_get (by first | assumption | exact DL.app_get | exact DL.set_get (by first | assumption | exact DL.app_get) | exact DL.app_get_lt (by first | assumption | exact DL.app_get)) | exact DL.app_get_lt (by first | assumption | exact DL.app_get | exact DL.set_get (by first | assumption | exact DL.app_get) | exact DL.app_get_lt (by first | assumption | exact DL.app_get)))))), by decide, rfl, ?_⟩))
  | with_reducible refine v_fldU ?_
  | with_reducible refine v_fldA ?_
  | with_reducible refine v_addII ?_
  | ((with_reducible refine v_methX ?_); (refine ⟨⟨_, _, (by first | assumption | exact DL.ins_cell (by first | assumption | exact DL.app_get | exact DL.set_get (by first | assumption | exact DL.app_get | exact DL.set_get (by first | assumption | exact DL.app_get | exact DL.set_get (by first | assumption | exact DL.app_get | exact DL.set_get (by first | assumption | exact DL.app_get) | exact DL.app_get_lt (by first | assumption | exact DL.app_get)) | exact DL.app_get_lt (by first | assumption | exact DL.app_get | exact DL.set_get (by first | assumption | exact DL.app_get) | exact DL.app_get_lt (by first | assumption | exact DL.app_get))) | exact DL.app_get_lt (by first | assumption | exact DL.app_get | exact DL.set_get (by first | assumption | exact DL.app_get | exact DL.set_get (by first | assumption | exact DL.app_get) | exact DL.app_get_lt (by first | assumption | exact DL.app_get)) | exact DL.app_get_lt (by first | assumption | exact DL.app_get | exact DL.set_get (by first | assumption | exact DL.app_get) | exact DL.app_get_lt (by first | assumption | exact DL.app_get)))) | exact DL.app_get_lt (by first | assumption | exact DL.app_get | exact DL.set_get (by first | assumption | exact DL.app_get | exact DL.set_get (by first | assumption | exact DL.app_get | exact DL.set_get (by first | assumption | exact DL.app_get) | exact DL.app_get_lt (by first | assumption | exact DL.app_get)) | exact DL.app_get_lt (by first | assumption | exact DL.app_get | exact DL.set_get (by first | assumption | exact DL.app_get) | exact DL.app_get_lt (by first | assumption | exact DL.app_get))) | exact DL.app_get_lt (by first | assumption | exact DL.app_get | exact DL.set_get (by first | assumption | exact DL.app_get | exact DL.set_get (by first | assumption | exact DL.app_get) | exact DL.app_get_lt (by first | assumption | exact DL.app_get)) | exact DL.app_get_lt (by first | assumption | exact DL.app_get | exact DL.set_get (by first | assumption | exact DL.app_get) | exact DL.app_get_lt (by first | assumption | exact DL.app_get)))))), by decide⟩, ?_⟩))
  | with_reducible refine v_while ?_
  | with_reducible refine v_setO ?_
  | with_reducible refine v_en ?_
  | with_reducible refine v_oneD ?_
  | ((with_reducible refine v_itLF ?_); (refine ⟨_, rfl, ?_⟩))
  | ((with_reducible refine v_tgX ?_); (refine ⟨_, rfl, ?_⟩))
  | with_reducible refine v_neg ?_
  | with_reducible refine v_oneI ?_
  | with_reducible refine v_isnB ?_
  | with_reducible refine v_isB ?_
  | with_reducible refine v_lc2 ?_
  | with_reducible refine v_max2 ?_
  | with_reducible refine v_min2 ?_
  | with_reducible refine v_callX ?_
  | with_reducible refine v_makeX ?_
  | with_reducible refine v_setX ?_
  | with_reducible refine v_twoX ?_
  | ((with_reducible refine v_isEX ?_); (refine ⟨_, rfl, rfl, _, List.mem_cons_self, ?_⟩))
  | with_reducible refine v_raise ?_
  | ((with_reducible refine v_par ?_); skip)
  | with_reducible refine v_raiseI ?_
  | with_reducible refine v_xf ?_
  | with_reducible refine v_unx ?_
  | with_reducible refine v_urt ?_
  | with_reducible refine v_dct ?_
  | with_reducible refine v_dnew ?_
  | with_reducible refine v_dput ?_
  | with_reducible refine v_dget ?_
  | with_reducible refine v_din ?_
  | with_reducible refine v_star ?_
  | with_reducible refine v_par3 ?_
  | with_reducible refine v_fz ?_))
local macro_rules | `(tactic| walk_at "w") => `(tactic| (walk_at "v"; all_goals try dsimp only [List.set]))
section
variable {K : PySem.W.Frag}
theorem len_is_integer : ∀ ds cs Q, sp_is_integer K ds cs Q → ds.length = 1 := by rintro ds cs Q ⟨_, rfl, _⟩; rfl
theorem vc_is_integer : ∀ ds cs Q, Lo ds cs → LoC cs → sp_is_integer K ds cs Q → t_is_integer K (Po.fn cs Q) ⟨startD N_is_integer ds, cs⟩ := by
  rintro ds cs Q hd hc ⟨d, rfl, ⟨a, ha⟩, q⟩
  unfold t_is_integer
  cases d
  case cell n =>
    cases tyN_cell ha
    walk_at "v"
    exact .inl q
  all_goals first | (cases ha; done) | (walk_at "v"; exact Or.inl q)
theorem len_law_cells : ∀ ds cs Q, sp_law_cells K ds cs Q → ds.length = 1 := by rintro ds cs Q ⟨_, rfl, _⟩; rfl
theorem vc_law_cells : ∀ ds cs Q, Lo ds cs → LoC cs → sp_law_cells K ds cs Q → t_law_cells K (Po.fn cs Q) ⟨startD N_law_cells ds, cs⟩ := by
  rintro ds cs Q hd hc ⟨ns, rfl, q⟩
  unfold t_law_cells
  walk_at "v"
  refine v_eqE encI.lst (a := ns) (b := []) rfl rfl ?_
  walk_at "v"
  refine v_itd (fun h => ?_) (fun h => ?_)
  · walk_at "v"
    exact .inl (q [0] (by decide) (by decide))
  · walk_at "v"
    refine v_slL rfl (fun _ z => nomatch z) (fun _ z => nomatch z) ?_
    walk_at "v"
    rw [cut63, ← List.map_take]
    exact .inl (q _ (by simp; omega) (fun z => h (by cases ns with | nil => rfl | cons _ _ => cases z)))
theorem len_law_deck : ∀ ds cs Q, sp_law_deck K ds cs Q → ds.length = 1 := by rintro ds cs Q ⟨_, rfl, _⟩; rfl
theorem vc_law_deck : ∀ ds cs Q, Lo ds cs → LoC cs → sp_law_deck K ds cs Q → t_law_deck K (Po.fn cs Q) ⟨startD N_law_deck ds, cs⟩ := by
  rintro ds cs Q hd hc ⟨n, rfl, q⟩
  unfold t_law_deck
  walk_at "v"
  refine v_itd (fun h => ?_) (fun h => ?_)
  · walk_at "v"
    exact .inl (q ..)
  · walk_at "v"
    exact .inl (q ..)
theorem st_law_draw {a b : D} : startD N_law_draw [a, b] = [some a, some b, none, none] := rfl
theorem len_law_draw : ∀ ds cs Q, sp_law_draw K ds cs Q → ds.length = 2 := by rintro ds cs Q ⟨_, _, _, _, _, rfl, _⟩; rfl
theorem vc_law_draw : ∀ ds cs Q, Lo ds cs → LoC cs → sp_law_draw K ds cs Q → t_law_draw K (Po.fn cs Q) ⟨startD N_law_draw ds, cs⟩ := by
  rintro ds cs Q hd hc ⟨n, m, a, b, c, rfl, hn, h0, hm, q⟩
  rw [st_law_draw]
  unfold t_law_draw
  walk_at "v"
  refine v_itd (fun h => ?_) (fun h => ?_)
  · walk_at "v"
    exact .inl (q _ _ _ (Int.emod_nonneg _ (by omega)) (Int.emod_lt_of_pos _ h0))
  · walk_at "v"
    exact .inl (q _ _ _ (Int.emod_nonneg _ (by omega)) (Int.emod_lt_of_pos _ h0))
theorem log_lt {n k : Nat} (h : n < 2 ^ k) (hk : 0 < k) : n.log2 < k := by
  rcases Nat.eq_zero_or_pos n with rfl | hp
  · exact hk
  · exact (Nat.log2_lt (by omega)).mpr h
theorem st_is_column {a b c : D} : startD N_is_column [a, b, c] = [some a, some b, some c, none] := rfl
theorem okC_of {b r : Int} {c : List Int} (hl : (c.length : Int) = r) (h : ∀ y ∈ c, 0 ≤ y ∧ y < b) : okC b r c = true := by
  unfold okC
  simp only [Bool.and_eq_true, decide_eq_true_eq, List.all_eq_true]
  exact ⟨hl, h⟩
theorem st_Sheet_init {a b c d : D} : startD N_Sheet_init [a, b, c, d] = [some a, some b, some c, some d, none] := rfl
theorem Gd.len {b r : Int} {cols : List (List Int)} (g : Gd b r cols) {c : List Int} (h : c ∈ cols) : c.length ≤ 4 := by
  have h1 := g.c c h
  have h2 := g.r4
  unfold okC at h1
  simp only [Bool.and_eq_true, decide_eq_true_eq] at h1
  omega
theorem all_true {α : Type} (f : α → Bool) : ∀ xs : List α, (∀ x ∈ xs, f x = true) → ((xs.map f).all fun b => b) = true
  | [], _ => rfl
  | x :: xs, h => by
    rw [List.map_cons, List.all_cons, h x (List.mem_cons_self ..), Bool.true_and]
    exact all_true f xs fun y hy => h y (List.mem_cons_of_mem _ hy)
theorem len_Sheet_init : ∀ ds cs Q, sp_Sheet_init K ds cs Q → ds.length = 4 := by rintro ds cs Q ⟨_, _, _, _, _, rfl, _⟩; rfl
theorem len_Sheet_columns : ∀ ds cs Q, sp_Sheet_columns K ds cs Q → ds.length = 1 := by rintro ds cs Q ⟨_, _, _, _, rfl, _⟩; rfl
theorem vc_Sheet_columns : ∀ ds cs Q, Lo ds cs → LoC cs → sp_Sheet_columns K ds cs Q → t_Sheet_columns K (Po.fn cs Q) ⟨startD N_Sheet_columns ds, cs⟩ := by
  rintro ds cs Q hd hc ⟨d, b, r, cols, rfl, ⟨hc1, hi, hl, hf0⟩, q⟩
  unfold t_Sheet_columns
  walk_at "v"
  refine v_listL (seq_lk hl) ?_
  walk_at "v"
  exact own_back (los_encC _) q
theorem okC_sum {b r : Int} {c : List Int} (hb : b ≤ 12) (hr : r ≤ 4) (h : okC b r c = true) : 0 ≤ c.sum ∧ c.sum ≤ 44 := by
  unfold okC at h
  simp only [Bool.and_eq_true, decide_eq_true_eq, List.all_eq_true] at h
  obtain ⟨h1, h2⟩ := h
  have : ∀ xs : List Int, (∀ x ∈ xs, 0 ≤ x ∧ x < b) → 0 ≤ xs.sum ∧ xs.sum ≤ 11 * (xs.length : Int) := by
    intro xs
    induction xs with
    | nil => intro _; simp
    | cons x xs ih =>
      intro h
      have h3 := h x (List.mem_cons_self ..)
      have h4 := ih fun y hy => h y (List.mem_cons_of_mem _ hy)
      simp only [List.sum_cons, List.length_cons]
      omega
  have := this c h2
  omega
theorem plT_ty {d : D} (h : plT d = true) (cs : List Cel) : ∃ t, tyN cs d = some t := by
  cases d <;> first | exact ⟨_, rfl⟩ | cases h
theorem okV_plT {d : D} (h : okV d = true) : plT d = true := by
  cases d <;> first | rfl | exact h
theorem okV_tup {xs : List D} (h : okV (.tup xs) = true) : xs.length ≤ 1000 ∧ (∀ x ∈ xs, plT x = true) ∧ layH xs = true := by
  have h' : (decide (xs.length ≤ 1000) && (xs.all plT && layH xs)) = true := h
  rw [Bool.and_eq_true, Bool.and_eq_true, decide_eq_true_eq, List.all_eq_true] at h'
  exact ⟨h'.1, h'.2.1, h'.2.2⟩
theorem shp_str {w : Str} (h : (PyData.str w).canLay0 = true) : shp (.str w) = true := (Sh.str h).shp
theorem v_eqS2 {a c : Str} {e : En} {P : D → En → Prop} (ha : (PyData.str a).canLay0 = true) (hc : (PyData.str c).canLay0 = true) (p : P (.bl (a == c)) e) : qEq (.str a) (.str c) e P := ⟨shp_str ha, shp_str hc, p⟩
theorem cut_tl1 (x : D) (xs : List D) : cutD (x :: xs) (some 1) none = xs := by
  have := cut_from (fun d : D => d) (x :: xs) 1
  simpa using this
theorem v_slT2 {o : Bool} {x : D} {xs : List D} {e : En} {P : D → En → Prop} (p : P (.tup xs) e) : qSl o (.tup (x :: xs)) (some 1) none e P := by
  refine ⟨fun z => ?_, by rw [cut_tl1]; exact p⟩
  have h1 := z.1
  have h2 := HT.sIx_nat (x :: xs).length 0 1
  rw [show ((1 : Nat) : Int) = 1 from rfl, h1] at h2
  simp at h2
theorem vc_Sheet_init : ∀ ds cs Q, Lo ds cs → LoC cs → sp_Sheet_init K ds cs Q → t_Sheet_init K (Po.fn cs Q) ⟨startD N_Sheet_init ds, cs⟩ := by
  rintro ds cs Q hd hc ⟨n, d, cols, b, r, rfl, hn, hs, hf, g, q⟩
  have hz := g.n
  have g1 := g.b2
  have g2 := g.b12
  have g3 := g.r1
  have g4 := g.r4
  have hty := ty_lk hs hf
  rw [st_Sheet_init]
  unfold t_Sheet_init
  walk_at "v"
  refine ⟨.int b, rfl, ⟨_, rfl⟩, ?_⟩
  walk_at "v"
  refine v_F ?_
  walk_at "v"
  refine v_itd (fun h => ?_) (fun h => absurd g1 h)
  walk_at "v"
  rw [decide_eq_true g2]
  walk_at "v"
  refine ⟨.int r, rfl, ⟨_, rfl⟩, ?_⟩
  walk_at "v"
  refine v_F ?_
  walk_at "v"
  refine v_itd (fun h => ?_) (fun h => absurd g3 h)
  walk_at "v"
  rw [decide_eq_true g4]
  walk_at "v"
  refine v_itK hs fun G hG => ?_
  refine v_lcY cols encC (fun c => .bl (okC b r c)) rfl (by omega) (fun Q' i x hx q' => ⟨_, rfl, ?_⟩) ?_ hG
  · walk_at "v"
    have := g.len (List.mem_of_getElem? hx)
    exact ⟨_, b, r, rfl, .inl ⟨x, rfl, by omega, q'⟩⟩
  walk_at "v"
  refine v_allL (bs := cols.map (okC b r)) (by rw [List.map_map]; rfl) ?_
  rw [all_true _ _ g.c]
  walk_at "v"
  rcases q with q | q
  · refine .inl ⟨_, seq_lk (lk_set (lk_set hs hn fun _ z => nomatch z) (set_get hn) fun _ z => nomatch z), ?_⟩
    walk_at "v"
    refine v_lenK (lk_set (lk_set (lk_set hs hn fun _ z => nomatch z) (set_get hn) fun _ z => nomatch z) (set_get (set_get hn)) fun _ z => nomatch z) ?_
    walk_at "v"
    simp only [List.set_set, List.length_map]
    exact .inl q
  · refine .inr ⟨_, seq_lk (lk_set (lk_set hs hn fun _ z => nomatch z) (set_get hn) fun _ z => nomatch z), ?_⟩
    have hnl := (List.getElem?_eq_some_iff.mp hn).1
    have hg2 : ((cs.set n (.ins (He.ga K "Sheet") ["held_base"] [.int b])).set n (.ins (He.ga K "Sheet") ["held_base", "held_rows"] [.int b, .int r]) ++ [Cel.lst (cols.map encC)])[n]? = some (.ins (He.ga K "Sheet") ["held_base", "held_rows"] [.int b, .int r]) := app_get_lt (set_get (set_get hn))
    walk_at "v"
    refine v_lenK (lk_set (lk_app (lk_set (lk_set hs hn fun _ z => nomatch z) (set_get hn) fun _ z => nomatch z)) hg2 fun _ z => nomatch z) ?_
    walk_at "v"
    simp only [List.set_append, List.length_set, hnl, if_true, List.set_set, List.length_map]
    exact .inl q
theorem len_Sheet_base : ∀ ds cs Q, sp_Sheet_base K ds cs Q → ds.length = 1 := by rintro ds cs Q ⟨_, _, _, _, rfl, _⟩; rfl
theorem vc_Sheet_base : ∀ ds cs Q, Lo ds cs → LoC cs → sp_Sheet_base K ds cs Q → t_Sheet_base K (Po.fn cs Q) ⟨startD N_Sheet_base ds, cs⟩ := by
  rintro ds cs Q hd hc ⟨d, b, r, cols, rfl, ⟨hc1, hi, hl, hf0⟩, q⟩
  unfold t_Sheet_base
  walk_at "v"
  exact .inl q
theorem len_Sheet_rows : ∀ ds cs Q, sp_Sheet_rows K ds cs Q → ds.length = 1 := by rintro ds cs Q ⟨_, _, _, _, rfl, _⟩; rfl
theorem vc_Sheet_rows : ∀ ds cs Q, Lo ds cs → LoC cs → sp_Sheet_rows K ds cs Q → t_Sheet_rows K (Po.fn cs Q) ⟨startD N_Sheet_rows ds, cs⟩ := by
  rintro ds cs Q hd hc ⟨d, b, r, cols, rfl, ⟨hc1, hi, hl, hf0⟩, q⟩
  unfold t_Sheet_rows
  walk_at "v"
  exact .inl q
theorem ty_okV {cs : List Cel} {v : D} (h : okV v = true) : ∃ a, tyN cs v = some a := by
  cases v <;> first | exact ⟨_, rfl⟩ | cases h
theorem len_is_column : ∀ ds cs Q, sp_is_column K ds cs Q → ds.length = 3 := by rintro ds cs Q ⟨_, _, _, rfl, _⟩; rfl
theorem okC_fig (b r : Int) (c : List Int) : okC b r c = (decide (((c.map D.int).length : Int) = r) && (c.map D.int).all (figB b)) := by
  unfold okC
  rw [List.length_map, List.all_map]
  rfl
theorem w_col {cs : List Cel} {Q : D → List Cel → Prop} {xs : List D} {b r : Int} (hz : xs.length ≤ 1000) (hs : ∀ x ∈ xs, okV x = true) (q : Q (.bl (decide ((xs.length : Int) = r) && xs.all (figB b))) cs) : t_is_column K (Po.fn cs Q) ⟨[some (.tup xs), some (.int b), some (.int r), none], cs⟩ := by
  unfold t_is_column
  walk_at "v"
  refine v_lenL (xs := xs) rfl (fun _ z => nomatch z) ?_
  walk_at "v"
  refine v_itdn (fun h => ?_) (fun h => ?_)
  · walk_at "v"
    rw [decide_eq_false h, Bool.false_and] at q
    exact .inl q
  · walk_at "v"
    refine v_lcY xs (fun x => x) (fun x => .bl (figB b x)) (by simp) (by omega) (fun Q' i x hx q' => ⟨_, rfl, ?_⟩) ?_
    · have hsx := hs x (List.mem_of_getElem? hx)
      walk_at "v"
      refine ⟨x, rfl, ty_okV hsx, ?_⟩
      refine ⟨isI x, rfl, ?_⟩
      cases hI : isI x with
      | false =>
        have e : figB b x = false := by cases x <;> first | rfl | cases hI
        rw [e] at q'
        refine v_F ?_
        exact q'
      | true =>
        refine v_T ?_
        cases x <;> try cases hI
        rename_i n
        walk_at "v"
        refine v_itd (fun h => ?_) (fun h => ?_)
        · walk_at "v"
          change Q' (.bl (decide (0 ≤ n) && decide (n < b))) _ at q'
          rw [decide_eq_true h, Bool.true_and] at q'
          exact q'
        · change Q' (.bl (decide (0 ≤ n) && decide (n < b))) _ at q'
          rw [decide_eq_false h, Bool.false_and] at q'
          exact q'
    · walk_at "v"
      refine v_allL (bs := xs.map (figB b)) (by rw [List.map_map]; rfl) ?_
      walk_at "v"
      rw [decide_eq_true h, Bool.true_and] at q
      have e : ((xs.map (figB b)).all fun b => b) = xs.all (figB b) := by rw [List.all_map]; rfl
      rw [e]
      exact .inl q
theorem vc_is_column : ∀ ds cs Q, Lo ds cs → LoC cs → sp_is_column K ds cs Q → t_is_column K (Po.fn cs Q) ⟨startD N_is_column ds, cs⟩ := by
  rintro ds cs Q hd hc ⟨v, b, r, rfl, q⟩
  rw [st_is_column]
  rcases q with ⟨c, rfl, hz, q⟩ | ⟨xs, rfl, hz, hs, q⟩ | ⟨⟨T, hT, hne⟩, q⟩
  · rw [okC_fig] at q
    exact w_col (by rw [List.length_map]; exact hz) (fun x hx => by obtain ⟨i, _, rfl⟩ := List.mem_map.mp hx; rfl) q
  · exact w_col hz hs q
  · unfold t_is_column
    walk_at "v"
    refine v_isi (by decide) hT ?_
    rw [show isTy T "tuple" = false by unfold isTy; rw [beq_eq_false_iff_ne.mpr hne]; cases T == "bool" <;> rfl]
    walk_at "v"
    exact .inl q
theorem cut_tl (x : D) (xs : List D) : cutD (x :: xs) (some 1) none = xs := by
  have h := cut_from (α := D) (fun d => d) (x :: xs) 1
  simp only [List.map_id'] at h
  exact h
theorem app_set {cs : List Cel} {c0 c : Cel} : (cs ++ [c0]).set cs.length c = cs ++ [c] := by simp
end
section
variable {K : PySem.W.Frag}
theorem st_law_column {a b c : D} : startD N_law_column [a, b, c] = [some a, some b, some c, none, none, none] := rfl
theorem st_law_columns {a b c d : D} : startD N_law_columns [a, b, c, d] = [some a, some b, some c, some d, none, none] := rfl
theorem okC_rep {b r z : Int} (hr : 0 ≤ r) (h0 : 0 ≤ z) (hb : z < b) : okC b r (List.replicate r.toNat z) = true := by
  unfold okC
  simp only [List.length_replicate, Bool.and_eq_true, decide_eq_true_eq, List.all_eq_true, List.mem_replicate]
  refine ⟨by omega, ?_⟩
  rintro n ⟨_, rfl⟩
  exact ⟨h0, hb⟩
theorem len_law_column : ∀ ds cs Q, sp_law_column K ds cs Q → ds.length = 3 := by rintro ds cs Q ⟨_, _, _, _, _, _, rfl, _⟩; rfl
theorem vc_law_column : ∀ ds cs Q, Lo ds cs → LoC cs → sp_law_column K ds cs Q → t_law_column K (Po.fn cs Q) ⟨startD N_law_column ds, cs⟩ := by
  rintro ds cs Q hd hc ⟨n, b, r, a, x, c, rfl, hn, b2, b12, r1, r4, q⟩
  have fin : ∀ (w : D) (ns : List Int) a' x', okC b r ns = true → (sRet (eCB qTuple (aCons (eV 4) aNil))) (Po.fn cs Q) ⟨[some (.cell n), some (.int b), some (.int r), some w, some (.lst (ns.map .int)), none], cs.set n (deckC a' x' c)⟩ := by
    intro w ns a' x' ho
    walk_at "v"
    refine v_tupK rfl ?_
    walk_at "v"
    exact .inl (q _ _ _ ho)
  rw [st_law_column]
  unfold t_law_column
  generalize (sRet (eCB qTuple (aCons (eV 4) aNil))) = tail at fin ⊢
  walk_at "v"
  refine ⟨n, 5, a, x, c, rfl, hn, by decide, by decide, fun w a1 x1 w0 w5 => ?_⟩
  walk_at "v"
  refine ⟨sz_le (by rw [intsD_len]; omega), fun i acc cs' => ∃ ns : List Int, ∃ a' x', acc = ns.map .int ∧ ns.length = i ∧ (∀ y ∈ ns, 0 ≤ y ∧ y < b) ∧ cs' = cs.set n (deckC a' x' c), ⟨[], a1, x1, rfl, rfl, by simp, rfl⟩, ?_, ?_⟩
  · rintro i d acc cs' hi ⟨ns, a', x', rfl, hl, hr, rfl⟩
    refine ⟨trivial, _, rfl, ?_⟩
    unfold dYes
    walk_at "v"
    refine ⟨n, b, a', x', c, rfl, set_get hn, by omega, by omega, fun y a2 x2 y0 y1 => ?_⟩
    refine ⟨ns ++ [y], a2, x2, by simp, by simp [hl], ?_, by rw [List.set_set]⟩
    intro z hz
    rcases List.mem_append.mp hz with h | h
    · exact hr z h
    · cases List.mem_singleton.mp h
      exact ⟨y0, y1⟩
  · rintro acc cs' hz ⟨ns, a', x', rfl, hl, hr, rfl⟩
    rw [intsD_len] at hl
    refine ⟨trivial, ?_⟩
    walk_at "v"
    refine v_itd (fun h => ?_) (fun h => ?_)
    · walk_at "v"
      refine v_lcY (List.range r.toNat) (fun i => .int (0 + (i : Int))) (fun _ => .int 0) rfl (by simp; omega) (fun Q' i x hx q' => ⟨_, rfl, q'⟩) ?_
      walk_at "v"
      rw [rep_map]
      subst h
      refine v_F ?_
      walk_at "v"
      exact fin _ _ _ _ (okC_rep (by omega) (by omega) (by omega))
    · walk_at "v"
      refine v_itd (fun h => ?_) (fun h => ?_)
      · walk_at "v"
        refine v_lcY (List.range r.toNat) (fun i => .int (0 + (i : Int))) (fun _ => .int (b - 1)) rfl (by simp; omega) (fun Q' i x hx q' => ⟨_, rfl, by walk_at "v"; exact q'⟩) ?_
        walk_at "v"
        rw [rep_map]
        exact fin _ _ _ _ (okC_rep (by omega) (by omega) (by omega))
      · walk_at "v"
        exact fin _ _ _ _ (okC_of (by omega) hr)
theorem len_law_columns : ∀ ds cs Q, sp_law_columns K ds cs Q → ds.length = 4 := by rintro ds cs Q ⟨_, _, _, _, _, _, _, rfl, _⟩; rfl
theorem vc_law_columns : ∀ ds cs Q, Lo ds cs → LoC cs → sp_law_columns K ds cs Q → t_law_columns K (Po.fn cs Q) ⟨startD N_law_columns ds, cs⟩ := by
  rintro ds cs Q hd hc ⟨n, b, r, m, a, x, c, rfl, hn, b2, b12, r1, r4, m0, m9, q⟩
  have fin : ∀ (k a' x' : Int), 0 ≤ k → k ≤ 6 + m → (sRet (eLc true (iR1 (aCons (eV 4) aNil)) (.one 5) dYes (eCall (sp_law_column K) (aCons (eV 0) (aCons (eV 1) (aCons (eV 2) aNil)))) [5])) (Po.fn cs Q) ⟨[some (.cell n), some (.int b), some (.int r), some (.int m), some (.int k), none], cs.set n (deckC a' x' c)⟩ := by
    intro k a1 x1 k0 k9
    walk_at "v"
    refine ⟨sz_le (by rw [intsD_len]; omega), fun i acc cs' => ∃ cols : List (List Int), ∃ a' x', acc = cols.map encC ∧ cols.length = i ∧ (∀ y ∈ cols, okC b r y = true) ∧ cs' = cs.set n (deckC a' x' c), ⟨[], a1, x1, rfl, rfl, by simp, rfl⟩, ?_, ?_⟩
    · rintro i d acc cs' hi ⟨ns, a', x', rfl, hl, hr, rfl⟩
      refine ⟨trivial, _, rfl, ?_⟩
      unfold dYes
      walk_at "v"
      refine ⟨n, b, r, a', x', c, rfl, set_get hn, by omega, by omega, by omega, by omega, fun y a2 x2 y0 => ?_⟩
      refine ⟨ns ++ [y], a2, x2, by simp, by simp [hl], ?_, by rw [List.set_set]⟩
      intro z hz
      rcases List.mem_append.mp hz with h | h
      · exact hr z h
      · cases List.mem_singleton.mp h
        exact y0
    · rintro acc cs' hz ⟨ns, a', x', rfl, hl, hr, rfl⟩
      rw [intsD_len] at hl
      refine ⟨trivial, ?_⟩
      walk_at "v"
      exact own_back2 (by simp) (set_lo rfl) (los_encC _) (q _ _ _ ⟨b2, b12, r1, r4, hr, by omega⟩ (by omega))
  rw [st_law_columns]
  unfold t_law_columns
  generalize (sRet (eLc true (iR1 (aCons (eV 4) aNil)) (.one 5) dYes (eCall (sp_law_column K) (aCons (eV 0) (aCons (eV 1) (aCons (eV 2) aNil)))) [5])) = tail at fin ⊢
  walk_at "v"
  refine ⟨n, 7, a, x, c, rfl, hn, by decide, by decide, fun w a1 x1 w0 w5 => ?_⟩
  walk_at "v"
  refine ⟨n, 3, a1, x1, c, rfl, set_get hn, by decide, by decide, fun w2 a2 x2 _ _ => ?_⟩
  walk_at "v"
  refine v_itd (fun h => ?_) (fun h => ?_)
  · walk_at "v"
    refine ⟨n, m + 1, a2, x2, c, rfl, set_get (set_get hn), by omega, by omega, fun w3 a3 x3 _ _ => ?_⟩
    walk_at "v"
    simp only [List.set_set]
    exact fin _ _ _ (by omega) (by omega)
  · walk_at "v"
    simp only [List.set_set]
    exact fin _ _ _ (by omega) (by omega)
end
section
variable {K : PySem.W.Frag}
open TL
theorem tl_numS (n : Nat) : tl (numS (n : Nat)) = numL n := tl_num n
theorem joinL_mem {S : List Nat} {c : Nat} : ∀ ps : List (List Nat), c ∈ joinL S ps → c ∈ S ∨ ∃ p ∈ ps, c ∈ p
  | [], h => nomatch h
  | [p], h => .inr ⟨p, List.mem_cons_self, h⟩
  | p :: q :: r, h => by
    rcases List.mem_append.mp (show c ∈ p ++ (S ++ joinL S (q :: r)) from h) with h | h
    · exact .inr ⟨p, List.mem_cons_self, h⟩
    · rcases List.mem_append.mp h with h | h
      · exact .inl h
      · rcases joinL_mem (q :: r) h with h | ⟨x, hx, h⟩
        · exact .inl h
        · exact .inr ⟨x, List.mem_cons_of_mem _ hx, h⟩
theorem joinL_len {S : List Nat} {M : Nat} : ∀ ps : List (List Nat), (∀ p ∈ ps, p.length ≤ M) → (joinL S ps).length ≤ ps.length * (M + S.length)
  | [], _ => Nat.zero_le _
  | [p], h => by
    have := h p List.mem_cons_self
    show p.length ≤ 1 * (M + S.length)
    omega
  | p :: q :: r, h => by
    have h1 := h p List.mem_cons_self
    have h2 := joinL_len (S := S) (q :: r) fun x hx => h x (List.mem_cons_of_mem _ hx)
    show (p ++ (S ++ joinL S (q :: r))).length ≤ (r.length + 1 + 1) * (M + S.length)
    rw [List.length_append, List.length_append, Nat.succ_mul]
    have h3 : (joinL S (q :: r)).length ≤ (r.length + 1) * (M + S.length) := h2
    omega
theorem tl_joinT (y : Str) (ps : List Str) : tl (Txt.join y ps) = joinL (tl y) (ps.map tl) := by rw [join_eq, tl_join]
theorem joinL_snoc {S p : List Nat} : ∀ ps : List (List Nat), ps ≠ [] → joinL S (ps ++ [p]) = joinL S ps ++ (S ++ p)
  | [], h => absurd rfl h
  | [q], _ => rfl
  | a :: q :: r, _ => by
    show a ++ (S ++ joinL S (q :: r ++ [p])) = (a ++ (S ++ joinL S (q :: r))) ++ (S ++ p)
    rw [joinL_snoc (q :: r) (by simp)]
    simp [List.append_assoc]
theorem join_snoc {y p : Str} {ps : List Str} (h : ps ≠ []) : Txt.join y (ps ++ [p]) = Txt.join y ps ++ y ++ p := by
  refine ext_tl ?_
  rw [tl_joinT, tl_append, tl_append, tl_joinT, List.map_append, List.map_singleton, joinL_snoc _ (by simpa using h), List.append_assoc]
theorem join_two {y a : Str} {ps : List Str} (h : ps ≠ []) : Txt.join y (a :: ps) = a ++ y ++ Txt.join y ps := by
  cases ps with
  | nil => exact absurd rfl h
  | cons p r =>
    rw [join_eq, join_eq]
    rfl
theorem join_len {y : Str} {M : Nat} {ps : List Str} (h : ∀ p ∈ ps, p.length ≤ M) : (Txt.join y ps).length ≤ ps.length * (M + y.length) := by
  rw [len_tl, tl_joinT, len_tl y]
  have := joinL_len (S := tl y) (M := M) (ps.map tl) fun p hp => by
    obtain ⟨z, hz, rfl⟩ := List.mem_map.mp hp
    rw [← len_tl]
    exact h z hz
  rw [List.length_map] at this
  exact this
theorem sum_len {M : Nat} : ∀ ps : List Str, (∀ p ∈ ps, p.length ≤ M) → (ps.map (·.length)).sum ≤ ps.length * M
  | [], _ => Nat.zero_le _
  | p :: r, h => by
    have h1 := h p List.mem_cons_self
    have h2 := sum_len r fun x hx => h x (List.mem_cons_of_mem _ hx)
    rw [List.map_cons, List.sum_cons, List.length_cons, Nat.succ_mul]
    omega
theorem tl_sp : tl " " = [32] := by decide +kernel
theorem lay_of {p : Str} (h : ∀ c ∈ tl p, c < 128) : (PyData.str p).canLay0 = true := by
  show p.cps.all (· < 0x110000) = true
  rw [Array.all_eq_true']
  intro c hc
  have := h c (by
    show c ∈ p.cps.toList
    exact Array.mem_toList_iff.mpr hc)
  simp only [decide_eq_true_eq]
  omega
theorem num_head : ∀ n : Nat, 2 ≤ (numL n).length → ∃ c r, numL n = c :: r ∧ c ≠ 48 := by
  intro n
  induction n using Nat.strongRecOn with
  | _ n ih =>
    intro h
    by_cases h1 : n < 10
    · rw [numL_lt h1] at h
      simp at h
    · rw [numL_step (by omega)]
      by_cases h2 : n / 10 < 10
      · rw [numL_lt h2]
        exact ⟨48 + n / 10, _, rfl, by omega⟩
      · obtain ⟨c, r, e, hc⟩ := ih (n / 10) (by omega) (by
          rw [numL_step (by omega), List.length_append, List.length_singleton]
          have := List.length_pos_iff.mpr (numL_ne (n / 10 / 10))
          omega)
        rw [e]
        exact ⟨c, _, rfl, hc⟩
theorem dig_in : ∀ c : Nat, c < 58 → 48 ≤ c → DL.inS ⟨#[c]⟩ "0123456789" = true := by decide +kernel
theorem len_one {c : Nat} : tl (⟨#[c]⟩ : Str) = [c] := rfl
theorem v_addSS {o : Bool} {a b : Str} {e : En} {P : D → En → Prop} (h : a.length + b.length ≤ 100000) (p : P (.str (a ++ b)) e) : qAdd o (.str a) (.str b) e P := ⟨Nat.le_trans h (by decide), p⟩
theorem v_strZ {i : Int} {e : En} {P : D → En → Prop} (h0 : 0 ≤ i) (h : i < 10000000000000) (p : P (.str (numS i)) e) : qStr2 [.int i] e P := ⟨Nat.lt_trans (log_lt (k := 50) (by omega) (by decide)) (by decide), p⟩
theorem len_app (a b : Str) : (a ++ b).length = a.length + b.length := by rw [len_tl, tl_append, List.length_append, ← len_tl, ← len_tl]
theorem join_sum {ps : List Str} {M N : Nat} (h : ∀ p ∈ ps, p.length ≤ M) (hn : ps.length ≤ N) (y : Str) (hy : y.length ≤ 2) (hz : N * (M + 2) ≤ 16777216) : (ps.map (·.length)).sum + ps.length * y.length ≤ 16777216 := by
  have h1 := sum_len ps h
  have h2 : ps.length * y.length ≤ ps.length * 2 := Nat.mul_le_mul_left _ hy
  have h3 : ps.length * (M + 2) ≤ N * (M + 2) := Nat.mul_le_mul_right _ hn
  rw [Nat.mul_add] at h3
  omega
theorem okC_iff {b r : Int} {c : List Int} : okC b r c = true ↔ (c.length : Int) = r ∧ ∀ x ∈ c, 0 ≤ x ∧ x < b := by
  unfold okC
  simp only [Bool.and_eq_true, decide_eq_true_eq, List.all_eq_true]
end
section
variable {K : PySem.W.Frag}
open TL
theorem joinL_one {S p : List Nat} : joinL S [p] = p := rfl
theorem tl_fig (f : Int) : tl (figC f) = [codeF f] := rfl
theorem joinL_nil : ∀ ps : List (List Nat), joinL [] ps = ps.flatten
  | [] => rfl
  | [p] => (List.append_nil p).symm ▸ by simp [joinL]
  | p :: q :: r => by
    show p ++ ([] ++ joinL [] (q :: r)) = _
    rw [joinL_nil (q :: r), List.nil_append, List.flatten_cons (l := p)]
theorem tl_emp : tl "" = [] := by decide +kernel
theorem tl_figs (fs : List Int) : tl (Txt.join "" (fs.map figC)) = fs.map codeF := by
  rw [tl_joinT, tl_emp, joinL_nil, List.map_map]
  induction fs with
  | nil => rfl
  | cons f fs ih =>
    rw [List.map_cons, List.flatten_cons, List.map_cons, ih]
    rfl
theorem code_lt {f : Int} (h0 : 0 ≤ f) (h1 : f < 12) : 48 ≤ codeF f ∧ codeF f < 128 := by
  unfold codeF
  split <;> omega
theorem fig_get : ∀ k : Nat, k < 12 → (tl "0123456789ab")[k]? = some (codeF (k : Int)) := by decide +kernel
theorem fig_find : ∀ k : Nat, k < 12 → Txt.find "0123456789ab" (figC (k : Int)) = (k : Int) := by decide +kernel
theorem fig_cut : ∀ b : Nat, b < 13 → 2 ≤ b → ∀ k : Nat, k < b → DL.inS (figC (k : Int)) (cutS "0123456789ab" none (some (b : Int))) = true := by decide +kernel
theorem len_figs {fs : List Int} (h : fs ≠ []) : (figsS fs).length = fs.length := by
  unfold figsS
  rw [if_neg h, len_tl, tl_figs, List.length_map]
theorem figs_sg {fs : List Int} (h : ∀ f ∈ fs, 0 ≤ f ∧ f < 12) : 32 ∉ tl (figsS fs) ∧ ∀ c ∈ tl (figsS fs), c < 128 := by
  unfold figsS
  split
  · rw [show tl "-" = [45] by decide +kernel]
    exact ⟨by decide, by decide⟩
  · rw [tl_figs]
    refine ⟨fun hm => ?_, fun c hm => ?_⟩
    · obtain ⟨f, hf, e⟩ := List.mem_map.mp hm
      have := code_lt (h f hf).1 (h f hf).2
      omega
    · obtain ⟨f, hf, rfl⟩ := List.mem_map.mp hm
      exact (code_lt (h f hf).1 (h f hf).2).2
theorem figs_len {fs : List Int} (hn : fs.length ≤ 150) : (figsS fs).length ≤ 150 := by
  by_cases h : fs = []
  · subst h
    decide +kernel
  · rw [len_figs h]
    exact hn
theorem num_lt {b r : Int} {cols : List (List Int)} (g : Gd b r cols) : ∃ k : Nat, b = (k : Int) ∧ 2 ≤ k ∧ k < 13 := ⟨b.toNat, by have := g.b2; omega, by have := g.b2; omega, by have := g.b12; omega⟩
theorem row_bd {b r : Int} {cols : List (List Int)} (g : Gd b r cols) {j : Nat} (hj : (j : Int) < r) : ∀ f ∈ rowF cols j, 0 ≤ f ∧ f < b := by
  intro f hf
  unfold rowF at hf
  obtain ⟨c, hc, rfl⟩ := List.mem_map.mp hf
  have h := okC_iff.mp (g.c c (List.mem_reverse.mp hc))
  have hl : j < c.length := by omega
  rw [List.getD_eq_getElem?_getD, List.getElem?_eq_getElem hl]
  exact h.2 _ (List.getElem_mem hl)
theorem row_bd12 {b r : Int} {cols : List (List Int)} (g : Gd b r cols) {j : Nat} (hj : (j : Int) < r) : ∀ f ∈ rowF cols j, 0 ≤ f ∧ f < 12 := fun f hf => by
  have := row_bd g hj f hf
  have := g.b12
  omega
theorem row_len (cols : List (List Int)) (j : Nat) : (rowF cols j).length = cols.length := by unfold rowF; rw [List.length_map, List.length_reverse]
theorem row_nil {cols : List (List Int)} {j : Nat} : rowF cols j = [] ↔ cols = [] := by
  rw [← List.length_eq_zero_iff, row_len, List.length_eq_zero_iff]
theorem colon : tl ":" = [58] := by decide +kernel
theorem hd_sg (k : Nat) : tl (numS (k : Nat) ++ ":") = numL k ++ [58] := by rw [tl_append, tl_numS, colon]
theorem hd_len {k : Nat} (h : k < 13) : (numS (k : Nat) ++ ":").length ≤ 3 := by
  rw [len_tl, hd_sg, List.length_append]
  have := numL_len (n := k) (k := 2) (by decide) (by omega)
  show _ + 1 ≤ 3
  omega
theorem gw_txt {b r : Int} {cols : List (List Int)} (g : Gd b r cols) (h6 : cols.length ≤ 150) : ∀ p ∈ txtW b r cols, p.length ≤ 150 ∧ 32 ∉ tl p ∧ ∀ c ∈ tl p, c < 128 := by
  obtain ⟨k, rfl, k2, k13⟩ := num_lt g
  intro p hp
  unfold txtW at hp
  rcases List.mem_cons.mp hp with rfl | hp
  · refine ⟨Nat.le_trans (hd_len k13) (by decide), ?_, ?_⟩
    · rw [hd_sg]
      intro hm
      rcases List.mem_append.mp hm with h | h
      · exact numL_free (by omega) h
      · cases List.mem_singleton.mp h
    · rw [hd_sg]
      intro c hm
      rcases List.mem_append.mp hm with h | h
      · have := numL_digits k c h
        omega
      · cases List.mem_singleton.mp h
        decide
  · obtain ⟨j, hj, rfl⟩ := List.mem_map.mp hp
    have hj := List.mem_range.mp hj
    have hb := row_bd12 g (j := j) (by omega)
    exact ⟨figs_len (by rw [row_len]; exact h6), (figs_sg hb).1, (figs_sg hb).2⟩
theorem txtW_len {b r : Int} {cols : List (List Int)} (g : Gd b r cols) : (txtW b r cols).length ≤ 5 := by
  have := g.r4
  unfold txtW
  rw [List.length_cons, List.length_map, List.length_range]
  omega
theorem split_txt {b r : Int} {cols : List (List Int)} (g : Gd b r cols) (h6 : cols.length ≤ 150) : Txt.split (txtS b r cols) " " = txtW b r cols := by
  have e : tl " " = 32 :: [] := tl_sp
  exact split_join e (by decide +kernel) (by unfold txtW; simp) fun p hp => (gw_txt g h6 p hp).2.1
theorem txt_len {b r : Int} {cols : List (List Int)} (g : Gd b r cols) (h6 : cols.length ≤ 150) : (txtS b r cols).length ≤ 800 := by
  have h1 := join_len (y := " ") (M := 150) (ps := txtW b r cols) fun p hp => (gw_txt g h6 p hp).1
  have h2 := txtW_len g
  have h3 : (" " : Str).length = 1 := by decide +kernel
  rw [h3] at h1
  show (Txt.join " " (txtW b r cols)).length ≤ 800
  have h4 : (txtW b r cols).length * (150 + 1) ≤ 5 * 151 := Nat.mul_le_mul_right _ h2
  omega
theorem txt_sg {b r : Int} {cols : List (List Int)} (g : Gd b r cols) (h6 : cols.length ≤ 150) : ∀ c ∈ tl (txtS b r cols), c < 128 := by
  intro c hc
  unfold txtS at hc
  rw [tl_joinT, tl_sp] at hc
  rcases joinL_mem _ hc with h1 | ⟨p, hp, h1⟩
  · cases List.mem_singleton.mp h1
    decide
  · obtain ⟨z, hz, rfl⟩ := List.mem_map.mp hp
    exact (gw_txt g h6 z hz).2.2 c h1
theorem cut_hd : ∀ k : Nat, k < 13 → cutS (numS (k : Nat) ++ ":") none (some (-1)) = numS (k : Nat) ∧ cutS (numS (k : Nat) ++ ":") (some (-1)) none = ":" := by decide +kernel
theorem num_len2 : ∀ k : Nat, k < 13 → (numS (k : Nat)).length ≤ 2 := by decide +kernel
theorem row_ne {fs : List Int} (h : fs ≠ []) (hb : ∀ f ∈ fs, 0 ≤ f ∧ f < 12) : figsS fs ≠ "-" ∧ figsS fs ≠ "" := by
  unfold figsS
  rw [if_neg h]
  cases fs with
  | nil => exact absurd rfl h
  | cons f fs =>
    have hc := code_lt (hb f List.mem_cons_self).1 (hb f List.mem_cons_self).2
    refine ⟨fun e => ?_, fun e => ?_⟩
    · have := congrArg tl e
      rw [tl_figs, show tl "-" = [45] by decide +kernel] at this
      have := (List.cons.inj this).1
      omega
    · have := congrArg tl e
      rw [tl_figs, tl_emp] at this
      cases this
theorem cols_back {b r : Int} {cols : List (List Int)} (g : Gd b r cols) {i : Nat} {c : List Int} (h : cols.reverse[i]? = some c) : ((List.range r.toNat).map fun j => (rowF cols j).getD i 0) = c := by
  have hm := okC_iff.mp (g.c c (List.mem_reverse.mp (List.mem_of_getElem? h)))
  apply List.ext_getElem?
  intro j
  rw [List.getElem?_map]
  rcases Nat.lt_or_ge j r.toNat with hj | hj
  · rw [List.getElem?_range hj, List.getElem?_eq_getElem (show j < c.length by omega)]
    show some ((rowF cols j).getD i 0) = _
    unfold rowF
    rw [List.getD_eq_getElem?_getD, List.getElem?_map, h]
    show some (c.getD j 0) = _
    rw [List.getD_eq_getElem?_getD, List.getElem?_eq_getElem (show j < c.length by omega)]
    rfl
  · rw [List.getElem?_eq_none (by rw [List.length_range]; exact hj), List.getElem?_eq_none (by omega)]
    rfl
end
section
variable {K : PySem.W.Frag}
open TL
theorem spl_ne {s : Nat} {S : List Nat} : ∀ (k : Nat) (acc l : List Nat), spl (s :: S) k acc l ≠ [] := by
  intro k acc l
  induction l generalizing k acc with
  | nil =>
    rw [spl_nil]
    exact fun z => nomatch z
  | cons c r ih =>
    rw [spl_pass]
    cases k with
    | succ k =>
      rw [List.drop_succ_cons, ← spl_pass]
      exact ih k acc
    | zero =>
      rw [List.drop_zero]
      cases h : pre (s :: S) (c :: r) with
      | true =>
        rw [spl_hit h]
        exact fun z => nomatch z
      | false =>
        rw [spl_miss h]
        exact ih 0 _
theorem joinL_cons {S p : List Nat} {q : List (List Nat)} (h : q ≠ []) : joinL S (p :: q) = p ++ (S ++ joinL S q) := by
  cases q with
  | nil => exact absurd rfl h
  | cons a b => rfl
theorem join_spl {s : Nat} {S : List Nat} : ∀ (n : Nat) (acc l : List Nat), l.length ≤ n → joinL (s :: S) (spl (s :: S) 0 acc l) = acc ++ l := by
  intro n
  induction n with
  | zero =>
    intro acc l h
    cases l with
    | nil =>
      rw [spl_nil, List.append_nil]
      rfl
    | cons c r => cases h
  | succ n ih =>
    intro acc l h
    cases l with
    | nil =>
      rw [spl_nil, List.append_nil]
      rfl
    | cons c r =>
      cases hp : pre (s :: S) (c :: r) with
      | false =>
        rw [spl_miss hp, ih _ _ (by simp at h; omega), List.append_assoc]
        rfl
      | true =>
        have e : (c :: r).take (s :: S).length = s :: S := by
          have h' : ((c :: r).take (s :: S).length == (s :: S)) = true := hp
          exact beq_iff_eq.mp h'
        rw [spl_hit hp, joinL_cons (spl_ne _ _ _), spl_pass, ih _ _ (by simp at h ⊢; omega), List.nil_append]
        have e2 : c :: r = (s :: S) ++ r.drop ((s :: S).length - 1) := by
          have e3 := List.take_append_drop (s :: S).length (c :: r)
          rw [e] at e3
          rw [← e3]
          simp
        rw [← e2]
theorem split_tl {x y : Str} {s : Nat} {S : List Nat} (ey : tl y = s :: S) (hk : y.cps.all (· < 256) = true) : (Txt.split x y).map tl = spl (s :: S) 0 [] (tl x) := by
  rw [← ey]
  exact split_spl x y (by rw [ey]; exact fun z => nomatch z) (kind_ok hk)
theorem split_back {x y : Str} {s : Nat} {S : List Nat} (ey : tl y = s :: S) (hk : y.cps.all (· < 256) = true) : Txt.join y (Txt.split x y) = x := by
  refine ext_tl ?_
  rw [tl_joinT, split_tl ey hk, ey, join_spl _ _ _ (Nat.le_refl _), List.nil_append]
theorem split_ne {x y : Str} {s : Nat} {S : List Nat} (ey : tl y = s :: S) (hk : y.cps.all (· < 256) = true) : Txt.split x y ≠ [] := fun z => by
  have := split_tl (x := x) ey hk
  rw [z] at this
  exact spl_ne _ _ _ this.symm
theorem spl_len {s : Nat} {S : List Nat} : ∀ (n : Nat) (acc l : List Nat), l.length ≤ n → (spl (s :: S) 0 acc l).length ≤ l.length + 1 := by
  intro n
  induction n with
  | zero =>
    intro acc l h
    cases l with
    | nil => rw [spl_nil]; simp
    | cons c r => cases h
  | succ n ih =>
    intro acc l h
    cases l with
    | nil => rw [spl_nil]; simp
    | cons c r =>
      cases hp : pre (s :: S) (c :: r) with
      | false =>
        rw [spl_miss hp]
        have := ih (acc ++ [c]) r (by simp at h; omega)
        rw [List.length_cons]
        omega
      | true =>
        rw [spl_hit hp, spl_pass, show (s :: S).length - 1 = S.length by simp]
        have := ih [] (r.drop S.length) (by simp at h ⊢; omega)
        rw [List.length_cons, List.length_cons]
        rw [List.length_drop] at this
        omega
theorem split_len {x y : Str} {s : Nat} {S : List Nat} (ey : tl y = s :: S) (hk : y.cps.all (· < 256) = true) : (Txt.split x y).length ≤ x.length + 1 := by
  have := spl_len (s := s) (S := S) _ [] (tl x) (Nat.le_refl _)
  rw [← split_tl ey hk, List.length_map, ← len_tl] at this
  exact this
theorem spl_free {s : Nat} : ∀ (l acc : List Nat), s ∉ acc → ∀ w ∈ spl [s] 0 acc l, s ∉ w := by
  intro l
  induction l with
  | nil =>
    intro acc h w hw
    rw [spl_nil] at hw
    rw [List.mem_singleton.mp hw]
    exact h
  | cons c r ih =>
    intro acc h w hw
    cases hp : pre [s] (c :: r) with
    | true =>
      rw [spl_hit hp] at hw
      rcases List.mem_cons.mp hw with rfl | hw
      · exact h
      · rw [spl_pass] at hw
        exact ih [] (fun z => nomatch z) w hw
    | false =>
      rw [spl_miss hp] at hw
      refine ih _ (fun z => ?_) w hw
      rcases List.mem_append.mp z with z | z
      · exact h z
      · rw [← List.mem_singleton.mp z] at hp
        have : ([s] == [s]) = false := hp
        simp at this
theorem part_in {S : List Nat} : ∀ (ps : List (List Nat)) (p : List Nat), p ∈ ps → ∃ a b, joinL S ps = a ++ (p ++ b)
  | [q], p, h => by
    rw [List.mem_singleton.mp h]
    exact ⟨[], [], by simp [joinL]⟩
  | q :: r :: t, p, h => by
    rw [joinL_cons (q := r :: t) (by simp)]
    rcases List.mem_cons.mp h with rfl | h
    · exact ⟨[], S ++ joinL S (r :: t), rfl⟩
    · obtain ⟨a, b, e⟩ := part_in (S := S) (r :: t) p h
      exact ⟨q ++ (S ++ a), b, by rw [e]; simp [List.append_assoc]⟩
theorem split_in {x y p : Str} {s : Nat} {S : List Nat} (ey : tl y = s :: S) (hk : y.cps.all (· < 256) = true) (h : p ∈ Txt.split x y) : ∃ a b, tl x = a ++ (tl p ++ b) := by
  have h1 : tl p ∈ spl (s :: S) 0 [] (tl x) := by
    rw [← split_tl ey hk]
    exact List.mem_map.mpr ⟨p, h, rfl⟩
  obtain ⟨a, b, e⟩ := part_in (S := s :: S) _ _ h1
  rw [join_spl _ _ _ (Nat.le_refl _), List.nil_append] at e
  exact ⟨a, b, e⟩
theorem Wb.sub {k : Nat} {l a b c : List Nat} (h : Wb k l) (e : l = a ++ (b ++ c)) : Wb k b := fun a2 b2 c2 e2 hb => by
  refine h (a ++ a2) b2 (c2 ++ c) ?_ hb
  rw [e, e2]
  simp [List.append_assoc]
theorem Wb.mono {k m : Nat} {l : List Nat} (h : Wb k l) (hm : k ≤ m) : Wb m l := fun a b c e hb => Nat.le_trans (h a b c e hb) hm
theorem Wb.len {l : List Nat} {k : Nat} (h : l.length ≤ k) : Wb k l := fun a b c e _ => by
  have := congrArg List.length e
  rw [List.length_append, List.length_append] at this
  omega
theorem run_app {x y a b c : List Nat} (e : x ++ y = a ++ (b ++ c)) : ∃ b1 b2, b = b1 ++ b2 ∧ (∃ u v, x = u ++ (b1 ++ v)) ∧ ∃ u v, y = u ++ (b2 ++ v) := by
  rcases List.append_eq_append_iff.mp e with ⟨t, h1, h2⟩ | ⟨t, h1, h2⟩
  · exact ⟨[], b, rfl, ⟨x, [], by simp⟩, ⟨t, c, h2⟩⟩
  · rcases List.append_eq_append_iff.mp h2 with ⟨t2, h3, h4⟩ | ⟨t2, h3, h4⟩
    · subst h3
      exact ⟨b, [], by simp, ⟨a, t2, h1⟩, ⟨[], y, rfl⟩⟩
    · subst h3
      exact ⟨t, t2, rfl, ⟨a, [], by rw [h1]; simp⟩, ⟨[], c, h4⟩⟩
theorem Wb.app {k m : Nat} {x y : List Nat} (h1 : Wb k x) (h2 : Wb m y) : Wb (k + m) (x ++ y) := fun a b c e hb => by
  obtain ⟨b1, b2, rfl, ⟨u, v, e1⟩, ⟨u2, v2, e2⟩⟩ := run_app e
  have := h1 u b1 v e1 fun z => hb (List.mem_append_left _ z)
  have := h2 u2 b2 v2 e2 fun z => hb (List.mem_append_right _ z)
  rw [List.length_append]
  omega
theorem Wb.gap {k : Nat} {x y : List Nat} (h1 : Wb k x) (h2 : Wb k y) : Wb k (x ++ 32 :: y) := fun a b c e hb => by
  obtain ⟨b1, b2, rfl, ⟨u, v, e1⟩, ⟨u2, v2, e2⟩⟩ := run_app e
  have hb1 : 32 ∉ b1 := fun z => hb (List.mem_append_left _ z)
  have hb2 : 32 ∉ b2 := fun z => hb (List.mem_append_right _ z)
  have l1 := h1 u b1 v e1 hb1
  rcases List.append_eq_append_iff.mp e with ⟨t, h3, h4⟩ | ⟨t, h3, h4⟩
  · cases t with
    | nil =>
      rw [List.nil_append] at h4
      cases hh : b1 ++ b2 with
      | nil => exact Nat.zero_le _
      | cons z zs =>
        rw [hh, List.cons_append] at h4
        have := (List.cons.inj h4).1
        exact absurd (by rw [hh, ← this]; exact List.mem_cons_self) hb
    | cons z zs =>
      rw [List.cons_append] at h4
      exact h2 zs (b1 ++ b2) c (List.cons.inj h4).2 hb
  · cases t with
    | nil =>
      rw [List.nil_append] at h4
      cases hh : b1 ++ b2 with
      | nil => exact Nat.zero_le _
      | cons z zs =>
        rw [hh, List.cons_append] at h4
        have := (List.cons.inj h4).1
        exact absurd (by rw [hh, this]; exact List.mem_cons_self) hb
    | cons z zs =>
      -- the run begins in x and ends there
      rcases List.append_eq_append_iff.mp h4 with ⟨t2, h5, h6⟩ | ⟨t2, h5, h6⟩
      · exact h1 a (b1 ++ b2) t2 (by rw [h3, h5]) hb
      · cases t2 with
        | nil =>
          rw [List.append_nil] at h5
          exact h1 a (b1 ++ b2) [] (by rw [h3, List.append_nil, h5]) hb
        | cons w ws =>
          rw [List.cons_append] at h6
          have := (List.cons.inj h6).1
          exact absurd (by rw [h5, ← this]; exact List.mem_append_right _ List.mem_cons_self) hb
end
section
variable {K : PySem.W.Frag}
open TL
theorem dig_iff : ∀ c : Nat, c < 128 → DL.inS ⟨#[c]⟩ "0123456789" = (decide (48 ≤ c) && decide (c < 58)) := by decide +kernel
theorem num_of : ∀ (k : Nat) (l : List Nat), l.length ≤ k → l ≠ [] → (∀ c ∈ l, 48 ≤ c ∧ c < 58) → (2 ≤ l.length → ∀ r, l ≠ 48 :: r) → ∃ n, numL n = l ∧ ((∀ r, l ≠ 48 :: r) → 1 ≤ n) := by
  intro k
  induction k with
  | zero =>
    intro l h hne
    exact absurd (List.length_eq_zero_iff.mp (by omega)) hne
  | succ k ih =>
    intro l h hne hd h0
    have e := List.dropLast_concat_getLast hne
    generalize l.dropLast = m at e
    generalize l.getLast hne = d at e
    subst e
    have hdd := hd d (by simp)
    cases m with
    | nil =>
      refine ⟨d - 48, ?_, fun h1 => ?_⟩
      · rw [numL_lt (by omega), show 48 + (d - 48) = d by omega]
        rfl
      · have := h1 []
        rw [List.nil_append] at this
        have h2 : d ≠ 48 := fun z => this (by rw [z])
        omega
    | cons c r =>
      have hnot : ∀ q, c :: r ≠ 48 :: q := fun q z => by
        refine h0 (by simp) (q ++ [d]) ?_
        rw [z]
        rfl
      obtain ⟨n, e1, e2⟩ := ih (c :: r) (by simp at h ⊢; omega) (fun z => nomatch z) (fun x hx => hd x (List.mem_append_left _ hx)) fun _ => hnot
      have := e2 hnot
      refine ⟨10 * n + (d - 48), ?_, fun _ => by omega⟩
      rw [numL_step (by omega), show (10 * n + (d - 48)) / 10 = n by omega, e1, show 48 + (10 * n + (d - 48)) % 10 = d by omega]
theorem numS_inj {m n : Nat} (h : numS (m : Nat) = numS (n : Nat)) : m = n := numL_inj (by rw [← tl_numS, ← tl_numS, h])
theorem isN_num (n : Nat) : isN (numS (n : Nat)) = true := @decide_eq_true _ (Classical.propDecidable _) ⟨n, rfl⟩
theorem isN_tt {w : Str} (h : isN w = true) : ∃ n : Nat, w = numS (n : Nat) := @of_decide_eq_true _ (Classical.propDecidable _) h
theorem isN_ff {w : Str} (h : isN w = false) (n : Nat) : w ≠ numS (n : Nat) := fun z => by
  rw [z, isN_num] at h
  cases h
theorem isN_no {w : Str} (h : ∀ n : Nat, w ≠ numS (n : Nat)) : isN w = false := by
  cases e : isN w with
  | false => rfl
  | true =>
    obtain ⟨n, hn⟩ := isN_tt e
    exact absurd hn (h n)
theorem isN_nil : isN "" = false := isN_no fun n z => by
  have := congrArg tl z
  rw [tl_numS] at this
  exact numL_ne n this.symm
theorem isN_zero {w : Str} {r : List Nat} (h : tl w = 48 :: r) (hr : r ≠ []) : isN w = false := isN_no fun n z => by
  rw [z, tl_numS] at h
  have h2 : 2 ≤ (numL n).length := by
    rw [h]
    have := List.length_pos_iff.mpr hr
    rw [List.length_cons]
    omega
  obtain ⟨c, q, e, hc⟩ := num_head n h2
  rw [h] at e
  exact hc (List.cons.inj e).1.symm
theorem isN_all {w : Str} (hne : tl w ≠ []) (h0 : 2 ≤ (tl w).length → ∀ r, tl w ≠ 48 :: r) : isN w = (tl w).all fun c => decide (48 ≤ c) && decide (c < 58) := by
  cases e : (tl w).all fun c => decide (48 ≤ c) && decide (c < 58) with
  | true =>
    obtain ⟨n, hn, _⟩ := num_of _ (tl w) (Nat.le_refl _) hne (fun c hc => by
      have := List.all_eq_true.mp e c hc
      simp only [Bool.and_eq_true, decide_eq_true_eq] at this
      exact this) h0
    have : w = numS (n : Nat) := ext_tl (by rw [tl_numS, hn])
    rw [this]
    exact isN_num n
  | false =>
    refine isN_no fun n z => ?_
    have : ((tl w).all fun c => decide (48 ≤ c) && decide (c < 58)) = true := by
      rw [z, tl_numS, List.all_eq_true]
      intro c hc
      have := numL_digits n c hc
      rw [decide_eq_true (by omega), decide_eq_true (by omega)]
      rfl
    rw [e] at this
    cases this
end
section
variable {K : PySem.W.Frag}
open TL
theorem st_isn {a : D} : startD N_is_number [a] = [some a, none] := rfl
theorem len_is_number : ∀ ds cs Q, sp_is_number K ds cs Q → ds.length = 1 := by rintro ds cs Q ⟨_, rfl, _⟩; rfl
theorem chars_tl (w : Str) : chars w = (tl w).map fun c => .str ⟨#[c]⟩ := rfl
theorem all_dig {w : Str} (ha : ∀ c ∈ tl w, c < 128) : (((tl w).map fun c => DL.inS ⟨#[c]⟩ "0123456789").all fun b => b) = (tl w).all fun c => decide (48 ≤ c) && decide (c < 58) := by
  rw [List.all_map, Bool.eq_iff_iff, List.all_eq_true, List.all_eq_true]
  constructor
  · intro h c hc
    rw [← dig_iff c (ha c hc)]
    exact h c hc
  · intro h c hc
    exact (dig_iff c (ha c hc)).trans (h c hc)
theorem sgn_lay {c : Nat} (h : c < 128) : (PyData.str (⟨#[c]⟩ : Str)).canLay0 = true := lay_of (p := ⟨#[c]⟩) fun x hx => by
  rw [len_one] at hx
  cases List.mem_singleton.mp hx
  exact h
theorem sgn_eq {c : Nat} : ((⟨#[c]⟩ : Str) == "0") = decide (c = 48) := by
  rw [Bool.eq_iff_iff, beq_iff_eq, decide_eq_true_eq]
  constructor
  · intro z
    have := congrArg tl z
    rw [len_one, show tl "0" = [48] by decide +kernel] at this
    exact (List.cons.inj this).1
  · rintro rfl
    decide +kernel
theorem tl_nil {w : Str} (h : w ≠ "") : tl w ≠ [] := fun z => h (ext_tl (by rw [z]; rfl))
theorem vc_is_number : ∀ ds cs Q, Lo ds cs → LoC cs → sp_is_number K ds cs Q → t_is_number K (Po.fn cs Q) ⟨startD N_is_number ds, cs⟩ := by
  rintro ds cs Q hd hc ⟨w, rfl, ha, hz, q⟩
  have hlay := lay_of ha
  rw [st_isn]
  unfold t_is_number
  have rest : (isN w = (tl w).all fun c => decide (48 ≤ c) && decide (c < 58)) → (sRet (eCB qAll (aCons (eLc false (iSt (eV 0)) (.one 1) dYes (eBin (qInS false) (eV 1) (eC (.str "0123456789"))) [1]) aNil))) (Po.fn cs Q) ⟨[some (.str w), none], cs⟩ := by
    intro e
    walk_at "w"
    refine ⟨_, rfl, ?_⟩
    refine ⟨w, rfl, ?_⟩
    dsimp only
    rw [chars_tl]
    refine v_lcY (e1 := ⟨_, _⟩) (tl w) (fun c => .str ⟨#[c]⟩) (fun c => .bl (DL.inS ⟨#[c]⟩ "0123456789")) rfl (by rw [← len_tl]; omega) (fun Q' i c hcc q' => ?_) ?_
    · refine ⟨_, rfl, ?_⟩
      walk_at "w"
      refine v_inS ?_
      exact q'
    walk_at "w"
    refine v_allL (bs := (tl w).map fun c => DL.inS ⟨#[c]⟩ "0123456789") (by rw [List.map_map]; rfl) ?_
    rw [all_dig ha, ← e]
    exact .inl q
  generalize (sRet (eCB qAll (aCons (eLc false (iSt (eV 0)) (.one 1) dYes (eBin (qInS false) (eV 1) (eC (.str "0123456789"))) [1]) aNil))) = T at rest ⊢
  walk_at "w"
  refine v_eqS2 hlay (by first | rfl | decide +kernel) ?_
  by_cases hne : w = ""
  · rw [beq_iff_eq.mpr hne]
    walk_at "w"
    rw [hne, isN_nil] at q
    exact .inl q
  rw [beq_eq_false_iff_ne.mpr hne]
  have hnil := tl_nil hne
  walk_at "w"
  refine ⟨Nat.le_trans hz (by decide), ?_⟩
  walk_at "w"
  obtain ⟨c, r, e⟩ : ∃ c r, tl w = c :: r := by
    cases h : tl w with
    | nil => exact absurd h hnil
    | cons c r => exact ⟨c, r, rfl⟩
  have hlen : w.length = r.length + 1 := by rw [len_tl, e]; rfl
  refine v_itd (fun h => ?_) (fun h => ?_)
  · walk_at "w"
    refine ⟨Nat.le_trans hz (by decide), c, ?_, ?_⟩
    · show atI (tl w) 0 = some c
      rw [e]
      exact atI_nat (j := 0) rfl
    walk_at "w"
    refine v_eqS2 (sgn_lay (ha c (by rw [e]; exact List.mem_cons_self))) (by first | rfl | decide +kernel) ?_
    rw [sgn_eq]
    by_cases h48 : c = 48
    · rw [decide_eq_true h48]
      walk_at "w"
      rw [isN_zero (w := w) (r := r) (by rw [e, h48]) (fun z => by rw [z] at hlen; simp at hlen; omega)] at q
      exact .inl q
    · rw [decide_eq_false h48]
      walk_at "w"
      exact rest (isN_all hnil fun _ q z => h48 (by rw [e] at z; exact (List.cons.inj z).1))
  · walk_at "w"
    exact rest (isN_all hnil fun h2 => absurd h2 (by rw [← len_tl]; omega))
theorem v_addLL {xs ys : List D} {e : En} {P : D → En → Prop} (hz : xs.length + ys.length ≤ 100000) (p : P (.lst (xs ++ ys)) e) : qAdd false (.lst xs) (.lst ys) e P := ⟨xs, ys, rfl, rfl, Nat.le_trans hz (by decide), p⟩
theorem v_neS2 {a c : Str} {e : En} {P : D → En → Prop} (ha : (PyData.str a).canLay0 = true) (hc : (PyData.str c).canLay0 = true) (p : P (.bl (!(a == c))) e) : qNe (.str a) (.str c) e P := ⟨shp_str ha, shp_str hc, p⟩
theorem isty_no {T : String} (h : T ≠ "str") : isTy T "str" = false := by
  unfold isTy
  rw [beq_eq_false_iff_ne.mpr h]
  cases T == "bool" <;> rfl
theorem fx {cs : List Cel} {QX : XN → List Cel → Prop} {x : XN} {c : Cel} (h : QX x cs) : FinX cs QX x (cs ++ [c]) := .inr ⟨fun c' hc' => .inl (by simpa using hc'), by simpa using h⟩
theorem inF_strs (w : Str) : ∀ ws : List Str, inF (.str w) (ws.map .str) = decide (w ∈ ws)
  | [] => rfl
  | x :: ws => by
    have e : inF (.str w) ((x :: ws).map .str) = ((x == w) || inF (.str w) (ws.map .str)) := rfl
    rw [e, inF_strs w ws, Bool.eq_iff_iff, Bool.or_eq_true, beq_iff_eq, decide_eq_true_eq, decide_eq_true_eq, List.mem_cons]
    constructor
    · rintro (h | h)
      · exact .inl h.symm
      · exact .inr h
    · rintro (h | h)
      · exact .inl h.symm
      · exact .inr h
theorem fl_strs : ∀ ws : List Str, (ws.map D.str).all flD = true
  | [] => rfl
  | _ :: ws => fl_strs ws
theorem v_ninS {w : Str} {ws : List Str} {e : En} {P : D → En → Prop} (p : P (.bl (!decide (w ∈ ws))) e) : qIn true (.str w) (.lst (ws.map .str)) e P := .inl ⟨rfl, _, rfl, fl_strs ws, by rw [inF_strs]; exact p⟩
theorem v_figIx {f : Int} {e : En} {P : D → En → Prop} (h0 : 0 ≤ f) (h1 : f < 12) (p : P (.str (figC f)) e) : qIx (.str "0123456789ab") (.int f) e P := by
  obtain ⟨k, rfl⟩ : ∃ k : Nat, f = (k : Int) := ⟨f.toNat, by omega⟩
  exact ⟨by show ("0123456789ab" : Str).length ≤ _; exact Nat.le_trans (show ("0123456789ab" : Str).length ≤ 100000 by decide +kernel) (by decide), codeF (k : Int), atI_nat (fig_get k (by omega)), p⟩
theorem figs_sum {fs : List Int} (hn : fs.length ≤ 150) : ((fs.map figC).map (·.length)).sum + (fs.map figC).length * ("" : Str).length ≤ 16777216 := by
  refine join_sum (M := 1) (N := 150) (fun p hp => ?_) (by rw [List.length_map]; exact hn) _ (by decide +kernel) (by decide)
  obtain ⟨f, _, rfl⟩ := List.mem_map.mp hp
  exact Nat.le_refl _
theorem st_sf {a : D} : startD N_show_figures [a] = [some a, none] := rfl
theorem len_show_figures : ∀ ds cs Q, sp_show_figures K ds cs Q → ds.length = 1 := by rintro ds cs Q ⟨_, rfl, _⟩; rfl
theorem vc_show_figures : ∀ ds cs Q, Lo ds cs → LoC cs → sp_show_figures K ds cs Q → t_show_figures K (Po.fn cs Q) ⟨startD N_show_figures ds, cs⟩ := by
  rintro ds cs Q hd hc ⟨fs, rfl, hb, hn, q⟩
  rw [st_sf]
  unfold t_show_figures
  walk_at "w"
  refine v_lenL (xs := fs.map .int) rfl (fun _ z => nomatch z) ?_
  rw [List.length_map]
  walk_at "w"
  unfold figsS at q
  refine v_itd (fun h => ?_) (fun h => ?_)
  · have hne : fs = [] := List.length_eq_zero_iff.mp (by omega)
    rw [if_pos hne] at q
    walk_at "w"
    exact .inl q
  have hne : fs ≠ [] := fun z => h (by rw [z]; rfl)
  rw [if_neg hne] at q
  walk_at "w"
  refine ⟨"", rfl, ?_⟩
  walk_at "w"
  refine v_lcY (e1 := ⟨_, _⟩) fs .int (fun f => .str (figC f)) rfl (by omega) (fun Q' i f hf q' => ?_) ?_
  · have := hb f (List.mem_of_getElem? hf)
    refine ⟨_, rfl, ?_⟩
    walk_at "w"
    exact v_figIx this.1 this.2 q'
  walk_at "w"
  refine ⟨fs.map figC, by rw [List.map_map]; rfl, figs_sum hn, ?_⟩
  exact .inl q
theorem v_ixCol {c : List Int} {j : Nat} {e : En} {P : D → En → Prop} (h : j < c.length) (p : P (.int (c.getD j 0)) e) : qIx (encC c) (.int (j : Nat)) e P := by
  refine v_ixT (xs := c.map .int) (atI_map (x := c.getD j 0) ?_) p
  rw [List.getD_eq_getElem?_getD, List.getElem?_eq_getElem h]
  rfl
theorem take_w {b r : Int} {cols : List (List Int)} {k : Nat} (h : k < r.toNat) : (txtW b r cols).take (k + 1) ++ [figsS (rowF cols k)] = (txtW b r cols).take (k + 1 + 1) := by
  unfold txtW
  rw [List.take_succ_cons, List.take_succ_cons, List.cons_append, ← List.map_take, ← List.map_take, List.take_range, List.take_range, Nat.min_eq_left (by omega), Nat.min_eq_left (by omega), List.range_succ, List.map_append]
  rfl
theorem take_len {b r : Int} {cols : List (List Int)} (g : Gd b r cols) (h6 : cols.length ≤ 150) (k : Nat) : (Txt.join " " ((txtW b r cols).take k)).length ≤ 800 := by
  have h1 := join_len (y := " ") (M := 150) (ps := (txtW b r cols).take k) fun p hp => (gw_txt g h6 p (List.mem_of_mem_take hp)).1
  have h2 := txtW_len g
  have h3 : (" " : Str).length = 1 := by decide +kernel
  have h5 : ((txtW b r cols).take k).length ≤ 5 := by rw [List.length_take]; omega
  rw [h3] at h1
  have h4 : ((txtW b r cols).take k).length * (150 + 1) ≤ 5 * 151 := Nat.mul_le_mul_right _ h5
  omega
theorem ins_app {cs more : List Cel} {d : D} {z : Addr × List Str × List D} (h : insD cs d = some z) : insD (cs ++ more) d = some z := by
  cases d with
  | cell m =>
    have h' : (match cs[m]? with | some (.ins C ns xs) => some (C, ns, xs) | _ => none) = some z := h
    have hlt : m < cs.length := by
      rcases Nat.lt_or_ge m cs.length with q | q
      · exact q
      · rw [List.getElem?_eq_none q] at h'
        cases h'
    show (match (cs ++ more)[m]? with | some (.ins C ns xs) => some (C, ns, xs) | _ => none) = some z
    rw [List.getElem?_append_left hlt]
    exact h'
  | _ => exact h
theorem isSh_app {cs : List Cel} {c : Cel} {d : D} {b r : Int} {cols : List (List Int)} (h : isSh K cs d b r cols) : isSh K (cs ++ [c]) d b r cols := by
  obtain ⟨hc, hi, hl, hf⟩ := h
  exact ⟨hc, ins_app hi, lk_app hl, hf⟩
theorem isSh_d {cs : List Cel} {b r : Int} {cols : List (List Int)} : isSh K cs (shD K b r cols) b r cols := ⟨_, rfl, rfl, fun _ z => nomatch z⟩
theorem st_shs {a : D} : startD N_show_sheet [a] = [some a, none, none, none, none] := rfl
theorem len_show_sheet : ∀ ds cs Q, sp_show_sheet K ds cs Q → ds.length = 1 := by rintro ds cs Q ⟨_, _, _, _, rfl, _⟩; rfl
theorem vc_show_sheet : ∀ ds cs Q, Lo ds cs → LoC cs → sp_show_sheet K ds cs Q → t_show_sheet K (Po.fn cs Q) ⟨startD N_show_sheet ds, cs⟩ := by
  rintro ds cs Q hd hc ⟨d, b, r, cols, rfl, hs, g, h6, q⟩
  have b2 := g.b2
  have b12 := g.b12
  have r1 := g.r1
  have r4 := g.r4
  have hcl : (":" : Str).length = 1 := by decide +kernel
  have hnb : (numS b).length ≤ 2 := by
    obtain ⟨k, rfl, _, k13⟩ := num_lt g
    exact num_len2 k k13
  obtain ⟨hc0, hi, hl, hf⟩ := id hs
  rw [st_shs]
  unfold t_show_sheet
  walk_at "w"
  refine ⟨d, b, r, cols, rfl, hs, .inl ?_⟩
  walk_at "w"
  rw [← List.map_reverse]
  walk_at "w"
  refine ⟨d, b, r, cols, rfl, hs, ?_⟩
  walk_at "w"
  refine v_strZ (by omega) (by omega) ?_
  walk_at "w"
  refine v_addSS (by omega) ?_
  have hs2 : isSh K (cs ++ [.lst [.str (numS b ++ ":")]]) d b r cols := isSh_app hs
  obtain ⟨hc2, hi2, hl2, hf2⟩ := id hs2
  walk_at "w"
  refine ⟨d, b, r, cols, rfl, hs2, ?_⟩
  walk_at "w"
  refine ⟨fun k e => ∃ x3 : Option D, e = ⟨[some d, some (.lst (cols.reverse.map encC)), some (.cell cs.length), x3, none], cs ++ [.lst (((txtW b r cols).take (k + 1)).map .str)]⟩, ⟨none, rfl⟩, ?_, ?_⟩
  · rintro k d' e1 hk ⟨x3, rfl⟩
    obtain ⟨hk1, rfl⟩ := intsD_get hk
    have hkr : (k : Int) < r := by omega
    have hset : ∀ (w z : Cel), (cs ++ [w]).set cs.length z = cs ++ [z] := fun w z => app_set
    refine ⟨trivial, _, rfl, ?_⟩
    rw [Int.zero_add]
    walk_at "w"
    refine ⟨⟨_, lk_cell app_get⟩, ?_⟩
    walk_at "w"
    refine v_lcY (e1 := ⟨_, _⟩) cols.reverse encC (fun c => .int (c.getD k 0)) rfl (by rw [List.length_reverse]; omega) (fun Q' i c hcc q' => ?_) ?_
    · have hm := okC_iff.mp (g.c c (List.mem_reverse.mp (List.mem_of_getElem? hcc)))
      refine ⟨_, rfl, ?_⟩
      walk_at "w"
      exact v_ixCol (by omega) q'
    rw [show (cols.reverse.map fun c => D.int (c.getD k 0)) = (rowF cols k).map .int by unfold rowF; rw [List.map_map]; rfl]
    walk_at "w"
    refine ⟨rowF cols k, rfl, row_bd12 g hkr, by rw [row_len]; exact h6, ?_⟩
    walk_at "w"
    refine ⟨_, _, _, rfl, rfl, app_get, Nat.lt_of_le_of_lt (show _ ≤ 1000 by rw [List.length_map, List.length_take]; have := txtW_len g; omega) (by decide), ?_⟩
    rw [hset, show ((txtW b r cols).take (k + 1)).map D.str ++ [.str (figsS (rowF cols k))] = ((txtW b r cols).take (k + 1 + 1)).map .str by rw [← take_w (by omega), List.map_append]; rfl]
    walk_at "w"
    exact ⟨_, rfl⟩
  · rintro e1 ⟨x3, rfl⟩
    refine ⟨trivial, ?_⟩
    rw [intsD_len]
    have e : (txtW b r cols).take (r.toNat + 1) = txtW b r cols := List.take_of_length_le (by unfold txtW; rw [List.length_cons, List.length_map, List.length_range]; exact Nat.le_refl _)
    rw [e]
    walk_at "w"
    refine ⟨" ", rfl, ?_⟩
    walk_at "w"
    refine ⟨txtW b r cols, lk_cell app_get, join_sum (M := 150) (N := 5) (fun p hp => (gw_txt g h6 p hp).1) (txtW_len g) _ (by decide +kernel) (by decide), ?_⟩
    refine .inr (.inl ⟨rfl, fun c h => ?_, ?_⟩)
    · rw [List.take_left] at h
      exact .inl h
    · rw [List.take_left]
      exact q
theorem all_no {xs : List Nat} {f : Nat → Bool} (hne : xs ≠ []) (h : ∀ x ∈ xs, f x = false) : ((xs.map f).all fun b => b) = false := by
  cases xs with
  | nil => exact absurd rfl hne
  | cons x xs =>
    rw [List.map_cons, List.all_cons, h x List.mem_cons_self, Bool.false_and]
theorem all_yes {α : Type} {xs : List α} {f : α → Bool} (h : ∀ x ∈ xs, f x = true) : ((xs.map f).all fun b => b) = true := by
  rw [List.all_map, List.all_eq_true]
  exact h
theorem chars_figs {fs : List Int} (h : fs ≠ []) : chars (figsS fs) = fs.map fun f => .str (figC f) := by
  unfold chars figsS
  rw [if_neg h, show (Txt.join "" (fs.map figC)).cps.toList = fs.map codeF from tl_figs fs, List.map_map]
  rfl
end
section
variable {K : PySem.W.Frag}
open TL
theorem Tx.mono {L k M m : Nat} {s : Str} (h : Tx L k s) (h1 : L ≤ M) (h2 : k ≤ m) : Tx M m s := ⟨Nat.le_trans h.n h1, h.a, h.w.mono h2⟩
theorem Tx.app {L k M m : Nat} {s t : Str} (h : Tx L k s) (g : Tx M m t) : Tx (L + M) (k + m) (s ++ t) := by
  refine ⟨?_, fun c hc => ?_, ?_⟩
  · rw [len_app]
    exact Nat.add_le_add h.n g.n
  · rw [tl_append] at hc
    rcases List.mem_append.mp hc with hc | hc
    · exact h.a c hc
    · exact g.a c hc
  · rw [tl_append]
    exact h.w.app g.w
theorem tl_cut (z : Str) (lo hi : Option Int) : ∃ a b, tl z = a ++ (tl (cutS z lo hi) ++ b) :=
  ⟨(tl z).take (HT.sIx z.length 0 lo), ((tl z).drop (HT.sIx z.length 0 lo)).drop (HT.sIx z.length z.length hi - HT.sIx z.length 0 lo), by
    show tl z = _ ++ (((tl z).drop (HT.sIx z.length 0 lo)).take _ ++ _)
    rw [List.take_append_drop, List.take_append_drop]⟩
theorem Tx.cut {L k : Nat} {s : Str} (h : Tx L k s) (lo hi : Option Int) : Tx L k (cutS s lo hi) := by
  obtain ⟨a, b, e⟩ := tl_cut s lo hi
  exact ⟨Nat.le_trans (cutS_length _ _ _) h.n, fun c hc => h.a c (by rw [e]; exact List.mem_append_right _ (List.mem_append_left _ hc)), h.w.sub e⟩
theorem Tx.one {c : Nat} (h : c < 128) : Tx 1 1 ⟨#[c]⟩ := ⟨Nat.le_refl _, fun x hx => by rw [len_one] at hx; cases List.mem_singleton.mp hx; exact h, Wb.len (by rw [len_one]; exact Nat.le_refl _)⟩
theorem cut_one {s : Str} {i : Nat} : (cutS s (some (i : Int)) (some ((i + 1 : Nat) : Int))).length ≤ 1 := by
  rw [len_tl]
  show (((tl s).drop (HT.sIx s.length 0 (some (i : Int)))).take (HT.sIx s.length s.length (some ((i + 1 : Nat) : Int)) - HT.sIx s.length 0 (some (i : Int)))).length ≤ 1
  rw [List.length_take, HT.sIx_nat, HT.sIx_nat]
  omega
theorem Tx.small {L k n : Nat} {s : Str} (h : Tx L k s) (hn : s.length ≤ n) : Tx n n s := ⟨hn, h.a, Wb.len (by rw [← len_tl]; exact hn)⟩
def upN (c : Nat) : Nat := (Unicode.upperOf c).headD 0
theorem up_all : ∀ c : Nat, c < 128 → Unicode.upperOf c = [upN c] ∧ upN c < 128 ∧ (upN c = 32 ↔ c = 32) := by decide +kernel
theorem tl_upper {s : Str} (h : ∀ c ∈ tl s, c < 128) : tl (Txt.upper s) = (tl s).map upN := by
  have e : tl (Txt.upper s) = ((tl s).map fun c => Unicode.upperOf c).flatten := by
    show (PySem.placed s fun _ c => Unicode.upperOf c).toList = _
    unfold PySem.placed
    have key : ∀ l : List Nat, List.mapIdx (fun _ c => (Unicode.upperOf c).toArray) l = l.map fun c => (Unicode.upperOf c).toArray := fun l => List.ext_getElem (by simp) (by simp)
    simp only [Array.toList_flatten, Array.toList_mapIdx]
    rw [key, List.map_map]
    rfl
  rw [e]
  generalize tl s = l at h
  induction l with
  | nil => rfl
  | cons c l ih =>
    rw [List.map_cons, List.flatten_cons, (up_all c (h c List.mem_cons_self)).1, ih fun x hx => h x (List.mem_cons_of_mem _ hx)]
    rfl
theorem Tx.upper {L k : Nat} {s : Str} (h : Tx L k s) : Tx L k (Txt.upper s) := by
  refine ⟨?_, fun c hc => ?_, ?_⟩
  · rw [len_tl, tl_upper h.a, List.length_map, ← len_tl]
    exact h.n
  · rw [tl_upper h.a] at hc
    obtain ⟨x, hx, rfl⟩ := List.mem_map.mp hc
    exact (up_all x (h.a x hx)).2.1
  · rw [tl_upper h.a]
    intro a b c e hb
    obtain ⟨l1, l2, e1, rfl, e2⟩ := List.map_eq_append_iff.mp e
    obtain ⟨l3, l4, e3, rfl, rfl⟩ := List.map_eq_append_iff.mp e2
    rw [List.length_map]
    refine h.w l1 l3 l4 (by rw [e1, e3]) fun z => hb ?_
    have := (up_all 32 (by decide)).2.2.mpr rfl
    exact List.mem_map.mpr ⟨32, z, this⟩
theorem wb_words {k : Nat} : ∀ ws : List (List Nat), (∀ w ∈ ws, w.length ≤ k) → Wb k (joinL [32] ws)
  | [], _ => Wb.len (Nat.zero_le _)
  | [w], h => Wb.len (h w List.mem_cons_self)
  | w :: v :: r, h => by
    rw [joinL_cons (q := v :: r) (by simp)]
    exact Wb.gap (Wb.len (h w List.mem_cons_self)) (wb_words (v :: r) fun x hx => h x (List.mem_cons_of_mem _ hx))
theorem st_lsp {a b : D} : startD N_law_spoilt [a, b] = [some a, some b, none, none, none, none, none, none, none] := rfl
theorem len_law_spoilt : ∀ ds cs Q, sp_law_spoilt K ds cs Q → ds.length = 2 := by rintro ds cs Q ⟨_, _, _, _, _, _, _, rfl, _⟩; rfl
theorem chs_asc : ∀ c ∈ tl "0123456789abc:,- ABtfs.+_~!", c < 128 := by decide +kernel
theorem v_slS {o : Bool} {s : Str} {lo hi : Option Int} {e : En} {P : D → En → Prop} (h : s.length ≤ 100000) (p : P (.str (cutS s lo hi)) e) : qSl o (.str s) lo hi e P := ⟨Nat.le_trans h (by decide), p⟩
theorem v_addTx {o : Bool} {a b : Str} {L k M m : Nat} {e : En} {P : D → En → Prop} (h : Tx L k a) (g : Tx M m b) (hz : L + M ≤ 100000) (p : P (.str (a ++ b)) e) : qAdd o (.str a) (.str b) e P := v_addSS (by have := h.n; have := g.n; omega) p
theorem vc_law_spoilt : ∀ ds cs Q, Lo ds cs → LoC cs → sp_law_spoilt K ds cs Q → t_law_spoilt K (Po.fn cs Q) ⟨startD N_law_spoilt ds, cs⟩ := by
  rintro ds cs Q hd hc ⟨n, a, b, c, s, L, k, rfl, hn, T, hL, hk, q⟩
  have hTn := T.n
  have hcl : ∀ lo hi, (cutS s lo hi).length ≤ 10000 := fun lo hi => by have := cutS_length s lo hi; omega
  rw [st_lsp]
  unfold t_law_spoilt
  walk_at "w"
  refine ⟨n, 8, a, b, c, rfl, hn, by decide, by decide, fun w a1 b1 w0 w8 => ?_⟩
  walk_at "w"
  refine ⟨Nat.le_trans hTn (Nat.le_trans hL (by decide)), ?_⟩
  walk_at "w"
  refine ⟨n, _, a1, b1, c, rfl, set_get hn, by omega, by omega, fun at_ a2 b2 at0 at1 => ?_⟩
  rw [List.set_set]
  walk_at "w"
  refine ⟨Nat.le_trans hTn (Nat.le_trans hL (by decide)), ?_⟩
  walk_at "w"
  refine ⟨n, _, a2, b2, c, rfl, set_get hn, by omega, by omega, fun to a3 b3 to0 to1 => ?_⟩
  rw [List.set_set]
  walk_at "w"
  refine ⟨by decide +kernel, ?_⟩
  walk_at "w"
  refine ⟨n, _, a3, b3, c, rfl, set_get hn, by decide +kernel, by decide +kernel, fun ch a4 b4 ch0 ch1 => ?_⟩
  rw [List.set_set]
  have hchl : (tl "0123456789abc:,- ABtfs.+_~!").length = 27 := by decide +kernel
  have hch27 : ch < 27 := by
    have e : (("0123456789abc:,- ABtfs.+_~!" : Str)).length = 27 := by decide +kernel
    rw [e] at ch1
    omega
  obtain ⟨cn, hcn, h128⟩ : ∃ cn, atI (tl "0123456789abc:,- ABtfs.+_~!") ch = some cn ∧ cn < 128 := by
    obtain ⟨j, rfl⟩ : ∃ j : Nat, ch = (j : Int) := ⟨ch.toNat, by omega⟩
    have hj : j < (tl "0123456789abc:,- ABtfs.+_~!").length := by omega
    exact ⟨_, atI_nat (List.getElem?_eq_getElem hj), chs_asc _ (List.getElem_mem hj)⟩
  refine ⟨by decide +kernel, cn, hcn, ?_⟩
  obtain ⟨j, rfl⟩ : ∃ j : Nat, at_ = (j : Int) := ⟨at_.toNat, by omega⟩
  have TC := Tx.one h128
  have s5 : s.length ≤ 100000 := by omega
  walk_at "w"
  refine v_itd (fun h => ?_) (fun h => ?_)
  · walk_at "w"
    refine v_slS s5 ?_
    walk_at "w"
    refine v_addTx (T.cut _ _) TC (by omega) ?_
    walk_at "w"
    refine v_slS s5 ?_
    refine v_addTx ((T.cut _ _).app TC) (T.cut _ _) (by omega) ?_
    exact .inl (q _ a4 b4 ((((T.cut _ _).app TC).app (T.cut _ _)).mono (by omega) (by omega)))
  walk_at "w"
  refine v_itd (fun h => ?_) (fun h => ?_)
  · walk_at "w"
    refine v_slS s5 ?_
    walk_at "w"
    refine v_slS s5 ?_
    refine v_addTx (T.cut _ _) (T.cut _ _) (by omega) ?_
    exact .inl (q _ a4 b4 (((T.cut _ _).app (T.cut _ _)).mono (by omega) (by omega)))
  walk_at "w"
  refine v_itd (fun h => ?_) (fun h => ?_)
  · walk_at "w"
    refine v_slS s5 ?_
    walk_at "w"
    refine v_addTx (T.cut _ _) TC (by omega) ?_
    walk_at "w"
    refine v_slS s5 ?_
    refine v_addTx ((T.cut _ _).app TC) (T.cut _ _) (by omega) ?_
    exact .inl (q _ a4 b4 ((((T.cut _ _).app TC).app (T.cut _ _)).mono (by omega) (by omega)))
  walk_at "w"
  refine v_itd (fun h => ?_) (fun h => ?_)
  · have c1 : (cutS s (some ((j : Int) + 1)) (some ((j : Int) + 2))).length ≤ 1 := cut_one (s := s) (i := j + 1)
    have c2 : (cutS s (some (j : Int)) (some ((j : Int) + 1))).length ≤ 1 := cut_one (s := s) (i := j)
    have T1 := (T.cut (some ((j : Int) + 1)) (some ((j : Int) + 2))).small c1
    have T2 := (T.cut (some (j : Int)) (some ((j : Int) + 1))).small c2
    walk_at "w"
    refine v_slS s5 ?_
    walk_at "w"
    refine v_slS s5 ?_
    refine v_addTx T1 T2 (by omega) ?_
    walk_at "w"
    refine v_slS s5 ?_
    walk_at "w"
    refine v_addTx (T.cut _ _) (T1.app T2) (by omega) ?_
    walk_at "w"
    refine v_slS s5 ?_
    refine v_addTx ((T.cut _ _).app (T1.app T2)) (T.cut _ _) (by omega) ?_
    exact .inl (q _ a4 b4 ((((T.cut _ _).app (T1.app T2)).app (T.cut _ _)).mono (by omega) (by omega)))
  walk_at "w"
  refine v_itd (fun h => ?_) (fun h => ?_)
  · walk_at "w"
    refine v_slS s5 ?_
    walk_at "w"
    refine v_slS s5 ?_
    refine v_addTx (T.cut _ _) (T.cut _ _) (by omega) ?_
    exact .inl (q _ a4 b4 (((T.cut _ _).app (T.cut _ _)).mono (by omega) (by omega)))
  walk_at "w"
  refine v_itd (fun h => ?_) (fun h => ?_)
  · walk_at "w"
    refine v_slS s5 ?_
    exact .inl (q _ a4 b4 ((T.cut _ _).mono (by omega) (by omega)))
  walk_at "w"
  refine v_itd (fun h => ?_) (fun h => ?_)
  · walk_at "w"
    refine v_slS s5 ?_
    walk_at "w"
    refine v_slS s5 ?_
    refine v_addTx (T.cut _ _) (T.cut _ _) (by omega) ?_
    exact .inl (q _ a4 b4 (((T.cut _ _).app (T.cut _ _)).mono (by omega) (by omega)))
  have TS : Tx 1 1 " " := ⟨by decide +kernel, by decide +kernel, Wb.len (by decide +kernel)⟩
  walk_at "w"
  refine v_addTx T TS (by omega) ?_
  walk_at "w"
  refine v_addTx TS T (by omega) ?_
  walk_at "w"
  refine v_addTx T TC (by omega) ?_
  walk_at "w"
  refine v_addTx TC T (by omega) ?_
  walk_at "w"
  refine ⟨_, rfl, ?_⟩
  refine ⟨s, rfl, by omega, ?_⟩
  walk_at "w"
  refine v_addTx T T (by omega) ?_
  walk_at "w"
  refine v_lenL (xs := [.str (s ++ " "), .str (" " ++ s), .str (s ++ (⟨#[cn]⟩ : Str)), .str ((⟨#[cn]⟩ : Str) ++ s), .str (Txt.upper s), .str (s ++ s)]) rfl (fun _ z => nomatch z) ?_
  walk_at "w"
  refine ⟨n, _, a4, b4, c, rfl, set_get hn, by simp, by simp, fun x a5 b5 x0 x1 => ?_⟩
  rw [List.set_set]
  have x6 : x < 6 := x1
  obtain ⟨v, ev, Tv⟩ : ∃ v, atI [D.str (s ++ " "), .str (" " ++ s), .str (s ++ (⟨#[cn]⟩ : Str)), .str ((⟨#[cn]⟩ : Str) ++ s), .str (Txt.upper s), .str (s ++ s)] x = some (.str v) ∧ Tx (2 * L + 2) (2 * k + 2) v := by
    obtain rfl | rfl | rfl | rfl | rfl | rfl : x = 0 ∨ x = 1 ∨ x = 2 ∨ x = 3 ∨ x = 4 ∨ x = 5 := by omega
    · exact ⟨_, atI_nat (j := 0) rfl, (T.app TS).mono (by omega) (by omega)⟩
    · exact ⟨_, atI_nat (j := 1) rfl, (TS.app T).mono (by omega) (by omega)⟩
    · exact ⟨_, atI_nat (j := 2) rfl, (T.app TC).mono (by omega) (by omega)⟩
    · exact ⟨_, atI_nat (j := 3) rfl, (TC.app T).mono (by omega) (by omega)⟩
    · exact ⟨_, atI_nat (j := 4) rfl, T.upper.mono (by omega) (by omega)⟩
    · exact ⟨_, atI_nat (j := 5) rfl, (T.app T).mono (by omega) (by omega)⟩
  refine v_ixLX ⟨_, ev, ?_⟩
  exact .inl (q _ a5 b5 Tv)
end
section
open TL
/-! plain: what is the text of a sheet -/
abbrev figT : Str := "0123456789ab"
def valF (c : Nat) : Int := if c < 58 then (c : Int) - 48 else (c : Int) - 87
theorem fig_in0 : ∀ k : Nat, k < 13 → 2 ≤ k → ∀ c : Nat, c < 128 → (!(DL.inS ⟨#[c]⟩ (cutS figT none (some (k : Int)))) || (decide (codeF (valF c) = c) && (decide (0 ≤ valF c) && decide (valF c < (k : Int))))) = true := by decide +kernel
theorem fig_in (k : Nat) (k13 : k < 13) (k2 : 2 ≤ k) (c : Nat) (hc : c < 128) (h : DL.inS ⟨#[c]⟩ (cutS figT none (some (k : Int))) = true) : codeF (valF c) = c ∧ 0 ≤ valF c ∧ valF c < (k : Int) := by
  have := fig_in0 k k13 k2 c hc
  rw [h, Bool.not_true, Bool.false_or, Bool.and_eq_true, Bool.and_eq_true, decide_eq_true_eq, decide_eq_true_eq, decide_eq_true_eq] at this
  exact this
theorem hd_inj : ∀ k : Nat, k < 13 → ∀ m : Nat, m < 13 → numS (k : Nat) ++ ":" = numS (m : Nat) ++ ":" → k = m := by decide +kernel
/-- the words of a text of a sheet -/
def OKt (w0 : Str) (R : List Str) : Prop := ∃ k : Nat, 2 ≤ k ∧ k < 13 ∧ w0 = numS (k : Nat) ++ ":" ∧ 1 ≤ R.length ∧ R.length ≤ 4 ∧
  ((∀ w ∈ R, w = "-") ∨ ∃ z : Nat, 1 ≤ z ∧ z ≤ 150 ∧ ∀ w ∈ R, w.length = z ∧ w ≠ "-" ∧ ∀ c ∈ tl w, DL.inS ⟨#[c]⟩ (cutS figT none (some (k : Int))) = true)
theorem okt_of {b r : Int} {cols : List (List Int)} (g : Gd b r cols) (h6 : cols.length ≤ 150) {w0 : Str} {R : List Str} (e : txtW b r cols = w0 :: R) : OKt w0 R := by
  have r1 := g.r1
  have r4 := g.r4
  obtain ⟨k, rfl, k2, k13⟩ := num_lt g
  unfold txtW at e
  obtain ⟨rfl, rfl⟩ := List.cons.inj e
  have hl : ((List.range r.toNat).map fun j => figsS (rowF cols j)).length = r.toNat := by rw [List.length_map, List.length_range]
  refine ⟨k, k2, k13, rfl, by omega, by omega, ?_⟩
  by_cases hne : cols = []
  · refine .inl fun w hw => ?_
    obtain ⟨j, _, rfl⟩ := List.mem_map.mp hw
    exact if_pos (row_nil.mpr hne)
  · refine .inr ⟨cols.length, List.length_pos_iff.mpr hne, h6, fun w hw => ?_⟩
    obtain ⟨j, hj, rfl⟩ := List.mem_map.mp hw
    have hj := List.mem_range.mp hj
    have hrn : rowF cols j ≠ [] := fun z => hne (row_nil.mp z)
    refine ⟨by rw [len_figs hrn, row_len], (row_ne hrn (row_bd12 g (by omega))).1, fun c hc => ?_⟩
    unfold figsS at hc
    rw [if_neg hrn, tl_figs] at hc
    obtain ⟨f, hf, rfl⟩ := List.mem_map.mp hc
    have hb := row_bd g (j := j) (by omega) f hf
    obtain ⟨u, rfl⟩ : ∃ u : Nat, f = (u : Int) := ⟨f.toNat, by omega⟩
    exact fig_cut k k13 k2 u (by omega)
theorem of_okt {w0 : Str} {R : List Str} (hR : ∀ w ∈ R, ∀ c ∈ tl w, c < 128) (h : OKt w0 R) : ∃ (b r : Int) (cols : List (List Int)), Gd b r cols ∧ cols.length ≤ 150 ∧ txtW b r cols = w0 :: R := by
  obtain ⟨k, k2, k13, rfl, r1, r4, h⟩ := h
  rcases h with h | ⟨z, z1, z150, h⟩
  · refine ⟨(k : Int), (R.length : Int), [], ⟨by omega, by omega, by omega, by omega, (fun _ h => nomatch h), Nat.zero_le _⟩, Nat.zero_le _, ?_⟩
    unfold txtW
    refine congrArg _ ?_
    apply List.ext_getElem (by simp)
    intro j h1 h2
    rw [List.getElem_map, h _ (List.getElem_mem h2)]
    rfl
  · have hval : ∀ w ∈ R, ∀ i, i < z → ∃ hi : i < (tl w).length, codeF (valF ((tl w).getD i 0)) = (tl w)[i] ∧ 0 ≤ valF ((tl w).getD i 0) ∧ valF ((tl w).getD i 0) < (k : Int) := fun w hw i hi => by
      have hl : i < (tl w).length := by rw [← len_tl, (h w hw).1]; exact hi
      have e : (tl w).getD i 0 = (tl w)[i] := by rw [List.getD_eq_getElem?_getD, List.getElem?_eq_getElem hl]; rfl
      have hm := List.getElem_mem hl
      refine ⟨hl, ?_⟩
      rw [e]
      exact fig_in k k13 k2 _ (hR w hw _ hm) ((h w hw).2.2 _ hm)
    have hlen : (((List.range z).map fun i => R.map fun w => valF ((tl w).getD i 0)).reverse).length = z := by rw [List.length_reverse, List.length_map, List.length_range]
    refine ⟨(k : Int), (R.length : Int), ((List.range z).map fun i => R.map fun w => valF ((tl w).getD i 0)).reverse, ⟨by omega, by omega, by omega, by omega, fun c hc => ?_, by rw [hlen]; omega⟩, by rw [hlen]; exact z150, ?_⟩
    · obtain ⟨i, hi, rfl⟩ := List.mem_map.mp (List.mem_reverse.mp hc)
      have hi := List.mem_range.mp hi
      refine okC_iff.mpr ⟨by rw [List.length_map], fun y hy => ?_⟩
      obtain ⟨w, hw, rfl⟩ := List.mem_map.mp hy
      obtain ⟨_, _, h1, h2⟩ := hval w hw i hi
      exact ⟨h1, h2⟩
    · unfold txtW
      refine congrArg _ ?_
      apply List.ext_getElem (by simp)
      intro j h1 h2
      rw [List.getElem_map, List.getElem_range]
      have hm := List.getElem_mem h2
      generalize hw : R[j] = w at hm ⊢
      have hrow : rowF ((List.range z).map fun i => R.map fun w => valF ((tl w).getD i 0)).reverse j = (List.range z).map fun i => valF ((tl w).getD i 0) := by
        unfold rowF
        rw [List.reverse_reverse, List.map_map]
        refine List.map_congr_left fun i _ => ?_
        show (R.map fun w => valF ((tl w).getD i 0)).getD j 0 = _
        rw [List.getD_eq_getElem?_getD, List.getElem?_map, List.getElem?_eq_getElem h2, hw]
        rfl
      rw [hrow]
      unfold figsS
      rw [if_neg (fun e => by
        have := congrArg List.length e
        rw [List.length_map, List.length_range] at this
        simp at this
        omega)]
      refine ext_tl ?_
      rw [tl_figs, List.map_map]
      have hl : (tl w).length = z := by rw [← len_tl]; exact (h w hm).1
      apply List.ext_getElem (by rw [List.length_map, List.length_range]; exact hl.symm)
      intro i h3 h4
      rw [List.getElem_map, List.getElem_range]
      obtain ⟨_, h5, _⟩ := hval w hm i (by omega)
      exact h5
/-- a text and its words -/
theorem ist_iff {s : Str} (T : ∀ c ∈ tl s, c < 128) {w0 : Str} {R : List Str} (hs : Txt.split s " " = w0 :: R) : OKt w0 R ↔ ∃ b r cols, IsT s b r cols := by
  constructor
  · intro h
    obtain ⟨b, r, cols, g, h6, e⟩ := of_okt (fun w hw c hc => by
      obtain ⟨a, b, e2⟩ := split_in tl_sp (by decide +kernel) (show w ∈ Txt.split s " " by rw [hs]; exact List.mem_cons_of_mem _ hw)
      exact T c (by rw [e2]; exact List.mem_append_right _ (List.mem_append_left _ hc))) h
    refine ⟨b, r, cols, g, h6, ?_⟩
    have := split_back (x := s) tl_sp (by decide +kernel)
    rw [hs, ← e] at this
    exact this.symm
  · rintro ⟨b, r, cols, g, h6, e⟩
    rw [e, split_txt g h6] at hs
    exact okt_of g h6 hs
theorem cut_both (w : Str) : w = cutS w none (some (-1)) ++ cutS w (some (-1)) none := by
  refine ext_tl ?_
  rw [tl_append]
  show tl w = (((tl w).drop 0).take (HT.sIx w.length w.length (some (-1)) - 0)) ++ (((tl w).drop (HT.sIx w.length 0 (some (-1)))).take (w.length - HT.sIx w.length 0 (some (-1))))
  have e : HT.sIx w.length w.length (some (-1)) = HT.sIx w.length 0 (some (-1)) := rfl
  rw [e, List.drop_zero, Nat.sub_zero, List.take_of_length_le (l := (tl w).drop _) (by rw [List.length_drop, ← len_tl]; exact Nat.le_refl _), List.take_append_drop]
end
section
variable {K : PySem.W.Frag}
open TL
theorem tx_word {L k : Nat} {p w : Str} (h : Tx L k p) (hw : w ∈ Txt.split p " ") : (∀ c ∈ tl w, c < 128) ∧ w.length ≤ k := by
  obtain ⟨a, b, e2⟩ := split_in tl_sp (by decide +kernel) hw
  refine ⟨fun c hc => h.a c (by rw [e2]; exact List.mem_append_right _ (List.mem_append_left _ hc)), ?_⟩
  rw [len_tl]
  refine h.w a (tl w) b e2 (spl_free (tl p) [] (fun z => nomatch z) _ ?_)
  rw [← split_tl tl_sp (by decide +kernel)]
  exact List.mem_map.mpr ⟨w, hw, rfl⟩
theorem st_rds {a : D} : startD N_read_sheet [a] = [some a, none, none, none, none, none, none, none, none, none] := rfl
theorem len_read_sheet : ∀ ds cs Q QX, sp_read_sheet K ds cs Q QX → ds.length = 1 := by rintro ds cs Q QX ⟨_, rfl, _⟩; rfl
theorem w_yes {cs : List Cel} {Q : D → List Cel → Prop} {QX : XN → List Cel → Prop} {b r : Int} {cols : List (List Int)} (g : Gd b r cols) (h6 : cols.length ≤ 150)
    (q : Q (shD K b r cols) cs ∨ Q (.cell cs.length) (cs ++ [.ins (He.ga K "Sheet") shN [.int b, .int r, .cell (cs.length + 1), .int cols.length], .lst (cols.map encC)])) :
    t_read_sheet K (FinX cs QX) (Po.fn cs Q) ⟨startD N_read_sheet [.str (txtS b r cols)], cs⟩ := by
  have htl := txt_len g h6
  have b2 := g.b2
  have b12 := g.b12
  have r1 := g.r1
  have r4 := g.r4
  obtain ⟨k, rfl, k2, k13⟩ := num_lt g
  have hnl := num_len2 k k13
  have hhl := hd_len k13
  have asc : ∀ c ∈ tl (numS (k : Nat)), c < 128 := fun c hc => by
    rw [tl_numS] at hc
    have := numL_digits k c hc
    omega
  -- the sheet is made
  have mk : ∀ sl : List (Option D), sp_Sheet_init K [.cell cs.length, .int (k : Nat), .int r, .lst (cols.map encC)] (cs ++ [.ins (He.ga K "Sheet") [] []]) fun x cs' => x = .non ∧
      ((Po.fn cs Q).rt (.cell cs.length) cs' ∨ ∃ cs1 C' ns xs, cs' = cs1 ++ [Cel.ins C' ns xs] ∧ cs1.length = cs.length ∧ los cs.length xs = true ∧ (∀ c ∈ cs1, c ∈ cs ∨ c.loD cs.length = true) ∧ (Po.fn cs Q).rt (.ins C' ns xs) cs1) := by
    intro sl
    rcases q with q | q
    · refine ⟨_, .lst (cols.map encC), cols, _, r, rfl, app_get, rfl, (fun _ z => nomatch z), g, .inl ?_⟩
      rw [app_set]
      refine ⟨rfl, .inr ⟨_, _, _, _, rfl, rfl, ?_, fun c hc => .inl hc, ?_⟩⟩
      · show (true && (true && (los _ (cols.map encC) && (true && true)))) = true
        rw [los_encC] <;> rfl
      · exact .inl q
    · refine ⟨_, .lst (cols.map encC), cols, _, r, rfl, app_get, rfl, (fun _ z => nomatch z), g, .inr ?_⟩
      rw [app_set, List.length_append, List.length_singleton, List.append_assoc]
      exact ⟨rfl, .inl (.inl q)⟩
  have hrows : ((List.range r.toNat).map fun j => figsS (rowF cols j)).map D.str = (List.range r.toNat).map fun j => .str (figsS (rowF cols j)) := by rw [List.map_map]; rfl
  have hlr : (List.range r.toNat).length = r.toNat := List.length_range
  rw [st_rds]
  unfold t_read_sheet
  walk_at "w"
  refine ⟨_, rfl, ?_⟩
  refine ⟨txtS k r cols, rfl, ?_⟩
  refine ⟨" ", rfl, by decide +kernel, by omega, ?_⟩
  rw [split_txt g h6, show (txtW k r cols).map D.str = .str (numS k ++ ":") :: ((List.range r.toNat).map fun j => figsS (rowF cols j)).map .str from rfl, hrows]
  walk_at "w"
  refine v_slL (xs := .str (numS k ++ ":") :: (List.range r.toNat).map fun j => .str (figsS (rowF cols j))) rfl (fun _ z => nomatch z) (fun _ z => nomatch z) ?_
  rw [cut_tl]
  walk_at "w"
  refine v_ixLX ⟨_, atI_zero, ?_⟩
  walk_at "w"
  refine ⟨Nat.le_trans hhl (by decide), ?_⟩
  rw [(cut_hd k k13).1]
  walk_at "w"
  refine v_ixLX ⟨_, atI_zero, ?_⟩
  walk_at "w"
  refine ⟨Nat.le_trans hhl (by decide), ?_⟩
  rw [(cut_hd k k13).2]
  walk_at "w"
  refine ⟨numS k, rfl, asc, by omega, ?_⟩
  rw [isN_num]
  walk_at "w"
  refine ⟨Nat.le_trans hnl (by decide), ?_⟩
  walk_at "w"
  rw [decide_eq_false (show ¬ (2 : Int) < ((numS k).length : Nat) by omega)]
  walk_at "w"
  refine v_lenL (xs := (List.range r.toNat).map fun j => .str (figsS (rowF cols j))) rfl (fun _ z => nomatch z) ?_
  rw [List.length_map, hlr]
  walk_at "w"
  rw [decide_eq_true (show (1 : Int) ≤ (r.toNat : Int) by omega), if_pos rfl]
  walk_at "w"
  rw [decide_eq_true (show (r.toNat : Int) ≤ 4 by omega)]
  walk_at "w"
  refine ⟨Nat.le_trans hnl (by decide), _, int_num (n := k) (by rw [← tl_numS, ← len_tl]; omega), ?_⟩
  walk_at "w"
  rw [decide_eq_true (show (2 : Int) ≤ (k : Int) by omega), if_pos rfl]
  walk_at "w"
  rw [decide_eq_true (show (k : Int) ≤ 12 by omega)]
  walk_at "w"
  refine v_lcY (e1 := ⟨_, _⟩) (List.range r.toNat) (fun j => .str (figsS (rowF cols j))) (fun j => .bl (figsS (rowF cols j) == "-")) rfl (by rw [hlr]; omega) (fun Q' i j hj q' => ?_) ?_
  · have hjr : j < r.toNat := List.mem_range.mp (List.mem_of_getElem? hj)
    refine ⟨_, rfl, ?_⟩
    walk_at "w"
    refine v_eqS2 (lay_of (figs_sg (row_bd12 g (by omega))).2) (by first | rfl | decide +kernel) ?_
    exact q'
  walk_at "w"
  refine v_allL (bs := (List.range r.toNat).map fun j => figsS (rowF cols j) == "-") (by rw [List.map_map]; rfl) ?_
  by_cases hne : cols = []
  · rw [all_yes (fun j _ => by
      have e : figsS (rowF cols j) = "-" := if_pos (row_nil.mpr hne)
      rw [e]
      exact beq_self_eq_true _)]
    walk_at "w"
    refine v_lenL (xs := (List.range r.toNat).map fun j => .str (figsS (rowF cols j))) rfl (fun _ z => nomatch z) ?_
    rw [List.length_map, hlr, show ((r.toNat : Nat) : Int) = r by omega]
    walk_at "w"
    have mk' := mk []
    rw [hne] at mk'
    exact mk'
  have hrn : ∀ j, rowF cols j ≠ [] := fun j z => hne (row_nil.mp z)
  rw [all_no (fun z => by rw [z] at hlr; simp at hlr; omega) (fun j hj => by
    have hjr := List.mem_range.mp hj
    exact beq_eq_false_iff_ne.mpr (row_ne (hrn j) (row_bd12 g (by omega))).1)]
  have hr0 : (List.range r.toNat)[0]? = some 0 := List.getElem?_range (by omega)
  walk_at "w"
  refine v_ixK (xs := (List.range r.toNat).map fun j => .str (figsS (rowF cols j))) rfl (show atI _ ((0 : Nat) : Int) = _ from atI_map hr0) ?_
  walk_at "w"
  have hfl : ∀ j, (figsS (rowF cols j)).length = cols.length := fun j => by rw [len_figs (hrn j), row_len]
  refine ⟨by rw [hfl]; exact Nat.le_trans h6 (by decide), ?_⟩
  rw [hfl]
  walk_at "w"
  refine ⟨fun i e => ∃ x6 : Option D, e = ⟨[some (.str (txtS k r cols)), some (.lst (.str (numS k ++ ":") :: (List.range r.toNat).map fun j => .str (figsS (rowF cols j)))), some (.lst ((List.range r.toNat).map fun j => .str (figsS (rowF cols j)))), some (.str (numS k)), some (.int (k : Nat)), some (.int cols.length), x6, none, none, none], cs⟩, ⟨_, rfl⟩, ?_, ?_⟩
  · rintro i d e1 hi ⟨x6, rfl⟩
    rw [List.getElem?_map, Option.map_eq_some_iff] at hi
    obtain ⟨j, hi, rfl⟩ := hi
    have hjr : j < r.toNat := List.mem_range.mp (List.mem_of_getElem? hi)
    have hb12 := row_bd12 g (j := j) (by omega)
    have hb := row_bd g (j := j) (by omega)
    refine ⟨trivial, _, rfl, ?_⟩
    walk_at "w"
    refine v_eqS2 (lay_of (figs_sg hb12).2) (by first | rfl | decide +kernel) ?_
    rw [beq_eq_false_iff_ne.mpr (row_ne (hrn j) hb12).2]
    walk_at "w"
    refine ⟨by rw [hfl]; exact Nat.le_trans h6 (by decide), ?_⟩
    rw [hfl]
    walk_at "w"
    rw [decide_eq_true rfl]
    walk_at "w"
    refine ⟨_, rfl, ?_⟩
    refine ⟨figsS (rowF cols j), rfl, ?_⟩
    dsimp only
    rw [chars_figs (hrn j)]
    refine v_lcY (e1 := ⟨_, _⟩) (rowF cols j) (fun f => .str (figC f)) (fun _ => .bl true) rfl (by rw [row_len]; omega) (fun Q' i2 f hf q' => ?_) ?_
    · have hfb := hb f (List.mem_of_getElem? hf)
      obtain ⟨u, rfl⟩ : ∃ u : Nat, f = (u : Int) := ⟨f.toNat, by omega⟩
      refine ⟨_, rfl, ?_⟩
      walk_at "w"
      refine ⟨Nat.le_trans (show ("0123456789ab" : Str).length ≤ 100000 by decide +kernel) (by decide), ?_⟩
      refine v_inS ?_
      rw [fig_cut k k13 k2 u (by omega)]
      exact q'
    walk_at "w"
    refine v_allL (bs := (rowF cols j).map fun _ => true) (by rw [List.map_map]; rfl) ?_
    rw [all_yes (fun _ _ => rfl)]
    walk_at "w"
    exact ⟨_, rfl⟩
  · rintro e1 ⟨x6, rfl⟩
    refine ⟨trivial, ?_⟩
    walk_at "w"
    refine v_lcY (e1 := ⟨_, _⟩) (List.range cols.length) (fun i : Nat => .int (0 + (i : Int))) (fun i => encC (cols.reverse.getD i [])) (by unfold intsD; rw [Int.toNat_natCast]) (by rw [List.length_range]; omega) (fun Q' i1 i hi q' => ?_) ?_
    · have hil : i < cols.length := List.mem_range.mp (List.mem_of_getElem? hi)
      have hx := List.getElem?_eq_getElem (show i < cols.reverse.length by rw [List.length_reverse]; exact hil)
      have hg : cols.reverse.getD i [] = cols.reverse[i]'(by rw [List.length_reverse]; exact hil) := by rw [List.getD_eq_getElem?_getD, hx]; rfl
      rw [hg] at q'
      generalize cols.reverse[i]'(by rw [List.length_reverse]; exact hil) = c at hx q'
      have hcb := cols_back g hx
      refine ⟨_, rfl, ?_⟩
      rw [Int.zero_add]
      walk_at "w"
      refine v_lcY (e1 := ⟨_, _⟩) (List.range r.toNat) (fun j => .str (figsS (rowF cols j))) (fun j => .int ((rowF cols j).getD i 0)) rfl (by rw [hlr]; omega) (fun Q2 i2 j hj q2 => ?_) ?_
      · have hjr : j < r.toNat := List.mem_range.mp (List.mem_of_getElem? hj)
        have hb12 := row_bd12 g (j := j) (by omega)
        have hgi := List.getElem?_eq_getElem (show i < (rowF cols j).length by rw [row_len]; exact hil)
        have hgd : (rowF cols j).getD i 0 = (rowF cols j)[i]'(by rw [row_len]; exact hil) := by rw [List.getD_eq_getElem?_getD, hgi]; rfl
        have hfm := hb12 _ (List.getElem_mem (show i < (rowF cols j).length by rw [row_len]; exact hil))
        rw [hgd] at q2
        generalize (rowF cols j)[i]'(by rw [row_len]; exact hil) = f at hgi hfm q2
        obtain ⟨u, rfl⟩ : ∃ u : Nat, f = (u : Int) := ⟨f.toNat, by omega⟩
        refine ⟨_, rfl, ?_⟩
        walk_at "w"
        refine ⟨_, rfl, ?_⟩
        walk_at "w"
        refine ⟨by rw [hfl]; exact Nat.le_trans h6 (by decide), codeF (u : Int), ?_, ?_⟩
        · unfold figsS
          rw [if_neg (hrn j), show (Txt.join "" ((rowF cols j).map figC)).cps.toList = (rowF cols j).map codeF from tl_figs _]
          exact atI_nat (by rw [List.getElem?_map, hgi]; rfl)
        · refine ⟨figC (u : Int), rfl, ?_⟩
          rw [fig_find u (by omega)]
          exact q2
      walk_at "w"
      refine v_tupL (xs := (List.range r.toNat).map fun j => .int ((rowF cols j).getD i 0)) rfl (fun _ z => nomatch z) ?_
      rw [show ((List.range r.toNat).map fun j => D.int ((rowF cols j).getD i 0)) = c.map .int by rw [← hcb, List.map_map]; rfl]
      exact q'
    have hcols : ((List.range cols.length).map fun i => encC (cols.reverse.getD i [])) = cols.reverse.map encC := by
      apply List.ext_getElem?
      intro i
      rw [List.getElem?_map, List.getElem?_map]
      rcases Nat.lt_or_ge i cols.length with h | h
      · rw [List.getElem?_range h, List.getElem?_eq_getElem (show i < cols.reverse.length by rw [List.length_reverse]; exact h)]
        show some (encC (cols.reverse.getD i [])) = _
        rw [List.getD_eq_getElem?_getD, List.getElem?_eq_getElem (show i < cols.reverse.length by rw [List.length_reverse]; exact h)]
        rfl
      · rw [List.getElem?_eq_none (by rw [List.length_range]; exact h), List.getElem?_eq_none (by rw [List.length_reverse]; exact h)]
        rfl
    rw [hcols]
    walk_at "w"
    refine v_lenL (xs := (List.range r.toNat).map fun j => .str (figsS (rowF cols j))) rfl (fun _ z => nomatch z) ?_
    rw [List.length_map, hlr, show ((r.toNat : Nat) : Int) = r by omega]
    walk_at "w"
    rw [← List.map_reverse, List.reverse_reverse]
    walk_at "w"
    exact mk []
theorem dash_no : ∀ k : Nat, k < 13 → 2 ≤ k → DL.inS ⟨#[45]⟩ (cutS figT none (some (k : Int))) = false := by decide +kernel
theorem w_no {cs : List Cel} {Q : D → List Cel → Prop} {QX : XN → List Cel → Prop} {s : Str} (T : Tx 700 150 s) (hno : ∀ b r cols, ¬ IsT s b r cols) (q : QX ⟨"InvalidText", none⟩ cs) :
    t_read_sheet K (FinX cs QX) (Po.fn cs Q) ⟨startD N_read_sheet [.str s], cs⟩ := by
  have hTn := T.n
  have hwn := split_ne (x := s) tl_sp (by decide +kernel)
  have hwl := split_len (x := s) tl_sp (by decide +kernel)
  have hww : ∀ w ∈ Txt.split s " ", (∀ c ∈ tl w, c < 128) ∧ w.length ≤ 150 := fun w hw => tx_word T hw
  obtain ⟨w0, R, hs⟩ : ∃ w0 R, Txt.split s " " = w0 :: R := by
    cases h : Txt.split s " " with
    | nil => exact absurd h hwn
    | cons w0 wr => exact ⟨w0, wr, rfl⟩
  have hOK : ¬ OKt w0 R := fun h => by
    obtain ⟨b, r, cols, e⟩ := (ist_iff T.a hs).mp h
    exact hno b r cols e
  rw [st_rds]
  unfold t_read_sheet
  walk_at "w"
  refine ⟨_, rfl, ?_⟩
  refine ⟨s, rfl, ?_⟩
  refine ⟨" ", rfl, by decide +kernel, by omega, ?_⟩
  rw [hs] at hwl hww ⊢
  have hw0 := hww w0 List.mem_cons_self
  have hR : ∀ w ∈ R, (∀ c ∈ tl w, c < 128) ∧ w.length ≤ 150 := fun w hw => hww w (List.mem_cons_of_mem _ hw)
  rw [List.length_cons] at hwl
  have hasc : ∀ lo hi, ∀ c ∈ tl (cutS w0 lo hi), c < 128 := fun lo hi c hc => by
    obtain ⟨a, b, e⟩ := tl_cut w0 lo hi
    exact hw0.1 c (by rw [e]; exact List.mem_append_right _ (List.mem_append_left _ hc))
  have hcl : ∀ lo hi, (cutS w0 lo hi).length ≤ 150 := fun lo hi => Nat.le_trans (cutS_length _ _ _) hw0.2
  have hboth := cut_both w0
  rw [List.map_cons]
  walk_at "w"
  refine v_slL (xs := .str w0 :: R.map .str) rfl (fun _ z => nomatch z) (fun _ z => nomatch z) ?_
  rw [cut_tl]
  walk_at "w"
  refine v_ixLX ⟨_, atI_zero, ?_⟩
  walk_at "w"
  refine ⟨Nat.le_trans hw0.2 (by decide), ?_⟩
  walk_at "w"
  refine v_ixLX ⟨_, atI_zero, ?_⟩
  walk_at "w"
  refine ⟨Nat.le_trans hw0.2 (by decide), ?_⟩
  have hd1 := hasc none (some (-1))
  have hd2 := hcl none (some (-1))
  generalize cutS w0 none (some (-1)) = dg at hboth hd1 hd2 ⊢
  have hc1 := hasc (some (-1)) none
  generalize cutS w0 (some (-1)) none = cl at hboth hc1 ⊢
  walk_at "w"
  refine v_neS2 (lay_of hc1) (by first | rfl | decide +kernel) ?_
  by_cases h1 : cl = ":"
  case neg =>
    rw [beq_eq_false_iff_ne.mpr h1, Bool.not_false]
    walk_at "w"
    exact .inl q
  rw [beq_iff_eq.mpr h1, Bool.not_true]
  walk_at "w"
  refine ⟨dg, rfl, hd1, by omega, ?_⟩
  cases hn : isN dg with
  | false =>
    walk_at "w"
    exact .inl q
  | true =>
    obtain ⟨n, rfl⟩ := isN_tt hn
    walk_at "w"
    refine ⟨Nat.le_trans hd2 (by decide), ?_⟩
    walk_at "w"
    by_cases h2 : (2 : Int) < ((numS (n : Nat)).length : Nat)
    case pos =>
      rw [decide_eq_true h2]
      walk_at "w"
      exact .inl q
    rw [decide_eq_false h2]
    walk_at "w"
    refine v_lenL (xs := R.map .str) rfl (fun _ z => nomatch z) ?_
    rw [List.length_map]
    walk_at "w"
    by_cases h3 : (1 : Int) ≤ (R.length : Nat)
    case neg =>
      rw [decide_eq_false h3, if_neg (by decide)]
      walk_at "w"
      exact .inl q
    rw [decide_eq_true h3, if_pos rfl]
    walk_at "w"
    by_cases h4 : ((R.length : Nat) : Int) ≤ 4
    case neg =>
      rw [decide_eq_false h4]
      walk_at "w"
      exact .inl q
    rw [decide_eq_true h4]
    walk_at "w"
    refine ⟨Nat.le_trans hd2 (by decide), _, int_num (n := n) (by rw [← tl_numS, ← len_tl]; omega), ?_⟩
    walk_at "w"
    by_cases h5 : (2 : Int) ≤ (n : Nat)
    case neg =>
      rw [decide_eq_false h5, if_neg (by decide)]
      walk_at "w"
      exact .inl q
    rw [decide_eq_true h5, if_pos rfl]
    walk_at "w"
    by_cases h6 : ((n : Nat) : Int) ≤ 12
    case neg =>
      rw [decide_eq_false h6]
      walk_at "w"
      exact .inl q
    rw [decide_eq_true h6]
    have ew0 : w0 = numS (n : Nat) ++ ":" := by rw [hboth, h1]
    have k13 : n < 13 := by omega
    have k2 : 2 ≤ n := by omega
    walk_at "w"
    refine v_lcY (e1 := ⟨_, _⟩) R .str (fun w => .bl (w == "-")) rfl (by omega) (fun Q' i w hw q' => ?_) ?_
    · have hwm := hR w (List.mem_of_getElem? hw)
      refine ⟨_, rfl, ?_⟩
      walk_at "w"
      refine v_eqS2 (lay_of hwm.1) (by first | rfl | decide +kernel) ?_
      exact q'
    walk_at "w"
    refine v_allL (bs := R.map fun w : Str => w == "-") (by rw [List.map_map]; rfl) ?_
    cases eall : (R.map fun w : Str => w == "-").all fun b => b with
    | true =>
      rw [List.all_map, List.all_eq_true] at eall
      exact absurd ⟨n, k2, k13, ew0, by omega, by omega, .inl fun w hw => beq_iff_eq.mp (eall w hw)⟩ hOK
    | false =>
      obtain ⟨w1, R1, rfl⟩ : ∃ w1 R1, R = w1 :: R1 := by
        cases R with
        | nil => simp at h3
        | cons w1 R1 => exact ⟨w1, R1, rfl⟩
      have hw1 := hR w1 List.mem_cons_self
      walk_at "w"
      refine v_ixLX ⟨_, (show atI ((w1 :: R1).map D.str) 0 = _ from atI_zero), ?_⟩
      walk_at "w"
      refine ⟨Nat.le_trans hw1.2 (by decide), ?_⟩
      walk_at "w"
      refine ⟨fun i e => ∃ x6 : Option D, (∀ w ∈ (w1 :: R1).take i, w.length = w1.length ∧ w ≠ "" ∧ ∀ c ∈ tl w, DL.inS ⟨#[c]⟩ (cutS figT none (some (n : Int))) = true) ∧ e = ⟨[some (.str s), some (.lst (.str w0 :: (w1 :: R1).map .str)), some (.lst ((w1 :: R1).map .str)), some (.str (numS (n : Nat))), some (.int (n : Nat)), some (.int w1.length), x6, none, none, none], cs⟩, ⟨_, (fun _ h => nomatch h), rfl⟩, ?_, ?_⟩
      · rintro i d e1 hi ⟨x6, hin, rfl⟩
        rw [List.getElem?_map, Option.map_eq_some_iff] at hi
        obtain ⟨w, hi, rfl⟩ := hi
        have hwm := hR w (List.mem_of_getElem? hi)
        refine ⟨trivial, _, rfl, ?_⟩
        walk_at "w"
        refine v_eqS2 (lay_of hwm.1) (by first | rfl | decide +kernel) ?_
        by_cases e1 : w = ""
        · rw [beq_iff_eq.mpr e1]
          walk_at "w"
          exact .inl q
        rw [beq_eq_false_iff_ne.mpr e1]
        walk_at "w"
        refine ⟨Nat.le_trans hwm.2 (by decide), ?_⟩
        walk_at "w"
        by_cases e2 : ((w.length : Nat) : Int) = ((w1.length : Nat) : Int)
        case neg =>
          rw [decide_eq_false e2]
          walk_at "w"
          exact .inl q
        rw [decide_eq_true e2]
        walk_at "w"
        refine ⟨_, rfl, ?_⟩
        refine ⟨w, rfl, ?_⟩
        dsimp only
        rw [chars_tl]
        refine v_lcY (e1 := ⟨_, _⟩) (tl w) (fun c => .str ⟨#[c]⟩) (fun c => .bl (DL.inS ⟨#[c]⟩ (cutS figT none (some (n : Int))))) rfl (by rw [← len_tl]; omega) (fun Q' i2 c hcc q' => ?_) ?_
        · refine ⟨_, rfl, ?_⟩
          walk_at "w"
          refine ⟨Nat.le_trans (show ("0123456789ab" : Str).length ≤ 100000 by decide +kernel) (by decide), ?_⟩
          refine v_inS ?_
          exact q'
        walk_at "w"
        refine v_allL (bs := (tl w).map fun c => DL.inS ⟨#[c]⟩ (cutS figT none (some (n : Int)))) (by rw [List.map_map]; rfl) ?_
        cases ec : ((tl w).map fun c => DL.inS ⟨#[c]⟩ (cutS figT none (some (n : Int)))).all fun b => b with
        | false =>
          walk_at "w"
          exact .inl q
        | true =>
          rw [List.all_map, List.all_eq_true] at ec
          walk_at "w"
          refine ⟨_, fun w' hw' => ?_, rfl⟩
          rw [List.take_add_one, hi] at hw'
          rcases List.mem_append.mp hw' with hw' | hw'
          · exact hin w' hw'
          · rw [show w' = w from List.mem_singleton.mp hw']
            exact ⟨by omega, e1, ec⟩
      · rintro e1 ⟨x6, hin, rfl⟩
        rw [List.length_map, List.take_length] at hin
        refine absurd ⟨n, k2, k13, ew0, by omega, by omega, .inr ⟨w1.length, ?_, hw1.2, fun w hw => ⟨(hin w hw).1, fun z => ?_, (hin w hw).2.2⟩⟩⟩ hOK
        · have h7 := (hin w1 List.mem_cons_self).2.1
          rcases Nat.eq_zero_or_pos w1.length with h8 | h8
          · exact absurd (ext_tl (List.length_eq_zero_iff.mp (by rw [← len_tl]; exact h8))) h7
          · exact h8
        · have := (hin w hw).2.2 45 (by rw [z]; decide +kernel)
          rw [dash_no n k13 k2] at this
          cases this
theorem vc_read_sheet : ∀ ds cs Q QX, Lo ds cs → LoC cs → sp_read_sheet K ds cs Q QX → t_read_sheet K (FinX cs QX) (Po.fn cs Q) ⟨startD N_read_sheet ds, cs⟩ := by
  rintro ds cs Q QX hd hc ⟨v, rfl, q⟩
  rcases q with ⟨⟨T, hT, hne⟩, q⟩ | ⟨s, rfl, T, q1, q2⟩
  · rw [st_rds]
    unfold t_read_sheet
    walk_at "w"
    refine v_isi (by decide) (hT _) ?_
    rw [isty_no hne]
    walk_at "w"
    exact .inl q
  by_cases h : ∃ b r cols, IsT s b r cols
  · obtain ⟨b, r, cols, g, h6, rfl⟩ := h
    exact w_yes g h6 (.inl (q1 b r cols ⟨g, h6, rfl⟩))
  · have hno : ∀ b r cols, ¬ IsT s b r cols := fun b r cols e => h ⟨b, r, cols, e⟩
    exact w_no T hno (q2 hno)
end
section
variable {K : PySem.W.Frag}
open TL
theorem st_lr {a : D} : startD N_law_read [a] = [some a, none, none, none] := rfl
theorem len_law_read : ∀ ds cs Q, sp_law_read K ds cs Q → ds.length = 1 := by rintro ds cs Q ⟨_, rfl, _⟩; rfl
theorem vc_law_read : ∀ ds cs Q, Lo ds cs → LoC cs → sp_law_read K ds cs Q → t_law_read K (Po.fn cs Q) ⟨startD N_law_read ds, cs⟩ := by
  rintro ds cs Q hd hc ⟨v, rfl, q⟩
  rw [st_lr]
  unfold t_law_read
  walk_at "w"
  refine v_tryAs (fun y cs' => y = ⟨"InvalidText", none⟩ ∧ cs' = cs ∧ Q (.lst [.bl true, .bl true, .bl false]) cs) ?_ ?_
  · walk_at "w"
    rcases q with ⟨hv, q⟩ | ⟨s, rfl, T, q1, q2⟩
    · exact ⟨v, rfl, .inl ⟨hv, rfl, rfl, q⟩⟩
    · refine ⟨_, rfl, .inr ⟨s, rfl, T, fun b r cols h => ?_, fun h => ⟨rfl, rfl, q2 h⟩⟩⟩
      walk_at "w"
      exact .inl (q1 b r cols h)
  · rintro y cs' ⟨rfl, rfl, q⟩
    refine ⟨true, List.mem_cons_self, fun _ a => ?_, fun z => nomatch z⟩
    rw [show (List.replicate (List.length N_law_read) (none : Option D)).set 2 (some (.raw (.ref a))) = [none, none, some (.raw (.ref a)), none] from rfl]
    walk_at "w"
    exact .inl q
def hdsL : List Str := ["2:", "3:", "4:", "5:", "6:", "7:", "8:", "9:", "10:", "11:", "12:"]
theorem hds_get : ∀ j : Nat, j < 11 → hdsL[j]? = some (numS ((j + 2 : Nat) : Int) ++ ":") := by decide +kernel
theorem hds_in : ∀ k : Nat, k < 13 → 2 ≤ k → numS (k : Nat) ++ ":" ∈ hdsL := by decide +kernel
theorem hds_of {w : Str} (h : w ∈ hdsL) : ∃ j : Nat, j < 11 ∧ w = numS ((j + 2 : Nat) : Int) ++ ":" := by
  obtain ⟨j, hj, e⟩ := List.mem_iff_getElem.mp h
  have hj11 : j < 11 := hj
  have := hds_get j hj11
  rw [List.getElem?_eq_getElem hj, e] at this
  exact ⟨j, hj11, Option.some.inj this⟩
theorem hds_shp : shp (.lst (hdsL.map .str)) = true := (Sh.lst (n := 0) (Shs.all fun d hd => by
  obtain ⟨w, hw, rfl⟩ := List.mem_map.mp hd
  exact Sh.str (lay_of (by
    have := (show ∀ w ∈ hdsL, ∀ c ∈ tl w, c < 128 by decide +kernel)
    exact this w hw)))).shp
theorem st_lit {a : D} : startD N_law_is_text [a] = [some a, none, none, none, none, none, none] := rfl
theorem len_law_is_text : ∀ ds cs Q, sp_law_is_text K ds cs Q → ds.length = 1 := by rintro ds cs Q ⟨_, rfl, _⟩; rfl
theorem vc_law_is_text : ∀ ds cs Q, Lo ds cs → LoC cs → sp_law_is_text K ds cs Q → t_law_is_text K (Po.fn cs Q) ⟨startD N_law_is_text ds, cs⟩ := by
  rintro ds cs Q hd hc ⟨v, rfl, q⟩
  rw [st_lit]
  unfold t_law_is_text
  rcases q with ⟨⟨T, hT, hne⟩, q⟩ | ⟨s, rfl, T, q1, q2⟩
  · walk_at "w"
    refine v_isi (by decide) (hT _) ?_
    rw [isty_no hne]
    walk_at "w"
    exact .inl q
  have hTn := T.n
  have hwn := split_ne (x := s) tl_sp (by decide +kernel)
  have hwl := split_len (x := s) tl_sp (by decide +kernel)
  have hww : ∀ w ∈ Txt.split s " ", (∀ c ∈ tl w, c < 128) ∧ w.length ≤ 150 := fun w hw => tx_word T hw
  obtain ⟨w0, R, hs⟩ : ∃ w0 R, Txt.split s " " = w0 :: R := by
    cases h : Txt.split s " " with
    | nil => exact absurd h hwn
    | cons w0 wr => exact ⟨w0, wr, rfl⟩
  have qT : OKt w0 R → Q (.bl true) cs := fun h => by
    obtain ⟨b, r, cols, e⟩ := (ist_iff T.a hs).mp h
    exact q1 b r cols e
  have qF : ¬ OKt w0 R → Q (.bl false) cs := fun h => q2 fun b r cols e => h ((ist_iff T.a hs).mpr ⟨b, r, cols, e⟩)
  walk_at "w"
  refine ⟨_, rfl, ?_⟩
  refine ⟨s, rfl, ?_⟩
  refine ⟨" ", rfl, by decide +kernel, by omega, ?_⟩
  rw [hs] at hwl hww ⊢
  have hw0 := hww w0 List.mem_cons_self
  have hR : ∀ w ∈ R, (∀ c ∈ tl w, c < 128) ∧ w.length ≤ 150 := fun w hw => hww w (List.mem_cons_of_mem _ hw)
  rw [List.length_cons] at hwl
  rw [List.map_cons]
  walk_at "w"
  rw [show [D.str "2:", D.str "3:", D.str "4:", D.str "5:", D.str "6:", D.str "7:", D.str "8:", D.str "9:", D.str "10:", D.str "11:", D.str "12:"] = hdsL.map .str from rfl]
  refine v_slL (xs := .str w0 :: R.map .str) rfl (fun _ z => nomatch z) (fun _ z => nomatch z) ?_
  rw [cut_tl]
  walk_at "w"
  refine v_ixLX ⟨_, atI_zero, ?_⟩
  walk_at "w"
  refine v_ninS ?_
  by_cases h0 : w0 ∈ hdsL
  case neg =>
    rw [decide_eq_false h0, Bool.not_false]
    walk_at "w"
    refine .inl (qF fun h => ?_)
    obtain ⟨k, k2, k13, e, _⟩ := h
    exact h0 (by rw [e]; exact hds_in k k13 k2)
  rw [decide_eq_true h0, Bool.not_true]
  obtain ⟨j, hj, ew0⟩ := hds_of h0
  walk_at "w"
  refine v_lenL (xs := R.map .str) rfl (fun _ z => nomatch z) ?_
  rw [List.length_map]
  walk_at "w"
  by_cases h3 : (1 : Int) ≤ (R.length : Nat)
  case neg =>
    rw [decide_eq_false h3, if_neg (by decide)]
    walk_at "w"
    refine .inl (qF fun h => ?_)
    obtain ⟨_, _, _, _, h7, _⟩ := h
    omega
  rw [decide_eq_true h3, if_pos rfl]
  walk_at "w"
  by_cases h4 : ((R.length : Nat) : Int) ≤ 4
  case neg =>
    rw [decide_eq_false h4]
    walk_at "w"
    refine .inl (qF fun h => ?_)
    obtain ⟨_, _, _, _, _, h7, _⟩ := h
    omega
  rw [decide_eq_true h4]
  walk_at "w"
  refine ⟨⟨_, rfl⟩, ?_⟩
  walk_at "w"
  refine v_ixLX ⟨_, atI_zero, ?_⟩
  walk_at "w"
  have hj13 : j + 2 < 13 := by omega
  have hfst : FstAt (hdsL.map .str) (.str w0) j := by
    refine ⟨⟨.str w0, by rw [List.getElem?_map, hds_get j hj, ew0]; rfl, ?_⟩, fun m z hm hz => ?_⟩
    · show (w0 == w0) = true
      exact beq_self_eq_true _
    · rw [List.getElem?_map, hds_get m (by omega)] at hz
      cases hz
      show ((numS ((m + 2 : Nat) : Int) ++ ":") == w0) = false
      refine beq_eq_false_iff_ne.mpr fun z => ?_
      rw [ew0] at z
      have := hd_inj (m + 2) (by omega) (j + 2) hj13 z
      omega
  refine ⟨hdsL.map .str, .str w0, j, rfl, rfl, hds_shp, shp_str (lay_of hw0.1), hfst, ?_⟩
  walk_at "w"
  refine v_slS (show ("0123456789ab" : Str).length ≤ 100000 by decide +kernel) ?_
  rw [show (2 : Int) + ((j : Nat) : Int) = ((j + 2 : Nat) : Int) by omega]
  have hk2 : 2 ≤ j + 2 := by omega
  generalize j + 2 = k at ew0 hj13 hk2 ⊢
  have huq : ∀ m : Nat, m < 13 → w0 = numS (m : Nat) ++ ":" → m = k := fun m hm e => hd_inj m hm k hj13 (by rw [← e, ew0])
  walk_at "w"
  refine v_lcY (e1 := ⟨_, _⟩) R .str (fun w => .bl (w == "-")) rfl (by omega) (fun Q' i w hw q' => ?_) ?_
  · have hwm := hR w (List.mem_of_getElem? hw)
    refine ⟨_, rfl, ?_⟩
    walk_at "w"
    refine v_eqS2 (lay_of hwm.1) (by first | rfl | decide +kernel) ?_
    exact q'
  walk_at "w"
  refine v_allL (bs := R.map fun w : Str => w == "-") (by rw [List.map_map]; rfl) ?_
  cases eall : (R.map fun w : Str => w == "-").all fun b => b with
  | true =>
    walk_at "w"
    rw [List.all_map, List.all_eq_true] at eall
    exact .inl (qT ⟨k, hk2, hj13, ew0, by omega, by omega, .inl fun w hw => beq_iff_eq.mp (eall w hw)⟩)
  | false =>
    have hnd : ¬ ∀ w ∈ R, w = "-" := fun h => by
      have : ((R.map fun w : Str => w == "-").all fun b => b) = true := by
        rw [List.all_map, List.all_eq_true]
        exact fun w hw => beq_iff_eq.mpr (h w hw)
      rw [this] at eall
      cases eall
    have hOK : OKt w0 R → ∃ z : Nat, 1 ≤ z ∧ ∀ w ∈ R, w.length = z ∧ ∀ c ∈ tl w, DL.inS ⟨#[c]⟩ (cutS figT none (some (k : Int))) = true := fun h => by
      obtain ⟨m, _, m13, e, _, _, h⟩ := h
      obtain rfl := huq m m13 e
      rcases h with h | ⟨z, z1, _, h⟩
      · exact absurd h hnd
      · exact ⟨z, z1, fun w hw => ⟨(h w hw).1, (h w hw).2.2⟩⟩
    obtain ⟨w1, R1, rfl⟩ : ∃ w1 R1, R = w1 :: R1 := by
      cases R with
      | nil => simp at h3
      | cons w1 R1 => exact ⟨w1, R1, rfl⟩
    have hw1 := hR w1 List.mem_cons_self
    walk_at "w"
    refine ⟨fun i e => ∃ x5 : Option D, (∀ w ∈ (w1 :: R1).take i, w.length = w1.length ∧ w ≠ "" ∧ ∀ c ∈ tl w, DL.inS ⟨#[c]⟩ (cutS figT none (some (k : Int))) = true) ∧ e = ⟨[some (.str s), some (.lst (.str w0 :: (w1 :: R1).map .str)), some (.lst (hdsL.map .str)), some (.lst ((w1 :: R1).map .str)), some (.str (cutS figT none (some (k : Int)))), x5, none], cs⟩, ⟨_, (fun _ h => nomatch h), rfl⟩, ?_, ?_⟩
    · rintro i d e1 hi ⟨x6, hin, rfl⟩
      rw [List.getElem?_map, Option.map_eq_some_iff] at hi
      obtain ⟨w, hi, rfl⟩ := hi
      have hwr := List.mem_of_getElem? hi
      have hwm := hR w hwr
      refine ⟨trivial, _, rfl, ?_⟩
      walk_at "w"
      refine v_eqS2 (lay_of hwm.1) (by first | rfl | decide +kernel) ?_
      by_cases e1 : w = ""
      · rw [beq_iff_eq.mpr e1]
        walk_at "w"
        refine .inl (qF fun h => ?_)
        obtain ⟨z, z1, h⟩ := hOK h
        have := (h w hwr).1
        rw [e1] at this
        have h0 : ("" : Str).length = 0 := by decide +kernel
        omega
      rw [beq_eq_false_iff_ne.mpr e1]
      walk_at "w"
      refine ⟨Nat.le_trans hwm.2 (by decide), ?_⟩
      walk_at "w"
      refine v_ixLX ⟨_, (show atI ((w1 :: R1).map D.str) 0 = _ from atI_zero), ?_⟩
      walk_at "w"
      refine ⟨Nat.le_trans hw1.2 (by decide), ?_⟩
      walk_at "w"
      by_cases e2 : ((w.length : Nat) : Int) = ((w1.length : Nat) : Int)
      case neg =>
        rw [decide_eq_false e2]
        walk_at "w"
        refine .inl (qF fun h => ?_)
        obtain ⟨z, z1, h⟩ := hOK h
        have h8 := (h w hwr).1
        have h9 := (h w1 List.mem_cons_self).1
        omega
      rw [decide_eq_true e2]
      walk_at "w"
      refine ⟨_, rfl, ?_⟩
      refine ⟨w, rfl, ?_⟩
      dsimp only
      rw [chars_tl]
      refine v_lcY (e1 := ⟨_, _⟩) (tl w) (fun c => .str ⟨#[c]⟩) (fun c => .bl (DL.inS ⟨#[c]⟩ (cutS figT none (some (k : Int))))) rfl (by rw [← len_tl]; omega) (fun Q' i2 c hcc q' => ?_) ?_
      · refine ⟨_, rfl, ?_⟩
        walk_at "w"
        refine v_inS ?_
        exact q'
      walk_at "w"
      refine v_allL (bs := (tl w).map fun c => DL.inS ⟨#[c]⟩ (cutS figT none (some (k : Int)))) (by rw [List.map_map]; rfl) ?_
      cases ec : ((tl w).map fun c => DL.inS ⟨#[c]⟩ (cutS figT none (some (k : Int)))).all fun b => b with
      | false =>
        walk_at "w"
        refine .inl (qF fun h => ?_)
        obtain ⟨z, z1, h⟩ := hOK h
        have : (((tl w).map fun c => DL.inS ⟨#[c]⟩ (cutS figT none (some (k : Int)))).all fun b => b) = true := by
          rw [List.all_map, List.all_eq_true]
          exact fun c hc => (h w hwr).2 c hc
        rw [this] at ec
        cases ec
      | true =>
        rw [List.all_map, List.all_eq_true] at ec
        walk_at "w"
        refine ⟨_, fun w' hw' => ?_, rfl⟩
        rw [List.take_add_one, hi] at hw'
        rcases List.mem_append.mp hw' with hw' | hw'
        · exact hin w' hw'
        · rw [show w' = w from List.mem_singleton.mp hw']
          exact ⟨by omega, e1, ec⟩
    · rintro e1 ⟨x6, hin, rfl⟩
      refine ⟨trivial, ?_⟩
      rw [List.length_map, List.take_length] at hin
      walk_at "w"
      refine .inl (qT ⟨k, hk2, hj13, ew0, by omega, by omega, .inr ⟨w1.length, ?_, hw1.2, fun w hw => ⟨(hin w hw).1, fun z => ?_, (hin w hw).2.2⟩⟩⟩)
      · have h7 := (hin w1 List.mem_cons_self).2.1
        rcases Nat.eq_zero_or_pos w1.length with h8 | h8
        · exact absurd (ext_tl (List.length_eq_zero_iff.mp (by rw [← len_tl]; exact h8))) h7
        · exact h8
      · have := (hin w hw).2.2 45 (by rw [z]; decide +kernel)
        rw [dash_no k hj13 hk2] at this
        cases this
theorem st_lri {a : D} : startD N_law_right [a] = [some a, none] := rfl
theorem len_law_right : ∀ ds cs Q, sp_law_right K ds cs Q → ds.length = 1 := by rintro ds cs Q ⟨_, rfl, _⟩; rfl
theorem vc_law_right : ∀ ds cs Q, Lo ds cs → LoC cs → sp_law_right K ds cs Q → t_law_right K (Po.fn cs Q) ⟨startD N_law_right ds, cs⟩ := by
  rintro ds cs Q hd hc ⟨v, rfl, hv, q⟩
  rw [st_lri]
  unfold t_law_right
  walk_at "w"
  rcases hv with ⟨s, rfl, T⟩ | hv
  · refine ⟨_, rfl, .inr ⟨s, rfl, T, fun b r cols h => ?_, fun hn => ?_⟩⟩
    · rw [show shD K b r cols = .ins (He.ga K "Sheet") shN [.int b, .int r, .lst (cols.map encC), .int cols.length] from rfl]
      walk_at "w"
      refine ⟨_, rfl, .inr ⟨s, rfl, T, fun _ _ _ _ => ?_, fun hn => absurd h (hn b r cols)⟩⟩
      walk_at "w"
      refine v_isiOF ⟨_, _, rfl⟩ ?_
      walk_at "w"
      refine ⟨_, b, r, cols, rfl, isSh_d, h.1, h.2.1, ?_⟩
      rw [← h.2.2]
      walk_at "w"
      refine v_eqS2 (lay_of T.a) (lay_of T.a) ?_
      rw [beq_self_eq_true]
      walk_at "w"
      exact .inl q
    · walk_at "w"
      refine ⟨_, rfl, .inr ⟨s, rfl, T, fun b r cols h => absurd h (hn b r cols), fun _ => ?_⟩⟩
      walk_at "w"
      refine v_isiOT (a := "list") (by decide) rfl ?_
      rw [show isTy "list" "list" = true by decide]
      walk_at "w"
      exact .inl q
  · refine ⟨_, rfl, .inl ⟨hv, ?_⟩⟩
    walk_at "w"
    refine ⟨_, rfl, .inl ⟨hv, ?_⟩⟩
    walk_at "w"
    refine v_isiOT (a := "list") (by decide) rfl ?_
    rw [show isTy "list" "list" = true by decide]
    walk_at "w"
    exact .inl q
end
section
variable {K : PySem.W.Frag}
open TL
theorem tx_txt {b r : Int} {cols : List (List Int)} (g : Gd b r cols) (h : (cols.length : Int) ≤ 26) : Tx 140 26 (txtS b r cols) := by
  have h6 : cols.length ≤ 150 := by omega
  have hw : ∀ p ∈ txtW b r cols, p.length ≤ 26 := fun p hp => by
    have hp0 := hp
    obtain ⟨k, rfl, k2, k13⟩ := num_lt g
    unfold txtW at hp
    rcases List.mem_cons.mp hp with rfl | hp
    · exact Nat.le_trans (hd_len k13) (by decide)
    · obtain ⟨j, hj, rfl⟩ := List.mem_map.mp hp
      by_cases hne : rowF cols j = []
      · have e : figsS (rowF cols j) = "-" := if_pos hne
        rw [e]
        decide +kernel
      · rw [len_figs hne, row_len]
        omega
  have h1 := join_len (y := " ") (M := 26) (ps := txtW b r cols) hw
  have h2 := txtW_len g
  have h3 : (" " : Str).length = 1 := by decide +kernel
  rw [h3] at h1
  have h4 : (txtW b r cols).length * (26 + 1) ≤ 5 * 27 := Nat.mul_le_mul_right _ h2
  refine ⟨?_, txt_sg g h6, ?_⟩
  · show (Txt.join " " (txtW b r cols)).length ≤ 140
    omega
  · unfold txtS
    rw [tl_joinT, tl_sp]
    refine wb_words _ fun w hw' => ?_
    obtain ⟨z, hz, rfl⟩ := List.mem_map.mp hw'
    rw [← len_tl]
    exact hw z hz
theorem st_ltx {a : D} : startD N_law_text [a] = [some a, none, none, none, none, none, none, none] := rfl
theorem len_law_text : ∀ ds cs Q, sp_law_text K ds cs Q → ds.length = 1 := by rintro ds cs Q ⟨_, _, _, _, rfl, _⟩; rfl
theorem vc_law_text : ∀ ds cs Q, Lo ds cs → LoC cs → sp_law_text K ds cs Q → t_law_text K (Po.fn cs Q) ⟨startD N_law_text ds, cs⟩ := by
  rintro ds cs Q hd hc ⟨n, a, x, c, rfl, hn, q⟩
  rw [st_ltx]
  unfold t_law_text
  walk_at "w"
  refine ⟨n, 11, a, x, c, rfl, hn, by decide, by decide, fun b0 a1 x1 b00 b01 => ?_⟩
  walk_at "w"
  refine ⟨n, 4, a1, x1, c, rfl, set_get hn, by decide, by decide, fun r0 a2 x2 r00 r01 => ?_⟩
  rw [List.set_set]
  obtain ⟨b, hb⟩ : ∃ b : Int, b = 2 + b0 := ⟨_, rfl⟩
  obtain ⟨r, hr⟩ : ∃ r : Int, r = 1 + r0 := ⟨_, rfl⟩
  walk_at "w"
  rw [← hb, ← hr]
  refine ⟨n, b, r, 20, a2, x2, c, rfl, set_get hn, by omega, by omega, by omega, by omega, by decide, by decide, fun cols0 a4 b4 g0 hz0 => .inl ?_⟩
  rw [List.set_set]
  obtain ⟨cols, rfl⟩ : ∃ c, cols0 = List.reverse c := ⟨cols0.reverse, by simp⟩
  have hz : (cols.length : Int) ≤ 26 := by rw [List.length_reverse] at hz0; omega
  have g : Gd b r cols := ⟨g0.b2, g0.b12, g0.r1, g0.r4, fun c hc => g0.c c (List.mem_reverse.mpr hc), by omega⟩
  have h6' : cols.length ≤ 150 := by omega
  have h6 := h6'
  have fin : ∀ (cs0 : List Cel), True := fun _ => trivial
  have qq : Q (.str (txtS b r cols)) (cs.set n (deckC a4 b4 c)) := q _ a4 b4 (tx_txt g hz)
  generalize hcA : cs.set n (deckC a4 b4 c) = csA at qq ⊢
  have b2 := g.b2
  have b12 := g.b12
  have r1 := g.r1
  have r4 := g.r4
  have hsp : (" " : Str).length = 1 := by decide +kernel
  have hcl : (":" : Str).length = 1 := by decide +kernel
  have hnb : (numS b).length ≤ 2 := by
    obtain ⟨k, rfl, _, k13⟩ := num_lt g
    exact num_len2 k k13
  walk_at "w"
  refine v_strZ (by omega) (by omega) ?_
  walk_at "w"
  refine v_addSS (by omega) ?_
  walk_at "w"
  have j0 : numS b ++ ":" = Txt.join " " ((txtW b r cols).take 1) := rfl
  rw [j0]
  refine ⟨fun k e => ∃ x4 x5 x6 : Option D, e = ⟨[some (.cell n), some (.int b), some (.int r), some (.lst (cols.reverse.map encC)), some (.str (Txt.join " " ((txtW b r cols).take (k + 1)))), x4, x5, x6], csA⟩, ⟨none, none, none, rfl⟩, ?_, ?_⟩
  · rintro k d e1 hk ⟨x4, x5, x6, rfl⟩
    obtain ⟨hk1, rfl⟩ := intsD_get hk
    have hkr : (k : Int) < r := by omega
    refine ⟨trivial, _, rfl, ?_⟩
    rw [Int.zero_add]
    have hrl : (figsS (rowF cols k)).length ≤ 150 := figs_len (by rw [row_len]; exact h6)
    have htl := take_len g h6 (k + 1)
    have rest : ∀ x6' : Option D, (sAsg (eBin (qAdd false) (eBin (qAdd false) (eV 4) (eC (.str " "))) (eV 6)) 4) (((Po.fn cs Q).thn (sRet (eV 4))).lp fun e => ∃ x4 x5 x6 : Option D, e = ⟨[some (.cell n), some (.int b), some (.int r), some (.lst (cols.reverse.map encC)), some (.str (Txt.join " " ((txtW b r cols).take (k + 1 + 1)))), x4, x5, x6], csA⟩) ⟨[some (.cell n), some (.int b), some (.int r), some (.lst (cols.reverse.map encC)), some (.str (Txt.join " " ((txtW b r cols).take (k + 1)))), some (.int (k : Nat)), some (.str (figsS (rowF cols k))), x6'], csA⟩ := by
      intro x6'
      walk_at "w"
      refine v_addSS (by omega) ?_
      walk_at "w"
      refine v_addSS (by rw [len_app]; omega) ?_
      rw [← join_snoc (by unfold txtW; simp), take_w (by omega)]
      walk_at "w"
      exact ⟨_, _, _, rfl⟩
    generalize (sAsg (eBin (qAdd false) (eBin (qAdd false) (eV 4) (eC (.str " "))) (eV 6)) 4) = T at rest ⊢
    walk_at "w"
    refine ⟨"", rfl, ?_⟩
    walk_at "w"
    refine v_lcY (e1 := ⟨_, _⟩) cols.reverse encC (fun c => .str (figC (c.getD k 0))) rfl (by rw [List.length_reverse]; omega) (fun Q' i c hcc q' => ?_) ?_
    · have hm := okC_iff.mp (g.c c (List.mem_reverse.mp (List.mem_of_getElem? hcc)))
      have hl : k < c.length := by omega
      have hb := hm.2 (c.getD k 0) (by rw [List.getD_eq_getElem?_getD, List.getElem?_eq_getElem hl]; exact List.getElem_mem hl)
      refine ⟨_, rfl, ?_⟩
      walk_at "w"
      refine v_ixCol hl ?_
      exact v_figIx hb.1 (by omega) q'
    walk_at "w"
    refine ⟨(rowF cols k).map figC, by unfold rowF; rw [List.map_map, List.map_map]; rfl, figs_sum (by rw [row_len]; exact h6), ?_⟩
    walk_at "w"
    refine v_eqE encCE.lst (a := cols.reverse) (b := []) rfl rfl ?_
    refine ⟨_, rfl, ?_⟩
    by_cases hne : cols = []
    · rw [decide_eq_true (List.reverse_eq_nil_iff.mpr hne), if_pos rfl]
      walk_at "w"
      have e : figsS (rowF cols k) = "-" := if_pos (row_nil.mpr hne)
      simp only [e] at rest
      exact rest _
    · rw [decide_eq_false (fun z => hne (List.reverse_eq_nil_iff.mp z)), if_neg (fun z => nomatch z)]
      walk_at "w"
      have e : figsS (rowF cols k) = Txt.join "" ((rowF cols k).map figC) := if_neg fun z => hne (row_nil.mp z)
      simp only [e] at rest
      exact rest _
  · rintro e1 ⟨x4, x5, x6, rfl⟩
    refine ⟨trivial, ?_⟩
    rw [intsD_len]
    have e : (txtW b r cols).take (r.toNat + 1) = txtW b r cols := List.take_of_length_le (by unfold txtW; rw [List.length_cons, List.length_map, List.length_range]; exact Nat.le_refl _)
    rw [e]
    walk_at "w"
    exact .inl qq
end
section
variable {K : PySem.W.Frag}
open TL
def nearL : List D := (((([.str "", .str "10", .str "10:", .str "10: ", .str "10:-", .str "10: - 0", .str "10: 0 -", .str "10: --", .str "10: 1 2 3 4 5", .str "10: 1  2", .str "10 : 1 2"] : List D) ++ [.str "010: 1", .str "1: 0", .str "13: 1", .str "0: 0", .str "00: -", .str "2: 2", .str "10: a", .str "11: A", .str "12: 1b c", .str "10:: 1", .str ": 1"]) ++ [.str "+10: 1", .str "-2: 1", .str "10: 1,2", .str "10: 12 3", .str "10: 1 23", .str "a: 1", .str "10: - - - - -", .str "3: 12 0 ", .str "10:1 1"]) ++ [.non, .int 10, .bl true, .lst [.str "10: 1"], .tup [.str "10: 1"], .int 0, .lst []])
def okNear : D → Bool
  | .str s => decide (s.length ≤ 50) && (tl s).all fun c => decide (c < 128)
  | .non => true
  | .int _ => true
  | .bl _ => true
  | .lst _ => true
  | .tup _ => true
  | _ => false
theorem near_ok : nearL.all okNear = true := by decide +kernel
theorem near_len : nearL.length = 38 := by decide +kernel
theorem los_all {k : Nat} : ∀ xs : List D, los k xs = true → ∀ x ∈ xs, loD k x = true
  | [], _, _, h => nomatch h
  | y :: ys, h, x, hx => by
    have h' : (loD k y && los k ys) = true := h
    rw [Bool.and_eq_true] at h'
    rcases List.mem_cons.mp hx with rfl | hx
    · exact h'.1
    · exact los_all ys h'.2 x hx
theorem near_lo (k : Nat) : los k nearL = true := rfl
theorem near_vw {v : D} (h : okNear v = true) : Vw v := by
  cases v with
  | str s =>
    have h' : (decide (s.length ≤ 50) && (tl s).all fun c => decide (c < 128)) = true := h
    rw [Bool.and_eq_true, decide_eq_true_eq, List.all_eq_true] at h'
    exact .inl ⟨s, rfl, by omega, fun c hc => of_decide_eq_true (h'.2 c hc), Wb.len (by rw [← len_tl]; omega)⟩
  | non => exact .inr ⟨_, fun _ => rfl, by decide⟩
  | int i => exact .inr ⟨_, fun _ => rfl, by decide⟩
  | bl b => exact .inr ⟨_, fun _ => rfl, by decide⟩
  | lst xs => exact .inr ⟨_, fun _ => rfl, by decide⟩
  | tup xs => exact .inr ⟨_, fun _ => rfl, by decide⟩
  | _ => cases h
theorem st_lnr {a : D} : startD N_law_near [a] = [some a, none] := rfl
theorem len_law_near : ∀ ds cs Q, sp_law_near K ds cs Q → ds.length = 1 := by rintro ds cs Q ⟨_, _, _, _, rfl, _⟩; rfl
theorem vc_law_near : ∀ ds cs Q, Lo ds cs → LoC cs → sp_law_near K ds cs Q → t_law_near K (Po.fn cs Q) ⟨startD N_law_near ds, cs⟩ := by
  rintro ds cs Q hd hc ⟨n, a, b, c, rfl, hn, q⟩
  rw [st_lnr]
  unfold t_law_near
  walk_at "w"
  refine v_addLL (by simp) ?_
  walk_at "w"
  refine v_addLL (by simp) ?_
  walk_at "w"
  refine v_addLL (by simp) ?_
  walk_at "w"
  rw [show (((([D.str "", D.str "10", D.str "10:", D.str "10: ", D.str "10:-", D.str "10: - 0", D.str "10: 0 -", D.str "10: --", D.str "10: 1 2 3 4 5", D.str "10: 1  2", D.str "10 : 1 2"] : List D) ++ [.str "010: 1", .str "1: 0", .str "13: 1", .str "0: 0", .str "00: -", .str "2: 2", .str "10: a", .str "11: A", .str "12: 1b c", .str "10:: 1", .str ": 1"]) ++ [.str "+10: 1", .str "-2: 1", .str "10: 1,2", .str "10: 12 3", .str "10: 1 23", .str "a: 1", .str "10: - - - - -", .str "3: 12 0 ", .str "10:1 1"]) ++ [.non, .int 10, .bl true, .lst [.str "10: 1"], .tup [.str "10: 1"], .int 0, .lst []]) = nearL from rfl]
  refine v_lenL (xs := nearL) rfl (fun _ z => nomatch z) ?_
  rw [near_len]
  walk_at "w"
  refine ⟨n, _, a, b, c, rfl, hn, by decide, by decide, fun x a1 b1 x0 x1 => ?_⟩
  obtain ⟨j, rfl⟩ : ∃ j : Nat, x = (j : Int) := ⟨x.toNat, by omega⟩
  have hj : j < nearL.length := by rw [near_len]; omega
  refine v_ixLX ⟨_, atI_nat (List.getElem?_eq_getElem hj), ?_⟩
  have hm := List.getElem_mem hj
  exact .inl (q _ a1 b1 (near_vw (List.all_eq_true.mp near_ok _ hm)) fun k => los_all nearL (near_lo k) _ hm)
theorem st_law {a : D} : startD N_law [a] = [some a, none, none, none, none, none] := rfl
theorem len_law : ∀ ds cs Q, sp_law K ds cs Q → ds.length = 1 := by rintro ds cs Q ⟨_, rfl, _⟩; rfl
theorem vc_law : ∀ ds cs Q, Lo ds cs → LoC cs → sp_law K ds cs Q → t_law K (Po.fn cs Q) ⟨startD N_law ds, cs⟩ := by
  rintro ds cs Q hd hc ⟨ns, rfl, hl, rfl, q⟩
  rw [st_law]
  unfold t_law
  walk_at "w"
  refine ⟨ns, rfl, fun ms hms _ => ?_⟩
  walk_at "w"
  refine ⟨fun i e => ∃ (cs : List Cel) (x1 x2 x3 x4 x5 : Option D), e = ⟨[some (.fro (ns.map .int)), x1, x2, x3, x4, x5], cs⟩, ⟨_, _, _, _, _, _, rfl⟩, ?_, ?_⟩
  · rintro i y e2 hi ⟨cs, x1, x2, x3, x4, x5, rfl⟩
    rw [List.getElem?_map] at hi
    obtain ⟨v, hv, rfl⟩ := Option.map_eq_some_iff.mp hi
    refine ⟨trivial, _, rfl, ?_⟩
    walk_at "w"
    refine ⟨v, rfl, fun a x c => ?_⟩
    have hn : (cs ++ [deckC a x c])[cs.length]? = some (deckC a x c) := app_get
    generalize cs ++ [deckC a x c] = cs1 at hn ⊢
    generalize cs.length = n at hn ⊢
    walk_at "w"
    refine ⟨n, 4, a, x, c, rfl, hn, by decide, by decide, fun wy a1 y1 w0 w1 => ?_⟩
    walk_at "w"
    refine ⟨n, a1, y1, c, rfl, set_get hn, fun s a2 y2 T => ?_⟩
    rw [List.set_set]
    walk_at "w"
    refine ⟨n, a2, y2, c, s, 140, 26, rfl, set_get hn, T, by decide, by decide, fun s2 a3 y3 T2 => ?_⟩
    rw [List.set_set]
    have Vs : Vw (.str s) := .inl ⟨s, rfl, T.mono (by decide) (by decide)⟩
    have fin : ∀ (v2 : D) (cs2 : List Cel), Vw v2 → (sIf (dOr (dNot (eTru (eCall (sp_law_right K) (aCons (eV 4) aNil)))) (dOr (dNot (eTru (eCall (sp_law_right K) (aCons (eV 5) aNil)))) (dNot (eTru (eCall (sp_law_right K) (aCons (eV 4) aNil)))))) (sRet (eC (.bl false))) sNext) (((Po.fn [] Q).thn (sRet (eC (.bl true)))).lp fun e => ∃ (cs : List Cel) (x1 x2 x3 x4 x5 : Option D), e = ⟨[some (.fro (ns.map .int)), x1, x2, x3, x4, x5], cs⟩) ⟨[some (.fro (ns.map .int)), some (.int v), some (.cell n), some (.int wy), some (.str s), some v2], cs2⟩ := by
      intro v2 cs2 V2
      walk_at "w"
      refine ⟨_, rfl, Vs, ?_⟩
      walk_at "w"
      refine ⟨_, rfl, V2, ?_⟩
      walk_at "w"
      refine ⟨_, rfl, Vs, ?_⟩
      walk_at "w"
      exact ⟨_, _, _, _, _, _, rfl⟩
    generalize (sIf (dOr (dNot (eTru (eCall (sp_law_right K) (aCons (eV 4) aNil)))) (dOr (dNot (eTru (eCall (sp_law_right K) (aCons (eV 5) aNil)))) (dNot (eTru (eCall (sp_law_right K) (aCons (eV 4) aNil)))))) (sRet (eC (.bl false))) sNext) = R at fin ⊢
    walk_at "w"
    refine v_itd (fun h1 => ?_) (fun h1 => ?_)
    · walk_at "w"
      refine ⟨n, a3, y3, c, s2, _, _, rfl, set_get hn, T2, by decide, by decide, fun s3 a4 y4 T3 => ?_⟩
      rw [List.set_set]
      walk_at "w"
      refine v_itd (fun h2 => by omega) (fun h2 => ?_)
      walk_at "w"
      exact fin _ _ (.inl ⟨s3, rfl, T3.mono (by decide) (by decide)⟩)
    · walk_at "w"
      refine v_itd (fun h2 => ?_) (fun h2 => ?_)
      · walk_at "w"
        refine ⟨n, a3, y3, c, rfl, set_get hn, fun v3 a4 y4 V3 _ => ?_⟩
        rw [List.set_set]
        walk_at "w"
        exact fin _ _ V3
      · walk_at "w"
        exact fin _ _ (.inl ⟨s2, rfl, T2.mono (by decide) (by decide)⟩)
  · rintro e2 ⟨cs, x1, x2, x3, x4, x5, rfl⟩
    refine ⟨trivial, ?_⟩
    walk_at "w"
    exact .inl (q _)
end
section
variable {P : Program} {w : World} {K : PySem.W.Frag} {mg : Str → Option Value} {base : Heap}
theorem ok_law_cells (T : Txt K mg) : Good P w K mg base 2 (He.ga K "_law_cells") ["script"] (sp_law_cells K) :=
  good_of T.F_law_cells sc_law_cells len_law_cells (fun _ _ _ _ _ _ us hl => match us, hl with | [_], _ => rfl) (d_law_cells T ) vc_law_cells
theorem ok_law_deck (T : Txt K mg) : Good P w K mg base 2 (He.ga K "_law_deck") ["cell"] (sp_law_deck K) :=
  good_of T.F_law_deck sc_law_deck len_law_deck (fun _ _ _ _ _ _ us hl => match us, hl with | [_], _ => rfl) (d_law_deck T ) vc_law_deck
theorem ok_law_draw (T : Txt K mg) : Good P w K mg base 2 (He.ga K "_law_draw") ["deck", "many"] (sp_law_draw K) :=
  good_of T.F_law_draw sc_law_draw len_law_draw (fun _ _ _ _ _ _ us hl => match us, hl with | [_, _], _ => rfl) (d_law_draw T ) vc_law_draw
theorem ok_law_column (T : Txt K mg) : Good P w K mg base 5 (He.ga K "_law_column") ["deck", "base", "rows"] (sp_law_column K) :=
  good_of T.F_law_column sc_law_column len_law_column (fun _ _ _ _ _ _ us hl => match us, hl with | [_, _, _], _ => rfl) (d_law_column T (ok_law_draw T)) vc_law_column
theorem ok_law_columns (T : Txt K mg) : Good P w K mg base 8 (He.ga K "_law_columns") ["deck", "base", "rows", "most"] (sp_law_columns K) :=
  good_of T.F_law_columns sc_law_columns len_law_columns (fun _ _ _ _ _ _ us hl => match us, hl with | [_, _, _, _], _ => rfl) (d_law_columns T (ok_law_draw T) (ok_law_column T)) vc_law_columns
theorem ok_law_text (T : Txt K mg) : Good P w K mg base 11 (He.ga K "_law_text") ["deck"] (sp_law_text K) :=
  good_of T.F_law_text sc_law_text len_law_text (fun _ _ _ _ _ _ us hl => match us, hl with | [_], _ => rfl) (d_law_text T (ok_law_draw T) (ok_law_columns T)) vc_law_text
theorem ok_law_spoilt (T : Txt K mg) : Good P w K mg base 5 (He.ga K "_law_spoilt") ["deck", "text"] (sp_law_spoilt K) :=
  good_of T.F_law_spoilt sc_law_spoilt len_law_spoilt (fun _ _ _ _ _ _ us hl => match us, hl with | [_, _], _ => rfl) (d_law_spoilt T (ok_law_draw T)) vc_law_spoilt
theorem ok_law_near (T : Txt K mg) : Good P w K mg base 5 (He.ga K "_law_near") ["deck"] (sp_law_near K) :=
  good_of T.F_law_near sc_law_near len_law_near (fun _ _ _ _ _ _ us hl => match us, hl with | [_], _ => rfl) (d_law_near T (ok_law_draw T)) vc_law_near
theorem ok_is_number (T : Txt K mg) : Good P w K mg base 2 (He.ga K "is_number") ["word"] (sp_is_number K) :=
  good_of T.F_is_number sc_is_number len_is_number (fun _ _ _ _ _ _ us hl => match us, hl with | [_], _ => rfl) (d_is_number T ) vc_is_number
theorem ok_is_integer (T : Txt K mg) : Good P w K mg base 2 (He.ga K "is_integer") ["value"] (sp_is_integer K) :=
  good_of T.F_is_integer sc_is_integer len_is_integer (fun _ _ _ _ _ _ us hl => match us, hl with | [_], _ => rfl) (d_is_integer T ) vc_is_integer
theorem ok_is_column (T : Txt K mg) : Good P w K mg base 5 (He.ga K "is_column") ["value", "base", "rows"] (sp_is_column K) :=
  good_of T.F_is_column sc_is_column len_is_column (fun _ _ _ _ _ _ us hl => match us, hl with | [_, _, _], _ => rfl) (d_is_column T (ok_is_integer T)) vc_is_column
theorem ok_Sheet_init (T : Txt K mg) : Good P w K mg base 8 (He.ma K (He.ga K "Sheet") "__init__") ["self", "base", "rows", "columns"] (sp_Sheet_init K) :=
  good_of T.F_Sheet_init sc_Sheet_init len_Sheet_init (fun _ _ _ _ _ _ us hl => match us, hl with | [_, _, _, _], _ => rfl) (d_Sheet_init T (ok_is_integer T) (ok_is_column T)) vc_Sheet_init
theorem ok_read_sheet (T : Txt K mg) : GoodX P w K mg base 11 (He.ga K "read_sheet") ["text"] (sp_read_sheet K) :=
  good_ofX T.F_read_sheet sc_read_sheet len_read_sheet (fun _ _ _ _ _ _ us hl => match us, hl with | [_], _ => rfl) (d_read_sheet T (ok_is_number T) (ok_Sheet_init T)) vc_read_sheet
theorem ok_law_read (T : Txt K mg) : Good P w K mg base 14 (He.ga K "_law_read") ["value"] (sp_law_read K) :=
  good_of T.F_law_read sc_law_read len_law_read (fun _ _ _ _ _ _ us hl => match us, hl with | [_], _ => rfl) (d_law_read T (ok_read_sheet T)) vc_law_read
theorem ok_law_is_text (T : Txt K mg) : Good P w K mg base 2 (He.ga K "_law_is_text") ["value"] (sp_law_is_text K) :=
  good_of T.F_law_is_text sc_law_is_text len_law_is_text (fun _ _ _ _ _ _ us hl => match us, hl with | [_], _ => rfl) (d_law_is_text T ) vc_law_is_text
theorem ok_Sheet_columns (T : Txt K mg) : Good P w K mg base 2 (pga K (He.ga K "Sheet") "columns") ["self"] (sp_Sheet_columns K) :=
  good_of T.F_Sheet_columns sc_Sheet_columns len_Sheet_columns (fun _ _ _ _ _ _ us hl => match us, hl with | [_], _ => rfl) (d_Sheet_columns T ) vc_Sheet_columns
theorem ok_Sheet_base (T : Txt K mg) : Good P w K mg base 2 (pga K (He.ga K "Sheet") "base") ["self"] (sp_Sheet_base K) :=
  good_of T.F_Sheet_base sc_Sheet_base len_Sheet_base (fun _ _ _ _ _ _ us hl => match us, hl with | [_], _ => rfl) (d_Sheet_base T ) vc_Sheet_base
theorem ok_Sheet_rows (T : Txt K mg) : Good P w K mg base 2 (pga K (He.ga K "Sheet") "rows") ["self"] (sp_Sheet_rows K) :=
  good_of T.F_Sheet_rows sc_Sheet_rows len_Sheet_rows (fun _ _ _ _ _ _ us hl => match us, hl with | [_], _ => rfl) (d_Sheet_rows T ) vc_Sheet_rows
theorem ok_show_figures (T : Txt K mg) : Good P w K mg base 2 (He.ga K "show_figures") ["figures"] (sp_show_figures K) :=
  good_of T.F_show_figures sc_show_figures len_show_figures (fun _ _ _ _ _ _ us hl => match us, hl with | [_], _ => rfl) (d_show_figures T ) vc_show_figures
theorem ok_show_sheet (T : Txt K mg) : Good P w K mg base 5 (He.ga K "show_sheet") ["sheet"] (sp_show_sheet K) :=
  good_of T.F_show_sheet sc_show_sheet len_show_sheet (fun _ _ _ _ _ _ us hl => match us, hl with | [_], _ => rfl) (d_show_sheet T (ok_Sheet_columns T) (ok_Sheet_base T) (ok_Sheet_rows T) (ok_show_figures T)) vc_show_sheet
theorem ok_law_right (T : Txt K mg) : Good P w K mg base 17 (He.ga K "_law_right") ["value"] (sp_law_right K) :=
  good_of T.F_law_right sc_law_right len_law_right (fun _ _ _ _ _ _ us hl => match us, hl with | [_], _ => rfl) (d_law_right T (ok_law_read T) (ok_law_is_text T) (ok_show_sheet T)) vc_law_right
theorem okf_law (T : Txt K mg) {fd : FuncData} (F : FunD K "law" "law" (defArgs s_law) (defBody s_law) (defScope s_law) [] [] (He.ga K "law") fd) : FnOk P w K mg base CX0 20 (He.ga K "law") fd ["script"] (spD K spLaw) :=
  fn_d F sc_law (len_law (K := K)) (d_law T (ok_law_cells T) (ok_law_deck T) (ok_law_draw T) (ok_law_text T) (ok_law_spoilt T) (ok_law_near T) (ok_law_right T)) vc_law
end
theorem txt {K : PySem.W.Frag} {h : Heap} {mg : Str → Option Value} (X : K.In h) (G : h.Ns mainGlobals mg) (c : SaysY fxs fns K) : Txt K mg where
  g_law_cells := He.glo_ok X G (c.fact 0 (f := .fa (.glo "_law_cells")) rfl)
  g_law_deck := He.glo_ok X G (c.fact 1 (f := .fa (.glo "_law_deck")) rfl)
  g_law_draw := He.glo_ok X G (c.fact 2 (f := .fa (.glo "_law_draw")) rfl)
  g_law_text := He.glo_ok X G (c.fact 3 (f := .fa (.glo "_law_text")) rfl)
  g_law_spoilt := He.glo_ok X G (c.fact 4 (f := .fa (.glo "_law_spoilt")) rfl)
  g_law_near := He.glo_ok X G (c.fact 5 (f := .fa (.glo "_law_near")) rfl)
  g_law_right := He.glo_ok X G (c.fact 6 (f := .fa (.glo "_law_right")) rfl)
  g_law_columns := He.glo_ok X G (c.fact 7 (f := .fa (.glo "_law_columns")) rfl)
  g_law_column := He.glo_ok X G (c.fact 8 (f := .fa (.glo "_law_column")) rfl)
  g_law_read := He.glo_ok X G (c.fact 9 (f := .fa (.glo "_law_read")) rfl)
  g_law_is_text := He.glo_ok X G (c.fact 10 (f := .fa (.glo "_law_is_text")) rfl)
  g_show_sheet := He.glo_ok X G (c.fact 11 (f := .fa (.glo "show_sheet")) rfl)
  g_SlipError := He.glo_ok X G (c.fact 12 (f := .fa (.glo "SlipError")) rfl)
  g_read_sheet := He.glo_ok X G (c.fact 13 (f := .fa (.glo "read_sheet")) rfl)
  g_InvalidSheet := He.glo_ok X G (c.fact 14 (f := .fa (.glo "InvalidSheet")) rfl)
  g_InvalidCommand := He.glo_ok X G (c.fact 15 (f := .fa (.glo "InvalidCommand")) rfl)
  g_InvalidKind := He.glo_ok X G (c.fact 16 (f := .fa (.glo "InvalidKind")) rfl)
  g_InvalidLot := He.glo_ok X G (c.fact 17 (f := .fa (.glo "InvalidLot")) rfl)
  g_InvalidSlips := He.glo_ok X G (c.fact 18 (f := .fa (.glo "InvalidSlips")) rfl)
  g_InvalidColumn := He.glo_ok X G (c.fact 19 (f := .fa (.glo "InvalidColumn")) rfl)
  g_NotAlike := He.glo_ok X G (c.fact 20 (f := .fa (.glo "NotAlike")) rfl)
  g_NotPossible := He.glo_ok X G (c.fact 21 (f := .fa (.glo "NotPossible")) rfl)
  g_NotReady := He.glo_ok X G (c.fact 22 (f := .fa (.glo "NotReady")) rfl)
  g_NothingToUndo := He.glo_ok X G (c.fact 23 (f := .fa (.glo "NothingToUndo")) rfl)
  g_TooMany := He.glo_ok X G (c.fact 24 (f := .fa (.glo "TooMany")) rfl)
  g_Waits := He.glo_ok X G (c.fact 25 (f := .fa (.glo "Waits")) rfl)
  g_InvalidText := He.glo_ok X G (c.fact 26 (f := .fa (.glo "InvalidText")) rfl)
  g_is_number := He.glo_ok X G (c.fact 27 (f := .fa (.glo "is_number")) rfl)
  g_Sheet := He.glo_ok X G (c.fact 28 (f := .fa (.glo "Sheet")) rfl)
  g_is_integer := He.glo_ok X G (c.fact 29 (f := .fa (.glo "is_integer")) rfl)
  g_is_column := He.glo_ok X G (c.fact 30 (f := .fa (.glo "is_column")) rfl)
  g_show_figures := He.glo_ok X G (c.fact 31 (f := .fa (.glo "show_figures")) rfl)
  g_law := He.glo_ok X G (c.fact 32 (f := .fa (.glo "law")) rfl)
  n_int := He.free_ok X G (c.fact 33 (f := .fa (.free "int")) rfl)
  n_str := He.free_ok X G (c.fact 34 (f := .fa (.free "str")) rfl)
  n_range := He.free_ok X G (c.fact 35 (f := .fa (.free "range")) rfl)
  n_tuple := He.free_ok X G (c.fact 36 (f := .fa (.free "tuple")) rfl)
  n_len := He.free_ok X G (c.fact 37 (f := .fa (.free "len")) rfl)
  n_isinstance := He.free_ok X G (c.fact 38 (f := .fa (.free "isinstance")) rfl)
  ic_Sheet := insc_ok (c.fact 39 (f := .insc "Sheet") rfl)
  kb_list := kitb_ok (c.fact 40 (f := .kitb "list" [("Sheet", false)]) rfl)
  n_list := He.free_ok X G (c.fact 41 (f := .fa (.free "list")) rfl)
  xm_SlipError := exm_okT (c.fact 42 (f := .exm "SlipError" [("InvalidText", true)]) rfl)
  xc_InvalidText := excc_ok (c.fact 43 (f := .excc "InvalidText") rfl)
  nx_InvalidText := noix_ok (c.fact 44 (f := .noix "InvalidText") rfl)
  ka_InvalidSheet_InvalidCommand_InvalidKind_InvalidLot_InvalidSlips_InvalidColumn := kita_ok (c.fact 45 (f := .kita ["InvalidSheet", "InvalidCommand", "InvalidKind", "InvalidLot", "InvalidSlips", "InvalidColumn"] [("InvalidText", false)]) rfl)
  ka_NotAlike_NotPossible_NotReady_NothingToUndo_TooMany_Waits := kita_ok (c.fact 46 (f := .kita ["NotAlike", "NotPossible", "NotReady", "NothingToUndo", "TooMany", "Waits"] [("InvalidText", false)]) rfl)
  n_ValueError := He.free_ok X G (c.fact 47 (f := .fa (.free "ValueError")) rfl)
  kb_ValueError := kitb_ok (c.fact 48 (f := .kitb "ValueError" [("InvalidText", true)]) rfl)
  ko_InvalidText := kito_ok (c.fact 49 (f := .kito "InvalidText" [("InvalidText", true)]) rfl)
  xo_InvalidText := He.exc_ok (c.fact 50 (f := .fa (.exc "InvalidText")) rfl)
  n_all := He.free_ok X G (c.fact 51 (f := .fa (.free "all")) rfl)
  c_Sheet := He.cls_ok (c.fact 52 (f := .fa (.cls "Sheet")) rfl)
  mk_Sheet := He.mkr_ok (c.fact 53 (f := .fa (.mkr "Sheet")) rfl)
  xg_FIGURES := He.str_ok X G (c.fact 54 (f := .fa (.str "FIGURES" "0123456789ab")) rfl)
  xg_DIGITS := He.str_ok X G (c.fact 55 (f := .fa (.str "DIGITS" "0123456789")) rfl)
  na_Sheet_held_base := He.noat_ok (c.fact 56 (f := .fa (.noat "Sheet" "held_base")) rfl)
  na_Sheet_held_rows := He.noat_ok (c.fact 57 (f := .fa (.noat "Sheet" "held_rows")) rfl)
  na_Sheet_held_columns := He.noat_ok (c.fact 58 (f := .fa (.noat "Sheet" "held_columns")) rfl)
  na_Sheet_size := He.noat_ok (c.fact 59 (f := .fa (.noat "Sheet" "size")) rfl)
  n_bool := He.free_ok X G (c.fact 60 (f := .fa (.free "bool")) rfl)
  p_Sheet_columns := prop_ok (c.fact 61 (f := .prop "Sheet" "columns") rfl)
  p_Sheet_base := prop_ok (c.fact 62 (f := .prop "Sheet" "base") rfl)
  p_Sheet_rows := prop_ok (c.fact 63 (f := .prop "Sheet" "rows") rfl)
  F_law_cells := c.def_ 0 (d := df_law_cells) rfl
  F_law_deck := c.def_ 1 (d := df_law_deck) rfl
  F_law_draw := c.def_ 2 (d := df_law_draw) rfl
  F_law_column := c.def_ 3 (d := df_law_column) rfl
  F_law_columns := c.def_ 4 (d := df_law_columns) rfl
  F_law_text := c.def_ 5 (d := df_law_text) rfl
  F_law_spoilt := c.def_ 6 (d := df_law_spoilt) rfl
  F_law_near := c.def_ 7 (d := df_law_near) rfl
  F_is_number := c.def_ 8 (d := df_is_number) rfl
  F_is_integer := c.def_ 9 (d := df_is_integer) rfl
  F_is_column := c.def_ 10 (d := df_is_column) rfl
  F_Sheet_init := c.def_ 11 (d := df_Sheet_init) rfl
  F_read_sheet := c.def_ 12 (d := df_read_sheet) rfl
  F_law_read := c.def_ 13 (d := df_law_read) rfl
  F_law_is_text := c.def_ 14 (d := df_law_is_text) rfl
  F_Sheet_columns := c.def_ 15 (d := df_Sheet_columns) rfl
  F_Sheet_base := c.def_ 16 (d := df_Sheet_base) rfl
  F_Sheet_rows := c.def_ 17 (d := df_Sheet_rows) rfl
  F_show_figures := c.def_ 18 (d := df_show_figures) rfl
  F_show_sheet := c.def_ 19 (d := df_show_sheet) rfl
  F_law_right := c.def_ 20 (d := df_law_right) rfl
  F_law := c.def_ 21 (d := df_law) rfl
end LW
open PySem PySem.W PySem.Calls PyProof.Rows
set_option maxRecDepth 100000 in
set_option maxHeartbeats 8000000 in
theorem PySem.Challenge.cw_sumslips_k58_strings_that_are_no_sheet_holds : PySem.Challenge.rw_sumslips_k58_strings_that_are_no_sheet.Holds := by
  refine LW.headE ?hc
  case hc =>
    refine L2.walk_ofE (l := PySem.Challenge.rw_sumslips_k58_strings_that_are_no_sheet) (n := 63) (k := 20) (x := "script") (CX := L2.CX0) rfl (by decide) (by kernel_rfl) ⟨rfl, by decide, by decide⟩ ?F (fun _ _ _ _ z => z)
    intro w mg fa h Y G hmg0
    obtain ⟨K, KX, c⟩ := Y
    have hmg : mg ("law" : PySem.Str) = some (.ref fa) := by
      have e : (HandSHeadRun.topDef (OpenLaw.row PySem.Challenge.rw_sumslips_k58_strings_that_are_no_sheet).prog 39).name = ("law" : PySem.Str) := by kernel_rfl
      rw [← e]
      exact hmg0
    have T := LW.txt KX G c
    have e := hmg.symm.trans T.g_law
    cases e
    obtain ⟨fd, F⟩ := T.F_law
    have b := L2.FunD.bindsA (ps := ["script"]) F fun _ _ _ _ _ _ us hl => match us, hl with | [_], _ => rfl
    exact ⟨K, fd, DL.spD K DL.spLaw, KX, fun s v => b s [v] rfl, fun H a ns hl _ hS => DL.law_says H a ns hl hS, fun base _ _ => LW.okf_law T F⟩
