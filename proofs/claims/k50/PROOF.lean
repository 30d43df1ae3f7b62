import PyProof.Rows.All
import Wide.All
import OpenK.AllK
import Wide.FinOn
import HandS.ForMost
import HandS.Evl
import HandS.IsInst
import HandS.Wide
import HandS.Property
import HandS.Deep
import HandS.Style
import HandS.Defaults
import HandS.More
import HandS.Head0
import HandS.Head1
import HandS.Head2
import HandS.HeadEnd
import HandS.HeadHook1
import HandS.HeadHook2
import HandS.Codes
import HandS.ExcInit
import HandS.Zip
import HandS.TupMul
import HandS.Star
import KE.DataFind
import PyProof.AutoSeq1
import PyProof.ListOps
import HandS.Exc
import HandS.ExcOwn
import HandS.ExcIs
import HandS.ExcField
import HandS.ExcCtx
import HandS.TryMany
import KE.KExcIs
import HandS.ExcValue
import HandS.TryOnly
import KE.DataCmp
import PySem.Challenge.RW_sumslips_k50_ledgers_follow
set_option Elab.async false
set_option linter.all false
set_option maxRecDepth 100000
set_option maxHeartbeats 8000000
namespace DL
open PySem PySem.Spec PyProof.Rows L2
open Evl (Ex)

/-! ### what the head tells -/
inductive At where
  | glo (x : Str)
  | met (c m : Str)
  | prp (c m : Str)
def pga (K : PySem.W.Frag) (C : Addr) (m : Str) : Addr := match PySem.W.recIn K (He.ma K C m) "property" with
  | some (.ref g :: _) => g
  | _ => 0
def At.ad (K : PySem.W.Frag) : At → Addr
  | .glo x => He.ga K x
  | .met c m => He.ma K (He.ga K c) m
  | .prp c m => pga K (He.ga K c) m
structure DefX where
  at_ : At
  name : Str
  qual : Str
  params : Arguments
  body : List Stmt
  scope : Scope
  dfl : List He.Dv := []
  kwd : List (Str × He.Dv) := []
def fnY (K : PySem.W.Frag) (p : At) : He.FnW := match K.lookup (p.ad K) with
  | some ⟨_, _, .func fd, _⟩ => some (fd.name, fd.qualname, fd.params, fd.body, fd.scope, fd.globals, fd.closure, fd.builtins)
  | _ => none
def DefX.val (d : DefX) : He.FnW := some (d.name, d.qual, d.params, .stmts d.body, d.scope, mainGlobals, [], builtinsNs)
def DefX.dvs (K : PySem.W.Frag) (d : DefX) : List V := d.dfl.map (He.Dv.v K)
def DefX.kws (K : PySem.W.Frag) (d : DefX) : List (Str × V) := d.kwd.map fun q => (q.1, q.2.v K)
def DefX.ok (K : PySem.W.Frag) (d : DefX) : Bool := PySem.W.keepIn K (.ref (d.at_.ad K)) && (match K.lookup (d.at_.ad K) with
  | some ⟨_, _, .func fd, _⟩ => PySem.W.codeIn K fd.code d.qual && (He.dflB K fd.defaults (d.dvs K) && He.kwdB K fd.kwdefaults (d.kws K))
  | _ => false)
theorem DefX.funD {K : PySem.W.Frag} {d : DefX} (e : fnY K d.at_ = d.val) (c : d.ok K = true) : ∃ fd, FunD K d.name d.qual d.params d.body d.scope (d.dvs K) (d.kws K) (d.at_.ad K) fd := by
  obtain ⟨kp, c2⟩ := He.ba c
  unfold fnY at e
  cases q : K.lookup (d.at_.ad K) with
  | none =>
    rw [q] at c2
    cases c2
  | some o =>
    obtain ⟨oc, od, dt, osl⟩ := o
    rw [q] at c2 e
    cases dt with
    | func fd =>
      obtain ⟨n1, n2, n3, n4, n5, n6, n7, n8, n9, n10, n11, n12, n13, n14, n15⟩ := fd
      have e2 : (some (n1, n2, n3, n4, n5, n6, n7, n15) : He.FnW) = some (d.name, d.qual, d.params, .stmts d.body, d.scope, mainGlobals, [], builtinsNs) := e
      simp only [Option.some.injEq, Prod.mk.injEq] at e2
      obtain ⟨h1, h2, h3, h4, h5, h6, h7, h8⟩ := e2
      subst h1 h2 h3 h4 h5 h6 h7 h8
      have c3 : (PySem.W.codeIn K n13 d.qual && (He.dflB K n8 (d.dvs K) && He.kwdB K n9 (d.kws K))) = true := c2
      obtain ⟨k1, k2⟩ := He.ba c3
      obtain ⟨k3, k4⟩ := He.ba k2
      exact ⟨_, ⟨oc, od, n8, n9, n10, n11, n12, n13, n14, osl, rfl, q, k1, He.dflB_ok k3, He.kwdB_ok k4⟩, kp⟩
    | _ => cases c2
/-- no slot of this number operator in the class C -/
structure NoSl (K : PySem.W.Frag) (C : Addr) (nm : String) : Prop where
  cd : ∃ cd, PySem.W.clsIn K C = some cd ∧ cd.mro = [.ref C, .type "object"]
  a : PySem.W.findIn K (.ref C) (PySem.dunder nm) = some none
  b : PySem.W.findIn K (.ref C) (dunderR nm) = some none
  oa : PySem.W.findIn K (.type "object") (PySem.dunder nm) = some none
  ob : PySem.W.findIn K (.type "object") (dunderR nm) = some none
def tysB : List String := ["NoneType", "bool", "int", "str", "tuple", "list", "dict"]
/-- an own exception class with its own __init__, as its object says -/
def oexO (C : Addr) (o : Obj) : Bool := decide (o.cls = .type "type") && match o.data with
  | .cls cd => !cd.hasDel && (cd.hasDict && match cd.mro with
    | .ref C' :: bm => decide (C' = C) && (PySem.HandSPX.refsVE bm && match o.slots.toList with
      | [_, _, _, _, some (.builtin n), _] => decide (n = "ValueError.__new__")
      | _ => false)
    | _ => false)
  | _ => false
def oexB (K : PySem.W.Frag) (C : Addr) : Bool := match K.lookup C with
  | some o => oexO C o
  | none => false
inductive Fx where
  | fa (f : He.Fa)
  | prop (c f : Str)
  | sm (c m : Str)
  | fnin (c m : Str)
  | tup (x : Str) (vs : List He.Dv)
  | insc (c : Str)
  | selff (c : Str)
  | noseq (c : Str)
  | nosl (c : Str) (nm : String)
  | kto (c : Str)
  | excc (c : Str)
  | exm (c : Str) (l : List (Str × Bool))
  | kito (c : Str) (l : List (Str × Bool))
  | kitb (T : String) (l : List (Str × Bool))
  | kita (cs : List Str) (l : List (Str × Bool))
  | oex (c : Str)
  | noix (c : Str)
  | exci (c : Str)
def Fx.ok (K : PySem.W.Frag) : Fx → Bool
  | .fa f => f.ok K
  | .prop c f => He.eqO (PySem.W.findIn K (.ref (He.ga K c)) f) (some (some (.ref (He.ma K (He.ga K c) f)))) && (He.eqO (PySem.W.specialIn K (.ref (He.ma K (He.ga K c) f)) "__get__") (some (some (.builtin "property.__get__"))) &&
      (decide (PySem.W.takesIn K (.ref (He.ma K (He.ga K c) f)) = some true) && (match PySem.W.recIn K (He.ma K (He.ga K c) f) "property" with
        | some (.ref g :: _) => decide (g = pga K (He.ga K c) f)
        | _ => false)))
  | .sm c m => He.eqO (PySem.W.findIn K (.ref (He.ga K c)) m) (some (some (.ref (He.ma K (He.ga K c) m)))) && PySem.W.isFn K (.ref (He.ma K (He.ga K c) m))
  | .fnin c m => PySem.W.fnIn K (He.ma K (He.ga K c) m)
  | .tup x vs => He.tupB K x vs
  | .insc c => (He.Fa.cls c).ok K && (He.eqO (PySem.W.findIn K (.ref (He.ga K c)) "__class__") (some (some (.builtin "object.__class__"))) && (He.eqO (PySem.W.specialIn K (.builtin "object.__class__") "__get__") (some (some (.builtin "getset_descriptor.__get__"))) &&
      (decide (PySem.W.takesIn K (.builtin "object.__class__") = some true) && decide (PySem.W.mroIn K (He.ga K c) (.type "object") = some true))))
  | .selff c => PySem.W.selfFirst K (He.ga K c)
  | .noseq c => PySem.W.noSeq K (He.ga K c)
  | .nosl c nm => (match PySem.W.clsIn K (He.ga K c) with
      | some cd => decide (cd.mro = [.ref (He.ga K c), .type "object"])
      | none => false) && (He.eqO (PySem.W.findIn K (.ref (He.ga K c)) (PySem.dunder nm)) (some none) && (He.eqO (PySem.W.findIn K (.ref (He.ga K c)) (dunderR nm)) (some none) &&
      (He.eqO (PySem.W.findIn K (.type "object") (PySem.dunder nm)) (some none) && He.eqO (PySem.W.findIn K (.type "object") (dunderR nm)) (some none))))
  | .kto c => tysB.all fun a => decide (PySem.W.kitOne K (.type a) (.ref (He.ga K c)) = some false)
  | .excc c => (He.Fa.exc c).ok K && (He.eqO (PySem.W.findIn K (.ref (He.ga K c)) "__getattribute__") (some (some (.builtin "BaseException.__getattribute__"))) && (He.eqO (PySem.W.findIn K (.ref (He.ga K c)) "__getattr__") (some none) &&
      (PySem.W.hasDictIn K (He.ga K c) && (He.eqO (PySem.W.findIn K (.ref (He.ga K c)) "__class__") (some (some (.builtin "object.__class__"))) && (He.eqO (PySem.W.specialIn K (.builtin "object.__class__") "__get__") (some (some (.builtin "getset_descriptor.__get__"))) &&
      (decide (PySem.W.takesIn K (.builtin "object.__class__") = some true) && decide (PySem.W.mroIn K (He.ga K c) (.type "object") = some true)))))))
  | .exm c l => l.all fun p => decide (PySem.W.exmOne K (.ref (He.ga K p.1)) (.ref (He.ga K c)) = some p.2)
  | .kito c l => l.all fun p => decide (PySem.W.kitOne K (.ref (He.ga K p.1)) (.ref (He.ga K c)) = some p.2)
  | .kitb T l => l.all fun p => decide (PySem.W.kitOne K (.ref (He.ga K p.1)) (.type T) = some p.2)
  | .kita cs l => l.all fun p => decide (PySem.W.kitAny K (.ref (He.ga K p.1)) (cs.map fun x => .ref (He.ga K x)) = some p.2)
  | .oex c => oexB K (He.ga K c) && (He.eqO (PySem.W.findIn K (.ref (He.ga K c)) "__setattr__") (some (some (.builtin "object.__setattr__"))) && (decide (PySem.W.subIn K (.ref (He.ga K c)) (.type "BaseException") = some true) &&
      (decide (PySem.W.typeIn K (.ref (He.ga K c)) = some (.type "type")) && PySem.W.keepIn K (.ref (He.ga K c)))))
  | .exci c => decide (PySem.W.subIn K (.ref (He.ga K c)) (.type "BaseException") = some true) && (He.eqO (PySem.W.findIn K (.ref (He.ga K c)) "__getattribute__") (some (some (.builtin "BaseException.__getattribute__"))) && (He.eqO (PySem.W.findIn K (.ref (He.ga K c)) "__getattr__") (some none) &&
      (PySem.W.hasDictIn K (He.ga K c) && (He.eqO (PySem.W.findIn K (.ref (He.ga K c)) "__class__") (some (some (.builtin "object.__class__"))) && (He.eqO (PySem.W.specialIn K (.builtin "object.__class__") "__get__") (some (some (.builtin "getset_descriptor.__get__"))) &&
      (decide (PySem.W.takesIn K (.builtin "object.__class__") = some true) && decide (PySem.W.mroIn K (He.ga K c) (.type "object") = some true)))))))
  | .noix c => He.eqO (PySem.W.findIn K (.ref (He.ga K c)) "index") (some none)
/-! the addresses that are looked at: level by level, each once (a tree of marks in the place of eraseDups: the kernel's run of it is cheap) -/
inductive NT where
  | nil
  | node (b : Bool) (l r : NT)
def NT.mem : Nat → NT → Nat → Bool
  | 0, _, _ => false
  | _ + 1, .nil, _ => false
  | k + 1, .node b l r, i => match Nat.beq i 0 with
    | true => b
    | false => match Nat.beq (i % 2) 1 with
      | true => NT.mem k l (i / 2)
      | false => NT.mem k r (i / 2 - 1)
def NT.ins : Nat → NT → Nat → NT
  | 0, v, _ => v
  | k + 1, .nil, i => match Nat.beq i 0 with
    | true => .node true .nil .nil
    | false => match Nat.beq (i % 2) 1 with
      | true => .node false (NT.ins k .nil (i / 2)) .nil
      | false => .node false .nil (NT.ins k .nil (i / 2 - 1))
  | k + 1, .node b l r, i => match Nat.beq i 0 with
    | true => .node true l r
    | false => match Nat.beq (i % 2) 1 with
      | true => .node b (NT.ins k l (i / 2)) r
      | false => .node b l (NT.ins k r (i / 2 - 1))
def addF : List Addr → NT → List Addr → NT × List Addr
  | [], v, new => (v, new)
  | a :: as, v, new => match NT.mem 20 v a with
    | true => addF as v new
    | false => addF as (NT.ins 20 v a) (a :: new)
def stepF (g : Addr → Option Obj) : List Addr → NT → List Addr → NT × List Addr
  | [], v, new => (v, new)
  | a :: as, v, new => match g a with
    | none => stepF g as v new
    | some o => match addF (He.refsD o) v new with
      | (v', new') => stepF g as v' new'
def walkF (g : Addr → Option Obj) : Nat → List Addr → NT → List Addr → List Addr
  | 0, _, _, acc => acc
  | n + 1, fr, v, acc => match stepF g fr v [] with
    | (v', new) => walkF g n new v' (acc ++ new)
def asF (g : Addr → Option Obj) (n : Nat) : List Addr := walkF g n [mainGlobals] (NT.ins 20 .nil mainGlobals) [mainGlobals]
abbrev AlY : Type := Bool × List He.FnW
def obsY (fa : List Fx) (fn : List DefX) (K : PySem.W.Frag) : AlY := ((fa.all fun f => f.ok K) && fn.all fun d => d.ok K, fn.map fun d => fnY K d.at_)
def valY (fn : List DefX) : AlY := (true, fn.map DefX.val)
def SaysY (fa : List Fx) (fn : List DefX) (K : PySem.W.Frag) : Prop := obsY fa fn K = valY fn
def obsYG (n : Nat) (fa : List Fx) (fn : List DefX) (g : Addr → Option Obj) : AlY := obsY fa fn (He.frG g (asF g n))
def hookY (n : Nat) (fa : List Fx) (fn : List DefX) : PySem.W.Hook where
  α := AlY
  obs := fun s => obsYG n fa fn s.heap.get?
  val := fun _ => valY fn
  says := fun _ h => ∃ K : PySem.W.Frag, K.In h ∧ SaysY fa fn K
  of := fun _ _ e => ⟨_, He.frG_in, e⟩
  keeps := fun _ _ _ ⟨K, hK, c⟩ k => ⟨K, PySem.W.Frag.In.keeps hK k, c⟩
theorem obsYG_eq {n : Nat} {fa : List Fx} {fn : List DefX} {g : Addr → Option Obj} {s : Shared} (h : ∀ a, g a = s.heap.get? a) : obsYG n fa fn g = (hookY n fa fn).obs s := by
  have e : g = s.heap.get? := funext h
  rw [e] <;> rfl
section
variable {fa : List Fx} {fn : List DefX} {K : PySem.W.Frag}
theorem SaysY.fact (c : SaysY fa fn K) (i : Nat) {f : Fx} (h : fa[i]? = some f := by rfl) : f.ok K = true := by
  have c1 := (He.ba (show ((fa.all fun f => f.ok K) && fn.all fun d => d.ok K) = true from congrArg (fun z : AlY => z.1) c)).1
  exact List.all_eq_true.mp c1 f (List.mem_of_getElem? h)
theorem SaysY.def_ (c : SaysY fa fn K) (i : Nat) {d : DefX} (h : fn[i]? = some d := by rfl) : ∃ fd, FunD K d.name d.qual d.params d.body d.scope (d.dvs K) (d.kws K) (d.at_.ad K) fd := by
  have c2 := (He.ba (show ((fa.all fun f => f.ok K) && fn.all fun d => d.ok K) = true from congrArg (fun z : AlY => z.1) c)).2
  have e : fn.map (fun d => fnY K d.at_) = fn.map DefX.val := congrArg (fun z : AlY => z.2) c
  have e2 : (fn.map fun d => fnY K d.at_)[i]? = (fn.map DefX.val)[i]? := by rw [e]
  rw [List.getElem?_map, List.getElem?_map, h] at e2
  exact DefX.funD (Option.some.inj e2) (List.all_eq_true.mp c2 d (List.mem_of_getElem? h))
end
end DL
namespace LW
open PySem PySem.Spec PyProof.Rows L2 DL
open Evl (Ex)
abbrev Rw : PySem.W.OpenRow := PySem.W.OpenLaw.row PySem.Challenge.rw_sumslips_k50_ledgers_follow
def top (i : Nat) : Stmt := PySem.Challenge.pw_sumslips_k50_ledgers_follow.main.body.getD i (.Pass ⟨0, 0, 0, 0⟩)
abbrev s_law_pool : Stmt := top 45
abbrev N_law_pool : List Str := ["cell", "salt", "number", "mixed", "k"]
theorem sc_law_pool : FnScope N_law_pool ["cell", "salt"] (defScope s_law_pool) := ⟨rfl, rfl, rfl, by decide +kernel, rfl, by decide +kernel, by decide +kernel⟩
abbrev s_law_draw : Stmt := top 46
abbrev N_law_draw : List Str := ["pool", "many", "drawn"]
theorem sc_law_draw : FnScope N_law_draw ["pool", "many"] (defScope s_law_draw) := ⟨rfl, rfl, rfl, by decide +kernel, rfl, by decide +kernel, by decide +kernel⟩
abbrev s_law_power : Stmt := top 47
abbrev N_law_power : List Str := ["base", "many", "found", "k"]
theorem sc_law_power : FnScope N_law_power ["base", "many"] (defScope s_law_power) := ⟨rfl, rfl, rfl, by decide +kernel, rfl, by decide +kernel, by decide +kernel⟩
abbrev s_law_all_deeds : Stmt := top 48
abbrev N_law_all_deeds : List Str := ["base", "rows", "deeds", "j", "d"]
theorem sc_law_all_deeds : FnScope N_law_all_deeds ["base", "rows"] (defScope s_law_all_deeds) := ⟨rfl, rfl, rfl, by decide +kernel, rfl, by decide +kernel, by decide +kernel⟩
abbrev s_law_some_deeds : Stmt := top 49
abbrev N_law_some_deeds : List Str := ["pool", "base", "rows", "many", "left", "words", "chosen", "k", "word", "some", "act"]
theorem sc_law_some_deeds : FnScope N_law_some_deeds ["pool", "base", "rows", "many"] (defScope s_law_some_deeds) := ⟨rfl, rfl, rfl, by decide +kernel, rfl, by decide +kernel, by decide +kernel⟩
abbrev s_law_setting : Stmt := top 52
abbrev N_law_setting : List Str := ["pool", "base", "rows", "some", "deeds", "most", "lot", "k", "r", "act"]
theorem sc_law_setting : FnScope N_law_setting ["pool"] (defScope s_law_setting) := ⟨rfl, rfl, rfl, by decide +kernel, rfl, by decide +kernel, by decide +kernel⟩
abbrev s_check_lot : Stmt := top 27
abbrev N_check_lot : List Str := ["lot", "place", "divisor"]
theorem sc_check_lot : FnScope N_check_lot ["lot"] (defScope s_check_lot) := ⟨rfl, rfl, rfl, by decide +kernel, rfl, by decide +kernel, by decide +kernel⟩
abbrev s_Ledger_init : Stmt := inClass (top 38) 0
abbrev N_Ledger_init : List Str := ["self", "kind", "lot"]
theorem sc_Ledger_init : FnScope N_Ledger_init ["self", "kind", "lot"] (defScope s_Ledger_init) := ⟨rfl, rfl, rfl, by decide +kernel, rfl, by decide +kernel, by decide +kernel⟩
abbrev s_is_integer : Stmt := top 12
abbrev N_is_integer : List Str := ["value"]
theorem sc_is_integer : FnScope N_is_integer ["value"] (defScope s_is_integer) := ⟨rfl, rfl, rfl, by decide +kernel, rfl, by decide +kernel, by decide +kernel⟩
abbrev s_number_of_columns : Stmt := top 42
abbrev N_number_of_columns : List Str := ["base", "rows", "many", "j"]
theorem sc_number_of_columns : FnScope N_number_of_columns ["base", "rows"] (defScope s_number_of_columns) := ⟨rfl, rfl, rfl, by decide +kernel, rfl, by decide +kernel, by decide +kernel⟩
abbrev s_is_deed : Stmt := top 18
abbrev N_is_deed : List Str := ["value", "base", "rows", "word", "part"]
theorem sc_is_deed : FnScope N_is_deed ["value", "base", "rows"] (defScope s_is_deed) := ⟨rfl, rfl, rfl, by decide +kernel, rfl, by decide +kernel, by decide +kernel⟩
abbrev s_all_deeds : Stmt := top 17
abbrev N_all_deeds : List Str := ["base", "rows", "deeds", "d", "j"]
theorem sc_all_deeds : FnScope N_all_deeds ["base", "rows"] (defScope s_all_deeds) := ⟨rfl, rfl, rfl, by decide +kernel, rfl, by decide +kernel, by decide +kernel⟩
abbrev s_Kind_init : Stmt := inClass (top 43) 0
abbrev N_Kind_init : List Str := ["self", "base", "rows", "deeds", "most", "held", "deed"]
theorem sc_Kind_init : FnScope N_Kind_init ["self", "base", "rows", "deeds", "most"] (defScope s_Kind_init) := ⟨rfl, rfl, rfl, by decide +kernel, rfl, by decide +kernel, by decide +kernel⟩
abbrev s_Kind_alike : Stmt := inClass (top 43) 5
abbrev N_Kind_alike : List Str := ["self", "other"]
theorem sc_Kind_alike : FnScope N_Kind_alike ["self", "other"] (defScope s_Kind_alike) := ⟨rfl, rfl, rfl, by decide +kernel, rfl, by decide +kernel, by decide +kernel⟩
abbrev s_Kind_or : Stmt := inClass (top 43) 7
abbrev N_Kind_or : List Str := ["self", "other", "deeds", "most", "deed"]
theorem sc_Kind_or : FnScope N_Kind_or ["self", "other"] (defScope s_Kind_or) := ⟨rfl, rfl, rfl, by decide +kernel, rfl, by decide +kernel, by decide +kernel⟩
abbrev s_Kind_and : Stmt := inClass (top 43) 8
abbrev N_Kind_and : List Str := ["self", "other", "deeds", "most", "deed"]
theorem sc_Kind_and : FnScope N_Kind_and ["self", "other"] (defScope s_Kind_and) := ⟨rfl, rfl, rfl, by decide +kernel, rfl, by decide +kernel, by decide +kernel⟩
abbrev s_law_made : Stmt := top 53
abbrev N_law_made : List Str := ["pool", "base", "rows", "deeds", "most", "road", "split", "left", "act"]
theorem sc_law_made : FnScope N_law_made ["pool", "base", "rows", "deeds", "most"] (defScope s_law_made) := ⟨rfl, rfl, rfl, by decide +kernel, rfl, by decide +kernel, by decide +kernel⟩
abbrev s_is_column : Stmt := top 13
abbrev N_is_column : List Str := ["value", "base", "rows", "figure"]
theorem sc_is_column : FnScope N_is_column ["value", "base", "rows"] (defScope s_is_column) := ⟨rfl, rfl, rfl, by decide +kernel, rfl, by decide +kernel, by decide +kernel⟩
abbrev s_Sheet_init : Stmt := inClass (top 14) 0
abbrev N_Sheet_init : List Str := ["self", "base", "rows", "columns", "column"]
theorem sc_Sheet_init : FnScope N_Sheet_init ["self", "base", "rows", "columns"] (defScope s_Sheet_init) := ⟨rfl, rfl, rfl, by decide +kernel, rfl, by decide +kernel, by decide +kernel⟩
abbrev s_Kind_rows : Stmt := inClass (top 43) 2
abbrev N_Kind_rows : List Str := ["self"]
theorem sc_Kind_rows : FnScope N_Kind_rows ["self"] (defScope s_Kind_rows) := ⟨rfl, rfl, rfl, by decide +kernel, rfl, by decide +kernel, by decide +kernel⟩
abbrev s_Kind_base : Stmt := inClass (top 43) 1
abbrev N_Kind_base : List Str := ["self"]
theorem sc_Kind_base : FnScope N_Kind_base ["self"] (defScope s_Kind_base) := ⟨rfl, rfl, rfl, by decide +kernel, rfl, by decide +kernel, by decide +kernel⟩
abbrev s_Ledger_sheet : Stmt := inClass (top 38) 1
abbrev N_Ledger_sheet : List Str := ["self", "entry"]
theorem sc_Ledger_sheet : FnScope N_Ledger_sheet ["self"] (defScope s_Ledger_sheet) := ⟨rfl, rfl, rfl, by decide +kernel, rfl, by decide +kernel, by decide +kernel⟩
abbrev s_Sheet_base : Stmt := inClass (top 14) 1
abbrev N_Sheet_base : List Str := ["self"]
theorem sc_Sheet_base : FnScope N_Sheet_base ["self"] (defScope s_Sheet_base) := ⟨rfl, rfl, rfl, by decide +kernel, rfl, by decide +kernel, by decide +kernel⟩
abbrev s_Sheet_rows : Stmt := inClass (top 14) 2
abbrev N_Sheet_rows : List Str := ["self"]
theorem sc_Sheet_rows : FnScope N_Sheet_rows ["self"] (defScope s_Sheet_rows) := ⟨rfl, rfl, rfl, by decide +kernel, rfl, by decide +kernel, by decide +kernel⟩
abbrev s_law_alike_0 : Stmt := top 57
abbrev N_law_alike_0 : List Str := ["told", "due", "k"]
theorem sc_law_alike_0 : FnScope N_law_alike_0 ["told", "due"] (defScope s_law_alike_0) := ⟨rfl, rfl, rfl, by decide +kernel, rfl, by decide +kernel, by decide +kernel⟩
abbrev s_law_alike_1 : Stmt := top 57
abbrev N_law_alike_1 : List Str := ["told", "due", "k"]
theorem sc_law_alike_1 : FnScope N_law_alike_1 ["told", "due"] (defScope s_law_alike_1) := ⟨rfl, rfl, rfl, by decide +kernel, rfl, by decide +kernel, by decide +kernel⟩
abbrev s_law_alike_2 : Stmt := top 57
abbrev N_law_alike_2 : List Str := ["told", "due", "k"]
theorem sc_law_alike_2 : FnScope N_law_alike_2 ["told", "due"] (defScope s_law_alike_2) := ⟨rfl, rfl, rfl, by decide +kernel, rfl, by decide +kernel, by decide +kernel⟩
abbrev s_law_alike_3 : Stmt := top 57
abbrev N_law_alike_3 : List Str := ["told", "due", "k"]
theorem sc_law_alike_3 : FnScope N_law_alike_3 ["told", "due"] (defScope s_law_alike_3) := ⟨rfl, rfl, rfl, by decide +kernel, rfl, by decide +kernel, by decide +kernel⟩
abbrev s_Sheet_columns : Stmt := inClass (top 14) 3
abbrev N_Sheet_columns : List Str := ["self"]
theorem sc_Sheet_columns : FnScope N_Sheet_columns ["self"] (defScope s_Sheet_columns) := ⟨rfl, rfl, rfl, by decide +kernel, rfl, by decide +kernel, by decide +kernel⟩
abbrev s_Ledger_slips : Stmt := inClass (top 38) 2
abbrev N_Ledger_slips : List Str := ["self", "at", "entry"]
theorem sc_Ledger_slips : FnScope N_Ledger_slips ["self"] (defScope s_Ledger_slips) := ⟨rfl, rfl, rfl, by decide +kernel, rfl, by decide +kernel, by decide +kernel⟩
abbrev s_Kind_most : Stmt := inClass (top 43) 4
abbrev N_Kind_most : List Str := ["self"]
theorem sc_Kind_most : FnScope N_Kind_most ["self"] (defScope s_Kind_most) := ⟨rfl, rfl, rfl, by decide +kernel, rfl, by decide +kernel, by decide +kernel⟩
abbrev s_beginning : Stmt := top 30
abbrev N_beginning : List Str := ["kind", "lot", "divisor"]
theorem sc_beginning : FnScope N_beginning ["kind", "lot"] (defScope s_beginning) := ⟨rfl, rfl, rfl, by decide +kernel, rfl, by decide +kernel, by decide +kernel⟩
abbrev s_Ledger_standing : Stmt := inClass (top 38) 3
abbrev N_Ledger_standing : List Str := ["self"]
theorem sc_Ledger_standing : FnScope N_Ledger_standing ["self"] (defScope s_Ledger_standing) := ⟨rfl, rfl, rfl, by decide +kernel, rfl, by decide +kernel, by decide +kernel⟩
abbrev s_Ledger_waits : Stmt := inClass (top 38) 4
abbrev N_Ledger_waits : List Str := ["self"]
theorem sc_Ledger_waits : FnScope N_Ledger_waits ["self"] (defScope s_Ledger_waits) := ⟨rfl, rfl, rfl, by decide +kernel, rfl, by decide +kernel, by decide +kernel⟩
abbrev s_Ledger_len : Stmt := inClass (top 38) 5
abbrev N_Ledger_len : List Str := ["self"]
theorem sc_Ledger_len : FnScope N_Ledger_len ["self"] (defScope s_Ledger_len) := ⟨rfl, rfl, rfl, by decide +kernel, rfl, by decide +kernel, by decide +kernel⟩
abbrev s_law_look : Stmt := top 58
abbrev N_law_look : List Str := ["ledger", "base", "rows", "due", "turn", "right", "k", "what", "sheet"]
theorem sc_law_look : FnScope N_law_look ["ledger", "base", "rows", "due", "turn"] (defScope s_law_look) := ⟨rfl, rfl, rfl, by decide +kernel, rfl, by decide +kernel, by decide +kernel⟩
abbrev s_law_run : Stmt := top 50
abbrev N_law_run : List Str := ["base", "cols", "slips", "deeds", "at", "act", "figures", "waiting", "carry", "i", "column", "total", "figure"]
theorem sc_law_run : FnScope N_law_run ["base", "cols", "slips"] (defScope s_law_run) := ⟨rfl, rfl, rfl, by decide +kernel, rfl, by decide +kernel, by decide +kernel⟩
abbrev s_law_value : Stmt := top 51
abbrev N_law_value : List Str := ["base", "figures", "last", "total", "figure"]
theorem sc_law_value : FnScope N_law_value ["base", "figures", "last"] (defScope s_law_value) := ⟨rfl, rfl, rfl, by decide +kernel, rfl, by decide +kernel, by decide +kernel⟩
abbrev s_law_standing : Stmt := top 55
abbrev N_law_standing : List Str := ["base", "deeds", "lot", "most", "cols", "slips", "figures", "waiting", "carry", "digits", "before", "e", "scale", "near", "powers", "rests", "act", "column", "r"]
theorem sc_law_standing : FnScope N_law_standing ["base", "deeds", "lot", "most", "cols", "slips"] (defScope s_law_standing) := ⟨rfl, rfl, rfl, by decide +kernel, rfl, by decide +kernel, by decide +kernel⟩
abbrev s_law_column : Stmt := top 54
abbrev N_law_column : List Str := ["pool", "base", "rows", "j"]
theorem sc_law_column : FnScope N_law_column ["pool", "base", "rows"] (defScope s_law_column) := ⟨rfl, rfl, rfl, by decide +kernel, rfl, by decide +kernel, by decide +kernel⟩
abbrev s_law_possible : Stmt := top 56
abbrev N_law_possible : List Str := ["base", "deeds", "most", "cols", "slips", "column", "at", "act"]
theorem sc_law_possible : FnScope N_law_possible ["base", "deeds", "most", "cols", "slips", "column"] (defScope s_law_possible) := ⟨rfl, rfl, rfl, by decide +kernel, rfl, by decide +kernel, by decide +kernel⟩
abbrev s_Kind_contains : Stmt := inClass (top 43) 6
abbrev N_Kind_contains : List Str := ["self", "deed"]
theorem sc_Kind_contains : FnScope N_Kind_contains ["self", "deed"] (defScope s_Kind_contains) := ⟨rfl, rfl, rfl, by decide +kernel, rfl, by decide +kernel, by decide +kernel⟩
abbrev s_done_rightly : Stmt := top 33
abbrev N_done_rightly : List Str := ["base", "standing", "column", "waiting", "carry", "total", "figure"]
theorem sc_done_rightly : FnScope N_done_rightly ["base", "standing", "column"] (defScope s_done_rightly) := ⟨rfl, rfl, rfl, by decide +kernel, rfl, by decide +kernel, by decide +kernel⟩
abbrev s_is_possible : Stmt := top 31
abbrev N_is_possible : List Str := ["standing", "deed", "carry", "left", "waiting", "before"]
theorem sc_is_possible : FnScope N_is_possible ["standing", "deed", "carry"] (defScope s_is_possible) := ⟨rfl, rfl, rfl, by decide +kernel, rfl, by decide +kernel, by decide +kernel⟩
abbrev s_taken_sum : Stmt := top 32
abbrev N_taken_sum : List Str := ["base", "copies", "before", "column", "deed", "total"]
theorem sc_taken_sum : FnScope N_taken_sum ["base", "copies", "before", "column", "deed"] (defScope s_taken_sum) := ⟨rfl, rfl, rfl, by decide +kernel, rfl, by decide +kernel, by decide +kernel⟩
abbrev s_done_with : Stmt := top 34
abbrev N_done_with : List Str := ["base", "copies", "standing", "column", "deed", "word", "total", "figure", "carry"]
theorem sc_done_with : FnScope N_done_with ["base", "copies", "standing", "column", "deed"] (defScope s_done_with) := ⟨rfl, rfl, rfl, by decide +kernel, rfl, by decide +kernel, by decide +kernel⟩
abbrev s_power : Stmt := top 29
abbrev N_power : List Str := ["base", "count", "result", "turn"]
theorem sc_power : FnScope N_power ["base", "count"] (defScope s_power) := ⟨rfl, rfl, rfl, by decide +kernel, rfl, by decide +kernel, by decide +kernel⟩
abbrev s_near_behind : Stmt := top 35
abbrev N_near_behind : List Str := ["base", "gap", "near", "factor", "total", "count", "above", "below", "steps", "divisor"]
theorem sc_near_behind : FnScope N_near_behind ["base", "gap", "near", "factor", "total", "count"] (defScope s_near_behind) := ⟨rfl, rfl, rfl, by decide +kernel, rfl, by decide +kernel, by decide +kernel⟩
abbrev s_next_standing : Stmt := top 36
abbrev N_next_standing : List Str := ["base", "copies", "lot", "standing", "column", "deed", "left", "waiting", "before", "carry", "gap", "near", "rests", "outcome", "factor", "count", "total", "behind_rests", "place", "divisor", "rest", "scale", "written", "row"]
theorem sc_next_standing : FnScope N_next_standing ["base", "copies", "lot", "standing", "column", "deed"] (defScope s_next_standing) := ⟨rfl, rfl, rfl, by decide +kernel, rfl, by decide +kernel, by decide +kernel⟩
abbrev s_Kind_deeds : Stmt := inClass (top 43) 3
abbrev N_Kind_deeds : List Str := ["self"]
theorem sc_Kind_deeds : FnScope N_Kind_deeds ["self"] (defScope s_Kind_deeds) := ⟨rfl, rfl, rfl, by decide +kernel, rfl, by decide +kernel, by decide +kernel⟩
abbrev s_copy_rows : Stmt := top 28
abbrev N_copy_rows : List Str := ["kind", "deed"]
theorem sc_copy_rows : FnScope N_copy_rows ["kind"] (defScope s_copy_rows) := ⟨rfl, rfl, rfl, by decide +kernel, rfl, by decide +kernel, by decide +kernel⟩
abbrev s_Ledger_put : Stmt := inClass (top 38) 6
abbrev N_Ledger_put : List Str := ["self", "column", "deed", "kind", "result"]
theorem sc_Ledger_put : FnScope N_Ledger_put ["self", "column", "deed"] (defScope s_Ledger_put) := ⟨rfl, rfl, rfl, by decide +kernel, rfl, by decide +kernel, by decide +kernel⟩
abbrev s_Sheet_len : Stmt := inClass (top 14) 5
abbrev N_Sheet_len : List Str := ["self"]
theorem sc_Sheet_len : FnScope N_Sheet_len ["self"] (defScope s_Sheet_len) := ⟨rfl, rfl, rfl, by decide +kernel, rfl, by decide +kernel, by decide +kernel⟩
abbrev s_Sheet_setitem : Stmt := inClass (top 14) 8
abbrev N_Sheet_setitem : List Str := ["self", "at", "worth"]
theorem sc_Sheet_setitem : FnScope N_Sheet_setitem ["self", "at", "worth"] (defScope s_Sheet_setitem) := ⟨rfl, rfl, rfl, by decide +kernel, rfl, by decide +kernel, by decide +kernel⟩
abbrev s_law_spoil : Stmt := top 59
abbrev N_law_spoil : List Str := ["ledger", "slips", "sheet", "cols"]
theorem sc_law_spoil : FnScope N_law_spoil ["ledger"] (defScope s_law_spoil) := ⟨rfl, rfl, rfl, by decide +kernel, rfl, by decide +kernel, by decide +kernel⟩
abbrev s_law : Stmt := top 60
abbrev N_law : List Str := ["script", "pool", "base", "rows", "deeds", "most", "lot", "handed", "ledger", "cols", "slips", "cell", "turn", "column", "act", "possible", "told", "due"]
theorem sc_law : FnScope N_law ["script"] (defScope s_law) := ⟨rfl, rfl, rfl, by decide +kernel, rfl, by decide +kernel, by decide +kernel⟩
def df_law_pool : DefX := ⟨.glo "_law_pool", "_law_pool", "_law_pool", defArgs s_law_pool, defBody s_law_pool, defScope s_law_pool, [], []⟩
def df_law_draw : DefX := ⟨.glo "_law_draw", "_law_draw", "_law_draw", defArgs s_law_draw, defBody s_law_draw, defScope s_law_draw, [], []⟩
def df_law_power : DefX := ⟨.glo "_law_power", "_law_power", "_law_power", defArgs s_law_power, defBody s_law_power, defScope s_law_power, [], []⟩
def df_law_all_deeds : DefX := ⟨.glo "_law_all_deeds", "_law_all_deeds", "_law_all_deeds", defArgs s_law_all_deeds, defBody s_law_all_deeds, defScope s_law_all_deeds, [], []⟩
def df_law_some_deeds : DefX := ⟨.glo "_law_some_deeds", "_law_some_deeds", "_law_some_deeds", defArgs s_law_some_deeds, defBody s_law_some_deeds, defScope s_law_some_deeds, [], []⟩
def df_law_setting : DefX := ⟨.glo "_law_setting", "_law_setting", "_law_setting", defArgs s_law_setting, defBody s_law_setting, defScope s_law_setting, [], []⟩
def df_check_lot : DefX := ⟨.glo "check_lot", "check_lot", "check_lot", defArgs s_check_lot, defBody s_check_lot, defScope s_check_lot, [], []⟩
def df_Ledger_init : DefX := ⟨.met "Ledger" "__init__", "__init__", "Ledger.__init__", defArgs s_Ledger_init, defBody s_Ledger_init, defScope s_Ledger_init, [], []⟩
def df_is_integer : DefX := ⟨.glo "is_integer", "is_integer", "is_integer", defArgs s_is_integer, defBody s_is_integer, defScope s_is_integer, [], []⟩
def df_number_of_columns : DefX := ⟨.glo "number_of_columns", "number_of_columns", "number_of_columns", defArgs s_number_of_columns, defBody s_number_of_columns, defScope s_number_of_columns, [], []⟩
def df_is_deed : DefX := ⟨.glo "is_deed", "is_deed", "is_deed", defArgs s_is_deed, defBody s_is_deed, defScope s_is_deed, [], []⟩
def df_all_deeds : DefX := ⟨.glo "all_deeds", "all_deeds", "all_deeds", defArgs s_all_deeds, defBody s_all_deeds, defScope s_all_deeds, [], []⟩
def df_Kind_init : DefX := ⟨.met "Kind" "__init__", "__init__", "Kind.__init__", defArgs s_Kind_init, defBody s_Kind_init, defScope s_Kind_init, [], []⟩
def df_Kind_alike : DefX := ⟨.met "Kind" "alike", "alike", "Kind.alike", defArgs s_Kind_alike, defBody s_Kind_alike, defScope s_Kind_alike, [], []⟩
def df_Kind_or : DefX := ⟨.met "Kind" "__or__", "__or__", "Kind.__or__", defArgs s_Kind_or, defBody s_Kind_or, defScope s_Kind_or, [], []⟩
def df_Kind_and : DefX := ⟨.met "Kind" "__and__", "__and__", "Kind.__and__", defArgs s_Kind_and, defBody s_Kind_and, defScope s_Kind_and, [], []⟩
def df_law_made : DefX := ⟨.glo "_law_made", "_law_made", "_law_made", defArgs s_law_made, defBody s_law_made, defScope s_law_made, [], []⟩
def df_is_column : DefX := ⟨.glo "is_column", "is_column", "is_column", defArgs s_is_column, defBody s_is_column, defScope s_is_column, [], []⟩
def df_Sheet_init : DefX := ⟨.met "Sheet" "__init__", "__init__", "Sheet.__init__", defArgs s_Sheet_init, defBody s_Sheet_init, defScope s_Sheet_init, [], []⟩
def df_Kind_rows : DefX := ⟨.prp "Kind" "rows", "rows", "Kind.rows", defArgs s_Kind_rows, defBody s_Kind_rows, defScope s_Kind_rows, [], []⟩
def df_Kind_base : DefX := ⟨.prp "Kind" "base", "base", "Kind.base", defArgs s_Kind_base, defBody s_Kind_base, defScope s_Kind_base, [], []⟩
def df_Ledger_sheet : DefX := ⟨.prp "Ledger" "sheet", "sheet", "Ledger.sheet", defArgs s_Ledger_sheet, defBody s_Ledger_sheet, defScope s_Ledger_sheet, [], []⟩
def df_Sheet_base : DefX := ⟨.prp "Sheet" "base", "base", "Sheet.base", defArgs s_Sheet_base, defBody s_Sheet_base, defScope s_Sheet_base, [], []⟩
def df_Sheet_rows : DefX := ⟨.prp "Sheet" "rows", "rows", "Sheet.rows", defArgs s_Sheet_rows, defBody s_Sheet_rows, defScope s_Sheet_rows, [], []⟩
def df_law_alike_0 : DefX := ⟨.glo "_law_alike", "_law_alike", "_law_alike", defArgs s_law_alike_0, defBody s_law_alike_0, defScope s_law_alike_0, [], []⟩
def df_law_alike_1 : DefX := ⟨.glo "_law_alike", "_law_alike", "_law_alike", defArgs s_law_alike_1, defBody s_law_alike_1, defScope s_law_alike_1, [], []⟩
def df_law_alike_2 : DefX := ⟨.glo "_law_alike", "_law_alike", "_law_alike", defArgs s_law_alike_2, defBody s_law_alike_2, defScope s_law_alike_2, [], []⟩
def df_law_alike_3 : DefX := ⟨.glo "_law_alike", "_law_alike", "_law_alike", defArgs s_law_alike_3, defBody s_law_alike_3, defScope s_law_alike_3, [], []⟩
def df_Sheet_columns : DefX := ⟨.prp "Sheet" "columns", "columns", "Sheet.columns", defArgs s_Sheet_columns, defBody s_Sheet_columns, defScope s_Sheet_columns, [], []⟩
def df_Ledger_slips : DefX := ⟨.prp "Ledger" "slips", "slips", "Ledger.slips", defArgs s_Ledger_slips, defBody s_Ledger_slips, defScope s_Ledger_slips, [], []⟩
def df_Kind_most : DefX := ⟨.prp "Kind" "most", "most", "Kind.most", defArgs s_Kind_most, defBody s_Kind_most, defScope s_Kind_most, [], []⟩
def df_beginning : DefX := ⟨.glo "beginning", "beginning", "beginning", defArgs s_beginning, defBody s_beginning, defScope s_beginning, [], []⟩
def df_Ledger_standing : DefX := ⟨.prp "Ledger" "standing", "standing", "Ledger.standing", defArgs s_Ledger_standing, defBody s_Ledger_standing, defScope s_Ledger_standing, [], []⟩
def df_Ledger_waits : DefX := ⟨.prp "Ledger" "waits", "waits", "Ledger.waits", defArgs s_Ledger_waits, defBody s_Ledger_waits, defScope s_Ledger_waits, [], []⟩
def df_Ledger_len : DefX := ⟨.met "Ledger" "__len__", "__len__", "Ledger.__len__", defArgs s_Ledger_len, defBody s_Ledger_len, defScope s_Ledger_len, [], []⟩
def df_law_look : DefX := ⟨.glo "_law_look", "_law_look", "_law_look", defArgs s_law_look, defBody s_law_look, defScope s_law_look, [], []⟩
def df_law_run : DefX := ⟨.glo "_law_run", "_law_run", "_law_run", defArgs s_law_run, defBody s_law_run, defScope s_law_run, [], []⟩
def df_law_value : DefX := ⟨.glo "_law_value", "_law_value", "_law_value", defArgs s_law_value, defBody s_law_value, defScope s_law_value, [], []⟩
def df_law_standing : DefX := ⟨.glo "_law_standing", "_law_standing", "_law_standing", defArgs s_law_standing, defBody s_law_standing, defScope s_law_standing, [], []⟩
def df_law_column : DefX := ⟨.glo "_law_column", "_law_column", "_law_column", defArgs s_law_column, defBody s_law_column, defScope s_law_column, [], []⟩
def df_law_possible : DefX := ⟨.glo "_law_possible", "_law_possible", "_law_possible", defArgs s_law_possible, defBody s_law_possible, defScope s_law_possible, [], []⟩
def df_Kind_contains : DefX := ⟨.met "Kind" "__contains__", "__contains__", "Kind.__contains__", defArgs s_Kind_contains, defBody s_Kind_contains, defScope s_Kind_contains, [], []⟩
def df_done_rightly : DefX := ⟨.glo "done_rightly", "done_rightly", "done_rightly", defArgs s_done_rightly, defBody s_done_rightly, defScope s_done_rightly, [], []⟩
def df_is_possible : DefX := ⟨.glo "is_possible", "is_possible", "is_possible", defArgs s_is_possible, defBody s_is_possible, defScope s_is_possible, [], []⟩
def df_taken_sum : DefX := ⟨.glo "taken_sum", "taken_sum", "taken_sum", defArgs s_taken_sum, defBody s_taken_sum, defScope s_taken_sum, [], []⟩
def df_done_with : DefX := ⟨.glo "done_with", "done_with", "done_with", defArgs s_done_with, defBody s_done_with, defScope s_done_with, [], []⟩
def df_power : DefX := ⟨.glo "power", "power", "power", defArgs s_power, defBody s_power, defScope s_power, [], []⟩
def df_near_behind : DefX := ⟨.glo "near_behind", "near_behind", "near_behind", defArgs s_near_behind, defBody s_near_behind, defScope s_near_behind, [], []⟩
def df_next_standing : DefX := ⟨.glo "next_standing", "next_standing", "next_standing", defArgs s_next_standing, defBody s_next_standing, defScope s_next_standing, [], []⟩
def df_Kind_deeds : DefX := ⟨.prp "Kind" "deeds", "deeds", "Kind.deeds", defArgs s_Kind_deeds, defBody s_Kind_deeds, defScope s_Kind_deeds, [], []⟩
def df_copy_rows : DefX := ⟨.glo "copy_rows", "copy_rows", "copy_rows", defArgs s_copy_rows, defBody s_copy_rows, defScope s_copy_rows, [], []⟩
def df_Ledger_put : DefX := ⟨.met "Ledger" "put", "put", "Ledger.put", defArgs s_Ledger_put, defBody s_Ledger_put, defScope s_Ledger_put, [], [("deed", .non)]⟩
def df_Sheet_len : DefX := ⟨.met "Sheet" "__len__", "__len__", "Sheet.__len__", defArgs s_Sheet_len, defBody s_Sheet_len, defScope s_Sheet_len, [], []⟩
def df_Sheet_setitem : DefX := ⟨.met "Sheet" "__setitem__", "__setitem__", "Sheet.__setitem__", defArgs s_Sheet_setitem, defBody s_Sheet_setitem, defScope s_Sheet_setitem, [], []⟩
def df_law_spoil : DefX := ⟨.glo "_law_spoil", "_law_spoil", "_law_spoil", defArgs s_law_spoil, defBody s_law_spoil, defScope s_law_spoil, [], []⟩
def df_law : DefX := ⟨.glo "law", "law", "law", defArgs s_law, defBody s_law, defScope s_law, [], []⟩
def fns : List DefX := [df_law_pool, df_law_draw, df_law_power, df_law_all_deeds, df_law_some_deeds, df_law_setting, df_check_lot, df_Ledger_init, df_is_integer, df_number_of_columns, df_is_deed, df_all_deeds, df_Kind_init, df_Kind_alike, df_Kind_or, df_Kind_and, df_law_made, df_is_column, df_Sheet_init, df_Kind_rows, df_Kind_base, df_Ledger_sheet, df_Sheet_base, df_Sheet_rows, df_law_alike_0, df_law_alike_1, df_law_alike_2, df_law_alike_3, df_Sheet_columns, df_Ledger_slips, df_Kind_most, df_beginning, df_Ledger_standing, df_Ledger_waits, df_Ledger_len, df_law_look, df_law_run, df_law_value, df_law_standing, df_law_column, df_law_possible, df_Kind_contains, df_done_rightly, df_is_possible, df_taken_sum, df_done_with, df_power, df_near_behind, df_next_standing, df_Kind_deeds, df_copy_rows, df_Ledger_put, df_Sheet_len, df_Sheet_setitem, df_law_spoil, df_law]
def fxs : List Fx := [.fa (.glo "_law_pool"), .fa (.glo "_law_setting"), .fa (.glo "Ledger"), .fa (.glo "_law_made"), .fa (.glo "_law_look"), .fa (.glo "_law_standing"), .fa (.glo "_law_draw"), .fa (.glo "_law_column"), .fa (.glo "_law_possible"), .fa (.glo "_law_spoil"), .fa (.glo "_law_power"), .fa (.glo "_law_some_deeds"), .fa (.glo "_law_all_deeds"), .fa (.glo "check_lot"), .fa (.glo "Kind"), .fa (.glo "is_integer"), .fa (.glo "number_of_columns"), .fa (.glo "is_deed"), .fa (.glo "all_deeds"), .fa (.glo "PLAIN"), .fa (.glo "Sheet"), .fa (.glo "_law_alike"), .fa (.glo "is_column"), .fa (.glo "beginning"), .fa (.glo "_law_run"), .fa (.glo "_law_value"), .fa (.glo "next_standing"), .fa (.glo "copy_rows"), .fa (.glo "done_rightly"), .fa (.glo "done_with"), .fa (.glo "near_behind"), .fa (.glo "power"), .fa (.glo "is_possible"), .fa (.glo "taken_sum"), .fa (.glo "law"), .fa (.free "list"), .fa (.cls "Ledger"), .fa (.mkr "Ledger"), .fa (.free "len"), .fa (.meth "Ledger" "put"), .fa (.free "int"), .fa (.free "range"), .fa (.noat "Ledger" "own_kind"), .fa (.noat "Ledger" "own_lot"), .fa (.noat "Ledger" "history"), .fa (.free "isinstance"), .fa (.free "bool"), .fa (.cls "Kind"), .fa (.mkr "Kind"), .sm "Kind" "__or__", .selff "Kind", .sm "Kind" "__and__", .fa (.int "MOST_COLUMNS" 1000), .fa (.free "all"), .fa (.int "MOST_DEEDS" 8), .fa (.noat "Kind" "held_base"), .fa (.noat "Kind" "held_rows"), .fa (.noat "Kind" "held_deeds"), .fa (.noat "Kind" "held_most"), .fa (.free "tuple"), .fa (.free "str"), .tup "PLAIN" [.str "forget", .str "again", .str "swap", .str "out", .str "twice"], .fa (.meth "Kind" "alike"), .prop "Ledger" "sheet", .insc "Sheet", .fa (.cls "Sheet"), .prop "Sheet" "base", .prop "Sheet" "rows", .prop "Sheet" "columns", .prop "Ledger" "slips", .prop "Ledger" "standing", .prop "Ledger" "waits", .sm "Ledger" "__len__", .fa (.mkr "Sheet"), .prop "Kind" "rows", .prop "Kind" "base", .fa (.noat "Sheet" "held_base"), .fa (.noat "Sheet" "held_rows"), .fa (.noat "Sheet" "held_columns"), .fa (.noat "Sheet" "size"), .fa (.free "enumerate"), .prop "Kind" "most", .fa (.free "sum"), .fa (.free "min"), .sm "Kind" "__contains__", .prop "Kind" "deeds", .sm "Sheet" "__len__", .sm "Sheet" "__setitem__", .noseq "Sheet"]
abbrev hk : PySem.W.Hook := hookY 6 fxs fns
def ob (s : PySem.W.SharedT) : AlY := obsYG 6 fxs fns (HandSHeadRun.getT s)
theorem ob_eq (s : PySem.W.SharedT) : ob s = hk.obs s.abs := obsYG_eq (HandSHeadRun.getT_eq s)
def names0 : List PySem.Str := ["_wall", "__name__", "SlipError", "InvalidSheet", "InvalidColumn", "InvalidKind", "InvalidLot", "NotAlike", "NotPossible", "Waits", "InvalidSlips", "is_integer", "is_column", "Sheet", "PLAIN", "all_deeds", "is_deed", "taken", "done", "Written"]
def names1 : List PySem.Str := ["Adding", "is_slip", "add_with", "check_lot", "copy_rows", "power", "beginning", "is_possible", "taken_sum", "done_rightly", "done_with", "near_behind", "next_standing", "Ledger", "MOST_DEEDS", "MOST_COLUMNS", "number_of_columns", "Kind", "_law_pool", "_law_draw"]
def names2 : List PySem.Str := ["_law_power", "_law_all_deeds", "_law_some_deeds", "_law_run", "_law_value", "_law_setting", "_law_made", "_law_column", "_law_standing", "_law_possible", "_law_alike", "_law_look", "_law_spoil"]
def names : List PySem.Str := names0 ++ names1 ++ names2
theorem run (w : World) : HandSHeadRun.RunEq Rw (PySem.W.view Rw.prog [60]) hk ob 20000 names w := by
  intro os
  kernel_rfl
end LW
section
open PySem PySem.W PySem.Calls PyProof.Rows
set_option maxRecDepth 100000 in
set_option maxHeartbeats 8000000 in
theorem LW.headE (call : PySem.W.WalkO (view (OpenLaw.row PySem.Challenge.rw_sumslips_k50_ledgers_follow).prog [60]) LW.names (XL (view (OpenLaw.row PySem.Challenge.rw_sumslips_k50_ledgers_follow).prog [60]) []) LW.hk.says (OpenLaw.row PySem.Challenge.rw_sumslips_k50_ledgers_follow).toRowW (HandSHeadRun.topDef (OpenLaw.row PySem.Challenge.rw_sumslips_k50_ledgers_follow).prog 60) [] fun f vs => PySem.call f vs) : PySem.Challenge.rw_sumslips_k50_ledgers_follow.Holds := by
  w_on; o_law
  refine HandSHeadRun.head_any (r := OpenLaw.row PySem.Challenge.rw_sumslips_k50_ledgers_follow) (q := view (OpenLaw.row PySem.Challenge.rw_sumslips_k50_ledgers_follow).prog [60]) (H := LW.hk) (ob := LW.ob) (M := 20000) (loose := LW.names) (d := HandSHeadRun.topDef (OpenLaw.row PySem.Challenge.rw_sumslips_k50_ledgers_follow).prog 60) (kwd := []) LW.ob_eq
    (by kernel_rfl) (fun s => by kernel_rfl) LW.run (by kernel_rfl) (by kernel_rfl) (by kernel_rfl) (by rfl) (by first | assumption | decide +kernel) (by decide +kernel) ⟨rfl, rfl, rfl, rfl, rfl, by decide +kernel⟩ ?hw ?hc
  case hw => w_witness2
  case hc => exact call
end
/-! a data layer over the hand layer: values as data, lists that change as numbered cells -/
namespace DL
open PySem PySem.Spec PyProof.Rows L2
open Evl (Ex)

inductive D where
  | non
  | bl (b : Bool)
  | int (i : Int)
  | str (s : Str)
  | tup (xs : List D)
  | lst (xs : List D)
  | fro (xs : List D)
  | ins (C : Addr) (ns : List Str) (xs : List D)
  | cell (n : Nat)
  | dct
  | raw (v : V)
  | exc (C : Addr) (p : Option Int)

/-- what never changes any more, and where the cells stand -/
structure Wd where
  F : Hp
  m : List Addr
  h : List (Addr × List V)
def Wd.le (W W' : Wd) : Prop := Ex W.F W'.F ∧ (∃ more, W'.m = W.m ++ more) ∧ W'.h = W.h
theorem Wd.le_refl (W : Wd) : W.le W := ⟨Ex.refl _, ⟨[], (List.append_nil _).symm⟩, rfl⟩
theorem Wd.le.tr {W W1 W2 : Wd} (a : W.le W1) (b : W1.le W2) : W.le W2 := by
  obtain ⟨e1, ⟨m1, h1⟩, g1⟩ := a
  obtain ⟨e2, ⟨m2, h2⟩, g2⟩ := b
  exact ⟨e1.trans e2, ⟨m1 ++ m2, by rw [h2, h1, List.append_assoc]⟩, g2.trans g1⟩
theorem Wd.get_more {W W' : Wd} (l : ∃ more, W'.m = W.m ++ more) {n : Nat} {a : Addr} (h : W.m[n]? = some a) : W'.m[n]? = some a := by
  obtain ⟨more, e⟩ := l
  rw [e, List.getElem?_append_left (List.getElem?_eq_some_iff.mp h).1]
  exact h
theorem Wd.le_get {W W' : Wd} (l : W.le W') {n : Nat} {a : Addr} (h : W.m[n]? = some a) : W'.m[n]? = some a := by
  obtain ⟨_, ⟨more, e⟩, _⟩ := l
  rw [e, List.getElem?_append_left (List.getElem?_eq_some_iff.mp h).1]
  exact h

/-- an exception that is kept -/
def exV (a C : Addr) (d : Option Addr) : HO := .ext fun h => ∃ oe : Obj, h.get? a = some oe ∧ oe.cls = .ref C ∧ oe.dict = d ∧ ∃ vs, oe.data = .fields vs
def PayV (p : Option Int) (d : Option Addr) (W : Wd) : Prop := match p with
  | none => d = none
  | some i => ∃ dd, d = some dd ∧ W.F dd = some (.xd [("index", .int i)])
theorem PayV.mono {p : Option Int} {d : Option Addr} {W W' : Wd} (h : PayV p d W) (l : Ex W.F W'.F) : PayV p d W' := by
  cases p with
  | none => exact h
  | some i =>
    obtain ⟨dd, e1, e2⟩ := h
    exact ⟨dd, e1, l _ _ e2⟩
mutual
inductive R (K : PySem.W.Frag) (W : Wd) : V → D → Prop
  | non : R K W .non .non
  | bl (b : Bool) : R K W (.bl b) (.bl b)
  | int (i : Int) : R K W (.int i) (.int i)
  | str (s : Str) : R K W (.str s) (.str s)
  | tup {a : Addr} {vs : List V} {xs : List D} : SqT K W.F a vs → RAll K W vs xs → R K W (.ref a) (.tup xs)
  | lst {a : Addr} {vs : List V} {xs : List D} : W.F a = some (.lst vs) → RAll K W vs xs → R K W (.ref a) (.lst xs)
  | fro {a : Addr} {vs : List V} {xs : List D} : SqL K W.F a vs → RAll K W vs xs → R K W (.ref a) (.fro xs)
  | ins {a C dx : Addr} {gs : List (Str × V)} {xs : List D} : W.F a = some (.ins C dx gs) → RAll K W (gs.map (·.2)) xs → R K W (.ref a) (.ins C (gs.map (·.1)) xs)
  | cell {n : Nat} {a : Addr} : W.m[n]? = some a → R K W (.ref a) (.cell n)
  | dct {a : Addr} {kvs : List (Key × V)} : W.F a = some (.dK kvs) → R K W (.ref a) .dct
  | raw (v : V) : R K W v (.raw v)
  | exc {a C : Addr} {p : Option Int} {d : Option Addr} : W.F a = some (exV a C d) → PayV p d W → R K W (.ref a) (.exc C p)
inductive RAll (K : PySem.W.Frag) (W : Wd) : List V → List D → Prop
  | nil : RAll K W [] []
  | cons {v : V} {vs : List V} {d : D} {ds : List D} : R K W v d → RAll K W vs ds → RAll K W (v :: vs) (d :: ds)
end
section
variable {K : PySem.W.Frag} {W W' : Wd}
mutual
theorem R.mono' (l : Ex W.F W'.F ∧ ∃ more, W'.m = W.m ++ more) : ∀ (d : D) (v : V), R K W v d → R K W' v d
  | .non, _, h => by cases h; exact .non
  | .bl b, _, h => by cases h; exact .bl b
  | .int i, _, h => by cases h; exact .int i
  | .str s, _, h => by cases h; exact .str s
  | .tup xs, _, h => by
    cases h with
    | tup hs ha => exact .tup (Evl.ex_t l.1 hs) (RAll.mono' l xs _ ha)
  | .lst xs, _, h => by
    cases h with
    | lst hs ha => exact .lst (l.1 _ _ hs) (RAll.mono' l xs _ ha)
  | .fro xs, _, h => by
    cases h with
    | fro hs ha => exact .fro (Evl.ex_l l.1 hs) (RAll.mono' l xs _ ha)
  | .ins C ns xs, _, h => by
    cases h with
    | ins hs ha => exact .ins (l.1 _ _ hs) (RAll.mono' l xs _ ha)
  | .cell n, _, h => by
    cases h with
    | cell hs => exact .cell (Wd.get_more l.2 hs)
  | .dct, _, h => by
    cases h with
    | dct hs => exact .dct (l.1 _ _ hs)
  | .raw v, _, h => by cases h; exact .raw v
  | .exc C p, _, h => by
    cases h with
    | exc hs hp => exact .exc (l.1 _ _ hs) (hp.mono l.1)
theorem RAll.mono' (l : Ex W.F W'.F ∧ ∃ more, W'.m = W.m ++ more) : ∀ (ds : List D) (vs : List V), RAll K W vs ds → RAll K W' vs ds
  | [], _, h => by cases h; exact .nil
  | d :: ds, _, h => by
    cases h with
    | cons h1 h2 => exact .cons (R.mono' l d _ h1) (RAll.mono' l ds _ h2)
end
theorem R.mono (l : W.le W') (d : D) (v : V) (h : R K W v d) : R K W' v d := R.mono' ⟨l.1, l.2.1⟩ d v h
theorem RAll.mono (l : W.le W') (ds : List D) (vs : List V) (h : RAll K W vs ds) : RAll K W' vs ds := RAll.mono' ⟨l.1, l.2.1⟩ ds vs h
/-- what the relation leans on -/
theorem R.world {d : D} {v : V} (h : R K W v d) (hF : W'.F = W.F) (hm : W'.m = W.m) : R K W' v d := R.mono' (W := W) ⟨by rw [hF]; exact Ex.refl _, [], by rw [hm, List.append_nil]⟩ d v h
theorem RAll.world {ds : List D} {vs : List V} (h : RAll K W vs ds) (hF : W'.F = W.F) (hm : W'.m = W.m) : RAll K W' vs ds := RAll.mono' (W := W) ⟨by rw [hF]; exact Ex.refl _, [], by rw [hm, List.append_nil]⟩ ds vs h
theorem RAll.length : ∀ {vs : List V} {ds : List D}, RAll K W vs ds → vs.length = ds.length
  | _, _, .nil => rfl
  | _, _, .cons _ t => by rw [List.length_cons, List.length_cons, RAll.length t]
theorem RAll.get : ∀ {vs : List V} {ds : List D} {i : Nat} {d : D}, RAll K W vs ds → ds[i]? = some d → ∃ v, vs[i]? = some v ∧ R K W v d
  | _, _, _, _, .nil, e => by simp at e
  | _, _, 0, _, .cons r _, e => by simp at e; subst e; exact ⟨_, rfl, r⟩
  | _, _, i + 1, d, .cons _ t, e => by
    obtain ⟨v, h1, h2⟩ := RAll.get (i := i) (d := d) t (by simpa using e)
    exact ⟨v, by simpa using h1, h2⟩
theorem RAll.get' : ∀ {vs : List V} {ds : List D} {i : Nat} {v : V}, RAll K W vs ds → vs[i]? = some v → ∃ d, ds[i]? = some d ∧ R K W v d
  | _, _, _, _, .nil, e => by simp at e
  | _, _, 0, _, .cons r _, e => by simp at e; subst e; exact ⟨_, rfl, r⟩
  | _, _, i + 1, v, .cons _ t, e => by
    obtain ⟨d, h1, h2⟩ := RAll.get' (i := i) (v := v) t (by simpa using e)
    exact ⟨d, by simpa using h1, h2⟩
theorem RAll.set {v : V} {d : D} (r : R K W v d) : ∀ {vs : List V} {ds : List D} (i : Nat), RAll K W vs ds → RAll K W (vs.set i v) (ds.set i d)
  | _, _, _, .nil => .nil
  | _, _, 0, .cons _ t => .cons r t
  | _, _, i + 1, .cons q t => .cons q (RAll.set r i t)
theorem RAll.append : ∀ {vs ws : List V} {ds es : List D}, RAll K W vs ds → RAll K W ws es → RAll K W (vs ++ ws) (ds ++ es)
  | _, _, _, _, .nil, s => s
  | _, _, _, _, .cons r t, s => .cons r (RAll.append t s)
theorem RAll.take : ∀ {vs : List V} {ds : List D} (n : Nat), RAll K W vs ds → RAll K W (vs.take n) (ds.take n)
  | _, _, 0, _ => .nil
  | _, _, _ + 1, .nil => .nil
  | _, _, n + 1, .cons r t => .cons r (RAll.take n t)
theorem RAll.drop : ∀ {vs : List V} {ds : List D} (n : Nat), RAll K W vs ds → RAll K W (vs.drop n) (ds.drop n)
  | _, _, 0, r => r
  | _, _, _ + 1, .nil => .nil
  | _, _, n + 1, .cons _ t => RAll.drop n t
theorem RAll.reverse : ∀ {vs : List V} {ds : List D}, RAll K W vs ds → RAll K W vs.reverse ds.reverse
  | _, _, .nil => .nil
  | _, _, .cons r t => by
    rw [List.reverse_cons, List.reverse_cons]
    exact (RAll.reverse t).append (.cons r .nil)
theorem RAll.dropLast : ∀ {vs : List V} {ds : List D}, RAll K W vs ds → RAll K W vs.dropLast ds.dropLast
  | _, _, .nil => .nil
  | _, _, .cons _ .nil => .nil
  | _, _, .cons r (.cons q t) => .cons r (RAll.dropLast (.cons q t))
theorem RAll.app1 {vs : List V} {ds : List D} {v : V} {d : D} (h : RAll K W vs ds) (r : R K W v d) : RAll K W (vs ++ [v]) (ds ++ [d]) := h.append (.cons r .nil)
theorem RAll.snoc_inv : ∀ {vs : List V} {ds : List D} {d : D}, RAll K W vs (ds ++ [d]) → ∃ ws v, vs = ws ++ [v] ∧ RAll K W ws ds ∧ R K W v d
  | _, [], _, h => by
    cases h with
    | cons r t => cases t; exact ⟨[], _, rfl, .nil, r⟩
  | _, x :: ds, _, h => by
    cases h with
    | cons r t =>
      obtain ⟨ws, v, e, h1, h2⟩ := RAll.snoc_inv t
      subst e
      exact ⟨_ :: ws, v, rfl, .cons r h1, h2⟩
theorem RAll.ints : ∀ (ns : List Int), RAll K W (ns.map V.int) (ns.map D.int)
  | [] => .nil
  | n :: ns => .cons (.int n) (RAll.ints ns)
theorem RAll.ints_inv : ∀ {ns : List Int} {vs : List V}, RAll K W vs (ns.map D.int) → vs = ns.map V.int
  | [], _, h => by cases h; rfl
  | n :: ns, _, h => by
    cases h with
    | cons r t => cases r; rw [RAll.ints_inv t]; rfl
theorem RAll.bls_inv : ∀ {ns : List Bool} {vs : List V}, RAll K W vs (ns.map D.bl) → vs = ns.map V.bl
  | [], _, h => by cases h; rfl
  | n :: ns, _, h => by
    cases h with
    | cons r t => cases r; rw [RAll.bls_inv t]; rfl
theorem RAll.strs_inv : ∀ {ns : List Str} {vs : List V}, RAll K W vs (ns.map D.str) → vs = ns.map V.str
  | [], _, h => by cases h; rfl
  | n :: ns, _, h => by
    cases h with
    | cons r t => cases r; rw [RAll.strs_inv t]; rfl
end

/-- a cell: a list or an instance that changes; a dead one is known no more -/
inductive Cel where
  | dead
  | lst (xs : List D)
  | ins (C : Addr) (ns : List Str) (xs : List D)
  | dic (kxs : List (Int × D))

/-- a dict's pairs, int keys -/
inductive RKs (K : PySem.W.Frag) (W : Wd) : List (Key × V) → List (Int × D) → Prop
  | nil : RKs K W [] []
  | cons {k : Int} {v : V} {d : D} {ps : List (Key × V)} {kxs : List (Int × D)} : R K W v d → RKs K W ps kxs → RKs K W ((.inl k, v) :: ps) ((k, d) :: kxs)
theorem RKs.mono' {K : PySem.W.Frag} {W W' : Wd} (l : Ex W.F W'.F ∧ ∃ more, W'.m = W.m ++ more) : ∀ {ps : List (Key × V)} {kxs : List (Int × D)}, RKs K W ps kxs → RKs K W' ps kxs
  | _, _, .nil => .nil
  | _, _, .cons r t => .cons (R.mono' l _ _ r) (RKs.mono' l t)
theorem RKs.mono {K : PySem.W.Frag} {W W' : Wd} (l : W.le W') {ps : List (Key × V)} {kxs : List (Int × D)} (h : RKs K W ps kxs) : RKs K W' ps kxs := h.mono' ⟨l.1, l.2.1⟩
theorem RKs.world {K : PySem.W.Frag} {W W' : Wd} {ps : List (Key × V)} {kxs : List (Int × D)} (h : RKs K W ps kxs) (hF : W'.F = W.F) (hm : W'.m = W.m) : RKs K W' ps kxs := h.mono' (W := W) ⟨by rw [hF]; exact Ex.refl _, [], by rw [hm, List.append_nil]⟩

def ClOk (K : PySem.W.Frag) (W : Wd) (H : Hp) (a : Addr) : Cel → Prop
  | .dead => True
  | .lst xs => ∃ vs, H a = some (.lst vs) ∧ RAll K W vs xs
  | .ins C ns xs => ∃ dx gs, H a = some (.ins C dx gs) ∧ gs.map (·.1) = ns ∧ RAll K W (gs.map (·.2)) xs
  | .dic kxs => ∃ ps, H a = some (.dK ps) ∧ RKs K W ps kxs

structure Ok (K : PySem.W.Frag) (W : Wd) (H : Hp) (cs : List Cel) : Prop where
  ex : Ex W.F H
  len : W.m.length = cs.length
  nd : W.m.Nodup
  here : ∀ a ∈ W.m, ∃ o, H a = some o
  fr : ∀ (n : Nat) (a : Addr) (c : Cel), W.m[n]? = some a → cs[n]? = some c → c = .dead ∨ W.F a = none
  cl : ∀ (n : Nat) (a : Addr) (c : Cel), W.m[n]? = some a → cs[n]? = some c → ClOk K W H a c
  hd : ∀ p ∈ W.h, H p.1 = some (.lst p.2) ∧ W.F p.1 = none ∧ p.1 ∉ W.m
  hn : (W.h.map (·.1)).Nodup

def SlO (K : PySem.W.Frag) (W : Wd) (σ : L2.St) (sl : List (Option D)) : Prop :=
  σ.length = sl.length ∧ ∀ (i : Nat) (d : D), sl[i]? = some (some d) → ∃ v, σ[i]? = some (some v) ∧ R K W v d

structure En where
  sl : List (Option D)
  cs : List Cel
structure Sd (K : PySem.W.Frag) (W : Wd) (H : Hp) (σ : L2.St) (e : En) : Prop where
  ok : Ok K W H e.cs
  sl : SlO K W σ e.sl

section
variable {K : PySem.W.Frag} {W W' : Wd} {H H' : Hp} {cs cs' : List Cel} {σ : L2.St} {sl : List (Option D)} {e : En}
theorem ClOk.mono (l : W.le W') {a : Addr} : ∀ {c : Cel}, ClOk K W H a c → ClOk K W' H a c
  | .dead, _ => trivial
  | .lst _, ⟨vs, h, r⟩ => ⟨vs, h, RAll.mono l _ _ r⟩
  | .ins _ _ _, ⟨dx, gs, h, e, r⟩ => ⟨dx, gs, h, e, RAll.mono l _ _ r⟩
  | .dic _, ⟨ps, h, r⟩ => ⟨ps, h, r.mono l⟩
theorem ClOk.world {a : Addr} (hF : W'.F = W.F) (hm : W'.m = W.m) : ∀ {c : Cel}, ClOk K W H a c → ClOk K W' H a c
  | .dead, _ => trivial
  | .lst _, ⟨vs, h, r⟩ => ⟨vs, h, r.world hF hm⟩
  | .ins _ _ _, ⟨dx, gs, h, e, r⟩ => ⟨dx, gs, h, e, r.world hF hm⟩
  | .dic _, ⟨ps, h, r⟩ => ⟨ps, h, r.world hF hm⟩
theorem ClOk.to {a : Addr} {c : Cel} (x : ClOk K W H a c) (hF : W'.F = W.F) (hm : W'.m = W.m) : ClOk K W' H a c := ClOk.world hF hm x
theorem ClOk.heap {a : Addr} (e : H' a = H a) : ∀ {c : Cel}, ClOk K W H a c → ClOk K W H' a c
  | .dead, _ => trivial
  | .lst _, ⟨vs, h, r⟩ => ⟨vs, e.trans h, r⟩
  | .ins _ _ _, ⟨dx, gs, h, e', r⟩ => ⟨dx, gs, e.trans h, e', r⟩
  | .dic _, ⟨ps, h, r⟩ => ⟨ps, e.trans h, r⟩
theorem SlO.mono (l : W.le W') (h : SlO K W σ sl) : SlO K W' σ sl :=
  ⟨h.1, fun i d e => let ⟨v, a, b⟩ := h.2 i d e; ⟨v, a, R.mono l _ _ b⟩⟩
theorem SlO.set {i : Nat} {v : V} {d : D} (h : SlO K W σ sl) (r : R K W v d) : SlO K W (σ.set i (some v)) (sl.set i (some d)) := by
  refine ⟨by simp [h.1], fun j d' e => ?_⟩
  rw [List.getElem?_set] at e
  by_cases hij : i = j
  · subst hij
    rw [if_pos rfl] at e
    split at e
    · rename_i hl
      cases e
      exact ⟨v, by rw [List.getElem?_set_self (h.1 ▸ hl)], r⟩
    · cases e
  · rw [if_neg hij] at e
    obtain ⟨v', a, b⟩ := h.2 j d' e
    exact ⟨v', by rw [List.getElem?_set_ne hij]; exact a, b⟩
theorem Ok.fresh (h : Ok K W H cs) {p : Addr} (hp : H p = none) : p ∉ W.m := fun hm => by
  obtain ⟨o, e⟩ := h.here p hm
  rw [hp] at e; cases e
/-- a new object that never changes -/
theorem Ok.newF (h : Ok K W H cs) {p : Addr} {o : HO} (hp : H p = none) : Ok K ⟨upd W.F p o, W.m, W.h⟩ (upd H p o) cs ∧ W.le ⟨upd W.F p o, W.m, W.h⟩ := by
  have hF : W.F p = none := Evl.fresh_back h.ex hp
  have l : W.le ⟨upd W.F p o, W.m, W.h⟩ := ⟨Ex.new hF, ⟨[], (List.append_nil _).symm⟩, rfl⟩
  have ne : ∀ a ∈ W.m, a ≠ p := fun a ha e => h.fresh hp (e ▸ ha)
  have nem : ∀ {n : Nat} {a : Addr}, W.m[n]? = some a → a ≠ p := fun e => ne _ (List.mem_of_getElem? e)
  have neh : ∀ q ∈ W.h, q.1 ≠ p := fun q hq e => by
    have := (h.hd q hq).1
    rw [e, hp] at this; cases this
  refine ⟨⟨fun a u e => ?_, h.len, h.nd, fun a ha => ?_, fun n a c e1 e2 => ?_, fun n a c e1 e2 => ?_, fun q hq => ?_, h.hn⟩, l⟩
  · have e : upd W.F p o a = some u := e
    by_cases q : a = p
    · subst q; rw [upd_same] at e ⊢; exact e
    · rw [upd_ne q] at e ⊢; exact h.ex a u e
  · rw [upd_ne (ne a ha)]; exact h.here a ha
  · rcases h.fr n a c e1 e2 with q | q
    · exact .inl q
    · exact .inr (by show upd W.F p o a = none; rw [upd_ne (nem e1)]; exact q)
  · exact ((h.cl n a c e1 e2).heap (upd_ne (nem e1))).mono l
  · obtain ⟨h1, h2, h3⟩ := h.hd q hq
    exact ⟨by rw [upd_ne (neh q hq)]; exact h1, by show upd W.F p o q.1 = none; rw [upd_ne (neh q hq)]; exact h2, h3⟩
/-- a new cell -/
theorem Ok.newC (h : Ok K W H cs) {p : Addr} {o : HO} {c : Cel} (hp : H p = none) (hc : ∀ W', W.le W' → ClOk K W' (upd H p o) p c) : Ok K ⟨W.F, W.m ++ [p], W.h⟩ (upd H p o) (cs ++ [c]) ∧ W.le ⟨W.F, W.m ++ [p], W.h⟩ := by
  have hF : W.F p = none := Evl.fresh_back h.ex hp
  have l : W.le ⟨W.F, W.m ++ [p], W.h⟩ := ⟨Ex.refl _, ⟨[p], rfl⟩, rfl⟩
  have ne : ∀ a ∈ W.m, a ≠ p := fun a ha e => h.fresh hp (e ▸ ha)
  have cases' : ∀ {n : Nat} {a : Addr} {c' : Cel}, (W.m ++ [p])[n]? = some a → (cs ++ [c])[n]? = some c' → (W.m[n]? = some a ∧ cs[n]? = some c') ∨ (a = p ∧ c' = c) := fun {n a c'} e1 e2 => by
    by_cases hn : n < W.m.length
    · rw [List.getElem?_append_left hn] at e1
      rw [List.getElem?_append_left (h.len ▸ hn)] at e2
      exact .inl ⟨e1, e2⟩
    · have hn' : W.m.length ≤ n := Nat.le_of_not_lt hn
      rw [List.getElem?_append_right hn'] at e1
      rw [List.getElem?_append_right (h.len ▸ hn')] at e2
      rw [← h.len] at e2
      cases hk : n - W.m.length with
      | zero => rw [hk] at e1 e2; simp at e1 e2; exact .inr ⟨e1.symm, e2.symm⟩
      | succ k => rw [hk] at e1; simp at e1
  have neh : ∀ q ∈ W.h, q.1 ≠ p := fun q hq e => by
    have := (h.hd q hq).1
    rw [e, hp] at this; cases this
  refine ⟨⟨h.ex.trans (Ex.new hp), by simp [h.len], ?_, fun a ha => ?_, fun n a c' e1 e2 => ?_, fun n a c' e1 e2 => ?_, fun q hq => ?_, h.hn⟩, l⟩
  · show (W.m ++ [p]).Nodup
    rw [List.nodup_append]
    exact ⟨h.nd, by simp, fun a ha b hb => by rw [List.mem_singleton.mp hb]; exact ne a ha⟩
  · rcases List.mem_append.mp ha with ha | ha
    · rw [upd_ne (ne a ha)]; exact h.here a ha
    · rw [List.mem_singleton.mp ha]; exact ⟨o, upd_same⟩
  · rcases cases' e1 e2 with ⟨q1, q2⟩ | ⟨rfl, rfl⟩
    · exact h.fr n a c' q1 q2
    · exact .inr hF
  · rcases cases' e1 e2 with ⟨q1, q2⟩ | ⟨rfl, rfl⟩
    · exact ((h.cl n a c' q1 q2).heap (upd_ne (ne a (List.mem_of_getElem? q1)))).mono l
    · exact hc _ l
  · obtain ⟨h1, h2, h3⟩ := h.hd q hq
    exact ⟨by rw [upd_ne (neh q hq)]; exact h1, h2, fun hm => (List.mem_append.mp hm).elim h3 fun z => neh q hq (List.mem_singleton.mp z)⟩
/-- a cell is written -/
theorem Ok.setC (h : Ok K W H cs) {n : Nat} {a : Addr} {c c' : Cel} {o : HO} (hm : W.m[n]? = some a) (hc : cs[n]? = some c) (nd : c ≠ .dead) (hc' : ClOk K W (upd H a o) a c') : Ok K W (upd H a o) (cs.set n c') := by
  have hF : W.F a = none := (h.fr n a c hm hc).resolve_left nd
  have inj : ∀ {k : Nat} {b : Addr}, W.m[k]? = some b → k ≠ n → b ≠ a := fun {k b} e hk z => by
    subst z
    obtain ⟨h1, e1⟩ := List.getElem?_eq_some_iff.mp e
    obtain ⟨h2, e2⟩ := List.getElem?_eq_some_iff.mp hm
    exact hk ((List.getElem_inj h.nd).mp (e1.trans e2.symm))
  have neh : ∀ q ∈ W.h, q.1 ≠ a := fun q hq e => (h.hd q hq).2.2 (e ▸ List.mem_of_getElem? hm)
  refine ⟨h.ex.mut hF, by simp [h.len], h.nd, fun b hb => ?_, fun k b c2 e1 e2 => ?_, fun k b c2 e1 e2 => ?_, fun q hq => ?_, h.hn⟩
  · by_cases q : b = a
    · subst q; exact ⟨o, upd_same⟩
    · rw [upd_ne q]; exact h.here b hb
  · by_cases hk : k = n
    · subst hk
      rw [hm] at e1; cases e1
      exact .inr hF
    · rw [List.getElem?_set_ne (Ne.symm hk)] at e2
      exact h.fr k b c2 e1 e2
  · by_cases hk : k = n
    · subst hk
      rw [hm] at e1; cases e1
      have hl : k < cs.length := (List.getElem?_eq_some_iff.mp hc).1
      rw [List.getElem?_set_self hl] at e2; cases e2
      exact hc'
    · rw [List.getElem?_set_ne (Ne.symm hk)] at e2
      exact (h.cl k b c2 e1 e2).heap (upd_ne (inj e1 hk))
  · obtain ⟨h1, h2, h3⟩ := h.hd q hq
    exact ⟨by rw [upd_ne (neh q hq)]; exact h1, h2, h3⟩
/-- a list's cell changes no more -/
theorem Ok.freeze (h : Ok K W H cs) {n : Nat} {a : Addr} {vs : List V} {xs : List D} (hm : W.m[n]? = some a) (hc : cs[n]? = some (.lst xs)) (hv : H a = some (.lst vs)) :
    Ok K ⟨upd W.F a (.lst vs), W.m, W.h⟩ H (cs.set n .dead) ∧ W.le ⟨upd W.F a (.lst vs), W.m, W.h⟩ := by
  have hF : W.F a = none := (h.fr n a _ hm hc).resolve_left (fun z => nomatch z)
  have l : W.le ⟨upd W.F a (.lst vs), W.m, W.h⟩ := ⟨Ex.new hF, ⟨[], (List.append_nil _).symm⟩, rfl⟩
  have inj : ∀ {k : Nat} {b : Addr}, W.m[k]? = some b → k ≠ n → b ≠ a := fun {k b} e hk z => by
    subst z
    obtain ⟨h1, e1⟩ := List.getElem?_eq_some_iff.mp e
    obtain ⟨h2, e2⟩ := List.getElem?_eq_some_iff.mp hm
    exact hk ((List.getElem_inj h.nd).mp (e1.trans e2.symm))
  have neh : ∀ q ∈ W.h, q.1 ≠ a := fun q hq e => (h.hd q hq).2.2 (e ▸ List.mem_of_getElem? hm)
  refine ⟨⟨fun b u e => ?_, by simp [h.len], h.nd, h.here, fun k b c2 e1 e2 => ?_, fun k b c2 e1 e2 => ?_, fun q hq => ?_, h.hn⟩, l⟩
  · have e : upd W.F a (.lst vs) b = some u := e
    by_cases q : b = a
    · subst q; rw [upd_same] at e; rw [hv]; exact e
    · rw [upd_ne q] at e; exact h.ex b u e
  · by_cases hk : k = n
    · subst hk
      have hl : k < cs.length := (List.getElem?_eq_some_iff.mp hc).1
      rw [List.getElem?_set_self hl] at e2; cases e2
      exact .inl rfl
    · rw [List.getElem?_set_ne (Ne.symm hk)] at e2
      rcases h.fr k b c2 e1 e2 with q | q
      · exact .inl q
      · exact .inr (by show upd W.F a _ b = none; rw [upd_ne (inj e1 hk)]; exact q)
  · by_cases hk : k = n
    · subst hk
      have hl : k < cs.length := (List.getElem?_eq_some_iff.mp hc).1
      rw [List.getElem?_set_self hl] at e2; cases e2
      trivial
    · rw [List.getElem?_set_ne (Ne.symm hk)] at e2
      exact (h.cl k b c2 e1 e2).mono l
  · obtain ⟨h1, h2, h3⟩ := h.hd q hq
    exact ⟨h1, by show upd W.F a _ q.1 = none; rw [upd_ne (neh q hq)]; exact h2, h3⟩
/-- a hidden list: laid, grown, given up -/
theorem Ok.hide (h : Ok K W H cs) {p : Addr} (hp : H p = none) {vs : List V} : Ok K ⟨W.F, W.m, (p, vs) :: W.h⟩ (upd H p (.lst vs)) cs := by
  have hF : W.F p = none := Evl.fresh_back h.ex hp
  have ne : ∀ a ∈ W.m, a ≠ p := fun a ha e => h.fresh hp (e ▸ ha)
  have neh : ∀ q ∈ W.h, q.1 ≠ p := fun q hq e => by
    have := (h.hd q hq).1
    rw [e, hp] at this; cases this
  refine ⟨h.ex.trans (Ex.new hp), h.len, h.nd, fun a ha => by rw [upd_ne (ne a ha)]; exact h.here a ha, h.fr, fun n a c e1 e2 => ?_, fun q hq => ?_, ?_⟩
  · have := (h.cl n a c e1 e2).heap (H' := upd H p (.lst vs)) (upd_ne (ne a (List.mem_of_getElem? e1)))
    exact ClOk.to this rfl rfl
  · rcases List.mem_cons.mp hq with rfl | hq
    · exact ⟨upd_same, hF, h.fresh hp⟩
    · obtain ⟨h1, h2, h3⟩ := h.hd q hq
      exact ⟨by rw [upd_ne (neh q hq)]; exact h1, h2, h3⟩
  · show ((p :: W.h.map (·.1))).Nodup
    refine List.nodup_cons.mpr ⟨fun hm => ?_, h.hn⟩
    obtain ⟨q, hq, e⟩ := List.mem_map.mp hm
    exact neh q hq e
theorem Ok.grow {F : Hp} {m : List Addr} {hh : List (Addr × List V)} {p : Addr} {vs vs' : List V} (h : Ok K ⟨F, m, (p, vs) :: hh⟩ H cs) : Ok K ⟨F, m, (p, vs') :: hh⟩ (upd H p (.lst vs')) cs := by
  obtain ⟨h1, h2, h3⟩ := h.hd (p, vs) List.mem_cons_self
  have ne : ∀ a ∈ m, a ≠ p := fun a ha e => h3 (e ▸ ha)
  have hn : (p :: hh.map (·.1)).Nodup := h.hn
  have neh : ∀ q ∈ hh, q.1 ≠ p := fun q hq e => (List.nodup_cons.mp hn).1 (List.mem_map.mpr ⟨q, hq, e⟩)
  refine ⟨h.ex.mut h2, h.len, h.nd, fun a ha => by rw [upd_ne (ne a ha)]; exact h.here a ha, h.fr, fun n a c e1 e2 => ?_, fun q hq => ?_, h.hn⟩
  · have := (h.cl n a c e1 e2).heap (H' := upd H p (.lst vs')) (upd_ne (ne a (List.mem_of_getElem? e1)))
    exact ClOk.to this rfl rfl
  · rcases List.mem_cons.mp hq with rfl | hq
    · exact ⟨upd_same, h2, h3⟩
    · obtain ⟨g1, g2, g3⟩ := h.hd q (List.mem_cons_of_mem _ hq)
      exact ⟨by rw [upd_ne (neh q hq)]; exact g1, g2, g3⟩
/-- .. it changes no more -/
theorem Ok.showF {F : Hp} {m : List Addr} {hh : List (Addr × List V)} {p : Addr} {vs : List V} (h : Ok K ⟨F, m, (p, vs) :: hh⟩ H cs) : Ok K ⟨upd F p (.lst vs), m, hh⟩ H cs ∧ (⟨F, m, hh⟩ : Wd).le ⟨upd F p (.lst vs), m, hh⟩ := by
  obtain ⟨h1, h2, h3⟩ := h.hd (p, vs) List.mem_cons_self
  have ne : ∀ a ∈ m, a ≠ p := fun a ha e => h3 (e ▸ ha)
  have hn : (p :: hh.map (·.1)).Nodup := h.hn
  have neh : ∀ q ∈ hh, q.1 ≠ p := fun q hq e => (List.nodup_cons.mp hn).1 (List.mem_map.mpr ⟨q, hq, e⟩)
  have l : (⟨F, m, hh⟩ : Wd).le ⟨upd F p (.lst vs), m, hh⟩ := ⟨Ex.new h2, ⟨[], (List.append_nil _).symm⟩, rfl⟩
  refine ⟨⟨fun a u e => ?_, h.len, h.nd, h.here, fun n a c e1 e2 => ?_, fun n a c e1 e2 => ?_, fun q hq => ?_, (List.nodup_cons.mp hn).2⟩, l⟩
  · have e : upd F p (.lst vs) a = some u := e
    by_cases q : a = p
    · subst q; rw [upd_same] at e; rw [h1]; exact e
    · rw [upd_ne q] at e; exact h.ex a u e
  · rcases h.fr n a c e1 e2 with q | q
    · exact .inl q
    · exact .inr (by show upd F p _ a = none; rw [upd_ne (ne a (List.mem_of_getElem? e1))]; exact q)
  · exact (ClOk.to (W' := ⟨F, m, hh⟩) (h.cl n a c e1 e2) rfl rfl).mono l
  · obtain ⟨g1, g2, g3⟩ := h.hd q (List.mem_cons_of_mem _ hq)
    exact ⟨g1, by show upd F p _ q.1 = none; rw [upd_ne (neh q hq)]; exact g2, g3⟩
/-- .. it is a cell -/
theorem Ok.showC {F : Hp} {m : List Addr} {hh : List (Addr × List V)} {p : Addr} {vs : List V} {xs : List D} (h : Ok K ⟨F, m, (p, vs) :: hh⟩ H cs) (r : RAll K ⟨F, m, hh⟩ vs xs) : Ok K ⟨F, m ++ [p], hh⟩ H (cs ++ [.lst xs]) ∧ (⟨F, m, hh⟩ : Wd).le ⟨F, m ++ [p], hh⟩ := by
  obtain ⟨h1, h2, h3⟩ := h.hd (p, vs) List.mem_cons_self
  have hn : (p :: hh.map (·.1)).Nodup := h.hn
  have neh : ∀ q ∈ hh, q.1 ≠ p := fun q hq e => (List.nodup_cons.mp hn).1 (List.mem_map.mpr ⟨q, hq, e⟩)
  have l : (⟨F, m, hh⟩ : Wd).le ⟨F, m ++ [p], hh⟩ := ⟨Ex.refl _, ⟨[p], rfl⟩, rfl⟩
  have hl : m.length = cs.length := h.len
  have cases' : ∀ {n : Nat} {a : Addr} {c' : Cel}, (m ++ [p])[n]? = some a → (cs ++ [.lst xs])[n]? = some c' → (m[n]? = some a ∧ cs[n]? = some c') ∨ (a = p ∧ c' = .lst xs) := fun {n a c'} e1 e2 => by
    by_cases hn : n < m.length
    · rw [List.getElem?_append_left hn] at e1
      rw [List.getElem?_append_left (hl ▸ hn)] at e2
      exact .inl ⟨e1, e2⟩
    · have hn' : m.length ≤ n := Nat.le_of_not_lt hn
      rw [List.getElem?_append_right hn'] at e1
      rw [List.getElem?_append_right (hl ▸ hn')] at e2
      rw [← hl] at e2
      cases hk : n - m.length with
      | zero => rw [hk] at e1 e2; simp at e1 e2; exact .inr ⟨e1.symm, e2.symm⟩
      | succ k => rw [hk] at e1; simp at e1
  refine ⟨⟨h.ex, by simp [hl], ?_, fun a ha => ?_, fun n a c e1 e2 => ?_, fun n a c e1 e2 => ?_, fun q hq => ?_, (List.nodup_cons.mp hn).2⟩, l⟩
  · show (m ++ [p]).Nodup
    rw [List.nodup_append]
    exact ⟨h.nd, by simp, fun a ha b hb e => by rw [List.mem_singleton.mp hb] at e; exact h3 (e ▸ ha)⟩
  · rcases List.mem_append.mp ha with ha | ha
    · exact h.here a ha
    · rw [List.mem_singleton.mp ha]; exact ⟨_, h1⟩
  · rcases cases' e1 e2 with ⟨q1, q2⟩ | ⟨rfl, rfl⟩
    · exact h.fr n a c q1 q2
    · exact .inr h2
  · rcases cases' e1 e2 with ⟨q1, q2⟩ | ⟨rfl, rfl⟩
    · exact (ClOk.to (W' := ⟨F, m, hh⟩) (h.cl n a c q1 q2) rfl rfl).mono l
    · exact ⟨vs, h1, RAll.mono l _ _ r⟩
  · obtain ⟨g1, g2, g3⟩ := h.hd q (List.mem_cons_of_mem _ hq)
    exact ⟨g1, g2, fun hm => (List.mem_append.mp hm).elim g3 fun z => neh q hq (List.mem_singleton.mp z)⟩
theorem Sd.mono (h : Sd K W H σ e) (l : W.le W') (ok : Ok K W' H' cs) : Sd K W' H' σ { e with cs := cs } := ⟨ok, h.sl.mono l⟩
end

/-! ### looking at lists -/
def lk (cs : List Cel) : D → Option (List D)
  | .lst xs => some xs
  | .fro xs => some xs
  | .cell n => match cs[n]? with
    | some (.lst xs) => some xs
    | _ => none
  | _ => none
/-- not a locked one -/
def lkP (cs : List Cel) : D → Option (List D)
  | .lst xs => some xs
  | .cell n => match cs[n]? with
    | some (.lst xs) => some xs
    | _ => none
  | _ => none
section
variable {K : PySem.W.Frag} {W : Wd} {H : Hp} {cs : List Cel}
theorem Ok.cellL (h : Ok K W H cs) {n : Nat} {a : Addr} {xs : List D} (hm : W.m[n]? = some a) (hc : cs[n]? = some (.lst xs)) : ∃ vs, H a = some (.lst vs) ∧ RAll K W vs xs := h.cl n a _ hm hc
theorem Ok.lkP (h : Ok K W H cs) {d : D} {v : V} {xs : List D} (r : R K W v d) (e : lkP cs d = some xs) : ∃ a vs, v = .ref a ∧ H a = some (.lst vs) ∧ RAll K W vs xs := by
  cases r <;> simp only [DL.lkP] at e <;> try cases e
  · rename_i a vs hs ha
    exact ⟨a, vs, rfl, h.ex _ _ hs, ha⟩
  · rename_i n a hm
    split at e
    · rename_i xs' hc
      cases e
      obtain ⟨vs, h1, h2⟩ := h.cellL hm hc
      exact ⟨a, vs, rfl, h1, h2⟩
    · cases e
theorem Ok.lk (h : Ok K W H cs) {d : D} {v : V} {xs : List D} (r : R K W v d) (e : lk cs d = some xs) : ∃ a vs, v = .ref a ∧ SqL K H a vs ∧ RAll K W vs xs := by
  cases r <;> simp only [DL.lk] at e <;> try cases e
  · rename_i a vs hs ha
    exact ⟨a, vs, rfl, SqL.of (h.ex _ _ hs), ha⟩
  · rename_i a vs hs ha
    exact ⟨a, vs, rfl, Evl.ex_l h.ex hs, ha⟩
  · rename_i n a hm
    split at e
    · rename_i xs' hc
      cases e
      obtain ⟨vs, h1, h2⟩ := h.cellL hm hc
      exact ⟨a, vs, rfl, SqL.of h1, h2⟩
    · cases e
end

/-! ### lifting -/
/-- what is known of the world all along -/
structure Bs where
  p : Wd → Prop
  up : ∀ {W W' : Wd}, p W → W.le W' → p W'
def Bs.any : Bs := ⟨fun _ => True, fun _ _ => trivial⟩
def Bs.of (W0 : Wd) : Bs := ⟨fun W => W0.le W, fun a b => a.tr b⟩
abbrev DE := En → (D → En → Prop) → Prop
abbrev DT := En → (Bool → En → Prop) → Prop
abbrev DA := En → (List D → En → Prop) → Prop
structure Po where
  nx : En → Prop
  rt : D → List Cel → Prop
  bk : En → Prop := fun _ => False
  ct : En → Prop := fun _ => False
abbrev DS := Po → En → Prop
def lE (K : PySem.W.Frag) (B : Bs) (t : DE) : TE := fun σ H Q => ∃ W e P, B.p W ∧ Sd K W H σ e ∧ t e P ∧
  ∀ d e' W' H' v, P d e' → W.le W' → Sd K W' H' σ e' → R K W' v d → Q v H'
def lT (K : PySem.W.Frag) (B : Bs) (t : DT) : TT := fun σ H Q => ∃ W e P, B.p W ∧ Sd K W H σ e ∧ t e P ∧
  ∀ b e' W' H', P b e' → W.le W' → Sd K W' H' σ e' → Q b H'
def lA (K : PySem.W.Frag) (B : Bs) (t : DA) : TA := fun σ H Q => ∃ W e P, B.p W ∧ Sd K W H σ e ∧ t e P ∧
  ∀ ds e' W' H' vs, P ds e' → W.le W' → Sd K W' H' σ e' → RAll K W' vs ds → Q vs H'
def lS (K : PySem.W.Frag) (B : Bs) (t : DS) : TS := fun D σ H => ∃ W e P, B.p W ∧ Sd K W H σ e ∧ t P e ∧
  (∀ e' W' H' σ', P.nx e' → W.le W' → Sd K W' H' σ' e' → D.nx σ' H') ∧
  (∀ d cs W' H' v, P.rt d cs → W.le W' → Ok K W' H' cs → R K W' v d → D.rt v H') ∧
  (∀ e' W' H' σ', P.bk e' → W.le W' → Sd K W' H' σ' e' → D.bk σ' H') ∧
  (∀ e' W' H' σ', P.ct e' → W.le W' → Sd K W' H' σ' e' → D.ct σ' H')

section
variable {X : Cx} {ex : Expr}
theorem PE.imp {t t' : TE} (h : PE X ex t) (i : ∀ σ H Q, t' σ H Q → t σ H Q) : PE X ex t' := ⟨fun pins s σ H Q I w => h.run pins s σ H Q I (i σ H Q w)⟩
theorem PT.imp {t t' : TT} (h : PT X ex t) (i : ∀ σ H Q, t' σ H Q → t σ H Q) : PT X ex t' := ⟨fun pins s σ H Q I w => h.run pins s σ H Q I (i σ H Q w)⟩
theorem PW.imp {t t' : TT} (h : PW X ex t) (i : ∀ σ H Q, t' σ H Q → t σ H Q) : PW X ex t' := ⟨fun wh pins s σ H Q I w => h.run wh pins s σ H Q I (i σ H Q w)⟩
theorem PA.imp {es : List Expr} {t t' : TA} (h : PA X es t) (i : ∀ σ H Q, t' σ H Q → t σ H Q) : PA X es t' := ⟨fun pos pins s σ H Q I w => h.run pos pins s σ H Q I (i σ H Q w)⟩
theorem PS.imp {st : Stmt} {t t' : TS} (h : PS X st t) (i : ∀ D σ H, t' D σ H → t D σ H) : PS X st t' := ⟨fun pins s σ H D I w => h.run pins s σ H D I (i D σ H w)⟩
theorem PSs.imp {st : List Stmt} {t t' : TS} (h : PSs X st t) (i : ∀ D σ H, t' D σ H → t D σ H) : PSs X st t' := ⟨fun pins s σ H D I w => h.run pins s σ H D I (i D σ H w)⟩
end
end DL
namespace DL
open PySem PySem.Spec PyProof.Rows L2
open Evl (Ex)

/-! ### new objects -/
def newL (o : Bool) (xs : List D) : DE := fun e P => match o with
  | false => P (.lst xs) e
  | true => P (.cell e.cs.length) { e with cs := e.cs ++ [.lst xs] }
section
variable {K : PySem.W.Frag} {W : Wd} {H : Hp} {σ : L2.St} {e : En} {Q : VK} {P : D → En → Prop}
theorem newL_ok {o : Bool} {xs : List D} {vs : List V} (S : Sd K W H σ e) (r : RAll K W vs xs) (t : newL o xs e P)
    (k : ∀ d e' W' H' v, P d e' → W.le W' → Sd K W' H' σ e' → R K W' v d → Q v H') : ∀ p, H p = none → Q (.ref p) (upd H p (.lst vs)) := by
  intro p hp
  cases o with
  | false =>
    obtain ⟨ok, l⟩ := S.ok.newF (o := .lst vs) hp
    exact k _ _ _ _ _ t l ⟨ok, S.sl.mono l⟩ (.lst upd_same (RAll.mono l _ _ r))
  | true =>
    obtain ⟨ok, l⟩ := S.ok.newC (o := .lst vs) (c := .lst xs) hp fun W' l => ⟨vs, upd_same, RAll.mono l _ _ r⟩
    refine k _ _ _ _ _ t l ⟨ok, S.sl.mono l⟩ (.cell ?_)
    show (W.m ++ [p])[e.cs.length]? = some p
    rw [← S.ok.len, List.getElem?_append_right (Nat.le_refl _)]
    simp
theorem newT_ok {xs : List D} {vs : List V} (S : Sd K W H σ e) (r : RAll K W vs xs) (t : P (.tup xs) e)
    (k : ∀ d e' W' H' v, P d e' → W.le W' → Sd K W' H' σ e' → R K W' v d → Q v H') : ∀ p, H p = none → Q (.ref p) (upd H p (.tup vs)) := by
  intro p hp
  obtain ⟨ok, l⟩ := S.ok.newF (o := .tup vs) hp
  exact k _ _ _ _ _ t l ⟨ok, S.sl.mono l⟩ (.tup (SqT.of upd_same) (RAll.mono l _ _ r))
end

/-! ### names and constants -/
def eV (i : Nat) : DE := fun e P => ∃ d, e.sl[i]? = some (some d) ∧ P d e
def eC (d : D) : DE := fun e P => P d e
section
variable {X : Cx} {B : Bs} {a b c ex : Expr} {pos : Pos} {ta tb tc te : DE}
theorem de_var {i : Nat} (h : PE X ex (tVar i)) : PE X ex (lE X.K B (eV i)) := PE.imp h fun σ H Q ⟨W, e, P, _, S, ⟨d, hd, p⟩, k⟩ => by
  obtain ⟨v, hv, r⟩ := S.sl.2 i d hd
  exact ⟨v, hv, k d e W H v p W.le_refl S r⟩
theorem dv (i : Nat) {x : Str} (hN : X.N[i]? = some x := by rfl) (hv : Vis X.env.scope x := by first | exact Or.inl rfl | exact Or.inr (Or.inl rfl) | exact Or.inr (Or.inr rfl)) (hd : (x == ("__debug__" : Str)) = false := by decide)
    (hcd : (x == ("__classdict__" : Str)) = false := by decide) : PE X (.Name x pos) (lE X.K B (eV i)) := de_var (pe_var hN hv hd hcd)
theorem de_c {v : V} {d : D} (h : PE X ex (tC v)) (hr : ∀ W, R X.K W v d) : PE X ex (lE X.K B (eC d)) := PE.imp h fun σ H Q ⟨W, e, P, _, S, p, k⟩ => k d e W H v p W.le_refl S (hr W)
theorem de_int {i j} : PE X (.Constant (.int i) j pos) (lE X.K B (eC (.int i))) := de_c pe_int fun _ => .int i
theorem de_bl {i j} : PE X (.Constant (.bool i) j pos) (lE X.K B (eC (.bl i))) := de_c pe_bl fun _ => .bl i
theorem de_non {j} : PE X (.Constant .none j pos) (lE X.K B (eC .non)) := de_c pe_non fun _ => .non
theorem de_str {s j} : PE X (.Constant (.str s) j pos) (lE X.K B (eC (.str s))) := de_c pe_str fun _ => .str s
/-- a name of the module -/
theorem de_glob {x : Str} {v : V} {u : Value} {d : D} (hg : Gl X x) (hm : X.mg x = some u) (r : RelV v u) (hr : ∀ W, R X.K W v d) (hd : (x == ("__debug__" : Str)) = false := by decide) : PE X (.Name x pos) (lE X.K B (eC d)) := de_c (pe_glob hg hm r hd) hr
theorem de_ty {x : Str} {T : String} (hg : Gl X x) (hm : X.mg x = none) (hv : bootBuiltins x = some (.type T)) (hn : x ≠ "__name__" := by decide) (hd : (x == ("__debug__" : Str)) = false := by decide) : PE X (.Name x pos) (lE X.K B (eC (.raw (.ty T)))) :=
  de_c (pe_bltn (v := .ty T) hg hm hv rfl hn hd) fun _ => .raw _

/-! ### operators -/
/-- an operation by data -/
def OpD (K : PySem.W.Frag) (r : R2) (q : D → D → DE) : Prop := ∀ (W : Wd) (H : Hp) (σ : L2.St) (e : En) (x y : V) (d1 d2 : D) (P : D → En → Prop) (Q : VK), Sd K W H σ e → R K W x d1 → R K W y d2 → q d1 d2 e P →
  (∀ d e' W' H' v, P d e' → W.le W' → Sd K W' H' σ e' → R K W' v d → Q v H') → r x y H Q
def eBin (q : D → D → DE) (ta tb : DE) : DE := fun e P => ta e fun x e1 => tb e1 fun y e2 => q x y e2 P
theorem bin_ok {r : R2} {q : D → D → DE} (hq : OpD X.K r q) : ∀ σ H Q, lE X.K B (eBin q ta tb) σ H Q → tOp r (lE X.K B ta) (lE X.K B tb) σ H Q :=
  fun σ H Q ⟨W, e, P, bl, S, t, k⟩ => ⟨W, e, _, bl, S, t, fun x e1 W1 H1 v1 t1 l1 S1 r1 => ⟨W1, e1, _, (B.up bl l1), S1, t1, fun y e2 W2 H2 v2 t2 l2 S2 r2 =>
    hq W2 H2 σ e2 v1 v2 x y P Q S2 (R.mono l2 _ _ r1) r2 t2 fun d e3 W3 H3 v3 p l3 S3 r3 => k d e3 W3 H3 v3 p ((l1.tr l2).tr l3) S3 r3⟩⟩
theorem de_bin {op : Operator} {r : R2} {q : D → D → DE} (ho : OpR X (binaryOp op) r) (hq : OpD X.K r q) (ha : PE X a (lE X.K B ta)) (hb : PE X b (lE X.K B tb)) : PE X (.BinOp a op b pos) (lE X.K B (eBin q ta tb)) :=
  PE.imp (pe_op ho ha hb) (bin_ok hq)
theorem de_cmp {op : CmpOp} {r : R2} {q : D → D → DE} (ho : OpR X (compareOp op) r) (hq : OpD X.K r q) (ha : PE X a (lE X.K B ta)) (hb : PE X b (lE X.K B tb)) (hm : behindInMarks op b = false) : PE X (.Compare a [op] [b] pos) (lE X.K B (eBin q ta tb)) :=
  PE.imp (pe_cmpR ho ha hb hm) (bin_ok hq)
/-- a value that is a bool, as a test -/
def eTest (t : DE) : DT := fun e P => t e fun d e1 => ∃ k, d = .bl k ∧ P k e1
theorem R.bl_inv {K : PySem.W.Frag} {W : Wd} {v : V} {k : Bool} (r : R K W v (.bl k)) : v = .bl k := by cases r; rfl
theorem test_ok {t : TE} (h : ∀ σ H Q, lE X.K B te σ H Q → t σ H Q) : ∀ σ H Q, lT X.K B (eTest te) σ H Q → tTest t σ H Q :=
  fun σ H Q ⟨W, e, P, bl, S, t, k⟩ => h σ H _ ⟨W, e, _, bl, S, t, fun d e1 W1 H1 v ⟨kk, ed, p⟩ l1 S1 r1 => ⟨kk, by subst ed; exact r1.bl_inv, k kk e1 W1 H1 p l1 S1⟩⟩
theorem dt_cmp {op : CmpOp} {r : R2} {q : D → D → DE} (ho : OpR X (compareOp op) r) (hq : OpD X.K r q) (ha : PE X a (lE X.K B ta)) (hb : PE X b (lE X.K B tb)) (hm : behindInMarks op b = false) : PT X (.Compare a [op] [b] pos) (lT X.K B (eTest (eBin q ta tb))) :=
  PT.imp (pt_cmpR ho ha hb hm) (test_ok (bin_ok hq))
theorem dt_val {e : Expr} (h : PE X e (lE X.K B te)) (he : ∀ whole, isTrue e X.env whole = (do let v ← whole; standAt e.pos; holding [v] (truthy v)) := by intro _; rfl) : PT X e (lT X.K B (eTest te)) :=
  PT.imp (pt_val h he) (test_ok fun _ _ _ z => z)
/-- a op1 b op2 c -/
def eChain (q q' : D → D → DE) (ta tb tc : DE) : DE := fun e P => ta e fun x e1 => tb e1 fun y e2 => q x y e2 fun z e3 => ∃ k, z = .bl k ∧ if k = true then tc e3 fun w e4 => q' y w e4 P else P (.bl false) e3
theorem chain_ok {r r' : R2} {q q' : D → D → DE} (hq : OpD X.K r q) (hq' : OpD X.K r' q') : ∀ σ H Q, lE X.K B (eChain q q' ta tb tc) σ H Q → tChain r r' (lE X.K B ta) (lE X.K B tb) (lE X.K B tc) σ H Q :=
  fun σ H Q ⟨W, e, P, bl, S, t, k⟩ => ⟨W, e, _, bl, S, t, fun x e1 W1 H1 v1 t1 l1 S1 r1 => ⟨W1, e1, _, (B.up bl l1), S1, t1, fun y e2 W2 H2 v2 t2 l2 S2 r2 =>
    hq W2 H2 σ e2 v1 v2 x y _ _ S2 (R.mono l2 _ _ r1) r2 t2 fun z e3 W3 H3 v3 ⟨kk, ez, h3⟩ l3 S3 r3 => ⟨kk, by subst ez; exact r3.bl_inv, by
      have l13 := (l1.tr l2).tr l3
      cases kk with
      | false => exact iteF (k _ _ _ _ _ h3 l13 S3 (.bl false))
      | true => exact iteT ⟨W3, e3, _, (B.up bl l13), S3, h3, fun w e4 W4 H4 v4 t4 l4 S4 r4 => hq' W4 H4 σ e4 v2 v4 y w P Q S4 (R.mono (l3.tr l4) _ _ r2) r4 t4 fun d e5 W5 H5 v5 p l5 S5 r5 => k d e5 W5 H5 v5 p ((l13.tr l4).tr l5) S5 r5⟩⟩⟩⟩
theorem de_chain {op op' : CmpOp} {r r' : R2} {q q' : D → D → DE} (ho : OpR X (compareOp op) r) (ho' : OpR X (compareOp op') r') (hq : OpD X.K r q) (hq' : OpD X.K r' q') (ha : PE X a (lE X.K B ta)) (hb : PE X b (lE X.K B tb)) (hc : PE X c (lE X.K B tc))
    (hm : lastMarks [op, op'] [b, c] = false := by with_unfolding_all rfl) : PE X (.Compare a [op, op'] [b, c] pos) (lE X.K B (eChain q q' ta tb tc)) := PE.imp (pe_chain ho ho' ha hb hc hm) (chain_ok hq hq')
theorem dt_chain {op op' : CmpOp} {r r' : R2} {q q' : D → D → DE} (ho : OpR X (compareOp op) r) (ho' : OpR X (compareOp op') r') (hq : OpD X.K r q) (hq' : OpD X.K r' q') (ha : PE X a (lE X.K B ta)) (hb : PE X b (lE X.K B tb)) (hc : PE X c (lE X.K B tc))
    (hm : lastMarks [op, op'] [b, c] = false := by with_unfolding_all rfl) : PT X (.Compare a [op, op'] [b, c] pos) (lT X.K B (eTest (eChain q q' ta tb tc))) := PT.imp (pt_chain ho ho' ha hb hc hm) (test_ok (chain_ok hq hq'))

/-! the ops -/
def MulOk (i j : Int) : Prop := CMul i j ∨ CMulW i j
def FdivOk (i j : Int) : Prop := CDiv i j ∨ CDivW i j
theorem op_mulA : OpR X (binaryOp .Mult) (rI MulOk fun i j => .int (i * j)) := by
  intro pins s σ H x y v u Q I r1 r2 ⟨i, j, e1, e2, c, q⟩
  rcases c with c | c
  · exact op_mul pins s σ H x y v u Q I r1 r2 ⟨i, j, e1, e2, c, q⟩
  · exact op_mulW pins s σ H x y v u Q I r1 r2 ⟨i, j, e1, e2, c, q⟩
theorem op_fdivA : OpR X (binaryOp .FloorDiv) (rI FdivOk fun i j => .int (i / j)) := by
  intro pins s σ H x y v u Q I r1 r2 ⟨i, j, e1, e2, c, q⟩
  rcases c with c | c
  · exact op_fdiv pins s σ H x y v u Q I r1 r2 ⟨i, j, e1, e2, c, q⟩
  · exact op_fdivW pins s σ H x y v u Q I r1 r2 ⟨i, j, e1, e2, c, q⟩
def qSub : D → D → DE
  | .int i, .int j => fun e P => P (.int (i - j)) e
  | _, _ => fun _ _ => False
def qMul : D → D → DE
  | .int i, .int j => fun e P => MulOk i j ∧ P (.int (i * j)) e
  | _, _ => fun _ _ => False
def qFdiv : D → D → DE
  | .int i, .int j => fun e P => FdivOk i j ∧ P (.int (i / j)) e
  | _, _ => fun _ _ => False
def qMod : D → D → DE
  | .int i, .int j => fun e P => 0 < j ∧ P (.int (i % j)) e
  | _, _ => fun _ _ => False
def qPow : D → D → DE
  | .int i, .int j => fun e P => CPow i j ∧ P (.int (i ^ j.toNat)) e
  | _, _ => fun _ _ => False
def qAdd (o : Bool) : D → D → DE
  | .int i, .int j => fun e P => P (.int (i + j)) e
  | .str s, .str t => fun e P => s.length + t.length ≤ sizeLine ∧ P (.str (s ++ t)) e
  | .tup xs, .tup ys => fun e P => xs ≠ [] ∧ xs.length + ys.length ≤ sizeLine ∧ P (.tup (xs ++ ys)) e
  | x, y => fun e P => ∃ xs ys, lkP e.cs x = some xs ∧ lkP e.cs y = some ys ∧ xs.length + ys.length ≤ sizeLine ∧ newL o (xs ++ ys) e P
theorem R.int_inv {K : PySem.W.Frag} {W : Wd} {v : V} {k : Int} (r : R K W v (.int k)) : v = .int k := by cases r; rfl
theorem R.str_inv {K : PySem.W.Frag} {W : Wd} {v : V} {k : Str} (r : R K W v (.str k)) : v = .str k := by cases r; rfl
theorem R.non_inv {K : PySem.W.Frag} {W : Wd} {v : V} (r : R K W v .non) : v = .non := by cases r; rfl
theorem R.raw_inv {K : PySem.W.Frag} {W : Wd} {v u : V} (r : R K W v (.raw u)) : v = u := by cases r; rfl
theorem od_I0 {K : PySem.W.Frag} {f : Int → Int → D} {g : Int → Int → V} {q : D → D → DE} (hq : ∀ x y e P, q x y e P → ∃ i j, x = .int i ∧ y = .int j ∧ P (f i j) e) (hr : ∀ W i j, R K W (g i j) (f i j)) : OpD K (rI0 g) q := by
  intro W H σ e x y d1 d2 P Q S r1 r2 t k
  obtain ⟨i, j, rfl, rfl, t'⟩ := hq _ _ _ _ t
  exact ⟨i, j, r1.int_inv, r2.int_inv, k _ _ _ _ _ t' W.le_refl S (hr W i j)⟩
theorem od_I {K : PySem.W.Frag} {C : Int → Int → Prop} {f : Int → Int → D} {g : Int → Int → V} {q : D → D → DE} (hq : ∀ x y e P, q x y e P → ∃ i j, x = .int i ∧ y = .int j ∧ C i j ∧ P (f i j) e) (hr : ∀ W i j, R K W (g i j) (f i j)) : OpD K (rI C g) q := by
  intro W H σ e x y d1 d2 P Q S r1 r2 t k
  obtain ⟨i, j, rfl, rfl, c, t'⟩ := hq _ _ _ _ t
  exact ⟨i, j, r1.int_inv, r2.int_inv, c, k _ _ _ _ _ t' W.le_refl S (hr W i j)⟩
theorem od_sub {K : PySem.W.Frag} : OpD K (rI0 fun i j => .int (i - j)) qSub := od_I0 (f := fun i j => .int (i - j)) (fun x y e P h => by
  cases x <;> cases y <;> first | exact h.elim | exact ⟨_, _, rfl, rfl, h⟩) fun _ _ _ => .int _
theorem od_mul {K : PySem.W.Frag} : OpD K (rI MulOk fun i j => .int (i * j)) qMul := od_I (f := fun i j => .int (i * j)) (fun x y e P h => by
  cases x <;> cases y <;> first | exact h.elim | exact ⟨_, _, rfl, rfl, h⟩) fun _ _ _ => .int _
theorem od_fdiv {K : PySem.W.Frag} : OpD K (rI FdivOk fun i j => .int (i / j)) qFdiv := od_I (f := fun i j => .int (i / j)) (fun x y e P h => by
  cases x <;> cases y <;> first | exact h.elim | exact ⟨_, _, rfl, rfl, h⟩) fun _ _ _ => .int _
theorem od_mod {K : PySem.W.Frag} : OpD K (rI (fun _ j => 0 < j) fun i j => .int (i % j)) qMod := od_I (f := fun i j => .int (i % j)) (fun x y e P h => by
  cases x <;> cases y <;> first | exact h.elim | exact ⟨_, _, rfl, rfl, h⟩) fun _ _ _ => .int _
theorem od_pow {K : PySem.W.Frag} : OpD K (rI CPow fun i j => .int (i ^ j.toNat)) qPow := od_I (f := fun i j => .int (i ^ j.toNat)) (fun x y e P h => by
  cases x <;> cases y <;> first | exact h.elim | exact ⟨_, _, rfl, rfl, h⟩) fun _ _ _ => .int _
def rAddA (K : PySem.W.Frag) : R2 := fun x y H Q => (((rI0 fun i j => .int (i + j)) x y H Q ∨ (∃ i j, x = .str i ∧ y = .str j ∧ i.length + j.length ≤ sizeLine ∧ Q (.str (i ++ j)) H)) ∨ rCatT K x y H Q) ∨ rCat x y H Q
theorem op_addA : OpR X (binaryOp .Add) (rAddA X.K) := ((op_add.or op_add_str).or op_catT).or op_cat
theorem od_add {K : PySem.W.Frag} {o : Bool} : OpD K (rAddA K) (qAdd o) := by
  intro W H σ e x y d1 d2 P Q S r1 r2 t k
  have lists : (∃ xs ys, lkP e.cs d1 = some xs ∧ lkP e.cs d2 = some ys ∧ xs.length + ys.length ≤ sizeLine ∧ newL o (xs ++ ys) e P) → rAddA K x y H Q := fun ⟨xs, ys, e1, e2, hz, t⟩ => by
    obtain ⟨p1, vs, rfl, h1, q1⟩ := S.ok.lkP r1 e1
    obtain ⟨p2, ws, rfl, h2, q2⟩ := S.ok.lkP r2 e2
    exact .inr ⟨p1, p2, vs, ws, rfl, rfl, h1, h2, by rw [q1.length, q2.length]; exact hz, newL_ok S (q1.append q2) t k⟩
  unfold qAdd at t
  split at t
  · exact .inl (.inl (.inl ⟨_, _, r1.int_inv, r2.int_inv, k _ _ _ _ _ t W.le_refl S (.int _)⟩))
  · exact .inl (.inl (.inr ⟨_, _, r1.str_inv, r2.str_inv, t.1, k _ _ _ _ _ t.2 W.le_refl S (.str _)⟩))
  · obtain ⟨hne, hz, t⟩ := t
    cases r1 with
    | tup h1 q1 =>
      cases r2 with
      | tup h2 q2 =>
        refine .inl (.inr ⟨_, _, _, _, rfl, rfl, Evl.ex_t S.ok.ex h1, Evl.ex_t S.ok.ex h2, fun z => hne ?_, by rw [q1.length, q2.length]; exact hz, ?_⟩)
        · subst z; cases q1; rfl
        · exact ⟨fun z => k _ _ _ _ _ t W.le_refl S (by
            subst z; cases q2
            rw [List.append_nil]
            exact .tup h1 q1), fun _ => newT_ok S (q1.append q2) t k⟩
  · exact lists t
def qLt : D → D → DE
  | .int i, .int j => fun e P => P (.bl (decide (i < j))) e
  | _, _ => fun _ _ => False
def qLe : D → D → DE
  | .int i, .int j => fun e P => P (.bl (decide (i ≤ j))) e
  | _, _ => fun _ _ => False
def qGt : D → D → DE
  | .int i, .int j => fun e P => P (.bl (decide (j < i))) e
  | _, _ => fun _ _ => False
def qGe : D → D → DE
  | .int i, .int j => fun e P => P (.bl (decide (j ≤ i))) e
  | _, _ => fun _ _ => False
theorem od_lt {K : PySem.W.Frag} : OpD K (rI0 fun i j => .bl (decide (i < j))) qLt := od_I0 (f := fun i j => .bl (decide (i < j))) (fun x y e P h => by
  cases x <;> cases y <;> first | exact h.elim | exact ⟨_, _, rfl, rfl, h⟩) fun _ _ _ => .bl _
theorem od_le {K : PySem.W.Frag} : OpD K (rI0 fun i j => .bl (decide (i ≤ j))) qLe := od_I0 (f := fun i j => .bl (decide (i ≤ j))) (fun x y e P h => by
  cases x <;> cases y <;> first | exact h.elim | exact ⟨_, _, rfl, rfl, h⟩) fun _ _ _ => .bl _
theorem od_gt {K : PySem.W.Frag} : OpD K (rI0 fun i j => .bl (decide (j < i))) qGt := od_I0 (f := fun i j => .bl (decide (j < i))) (fun x y e P h => by
  cases x <;> cases y <;> first | exact h.elim | exact ⟨_, _, rfl, rfl, h⟩) fun _ _ _ => .bl _
theorem od_ge {K : PySem.W.Frag} : OpD K (rI0 fun i j => .bl (decide (j ≤ i))) qGe := od_I0 (f := fun i j => .bl (decide (j ≤ i))) (fun x y e P h => by
  cases x <;> cases y <;> first | exact h.elim | exact ⟨_, _, rfl, rfl, h⟩) fun _ _ _ => .bl _
end
end DL
namespace DL
open PySem PySem.Spec PyProof.Rows L2
open Evl (Ex)

/-! ### data that is compared -/
mutual
def toP : D → PyData
  | .non => .none
  | .bl b => .bool b
  | .int i => .int i
  | .str s => .str s
  | .tup xs => .tuple (toPs xs)
  | .lst xs => .list (toPs xs)
  | .fro xs => .list (toPs xs)
  | .ins _ _ _ => .none
  | .cell _ => .none
  | .dct => .none
  | .raw _ => .none
  | .exc _ _ => .none
def toPs : List D → List PyData
  | [] => []
  | x :: xs => toP x :: toPs xs
end
mutual
def okD : D → Bool
  | .non => true
  | .bl _ => true
  | .int _ => true
  | .str _ => true
  | .tup xs => okDs xs
  | .lst xs => okDs xs
  | .fro xs => okDs xs
  | .ins _ _ _ => false
  | .cell _ => false
  | .dct => false
  | .raw _ => false
  | .exc _ _ => false
def okDs : List D → Bool
  | [] => true
  | x :: xs => okD x && okDs xs
end
def drf (cs : List Cel) : D → D
  | .cell n => match cs[n]? with
    | some (.lst xs) => .lst xs
    | _ => .cell n
  | .fro xs => .lst xs
  | d => d
def shp (d : D) : Bool := okD d && SeqAt.shaped (toP d)
section
variable {K : PySem.W.Frag} {W : Wd} {H : Hp} {cs : List Cel}
mutual
theorem R.dp (x : Ex W.F H) : ∀ (d : D) (v : V), R K W v d → okD d = true → Dp K H v (toP d)
  | .non, _, h, _ => by cases h; exact .non
  | .bl b, _, h, _ => by cases h; exact .bl b
  | .int i, _, h, _ => by cases h; exact .int i
  | .str s, _, h, _ => by cases h; exact .str s
  | .tup xs, _, h, o => by
    cases h with
    | tup hs ha => exact .tup (Evl.ex_t x hs) (RAll.dp x xs _ ha o)
  | .lst xs, _, h, o => by
    cases h with
    | lst hs ha => exact .lst (SqL.of (x _ _ hs)) (RAll.dp x xs _ ha o)
  | .fro xs, _, h, o => by
    cases h with
    | fro hs ha => exact .lst (Evl.ex_l x hs) (RAll.dp x xs _ ha o)
  | .ins _ _ _, _, _, o => by cases o
  | .cell _, _, _, o => by cases o
  | .dct, _, _, o => by cases o
  | .raw _, _, _, o => by cases o
  | .exc _ _, _, _, o => by cases o
theorem RAll.dp (x : Ex W.F H) : ∀ (ds : List D) (vs : List V), RAll K W vs ds → okDs ds = true → DpAll K H vs (toPs ds)
  | [], _, h, _ => by cases h; exact .nil
  | d :: ds, _, h, o => by
    cases h with
    | cons h1 h2 =>
      have o' : (okD d && okDs ds) = true := o
      rw [Bool.and_eq_true] at o'
      exact .cons (R.dp x d _ h1 o'.1) (RAll.dp x ds _ h2 o'.2)
end
theorem Ok.dp (h : Ok K W H cs) {d : D} {v : V} (r : R K W v d) (o : okD (drf cs d) = true) : Dp K H v (toP (drf cs d)) := by
  cases d with
  | cell n =>
    cases r with
    | cell hm =>
      unfold drf at o ⊢
      simp only at o ⊢
      split at o
      · rename_i xs hc
        obtain ⟨vs, h1, h2⟩ := h.cellL hm hc
        exact .lst (SqL.of h1) (RAll.dp' h2 o)
      · cases o
  | non => exact R.dp h.ex _ _ r o
  | bl b => exact R.dp h.ex _ _ r o
  | int i => exact R.dp h.ex _ _ r o
  | str s => exact R.dp h.ex _ _ r o
  | tup xs => exact R.dp h.ex _ _ r o
  | lst xs => exact R.dp h.ex _ _ r o
  | fro xs => exact R.dp h.ex (.fro xs) _ r o
  | dct => cases o
  | exc _ _ => cases o
  | ins _ _ _ => exact R.dp h.ex _ _ r o
  | raw _ => exact R.dp h.ex _ _ r o
where
  RAll.dp' {vs : List V} {ds : List D} (h2 : RAll K W vs ds) (o : okDs ds = true) : DpAll K H vs (toPs ds) := RAll.dp h.ex ds vs h2 o
end
def qEq : D → D → DE
  | .int i, .int j => fun e P => P (.bl (decide (i = j))) e
  | x, y => fun e P => shp (drf e.cs x) = true ∧ shp (drf e.cs y) = true ∧ P (.bl (PyData.eqv (toP (drf e.cs x)) (toP (drf e.cs y)))) e
def qNe : D → D → DE
  | .int i, .int j => fun e P => P (.bl (!decide (i = j))) e
  | x, y => fun e P => shp (drf e.cs x) = true ∧ shp (drf e.cs y) = true ∧ P (.bl (!PyData.eqv (toP (drf e.cs x)) (toP (drf e.cs y)))) e
theorem shp_and {d : D} (h : shp d = true) : okD d = true ∧ SeqAt.shaped (toP d) = true := by
  have h' : (okD d && SeqAt.shaped (toP d)) = true := h
  rwa [Bool.and_eq_true] at h'
theorem od_eq {K : PySem.W.Frag} : OpD K (rEqD K) qEq := by
  intro W H σ e x y d1 d2 P Q S r1 r2 t k
  unfold qEq at t
  split at t
  · refine ⟨_, _, R.dp S.ok.ex _ _ r1 rfl, R.dp S.ok.ex _ _ r2 rfl, rfl, rfl, ?_⟩
    refine k _ _ _ _ _ t W.le_refl S ?_
    rename_i i j
    have e0 : PyData.eqv (toP (.int i)) (toP (.int j)) = decide (i = j) := Bool.beq_eq_decide_eq _ _
    rw [e0]
    exact .bl _
  · obtain ⟨h1, h2, t⟩ := t
    obtain ⟨o1, s1⟩ := shp_and h1
    obtain ⟨o2, s2⟩ := shp_and h2
    exact ⟨_, _, S.ok.dp r1 o1, S.ok.dp r2 o2, s1, s2, k _ _ _ _ _ t W.le_refl S (.bl _)⟩
theorem od_ne {K : PySem.W.Frag} : OpD K (rNeD K) qNe := by
  intro W H σ e x y d1 d2 P Q S r1 r2 t k
  unfold qNe at t
  split at t
  · refine ⟨_, _, R.dp S.ok.ex _ _ r1 rfl, R.dp S.ok.ex _ _ r2 rfl, rfl, rfl, ?_⟩
    refine k _ _ _ _ _ t W.le_refl S ?_
    rename_i i j
    have e0 : PyData.eqv (toP (.int i)) (toP (.int j)) = decide (i = j) := Bool.beq_eq_decide_eq _ _
    rw [e0]
    exact .bl _
  · obtain ⟨h1, h2, t⟩ := t
    obtain ⟨o1, s1⟩ := shp_and h1
    obtain ⟨o2, s2⟩ := shp_and h2
    exact ⟨_, _, S.ok.dp r1 o1, S.ok.dp r2 o2, s1, s2, k _ _ _ _ _ t W.le_refl S (.bl _)⟩

/-! is -/
def isN : D → Bool
  | .non => true
  | _ => false
def notRaw : D → Bool
  | .raw _ => false
  | _ => true
theorem R.isN {K : PySem.W.Frag} {W : Wd} {v : V} {d : D} (r : R K W v d) (n : notRaw d = true) : decide (v = .non) = isN d := by
  cases r <;> first | rfl | cases n
def qIs : D → D → DE
  | .bl a, .bl b => fun e P => P (.bl (decide (a = b))) e
  | x, y => fun e P => isN y = true ∧ notRaw x = true ∧ P (.bl (isN x)) e
def qIsNot : D → D → DE
  | .bl a, .bl b => fun e P => P (.bl (!decide (a = b))) e
  | x, y => fun e P => isN y = true ∧ notRaw x = true ∧ P (.bl (!isN x)) e
def rIsA : R2 := fun x y H Q => (y = .non ∧ Q (.bl (decide (x = .non))) H) ∨ L2.rIsB x y H Q
def rIsNotA : R2 := fun x y H Q => (y = .non ∧ Q (.bl (!decide (x = .non))) H) ∨ L2.rNotB x y H Q
theorem op_isA {X : Cx} : OpR X (compareOp .Is) rIsA := op_isN.or op_isBl
theorem op_isNotA {X : Cx} : OpR X (compareOp .IsNot) rIsNotA := op_notN.or op_notBl
theorem isN_of {d : D} (h : isN d = true) : d = .non := by cases d <;> first | rfl | cases h
theorem od_is {K : PySem.W.Frag} : OpD K rIsA qIs := by
  intro W H σ e x y d1 d2 P Q S r1 r2 t k
  unfold qIs at t
  split at t
  · exact .inr ⟨_, _, r1.bl_inv, r2.bl_inv, k _ _ _ _ _ t W.le_refl S (.bl _)⟩
  · obtain ⟨h1, h2, t⟩ := t
    cases isN_of h1
    refine .inl ⟨r2.non_inv, ?_⟩
    rw [r1.isN h2]
    exact k _ _ _ _ _ t W.le_refl S (.bl _)
theorem od_isNot {K : PySem.W.Frag} : OpD K rIsNotA qIsNot := by
  intro W H σ e x y d1 d2 P Q S r1 r2 t k
  unfold qIsNot at t
  split at t
  · exact .inr ⟨_, _, r1.bl_inv, r2.bl_inv, k _ _ _ _ _ t W.le_refl S (.bl _)⟩
  · obtain ⟨h1, h2, t⟩ := t
    cases isN_of h1
    refine .inl ⟨r2.non_inv, ?_⟩
    rw [r1.isN h2]
    exact k _ _ _ _ _ t W.le_refl S (.bl _)

/-! ### and, or, not, if -/
def dAnd (t u : DT) : DT := fun e P => t e fun c e1 => if c = true then u e1 P else P false e1
def dOr (t u : DT) : DT := fun e P => t e fun c e1 => if c = true then P true e1 else u e1 P
def dNot (t : DT) : DT := fun e P => t e fun c e1 => P (!c) e1
def eAnd (ta tb : DE) : DE := fun e P => ta e fun x e1 => ∃ c, x = .bl c ∧ if c = true then tb e1 P else P (.bl false) e1
def eOr (ta tb : DE) : DE := fun e P => ta e fun x e1 => ∃ c, x = .bl c ∧ if c = true then P (.bl true) e1 else tb e1 P
def eNot (ta : DE) : DE := fun e P => ta e fun x e1 => ∃ c, x = .bl c ∧ P (.bl (!c)) e1
def eIf (t : DT) (ta tb : DE) : DE := fun e P => t e fun c e1 => if c = true then ta e1 P else tb e1 P
section
variable {X : Cx} {B : Bs} {a b c ex : Expr} {pos : Pos} {ta tb te : DE} {t u : DT} {rest : List Expr}
theorem dw_and1 (ha : PT X a (lT X.K B t)) : PW X (.BoolOp .And [a] pos) (lT X.K B t) := pw_and1 ha
theorem dw_or1 (ha : PT X a (lT X.K B t)) : PW X (.BoolOp .Or [a] pos) (lT X.K B t) := pw_or1 ha
theorem dw_and (ha : PT X a (lT X.K B t)) (hb : PW X (.BoolOp .And (b :: rest) pos) (lT X.K B u)) : PW X (.BoolOp .And (a :: b :: rest) pos) (lT X.K B (dAnd t u)) :=
  PW.imp (pw_and ha hb) fun σ H Q ⟨W, e, P, bl, S, t, k⟩ => ⟨W, e, _, bl, S, t, fun c e1 W1 H1 h1 l1 S1 => by
    cases c with
    | true => exact iteT ⟨W1, e1, _, (B.up bl l1), S1, h1, fun c2 e2 W2 H2 p l2 S2 => k c2 e2 W2 H2 p (l1.tr l2) S2⟩
    | false => exact iteF (k _ _ _ _ h1 l1 S1)⟩
theorem dw_or (ha : PT X a (lT X.K B t)) (hb : PW X (.BoolOp .Or (b :: rest) pos) (lT X.K B u)) : PW X (.BoolOp .Or (a :: b :: rest) pos) (lT X.K B (dOr t u)) :=
  PW.imp (pw_or ha hb) fun σ H Q ⟨W, e, P, bl, S, t, k⟩ => ⟨W, e, _, bl, S, t, fun c e1 W1 H1 h1 l1 S1 => by
    cases c with
    | true => exact iteT (k _ _ _ _ h1 l1 S1)
    | false => exact iteF ⟨W1, e1, _, (B.up bl l1), S1, h1, fun c2 e2 W2 H2 p l2 S2 => k c2 e2 W2 H2 p (l1.tr l2) S2⟩⟩
theorem dt_not (ha : PT X a (lT X.K B t)) : PT X (.UnaryOp .Not a pos) (lT X.K B (dNot t)) :=
  PT.imp (pt_not ha) fun σ H Q ⟨W, e, P, bl, S, t, k⟩ => ⟨W, e, _, bl, S, t, fun c e1 W1 H1 h1 l1 S1 => k _ _ _ _ h1 l1 S1⟩
theorem de_one {op} (h : PE X a (lE X.K B te)) : PE X (.BoolOp op [a] pos) (lE X.K B te) := pe_one h
theorem de_and (ha : PE X a (lE X.K B ta)) (hb : PE X (.BoolOp .And (b :: rest) pos) (lE X.K B tb)) : PE X (.BoolOp .And (a :: b :: rest) pos) (lE X.K B (eAnd ta tb)) :=
  PE.imp (pe_and ha hb) fun σ H Q ⟨W, e, P, bl, S, t, k⟩ => ⟨W, e, _, bl, S, t, fun x e1 W1 H1 v ⟨c, ex, h1⟩ l1 S1 r1 => ⟨c, by subst ex; exact r1.bl_inv, by
    cases c with
    | true => exact iteT ⟨W1, e1, _, (B.up bl l1), S1, h1, fun d e2 W2 H2 v2 p l2 S2 r2 => k d e2 W2 H2 v2 p (l1.tr l2) S2 r2⟩
    | false => exact iteF (k _ _ _ _ _ h1 l1 S1 (.bl _))⟩⟩
theorem de_or (ha : PE X a (lE X.K B ta)) (hb : PE X (.BoolOp .Or (b :: rest) pos) (lE X.K B tb)) : PE X (.BoolOp .Or (a :: b :: rest) pos) (lE X.K B (eOr ta tb)) :=
  PE.imp (pe_or ha hb) fun σ H Q ⟨W, e, P, bl, S, t, k⟩ => ⟨W, e, _, bl, S, t, fun x e1 W1 H1 v ⟨c, ex, h1⟩ l1 S1 r1 => ⟨c, by subst ex; exact r1.bl_inv, by
    cases c with
    | true => exact iteT (k _ _ _ _ _ h1 l1 S1 (.bl _))
    | false => exact iteF ⟨W1, e1, _, (B.up bl l1), S1, h1, fun d e2 W2 H2 v2 p l2 S2 r2 => k d e2 W2 H2 v2 p (l1.tr l2) S2 r2⟩⟩⟩
theorem de_not (ha : PE X a (lE X.K B ta)) : PE X (.UnaryOp .Not a pos) (lE X.K B (eNot ta)) :=
  PE.imp (pe_not ha) fun σ H Q ⟨W, e, P, bl, S, t, k⟩ => ⟨W, e, _, bl, S, t, fun x e1 W1 H1 v ⟨c, ex, h1⟩ l1 S1 r1 => ⟨c, by subst ex; exact r1.bl_inv, k _ _ _ _ _ h1 l1 S1 (.bl _)⟩⟩
theorem de_if (hc : PT X c (lT X.K B t)) (ha : PE X a (lE X.K B ta)) (hb : PE X b (lE X.K B tb)) : PE X (.IfExp c a b pos) (lE X.K B (eIf t ta tb)) :=
  PE.imp (pe_ifExp hc ha hb) fun σ H Q ⟨W, e, P, bl, S, t, k⟩ => ⟨W, e, _, bl, S, t, fun c e1 W1 H1 h1 l1 S1 => by
    cases c with
    | true => exact iteT ⟨W1, e1, _, (B.up bl l1), S1, h1, fun d e2 W2 H2 v2 p l2 S2 r2 => k d e2 W2 H2 v2 p (l1.tr l2) S2 r2⟩
    | false => exact iteF ⟨W1, e1, _, (B.up bl l1), S1, h1, fun d e2 W2 H2 v2 p l2 S2 r2 => k d e2 W2 H2 v2 p (l1.tr l2) S2 r2⟩⟩
/-- a value of any kind, by its truth -/
def tru (cs : List Cel) : D → Option Bool
  | .non => some false
  | .bl b => some b
  | .int i => some (i != 0)
  | .str s => if s.length ≤ sizeLine then some ((s.length : Int) != 0) else none
  | .tup xs => some (!xs.isEmpty)
  | d => (lk cs d).map fun xs => !xs.isEmpty
def eTru (t : DE) : DT := fun e P => t e fun d e1 => ∃ k, tru e1.cs d = some k ∧ P k e1
theorem RAll.isEmpty {K : PySem.W.Frag} {W : Wd} {vs : List V} {ds : List D} (r : RAll K W vs ds) : vs.isEmpty = ds.isEmpty := by cases r <;> rfl
theorem tru_ok {K : PySem.W.Frag} {W : Wd} {H : Hp} {cs : List Cel} (h : Ok K W H cs) {d : D} {v : V} {k : Bool} (r : R K W v d) (e : tru cs d = some k) : TruV K v H k := by
  have lst : ∀ {xs}, lk cs d = some xs → k = (!xs.isEmpty) → TruV K v H k := fun {xs} e1 e2 => by
    obtain ⟨a, vs, rfl, h1, h2⟩ := h.lk r e1
    exact .inl ⟨vs, h1, by rw [e2, h2.isEmpty]⟩
  unfold tru at e
  split at e
  · cases e; cases r; rfl
  · cases e; cases r; rfl
  · cases e; cases r; rfl
  · cases r
    split at e
    · cases e; exact ⟨by assumption, rfl⟩
    · cases e
  · cases e
    cases r with
    | tup h1 h2 => exact .inr (.inl ⟨_, Evl.ex_t h.ex h1, by rw [h2.isEmpty]⟩)
  · obtain ⟨xs, e1, e2⟩ := Option.map_eq_some_iff.mp e
    exact lst e1 e2.symm
theorem dt_tru (ha : PE X a (lE X.K B ta)) (he : ∀ whole, isTrue a X.env whole = (do let v ← whole; standAt a.pos; holding [v] (truthy v)) := by intro _; rfl) : PT X a (lT X.K B (eTru ta)) :=
  PT.imp (pt_truth ha he) fun σ H Q ⟨W, e, P, bl, S, t, k⟩ => ⟨W, e, _, bl, S, t, fun d e1 W1 H1 v ⟨kk, et, p⟩ l1 S1 r1 => ⟨kk, tru_ok S1.ok r1 et, k _ _ _ _ p l1 S1⟩⟩

/-! ### arguments, displays -/
def aNil : DA := fun e P => P [] e
def aCons (te : DE) (tr : DA) : DA := fun e P => te e fun d e1 => tr e1 fun ds e2 => P (d :: ds) e2
variable {es : List Expr} {tr : DA}
theorem da_nil : PA X [] (lA X.K B aNil) := PA.imp pa_nil fun σ H Q ⟨W, e, P, bl, S, t, k⟩ => k [] e W H [] t W.le_refl S .nil
theorem da_cons (ha : PE X ex (lE X.K B te)) (hr : PA X es (lA X.K B tr)) (hs : starEach (ex :: es) X.env = (false, eval ex X.env) :: starEach es X.env := by rfl) : PA X (ex :: es) (lA X.K B (aCons te tr)) :=
  PA.imp (pa_cons ha hr hs) fun σ H Q ⟨W, e, P, bl, S, t, k⟩ => ⟨W, e, _, bl, S, t, fun d e1 W1 H1 v t1 l1 S1 r1 => ⟨W1, e1, _, (B.up bl l1), S1, t1, fun ds e2 W2 H2 vs p l2 S2 r2 => k _ _ _ _ _ p (l1.tr l2) S2 (.cons (R.mono l2 _ _ r1) r2)⟩⟩
def eTup (ta : DA) : DE := fun e P => ta e fun ds e1 => ds.length ≤ sizeLine ∧ P (.tup ds) e1
def eLst (o : Bool) (ta : DA) : DE := fun e P => ta e fun ds e1 => ds.length ≤ sizeLine ∧ newL o ds e1 P
theorem de_tup {x1} (h : PA X es (lA X.K B tr)) : PE X (.Tuple es x1 pos) (lE X.K B (eTup tr)) :=
  PE.imp (pe_tup h) fun σ H Q ⟨W, e, P, bl, S, t, k⟩ => ⟨W, e, _, bl, S, t, fun ds e1 W1 H1 vs ⟨hz, p⟩ l1 S1 r1 => ⟨by rw [r1.length]; exact hz, newT_ok S1 r1 p fun d e2 W2 H2 v p l2 S2 r2 => k d e2 W2 H2 v p (l1.tr l2) S2 r2⟩⟩
theorem de_lst {o : Bool} (h : PA X es (lA X.K B tr)) : PE X (.List es pos) (lE X.K B (eLst o tr)) :=
  PE.imp (pe_lst h) fun σ H Q ⟨W, e, P, bl, S, t, k⟩ => ⟨W, e, _, bl, S, t, fun ds e1 W1 H1 vs ⟨hz, p⟩ l1 S1 r1 => ⟨by rw [r1.length]; exact hz, newL_ok S1 r1 p fun d e2 W2 H2 v p l2 S2 r2 => k d e2 W2 H2 v p (l1.tr l2) S2 r2⟩⟩
end

/-! ### items and slices -/
def qIx : D → D → DE
  | .tup xs, .int i => fun e P => ∃ d, atI xs i = some d ∧ P d e
  | .str z, .int i => fun e P => z.length ≤ sizeLine ∧ ∃ c, atI z.cps.toList i = some c ∧ P (.str ⟨#[c]⟩) e
  | x, .int i => fun e P => ∃ xs, lk e.cs x = some xs ∧ ∃ d, atI xs i = some d ∧ P d e
  | _, _ => fun _ _ => False
theorem RAll.atI {K : PySem.W.Frag} {W : Wd} {vs : List V} {ds : List D} {i : Int} {d : D} (r : RAll K W vs ds) (h : L2.atI ds i = some d) : ∃ v, L2.atI vs i = some v ∧ R K W v d := by
  unfold L2.atI at h ⊢
  rw [r.length]
  cases e : ixN ds.length i with
  | none => rw [e] at h; cases h
  | some j =>
    rw [e] at h
    exact r.get h
theorem od_ix {K : PySem.W.Frag} : OpD K (rIx K) qIx := by
  intro W H σ e x y d1 d2 P Q S r1 r2 t k
  unfold qIx at t
  split at t
  · obtain ⟨d, h, p⟩ := t
    cases r1 with
    | tup h1 q1 =>
      obtain ⟨v, hv, rv⟩ := q1.atI h
      exact .inr (.inl ⟨_, _, _, v, rfl, r2.int_inv, Evl.ex_t S.ok.ex h1, hv, k _ _ _ _ _ p W.le_refl S rv⟩)
  · obtain ⟨hz, c, h, p⟩ := t
    exact .inr (.inr ⟨_, _, c, r1.str_inv, r2.int_inv, hz, h, k _ _ _ _ _ p W.le_refl S (.str _)⟩)
  · obtain ⟨xs, e1, d, h, p⟩ := t
    obtain ⟨a, vs, rfl, h1, q1⟩ := S.ok.lk r1 e1
    obtain ⟨v, hv, rv⟩ := q1.atI h
    exact .inl ⟨_, _, _, v, rfl, r2.int_inv, h1, hv, k _ _ _ _ _ p W.le_refl S rv⟩
  · exact t.elim
section
variable {X : Cx} {B : Bs} {a b ex : Expr} {pos : Pos} {ta tb te : DE}
theorem de_ix (ha : PE X a (lE X.K B ta)) (hb : PE X b (lE X.K B tb)) (hs : PlainIx b) : PE X (.Subscript a b pos) (lE X.K B (eBin qIx ta tb)) := PE.imp (pe_ix ix_seq ha hb hs) (bin_ok od_ix)
abbrev DO := En → (Option Int → En → Prop) → Prop
def lO (K : PySem.W.Frag) (B : Bs) (t : DO) : TO := fun σ H Q => ∃ W e P, B.p W ∧ Sd K W H σ e ∧ t e P ∧ ∀ o e' W' H', P o e' → W.le W' → Sd K W' H' σ e' → Q o H'
theorem PO.imp {e : Option Expr} {t t' : TO} (h : PO X e t) (i : ∀ σ H Q, t' σ H Q → t σ H Q) : PO X e t' := ⟨fun pins s σ H Q I w => h.run pins s σ H Q I (i σ H Q w)⟩
def oNone : DO := fun e P => P none e
def oSome (t : DE) : DO := fun e P => t e fun d e1 => ∃ i, d = .int i ∧ P (some i) e1
theorem do_none : PO X none (lO X.K B oNone) := PO.imp po_none fun σ H Q ⟨W, e, P, bl, S, t, k⟩ => k none e W H t W.le_refl S
theorem do_some (h : PE X ex (lE X.K B te)) : PO X (some ex) (lO X.K B (oSome te)) := PO.imp (po_some h) fun σ H Q ⟨W, e, P, bl, S, t, k⟩ =>
  ⟨W, e, _, bl, S, t, fun d e1 W1 H1 v ⟨i, ed, p⟩ l1 S1 r1 => ⟨i, by subst ed; exact r1.int_inv, k _ _ _ _ p l1 S1⟩⟩
def cutD (xs : List D) (loD hi : Option Int) : List D := (xs.drop (HT.sIx xs.length 0 loD)).take (HT.sIx xs.length xs.length hi - HT.sIx xs.length 0 loD)
theorem RAll.cut {K : PySem.W.Frag} {W : Wd} {vs : List V} {ds : List D} {loD hi : Option Int} (r : RAll K W vs ds) : RAll K W (cutV vs loD hi) (cutD ds loD hi) := by
  unfold cutV cutD
  rw [r.length]
  exact (r.drop _).take _
def qSl (o : Bool) : D → Option Int → Option Int → DE
  | .tup xs, loD, hi => fun e P => ¬ (HT.sIx xs.length 0 loD = 0 ∧ HT.sIx xs.length xs.length hi = xs.length) ∧ P (.tup (cutD xs loD hi)) e
  | .str z, loD, hi => fun e P => z.length ≤ sizeLine ∧ P (.str (cutS z loD hi)) e
  | x, loD, hi => fun e P => ∃ xs, lk e.cs x = some xs ∧ newL o (cutD xs loD hi) e P
def rSlA (K : PySem.W.Frag) : V → Option Int → Option Int → Hp → VK → Prop := fun x loD hi H Q => (rSlL K x loD hi H Q ∨ rSlT K x loD hi H Q) ∨ rSlS x loD hi H Q
theorem sl_A : SlR X (rSlA X.K) := (sl_list.or sl_tup).or sl_str
theorem qSl_ok {K : PySem.W.Frag} {W : Wd} {H : Hp} {σ : L2.St} {e : En} {o : Bool} {d : D} {v : V} {loD hi : Option Int} {P : D → En → Prop} {Q : VK} (S : Sd K W H σ e) (r : R K W v d) (t : qSl o d loD hi e P)
    (k : ∀ d e' W' H' v, P d e' → W.le W' → Sd K W' H' σ e' → R K W' v d → Q v H') : rSlA K v loD hi H Q := by
  unfold qSl at t
  split at t
  · cases r with
    | tup h1 q1 => exact .inl (.inr ⟨_, _, rfl, Evl.ex_t S.ok.ex h1, by rw [q1.length]; exact t.1, newT_ok S q1.cut t.2 k⟩)
  · cases r
    exact .inr ⟨_, rfl, t.1, k _ _ _ _ _ t.2 W.le_refl S (.str _)⟩
  · obtain ⟨xs, e1, t⟩ := t
    obtain ⟨a, vs, rfl, h1, q1⟩ := S.ok.lk r e1
    exact .inl (.inl ⟨_, _, rfl, h1, newL_ok S q1.cut t k⟩)
def eSl (o : Bool) (te : DE) (tl th : DO) : DE := fun e P => te e fun x e1 => tl e1 fun l e2 => th e2 fun h e3 => qSl o x l h e3 P
theorem de_slice {o : Bool} {loD hi : Option Expr} {tl th : DO} {p2} (he : PE X ex (lE X.K B te)) (hl : PO X loD (lO X.K B tl)) (hu : PO X hi (lO X.K B th)) : PE X (.Subscript ex (.Slice loD hi none p2) pos) (lE X.K B (eSl o te tl th)) :=
  PE.imp (pe_slice sl_A he hl hu) fun σ H Q ⟨W, e, P, bl, S, t, k⟩ => ⟨W, e, _, bl, S, t, fun x e1 W1 H1 v t1 l1 S1 r1 => ⟨W1, e1, _, (B.up bl l1), S1, t1, fun l e2 W2 H2 t2 l2 S2 => ⟨W2, e2, _, (B.up bl (l1.tr l2)), S2, t2, fun h e3 W3 H3 t3 l3 S3 =>
    qSl_ok S3 (R.mono (l2.tr l3) _ _ r1) t3 fun d e4 W4 H4 v4 p l4 S4 r4 => k d e4 W4 H4 v4 p (((l1.tr l2).tr l3).tr l4) S4 r4⟩⟩⟩
/-- xs[::-1] -/
def eRev (o : Bool) (te : DE) : DE := fun e P => te e fun x e1 => ∃ xs, lk e1.cs x = some xs ∧ newL o xs.reverse e1 P
theorem de_rev {o : Bool} {k : Nat} {p1 p2 p3 : Pos} (he : PE X ex (lE X.K B te)) : PE X (.Subscript ex (.Slice none none (some (.UnaryOp .USub (.Constant (.int 1) k p1) p2)) p3) pos) (lE X.K B (eRev o te)) :=
  PE.imp (pe_revL he) fun σ H Q ⟨W, e, P, bl, S, t, k⟩ => ⟨W, e, _, bl, S, t, fun x e1 W1 H1 v ⟨xs, e2, t1⟩ l1 S1 r1 => by
    obtain ⟨a, vs, rfl, h1, q1⟩ := S1.ok.lk r1 e2
    exact ⟨a, vs, rfl, h1, newL_ok S1 q1.reverse t1 fun d e4 W4 H4 v4 p l4 S4 r4 => k d e4 W4 H4 v4 p (l1.tr l4) S4 r4⟩⟩
end
end DL
namespace DL
open PySem PySem.Spec PyProof.Rows L2
open Evl (Ex)

/-! ### statements -/
/-- the wanted ends, by data and by values -/
structure Cv (K : PySem.W.Frag) (W : Wd) (P : Po) (E : Ends) : Prop where
  nx : ∀ e' W' H' σ', P.nx e' → W.le W' → Sd K W' H' σ' e' → E.nx σ' H'
  rt : ∀ d cs W' H' v, P.rt d cs → W.le W' → Ok K W' H' cs → R K W' v d → E.rt v H'
  bk : ∀ e' W' H' σ', P.bk e' → W.le W' → Sd K W' H' σ' e' → E.bk σ' H'
  ct : ∀ e' W' H' σ', P.ct e' → W.le W' → Sd K W' H' σ' e' → E.ct σ' H'
theorem Cv.up {K : PySem.W.Frag} {W W1 : Wd} {P : Po} {E : Ends} (c : Cv K W P E) (l : W.le W1) : Cv K W1 P E :=
  ⟨fun e' W' H' σ' p l' S => c.nx e' W' H' σ' p (l.tr l') S, fun d cs W' H' v p l' S r => c.rt d cs W' H' v p (l.tr l') S r, fun e' W' H' σ' p l' S => c.bk e' W' H' σ' p (l.tr l') S, fun e' W' H' σ' p l' S => c.ct e' W' H' σ' p (l.tr l') S⟩
theorem lS_mk {K : PySem.W.Frag} {B : Bs} {W : Wd} {t : DS} {E : Ends} {σ : L2.St} {H : Hp} {e : En} {P : Po} (bl : B.p W) (S : Sd K W H σ e) (h : t P e) (c : Cv K W P E) : lS K B t E σ H := ⟨W, e, P, bl, S, h, c.nx, c.rt, c.bk, c.ct⟩
theorem lS_un {K : PySem.W.Frag} {B : Bs} {t : DS} {E : Ends} {σ : L2.St} {H : Hp} (h : lS K B t E σ H) : ∃ W e P, B.p W ∧ Sd K W H σ e ∧ t P e ∧ Cv K W P E := by
  obtain ⟨W, e, P, bl, S, h, c1, c2, c3, c4⟩ := h
  exact ⟨W, e, P, bl, S, h, c1, c2, c3, c4⟩

/-- behind it u -/
def Po.thn (P : Po) (u : DS) : Po := { P with nx := u P }
/-- a loop's turn: from it N, a break to what follows -/
def Po.lp (P : Po) (N : En → Prop) : Po := { P with nx := N, ct := N, bk := P.nx }
def sNext : DS := fun P e => P.nx e
def sSeq (t u : DS) : DS := fun P e => t (P.thn u) e
def sDrop (t : DE) : DS := fun P e => t e fun _ e1 => P.nx e1
def sRet (t : DE) : DS := fun P e => t e fun d e1 => P.rt d e1.cs
def sRetN : DS := fun P e => P.rt .non e.cs
def sIf (c : DT) (t u : DS) : DS := fun P e => c e fun b e1 => if b = true then t P e1 else u P e1
def sBreak : DS := fun P e => P.bk e
def sCont : DS := fun P e => P.ct e
def sNever : DS := fun _ _ => False
def sAsg (t : DE) (i : Nat) : DS := fun P e => t e fun d e1 => P.nx { e1 with sl := e1.sl.set i (some d) }
/-- o[i] = v, o a list that changes -/
def sSub (tv to ti : DE) : DS := fun P e => tv e fun v e1 => to e1 fun o e2 => ti e2 fun i e3 => ∃ n xs k j, o = .cell n ∧ e3.cs[n]? = some (.lst xs) ∧ i = .int k ∧ ixN xs.length k = some j ∧ P.nx { e3 with cs := e3.cs.set n (.lst (xs.set j v)) }
def sAug (i : Nat) (t : DE) : DS := fun P e => ∃ a, e.sl[i]? = some (some (.int a)) ∧ t e fun d e1 => ∃ b, d = .int b ∧ P.nx { e1 with sl := e1.sl.set i (some (.int (a + b))) }
def sAugSub (i : Nat) (t : DE) : DS := fun P e => ∃ a, e.sl[i]? = some (some (.int a)) ∧ t e fun d e1 => ∃ b, d = .int b ∧ P.nx { e1 with sl := e1.sl.set i (some (.int (a - b))) }
section
variable {X : Cx} {B : Bs} {st : Stmt} {rest : List Stmt} {t u : DS} {ex a : Expr} {te ta tb tc : DE} {dt : DT} {pos : Pos} {K : PySem.W.Frag}
theorem dss_nil : PSs X [] (lS X.K B sNext) := PSs.imp pss_nil fun E σ H h => by
  obtain ⟨W, e, P, bl, S, h, c⟩ := lS_un h
  exact c.nx e W H σ h W.le_refl S
theorem dss_cons (h1 : PS X st (lS X.K B t)) (h2 : PSs X rest (lS X.K B u)) : PSs X (st :: rest) (lS X.K B (sSeq t u)) := PSs.imp (pss_cons h1 h2) fun E σ H h => by
  obtain ⟨W, e, P, bl, S, h, c⟩ := lS_un h
  exact lS_mk bl S h ⟨fun e' W' H' σ' p l S' => lS_mk ((B.up bl l)) S' p (c.up l), c.rt, c.bk, c.ct⟩
theorem dss_one (h1 : PS X st (lS X.K B t)) : PSs X [st] (lS X.K B t) := pss_one h1
theorem ds_pass : PS X (.Pass pos) (lS X.K B sNext) := PS.imp ps_pass fun E σ H h => by
  obtain ⟨W, e, P, bl, S, h, c⟩ := lS_un h
  exact c.nx e W H σ h W.le_refl S
theorem ds_break : PS X (.Break pos) (lS X.K B sBreak) := PS.imp ps_break fun E σ H h => by
  obtain ⟨W, e, P, bl, S, h, c⟩ := lS_un h
  exact c.bk e W H σ h W.le_refl S
theorem ds_continue : PS X (.Continue pos) (lS X.K B sCont) := PS.imp ps_continue fun E σ H h => by
  obtain ⟨W, e, P, bl, S, h, c⟩ := lS_un h
  exact c.ct e W H σ h W.le_refl S
theorem ds_never : PS X st (lS X.K B sNever) := PS.imp ps_never fun E σ H h => by
  obtain ⟨W, e, P, bl, S, h, c⟩ := lS_un h
  exact h
theorem dss_never : PSs X rest (lS X.K B sNever) := PSs.imp pss_never fun E σ H h => by
  obtain ⟨W, e, P, bl, S, h, c⟩ := lS_un h
  exact h
theorem ds_expr (he : PE X ex (lE X.K B te)) (hs : swapsWith ex none pos.line X.env = pure false := by rfl) : PS X (.Expr ex pos) (lS X.K B (sDrop te)) := PS.imp (ps_expr he hs) fun E σ H h => by
  obtain ⟨W, e, P, bl, S, h, c⟩ := lS_un h
  exact ⟨W, e, _, bl, S, h, fun d e1 W1 H1 v p l S1 r => c.nx _ _ _ _ p l S1⟩
theorem ds_ret (he : PE X ex (lE X.K B te)) : PS X (.Return (some ex) pos) (lS X.K B (sRet te)) := PS.imp (ps_ret he) fun E σ H h => by
  obtain ⟨W, e, P, bl, S, h, c⟩ := lS_un h
  exact ⟨W, e, _, bl, S, h, fun d e1 W1 H1 v p l S1 r => c.rt _ _ _ _ _ p l S1.ok r⟩
theorem ds_retN : PS X (.Return none pos) (lS X.K B sRetN) := PS.imp ps_retN fun E σ H h => by
  obtain ⟨W, e, P, bl, S, h, c⟩ := lS_un h
  exact c.rt _ _ _ _ _ h W.le_refl S.ok .non
theorem ds_if {c : Expr} {ss us : List Stmt} (hc : PT X c (lT X.K B dt)) (ha : PSs X ss (lS X.K B t)) (hb : PSs X us (lS X.K B u)) : PS X (.If c ss us pos) (lS X.K B (sIf dt t u)) := PS.imp (ps_if hc ha hb) fun E σ H h => by
  obtain ⟨W, e, P, bl, S, h, c⟩ := lS_un h
  refine ⟨W, e, _, bl, S, h, fun b e1 W1 H1 p l S1 => ?_⟩
  cases b with
  | true => exact iteT (lS_mk ((B.up bl l)) S1 p (c.up l))
  | false => exact iteF (lS_mk ((B.up bl l)) S1 p (c.up l))
theorem asg_ok {i : Nat} : ∀ E σ H, lS X.K B (sAsg te i) E σ H → tAsg (lE X.K B te) (gName i) E σ H := fun E σ H h => by
  obtain ⟨W, e, P, bl, S, h, c⟩ := lS_un h
  exact ⟨W, e, _, bl, S, h, fun d e1 W1 H1 v p l S1 r => c.nx _ _ _ _ p l ⟨S1.ok, S1.sl.set r⟩⟩
theorem ds_set {i : Nat} {x : Str} {pos' : Pos} (hN : X.N.Nodup) (hi : X.N[i]? = some x) (hx : Loc X.env.scope x) (he : PE X ex (lE X.K B te)) (hs : swapsWith ex (some (.Name x pos')) pos.line X.env = pure false := by rfl)
    (hf : X.fn x = true ∨ X.env.scope.names.lookup x = some .local := by first | exact .inl rfl | exact .inr rfl | assumption) : PS X (.Assign [.Name x pos'] ex pos) (lS X.K B (sAsg te i)) := PS.imp (ps_set hN hi hx he hs hf) asg_ok
theorem ds_aug {i : Nat} {x : Str} {pos' : Pos} (hN : X.N.Nodup) (hi : X.N[i]? = some x) (hx : Loc X.env.scope x) (he : PE X ex (lE X.K B te))
    (hf : X.fn x = true ∨ X.env.scope.names.lookup x = some .local := by first | exact .inl rfl | exact .inr rfl | assumption) : PS X (.AugAssign (.Name x pos') .Add ex pos) (lS X.K B (sAug i te)) := PS.imp (ps_aug hN hi hx he ip_add hf) fun E σ H h => by
  obtain ⟨W, e, P, bl, S, ⟨a, ha, h⟩, c⟩ := lS_un h
  obtain ⟨v, hv, r⟩ := S.sl.2 i _ ha
  exact ⟨v, hv, W, e, _, bl, S, h, fun d e1 W1 H1 v ⟨b, ed, p⟩ l S1 r1 => ⟨a, b, r.int_inv, by subst ed; exact r1.int_inv, c.nx _ _ _ _ p l ⟨S1.ok, S1.sl.set (.int _)⟩⟩⟩
theorem ds_sub {o i : Expr} {p2 : Pos} (hv : PE X ex (lE X.K B te)) (ho : PE X o (lE X.K B ta)) (hi : PE X i (lE X.K B tb))
    (ha : ∀ v, assign (.Subscript o i p2) X.env v = (do
      let ov ← holding [v] (eval o X.env)
      let iv ← holding [v, ov] (eval i X.env)
      standAt p2
      holding [v, ov, iv] (setItem ov iv v)
      release [v, ov, iv] []) := by intro _; rfl)
    (hs : swapsWithSole [.Subscript o i p2] ex pos.line X.env = pure false := by rfl) (hw : swappedStores [.Subscript o i p2] ex X.env = pure none := by rfl)
    (h1 : (assignEach [.Subscript o i p2] X.env).map (·.2) = [assign (.Subscript o i p2) X.env] := by rfl) : PS X (.Assign [.Subscript o i p2] ex pos) (lS X.K B (sSub te ta tb)) := PS.imp (ps_asg hv (pg_sub ho hi set_list ha) hs hw h1) fun E σ H h => by
  obtain ⟨W, e, P, bl, S, h, c⟩ := lS_un h
  refine ⟨W, e, _, bl, S, h, fun d e1 W1 H1 v t1 l1 S1 r1 => ⟨W1, e1, _, (B.up bl l1), S1, t1, fun o e2 W2 H2 w t2 l2 S2 r2 => ⟨W2, e2, _, (B.up bl (l1.tr l2)), S2, t2, fun i e3 W3 H3 x t3 l3 S3 r3 => ?_⟩⟩⟩
  obtain ⟨n, xs, k, j, rfl, hc, rfl, hk, p⟩ := t3
  cases r2 with
  | cell hm =>
    have hm3 := Wd.le_get l3 hm
    obtain ⟨vs, h1, h2⟩ := S3.ok.cellL hm3 hc
    refine ⟨_, vs, k, j, rfl, r3.int_inv, h1, by rw [h2.length]; exact hk, ?_⟩
    exact c.nx _ _ _ _ p ((l1.tr l2).tr l3) ⟨S3.ok.setC hm3 hc (fun z => nomatch z) ⟨_, upd_same, h2.set (R.mono (l2.tr l3) _ _ r1) j⟩, S3.sl⟩
end

/-! ### targets by slots -/
inductive Tg where
  | one (i : Nat)
  | tup (is : List Nat)
def setAll : List Nat → List D → List (Option D) → List (Option D)
  | i :: is, d :: ds, sl => setAll is ds (sl.set i (some d))
  | _, _, sl => sl
def setTg : Tg → D → List (Option D) → Option (List (Option D))
  | .one i, d, sl => some (sl.set i (some d))
  | .tup is, .tup xs, sl => if xs.length = is.length then some (setAll is xs sl) else none
  | _, _, _ => none
def gVs : List Nat → TGs
  | [] => gNil
  | i :: is => gCons (gName i) (gVs is)
def gV (K : PySem.W.Frag) : Tg → TG
  | .one i => gName i
  | .tup is => gTup K is.length (gVs is)
def Tg.on : Tg → List Nat
  | .one i => [i]
  | .tup is => is
section
variable {K : PySem.W.Frag} {W : Wd} {H : Hp} {σ : L2.St} {e : En}
def wipeD (sl : List (Option D)) : List Nat → List (Option D)
  | [] => sl
  | i :: is => (wipeD sl is).set i none
theorem SlO.wipe {σ : L2.St} {sl : List (Option D)} (h : SlO K W σ sl) : ∀ (vs : List Nat), SlO K W (L2.wipe σ vs) (wipeD sl vs)
  | [] => h
  | i :: is => by
    have h' := SlO.wipe h is
    refine ⟨by show ((L2.wipe σ is).set i none).length = ((wipeD sl is).set i none).length; simp [h'.1], fun j d e => ?_⟩
    have e : ((wipeD sl is).set i none)[j]? = some (some d) := e
    rw [List.getElem?_set] at e
    by_cases hij : i = j
    · subst hij
      rw [if_pos rfl] at e
      split at e <;> cases e
    · rw [if_neg hij] at e
      obtain ⟨v, a, b⟩ := h'.2 j d e
      exact ⟨v, by show ((L2.wipe σ is).set i none)[j]? = _; rw [List.getElem?_set_ne hij]; exact a, b⟩
theorem wipe_in {σ : L2.St} {k : Nat} : ∀ {vs : List Nat}, k ∈ vs → (wipe σ vs)[k]? = if k < σ.length then some none else none
  | [], h => by cases h
  | v :: vs, h => by
    show ((wipe σ vs).set v none)[k]? = _
    rw [List.getElem?_set]
    by_cases hv : v = k
    · subst hv
      rw [if_pos rfl, wipe_length]
    · rw [if_neg hv]
      exact wipe_in ((List.mem_cons.mp h).resolve_left fun e => hv e.symm)
theorem wipe_set {vs : List Nat} {σ : L2.St} {i : Nat} {x : Option V} (h : i ∈ vs) : wipe (σ.set i x) vs = wipe σ vs := by
  apply List.ext_getElem?
  intro k
  by_cases hk : k ∈ vs
  · rw [wipe_in hk, wipe_in hk, List.length_set]
  · rw [wipe_out hk, wipe_out hk, List.getElem?_set_ne (fun (e : i = k) => hk (e ▸ h))]
theorem wipe_wipe {vs : List Nat} {σ : L2.St} : wipe (wipe σ vs) vs = wipe σ vs := by
  apply List.ext_getElem?
  intro k
  by_cases hk : k ∈ vs
  · rw [wipe_in hk, wipe_in hk, wipe_length]
  · rw [wipe_out hk]
theorem gVs_ok {vs : List Nat} {Q : L2.St → Hp → Prop} : ∀ (is : List Nat) (xs : List V) (ds : List D) (σ : L2.St) (sl : List (Option D)), RAll K W xs ds → ds.length = is.length → SlO K W σ sl →
    (∀ σ', SlO K W σ' (setAll is ds sl) → ((∀ i ∈ is, i ∈ vs) → wipe σ' vs = wipe σ vs) → Q σ' H) → gVs is xs σ H Q
  | [], _, _, σ, sl, r, hl, S, k => by
    cases r with
    | nil => exact ⟨rfl, k σ S fun _ => rfl⟩
    | cons _ _ => cases hl
  | i :: is, _, _, σ, sl, r, hl, S, k => by
    cases r with
    | nil => cases hl
    | cons r1 r2 =>
      refine ⟨_, _, rfl, ?_⟩
      refine gVs_ok (vs := vs) is _ _ _ _ r2 (Nat.succ.inj hl) (S.set r1) fun σ' S' w => k σ' S' fun h => ?_
      rw [w fun j hj => h j (List.mem_cons_of_mem _ hj)]
      exact wipe_set (h i List.mem_cons_self)
theorem gV_ok {vs : List Nat} {tg : Tg} {v : V} {d : D} {sl' : List (Option D)} {Q : L2.St → Hp → Prop} (S : Sd K W H σ e) (r : R K W v d) (h : setTg tg d e.sl = some sl')
    (k : ∀ σ', Sd K W H σ' ⟨sl', e.cs⟩ → ((∀ i ∈ tg.on, i ∈ vs) → wipe σ' vs = wipe σ vs) → Q σ' H) : gV K tg v σ H Q := by
  cases tg with
  | one i =>
    have h' : some (e.sl.set i (some d)) = some sl' := h
    cases h'
    exact k _ ⟨S.ok, S.sl.set r⟩ fun hh => wipe_set (hh i (List.mem_singleton.mpr rfl))
  | tup is =>
    cases d with
    | tup xs =>
      have h' : (if xs.length = is.length then some (setAll is xs e.sl) else none) = some sl' := h
      split at h'
      · rename_i hl
        cases h'
        cases r with
        | tup h1 h2 =>
          refine ⟨_, _, rfl, Evl.ex_t S.ok.ex h1, by rw [h2.length]; exact hl, gVs_ok (vs := vs) is _ _ _ _ h2 hl S.sl fun σ' S' w => k σ' ⟨S.ok, S'⟩ w⟩
      · cases h'
    | _ => cases h
end
def sAsgT (t : DE) (tg : Tg) : DS := fun P e => t e fun d e1 => ∃ sl', setTg tg d e1.sl = some sl' ∧ P.nx ⟨sl', e1.cs⟩
theorem ds_asgT {X : Cx} {B : Bs} {tgE ex : Expr} {te : DE} {tg : Tg} {pos : Pos} (he : PE X ex (lE X.K B te)) (hg : PG X tgE (gV X.K tg)) (hs : swapsWithSole [tgE] ex pos.line X.env = pure false := by rfl) (hw : swappedStores [tgE] ex X.env = pure none := by rfl)
    (h1 : (assignEach [tgE] X.env).map (·.2) = [assign tgE X.env] := by rfl) : PS X (.Assign [tgE] ex pos) (lS X.K B (sAsgT te tg)) := PS.imp (ps_asg he hg hs hw h1) fun E σ H h => by
  obtain ⟨W, e, P, bl, S, h, c⟩ := lS_un h
  exact ⟨W, e, _, bl, S, h, fun d e1 W1 H1 v ⟨sl', hsl, p⟩ l S1 r => gV_ok (vs := []) S1 r hsl fun σ' S' _ => c.nx _ _ _ _ p l S'⟩

/-! ### what is walked -/
/-- .. whatever is hidden -/
def Wd.sub (W W' : Wd) : Prop := Ex W.F W'.F ∧ ∃ more, W'.m = W.m ++ more
theorem Wd.le.sub {W W' : Wd} (l : W.le W') : W.sub W' := ⟨l.1, l.2.1⟩
theorem Wd.sub.tr {W W1 W2 : Wd} (a : W.sub W1) (b : W1.sub W2) : W.sub W2 := by
  obtain ⟨e1, m1, h1⟩ := a
  obtain ⟨e2, m2, h2⟩ := b
  exact ⟨e1.trans e2, m1 ++ m2, by rw [h2, h1, List.append_assoc]⟩
/-- what is walked, and what holds while it is walked -/
abbrev DI := En → (List D → (List Cel → Prop) → En → Prop) → Prop
/-- J walks the items ds, as long as G -/
structure Wk (K : PySem.W.Frag) (W0 : Wd) (J : It) (G : List Cel → Prop) (ds : List D) : Prop where
  go : ∀ i W H σ e, W0.sub W → Sd K W H σ e → G e.cs → i < ds.length → J.go i H
  yld : ∀ i W H σ e x H' d, W0.sub W → Sd K W H σ e → G e.cs → ds[i]? = some d → J.yld i H x H' → ∃ W', W.le W' ∧ Sd K W' H' σ e ∧ R K W' x d
  stop : ∀ i W H σ e, W0.sub W → Sd K W H σ e → G e.cs → ds.length ≤ i → J.stop i H
/-- whatever the cells hold -/
def anyC : List Cel → Prop := fun _ => True
def lI (K : PySem.W.Frag) (B : Bs) (t : DI) : TI := fun σ H Q => ∃ W e P, B.p W ∧ Sd K W H σ e ∧ t e P ∧
  ∀ ds G e' W' H' J, P ds G e' → W.le W' → Sd K W' H' σ e' → Wk K W' J G ds → Q J H'
section
variable {X : Cx} {B : Bs} {tg ex a b : Expr} {te : DE} {ta : DA} {pos p : Pos} {K : PySem.W.Frag}
theorem PI.imp {t t' : TI} (h : PI X tg ex t) (i : ∀ σ H Q, t' σ H Q → t σ H Q) : PI X tg ex t' := ⟨fun pins s σ H Q I w => h.run pins s σ H Q I (i σ H Q w)⟩
theorem wk_list {W : Wd} {a : Addr} {vs : List V} {ds : List D} (h : SqL K W.F a vs) (r : RAll K W vs ds) : Wk K W (Itl K a) anyC ds where
  go := fun i W' H σ e l S _ hi => by
    have hi' : i < vs.length := by rw [r.length]; exact hi
    exact ⟨vs, vs[i], Evl.ex_l (l.1.trans S.ok.ex) h, by simp [hi']⟩
  yld := fun i W' H σ e x H' d l S _ hd y => by
    obtain ⟨rfl, y⟩ := y
    obtain ⟨v, hv, rv⟩ := r.get hd
    have e1 := y vs (Evl.ex_l (l.1.trans S.ok.ex) h)
    rw [hv] at e1
    cases e1
    exact ⟨W', W'.le_refl, S, R.mono' l _ _ rv⟩
  stop := fun i W' H σ e l S _ hi => ⟨vs, Evl.ex_l (l.1.trans S.ok.ex) h, by rw [r.length]; exact hi⟩
theorem wk_tup {W : Wd} {a : Addr} {vs : List V} {ds : List D} (h : SqT K W.F a vs) (r : RAll K W vs ds) : Wk K W (Itt K a) anyC ds where
  go := fun i W' H σ e l S _ hi => by
    have hi' : i < vs.length := by rw [r.length]; exact hi
    exact ⟨vs, vs[i], Evl.ex_t (l.1.trans S.ok.ex) h, by simp [hi']⟩
  yld := fun i W' H σ e x H' d l S _ hd y => by
    obtain ⟨rfl, y⟩ := y
    obtain ⟨v, hv, rv⟩ := r.get hd
    have e1 := y vs (Evl.ex_t (l.1.trans S.ok.ex) h)
    rw [hv] at e1
    cases e1
    exact ⟨W', W'.le_refl, S, R.mono' l _ _ rv⟩
  stop := fun i W' H σ e l S _ hi => ⟨vs, Evl.ex_t (l.1.trans S.ok.ex) h, by rw [r.length]; exact hi⟩
theorem wk_cell {W : Wd} {n : Nat} {a : Addr} {ds : List D} (hm : W.m[n]? = some a) : Wk K W (Itl K a) (fun cs => cs[n]? = some (.lst ds)) ds where
  go := fun i W' H σ e l S g hi => by
    have hm' : W'.m[n]? = some a := by
      obtain ⟨more, e2⟩ := l.2
      have := (List.getElem?_eq_some_iff.mp hm).1
      rw [e2, List.getElem?_append_left this]
      exact hm
    obtain ⟨vs, h1, h2⟩ := S.ok.cellL hm' g
    have hi' : i < vs.length := by rw [h2.length]; exact hi
    exact ⟨vs, vs[i], SqL.of h1, by simp [hi']⟩
  yld := fun i W' H σ e x H' d l S g hd y => by
    have hm' : W'.m[n]? = some a := by
      obtain ⟨more, e2⟩ := l.2
      have := (List.getElem?_eq_some_iff.mp hm).1
      rw [e2, List.getElem?_append_left this]
      exact hm
    obtain ⟨vs, h1, h2⟩ := S.ok.cellL hm' g
    obtain ⟨rfl, y⟩ := y
    obtain ⟨v, hv, rv⟩ := h2.get hd
    have e1 := y vs (SqL.of h1)
    rw [hv] at e1
    cases e1
    exact ⟨W', W'.le_refl, S, rv⟩
  stop := fun i W' H σ e l S g hi => by
    have hm' : W'.m[n]? = some a := by
      obtain ⟨more, e2⟩ := l.2
      have := (List.getElem?_eq_some_iff.mp hm).1
      rw [e2, List.getElem?_append_left this]
      exact hm
    obtain ⟨vs, h1, h2⟩ := S.ok.cellL hm' g
    exact ⟨vs, SqL.of h1, by rw [h2.length]; exact hi⟩
/-- the intsD loD, loD + 1, .. -/
def intsD (loD : Int) (n : Nat) : List D := (List.range n).map fun (i : Nat) => D.int (loD + (i : Int))
theorem intsD_len (loD : Int) (n : Nat) : (intsD loD n).length = n := by simp [intsD]
theorem intsD_get {loD : Int} {n i : Nat} {d : D} (h : (intsD loD n)[i]? = some d) : i < n ∧ d = .int (loD + i) := by
  have hl := (List.getElem?_eq_some_iff.mp h).1
  rw [intsD_len] at hl
  unfold intsD at h
  rw [List.getElem?_map, List.getElem?_range hl] at h
  exact ⟨hl, (Option.some.inj h).symm⟩
theorem wk_rng {W : Wd} {loD : Int} {n : Nat} : Wk K W (Itr loD n) anyC (intsD loD n) where
  go := fun i W' H σ e l S _ hi => by rw [intsD_len] at hi; exact hi
  yld := fun i W' H σ e x H' d l S _ hd y => by
    obtain ⟨rfl, rfl⟩ := y
    obtain ⟨_, rfl⟩ := intsD_get hd
    exact ⟨W', W'.le_refl, S, .int _⟩
  stop := fun i W' H σ e l S _ hi => by rw [intsD_len] at hi; exact hi
/-- a list (that changes no more) or a tuple -/
def fixL : D → Option (List D)
  | .lst xs => some xs
  | .fro xs => some xs
  | _ => none
def iL (t : DE) : DI := fun e P => t e fun d e1 => ∃ xs, fixL d = some xs ∧ P xs anyC e1
def iT (t : DE) : DI := fun e P => t e fun d e1 => ∃ xs, d = .tup xs ∧ P xs anyC e1
theorem di_list (h : PE X ex (lE X.K B te)) : PI X tg ex (lI X.K B (iL te)) := PI.imp (pi_list h) fun σ H Q ⟨W, e, P, bl, S, t, k⟩ => by
  refine ⟨W, e, _, bl, S, t, fun d e1 W1 H1 v ⟨xs, hx, p⟩ l S1 r => ?_⟩
  have : ∃ a vs, v = .ref a ∧ SqL X.K W1.F a vs ∧ RAll X.K W1 vs xs := by
    cases r <;> simp only [fixL] at hx <;> cases hx
    · exact ⟨_, _, rfl, SqL.of (by assumption), by assumption⟩
    · exact ⟨_, _, rfl, by assumption, by assumption⟩
  obtain ⟨a, vs, rfl, h1, h2⟩ := this
  exact ⟨a, rfl, ⟨vs, Evl.ex_l S1.ok.ex h1⟩, k _ _ _ _ _ _ p l S1 (wk_list h1 h2)⟩
theorem di_tup (h : PE X ex (lE X.K B te)) : PI X tg ex (lI X.K B (iT te)) := PI.imp (pi_tup h) fun σ H Q ⟨W, e, P, bl, S, t, k⟩ => by
  refine ⟨W, e, _, bl, S, t, fun d e1 W1 H1 v ⟨xs, hx, p⟩ l S1 r => ?_⟩
  subst hx
  cases r with
  | tup h1 h2 => exact ⟨_, rfl, ⟨_, Evl.ex_t S1.ok.ex h1⟩, k _ _ _ _ _ _ p l S1 (wk_tup h1 h2)⟩
def iR1 (t : DA) : DI := fun e P => t e fun ds e1 => ∃ j, ds = [.int j] ∧ -(2 ^ 62) ≤ j ∧ j < 2 ^ 62 ∧ P (intsD 0 j.toNat) anyC e1
def iR2 (t : DA) : DI := fun e P => t e fun ds e1 => ∃ i j, ds = [.int i, .int j] ∧ (-(2 ^ 62) ≤ i ∧ i < 2 ^ 62 ∧ -(2 ^ 62) ≤ j ∧ j < 2 ^ 62) ∧ P (intsD i (j - i).toNat) anyC e1
theorem RAll.one_int {W : Wd} {vs : List V} {j : Int} (r : RAll K W vs [.int j]) : vs = [.int j] := by
  cases r with
  | cons h t => cases h; cases t; rfl
theorem RAll.two_int {W : Wd} {vs : List V} {i j : Int} (r : RAll K W vs [.int i, .int j]) : vs = [.int i, .int j] := by
  cases r with
  | cons h t =>
    cases h
    cases t with
    | cons h t => cases h; cases t; rfl
theorem di_range1 (hg : Gl X "range") (hm : X.mg "range" = none) (ha : PA X [a] (lA X.K B ta)) (hs : starEach [a] X.env = [(false, eval a X.env)] := by rfl) : PI X tg (.Call (.Name "range" p) [a] [] pos) (lI X.K B (iR1 ta)) :=
  PI.imp (pi_range1 hg hm ha hs) fun σ H Q ⟨W, e, P, bl, S, t, k⟩ => ⟨W, e, _, bl, S, t, fun ds e1 W1 H1 vs ⟨j, ed, h1, h2, p⟩ l S1 r => by
    subst ed
    exact ⟨j, r.one_int, h1, h2, k _ _ _ _ _ _ p l S1 wk_rng⟩⟩
theorem di_range2 (hg : Gl X "range") (hm : X.mg "range" = none) (ha : PA X [a, b] (lA X.K B ta)) (hs : starEach [a, b] X.env = [(false, eval a X.env), (false, eval b X.env)] := by rfl) (hs2 : starEach [b] X.env = [(false, eval b X.env)] := by rfl) :
    PI X tg (.Call (.Name "range" p) [a, b] [] pos) (lI X.K B (iR2 ta)) :=
  PI.imp (pi_range2 hg hm ha hs hs2) fun σ H Q ⟨W, e, P, bl, S, t, k⟩ => ⟨W, e, _, bl, S, t, fun ds e1 W1 H1 vs ⟨i, j, ed, h, p⟩ l S1 r => by
    subst ed
    exact ⟨i, j, r.two_int, h, k _ _ _ _ _ _ p l S1 wk_rng⟩⟩
end

/-! ### loops -/
def sFor (it : DI) (tg : Tg) (tb : DS) : DS := fun P e => it e fun ds G e1 => ∃ I : Nat → En → Prop, I 0 e1 ∧
  (∀ i d e2, ds[i]? = some d → I i e2 → G e2.cs ∧ ∃ sl', setTg tg d e2.sl = some sl' ∧ tb (P.lp (I (i + 1))) ⟨sl', e2.cs⟩) ∧ ∀ e2, I ds.length e2 → G e2.cs ∧ P.nx e2
def sWhile (c : DT) (tb : DS) : DS := fun P e => ∃ I : Nat → En → Prop, (∃ m, I m e) ∧ ∀ m e1, I m e1 → c e1 fun b e2 => if b = true then tb (P.lp fun e3 => ∃ m', m' < m ∧ I m' e3) e2 else P.nx e2
section
variable {X : Cx} {B : Bs} {tgE iter c : Expr} {body : List Stmt} {it : DI} {dt : DT} {tb : DS} {tg : Tg} {pos : Pos}
theorem ds_for (hp : PassesOwn (model X.prog X.w) X.A X.env X.xe) (hc : X.calm = true) (hi : PI X tgE iter (lI X.K B it)) (hg : PG X tgE (gV X.K tg)) (hb : PSs X body (lS X.K B tb))
    (hs : ∀ x, foldedSetIterable iter X.env x = pure x := by intro _; rfl) : PS X (.For tgE iter body [] pos) (lS X.K B (sFor it tg tb)) := PS.imp (ps_for hp hc hi hg hb hs) fun E σ H h => by
  obtain ⟨W, e, P, bl, S, h, c⟩ := lS_un h
  refine ⟨W, e, _, bl, S, h, fun ds G e1 W1 H1 J ⟨I, i0, turn, done⟩ l1 S1 wk => ?_⟩
  refine ⟨fun i m σ H => m = ds.length - i ∧ i ≤ ds.length ∧ ∃ W2 e2, W1.le W2 ∧ Sd X.K W2 H σ e2 ∧ I i e2, ⟨_, rfl, Nat.zero_le _, W1, e1, W1.le_refl, S1, i0⟩, ?_⟩
  rintro i m σ2 H2 ⟨rfl, hi, W2, e2, l2, S2, p2⟩
  by_cases hlt : i < ds.length
  · have hd : ds[i]? = some ds[i] := by simp [hlt]
    obtain ⟨g2, sl', hsl, p3⟩ := turn i _ e2 hd p2
    refine .inr ⟨wk.go i W2 H2 σ2 e2 l2.sub S2 g2 hlt, fun σ H => ∃ W2 e2, W1.le W2 ∧ Sd X.K W2 H σ e2 ∧ I (i + 1) e2, fun σ' H' q => ⟨ds.length - (i + 1), by omega, rfl, hlt, q⟩, fun x H' y => ?_⟩
    obtain ⟨W3, l3, S3, r3⟩ := wk.yld i W2 H2 σ2 e2 x H' _ l2.sub S2 g2 hd y
    refine gV_ok (vs := []) S3 r3 hsl fun σ4 S4 _ => ?_
    have l13 := l2.tr l3
    have l03 := l1.tr l13
    exact lS_mk ((B.up bl l03)) S4 p3 ⟨fun e' W' H' σ' p l S' => ⟨W', e', l13.tr l, S', p⟩, fun d cs W' H' v p l S' r => c.rt d cs W' H' v p (l03.tr l) S' r, fun e' W' H' σ' p l S' => c.nx e' W' H' σ' p (l03.tr l) S', fun e' W' H' σ' p l S' => ⟨W', e', l13.tr l, S', p⟩⟩
  · have ei : i = ds.length := by omega
    subst ei
    obtain ⟨g2, q2⟩ := done e2 p2
    exact .inl ⟨wk.stop _ W2 H2 σ2 e2 l2.sub S2 g2 (Nat.le_refl _), c.nx _ _ _ _ q2 (l1.tr l2) S2⟩
theorem ds_while (hp : PassesOwn (model X.prog X.w) X.A X.env X.xe) (hc : PT X c (lT X.K B dt)) (hb : PSs X body (lS X.K B tb)) : PS X (.While c body [] pos) (lS X.K B (sWhile dt tb)) := PS.imp (ps_while hp hc hb) fun E σ H h => by
  obtain ⟨W, e, P, bl, S, ⟨I, ⟨m0, i0⟩, turn⟩, c⟩ := lS_un h
  refine ⟨fun m σ H => ∃ W2 e2, W.le W2 ∧ Sd X.K W2 H σ e2 ∧ I m e2, ⟨m0, W, e, W.le_refl, S, i0⟩, ?_⟩
  rintro m σ2 H2 ⟨W2, e2, l2, S2, p2⟩
  refine ⟨W2, e2, _, (B.up bl l2), S2, turn m e2 p2, fun b e3 W3 H3 p3 l3 S3 => ?_⟩
  have l03 := l2.tr l3
  cases b with
  | true =>
    refine iteT ⟨fun σ' H' => ∃ m', m' < m ∧ ∃ W2 e2, W.le W2 ∧ Sd X.K W2 H' σ' e2 ∧ I m' e2, fun _ _ q => q, lS_mk ((B.up bl l03)) S3 p3 ⟨?_, fun d cs W' H' v p l S' r => c.rt d cs W' H' v p (l03.tr l) S' r, fun e' W' H' σ' p l S' => c.nx e' W' H' σ' p (l03.tr l) S', ?_⟩⟩
    · rintro e' W' H' σ' ⟨m', hm, p⟩ l S'
      exact ⟨m', hm, W', e', l03.tr l, S', p⟩
    · rintro e' W' H' σ' ⟨m', hm, p⟩ l S'
      exact ⟨m', hm, W', e', l03.tr l, S', p⟩
  | false => exact iteF (c.nx _ _ _ _ p3 l03 S3)
end
end DL
namespace DL
open PySem PySem.Spec PyProof.Rows L2
open Evl (Ex)

/-! ### no name of a cell from k on -/
mutual
def loD (k : Nat) : D → Bool
  | .tup xs => los k xs
  | .lst xs => los k xs
  | .fro xs => los k xs
  | .ins _ _ xs => los k xs
  | .cell n => decide (n < k)
  | .non => true
  | .bl _ => true
  | .int _ => true
  | .str _ => true
  | .dct => true
  | .raw _ => true
  | .exc _ _ => true
def los (k : Nat) : List D → Bool
  | [] => true
  | x :: xs => loD k x && los k xs
end
section
variable {K : PySem.W.Frag} {W : Wd}
mutual
theorem R.low {k : Nat} : ∀ (d : D) (v : V), R K W v d → loD k d = true → R K ⟨W.F, W.m.take k, W.h⟩ v d
  | .non, _, h, _ => by cases h; exact .non
  | .bl b, _, h, _ => by cases h; exact .bl b
  | .int i, _, h, _ => by cases h; exact .int i
  | .str s, _, h, _ => by cases h; exact .str s
  | .tup xs, _, h, o => by
    cases h with
    | tup hs ha => exact .tup hs (RAll.low xs _ ha o)
  | .lst xs, _, h, o => by
    cases h with
    | lst hs ha => exact .lst hs (RAll.low xs _ ha o)
  | .fro xs, _, h, o => by
    cases h with
    | fro hs ha => exact .fro hs (RAll.low xs _ ha o)
  | .ins C ns xs, _, h, o => by
    cases h with
    | ins hs ha => exact .ins hs (RAll.low xs _ ha o)
  | .cell n, _, h, o => by
    cases h with
    | cell hs => exact .cell (by show (W.m.take k)[n]? = _; rw [List.getElem?_take_of_lt (of_decide_eq_true o)]; exact hs)
  | .dct, _, h, _ => by
    cases h with
    | dct hs => exact .dct hs
  | .raw v, _, h, _ => by cases h; exact .raw v
  | .exc C p, _, h, _ => by
    cases h with
    | exc hs hp => exact .exc hs hp
theorem RAll.low {k : Nat} : ∀ (ds : List D) (vs : List V), RAll K W vs ds → los k ds = true → RAll K ⟨W.F, W.m.take k, W.h⟩ vs ds
  | [], _, h, _ => by cases h; exact .nil
  | d :: ds, _, h, o => by
    cases h with
    | cons h1 h2 =>
      have o' : (loD k d && los k ds) = true := o
      rw [Bool.and_eq_true] at o'
      exact .cons (R.low d _ h1 o'.1) (RAll.low ds _ h2 o'.2)
end
end
def Cel.loD (k : Nat) : Cel → Bool
  | .dead => true
  | .lst xs => los k xs
  | .ins _ _ xs => los k xs
  | .dic kxs => los k (kxs.map (·.2))
theorem RKs.low {K : PySem.W.Frag} {W : Wd} {k : Nat} : ∀ {ps : List (Key × V)} {kxs : List (Int × D)}, RKs K W ps kxs → los k (kxs.map (·.2)) = true → RKs K ⟨W.F, W.m.take k, W.h⟩ ps kxs
  | _, _, .nil, _ => .nil
  | _, _, @RKs.cons _ _ _ _ d _ kxs r t, o => by
    have o' : (DL.loD k d && los k (kxs.map (·.2))) = true := o
    rw [Bool.and_eq_true] at o'
    exact .cons (R.low d _ r o'.1) (RKs.low t o'.2)
theorem ClOk.low {K : PySem.W.Frag} {W : Wd} {H : Hp} {a : Addr} {k : Nat} : ∀ {c : Cel}, ClOk K W H a c → c.loD k = true → ClOk K ⟨W.F, W.m.take k, W.h⟩ H a c
  | .dead, _, _ => trivial
  | .lst xs, ⟨vs, h, r⟩, o => ⟨vs, h, RAll.low xs _ r o⟩
  | .ins C ns xs, ⟨dx, gs, h, e, r⟩, o => ⟨dx, gs, h, e, RAll.low xs _ r o⟩
  | .dic _, ⟨ps, h, r⟩, o => ⟨ps, h, r.low o⟩
/-- the younger cells forgotten -/
theorem Ok.low {K : PySem.W.Frag} {W : Wd} {H : Hp} {cs : List Cel} {k : Nat} (h : Ok K W H cs) (o : (cs.take k).all (Cel.loD k) = true) : Ok K ⟨W.F, W.m.take k, W.h⟩ H (cs.take k) := by
  have get : ∀ {α : Type} {l : List α} {n : Nat} {x : α}, (l.take k)[n]? = some x → l[n]? = some x := fun {α l n x} e => by
    by_cases hn : n < k
    · rw [List.getElem?_take_of_lt hn] at e; exact e
    · rw [List.getElem?_eq_none (by rw [List.length_take]; omega)] at e; cases e
  refine ⟨h.ex, by simp [h.len], h.nd.sublist (List.take_sublist _ _), fun a ha => h.here a (List.mem_of_mem_take ha), fun n a c e1 e2 => h.fr n a c (get e1) (get e2), fun n a c e1 e2 => ?_, fun q hq => ?_, h.hn⟩
  · exact (h.cl n a c (get e1) (get e2)).low (List.all_eq_true.mp o c (List.mem_of_getElem? e2))
  · obtain ⟨h1, h2, h3⟩ := h.hd q hq
    exact ⟨h1, h2, fun hm => h3 (List.mem_of_mem_take hm)⟩

/-! ### comprehensions -/
def eLc (o : Bool) (it : DI) (tg : Tg) (tt : DT) (te : DE) (vs : List Nat) : DE := fun e P => it e fun ds G e1 => ds.length ≤ sizeLine ∧ ∃ I : Nat → List D → List Cel → Prop, I 0 [] e1.cs ∧
  (∀ i d acc cs, ds[i]? = some d → I i acc cs → G cs ∧ ∃ sl', setTg tg d (wipeD e1.sl vs) = some sl' ∧ tt ⟨sl', cs⟩ fun b e2 => if b = true then te e2 fun y e3 => I (i + 1) (acc ++ [y]) e3.cs else I (i + 1) acc e2.cs) ∧
  ∀ acc cs, acc.length ≤ ds.length → I ds.length acc cs → G cs ∧ newL o acc ⟨e1.sl, cs⟩ P
def dYes : DT := fun e P => P true e
section
variable {K : PySem.W.Frag} {X : Cx} {B : Bs} {elt tgE iter : Expr} {ifs : List Expr} {scope : Scope} {own : List (Str × Nat)} {pos : Pos} {it : DI} {tg : Tg} {tt : DT} {te : DE} {o : Bool}
theorem SlO.mono' {W W' : Wd} {σ : L2.St} {sl : List (Option D)} (l : W.sub W') (h : SlO K W σ sl) : SlO K W' σ sl :=
  ⟨h.1, fun i d e => let ⟨v, a, b⟩ := h.2 i d e; ⟨v, a, R.mono' l _ _ b⟩⟩
theorem lc_ok {vs : List Nat} (hv : ∀ i ∈ tg.on, i ∈ vs) : ∀ σ H Q, lE K B (eLc o it tg tt te vs) σ H Q → tLc (lI K B it) (gV K tg) (lT K Bs.any tt) (lE K Bs.any te) vs σ H Q := by
  rintro σ H Q ⟨W, e, P, bl, S, t, k⟩
  refine ⟨W, e, _, bl, S, t, fun ds G e1 W1 H1 J ⟨hz, I, i0, turn, done⟩ l1 S1 wk Dl hD => ?_⟩
  obtain ⟨F1, m1, h1⟩ := W1
  refine ⟨fun i m H => m = ds.length - i ∧ i ≤ ds.length ∧ ∃ (F : Hp) (mm : List Addr) (vs' : List V) (acc : List D) (cs : List Cel), Wd.sub ⟨F1, m1, h1⟩ ⟨F, mm, (Dl, vs') :: h1⟩ ∧ Ok K ⟨F, mm, (Dl, vs') :: h1⟩ H cs ∧ RAll K ⟨F, mm, (Dl, vs') :: h1⟩ vs' acc ∧ acc.length ≤ i ∧ I i acc cs,
    ⟨_, rfl, Nat.zero_le _, F1, m1, [], [], e1.cs, ⟨Ex.refl _, [], (List.append_nil _).symm⟩, S1.ok.hide hD, .nil, Nat.zero_le _, i0⟩, ?_⟩
  rintro i m H2 ⟨rfl, hi, F, mm, vs', acc, cs, sb, ok, ra, hacc, p⟩
  have Sx : Sd K ⟨F, mm, (Dl, vs') :: h1⟩ H2 σ ⟨e1.sl, cs⟩ := ⟨ok, S1.sl.mono' sb⟩
  by_cases hlt : i < ds.length
  · have hd : ds[i]? = some ds[i] := by simp [hlt]
    obtain ⟨g2, sl', hsl, p3⟩ := turn i _ acc cs hd p
    refine .inr ⟨wk.go i _ H2 σ _ sb Sx g2 hlt, _, fun H' q => ⟨ds.length - (i + 1), by omega, rfl, hlt, q⟩, fun x H' y => ?_⟩
    obtain ⟨W3, l3, S3, r3⟩ := wk.yld i _ H2 σ _ x H' _ sb Sx g2 hd y
    have S3w : Sd K W3 H' (wipe σ vs) ⟨wipeD e1.sl vs, cs⟩ := ⟨S3.ok, S3.sl.wipe vs⟩
    refine gV_ok (vs := vs) S3w r3 hsl fun σ4 S4 w4 => ⟨by rw [w4 hv, wipe_wipe], ?_⟩
    refine ⟨W3, _, _, trivial, S4, p3, fun b e5 W5 H5 p5 l5 S5 => ?_⟩
    have fin : ∀ (W6 : Wd) (H6 : Hp) (e6 : En) (acc' : List D) (vs6 : List V), W3.le W6 → Ok K W6 H6 e6.cs → RAll K W6 vs6 acc' → acc'.length ≤ i + 1 → I (i + 1) acc' e6.cs →
        ∀ (H7 : Hp), (H7 = upd H6 Dl (.lst vs6) ∨ (H7 = H6 ∧ vs6 = vs')) → ∃ (F : Hp) (mm : List Addr) (vs' : List V) (acc : List D) (cs : List Cel), Wd.sub ⟨F1, m1, h1⟩ ⟨F, mm, (Dl, vs') :: h1⟩ ∧ Ok K ⟨F, mm, (Dl, vs') :: h1⟩ H7 cs ∧ RAll K ⟨F, mm, (Dl, vs') :: h1⟩ vs' acc ∧ acc.length ≤ i + 1 ∧ I (i + 1) acc cs := by
      intro W6 H6 e6 acc' vs6 l6 ok6 ra6 hl6 p6 H7 hH
      have l36 := l3.tr l6
      obtain ⟨F6, m6, h6⟩ := W6
      obtain rfl : h6 = (Dl, vs') :: h1 := l36.2.2
      have sb6 : Wd.sub ⟨F1, m1, h1⟩ ⟨F6, m6, (Dl, vs6) :: h1⟩ := sb.tr (W2 := ⟨F6, m6, (Dl, vs6) :: h1⟩) ⟨l36.1, l36.2.1⟩
      refine ⟨F6, m6, vs6, acc', e6.cs, sb6, ?_, ra6.world rfl rfl, hl6, p6⟩
      rcases hH with rfl | ⟨rfl, rfl⟩
      · exact ok6.grow
      · exact ok6
    cases b with
    | false => exact iteF (fin W5 H5 e5 acc vs' l5 S5.ok (RAll.mono (l3.tr l5) _ _ ra) (by omega) p5 H5 (.inr ⟨rfl, rfl⟩))
    | true =>
      refine iteT ⟨W5, e5, _, trivial, S5, p5, fun y e6 W6 H6 v6 p6 l6 S6 r6 => ?_⟩
      have l56 := l5.tr l6
      have hD6 : H6 Dl = some (.lst vs') := (S6.ok.hd (Dl, vs') (by rw [(l3.tr l56).2.2]; exact List.mem_cons_self)).1
      have ra6 : RAll K W6 vs' acc := RAll.mono (l3.tr l56) _ _ ra
      exact ⟨vs', hD6, by rw [ra6.length]; omega, fin W6 H6 e6 (acc ++ [y]) (vs' ++ [v6]) l56 S6.ok (ra6.app1 r6) (by simp; omega) p6 _ (.inl rfl)⟩
  · have ei : i = ds.length := by omega
    subst ei
    obtain ⟨g2, q⟩ := done acc cs hacc p
    refine .inl ⟨wk.stop _ _ H2 σ _ sb Sx g2 (Nat.le_refl _), ?_⟩
    have ra' : RAll K ⟨F, mm, h1⟩ vs' acc := ra.world rfl rfl
    have lx : (⟨F1, m1, h1⟩ : Wd).le ⟨F, mm, h1⟩ := ⟨sb.1, sb.2, rfl⟩
    cases o with
    | false =>
      obtain ⟨ok', l'⟩ := ok.showF
      exact k _ _ _ _ _ q (l1.tr (lx.tr l')) ⟨ok', S1.sl.mono (lx.tr l')⟩ (.lst upd_same (RAll.mono l' _ _ ra'))
    | true =>
      obtain ⟨ok', l'⟩ := ok.showC ra'
      refine k _ _ _ _ _ q (l1.tr (lx.tr l')) ⟨ok', S1.sl.mono (lx.tr l')⟩ (.cell ?_)
      show (mm ++ [Dl])[cs.length]? = some Dl
      have hl : mm.length = cs.length := ok.len
      rw [← hl, List.getElem?_append_right (Nat.le_refl _)]
      simp
end
end DL
namespace DL
open PySem PySem.Spec PyProof.Rows L2
open Evl (Ex)

/-! ### comprehensions, as rules -/
section
variable {X : Cx} {B : Bs} {elt tgE iter : Expr} {ifs : List Expr} {scope : Scope} {own : List (Str × Nat)} {pos : Pos} {it : DI} {tg : Tg} {tt : DT} {te : DE}
theorem PTs.imp {X : Cx} {ifs : List Expr} {t t' : TT} (h : PTs X ifs t) (i : ∀ σ H Q, t' σ H Q → t σ H Q) : PTs X ifs t' := ⟨fun pins s σ H Q I w => h.run pins s σ H Q I (i σ H Q w)⟩
theorem dts_nil : PTs X [] (lT X.K B dYes) := PTs.imp pts_nil fun σ H Q ⟨W, e, P, _, S, p, k⟩ => k true e W H p W.le_refl S
theorem dts_one {c : Expr} (h : PT X c (lT X.K B tt)) : PTs X [c] (lT X.K B tt) := pts_one h
theorem de_lc {o : Bool} (hc : X.calm = true) (hN : X.N.Nodup) (hi : PI X tgE iter (lI X.K B it)) (ok : BlkOk X.N X.env.scope scope own) (hv : ∀ i ∈ tg.on, i ∈ own.map (·.2))
    (hg : ∀ (s : Shared) (H : Hp) (C : Addr) (cl : List (Str × Addr)) (fp : List Addr), PG (X.blk s H scope (compEnvC scope cl C X.env) fp) tgE (gV X.K tg)) (ht : ∀ (s : Shared) (H : Hp) (C : Addr) (cl : List (Str × Addr)) (fp : List Addr), PTs (X.blk s H scope (compEnvC scope cl C X.env) fp) ifs (lT X.K Bs.any tt))
    (he : ∀ (s : Shared) (H : Hp) (C : Addr) (cl : List (Str × Addr)) (fp : List Addr), PE (X.blk s H scope (compEnvC scope cl C X.env) fp) elt (lE X.K Bs.any te)) (hs : ∀ x, foldedSetIterable iter X.env x = pure x := by intro _; rfl) :
    PE X (.ListComp elt [⟨tgE, iter, ifs, 0⟩] scope pos) (lE X.K B (eLc o it tg tt te (own.map (·.2)))) := PE.imp (pe_lc hc hN hi ok hg ht he hs) (lc_ok hv)
theorem ds_setLc {o : Bool} {i : Nat} {y : Str} {py spos : Pos} (hc : X.calm = true) (hN : X.N.Nodup) (hy : X.N[i]? = some y) (hyl : X.env.scope.names.lookup y = some .local)
    (hsw : swapsWith (.ListComp elt [⟨tgE, iter, ifs, 0⟩] scope pos) (some (.Name y py)) spos.line X.env = pure true) (hi : PI X tgE iter (lI X.K B it)) (ok : BlkOk X.N X.env.scope scope own) (hv : ∀ i ∈ tg.on, i ∈ own.map (·.2))
    (hg : ∀ (s : Shared) (H : Hp) (C : Addr) (cl : List (Str × Addr)) (fp : List Addr), PG (X.blk s H scope (compEnvC scope cl C X.env) fp) tgE (gV X.K tg)) (ht : ∀ (s : Shared) (H : Hp) (C : Addr) (cl : List (Str × Addr)) (fp : List Addr), PTs (X.blk s H scope (compEnvC scope cl C X.env) fp) ifs (lT X.K Bs.any tt))
    (he : ∀ (s : Shared) (H : Hp) (C : Addr) (cl : List (Str × Addr)) (fp : List Addr), PE (X.blk s H scope (compEnvC scope cl C X.env) fp) elt (lE X.K Bs.any te)) (hs : ∀ x, foldedSetIterable iter X.env x = pure x := by intro _; rfl) :
    PS X (.Assign [.Name y py] (.ListComp elt [⟨tgE, iter, ifs, 0⟩] scope pos) spos) (lS X.K B (sAsg (eLc o it tg tt te (own.map (·.2))) i)) := PS.imp (ps_setLc hc hN hy hyl hsw hi ok hg ht he hs) fun E σ H h => by
  obtain ⟨W, e, P, bl, S, h, c⟩ := lS_un h
  exact lc_ok hv σ H _ ⟨W, e, _, bl, S, h, fun d e1 W1 H1 v p l S1 r => c.nx _ _ _ _ p l ⟨S1.ok, S1.sl.set r⟩⟩
end

/-! ### built-ins -/
def CallD (K : PySem.W.Frag) (r : List V → Hp → VK → Prop) (q : List D → DE) : Prop := ∀ (W : Wd) (H : Hp) (σ : L2.St) (e : En) (vs : List V) (ds : List D) (P : D → En → Prop) (Q : VK), Sd K W H σ e → RAll K W vs ds → q ds e P →
  (∀ d e' W' H' v, P d e' → W.le W' → Sd K W' H' σ e' → R K W' v d → Q v H') → r vs H Q
def eCB (q : List D → DE) (ta : DA) : DE := fun e P => ta e fun ds e1 => q ds e1 P
section
variable {K : PySem.W.Frag} {X : Cx} {B : Bs} {x : Str} {p pos : Pos} {ex : Expr} {es : List Expr} {ta : DA} {id T : String} {r : List V → Hp → VK → Prop} {q : List D → DE}
theorem cb_ok (hq : CallD K r q) : ∀ σ H Q, lE K B (eCB q ta) σ H Q → tCB r (lA K B ta) σ H Q := fun σ H Q ⟨W, e, P, bl, S, t, k⟩ =>
  ⟨W, e, _, bl, S, t, fun ds e1 W1 H1 vs t1 l1 S1 r1 => hq W1 H1 σ e1 vs ds P Q S1 r1 t1 fun d e2 W2 H2 v p l2 S2 r2 => k d e2 W2 H2 v p (l1.tr l2) S2 r2⟩
theorem de_callB (hc : CallR X (.builtin id) r) (hq : CallD X.K r q) (hg : Gl X x) (hm : X.mg x = none) (hv : bootBuiltins x = some (.builtin id)) (ha : PA X (ex :: es) (lA X.K B ta)) (hn : x ≠ "__name__" := by decide) (hdb : (x == ("__debug__" : Str)) = false := by decide)
    (he : starEach (ex :: es) X.env = (false, eval ex X.env) :: starEach es X.env := by rfl) (hpl : (backTo pos (starEach es X.env)).any (·.1) = false := by rfl) : PE X (.Call (.Name x p) (ex :: es) [] pos) (lE X.K B (eCB q ta)) := PE.imp (pe_callB hc hg hm hv ha hn hdb he hpl) (cb_ok hq)
theorem de_callTy (hc : CallR X (.type T) r) (hq : CallD X.K r q) (hg : Gl X x) (hm : X.mg x = none) (hv : bootBuiltins x = some (.type T)) (ha : PA X (ex :: es) (lA X.K B ta)) (hn : x ≠ "__name__" := by decide) (hdb : (x == ("__debug__" : Str)) = false := by decide)
    (he : starEach (ex :: es) X.env = (false, eval ex X.env) :: starEach es X.env := by rfl) (hpl : (backTo pos (starEach es X.env)).any (·.1) = false := by rfl) : PE X (.Call (.Name x p) (ex :: es) [] pos) (lE X.K B (eCB q ta)) := PE.imp (pe_callTy hc hg hm hv ha hn hdb he hpl) (cb_ok hq)
theorem RAll.one {W : Wd} {vs : List V} {d : D} (h : RAll K W vs [d]) : ∃ v, vs = [v] ∧ R K W v d := by
  cases h with
  | cons r t => cases t; exact ⟨_, rfl, r⟩
theorem RAll.two {W : Wd} {vs : List V} {d d2 : D} (h : RAll K W vs [d, d2]) : ∃ v v2, vs = [v, v2] ∧ R K W v d ∧ R K W v2 d2 := by
  cases h with
  | cons r t =>
    obtain ⟨v, rfl, r2⟩ := t.one
    exact ⟨_, v, rfl, r, r2⟩
/-- a list or a tuple -/
def seqD (cs : List Cel) : D → Option (List D)
  | .tup xs => some xs
  | d => lk cs d
theorem Ok.seq {W : Wd} {H : Hp} {cs : List Cel} (h : Ok K W H cs) {d : D} {v : V} {xs : List D} (r : R K W v d) (e : seqD cs d = some xs) : ∃ a vs, v = .ref a ∧ (SqL K H a vs ∨ SqT K H a vs) ∧ RAll K W vs xs := by
  unfold seqD at e
  split at e
  · cases e
    cases r with
    | tup h1 h2 => exact ⟨_, _, rfl, .inr (Evl.ex_t h.ex h1), h2⟩
  · obtain ⟨a, vs, rfl, h1, h2⟩ := h.lk r e
    exact ⟨a, vs, rfl, .inl h1, h2⟩
def qLen : List D → DE
  | [.str s] => fun e P => s.length ≤ sizeLine ∧ P (.int s.length) e
  | [d] => fun e P => ∃ xs, seqD e.cs d = some xs ∧ P (.int xs.length) e
  | _ => fun _ _ => False
def rLenA (K : PySem.W.Frag) : List V → Hp → VK → Prop := fun xs H Q => (∃ p ys, xs = [.ref p] ∧ (SqL K H p ys ∨ SqT K H p ys) ∧ Q (.int ys.length) H) ∨ ∃ z, xs = [.str z] ∧ z.length ≤ sizeLine ∧ Q (.int z.length) H
theorem call_lenA : CallR X (.builtin "len") (rLenA X.K) := call_len_seq.or call_len_str
theorem cd_len : CallD K (rLenA K) qLen := by
  intro W H σ e vs ds P Q S r t k
  unfold qLen at t
  split at t
  · obtain ⟨v, rfl, r1⟩ := r.one
    cases r1
    exact .inr ⟨_, rfl, t.1, k _ _ _ _ _ t.2 W.le_refl S (.int _)⟩
  · obtain ⟨v, rfl, r1⟩ := r.one
    obtain ⟨xs, e1, p⟩ := t
    obtain ⟨a, vs, rfl, h1, h2⟩ := S.ok.seq r1 e1
    exact .inl ⟨a, vs, rfl, h1, by rw [h2.length]; exact k _ _ _ _ _ p W.le_refl S (.int _)⟩
  · exact t.elim
def qList (o : Bool) : List D → DE
  | [d] => fun e P => ∃ xs, seqD e.cs d = some xs ∧ newL o xs e P
  | _ => fun _ _ => False
def rListA (K : PySem.W.Frag) : List V → Hp → VK → Prop := fun xs H Q => ∃ p ys, xs = [.ref p] ∧ (SqL K H p ys ∨ SqT K H p ys) ∧ ∀ l, H l = none → Q (.ref l) (upd H l (.lst ys))
theorem call_listA : CallR X (.type "list") (rListA X.K) := call_list_of
theorem cd_list {o : Bool} : CallD K (rListA K) (qList o) := by
  intro W H σ e vs ds P Q S r t k
  unfold qList at t
  split at t
  · obtain ⟨v, rfl, r1⟩ := r.one
    obtain ⟨xs, e1, p⟩ := t
    obtain ⟨a, vs, rfl, h1, h2⟩ := S.ok.seq r1 e1
    exact ⟨a, vs, rfl, h1, newL_ok S h2 p k⟩
  · exact t.elim
/-- either, as one likes -/
def qListE : List D → DE := fun ds e P => qList false ds e P ∨ qList true ds e P
theorem cd_listE : CallD K (rListA K) qListE := fun W H σ e vs ds P Q S r t k => t.elim (fun t => cd_list W H σ e vs ds P Q S r t k) fun t => cd_list W H σ e vs ds P Q S r t k
def qTuple : List D → DE
  | [.tup xs] => fun e P => P (.tup xs) e
  | [d] => fun e P => ∃ xs, lk e.cs d = some xs ∧ P (.tup xs) e
  | _ => fun _ _ => False
def rTupleA (K : PySem.W.Frag) : List V → Hp → VK → Prop := fun xs H Q => ∃ p ys, xs = [.ref p] ∧ ((SqL K H p ys ∧ ∀ l, H l = none → Q (.ref l) (upd H l (.tup ys))) ∨ (SqT K H p ys ∧ Q (.ref p) H))
theorem call_tupleA : CallR X (.type "tuple") (rTupleA X.K) := call_tuple_of
theorem cd_tuple : CallD K (rTupleA K) qTuple := by
  intro W H σ e vs ds P Q S r t k
  unfold qTuple at t
  split at t
  · obtain ⟨v, rfl, r1⟩ := r.one
    cases r1 with
    | tup h1 h2 => exact ⟨_, _, rfl, .inr ⟨Evl.ex_t S.ok.ex h1, k _ _ _ _ _ t W.le_refl S (.tup h1 h2)⟩⟩
  · obtain ⟨v, rfl, r1⟩ := r.one
    obtain ⟨xs, e1, p⟩ := t
    obtain ⟨a, vs, rfl, h1, h2⟩ := S.ok.lk r1 e1
    exact ⟨a, vs, rfl, .inl ⟨h1, newT_ok S h2 p k⟩⟩
  · exact t.elim
def qAll : List D → DE
  | [d] => fun e P => ∃ bs : List Bool, lk e.cs d = some (bs.map .bl) ∧ P (.bl (bs.all fun b => b)) e
  | _ => fun _ _ => False
theorem cd_all : CallD K (rAll K) qAll := by
  intro W H σ e vs ds P Q S r t k
  unfold qAll at t
  split at t
  · obtain ⟨v, rfl, r1⟩ := r.one
    obtain ⟨bs, e1, p⟩ := t
    obtain ⟨a, vs, rfl, h1, h2⟩ := S.ok.lk r1 e1
    rw [h2.bls_inv] at h1
    exact ⟨a, bs, rfl, h1, k _ _ _ _ _ p W.le_refl S (.bl _)⟩
  · exact t.elim
/-- sum of a list or a tuple of ints -/
def rSumA (K : PySem.W.Frag) : List V → Hp → VK → Prop := fun vs H Q => rSum K vs H Q ∨ ∃ (a : Addr) (ns : List Int), vs = [V.ref a] ∧ SqT K H a (ns.map V.int) ∧ Q (.int ns.sum) H
theorem call_sumT (hc : X.calm = true) : CallR X (.builtin "sum") (fun vs H Q => ∃ (a : Addr) (ns : List Int), vs = [V.ref a] ∧ SqT X.K H a (ns.map V.int) ∧ Q (.int ns.sum) H) := by
  intro pins s σ H xs us Q I r h
  obtain ⟨a, ns, rfl, hs, q⟩ := h
  obtain ⟨u, rfl, ru⟩ := vals1 r
  cases (show u = Value.ref a from ru)
  obtain ⟨its, rv, ht, hz⟩ := I.tuple hs
  have hi : IntsAre its ns := Vals.ints rv
  obtain ⟨xs, e⟩ := hi.allInts.items
  have hn : numsOf (intItems xs).toList = ns := by rw [← e]; exact hi.numsOf
  rw [nums_intItems] at hn
  rw [e] at ht
  refine PySem.W.ktm_sumG (I.ok.hd hc) ht fun h' tk t' hk => ?_
  have e2 : PySem.preSum (numAt xs) xs.size = ns.sum := by rw [preSum_eq, List.take_of_length_le (by simp), hn]
  rw [e2]
  exact ⟨.int ns.sum, H, I.kept (t' := tk) hk, ⟨_, rfl⟩, q⟩
theorem call_sumA (hc : X.calm = true) : CallR X (.builtin "sum") (rSumA X.K) := (cr_sum hc).or (call_sumT hc)
def qSum : List D → DE
  | [d] => fun e P => ∃ ns : List Int, seqD e.cs d = some (ns.map .int) ∧ P (.int ns.sum) e
  | _ => fun _ _ => False
theorem cd_sum : CallD K (rSumA K) qSum := by
  intro W H σ e vs ds P Q S r t k
  unfold qSum at t
  split at t
  · obtain ⟨v, rfl, r1⟩ := r.one
    obtain ⟨ns, e1, p⟩ := t
    obtain ⟨a, vs, rfl, h1, h2⟩ := S.ok.seq r1 e1
    rw [h2.ints_inv] at h1
    have q := k _ _ _ _ _ p W.le_refl S (.int _)
    rcases h1 with h1 | h1
    · exact .inl ⟨a, ns, rfl, h1, q⟩
    · exact .inr ⟨a, ns, rfl, h1, q⟩
  · exact t.elim
def qInt : List D → DE
  | [.int i] => fun e P => P (.int i) e
  | [.bl b] => fun e P => P (.int (if b then 1 else 0)) e
  | [.str s] => fun e P => s.length ≤ 640 ∧ ∃ n, PySem.intText? s = some n ∧ P (.int n) e
  | _ => fun _ _ => False
def rIntA : List V → Hp → VK → Prop := fun xs H Q => ((∃ i, xs = [.int i] ∧ Q (.int i) H) ∨ ∃ k, xs = [.bl k] ∧ Q (.int (if k then 1 else 0)) H) ∨ ∃ a n, xs = [.str a] ∧ PySem.intText? a = some n ∧ a.length ≤ 640 ∧ Q (.int n) H
theorem call_intA : CallR X (.type "int") rIntA := call_int1.or call_int_str
theorem cd_int : CallD K rIntA qInt := by
  intro W H σ e vs ds P Q S r t k
  unfold qInt at t
  split at t
  · obtain ⟨v, rfl, r1⟩ := r.one
    cases r1
    exact .inl (.inl ⟨_, rfl, k _ _ _ _ _ t W.le_refl S (.int _)⟩)
  · obtain ⟨v, rfl, r1⟩ := r.one
    cases r1
    exact .inl (.inr ⟨_, rfl, k _ _ _ _ _ t W.le_refl S (.int _)⟩)
  · obtain ⟨v, rfl, r1⟩ := r.one
    obtain ⟨hz, n, hn, t⟩ := t
    cases r1
    exact .inr ⟨_, n, rfl, hn, hz, k _ _ _ _ _ t W.le_refl S (.int _)⟩
  · exact t.elim
end
end DL
namespace DL
open PySem PySem.Spec PyProof.Rows L2
open Evl (Ex)

/-! ### isinstance with a built-in type -/
def tyN (cs : List Cel) : D → Option String
  | .non => some "NoneType"
  | .bl _ => some "bool"
  | .int _ => some "int"
  | .str _ => some "str"
  | .tup _ => some "tuple"
  | .lst _ => some "list"
  | .dct => some "dict"
  | .cell n => match cs[n]? with
    | some (.lst _) => some "list"
    | _ => none
  | _ => none
def isTy (a T : String) : Bool := a == T || (a == "bool" && T == "int")
def tyKnown (T : String) : Bool := ["int", "bool", "str", "tuple", "list"].contains T
theorem kit_all : (["NoneType", "bool", "int", "str", "tuple", "list", "dict"].all fun a => ["int", "bool", "str", "tuple", "list"].all fun T => decide (kitB a T = some (isTy a T))) = true := by decide +kernel
theorem kit_in {a T : String} (ha : a ∈ ["NoneType", "bool", "int", "str", "tuple", "list", "dict"]) (hT : tyKnown T = true) : kitB a T = some (isTy a T) :=
  of_decide_eq_true (List.all_eq_true.mp (List.all_eq_true.mp kit_all a ha) T (List.contains_iff_mem.mp hT))
section
variable {K : PySem.W.Frag} {W : Wd} {H : Hp} {cs : List Cel}
theorem SqT.ty {a : Addr} {vs : List V} (h : SqT K H a vs) : TyX K H (.ref a) (.type "tuple") := by
  rcases h with (h | ⟨o, h⟩) | ⟨o, its, n, h1, h2, _⟩
  · exact .base (.tup h)
  · exact .fTuple h
  · exact .kTuple h1 h2
theorem Ok.ty (h : Ok K W H cs) {d : D} {v : V} {a : String} (r : R K W v d) (e : tyN cs d = some a) : TyX K H v (.type a) ∧ a ∈ ["NoneType", "bool", "int", "str", "tuple", "list", "dict"] := by
  cases r <;> simp only [tyN] at e <;> try cases e
  · exact ⟨.base .non, by decide⟩
  · exact ⟨.base (.bl _), by decide⟩
  · exact ⟨.base (.int _), by decide⟩
  · exact ⟨.base (.str _), by decide⟩
  · rename_i a vs hs ha
    exact ⟨SqT.ty (Evl.ex_t h.ex hs), by decide⟩
  · rename_i a vs hs ha
    exact ⟨.base (.lst (h.ex _ _ hs)), by decide⟩
  · rename_i n a' hm
    split at e
    · rename_i xs hc
      cases e
      obtain ⟨vs, h1, h2⟩ := h.cellL hm hc
      exact ⟨.base (.lst h1), by decide⟩
    · cases e
  · exact ⟨.base (.dK (h.ex _ _ (by assumption))), by decide⟩
def qIsi : List D → DE
  | [d, .raw (.ty T)] => fun e P => tyKnown T = true ∧ ∃ a, tyN e.cs d = some a ∧ P (.bl (isTy a T)) e
  | _ => fun _ _ => False
theorem cd_isi : CallD K (rIsi K) qIsi := by
  intro W H σ e vs ds P Q S r t k
  unfold qIsi at t
  split at t
  · obtain ⟨v, v2, rfl, r1, r2⟩ := r.two
    obtain ⟨hT, a, ea, p⟩ := t
    obtain ⟨ty, mem⟩ := S.ok.ty r1 ea
    cases r2
    exact ⟨v, .ty _, _, _, _, rfl, .ty _, ty, kit_ty (kit_in mem hT), k _ _ _ _ _ p W.le_refl S (.bl _)⟩
  · exact t.elim
end

/-! ### instances -/
def insD (cs : List Cel) : D → Option (Addr × List Str × List D)
  | .ins C ns xs => some (C, ns, xs)
  | .cell n => match cs[n]? with
    | some (.ins C ns xs) => some (C, ns, xs)
    | _ => none
  | _ => none
def getF (f : Str) : List Str → List D → Option D
  | n :: ns, x :: xs => if f = n then some x else getF f ns xs
  | _, _ => none
section
variable {K : PySem.W.Frag} {W : Wd} {H : Hp} {cs : List Cel}
theorem RAll.fld {f : Str} : ∀ {gs : List (Str × V)} {ns : List Str} {xs : List D} {d : D}, gs.map (·.1) = ns → RAll K W (gs.map (·.2)) xs → getF f ns xs = some d → ∃ v, gs.lookup f = some v ∧ R K W v d
  | [], _, _, _, rfl, r, e => by cases r; cases e
  | (n, v) :: gs, _, _, d, rfl, r, e => by
    cases r with
    | cons r1 r2 =>
      have e : (if f = n then some _ else getF f (gs.map (·.1)) _) = some d := e
      by_cases h : f = n
      · rw [if_pos h] at e
        cases e
        exact ⟨v, by simp [List.lookup, h], r1⟩
      · rw [if_neg h] at e
        obtain ⟨w, h1, h2⟩ := RAll.fld rfl r2 e
        have hb : (f == n) = false := by simpa using h
        exact ⟨w, by simp only [List.lookup, hb]; exact h1, h2⟩
theorem lookup_none {f : Str} : ∀ {gs : List (Str × V)}, f ∉ gs.map (·.1) → gs.lookup f = none
  | [], _ => rfl
  | (n, v) :: gs, h => by
    have h1 : f ≠ n := fun e => h (by rw [e]; exact List.mem_cons_self)
    have hb : (f == n) = false := by simpa using h1
    simp only [List.lookup, hb]
    exact lookup_none fun m => h (List.mem_cons_of_mem _ m)
theorem Ok.ins (h : Ok K W H cs) {d : D} {v : V} {C : Addr} {ns : List Str} {xs : List D} (r : R K W v d) (e : insD cs d = some (C, ns, xs)) : ∃ a dx gs, v = .ref a ∧ H a = some (.ins C dx gs) ∧ gs.map (·.1) = ns ∧ RAll K W (gs.map (·.2)) xs := by
  cases r <;> simp only [insD] at e <;> try cases e
  · exact ⟨_, _, _, rfl, h.ex _ _ (by assumption), rfl, by assumption⟩
  · rename_i n a hm
    split at e
    · rename_i C' ns' xs' hc
      cases e
      obtain ⟨dx, gs, h1, h2, h3⟩ := h.cl n a _ hm hc
      exact ⟨a, dx, gs, rfl, h1, h2, h3⟩
    · cases e
end
def eFld (C : Addr) (f : Str) (t : DE) : DE := fun e P => t e fun d e1 => ∃ ns xs v, insD e1.cs d = some (C, ns, xs) ∧ getF f ns xs = some v ∧ P v e1
/-- self.f = v, self an instance that changes -/
def sFldD (C : Addr) (f : Str) (to tv : DE) : DS := fun P e => tv e fun v e1 => to e1 fun o e2 => ∃ n ns xs, o = .cell n ∧ e2.cs[n]? = some (.ins C ns xs) ∧ f ∉ ns ∧ ns.length < 900 ∧ P.nx { e2 with cs := e2.cs.set n (.ins C (ns ++ [f]) (xs ++ [v])) }
/-- a call's promise, by data -/
abbrev Spc := List D → List Cel → (D → List Cel → Prop) → Prop
def spD (K : PySem.W.Frag) (sp : Spc) : Sp := fun vs H Q _ => ∃ W cs ds P, Ok K W H cs ∧ RAll K W vs ds ∧ sp ds cs P ∧ ∀ d cs' W' H' v, P d cs' → W.le W' → Ok K W' H' cs' → R K W' v d → Q v H'
def eCall (sp : Spc) (ta : DA) : DE := fun e P => ta e fun ds e1 => sp ds e1.cs fun d cs' => P d { e1 with cs := cs' }
def eProp (C : Addr) (sp : Spc) (t : DE) : DE := fun e P => t e fun d e1 => (∃ ns xs, insD e1.cs d = some (C, ns, xs)) ∧ sp [d] e1.cs fun r cs' => P r { e1 with cs := cs' }
def eMeth (C : Addr) (m : Str) (sp : Spc) (t : DE) (ta : DA) : DE := fun e P => t e fun d e1 => (∃ ns xs, insD e1.cs d = some (C, ns, xs) ∧ m ∉ ns) ∧ ta e1 fun ds e2 => sp (d :: ds) e2.cs fun r cs' => P r { e2 with cs := cs' }
section
variable {X : Cx} {B : Bs} {ex o : Expr} {es : List Expr} {te tv : DE} {ta : DA} {C : Addr} {f m x : Str} {pos apos p : Pos} {CX : CXT} {k : Nat} {fn pp : Addr} {fd : FuncData} {ps : List Str} {sp : Spc} {dvs : List V} {ds : List Value}
theorem de_fld (c : Cls X.K C) (n : NoAttr X.K C f) (he : PE X ex (lE X.K B te)) (hb : attributeBase ex f X.env (eval ex X.env) = eval ex X.env := by rfl) : PE X (.Attribute ex f pos) (lE X.K B (eFld C f te)) :=
  PE.imp (pe_fld he hb) fun σ H Q ⟨W, e, P, bl, S, t, k⟩ => ⟨W, e, _, bl, S, t, fun d e1 W1 H1 v ⟨ns, xs, w, hi, hf, p⟩ l S1 r => by
    obtain ⟨a, dx, gs, rfl, h1, h2, h3⟩ := S1.ok.ins r hi
    obtain ⟨u, hu, ru⟩ := h3.fld h2 hf
    exact ⟨a, C, dx, gs, u, rfl, h1, c, n, hu, k _ _ _ _ _ p l S1 ru⟩⟩
theorem call_ok {E : XK} (hd : dvs = []) : ∀ σ H Q, lE X.K B (eCall sp ta) σ H Q → tCall (spD X.K sp) dvs E (lA X.K B ta) σ H Q := fun σ H Q ⟨W, e, P, bl, S, t, k⟩ =>
  ⟨W, e, _, bl, S, t, fun ds e1 W1 H1 vs h l S1 r => by
    subst hd
    rw [List.append_nil]
    exact ⟨W1, e1.cs, ds, _, S1.ok, r, h, fun d cs' W2 H2 v p l2 ok2 r2 => k _ _ _ _ _ p (l.tr l2) ⟨ok2, S1.sl.mono l2⟩ r2⟩⟩
theorem de_call (F : FnOk X.prog X.w X.K X.mg X.base CX0 k fn fd ps (spD X.K sp)) (hr : Room k X.A) (hg : Gl X x) (hm : X.mg x = some (.ref fn)) (hk : PySem.W.keepIn X.K (.ref fn) = true) (hb : Binds X.K fd ps [])
    (ha : PA X (ex :: es) (lA X.K B ta)) (hdb : (x == ("__debug__" : Str)) = false := by decide) (he : starEach (ex :: es) X.env = (false, eval ex X.env) :: starEach es X.env := by rfl) (hpl : (backTo pos (starEach es X.env)).any (·.1) = false := by rfl) :
    PE X (.Call (.Name x p) (ex :: es) [] pos) (lE X.K B (eCall sp ta)) := PE.imp (pe_call F hr hg hm hk hb .nil pass0 ha hdb he hpl) (call_ok rfl)
theorem de_prop (c : Cls X.K C) (hp : PropOf X.K C f pp fn) (F : FnOk X.prog X.w X.K X.mg X.base CX0 k fn fd ps (spD X.K sp)) (hr : Room (k + 1) X.A) (hb : Binds X.K fd ps []) (he : PE X ex (lE X.K B te))
    (hab : attributeBase ex f X.env (eval ex X.env) = eval ex X.env := by rfl) : PE X (.Attribute ex f pos) (lE X.K B (eProp C sp te)) :=
  PE.imp (pe_prop he c hp F hr hb .nil (E := E0) (fun _ _ _ _ _ _ _ h => h.elim) hab) fun σ H Q ⟨W, e, P, bl, S, t, k⟩ => ⟨W, e, _, bl, S, t, fun d e1 W1 H1 v ⟨⟨ns, xs, hi⟩, h⟩ l S1 r => by
    obtain ⟨a, dx, gs, rfl, h1, h2, h3⟩ := S1.ok.ins r hi
    exact ⟨a, dx, gs, rfl, h1, W1, e1.cs, [d], _, S1.ok, .cons r .nil, h, fun d cs' W2 H2 v p l2 ok2 r2 => k _ _ _ _ _ p (l.tr l2) ⟨ok2, S1.sl.mono l2⟩ r2⟩⟩
theorem de_meth {pl : Sem Bool} (c : Cls X.K C) (hm : Meth X.K C m fn) (F : FnOk X.prog X.w X.K X.mg X.base CX0 k fn fd ps (spD X.K sp)) (hr : Room k X.A) (hb : Binds X.K fd ps []) (ho : PE X o (lE X.K B te)) (ha : PA X (ex :: es) (lA X.K B ta))
    (hst : starEach (ex :: es) X.env = (false, eval ex X.env) :: starEach es X.env := by rfl) (hpl : (backTo pos (starEach es X.env)).any (·.1) = false := by rfl)
    (ht : eval (.Call (.Attribute o m apos) (ex :: es) [] pos) X.env = (do
      let ov ← eval o X.env
      standAt apos.atName
      let (f, first) ← holding [ov] (getMethod ov m pl)
      callWith pos f first (backTo pos (starEach (ex :: es) X.env)) (backToKw pos (keywordEach [] X.env))) := by rfl) :
    PE X (.Call (.Attribute o m apos) (ex :: es) [] pos) (lE X.K B (eMeth C m sp te ta)) :=
  PE.imp (pe_meth ho c hm F hr hb .nil pass0 ha hst hpl ht) fun σ H Q ⟨W, e, P, bl, S, t, k⟩ => ⟨W, e, _, bl, S, t, fun d e1 W1 H1 v ⟨⟨ns, xs, hi, hn⟩, h⟩ l S1 r => by
    obtain ⟨a, dx, gs, rfl, h1, h2, h3⟩ := S1.ok.ins r hi
    refine ⟨a, dx, gs, rfl, h1, lookup_none (by rw [h2]; exact hn), W1, e1, _, B.up bl l, S1, h, fun ds e2 W2 H2 vs h l2 S2 r2 => ?_⟩
    show spD X.K sp (V.ref a :: (vs ++ [])) H2 Q E0
    rw [List.append_nil]
    exact ⟨W2, e2.cs, d :: ds, _, S2.ok, .cons (R.mono l2 _ _ r) r2, h, fun d cs' W3 H3 v p l3 ok3 r3 => k _ _ _ _ _ p ((l.tr l2).tr l3) ⟨ok3, S2.sl.mono l3⟩ r3⟩⟩
theorem de_meth0 {pl : Sem Bool} (c : Cls X.K C) (hm : Meth X.K C m fn) (F : FnOk X.prog X.w X.K X.mg X.base CX0 k fn fd ps (spD X.K sp)) (hr : Room k X.A) (hb : Binds X.K fd ps []) (ho : PE X o (lE X.K B te))
    (ht : eval (.Call (.Attribute o m apos) [] [] pos) X.env = (do
      let ov ← eval o X.env
      standAt apos.atName
      let (f, first) ← holding [ov] (getMethod ov m pl)
      callWith pos f first (backTo pos (starEach [] X.env)) (backToKw pos (keywordEach [] X.env))) := by rfl) :
    PE X (.Call (.Attribute o m apos) [] [] pos) (lE X.K B (eMeth C m sp te aNil)) :=
  PE.imp (pe_meth0 ho c hm F hr hb .nil pass0 ht) fun σ H Q ⟨W, e, P, bl, S, t, k⟩ => ⟨W, e, _, bl, S, t, fun d e1 W1 H1 v ⟨⟨ns, xs, hi, hn⟩, h⟩ l S1 r => by
    obtain ⟨a, dx, gs, rfl, h1, h2, h3⟩ := S1.ok.ins r hi
    refine ⟨a, dx, gs, rfl, h1, lookup_none (by rw [h2]; exact hn), ?_⟩
    exact ⟨W1, e1.cs, [d], _, S1.ok, .cons r .nil, h, fun d cs' W3 H3 v p l3 ok3 r3 => k _ _ _ _ _ p (l.tr l3) ⟨ok3, S1.sl.mono l3⟩ r3⟩⟩
end
/-! ### a store to a field -/
section
variable {X : Cx} {B : Bs} {o ex : Expr} {te tv : DE} {C : Addr} {f : Str} {pos pos' : Pos} {K : PySem.W.Frag} {W : Wd}
theorem putF_new {f : Str} {v : V} : ∀ {gs : List (Str × V)}, f ∉ gs.map (·.1) → putF f v gs = gs ++ [(f, v)]
  | [], _ => rfl
  | (g, w) :: gs, h => by
    have h1 : f ≠ g := fun e => h (by rw [e]; exact List.mem_cons_self)
    have h2 : f ∉ gs.map (·.1) := fun m => h (List.mem_cons_of_mem _ m)
    have ih := putF_new (v := v) h2
    unfold putF
    first
      | (rw [if_neg h1, ih]; rfl)
      | (rw [if_neg (Ne.symm h1), ih]; rfl)
      | simp [h1, Ne.symm h1, ih]
theorem ds_fld (c : Cls X.K C) (n : NoAttr X.K C f) (ho : PE X o (lE X.K B te)) (hv : PE X ex (lE X.K B tv)) (hs : swapsWith ex (some (.Attribute o f pos')) pos.line X.env = pure false := by rfl) :
    PS X (.Assign [.Attribute o f pos'] ex pos) (lS X.K B (sFldD C f te tv)) := PS.imp (ps_fld ho hv hs) fun E σ H h => by
  obtain ⟨W, e, P, bl, S, h, cv⟩ := lS_un h
  refine ⟨W, e, _, bl, S, h, fun d e1 W1 H1 v t1 l1 S1 r1 => ⟨W1, e1, _, B.up bl l1, S1, t1, fun ob e2 W2 H2 w t2 l2 S2 r2 => ?_⟩⟩
  obtain ⟨n', ns, xs, rfl, hc, hf, hl, p⟩ := t2
  cases r2 with
  | cell hm =>
    obtain ⟨dx, gs, h1, h2, h3⟩ := S2.ok.cl _ _ _ hm hc
    have hgl : gs.length = ns.length := by rw [← h2, List.length_map]
    have hf' : f ∉ gs.map (·.1) := by rw [h2]; exact hf
    refine ⟨_, C, dx, gs, rfl, h1, c, n, by rw [hgl]; omega, ?_⟩
    have r1' := R.mono l2 _ _ r1
    have fin : ∀ gs', gs' = gs ++ [(f, v)] → E.nx σ (upd H2 _ (.ins C dx gs')) := fun gs' e => by
      subst e
      refine cv.nx _ _ _ _ p (l1.tr l2) ⟨S2.ok.setC hm hc (fun z => nomatch z) ⟨dx, _, upd_same, by rw [List.map_append, h2]; rfl, ?_⟩, S2.sl⟩
      rw [List.map_append]
      exact h3.append (.cons r1' .nil)
    exact fin _ (putF_new hf')
end

/-! ### a def keeps its promise -/
mutual
theorem R.lo_of {K : PySem.W.Frag} {W : Wd} : ∀ (d : D) (v : V), R K W v d → loD W.m.length d = true
  | .non, _, _ => rfl
  | .bl _, _, _ => rfl
  | .int _, _, _ => rfl
  | .str _, _, _ => rfl
  | .tup xs, _, h => by
    cases h with
    | tup hs ha => exact RAll.lo_of xs _ ha
  | .lst xs, _, h => by
    cases h with
    | lst hs ha => exact RAll.lo_of xs _ ha
  | .fro xs, _, h => by
    cases h with
    | fro hs ha => exact RAll.lo_of xs _ ha
  | .ins _ _ xs, _, h => by
    cases h with
    | ins hs ha => exact RAll.lo_of xs _ ha
  | .cell n, _, h => by
    cases h with
    | cell hs => exact decide_eq_true (List.getElem?_eq_some_iff.mp hs).1
  | .dct, _, _ => rfl
  | .raw _, _, _ => rfl
  | .exc _ _, _, _ => rfl
theorem RAll.lo_of {K : PySem.W.Frag} {W : Wd} : ∀ (ds : List D) (vs : List V), RAll K W vs ds → los W.m.length ds = true
  | [], _, _ => rfl
  | d :: ds, _, h => by
    cases h with
    | cons h1 h2 =>
      show (loD _ d && los _ ds) = true
      rw [R.lo_of d _ h1, RAll.lo_of ds _ h2] <;> rfl
end
theorem RKs.lo_of {K : PySem.W.Frag} {W : Wd} : ∀ {ps : List (Key × V)} {kxs : List (Int × D)}, RKs K W ps kxs → los W.m.length (kxs.map (·.2)) = true
  | _, _, .nil => rfl
  | _, _, @RKs.cons _ _ _ _ d _ kxs r t => by
    show (loD _ d && los _ (kxs.map (·.2))) = true
    rw [R.lo_of d _ r, RKs.lo_of t] <;> rfl
theorem Ok.cl_lo {K : PySem.W.Frag} {W : Wd} {H : Hp} {cs : List Cel} (h : Ok K W H cs) : ∀ c ∈ cs, c.loD cs.length = true := fun c hc => by
  obtain ⟨n, hn, e⟩ := List.mem_iff_getElem.mp hc
  have hm : n < W.m.length := by rw [h.len]; exact hn
  have x := h.cl n W.m[n] c (by simp [hm]) (by simp [hn, e])
  rw [← h.len]
  cases c with
  | dead => rfl
  | lst xs => obtain ⟨vs, _, r⟩ := x; exact RAll.lo_of _ _ r
  | ins C ns xs => obtain ⟨dx, gs, _, _, r⟩ := x; exact RAll.lo_of _ _ r
  | dic kxs => obtain ⟨ps, _, r⟩ := x; exact r.lo_of
/-- what the caller sees of a def's end: its own cells (from k on) are forgotten, a new list of its own is handed on -/
def FinD (cs0 : List Cel) (P : D → List Cel → Prop) (d : D) (cs : List Cel) : Prop :=
  P d cs ∨ (loD cs0.length d = true ∧ (∀ c ∈ cs.take cs0.length, c ∈ cs0 ∨ c.loD cs0.length = true) ∧ P d (cs.take cs0.length)) ∨
  ∃ n xs, d = .cell n ∧ cs0.length ≤ n ∧ cs[n]? = some (.lst xs) ∧ los cs0.length xs = true ∧ (∀ c ∈ cs.take cs0.length, c ∈ cs0 ∨ c.loD cs0.length = true) ∧
    (P (.lst xs) (cs.take cs0.length) ∨ P (.cell cs0.length) (cs.take cs0.length ++ [.lst xs]))
/-- a list that was just made: the caller takes it as one that changes no more, or as a cell -/
def fresh (xs : List D) (cs : List Cel) (P : D → List Cel → Prop) : Prop := P (.lst xs) cs ∨ P (.cell cs.length) (cs ++ [.lst xs])
section
variable {K : PySem.W.Frag} {W0 W : Wd} {H0 H : Hp} {cs0 cs : List Cel}
theorem Ok.trim (h0 : Ok K W0 H0 cs0) (h : Ok K W H cs) (l : W0.le W) (hc : ∀ c ∈ cs.take cs0.length, c ∈ cs0 ∨ c.loD cs0.length = true) :
    Ok K ⟨W.F, W.m.take cs0.length, W.h⟩ H (cs.take cs0.length) ∧ W0.le ⟨W.F, W.m.take cs0.length, W.h⟩ := by
  refine ⟨h.low (List.all_eq_true.mpr fun c hm => (hc c hm).elim (h0.cl_lo c) fun z => z), l.1, ⟨[], ?_⟩, l.2.2⟩
  obtain ⟨more, e⟩ := l.2.1
  show W.m.take cs0.length = W0.m ++ []
  rw [e, ← h0.len, List.take_left, List.append_nil]
theorem fin_ok {P : D → List Cel → Prop} {Q : VK} (h0 : Ok K W0 H0 cs0) (k : ∀ d cs' W' H' v, P d cs' → W0.le W' → Ok K W' H' cs' → R K W' v d → Q v H') :
    ∀ d cs' W' H' v, FinD cs0 P d cs' → W0.le W' → Ok K W' H' cs' → R K W' v d → Q v H' := by
  intro d cs' W' H' v f l ok r
  rcases f with p | ⟨hd, hc, p⟩ | ⟨n, xs, rfl, hn, hx, hl, hc, p⟩
  · exact k _ _ _ _ _ p l ok r
  · obtain ⟨ok2, l2⟩ := h0.trim ok l hc
    exact k _ _ _ _ _ p l2 ok2 (R.low _ _ r hd)
  · cases r with
    | @cell _ a hm =>
      obtain ⟨vs, h1, h2⟩ := ok.cellL hm hx
      obtain ⟨ok2, l2⟩ := h0.trim ok l hc
      have r2 : RAll K ⟨W'.F, W'.m.take cs0.length, W'.h⟩ vs xs := RAll.low _ _ h2 hl
      have na : a ∉ W'.m.take cs0.length := fun hm2 => by
        obtain ⟨j, hj, e⟩ := List.mem_iff_getElem.mp hm2
        have hj' : j < cs0.length := by rw [List.length_take] at hj; omega
        have e2 : W'.m[j]? = some a := by
          rw [← e]
          have : (W'.m.take cs0.length)[j]? = W'.m[j]? := List.getElem?_take_of_lt hj'
          rw [← this]; exact List.getElem?_eq_getElem hj
        obtain ⟨g1, e1⟩ := List.getElem?_eq_some_iff.mp e2
        obtain ⟨g2, e3⟩ := List.getElem?_eq_some_iff.mp hm
        have := (List.getElem_inj ok.nd).mp (e1.trans e3.symm)
        omega
      have hF : W'.F a = none := (ok.fr n a _ hm hx).resolve_left fun z => nomatch z
      have nh : ∀ q ∈ W'.h, q.1 ≠ a := fun q hq e => (ok.hd q hq).2.2 (e ▸ List.mem_of_getElem? hm)
      -- as a hidden list, then shown
      have okh : Ok K ⟨W'.F, W'.m.take cs0.length, (a, vs) :: W'.h⟩ H' (cs'.take cs0.length) := by
        refine ⟨ok2.ex, ok2.len, ok2.nd, ok2.here, ok2.fr, fun n a c e1 e2 => ClOk.to (ok2.cl n a c e1 e2) rfl rfl, fun q hq => ?_, ?_⟩
        · rcases List.mem_cons.mp hq with rfl | hq
          · exact ⟨h1, hF, na⟩
          · exact ok2.hd q hq
        · show (a :: W'.h.map (·.1)).Nodup
          refine List.nodup_cons.mpr ⟨fun hm => ?_, ok.hn⟩
          obtain ⟨q, hq, e⟩ := List.mem_map.mp hm
          exact nh q hq e
      rcases p with p | p
      · obtain ⟨ok3, l3⟩ := okh.showF
        exact k _ _ _ _ _ p (l2.tr l3) ok3 (.lst upd_same (RAll.mono l3 _ _ r2))
      · obtain ⟨ok3, l3⟩ := okh.showC r2
        refine k _ _ _ _ _ p (l2.tr l3) ok3 (.cell ?_)
        show (W'.m.take cs0.length ++ [a])[cs0.length]? = some a
        have hl : (W'.m.take cs0.length).length = cs0.length := by
          obtain ⟨more, e⟩ := l.2.1
          rw [List.length_take, e, List.length_append, h0.len]; omega
        rw [List.getElem?_append_right (by omega), hl]
        simp
end
/-- a new instance: a cell, or one that changes no more -/
def eMake (C : Addr) (sp : Spc) (ta : DA) : DE := fun e P => ta e fun ds e1 => sp (.cell e1.cs.length :: ds) (e1.cs ++ [.ins C [] []]) fun r cs' => r = .non ∧
  (P (.cell e1.cs.length) { e1 with cs := cs' } ∨ ∃ cs1 C' ns xs, cs' = cs1 ++ [.ins C' ns xs] ∧ cs1.length = e1.cs.length ∧ los e1.cs.length xs = true ∧ (∀ c ∈ cs1, c ∈ e1.cs ∨ c.loD e1.cs.length = true) ∧ P (.ins C' ns xs) { e1 with cs := cs1 })
section
variable {K : PySem.W.Frag} {W : Wd} {H : Hp} {cs : List Cel}
theorem Ok.addF (h : Ok K W H cs) {a : Addr} {o : HO} (ha : H a = some o) (hF : W.F a = none) (hm : a ∉ W.m) (hh : ∀ q ∈ W.h, q.1 ≠ a) : Ok K ⟨upd W.F a o, W.m, W.h⟩ H cs ∧ W.le ⟨upd W.F a o, W.m, W.h⟩ := by
  have l : W.le ⟨upd W.F a o, W.m, W.h⟩ := ⟨Ex.new hF, ⟨[], (List.append_nil _).symm⟩, rfl⟩
  have ne : ∀ b ∈ W.m, b ≠ a := fun b hb e => hm (e ▸ hb)
  refine ⟨⟨fun b u e => ?_, h.len, h.nd, h.here, fun n b c e1 e2 => ?_, fun n b c e1 e2 => (h.cl n b c e1 e2).mono l, fun q hq => ?_, h.hn⟩, l⟩
  · have e : upd W.F a o b = some u := e
    by_cases q : b = a
    · subst q; rw [upd_same] at e; rw [ha]; exact e
    · rw [upd_ne q] at e; exact h.ex b u e
  · rcases h.fr n b c e1 e2 with q | q
    · exact .inl q
    · exact .inr (by show upd W.F a o b = none; rw [upd_ne (ne b (List.mem_of_getElem? e1))]; exact q)
  · obtain ⟨g1, g2, g3⟩ := h.hd q hq
    exact ⟨g1, by show upd W.F a o q.1 = none; rw [upd_ne (hh q hq)]; exact g2, g3⟩
theorem Ok.old_out (h : Ok K W H cs) {n k : Nat} {a : Addr} (hm : W.m[n]? = some a) (hk : k ≤ n := by exact Nat.le_refl _) : a ∉ W.m.take k := fun hm2 => by
  obtain ⟨j, hj, e⟩ := List.mem_iff_getElem.mp hm2
  have hj' : j < k := by rw [List.length_take] at hj; omega
  have e2 : W.m[j]? = some a := by
    rw [← e]
    have : (W.m.take k)[j]? = W.m[j]? := List.getElem?_take_of_lt hj'
    rw [← this]; exact List.getElem?_eq_getElem hj
  obtain ⟨g1, e1⟩ := List.getElem?_eq_some_iff.mp e2
  obtain ⟨g2, e3⟩ := List.getElem?_eq_some_iff.mp hm
  have := (List.getElem_inj h.nd).mp (e1.trans e3.symm)
  omega
end
section
variable {X : Cx} {B : Bs} {ex o : Expr} {es : List Expr} {te tv : DE} {ta : DA} {C : Addr} {f m x : Str} {pos apos p : Pos} {CX : CXT} {k : Nat} {fn pp : Addr} {fd : FuncData} {ps : List Str} {sp : Spc} {dvs : List V} {ds : List Value}
theorem de_make (M : Mk X.K C fn) (F : FnOk X.prog X.w X.K X.mg X.base CX0 k fn fd ps (spD X.K sp)) (hr : Room (k + 1) X.A) (hg : Gl X x) (hm : X.mg x = some (.ref C)) (hb : Binds X.K fd ps [])
    (ha : PA X (ex :: es) (lA X.K B ta)) (hdb : (x == ("__debug__" : Str)) = false := by decide) (he : starEach (ex :: es) X.env = (false, eval ex X.env) :: starEach es X.env := by rfl) (hpl : (backTo pos (starEach es X.env)).any (·.1) = false := by rfl) :
    PE X (.Call (.Name x p) (ex :: es) [] pos) (lE X.K B (eMake C sp ta)) :=
  PE.imp (pe_make M F hr hg hm hb .nil pass0 ha hdb he hpl) fun σ H Q ⟨W, e, P, bl, S, t, k⟩ => ⟨W, e, _, bl, S, t, fun ds e1 W1 H1 vs h l S1 r => fun x dx hx hdx hne => by
    have hx2 : upd H1 dx (.own x) x = none := by rw [upd_ne (Ne.symm hne)]; exact hx
    have okd : Ok X.K W1 (upd H1 dx (.own x)) e1.cs := by
      have ne : ∀ a ∈ W1.m, a ≠ dx := fun a ha e => S1.ok.fresh hdx (e ▸ ha)
      have neh : ∀ q ∈ W1.h, q.1 ≠ dx := fun q hq e => by
        have := (S1.ok.hd q hq).1
        rw [e, hdx] at this; cases this
      refine ⟨S1.ok.ex.trans (Ex.new hdx), S1.ok.len, S1.ok.nd, fun a ha => by rw [upd_ne (ne a ha)]; exact S1.ok.here a ha, S1.ok.fr, fun n a c e1 e2 => (S1.ok.cl n a c e1 e2).heap (upd_ne (ne a (List.mem_of_getElem? e1))), fun q hq => ?_, S1.ok.hn⟩
      obtain ⟨g1, g2, g3⟩ := S1.ok.hd q hq
      exact ⟨by rw [upd_ne (neh q hq)]; exact g1, g2, g3⟩
    obtain ⟨ok, l2⟩ := okd.newC (o := .ins C dx []) (c := .ins C [] []) hx2 fun W' l => ⟨dx, [], upd_same, rfl, .nil⟩
    have rc : R X.K ⟨W1.F, W1.m ++ [x], W1.h⟩ (.ref x) (.cell e1.cs.length) := .cell (by
      show (W1.m ++ [x])[e1.cs.length]? = some x
      rw [← S1.ok.len, List.getElem?_append_right (Nat.le_refl _)]
      simp)
    rw [List.append_nil]
    refine ⟨_, _, _, _, ok, .cons rc (RAll.mono l2 _ _ r), h, fun d cs' W3 H3 v ⟨hd, p⟩ l3 ok3 r3 => ⟨by subst hd; exact r3.non_inv, ?_⟩⟩
    rcases p with p | ⟨cs1, C', ns, xs, rfl, hl, hx, hc, p⟩
    · exact k _ _ _ _ _ p ((l.tr l2).tr l3) ⟨ok3, S1.sl.mono (l2.tr l3)⟩ (R.mono l3 _ _ rc)
    · have l13 := l2.tr l3
      have tk : (cs1 ++ [Cel.ins C' ns xs]).take e1.cs.length = cs1 := by rw [← hl]; exact List.take_left
      obtain ⟨ok4, l4⟩ := S1.ok.trim ok3 l13 (by rw [tk]; exact hc)
      rw [tk] at ok4
      have rc3 := R.mono l3 _ _ rc
      cases rc3 with
      | cell hm =>
        have hcl : (cs1 ++ [Cel.ins C' ns xs])[e1.cs.length]? = some (Cel.ins C' ns xs) := by
          rw [← hl, List.getElem?_append_right (Nat.le_refl _)]; simp
        obtain ⟨dx', gs, g1, g2, g3⟩ := ok3.cl _ _ _ hm hcl
        have g4 : RAll X.K ⟨W3.F, W3.m.take e1.cs.length, W3.h⟩ (gs.map (·.2)) xs := RAll.low _ _ g3 hx
        have hF : W3.F x = none := (ok3.fr _ _ _ hm hcl).resolve_left fun z => nomatch z
        obtain ⟨ok5, l5⟩ := ok4.addF g1 hF (ok3.old_out hm) (fun q hq e => (ok3.hd q hq).2.2 (e ▸ List.mem_of_getElem? hm))
        subst g2
        exact k _ _ _ _ _ p (l.tr (l4.tr l5)) ⟨ok5, S1.sl.mono (l4.tr l5)⟩ (.ins upd_same (RAll.mono l5 _ _ g4))⟩
end
def startD (N : List Str) (ds : List D) : List (Option D) := ds.map some ++ List.replicate (N.length - ds.length) none
theorem start_ok {K : PySem.W.Frag} {W : Wd} {N : List Str} {vs : List V} {ds : List D} (r : RAll K W vs ds) : SlO K W (L2.start N vs) (startD N ds) := by
  refine ⟨by simp [L2.start, startD, r.length], fun i d e => ?_⟩
  unfold startD at e
  unfold L2.start
  by_cases hi : i < ds.length
  · rw [List.getElem?_append_left (by simpa using hi), List.getElem?_map] at e
    cases h : ds[i]? with
    | none => rw [h] at e; cases e
    | some d' =>
      rw [h] at e
      cases e
      obtain ⟨v, hv, rv⟩ := r.get h
      exact ⟨v, by rw [List.getElem?_append_left (by rw [List.length_map, r.length]; exact hi), List.getElem?_map, hv] <;> rfl, rv⟩
  · rw [List.getElem?_append_right (by simpa using hi), List.getElem?_replicate] at e
    split at e <;> cases e
abbrev cx0 (P : Program) (w : World) (K : PySem.W.Frag) (mg : Str → Option Value) (base : Heap) (N : List Str) (qual : Str) (scope : Scope) (f : Addr) (cd : Value) (A : Around) (outer : List Env) (s : Shared) (H : Hp) (E : XK) : Cx := (cxOf CX0 P w K mg base N qual scope f cd A outer s H E).nox
/-- a def's end -/
def Po.fn (cs : List Cel) (Q : D → List Cel → Prop) : Po := { nx := fun e => FinD cs Q .non e.cs, rt := FinD cs Q }
/-- THE RULE for a def that raises nothing -/
theorem fn_d {P : Program} {w : World} {K : PySem.W.Frag} {mg : Str → Option Value} {base : Heap} {x qual : Str} {params : Arguments} {body : List Stmt} {scope : Scope} {dvs : List V} {kws : List (Str × V)} {f : Addr} {fd : FuncData} {N ps : List Str} {k : Nat} {sp : Spc} {t : DS}
    (F : FunD K x qual params body scope dvs kws f fd) (S : FnScope N ps scope) (len : ∀ ds cs Q, sp ds cs Q → ds.length = ps.length)
    (der : ∀ (cdv : Value) (A : Around) (outer : List Env) (s : Shared) (H : Hp) (E : XK) (B : Bs), Room k (A.deeper (envOfC qual scope s.heap.objs.size f cdv)) → PSs (cx0 P w K mg base N qual scope f cdv A outer s H E) body (lS K B t))
    (vc : ∀ ds cs Q, (∀ d ∈ ds, loD cs.length d = true) → (∀ c ∈ cs, c.loD cs.length = true) → sp ds cs Q → t (Po.fn cs Q) ⟨startD N ds, cs⟩) : FnOk P w K mg base CX0 (k + 1) f fd ps (spD K sp) := by
  refine F.ok S (fun vs H Q E ⟨W, cs, ds, P', ok, r, h, _⟩ => by rw [r.length]; exact len _ _ _ h) fun cdv A outer s H vs Q E hr ⟨W, cs, ds, P', ok, r, h, kk⟩ => ?_
  refine ⟨_, PSs.nox (der cdv A outer s H E (Bs.of W) hr), W, ⟨startD N ds, cs⟩, _, W.le_refl, ⟨ok, start_ok r⟩, vc ds cs P' (fun d hd => ?_) ok.cl_lo h, ?_, fin_ok ok kk, fun _ _ _ _ z => z.elim, fun _ _ _ _ z => z.elim⟩
  · obtain ⟨i, hi, e⟩ := List.mem_iff_getElem.mp hd
    obtain ⟨v, hv, rv⟩ := r.get (i := i) (d := d) (by simp [hi, e])
    rw [← ok.len]
    exact R.lo_of _ _ rv
  · exact fun e' W' H' σ' p l S' => fin_ok ok kk .non e'.cs W' H' .non p l S'.ok .non
end DL
namespace DL
open PySem PySem.Spec PyProof.Rows L2
open Evl (Ex)

/-! ### a list's methods -/
def MtD (K : PySem.W.Frag) (r : V → List V → Hp → VK → Prop) (q : D → List D → DE) : Prop := ∀ (W : Wd) (H : Hp) (σ : L2.St) (e : En) (x : V) (vs : List V) (d : D) (ds : List D) (P : D → En → Prop) (Q : VK), Sd K W H σ e → R K W x d → RAll K W vs ds → q d ds e P →
  (∀ d e' W' H' v, P d e' → W.le W' → Sd K W' H' σ e' → R K W' v d → Q v H') → r x vs H Q
def eBM (q : D → List D → DE) (te : DE) (ta : DA) : DE := fun e P => te e fun d e1 => (∃ xs, lk e1.cs d = some xs) ∧ ta e1 fun ds e2 => q d ds e2 P
def eBM0 (q : D → List D → DE) (te : DE) : DE := fun e P => te e fun d e1 => (∃ xs, lk e1.cs d = some xs) ∧ q d [] e1 P
section
variable {K : PySem.W.Frag} {X : Cx} {B : Bs} {o ex : Expr} {es : List Expr} {te : DE} {ta : DA} {name : Str} {apos cpos : Pos} {id : String} {r : V → List V → Hp → VK → Prop} {q : D → List D → DE}
theorem Ok.tyL {W : Wd} {H : Hp} {cs : List Cel} (h : Ok K W H cs) {d : D} {v : V} {xs : List D} (r : R K W v d) (e : DL.lk cs d = some xs) : tyV K "list" v H := by
  obtain ⟨a, vs, rfl, h1, _⟩ := h.lk r e
  exact .inl ⟨rfl, vs, h1⟩
theorem de_bm (pa : PlainAttrs "list") (slot : Slot "list" name id) (hty : typeOf (.builtin id) = pure (.type "method_descriptor")) (hm : MtR X id r) (hq : MtD X.K r q) (ho : PE X o (lE X.K B te)) (ha : PA X (ex :: es) (lA X.K B ta))
    (hbase : attributeBase o name X.env (eval o X.env) = eval o X.env := by rfl)
    (hfew : ((backTo cpos (starEach (ex :: es) X.env)).all (fun x => !x.1) && (backToKw cpos (keywordEach [] X.env)).all (fun x => x.1.isSome)
      && decide ((ex :: es).length + ([] : List Keyword).length + (if ([] : List Keyword).isEmpty then 0 else 1) < 30)) = true := by rfl)
    (hline : (apos.endLine == cpos.line) = true := by rfl) (hs : starEach (ex :: es) X.env = (false, eval ex X.env) :: starEach es X.env := by rfl) (hplain : (backTo cpos (starEach es X.env)).any (·.1) = false := by rfl) :
    PE X (.Call (.Attribute o name apos) (ex :: es) [] cpos) (lE X.K B (eBM q te ta)) :=
  PE.imp (pe_bm pa slot hty hm ho ha hbase hfew hline hs hplain) fun σ H Q ⟨W, e, P, bl, S, t, k⟩ => ⟨W, e, _, bl, S, t, fun d e1 W1 H1 v ⟨⟨xs, hx⟩, t1⟩ l1 S1 r1 =>
    ⟨S1.ok.tyL r1 hx, W1, e1, _, B.up bl l1, S1, t1, fun ds e2 W2 H2 vs t2 l2 S2 r2 => hq W2 H2 σ e2 v vs d ds P Q S2 (R.mono l2 _ _ r1) r2 t2 fun d e3 W3 H3 v3 p l3 S3 r3 => k d e3 W3 H3 v3 p ((l1.tr l2).tr l3) S3 r3⟩⟩
theorem de_bm0 (pa : PlainAttrs "list") (slot : Slot "list" name id) (hty : typeOf (.builtin id) = pure (.type "method_descriptor")) (hm : MtR X id r) (hq : MtD X.K r q) (ho : PE X o (lE X.K B te))
    (hbase : attributeBase o name X.env (eval o X.env) = eval o X.env := by rfl) (hline : (apos.endLine == cpos.line) = true := by rfl) : PE X (.Call (.Attribute o name apos) [] [] cpos) (lE X.K B (eBM0 q te)) :=
  PE.imp (pe_bm0 pa slot hty hm ho hbase hline) fun σ H Q ⟨W, e, P, bl, S, t, k⟩ => ⟨W, e, _, bl, S, t, fun d e1 W1 H1 v ⟨⟨xs, hx⟩, t1⟩ l1 S1 r1 =>
    ⟨S1.ok.tyL r1 hx, hq W1 H1 σ e1 v [] d [] P Q S1 r1 .nil t1 fun d e3 W3 H3 v3 p l3 S3 r3 => k d e3 W3 H3 v3 p (l1.tr l3) S3 r3⟩⟩
def qApp : D → List D → DE := fun d ds e P => ∃ n xs y, d = .cell n ∧ ds = [y] ∧ e.cs[n]? = some (.lst xs) ∧ xs.length < sizeLine ∧ P .non { e with cs := e.cs.set n (.lst (xs ++ [y])) }
theorem md_app : MtD K rAppend qApp := by
  rintro W H σ e x vs d ds P Q S r rs ⟨n, xs, y, rfl, rfl, hc, hz, p⟩ k
  obtain ⟨v, rfl, rv⟩ := rs.one
  cases r with
  | @cell _ a hm =>
    obtain ⟨vs, h1, h2⟩ := S.ok.cellL hm hc
    refine ⟨a, vs, v, rfl, rfl, h1, by rw [h2.length]; exact hz, ?_⟩
    exact k _ _ _ _ _ p W.le_refl ⟨S.ok.setC hm hc (fun z => nomatch z) ⟨_, upd_same, h2.app1 rv⟩, S.sl⟩ .non
def qRevM : D → List D → DE := fun d ds e P => ∃ n xs, d = .cell n ∧ e.cs[n]? = some (.lst xs) ∧ P .non { e with cs := e.cs.set n (.lst xs.reverse) }
theorem md_rev : MtD K rReverse (fun d ds e P => ds = [] ∧ qRevM d ds e P) := by
  rintro W H σ e x vs d ds P Q S r rs ⟨rfl, n, xs, rfl, hc, p⟩ k
  cases rs
  cases r with
  | @cell _ a hm =>
    obtain ⟨vs, h1, h2⟩ := S.ok.cellL hm hc
    refine ⟨a, vs, rfl, rfl, h1, ?_⟩
    exact k _ _ _ _ _ p W.le_refl ⟨S.ok.setC hm hc (fun z => nomatch z) ⟨_, upd_same, h2.reverse⟩, S.sl⟩ .non
end

/-! ### what is left to show, step by step -/
section
variable {e : En} {P : D → En → Prop} {PB : Bool → En → Prop} {PA' : List D → En → Prop} {Po' : Po} {i : Nat} {d x y : D} {ta tb tc te tv to ti : DE} {t u : DT} {q q' : D → D → DE} {a b : Int} {k : Bool} {s : DS} {A C : Prop} {o : Bool} {tr : DA}
theorem v_var (h : e.sl[i]? = some (some d)) (p : P d e) : eV i e P := ⟨d, h, p⟩
theorem v_c (p : P d e) : eC d e P := p
theorem v_bin (h : ta e fun x e1 => tb e1 fun y e2 => q x y e2 P) : eBin q ta tb e P := h
theorem v_chain (h : ta e fun x e1 => tb e1 fun y e2 => q x y e2 fun z e3 => ∃ k, z = .bl k ∧ if k = true then tc e3 fun w e4 => q' y w e4 P else P (.bl false) e3) : eChain q q' ta tb tc e P := h
theorem v_test (h : te e fun d e1 => ∃ k, d = .bl k ∧ PB k e1) : eTest te e PB := h
theorem v_tru (h : te e fun d e1 => ∃ k, tru e1.cs d = some k ∧ PB k e1) : eTru te e PB := h
theorem v_dand (h : t e fun c e1 => if c = true then u e1 PB else PB false e1) : dAnd t u e PB := h
theorem v_dor (h : t e fun c e1 => if c = true then PB true e1 else u e1 PB) : dOr t u e PB := h
theorem v_dnot (h : t e fun c e1 => PB (!c) e1) : dNot t e PB := h
theorem v_dyes (h : PB true e) : dYes e PB := h
theorem v_eand (h : ta e fun x e1 => ∃ c, x = .bl c ∧ if c = true then tb e1 P else P (.bl false) e1) : eAnd ta tb e P := h
theorem v_eor (h : ta e fun x e1 => ∃ c, x = .bl c ∧ if c = true then P (.bl true) e1 else tb e1 P) : eOr ta tb e P := h
theorem v_enot (h : ta e fun x e1 => ∃ c, x = .bl c ∧ P (.bl (!c)) e1) : eNot ta e P := h
theorem v_eif (h : t e fun c e1 => if c = true then ta e1 P else tb e1 P) : eIf t ta tb e P := h
theorem v_anil (h : PA' [] e) : aNil e PA' := h
theorem v_acons (h : te e fun d e1 => tr e1 fun ds e2 => PA' (d :: ds) e2) : aCons te tr e PA' := h
theorem v_tup (h : tr e fun ds e1 => ds.length ≤ sizeLine ∧ P (.tup ds) e1) : eTup tr e P := h
theorem v_lst (h : tr e fun ds e1 => ds.length ≤ sizeLine ∧ newL o ds e1 P) : eLst o tr e P := h
theorem v_newF {xs : List D} (h : P (.lst xs) e) : newL false xs e P := h
theorem v_newC {xs : List D} (h : P (.cell e.cs.length) { e with cs := e.cs ++ [.lst xs] }) : newL true xs e P := h
theorem v_cb {qq : List D → DE} (h : tr e fun ds e1 => qq ds e1 P) : eCB qq tr e P := h
theorem v_call {sp : Spc} (h : tr e fun ds e1 => sp ds e1.cs fun d cs' => P d { e1 with cs := cs' }) : eCall sp tr e P := h
theorem v_sl {tl th : DO} (h : te e fun x e1 => tl e1 fun l e2 => th e2 fun h e3 => qSl o x l h e3 P) : eSl o te tl th e P := h
theorem v_onone {PO' : Option Int → En → Prop} (h : PO' none e) : oNone e PO' := h
theorem v_osome {PO' : Option Int → En → Prop} (h : te e fun d e1 => ∃ i, d = .int i ∧ PO' (some i) e1) : oSome te e PO' := h
theorem v_bm {qq : D → List D → DE} (h : te e fun d e1 => (∃ xs, lk e1.cs d = some xs) ∧ tr e1 fun ds e2 => qq d ds e2 P) : eBM qq te tr e P := h
theorem v_bm0 {qq : D → List D → DE} (h : te e fun d e1 => (∃ xs, lk e1.cs d = some xs) ∧ qq d [] e1 P) : eBM0 qq te e P := h
theorem v_prop {C : Addr} {sp : Spc} (h : te e fun d e1 => (∃ ns xs, insD e1.cs d = some (C, ns, xs)) ∧ sp [d] e1.cs fun r cs' => P r { e1 with cs := cs' }) : eProp C sp te e P := h
theorem v_fld {C : Addr} {f : Str} (h : te e fun d e1 => ∃ ns xs v, insD e1.cs d = some (C, ns, xs) ∧ getF f ns xs = some v ∧ P v e1) : eFld C f te e P := h
theorem v_meth {C : Addr} {m : Str} {sp : Spc} (h : te e fun d e1 => (∃ ns xs, insD e1.cs d = some (C, ns, xs) ∧ m ∉ ns) ∧ tr e1 fun ds e2 => sp (d :: ds) e2.cs fun r cs' => P r { e2 with cs := cs' }) : eMeth C m sp te tr e P := h
theorem v_make {C : Addr} {sp : Spc} (h : tr e fun ds e1 => sp (.cell e1.cs.length :: ds) (e1.cs ++ [.ins C [] []]) fun r cs' => r = .non ∧
  (P (.cell e1.cs.length) { e1 with cs := cs' } ∨ ∃ cs1 C' ns xs, cs' = cs1 ++ [.ins C' ns xs] ∧ cs1.length = e1.cs.length ∧ los e1.cs.length xs = true ∧ (∀ c ∈ cs1, c ∈ e1.cs ∨ c.loD e1.cs.length = true) ∧ P (.ins C' ns xs) { e1 with cs := cs1 })) : eMake C sp tr e P := h
-- statements
theorem v_nthn {u : DS} (h : u Po' e) : (Po'.thn u).nx e := h
theorem v_rthn {u : DS} {cs : List Cel} (h : Po'.rt d cs) : (Po'.thn u).rt d cs := h
theorem v_bthn {u : DS} (h : Po'.bk e) : (Po'.thn u).bk e := h
theorem v_cthn {u : DS} (h : Po'.ct e) : (Po'.thn u).ct e := h
theorem v_nlp {N : En → Prop} (h : N e) : (Po'.lp N).nx e := h
theorem v_rlp {N : En → Prop} {cs : List Cel} (h : Po'.rt d cs) : (Po'.lp N).rt d cs := h
theorem v_blp {N : En → Prop} (h : Po'.nx e) : (Po'.lp N).bk e := h
theorem v_clp {N : En → Prop} (h : N e) : (Po'.lp N).ct e := h
theorem v_nfn {cs : List Cel} {Q : D → List Cel → Prop} (h : FinD cs Q .non e.cs) : (Po.fn cs Q).nx e := h
theorem v_rfn {cs cs' : List Cel} {Q : D → List Cel → Prop} (h : FinD cs Q d cs') : (Po.fn cs Q).rt d cs' := h
theorem v_break (h : Po'.bk e) : sBreak Po' e := h
theorem v_cont (h : Po'.ct e) : sCont Po' e := h
theorem v_seq {s1 s2 : DS} (h : s1 (Po'.thn s2) e) : sSeq s1 s2 Po' e := h
theorem v_next (h : Po'.nx e) : sNext Po' e := h
theorem v_drop (h : te e fun _ e1 => Po'.nx e1) : sDrop te Po' e := h
theorem v_ret (h : te e fun d e1 => Po'.rt d e1.cs) : sRet te Po' e := h
theorem v_retN (h : Po'.rt .non e.cs) : sRetN Po' e := h
theorem v_if {s1 s2 : DS} (h : t e fun b e1 => if b = true then s1 Po' e1 else s2 Po' e1) : sIf t s1 s2 Po' e := h
theorem v_asg (h : te e fun d e1 => Po'.nx { e1 with sl := e1.sl.set i (some d) }) : sAsg te i Po' e := h
theorem v_asgT {tg : Tg} (h : te e fun d e1 => ∃ sl', setTg tg d e1.sl = some sl' ∧ Po'.nx ⟨sl', e1.cs⟩) : sAsgT te tg Po' e := h
theorem v_lenL {xs : List D} (h : seqD e.cs d = some xs) (hs : ∀ s, d ≠ .str s) (p : P (.int xs.length) e) : qLen [d] e P := by
  cases d <;> first | exact absurd rfl (hs _) | exact ⟨xs, h, p⟩
theorem v_listL {xs : List D} (h : seqD e.cs d = some xs) (p : newL o xs e P) : qList o [d] e P := ⟨xs, h, p⟩
theorem v_tupL {xs : List D} (h : lk e.cs d = some xs) (ht : ∀ s, d ≠ .tup s) (p : P (.tup xs) e) : qTuple [d] e P := by
  cases d <;> first | exact absurd rfl (ht _) | exact ⟨xs, h, p⟩
theorem v_tupT {xs : List D} (p : P (.tup xs) e) : qTuple [.tup xs] e P := p
theorem v_sumL {ns : List Int} (h : seqD e.cs d = some (ns.map .int)) (p : P (.int ns.sum) e) : qSum [d] e P := ⟨ns, h, p⟩
theorem v_allL {bs : List Bool} (h : lk e.cs d = some (bs.map .bl)) (p : P (.bl (bs.all fun b => b)) e) : qAll [d] e P := ⟨bs, h, p⟩
theorem v_slL {xs : List D} {l h : Option Int} (h1 : lk e.cs d = some xs) (ht : ∀ s, d ≠ .tup s) (hs : ∀ s, d ≠ .str s) (p : newL o (cutD xs l h) e P) : qSl o d l h e P := by
  unfold qSl
  split
  · exact absurd rfl (ht _)
  · exact absurd rfl (hs _)
  · exact ⟨xs, h1, p⟩
theorem v_sub {tv to ti : DE} (h : tv e fun v e1 => to e1 fun o e2 => ti e2 fun i e3 => ∃ n xs k j, o = .cell n ∧ e3.cs[n]? = some (.lst xs) ∧ i = .int k ∧ ixN xs.length k = some j ∧ Po'.nx { e3 with cs := e3.cs.set n (.lst (xs.set j v)) }) : sSub tv to ti Po' e := h
theorem v_rev (h : te e fun x e1 => ∃ xs, lk e1.cs x = some xs ∧ newL o xs.reverse e1 P) : eRev o te e P := h
theorem v_sz {xs : List D} {p : Prop} (h : decide (xs.length ≤ 1000) = true) (q : p) : xs.length ≤ sizeLine ∧ p := ⟨Nat.le_trans (of_decide_eq_true h) (by decide), q⟩
-- operators on known kinds
theorem v_addI (p : P (.int (a + b)) e) : qAdd o (.int a) (.int b) e P := p
theorem v_subI (p : P (.int (a - b)) e) : qSub (.int a) (.int b) e P := p
theorem v_mulI (c : MulOk a b) (p : P (.int (a * b)) e) : qMul (.int a) (.int b) e P := ⟨c, p⟩
theorem v_fdivI (c : FdivOk a b) (p : P (.int (a / b)) e) : qFdiv (.int a) (.int b) e P := ⟨c, p⟩
theorem v_modI (c : 0 < b) (p : P (.int (a % b)) e) : qMod (.int a) (.int b) e P := ⟨c, p⟩
theorem v_powI (c : CPow a b) (p : P (.int (a ^ b.toNat)) e) : qPow (.int a) (.int b) e P := ⟨c, p⟩
theorem v_ltI (p : P (.bl (decide (a < b))) e) : qLt (.int a) (.int b) e P := p
theorem v_leI (p : P (.bl (decide (a ≤ b))) e) : qLe (.int a) (.int b) e P := p
theorem v_gtI (p : P (.bl (decide (b < a))) e) : qGt (.int a) (.int b) e P := p
theorem v_geI (p : P (.bl (decide (b ≤ a))) e) : qGe (.int a) (.int b) e P := p
theorem v_eqI (p : P (.bl (decide (a = b))) e) : qEq (.int a) (.int b) e P := p
theorem v_neI (p : P (.bl (!decide (a = b))) e) : qNe (.int a) (.int b) e P := p
theorem v_intI (p : P (.int a) e) : qInt [.int a] e P := p
theorem v_intB (p : P (.int (if k then 1 else 0)) e) : qInt [.bl k] e P := p
theorem v_isi {T : String} {c : String} (h : tyKnown T = true) (h1 : tyN e.cs d = some c) (p : P (.bl (isTy c T)) e) : qIsi [d, .raw (.ty T)] e P := ⟨h, c, h1, p⟩
theorem v_isiT {T c : String} (h : tyKnown T = true) (h1 : tyN e.cs d = some c) (h2 : isTy c T = true) (p : P (.bl true) e) : qIsi [d, .raw (.ty T)] e P := ⟨h, c, h1, by rw [h2]; exact p⟩
theorem v_isiF {T c : String} (h : tyKnown T = true) (h1 : tyN e.cs d = some c) (h2 : isTy c T = false) (p : P (.bl false) e) : qIsi [d, .raw (.ty T)] e P := ⟨h, c, h1, by rw [h2]; exact p⟩
theorem v_ixT {xs : List D} (h : atI xs a = some d) (p : P d e) : qIx (.tup xs) (.int a) e P := ⟨d, h, p⟩
theorem v_ixL {xs : List D} (h : atI xs a = some d) (p : P d e) : qIx (.lst xs) (.int a) e P := ⟨xs, rfl, d, h, p⟩
theorem v_ixC {n : Nat} {xs : List D} (hc : e.cs[n]? = some (.lst xs)) (h : atI xs a = some d) (p : P d e) : qIx (.cell n) (.int a) e P := ⟨xs, by show (match e.cs[n]? with | some (.lst xs) => some xs | _ => none) = some xs; rw [hc], d, h, p⟩
theorem tyN_cell {cs : List Cel} {n : Nat} {a : String} (h : tyN cs (.cell n) = some a) : a = "list" := by
  simp only [tyN] at h
  split at h
  · cases h; rfl
  · cases h
theorem v_ixCx {n : Nat} (h : ∃ xs d, e.cs[n]? = some (.lst xs) ∧ atI xs a = some d ∧ P d e) : qIx (.cell n) (.int a) e P := by
  obtain ⟨xs, d, h1, h2, h3⟩ := h
  exact v_ixC h1 h2 h3
theorem v_bl {PK : Bool → Prop} (h : PK k) : ∃ k', D.bl k = .bl k' ∧ PK k' := ⟨k, rfl, h⟩
theorem v_in {PK : Int → Prop} (h : PK a) : ∃ k', D.int a = .int k' ∧ PK k' := ⟨a, rfl, h⟩
theorem v_T {A B : Prop} (h : A) : if true = true then A else B := iteT h
theorem v_F {A B : Prop} (h : B) : if false = true then A else B := iteF h
theorem v_ite {c : Bool} {A B : Prop} (h1 : c = true → A) (h2 : c = false → B) : if c = true then A else B := by
  cases c with
  | true => exact iteT (h1 rfl)
  | false => exact iteF (h2 rfl)
theorem v_itd {c : Prop} [Decidable c] {A B : Prop} (h1 : c → A) (h2 : ¬ c → B) : if decide c = true then A else B := by
  by_cases h : c
  · rw [decide_eq_true h]; exact iteT (h1 h)
  · rw [decide_eq_false h]; exact iteF (h2 h)
theorem v_itdn {c : Prop} [Decidable c] {A B : Prop} (h1 : ¬ c → A) (h2 : c → B) : if (!decide c) = true then A else B := by
  by_cases h : c
  · rw [decide_eq_true h]; exact iteF (h2 h)
  · rw [decide_eq_false h]; exact iteT (h1 h)
end
end DL
namespace DL
open PySem PySem.Spec PyProof.Rows L2
open Evl (Ex)

/-- the def at f keeps its promise, at most k deep -/
def Good (P : Program) (w : World) (K : PySem.W.Frag) (mg : Str → Option Value) (base : Heap) (k : Nat) (f : Addr) (ps : List Str) (sp : Spc) : Prop :=
  ∃ fd, FnOk P w K mg base CX0 k f fd ps (spD K sp) ∧ Binds K fd ps [] ∧ PySem.W.keepIn K (.ref f) = true
theorem Good.mono {P : Program} {w : World} {K : PySem.W.Frag} {mg : Str → Option Value} {base : Heap} {j k : Nat} {f : Addr} {ps : List Str} {sp : Spc} (g : Good P w K mg base j f ps sp) (h : j ≤ k) : Good P w K mg base k f ps sp := by
  obtain ⟨fd, F, b, kp⟩ := g
  exact ⟨fd, F.mono h, b, kp⟩
section
variable {X : Cx} {B : Bs} {ex o a b : Expr} {es : List Expr} {te tv ta' tb' : DE} {ta : DA} {C : Addr} {f m x : Str} {pos apos p : Pos} {k : Nat} {fn pp : Addr} {ps : List Str} {sp : Spc}
theorem de_callG (G : Good X.prog X.w X.K X.mg X.base k fn ps sp) (hr : Room k X.A) (hm : X.mg x = some (.ref fn)) (ha : PA X (ex :: es) (lA X.K B ta)) (hg : Gl X x := by rfl) (hdb : (x == ("__debug__" : Str)) = false := by decide)
    (he : starEach (ex :: es) X.env = (false, eval ex X.env) :: starEach es X.env := by rfl) (hpl : (backTo pos (starEach es X.env)).any (·.1) = false := by rfl) : PE X (.Call (.Name x p) (ex :: es) [] pos) (lE X.K B (eCall sp ta)) := by
  obtain ⟨fd, F, b, kp⟩ := G
  exact de_call F hr hg hm kp b ha hdb he hpl
theorem de_propG (G : Good X.prog X.w X.K X.mg X.base k fn ps sp) (hr : Room (k + 1) X.A) (c : Cls X.K C) (hp : PropOf X.K C f pp fn) (he : PE X ex (lE X.K B te)) (hab : attributeBase ex f X.env (eval ex X.env) = eval ex X.env := by rfl) :
    PE X (.Attribute ex f pos) (lE X.K B (eProp C sp te)) := by
  obtain ⟨fd, F, b, kp⟩ := G
  exact de_prop c hp F hr b he hab
theorem de_methG {pl : Sem Bool} (G : Good X.prog X.w X.K X.mg X.base k fn ps sp) (hr : Room k X.A) (c : Cls X.K C) (hm : Meth X.K C m fn) (ho : PE X o (lE X.K B te)) (ha : PA X (ex :: es) (lA X.K B ta))
    (hst : starEach (ex :: es) X.env = (false, eval ex X.env) :: starEach es X.env := by rfl) (hpl : (backTo pos (starEach es X.env)).any (·.1) = false := by rfl)
    (ht : eval (.Call (.Attribute o m apos) (ex :: es) [] pos) X.env = (do
      let ov ← eval o X.env
      standAt apos.atName
      let (f, first) ← holding [ov] (getMethod ov m pl)
      callWith pos f first (backTo pos (starEach (ex :: es) X.env)) (backToKw pos (keywordEach [] X.env))) := by rfl) :
    PE X (.Call (.Attribute o m apos) (ex :: es) [] pos) (lE X.K B (eMeth C m sp te ta)) := by
  obtain ⟨fd, F, b, kp⟩ := G
  exact de_meth (pl := pl) c hm F hr b ho ha hst hpl ht
theorem de_methG0 {pl : Sem Bool} (G : Good X.prog X.w X.K X.mg X.base k fn ps sp) (hr : Room k X.A) (c : Cls X.K C) (hm : Meth X.K C m fn) (ho : PE X o (lE X.K B te))
    (ht : eval (.Call (.Attribute o m apos) [] [] pos) X.env = (do
      let ov ← eval o X.env
      standAt apos.atName
      let (f, first) ← holding [ov] (getMethod ov m pl)
      callWith pos f first (backTo pos (starEach [] X.env)) (backToKw pos (keywordEach [] X.env))) := by rfl) :
    PE X (.Call (.Attribute o m apos) [] [] pos) (lE X.K B (eMeth C m sp te aNil)) := by
  obtain ⟨fd, F, b, kp⟩ := G
  exact de_meth0 (pl := pl) c hm F hr b ho ht
theorem de_makeG (G : Good X.prog X.w X.K X.mg X.base k fn ps sp) (hr : Room (k + 1) X.A) (M : Mk X.K C fn) (hm : X.mg x = some (.ref C)) (ha : PA X (ex :: es) (lA X.K B ta)) (hg : Gl X x := by rfl) (hdb : (x == ("__debug__" : Str)) = false := by decide)
    (he : starEach (ex :: es) X.env = (false, eval ex X.env) :: starEach es X.env := by rfl) (hpl : (backTo pos (starEach es X.env)).any (·.1) = false := by rfl) : PE X (.Call (.Name x p) (ex :: es) [] pos) (lE X.K B (eMake C sp ta)) := by
  obtain ⟨fd, F, b, kp⟩ := G
  exact de_make M F hr hg hm b ha hdb he hpl
end

/-! ### own special methods -/
/-- the class at C has the special method m, the def at f -/
structure Sm (K : PySem.W.Frag) (C : Addr) (m : Str) (f : Addr) : Prop where
  at_ : PySem.W.findIn K (.ref C) m = some (some (.ref f))
  fn : PySem.W.isFn K (.ref f) = true
theorem Inv.inst {X : Cx} {pins : List (Addr × Obj)} {σ : L2.St} {H : Hp} {s : Shared} {a C dx : Addr} {fs : List (Str × V)} (I : Inv X pins σ H s) (e : H a = some (.ins C dx fs)) : ∃ od, PySem.W.InstAt s.heap a (PySem.W.instObj C dx) C (some od) := by
  obtain ⟨mA, O, _, _, _, _⟩ := ins_get I.hok e
  obtain ⟨od, J, _⟩ := O.look
  exact ⟨od, J⟩
/-- the callee at any nearness -/
theorem run_in {X : Cx} {pins : List (Addr × Obj)} {σ : L2.St} {H : Hp} {s : Shared} {A : Around} {k : Nat} {fn : Addr} {fd : FuncData} {ps : List Str} {sp : Sp} {Q : VK} {us : List Value} {vs : List V} (F : FnOk X.prog X.w X.K X.mg X.base CX0 k fn fd ps sp) (hb : Binds X.K fd ps []) (hr : Room k A)
    (e0 : Env0 X.prog X.w X.K X.mg X.base A X.stack s H) (I : Inv X pins σ H s) (r : Vals vs us) (h : sp vs H Q E0) {E : Value → Shared → Prop} : wpAny (model X.prog X.w) A (call (.ref fn) us) (EP X pins σ Q) E s := by
  have hl : (us ++ []).length = ps.length := by rw [List.append_nil, ← r.length]; exact F.len _ _ _ _ h
  have hbt := hb s us I.kIn hl
  rw [List.append_nil] at hbt
  refine wpAny_call (codeAny_mono (F.run A X.stack s H ⟨us, []⟩ us vs Q E0 hr e0 hbt r h) fun r s' hq => ?_)
  cases r with
  | error e => exact False.elim hq
  | ok fl =>
    cases fl with
    | ret u => exact I.after hq
    | next => exact False.elim hq
    | brk => exact False.elim hq
    | cont => exact False.elim hq
/-- two values, a promise -/
def rOwn1 (K : PySem.W.Frag) (C : Addr) (sp : Spc) (T : V → Prop) : V → Hp → VK → Prop := fun x H Q => ∃ a dx gs, x = .ref a ∧ H a = some (.ins C dx gs) ∧ spD K sp [.ref a] H (fun v H' => T v ∧ Q v H') E0
def rOwn2 (K : PySem.W.Frag) (C : Addr) (sp : Spc) (T : V → Prop) : R2 := fun x y H Q => ∃ a dx gs, x = .ref a ∧ H a = some (.ins C dx gs) ∧ spD K sp [.ref a, y] H (fun v H' => T v ∧ Q v H') E0
section
variable {X : Cx} {B : Bs} {C fn : Addr} {k : Nat} {ps : List Str} {sp : Spc} {K : PySem.W.Frag}
theorem call_lenO (G : Good X.prog X.w X.K X.mg X.base k fn ps sp) (hr : Room (k + 1) X.A) (sm : Sm X.K C "__len__" fn) : CallR X (.builtin "len") (fun xs H Q => ∃ x, xs = [x] ∧ rOwn1 X.K C sp (fun v => ∃ n : Int, v = .int n ∧ 0 ≤ n ∧ n < 2 ^ 63) x H Q) := by
  intro pins s σ H xs us Q I r h
  obtain ⟨x, rfl, a, dx, gs, rfl, ha, h⟩ := h
  obtain ⟨fd, F, b, kp⟩ := G
  obtain ⟨u, rfl, ru⟩ := vals1 r
  cases (show u = Value.ref a from ru)
  obtain ⟨od, J⟩ := Inv.inst I ha
  obtain ⟨m, hF⟩ := I.fr
  refine PySem.W.len_K hF I.ok.mod.kin J sm.at_ sm.fn (wpAny_mono (run_in (us := [.ref a]) (vs := [V.ref a]) F b hr.in1 I.env0.in1 I (.cons rfl .nil) h) (fun v s' z => ?_) fun _ _ z => z)
  obtain ⟨v', H', I', rv, ⟨n, rfl, h0, h1⟩, q⟩ := z
  obtain ⟨t, rfl⟩ := rv
  exact ⟨⟨h0, h1⟩, .int n, H', I'.tok _, ⟨_, rfl⟩, q⟩
/-- what an own special method asks, by data -/
def qOwn1 (C : Addr) (sp : Spc) (T : D → Prop) : D → DE := fun d e P => (∃ ns xs, insD e.cs d = some (C, ns, xs)) ∧ sp [d] e.cs fun r cs' => T r ∧ P r { e with cs := cs' }
def qOwn2 (C : Addr) (sp : Spc) (T : D → Prop) : D → D → DE := fun d y e P => (∃ ns xs, insD e.cs d = some (C, ns, xs)) ∧ sp [d, y] e.cs fun r cs' => T r ∧ P r { e with cs := cs' }
theorem own1_ok {T : V → Prop} {T' : D → Prop} (hT : ∀ W v d, R K W v d → T' d → T v) {W : Wd} {H : Hp} {σ : L2.St} {e : En} {x : V} {d : D} {P : D → En → Prop} {Q : VK} (S : Sd K W H σ e) (r : R K W x d) (t : qOwn1 C sp T' d e P)
    (kk : ∀ d e' W' H' v, P d e' → W.le W' → Sd K W' H' σ e' → R K W' v d → Q v H') : rOwn1 K C sp T x H Q := by
  obtain ⟨⟨ns, xs, hi⟩, h⟩ := t
  obtain ⟨a, dx, gs, rfl, h1, h2, h3⟩ := S.ok.ins r hi
  exact ⟨a, dx, gs, rfl, h1, W, e.cs, [d], _, S.ok, .cons r .nil, h, fun d cs' W' H' v ⟨t, p⟩ l ok r' => ⟨hT _ _ _ r' t, kk _ _ _ _ _ p l ⟨ok, S.sl.mono l⟩ r'⟩⟩
theorem own2_ok {T : V → Prop} {T' : D → Prop} (hT : ∀ W v d, R K W v d → T' d → T v) {W : Wd} {H : Hp} {σ : L2.St} {e : En} {x y : V} {d d2 : D} {P : D → En → Prop} {Q : VK} (S : Sd K W H σ e) (r : R K W x d) (r2 : R K W y d2) (t : qOwn2 C sp T' d d2 e P)
    (kk : ∀ d e' W' H' v, P d e' → W.le W' → Sd K W' H' σ e' → R K W' v d → Q v H') : rOwn2 K C sp T x y H Q := by
  obtain ⟨⟨ns, xs, hi⟩, h⟩ := t
  obtain ⟨a, dx, gs, rfl, h1, h2, h3⟩ := S.ok.ins r hi
  exact ⟨a, dx, gs, rfl, h1, W, e.cs, [d, d2], _, S.ok, .cons r (.cons r2 .nil), h, fun d cs' W' H' v ⟨t, p⟩ l ok r' => ⟨hT _ _ _ r' t, kk _ _ _ _ _ p l ⟨ok, S.sl.mono l⟩ r'⟩⟩
def lenT (d : D) : Prop := ∃ n : Int, d = .int n ∧ 0 ≤ n ∧ n < 2 ^ 63
def qLenO (C : Addr) (sp : Spc) : List D → DE
  | [d] => qOwn1 C sp lenT d
  | _ => fun _ _ => False
theorem cd_lenO : CallD K (fun xs H Q => ∃ x, xs = [x] ∧ rOwn1 K C sp (fun v => ∃ n : Int, v = .int n ∧ 0 ≤ n ∧ n < 2 ^ 63) x H Q) (qLenO C sp) := by
  intro W H σ e vs ds P Q S r t k
  unfold qLenO at t
  split at t
  · obtain ⟨v, rfl, r1⟩ := r.one
    exact ⟨v, rfl, own1_ok (fun W v d r ⟨n, e, h⟩ => ⟨n, by subst e; exact r.int_inv, h⟩) S r1 t k⟩
  · exact t.elim
variable {a b : Expr} {ta tb : DE} {pos : Pos}
theorem od_own2 {K : PySem.W.Frag} {T : V → Prop} {T' : D → Prop} (hT : ∀ W v d, R K W v d → T' d → T v) : OpD K (rOwn2 K C sp T) (qOwn2 C sp T') := fun W H σ e x y d1 d2 P Q S r1 r2 t k => own2_ok hT S r1 r2 t k
/-- o[i] -/
theorem pe_ixO {ta tb : TE} {T : V → Prop} (G : Good X.prog X.w X.K X.mg X.base k fn ps sp) (hr : Room (k + 1) X.A) (sm : Sm X.K C "__getitem__" fn) (hf : PySem.W.fnIn X.K fn = true) (ha : PE X a ta) (hb : PE X b tb)
    (hsl : ∀ x i, subscripted b true (.ref x) i = runValue (.builtin "lifetime.subscript" ⟨[.ref x, i], []⟩)) : PE X (.Subscript a b pos) (tOp (rOwn2 X.K C sp T) ta tb) := by
  refine ⟨fun pins s σ H Q I h => ?_⟩
  obtain ⟨fd, F, bi, kp⟩ := G
  refine Subscript_ (binT ha hb I h fun v u s2 x y H2 I2 rx ry q => ?_)
  obtain ⟨a', dx, gs, rfl, h1, h⟩ := q
  cases (show v = Value.ref a' from rx)
  obtain ⟨od, J⟩ := Inv.inst I2 h1
  obtain ⟨m, hF⟩ := I2.fr
  refine PySem.W.sub_K hF I2.ok.mod.kin J sm.at_ hf sm.fn (wpAny_mono (run_in (us := [.ref a', u]) (vs := [V.ref a', y]) F bi hr.in1 I2.env0.in1 I2 (.cons rfl (.cons ry .nil)) h) (fun v s' z => ?_) fun _ _ z => z) (hsl _ _)
  obtain ⟨v', H', I', rv, _, q⟩ := z
  exact ⟨v', H', I', rv, q⟩
theorem de_ixO (G : Good X.prog X.w X.K X.mg X.base k fn ps sp) (hr : Room (k + 1) X.A) (sm : Sm X.K C "__getitem__" fn) (hf : PySem.W.fnIn X.K fn = true) (ha : PE X a (lE X.K B ta)) (hb : PE X b (lE X.K B tb))
    (hsl : ∀ x i, subscripted b true (.ref x) i = runValue (.builtin "lifetime.subscript" ⟨[.ref x, i], []⟩) := by intros; with_unfolding_all rfl) : PE X (.Subscript a b pos) (lE X.K B (eBin (qOwn2 C sp fun _ => True) ta tb)) :=
  PE.imp (pe_ixO (T := fun _ => True) G hr sm hf ha hb hsl) (bin_ok (od_own2 fun _ _ _ _ _ => trivial))
theorem RelV.cmp {P : Value → Shared → Prop} {z : V} {v : Value} {s' : Shared} (r : RelV z v) (h : P v s') : PySem.W.CmpBack P v s' := by
  cases z with
  | non => cases (show v = Value.none from r); exact h
  | bl b => cases (show v = Value.bool b from r); exact h
  | int i =>
    obtain ⟨t, e⟩ := (show ∃ t, v = Value.int i t from r)
    cases e
    exact h
  | str x =>
    obtain ⟨t, e⟩ := (show ∃ t, v = Value.str x t from r)
    cases e
    exact h
  | byt b =>
    obtain ⟨t, e⟩ := (show ∃ t, v = Value.bytes b t from r)
    cases e
    exact h
  | flt b =>
    obtain ⟨t, e⟩ := (show ∃ t, v = Value.float b t from r)
    cases e
    exact h
  | ref a => cases (show v = Value.ref a from r); exact h
  | ty n => cases (show v = Value.type n from r); exact h
end
end DL
namespace DL
open PySem PySem.Spec PyProof.Rows L2
open Evl (Ex)

/-! ### a list or a tuple walked -/
section
variable {X : Cx} {B : Bs} {tg l ex : Expr} {te : DE}
def iAny (K : PySem.W.Frag) (tl : TE) : TI := fun σ H R => tl σ H fun x H1 => (∃ a, x = .ref a ∧ (∃ xs, SqL K H1 a xs) ∧ R (Itl K a) H1) ∨ ∃ a, x = .ref a ∧ (∃ xs, SqT K H1 a xs) ∧ R (Itt K a) H1
theorem pi_any {tl : TE} (hl : PE X l tl) : PI X tg l (iAny X.K tl) := by
  refine ⟨fun pins s σ H R I h => ?_⟩
  refine thn (hl.run pins s σ H _ I h) fun v s1 ⟨x, H1, I1, r1, q1⟩ => ?_
  rcases q1 with ⟨a, e, ⟨xs, hq⟩, q⟩ | ⟨a, e, ⟨xs, hq⟩, q⟩
  · subst e
    cases r1
    obtain ⟨its, rv, p, hz⟩ := I1.list hq
    refine wpAny_pyIter_list p.isList ?_
    refine ⟨s1.heap.objs.size, [s1.heap.objs.size], _, _, H1, rfl, I1.kept (t' := s1.toks) fun b o e => Heap.get?_push_of_some _ e, turn_list a _, ⟨_, Heap.get?_push_size _ rfl, rfl, rfl⟩, fun b hb => ?_, q⟩
    have e : b = s1.heap.objs.size := by simpa using hb
    subst e
    exact I1.fpOk (Nat.le_refl _) (I1.hok.fresh (Nat.le_refl _))
  · subst e
    cases r1
    obtain ⟨its, rv, p, hz⟩ := I1.tuple hq
    refine wpAny_pyIter_tuple (show s1.heap.IsTuple a its.toArray from p) ?_
    refine ⟨s1.heap.objs.size, [s1.heap.objs.size], _, _, H1, rfl, I1.kept (t' := s1.toks) fun b o e => Heap.get?_push_of_some _ e, turn_tuple a _, ⟨_, Heap.get?_push_size _ rfl, rfl, rfl⟩, fun b hb => ?_, q⟩
    have e : b = s1.heap.objs.size := by simpa using hb
    subst e
    exact I1.fpOk (Nat.le_refl _) (I1.hok.fresh (Nat.le_refl _))
/-- a list that changes no more, or a tuple -/
def fixS : D → Option (List D)
  | .lst xs => some xs
  | .fro xs => some xs
  | .tup xs => some xs
  | _ => none
/-- what is walked, and how -/
def itS (d : D) (e : En) (P : List D → (List Cel → Prop) → En → Prop) : Prop :=
  (∃ xs, fixS d = some xs ∧ P xs anyC e) ∨ ∃ n xs, d = .cell n ∧ e.cs[n]? = some (.lst xs) ∧ P xs (fun cs => cs[n]? = some (.lst xs)) e
def iS (t : DE) : DI := fun e P => t e fun d e1 => itS d e1 P
theorem di_any (h : PE X ex (lE X.K B te)) : PI X tg ex (lI X.K B (iS te)) := PI.imp (pi_any h) fun σ H Q ⟨W, e, P, bl, S, t, k⟩ => by
  refine ⟨W, e, _, bl, S, t, fun d e1 W1 H1 v hp l S1 r => ?_⟩
  rcases hp with ⟨xs, hx, p⟩ | ⟨n, xs, rfl, hc, p⟩
  · cases r <;> simp only [fixS] at hx <;> cases hx
    · exact .inr ⟨_, rfl, ⟨_, Evl.ex_t S1.ok.ex (by assumption)⟩, k _ _ _ _ _ _ p l S1 (wk_tup (by assumption) (by assumption))⟩
    · exact .inl ⟨_, rfl, ⟨_, SqL.of (S1.ok.ex _ _ (by assumption))⟩, k _ _ _ _ _ _ p l S1 (wk_list (SqL.of (by assumption)) (by assumption))⟩
    · exact .inl ⟨_, rfl, ⟨_, Evl.ex_l S1.ok.ex (by assumption)⟩, k _ _ _ _ _ _ p l S1 (wk_list (by assumption) (by assumption))⟩
  · cases r with
    | cell hm =>
      obtain ⟨vs, h1, _⟩ := S1.ok.cellL hm hc
      exact .inl ⟨_, rfl, ⟨_, SqL.of h1⟩, k _ _ _ _ _ _ p l S1 (wk_cell hm)⟩
theorem v_iS {t : DE} {e : En} {P : List D → (List Cel → Prop) → En → Prop} (h : t e fun d e1 => itS d e1 P) : iS t e P := h
theorem v_itF {d : D} {e : En} {P : List D → (List Cel → Prop) → En → Prop} (h : ∃ xs, fixS d = some xs ∧ P xs anyC e) : itS d e P := .inl h
theorem v_itC {n : Nat} {e : En} {P : List D → (List Cel → Prop) → En → Prop} (h : ∃ xs, e.cs[n]? = some (.lst xs) ∧ P xs (fun cs => cs[n]? = some (.lst xs)) e) : itS (.cell n) e P := let ⟨xs, h1, h2⟩ := h; .inr ⟨n, xs, rfl, h1, h2⟩
theorem v_iR1 {t : DA} {e : En} {P : List D → (List Cel → Prop) → En → Prop} (h : t e fun ds e1 => ∃ j, ds = [.int j] ∧ -(2 ^ 62) ≤ j ∧ j < 2 ^ 62 ∧ P (intsD 0 j.toNat) anyC e1) : iR1 t e P := h
theorem v_iR2 {t : DA} {e : En} {P : List D → (List Cel → Prop) → En → Prop} (h : t e fun ds e1 => ∃ i j, ds = [.int i, .int j] ∧ (-(2 ^ 62) ≤ i ∧ i < 2 ^ 62 ∧ -(2 ^ 62) ≤ j ∧ j < 2 ^ 62) ∧ P (intsD i (j - i).toNat) anyC e1) : iR2 t e P := h
end

theorem prop_ok {K : PySem.W.Frag} {c f : Str} (h : (Fx.prop c f).ok K = true) : PropOf K (He.ga K c) f (He.ma K (He.ga K c) f) (pga K (He.ga K c) f) := by
  obtain ⟨h1, h2⟩ := He.ba h
  obtain ⟨h3, h4⟩ := He.ba h2
  obtain ⟨h5, h6⟩ := He.ba h4
  refine ⟨He.eqO_ok h1, He.eqO_ok h3, of_decide_eq_true h5, ?_⟩
  split at h6
  · rename_i g rest e
    exact ⟨rest, by rw [e, ← of_decide_eq_true h6]⟩
  · cases h6
theorem sm_ok {K : PySem.W.Frag} {c m : Str} (h : (Fx.sm c m).ok K = true) : Sm K (He.ga K c) m (He.ma K (He.ga K c) m) := by
  obtain ⟨h1, h2⟩ := He.ba h
  exact ⟨He.eqO_ok h1, h2⟩
theorem insc_ok {K : PySem.W.Frag} {c : Str} (h : (Fx.insc c).ok K = true) : C8.InsC K (He.ga K c) := by
  obtain ⟨h1, h2⟩ := He.ba h
  obtain ⟨h3, h4⟩ := He.ba h2
  obtain ⟨h5, h6⟩ := He.ba h4
  obtain ⟨h7, h8⟩ := He.ba h6
  exact ⟨He.cls_ok h1, He.eqO_ok h3, He.eqO_ok h5, of_decide_eq_true h7, of_decide_eq_true h8, by unfold PySem.W.kitOne; simp⟩
theorem kto_ok {K : PySem.W.Frag} {c : Str} (h : (Fx.kto c).ok K = true) : ∀ a ∈ tysB, PySem.W.kitOne K (.type a) (.ref (He.ga K c)) = some false := fun a m => of_decide_eq_true (List.all_eq_true.mp h a m)
theorem nosl_ok {K : PySem.W.Frag} {c : Str} {nm : String} (h : (Fx.nosl c nm).ok K = true) : NoSl K (He.ga K c) nm := by
  obtain ⟨h1, h2⟩ := He.ba h
  obtain ⟨h3, h4⟩ := He.ba h2
  obtain ⟨h5, h6⟩ := He.ba h4
  obtain ⟨h7, h8⟩ := He.ba h6
  refine ⟨?_, He.eqO_ok h3, He.eqO_ok h5, He.eqO_ok h7, He.eqO_ok h8⟩
  split at h1
  · rename_i cd e
    exact ⟨cd, e, of_decide_eq_true h1⟩
  · cases h1
theorem oexO_ok {C : Addr} {o : Obj} (h : oexO C o = true) : ∃ nm q N bs bm sn sub ab col dd k0 k1 k2 k3 k5, o = excClassObj nm q C N bs bm true sn sub ab col dd k0 k1 k2 k3 k5 "ValueError.__new__" ∧ PySem.HandSPX.refsVE bm = true := by
  obtain ⟨oc, od, dt, sl⟩ := o
  obtain ⟨h1, h0⟩ := Bool.and_eq_true_iff.mp (show (decide (oc = .type "type") && _) = true from h)
  have h1 : oc = .type "type" := of_decide_eq_true h1
  subst h1
  clear h
  split at h0
  · rename_i cd e
    have e : dt = .cls cd := e
    subst e
    have h2 := (Bool.and_eq_true_iff.mp h0).1
    replace h0 := (Bool.and_eq_true_iff.mp h0).2
    have h3 := (Bool.and_eq_true_iff.mp h0).1
    replace h0 := (Bool.and_eq_true_iff.mp h0).2
    obtain ⟨nm, bs, mro, ns, qn, hd, sn, sub, ab, col, del⟩ := cd
    dsimp only at h2 h3 h0
    split at h0
    · rename_i C' bm
      have h4 := (Bool.and_eq_true_iff.mp h0).1
      replace h0 := (Bool.and_eq_true_iff.mp h0).2
      have h5 := (Bool.and_eq_true_iff.mp h0).1
      replace h0 := (Bool.and_eq_true_iff.mp h0).2
      have h4 := of_decide_eq_true h4
      split at h0
      · rename_i k0 k1 k2 k3 n k5 hs
        have hn := of_decide_eq_true h0
        have hsl : sl = #[k0, k1, k2, k3, some (.builtin n), k5] := by
          obtain ⟨l⟩ := sl
          exact congrArg Array.mk hs
        have hdel : del = false := by simpa using h2
        subst h4 hn hsl hdel h3
        exact ⟨nm, qn, ns, bs, bm, sn, sub, ab, col, od, k0, k1, k2, k3, k5, rfl, h5⟩
      · exact absurd h0 Bool.false_ne_true
    · exact absurd h0 Bool.false_ne_true
  · exact absurd h0 Bool.false_ne_true
theorem oex_ok {K : PySem.W.Frag} {c : Str} (h : (Fx.oex c).ok K = true) : OexC K (He.ga K c) := by
  obtain ⟨h1, h⟩ := He.ba h
  obtain ⟨h2, h⟩ := He.ba h
  obtain ⟨h3, h⟩ := He.ba h
  obtain ⟨h4, h5⟩ := He.ba h
  refine ⟨?_, He.eqO_ok h2, of_decide_eq_true h3, of_decide_eq_true h4, h5⟩
  unfold oexB at h1
  split at h1
  · rename_i o e
    obtain ⟨nm, q, N, bs, bm, sn, sub, ab, col, dd, k0, k1, k2, k3, k5, e2, e3⟩ := oexO_ok h1
    subst e2
    exact ⟨nm, q, N, bs, bm, sn, sub, ab, col, dd, k0, k1, k2, k3, k5, e, e3⟩
  · cases h1
theorem noix_ok {K : PySem.W.Frag} {c : Str} (h : (Fx.noix c).ok K = true) : PySem.W.findIn K (.ref (He.ga K c)) "index" = some none := He.eqO_ok h
/-- a def of no defaults -/
theorem good_of {P : Program} {w : World} {K : PySem.W.Frag} {mg : Str → Option Value} {base : Heap} {x qual : Str} {params : Arguments} {body : List Stmt} {scope : Scope} {f : Addr} {N ps : List Str} {k : Nat} {sp : Spc} {t : DS}
    (F : ∃ fd, FunD K x qual params body scope [] [] f fd) (S : FnScope N ps scope) (len : ∀ ds cs Q, sp ds cs Q → ds.length = ps.length)
    (bi : ∀ (kV doc pm : Value) (an : Option Addr) (cdv ct : Value) (us : List Value), us.length = ps.length → bindArgs (PySem.W.fnOf x qual params body scope .none kV doc pm an cdv ct) ⟨us, []⟩ = pure (ps.zip us))
    (der : ∀ (cdv : Value) (A : Around) (outer : List Env) (s : Shared) (H : Hp) (E : XK) (B : Bs), Room k (A.deeper (envOfC qual scope s.heap.objs.size f cdv)) → PSs (cx0 P w K mg base N qual scope f cdv A outer s H E) body (lS K B t))
    (vc : ∀ ds cs Q, (∀ d ∈ ds, loD cs.length d = true) → (∀ c ∈ cs, c.loD cs.length = true) → sp ds cs Q → t (Po.fn cs Q) ⟨startD N ds, cs⟩) : Good P w K mg base (k + 1) f ps sp := by
  obtain ⟨fd, F⟩ := F
  exact ⟨fd, fn_d F S len der vc, F.bindsN bi, F.kp⟩
/-- what a law asks: the script, at most 63 ints; True -/
def spLaw : Spc := fun ds cs P => ∃ ns : List Int, ds = [.fro (ns.map .int)] ∧ ns.length ≤ 63 ∧ cs = [] ∧ ∀ cs', P (.bl true) cs'
theorem law_says {K : PySem.W.Frag} (H : Hp) (a : Addr) (ns : List Int) (hl : ns.length ≤ 63) (hS : SqL K H a (ns.map V.int)) : spD K spLaw [.ref a] H (fun v _ => v = .bl true) fun _ _ _ => False :=
  ⟨⟨H, [], []⟩, [], [.fro (ns.map .int)], fun d _ => d = .bl true, ⟨Ex.refl _, rfl, List.nodup_nil, fun _ h => (by cases h), fun n a c h => (by simp at h), fun n a c h => (by simp at h), fun _ h => (by cases h), List.nodup_nil⟩, .cons (.fro hS (RAll.ints ns)) .nil,
    ⟨ns, rfl, hl, rfl, fun _ => rfl⟩, fun d cs' W' H' v e _ _ r => by subst e; exact r.bl_inv⟩
theorem bt_len : bootBuiltins "len" = some (.builtin "len") := boot_len
theorem bt_all : bootBuiltins "all" = some (.builtin "all") := by decide +kernel
theorem bt_sum : bootBuiltins "sum" = some (.builtin "sum") := by decide +kernel
theorem bt_isinstance : bootBuiltins "isinstance" = some (.builtin "isinstance") := by decide +kernel
theorem bt_int : bootBuiltins "int" = some (.type "int") := by decide +kernel
theorem bt_bool : bootBuiltins "bool" = some (.type "bool") := by decide +kernel
theorem bt_tuple : bootBuiltins "tuple" = some (.type "tuple") := by decide +kernel
theorem bt_list : bootBuiltins "list" = some (.type "list") := by decide +kernel
theorem bt_str : bootBuiltins "str" = some (.type "str") := by decide +kernel
end DL
namespace DL
open PySem PySem.Spec PyProof.Rows L2
open Evl (Ex)

/-! ### data that stands for values of Lean -/
structure EqE {α : Type} [DecidableEq α] (enc : α → D) (n : Nat) : Prop where
  ok : ∀ a, okD (enc a) = true
  lay : ∀ a, (toP (enc a)).canLay0 = true
  dep : ∀ a, (toP (enc a)).depth ≤ n
  eqv : ∀ a b, PyData.eqv (toP (enc a)) (toP (enc b)) = decide (a = b)
section
variable {α : Type} [DecidableEq α] {enc : α → D} {n : Nat}
theorem EqE.shp (h : EqE enc n) (hn : n ≤ 64) (a : α) : shp (enc a) = true := by
  unfold DL.shp SeqAt.shaped
  rw [h.ok a, h.lay a, decide_eq_true (Nat.le_trans (h.dep a) hn)] <;> rfl
theorem EqE.oks (h : EqE enc n) : ∀ xs : List α, okDs (xs.map enc) = true
  | [] => rfl
  | x :: xs => by
    show (okD (enc x) && okDs (xs.map enc)) = true
    rw [h.ok x, h.oks xs] <;> rfl
theorem EqE.lays (h : EqE enc n) : ∀ xs : List α, PyData.canLayAll0 (toPs (xs.map enc)) = true
  | [] => rfl
  | x :: xs => by
    show ((toP (enc x)).canLay0 && PyData.canLayAll0 (toPs (xs.map enc))) = true
    rw [h.lay x, h.lays xs] <;> rfl
theorem EqE.deps (h : EqE enc n) : ∀ xs : List α, PyData.depthAll (toPs (xs.map enc)) ≤ n
  | [] => Nat.zero_le _
  | x :: xs => by
    have h1 := h.dep x
    have h2 := h.deps xs
    show PyData.depthAll (toP (enc x) :: toPs (xs.map enc)) ≤ n
    simp only [PyData.depthAll]
    omega
theorem EqE.eqvs (h : EqE enc n) : ∀ xs ys : List α, PyData.eqvAll (toPs (xs.map enc)) (toPs (ys.map enc)) = decide (xs = ys)
  | [], [] => rfl
  | [], y :: ys => rfl
  | x :: xs, [] => rfl
  | x :: xs, y :: ys => by
    show (PyData.eqv (toP (enc x)) (toP (enc y)) && PyData.eqvAll (toPs (xs.map enc)) (toPs (ys.map enc))) = decide (x :: xs = y :: ys)
    rw [h.eqv x y, h.eqvs xs ys]
    simp
theorem EqE.tup (h : EqE enc n) : EqE (fun xs : List α => D.tup (xs.map enc)) (n + 1) where
  ok := h.oks
  lay := fun xs => by
    show (PyData.tuple (toPs (xs.map enc))).canLay0 = true
    simp only [PyData.canLay0]
    exact h.lays xs
  dep := fun xs => by
    show (PyData.tuple (toPs (xs.map enc))).depth ≤ n + 1
    have := h.deps xs
    simp only [PyData.depth]
    omega
  eqv := fun xs ys => by
    show PyData.eqv (.tuple (toPs (xs.map enc))) (.tuple (toPs (ys.map enc))) = _
    simp only [PyData.eqv]
    exact h.eqvs xs ys
theorem EqE.lst (h : EqE enc n) : EqE (fun xs : List α => D.lst (xs.map enc)) (n + 1) where
  ok := h.oks
  lay := fun xs => by
    show (PyData.list (toPs (xs.map enc))).canLay0 = true
    simp only [PyData.canLay0]
    exact h.lays xs
  dep := fun xs => by
    show (PyData.list (toPs (xs.map enc))).depth ≤ n + 1
    have := h.deps xs
    simp only [PyData.depth]
    omega
  eqv := fun xs ys => by
    show PyData.eqv (.list (toPs (xs.map enc))) (.list (toPs (ys.map enc))) = _
    simp only [PyData.eqv]
    exact h.eqvs xs ys
end
theorem encI : EqE D.int 0 where
  ok := fun _ => rfl
  lay := fun _ => rfl
  dep := fun _ => by
    show (PyData.int _).depth ≤ 0
    simp [PyData.depth]
  eqv := fun a b => Bool.beq_eq_decide_eq a b
/-- a column of figures -/
def encC (c : List Int) : D := .tup (c.map .int)
theorem encCE : EqE encC 1 := encI.tup
/-- == of two lists or tuples, by Lean's -/
theorem v_eqE {α : Type} [DecidableEq α] {enc : α → D} {n : Nat} (h : EqE enc n) {a b : α} {e : En} {P : D → En → Prop} {x y : D} (hx : drf e.cs x = enc a) (hy : drf e.cs y = enc b) (p : P (.bl (decide (a = b))) e)
    (hn : n ≤ 64 := by decide) (hni : (∀ i, x ≠ .int i) ∨ (∀ i, y ≠ .int i) := by first | exact .inl (fun _ z => nomatch z) | exact .inr (fun _ z => nomatch z)) : qEq x y e P := by
  have q : shp (drf e.cs x) = true ∧ shp (drf e.cs y) = true ∧ P (.bl (PyData.eqv (toP (drf e.cs x)) (toP (drf e.cs y)))) e := by
    rw [hx, hy, h.eqv]
    exact ⟨h.shp hn a, h.shp hn b, p⟩
  unfold qEq
  split
  · rcases hni with z | z
    · exact absurd rfl (z _)
    · exact absurd rfl (z _)
  · exact q
theorem v_neE {α : Type} [DecidableEq α] {enc : α → D} {n : Nat} (h : EqE enc n) {a b : α} {e : En} {P : D → En → Prop} {x y : D} (hx : drf e.cs x = enc a) (hy : drf e.cs y = enc b) (p : P (.bl (!decide (a = b))) e)
    (hn : n ≤ 64 := by decide) (hni : (∀ i, x ≠ .int i) ∨ (∀ i, y ≠ .int i) := by first | exact .inl (fun _ z => nomatch z) | exact .inr (fun _ z => nomatch z)) : qNe x y e P := by
  have q : shp (drf e.cs x) = true ∧ shp (drf e.cs y) = true ∧ P (.bl (!PyData.eqv (toP (drf e.cs x)) (toP (drf e.cs y)))) e := by
    rw [hx, hy, h.eqv]
    exact ⟨h.shp hn a, h.shp hn b, p⟩
  unfold qNe
  split
  · rcases hni with z | z
    · exact absurd rfl (z _)
    · exact absurd rfl (z _)
  · exact q
/-! a list of cells' own data -/
theorem los_map {α : Type} {enc : α → D} {k : Nat} (h : ∀ a, loD k (enc a) = true) : ∀ xs : List α, los k (xs.map enc) = true
  | [] => rfl
  | x :: xs => by
    show (loD k (enc x) && los k (xs.map enc)) = true
    rw [h x, los_map h xs] <;> rfl
theorem los_int {k : Nat} (xs : List Int) : los k (xs.map .int) = true := los_map (fun _ => rfl) xs
theorem lo_encC {k : Nat} (c : List Int) : loD k (encC c) = true := los_int c
theorem los_encC {k : Nat} (cs : List (List Int)) : los k (cs.map encC) = true := los_map lo_encC cs
theorem los_bl {k : Nat} (xs : List Bool) : los k (xs.map .bl) = true := los_map (fun _ => rfl) xs
/-! looking -/
theorem lk_cell {cs : List Cel} {n : Nat} {xs : List D} (h : cs[n]? = some (.lst xs)) : lk cs (.cell n) = some xs := by
  show (match cs[n]? with | some (.lst xs) => some xs | _ => none) = some xs
  rw [h]
theorem drf_cell {cs : List Cel} {n : Nat} {xs : List D} (h : cs[n]? = some (.lst xs)) : drf cs (.cell n) = .lst xs := by
  show (match cs[n]? with | some (.lst xs) => .lst xs | _ => .cell n) = D.lst xs
  rw [h]
theorem atI_map {α : Type} {f : α → D} {xs : List α} {i : Nat} {x : α} (h : xs[i]? = some x) : atI (xs.map f) (i : Int) = some (f x) := atI_nat (by rw [List.getElem?_map, h] <;> rfl)
end DL
namespace DL
open PySem PySem.Spec PyProof.Rows L2
open Evl (Ex)

/-! ### more steps -/
theorem set_get {cs : List Cel} {n : Nat} {c0 c : Cel} (h : cs[n]? = some c0) : (cs.set n c)[n]? = some c := by
  have := (List.getElem?_eq_some_iff.mp h).1
  simp [this]
theorem app_get {cs : List Cel} {c : Cel} : (cs ++ [c])[cs.length]? = some c := by simp
theorem app_get_lt {cs : List Cel} {n : Nat} {c0 c : Cel} (h : cs[n]? = some c0) : (cs ++ [c])[n]? = some c0 := by
  have := (List.getElem?_eq_some_iff.mp h).1
  rw [List.getElem?_append_left this]; exact h
theorem cut63 (xs : List D) : cutD xs none (some 63) = xs.take 63 := by
  unfold cutD
  rw [HT.sIx_none, show (63 : Int) = ((63 : Nat) : Int) from rfl, HT.sIx_nat]
  simp
section
variable {e : En} {P : D → En → Prop} {tg : Tg} {tt : DT} {te : DE} {vs : List Nat} {o : Bool} {it : DI} {a b : Int} {G : List Cel → Prop}
theorem v_lc (h : it e fun ds G e1 => ds.length ≤ sizeLine ∧ ∃ I : Nat → List D → List Cel → Prop, I 0 [] e1.cs ∧
  (∀ i d acc cs, ds[i]? = some d → I i acc cs → G cs ∧ ∃ sl', setTg tg d (wipeD e1.sl vs) = some sl' ∧ tt ⟨sl', cs⟩ fun b e2 => if b = true then te e2 fun y e3 => I (i + 1) (acc ++ [y]) e3.cs else I (i + 1) acc e2.cs) ∧
  ∀ acc cs, acc.length ≤ ds.length → I ds.length acc cs → G cs ∧ newL o acc ⟨e1.sl, cs⟩ P) : eLc o it tg tt te vs e P := h
theorem v_for {Po' : Po} {tb : DS} (h : it e fun ds G e1 => ∃ I : Nat → En → Prop, I 0 e1 ∧
  (∀ i d e2, ds[i]? = some d → I i e2 → G e2.cs ∧ ∃ sl', setTg tg d e2.sl = some sl' ∧ tb (Po'.lp (I (i + 1))) ⟨sl', e2.cs⟩) ∧ ∀ e2, I ds.length e2 → G e2.cs ∧ Po'.nx e2) : sFor it tg tb Po' e := h
theorem v_j1 {PQ : List D → Prop} {n : Nat} (hn : n ≤ 1000) (h : PQ (intsD 0 n)) : ∃ j, [D.int n] = [.int j] ∧ -(2 ^ 62) ≤ j ∧ j < 2 ^ 62 ∧ PQ (intsD 0 j.toNat) :=
  ⟨n, rfl, by omega, by omega, h⟩
theorem v_j1i {PQ : List D → Prop} (h0 : -1000 ≤ a) (h1 : a ≤ 1000) (h : PQ (intsD 0 a.toNat)) : ∃ j, [D.int a] = [.int j] ∧ -(2 ^ 62) ≤ j ∧ j < 2 ^ 62 ∧ PQ (intsD 0 j.toNat) :=
  ⟨a, rfl, by omega, by omega, h⟩
theorem v_j2i {PQ : List D → Prop} (h0 : -1000 ≤ a) (h1 : a ≤ 1000) (h2 : -1000 ≤ b) (h3 : b ≤ 1000) (h : PQ (intsD a (b - a).toNat)) : ∃ i j, [D.int a, D.int b] = [.int i, .int j] ∧ (-(2 ^ 62) ≤ i ∧ i < 2 ^ 62 ∧ -(2 ^ 62) ≤ j ∧ j < 2 ^ 62) ∧ PQ (intsD i (j - i).toNat) :=
  ⟨a, b, rfl, ⟨by omega, by omega, by omega, by omega⟩, h⟩
theorem v_varX {i : Nat} (h : ∃ d, e.sl[i]? = some (some d) ∧ P d e) : eV i e P := h
theorem v_isXT {T : String} {d : D} (h : ∃ c, tyN e.cs d = some c ∧ isTy c T = true ∧ tyKnown T = true ∧ P (.bl true) e) : qIsi [d, .raw (.ty T)] e P := let ⟨_, h1, h2, h3, p⟩ := h; v_isiT h3 h1 h2 p
theorem v_isXF {T : String} {d : D} (h : ∃ c, tyN e.cs d = some c ∧ isTy c T = false ∧ tyKnown T = true ∧ P (.bl false) e) : qIsi [d, .raw (.ty T)] e P := let ⟨_, h1, h2, h3, p⟩ := h; v_isiF h3 h1 h2 p
theorem v_ixTX {xs : List D} (h : ∃ d, atI xs a = some d ∧ P d e) : qIx (.tup xs) (.int a) e P := h
theorem v_ixLX {xs : List D} (h : ∃ d, atI xs a = some d ∧ P d e) : qIx (.lst xs) (.int a) e P := let ⟨_, h1, p⟩ := h; v_ixL h1 p
theorem v_szX {xs : List D} {p : Prop} (h : decide (xs.length ≤ 1000) = true ∧ p) : xs.length ≤ sizeLine ∧ p := v_sz h.1 h.2
theorem v_fdivX (h : FdivOk a b ∧ P (.int (a / b)) e) : qFdiv (.int a) (.int b) e P := h
theorem v_mulX (h : MulOk a b ∧ P (.int (a * b)) e) : qMul (.int a) (.int b) e P := h
theorem v_modX (h : 0 < b ∧ P (.int (a % b)) e) : qMod (.int a) (.int b) e P := h
theorem v_powX (h : CPow a b ∧ P (.int (a ^ b.toNat)) e) : qPow (.int a) (.int b) e P := h
theorem v_j1X {PQ : Int → Prop} (h : (-1000 ≤ a ∧ a ≤ 1000) ∧ PQ a) : ∃ j, [D.int a] = [.int j] ∧ -(2 ^ 62) ≤ j ∧ j < 2 ^ 62 ∧ PQ j := ⟨a, rfl, by omega, by omega, h.2⟩
theorem v_j2X {PQ : Int → Int → Prop} (h : (-1000 ≤ a ∧ a ≤ 1000 ∧ -1000 ≤ b ∧ b ≤ 1000) ∧ PQ a b) : ∃ i j, [D.int a, D.int b] = [.int i, .int j] ∧ (-(2 ^ 62) ≤ i ∧ i < 2 ^ 62 ∧ -(2 ^ 62) ≤ j ∧ j < 2 ^ 62) ∧ PQ i j := ⟨a, b, rfl, ⟨by omega, by omega, by omega, by omega⟩, h.2⟩
theorem v_truB {b : Bool} {PK : Bool → Prop} (h : PK b) : ∃ k', tru e.cs (.bl b) = some k' ∧ PK k' := ⟨b, rfl, h⟩
theorem v_truB' {cs : List Cel} {b : Bool} {PK : Bool → Prop} (h : PK b) : ∃ k', tru cs (.bl b) = some k' ∧ PK k' := ⟨b, rfl, h⟩
theorem v_nT {A B : Prop} (h : B) : if (!true) = true then A else B := iteF h
theorem v_nF {A B : Prop} (h : A) : if (!false) = true then A else B := iteT h
theorem v_fix {d : D} {PQ : List D → Prop} (h : ∃ xs, fixS d = some xs ∧ PQ xs) : ∃ xs, fixS d = some xs ∧ PQ xs := h
theorem v_insX {cs : List Cel} {d : D} {C : Addr} {f : Str} {PQ : D → Prop} (h : ∃ ns xs v, insD cs d = some (C, ns, xs) ∧ getF f ns xs = some v ∧ PQ v) : ∃ ns xs v, insD cs d = some (C, ns, xs) ∧ getF f ns xs = some v ∧ PQ v := h
theorem v_insP {cs : List Cel} {d : D} {C : Addr} {R : Prop} (h : (∃ ns xs, insD cs d = some (C, ns, xs)) ∧ R) : (∃ ns xs, insD cs d = some (C, ns, xs)) ∧ R := h
theorem v_lkX {cs : List Cel} {d : D} {PQ : List D → Prop} (h : ∃ xs, lk cs d = some xs ∧ PQ xs) : ∃ xs, lk cs d = some xs ∧ PQ xs := h
theorem v_fldS {C : Addr} {f : Str} {to tv : DE} {Po' : Po} (h : tv e fun v e1 => to e1 fun o e2 => ∃ n ns xs, o = .cell n ∧ e2.cs[n]? = some (.ins C ns xs) ∧ f ∉ ns ∧ ns.length < 900 ∧ Po'.nx { e2 with cs := e2.cs.set n (.ins C (ns ++ [f]) (xs ++ [v])) }) : sFldD C f to tv Po' e := h
theorem v_lenK {d : D} {xs : List D} (h : lk e.cs d = some xs) (p : P (.int xs.length) e) : qLen [d] e P := by
  cases d <;> first | exact ⟨xs, h, p⟩ | cases h
theorem v_ixK {d y : D} {xs : List D} (h : lk e.cs d = some xs) (h2 : atI xs a = some y) (p : P y e) : qIx d (.int a) e P := by
  cases d <;> first | exact ⟨xs, h, y, h2, p⟩ | cases h
theorem seq_lk {cs : List Cel} {d : D} {xs : List D} (h : lk cs d = some xs) : seqD cs d = some xs := by
  cases d <;> first | exact h | cases h
theorem rep_map (k : Nat) (z : Int) : (List.range k).map (fun _ => D.int z) = (List.replicate k z).map D.int := by
  rw [List.map_replicate, List.map_const', List.length_range]
theorem v_tupK {d : D} {xs : List D} (h : lk e.cs d = some xs) (p : P (.tup xs) e) : qTuple [d] e P := by
  cases d <;> first | exact ⟨xs, h, p⟩ | cases h
theorem v_subX {cs : List Cel} {o i : D} {PQ : Nat → List D → Nat → Prop} (h : ∃ n xs k j, o = .cell n ∧ cs[n]? = some (.lst xs) ∧ i = .int k ∧ ixN xs.length k = some j ∧ PQ n xs j) : ∃ n xs k j, o = .cell n ∧ cs[n]? = some (.lst xs) ∧ i = .int k ∧ ixN xs.length k = some j ∧ PQ n xs j := h
theorem v_fldX {cs : List Cel} {o : D} {C : Addr} {f : Str} {PQ : Nat → List Str → List D → Prop} (h : ∃ n ns xs, o = .cell n ∧ cs[n]? = some (.ins C ns xs) ∧ f ∉ ns ∧ ns.length < 900 ∧ PQ n ns xs) : ∃ n ns xs, o = .cell n ∧ cs[n]? = some (.ins C ns xs) ∧ f ∉ ns ∧ ns.length < 900 ∧ PQ n ns xs := h
theorem lk_cell_iff {cs : List Cel} {n : Nat} {xs : List D} (h : lk cs (.cell n) = some xs) : cs[n]? = some (.lst xs) := by
  have h' : (match cs[n]? with | some (.lst xs) => some xs | _ => none) = some xs := h
  split at h'
  · rename_i e
    cases h'
    exact e
  · cases h'
theorem v_itK {d : D} {xs : List D} {P : List D → (List Cel → Prop) → En → Prop} (h : lk e.cs d = some xs) (p : ∀ G : List Cel → Prop, G e.cs → P xs G e) : itS d e P := by
  cases d with
  | lst ys => cases h; exact .inl ⟨_, rfl, p _ trivial⟩
  | fro ys => cases h; exact .inl ⟨_, rfl, p _ trivial⟩
  | cell n => exact .inr ⟨n, xs, rfl, lk_cell_iff h, p _ (lk_cell_iff h)⟩
  | _ => cases h
theorem lk_set {cs : List Cel} {n : Nat} {c c0 : Cel} {d : D} {xs : List D} (h : lk cs d = some xs) (hn : cs[n]? = some c0) (hc : ∀ ys, c0 ≠ .lst ys) : lk (cs.set n c) d = some xs := by
  cases d with
  | cell m =>
    have hm := lk_cell_iff h
    have hne : n ≠ m := by
      rintro rfl
      rw [hn] at hm
      cases hm
      exact hc _ rfl
    exact lk_cell (by rw [List.getElem?_set_ne hne]; exact hm)
  | _ => exact h
theorem lk_app {cs : List Cel} {c : Cel} {d : D} {xs : List D} (h : lk cs d = some xs) : lk (cs ++ [c]) d = some xs := by
  cases d with
  | cell m => exact lk_cell (app_get_lt (lk_cell_iff h))
  | _ => exact h
theorem ty_lk {cs : List Cel} {d : D} {xs : List D} (h : lk cs d = some xs) (hf : ∀ ys, d ≠ .fro ys) : tyN cs d = some "list" := by
  cases d with
  | cell m =>
    have := lk_cell_iff h
    show (match cs[m]? with | some (.lst _) => some "list" | _ => none) = some "list"
    rw [this]
  | lst ys => rfl
  | fro ys => exact absurd rfl (hf _)
  | _ => cases h
theorem trim_back {cs cs' : List Cel} {Q : D → List Cel → Prop} {d : D} (h : cs'.take cs.length = cs) (hl : loD cs.length d = true) (q : Q d cs) : FinD cs Q d cs' :=
  .inr (.inl ⟨hl, fun c hc => .inl (by rw [h] at hc; exact hc), by rw [h]; exact q⟩)
theorem sz_le {α : Type} {xs : List α} (h : xs.length ≤ 100000) : xs.length ≤ sizeLine := Nat.le_trans h (by decide)
/-- a comprehension that maps, and leaves the cells as they are -/
theorem v_lcT {α : Type} {ds : List D} {e1 : En} (xs : List α) (enc f : α → D) (hd : ds = xs.map enc) (hz : xs.length ≤ 100000)
  (turn : ∀ (Q : D → List Cel → Prop) (i : Nat) (x : α), xs[i]? = some x → Q (f x) e1.cs → ∃ sl', setTg tg (enc x) (wipeD e1.sl vs) = some sl' ∧ tt ⟨sl', e1.cs⟩ fun b e2 => b = true ∧ te e2 fun y e3 => Q y e3.cs) (hm : ∀ e (P P' : Bool → En → Prop), (∀ b e, P b e → P' b e) → tt e P → tt e P')
  (done : newL o (xs.map f) ⟨e1.sl, e1.cs⟩ P) (g : G e1.cs := by first | trivial | assumption) : ds.length ≤ sizeLine ∧ ∃ I : Nat → List D → List Cel → Prop, I 0 [] e1.cs ∧
  (∀ i d acc cs, ds[i]? = some d → I i acc cs → G cs ∧ ∃ sl', setTg tg d (wipeD e1.sl vs) = some sl' ∧ tt ⟨sl', cs⟩ fun b e2 => if b = true then te e2 fun y e3 => I (i + 1) (acc ++ [y]) e3.cs else I (i + 1) acc e2.cs) ∧
  ∀ acc cs, acc.length ≤ ds.length → I ds.length acc cs → G cs ∧ newL o acc ⟨e1.sl, cs⟩ P := by
  subst hd
  refine ⟨sz_le (by simpa using hz), fun i acc cs => acc = (xs.take i).map f ∧ cs = e1.cs, ⟨rfl, rfl⟩, ?_, ?_⟩
  · rintro i d acc cs hi ⟨rfl, rfl⟩
    simp only [List.getElem?_map, Option.map_eq_some_iff] at hi
    obtain ⟨x, hx, rfl⟩ := hi
    obtain ⟨sl', h1, h2⟩ := turn (fun y cs => (xs.take i).map f ++ [y] = (xs.take (i + 1)).map f ∧ cs = e1.cs) i x hx ⟨by rw [List.take_add_one, hx]; simp, rfl⟩
    refine ⟨g, sl', h1, hm _ _ _ ?_ h2⟩
    rintro b e2 ⟨rfl, h3⟩
    exact v_T h3
  · rintro acc cs _ ⟨rfl, rfl⟩
    exact ⟨g, by simpa using done⟩
/-- with no filter -/
theorem v_lcY {α : Type} {ds : List D} {e1 : En} (xs : List α) (enc f : α → D) (hd : ds = xs.map enc) (hz : xs.length ≤ 100000)
  (turn : ∀ (Q : D → List Cel → Prop) (i : Nat) (x : α), xs[i]? = some x → Q (f x) e1.cs → ∃ sl', setTg tg (enc x) (wipeD e1.sl vs) = some sl' ∧ te ⟨sl', e1.cs⟩ fun y e3 => Q y e3.cs)
  (done : newL o (xs.map f) ⟨e1.sl, e1.cs⟩ P) (g : G e1.cs := by first | trivial | assumption) : ds.length ≤ sizeLine ∧ ∃ I : Nat → List D → List Cel → Prop, I 0 [] e1.cs ∧
  (∀ i d acc cs, ds[i]? = some d → I i acc cs → G cs ∧ ∃ sl', setTg tg d (wipeD e1.sl vs) = some sl' ∧ dYes ⟨sl', cs⟩ fun b e2 => if b = true then te e2 fun y e3 => I (i + 1) (acc ++ [y]) e3.cs else I (i + 1) acc e2.cs) ∧
  ∀ acc cs, acc.length ≤ ds.length → I ds.length acc cs → G cs ∧ newL o acc ⟨e1.sl, cs⟩ P :=
  v_lcT xs enc f hd hz (fun Q i x hx q => let ⟨sl', h1, h2⟩ := turn Q i x hx q; ⟨sl', h1, rfl, h2⟩) (fun _ _ _ k h => k _ _ h) done g
/-- a def hands back the list it just made -/
theorem own_back {cs : List Cel} {Q : D → List Cel → Prop} {xs : List D} (h : los cs.length xs = true) (q : fresh xs cs Q) : FinD cs Q (.cell cs.length) (cs ++ [.lst xs]) := by
  have e : (cs ++ [Cel.lst xs]).take cs.length = cs := by simp
  refine .inr (.inr ⟨_, xs, rfl, Nat.le_refl _, app_get, h, ?_, ?_⟩)
  · rw [e]
    exact fun c hc => .inl hc
  · rw [e]
    exact q
theorem own_back2 {cs cs1 : List Cel} {Q : D → List Cel → Prop} {xs : List D} (hl : cs1.length = cs.length) (hc : ∀ c ∈ cs1, c ∈ cs ∨ c.loD cs.length = true) (h : los cs.length xs = true) (q : fresh xs cs1 Q) : FinD cs Q (.cell cs1.length) (cs1 ++ [.lst xs]) := by
  have e : (cs1 ++ [Cel.lst xs]).take cs.length = cs1 := by rw [← hl]; simp
  refine .inr (.inr ⟨_, xs, rfl, by rw [hl]; exact Nat.le_refl _, app_get, h, ?_, ?_⟩)
  · rw [e]
    exact hc
  · rw [e, ← hl]
    exact q
theorem set_lo {cs : List Cel} {n : Nat} {c : Cel} (h : c.loD cs.length = true) : ∀ x ∈ cs.set n c, x ∈ cs ∨ x.loD cs.length = true := fun x hx => by
  rcases List.mem_or_eq_of_mem_set hx with h1 | rfl
  · exact .inl h1
  · exact .inr h
theorem trim_back2 {cs cs' : List Cel} {Q : D → List Cel → Prop} {d : D} (hc : ∀ c ∈ cs'.take cs.length, c ∈ cs ∨ c.loD cs.length = true) (hl : loD cs.length d = true) (q : Q d (cs'.take cs.length)) : FinD cs Q d cs' := .inr (.inl ⟨hl, hc, q⟩)
end
end DL
namespace DL
open PySem PySem.Spec PyProof.Rows L2
open Evl (Ex)

/-! ### a field that is there already -/
def ixF (f : Str) : List Str → Option Nat
  | [] => none
  | n :: ns => if n = f then some 0 else (ixF f ns).map (· + 1)
theorem putF_upd {f : Str} {v : V} : ∀ {gs : List (Str × V)} {i : Nat}, ixF f (gs.map (·.1)) = some i → (putF f v gs).map (·.1) = gs.map (·.1) ∧ (putF f v gs).map (·.2) = (gs.map (·.2)).set i v
  | [], _, h => by cases h
  | (g, w) :: gs, i, h => by
    have h' : (if g = f then some 0 else (ixF f (gs.map (·.1))).map (· + 1)) = some i := h
    have e : putF f v ((g, w) :: gs) = if g = f then (g, v) :: gs else (g, w) :: putF f v gs := rfl
    rw [e]
    by_cases q : g = f
    · rw [if_pos q] at h' ⊢
      cases h'
      exact ⟨rfl, rfl⟩
    · rw [if_neg q] at h' ⊢
      rw [Option.map_eq_some_iff] at h'
      obtain ⟨j, hj, rfl⟩ := h'
      obtain ⟨h1, h2⟩ := putF_upd (v := v) hj
      exact ⟨by rw [List.map_cons, h1]; rfl, by rw [List.map_cons, h2]; rfl⟩
theorem RAll.setAt {K : PySem.W.Frag} {W : Wd} {vs : List V} {ds : List D} {v : V} {d : D} (r : RAll K W vs ds) (r1 : R K W v d) (i : Nat) : RAll K W (vs.set i v) (ds.set i d) := RAll.set r1 i r
/-- a store to a field: what is left to show -/
def updF (C : Addr) (f : Str) (o v : D) (e : En) (P : En → Prop) : Prop := ∃ n ns xs i, o = .cell n ∧ e.cs[n]? = some (.ins C ns xs) ∧ ns.length < 900 ∧ ixF f ns = some i ∧ P { e with cs := e.cs.set n (.ins C ns (xs.set i v)) }
section
variable {K : PySem.W.Frag} {W W0 : Wd} {H : Hp} {σ : L2.St} {e : En} {C : Addr} {f : Str} {o d : D} {P : En → Prop} {w v : V}
theorem updF_ok (S : Sd K W H σ e) (ro : R K W w o) (rv : R K W v d) (h : updF C f o d e P) : ∃ a dx gs, w = .ref a ∧ H a = some (.ins C dx gs) ∧ gs.length < 1000 ∧ ∃ e', P e' ∧ Sd K W (upd H a (.ins C dx (putF f v gs))) σ e' := by
  obtain ⟨n, ns, xs, i, rfl, hc, hl, hi, p⟩ := h
  cases ro with
  | cell hm =>
    obtain ⟨dx, gs, h1, h2, h3⟩ := S.ok.cl _ _ _ hm hc
    have hgl : gs.length = ns.length := by rw [← h2, List.length_map]
    have hi' : ixF f (gs.map (·.1)) = some i := by rw [h2]; exact hi
    obtain ⟨k1, k2⟩ := putF_upd (v := v) hi'
    refine ⟨_, dx, gs, rfl, h1, by omega, _, p, S.ok.setC hm hc (fun z => nomatch z) ⟨dx, _, upd_same, by rw [k1, h2], ?_⟩, S.sl⟩
    rw [k2]
    exact h3.setAt rv i
end
def sFldU (C : Addr) (f : Str) (to tv : DE) : DS := fun P e => tv e fun v e1 => to e1 fun o e2 => updF C f o v e2 P.nx
def sFldA (C : Addr) (f : Str) (q : D → D → DE) (to tv : DE) : DS := fun P e => to e fun o e1 => ∃ ns xs x, insD e1.cs o = some (C, ns, xs) ∧ getF f ns xs = some x ∧ tv e1 fun y e2 => q x y e2 fun z e3 => updF C f o z e3 P.nx
/-- a target, by data -/
abbrev DG := D → En → (En → Prop) → Prop
def lG (K : PySem.W.Frag) (B : Bs) (t : DG) : TG := fun v σ H Q => ∃ W e d P, B.p W ∧ Sd K W H σ e ∧ R K W v d ∧ t d e P ∧ ∀ e' W' H' σ', P e' → W.le W' → Sd K W' H' σ' e' → Q σ' H'
abbrev DGs := List D → En → (En → Prop) → Prop
def lGs (K : PySem.W.Frag) (B : Bs) (t : DGs) : TGs := fun vs σ H Q => ∃ W e ds P, B.p W ∧ Sd K W H σ e ∧ RAll K W vs ds ∧ t ds e P ∧ ∀ e' W' H' σ', P e' → W.le W' → Sd K W' H' σ' e' → Q σ' H'
theorem PG.imp {X : Cx} {tg : Expr} {t t' : TG} (h : PG X tg t) (i : ∀ v σ H Q, t' v σ H Q → t v σ H Q) : PG X tg t' := ⟨fun pins s σ H v u Q I r w => h.run pins s σ H v u Q I r (i v σ H Q w)⟩
theorem PGs.imp {X : Cx} {tg : List Expr} {t t' : TGs} (h : PGs X tg t) (i : ∀ v σ H Q, t' v σ H Q → t v σ H Q) : PGs X tg t' := ⟨fun pins s σ H v u Q I r w => h.run pins s σ H v u Q I r (i v σ H Q w)⟩
def gN (i : Nat) : DG := fun d e P => P { e with sl := e.sl.set i (some d) }
def gF (C : Addr) (f : Str) (to : DE) : DG := fun d e P => to e fun o e1 => updF C f o d e1 P
def gZ : DGs := fun ds e P => ds = [] ∧ P e
def gC (t : DG) (u : DGs) : DGs := fun ds e P => ∃ x xs, ds = x :: xs ∧ t x e fun e1 => u xs e1 P
def gT (n : Nat) (u : DGs) : DG := fun d e P => ∃ xs, d = .tup xs ∧ xs.length = n ∧ u xs e P
def sAsgG (t : DE) (g : DG) : DS := fun P e => t e fun d e1 => g d e1 P.nx
/-- two ints added in place -/
def qAddI : D → D → DE := fun x y e P => ∃ i j, x = .int i ∧ y = .int j ∧ P (.int (i + j)) e
section
variable {X : Cx} {B : Bs} {o ex tg : Expr} {te tv to : DE} {C : Addr} {f : Str} {pos pos' tpos : Pos} {ta : TE}
theorem ds_fldU (c : Cls X.K C) (n : NoAttr X.K C f) (ho : PE X o (lE X.K B te)) (hv : PE X ex (lE X.K B tv)) (hs : swapsWith ex (some (.Attribute o f pos')) pos.line X.env = pure false := by rfl) :
    PS X (.Assign [.Attribute o f pos'] ex pos) (lS X.K B (sFldU C f te tv)) := PS.imp (ps_fld ho hv hs) fun E σ H h => by
  obtain ⟨W, e, P, bl, S, h, cv⟩ := lS_un h
  refine ⟨W, e, _, bl, S, h, fun d e1 W1 H1 v t1 l1 S1 r1 => ⟨W1, e1, _, B.up bl l1, S1, t1, fun ob e2 W2 H2 w t2 l2 S2 r2 => ?_⟩⟩
  obtain ⟨a, dx, gs, rfl, h1, h2, e', p, S'⟩ := updF_ok S2 r2 (R.mono l2 _ _ r1) t2
  exact ⟨a, C, dx, gs, rfl, h1, c, n, h2, cv.nx _ _ _ _ p (l1.tr l2) S'⟩
theorem ds_fldA {op : Operator} {rd : V → V → Hp → VK → Prop} {q : D → D → DE} (c : Cls X.K C) (n : NoAttr X.K C f) (ho : PE X o (lE X.K B te)) (hv : PE X ex (lE X.K B tv)) (hop : InOp X op rd) (hq : OpD X.K rd q) :
    PS X (.AugAssign (.Attribute o f tpos) op ex pos) (lS X.K B (sFldA C f q te tv)) := PS.imp (ps_fldaug ho hv hop) fun E σ H h => by
  obtain ⟨W, e, P, bl, S, h, cv⟩ := lS_un h
  refine ⟨W, e, _, bl, S, h, fun ob e1 W1 H1 w t1 l1 S1 r1 => ?_⟩
  obtain ⟨ns, xs, x, hi, hx, t1⟩ := t1
  obtain ⟨a, dx, gs, rfl, h1, h2, h3⟩ := S1.ok.ins r1 hi
  obtain ⟨v, hv', rv⟩ := RAll.fld h2 h3 hx
  refine ⟨a, C, dx, gs, v, rfl, h1, c, n, hv', W1, e1, _, B.up bl l1, S1, t1, fun y e2 W2 H2 u t2 l2 S2 r2 => ?_⟩
  refine hq W2 H2 σ e2 v u x y _ _ S2 (R.mono l2 _ _ rv) r2 t2 fun z e3 W3 H3 zv t3 l3 S3 r3 => ?_
  obtain ⟨a', dx', gs', ea, h1', h2', e', p, S'⟩ := updF_ok S3 (R.mono (l2.tr l3) _ _ r1) r3 t3
  cases ea
  exact ⟨dx', gs', h1', h2', cv.nx _ _ _ _ p ((l1.tr l2).tr l3) S'⟩
theorem dg_name {i : Nat} {x : Str} (hN : X.N.Nodup) (hi : X.N[i]? = some x) (hx : Loc X.env.scope x) (hf : X.fn x = true ∨ X.env.scope.names.lookup x = some .local := by first | exact .inl rfl | exact .inr rfl | assumption) : PG X (.Name x pos) (lG X.K B (gN i)) :=
  PG.imp (pg_name hN hi hx hf) fun v σ H Q ⟨W, e, d, P, bl, S, r, p, k⟩ => k _ W H _ p W.le_refl ⟨S.ok, S.sl.set r⟩
/-- the field of an instance, a target -/
def gFldV (K : PySem.W.Frag) (ta : TE) (f : Str) : TG := fun y σ H Q => ta σ H fun x H2 => ∃ a C dx fs, x = .ref a ∧ H2 a = some (.ins C dx fs) ∧ Cls K C ∧ NoAttr K C f ∧ fs.length < 1000 ∧ Q σ (upd H2 a (.ins C dx (putF f y fs)))
theorem pg_fld (ha : PE X o ta) (hs : ∀ v, assign (.Attribute o f pos) X.env v = (do
      let ov ← holding [v] (eval o X.env)
      standAt pos.atName
      holding [v, ov] (setAttr ov f v)
      release [v, ov] []) := by intro _; rfl) : PG X (.Attribute o f pos) (gFldV X.K ta f) := by
  refine ⟨fun pins s σ H v u Q I r h => ?_⟩
  rw [hs]
  refine wpAny_bind (wpAny_holding (thn (ha.run pins s σ H _ I h) fun ov s1 ⟨x, H1, I1, r1, q1⟩ => ?_))
  obtain ⟨a, C, dx, fs, rfl, ea, c, n, l, q⟩ := q1
  obtain rfl : ov = Value.ref a := r1
  refine wpAny_bind (wpAny_standAt (wpAny_bind (wpAny_holding ?_)))
  exact setattr_ok I1 ea c n l r fun s3 I3 => wpAny_release ⟨σ, _, I3, q⟩
theorem dg_fld (c : Cls X.K C) (n : NoAttr X.K C f) (ho : PE X o (lE X.K B to)) (hs : ∀ v, assign (.Attribute o f pos) X.env v = (do
      let ov ← holding [v] (eval o X.env)
      standAt pos.atName
      holding [v, ov] (setAttr ov f v)
      release [v, ov] []) := by intro _; rfl) : PG X (.Attribute o f pos) (lG X.K B (gF C f to)) :=
  PG.imp (pg_fld ho hs) fun v σ H Q ⟨W, e, d, P, bl, S, r, t, k⟩ => ⟨W, e, _, bl, S, t, fun ob e1 W1 H1 w t1 l1 S1 r1 => by
    obtain ⟨a, dx, gs, rfl, h1, h2, e', p, S'⟩ := updF_ok S1 r1 (R.mono l1 _ _ r) t1
    exact ⟨a, C, dx, gs, rfl, h1, c, n, h2, k _ _ _ _ p l1 S'⟩⟩
theorem dg_nil : PGs X [] (lGs X.K B gZ) := PGs.imp pgs_nil fun vs σ H Q ⟨W, e, ds, P, bl, S, r, ⟨hd, p⟩, k⟩ => by
  subst hd
  cases r
  exact ⟨rfl, k _ _ _ _ p W.le_refl S⟩
theorem dg_cons {e0 : Expr} {es : List Expr} {t : DG} {u : DGs} (h1 : PG X e0 (lG X.K B t)) (h2 : PGs X es (lGs X.K B u))
    (hs : (assignEach (e0 :: es) X.env).map (·.2) = assign e0 X.env :: (assignEach es X.env).map (·.2) := by rfl) : PGs X (e0 :: es) (lGs X.K B (gC t u)) :=
  PGs.imp (pgs_cons h1 h2 hs) fun vs σ H Q ⟨W, e, ds, P, bl, S, r, ⟨x, xs, hd, p⟩, k⟩ => by
    subst hd
    cases r with
    | cons r1 r2 => exact ⟨_, _, rfl, W, e, _, _, bl, S, r1, p, fun e' W' H' σ' p' l' S' => ⟨W', e', _, _, B.up bl l', S', RAll.mono l' _ _ r2, p', fun e2 W2 H2 σ2 p2 l2 S2 => k _ _ _ _ p2 (l'.tr l2) S2⟩⟩
theorem dg_tup {es : List Expr} {k : Nat} {u : DGs} {n : Nat} (hc : X.calm = true) (h : PGs X es (lGs X.K B u))
    (hn : (assignEach es X.env).length = n := by rfl) (hst : (assignEach es X.env).findIdx? (·.1) = none := by rfl) : PG X (.Tuple es k pos) (lG X.K B (gT n u)) :=
  PG.imp (pg_tup hc h hn hst) fun v σ H Q ⟨W, e, d, P, bl, S, r, ⟨xs, hd, hl, p⟩, kk⟩ => by
    subst hd
    cases r with
    | tup h1 h2 => exact ⟨_, _, rfl, Evl.ex_t S.ok.ex h1, by rw [h2.length]; exact hl, W, e, _, _, bl, S, h2, p, kk⟩
theorem ds_asgG {g : DG} (he : PE X ex (lE X.K B te)) (hg : PG X tg (lG X.K B g)) (hs : swapsWithSole [tg] ex pos.line X.env = pure false := by rfl) (hw : swappedStores [tg] ex X.env = pure none := by rfl)
    (h1 : (assignEach [tg] X.env).map (·.2) = [assign tg X.env] := by rfl) : PS X (.Assign [tg] ex pos) (lS X.K B (sAsgG te g)) := PS.imp (ps_asg he hg hs hw h1) fun E σ H h => by
  obtain ⟨W, e, P, bl, S, h, c⟩ := lS_un h
  exact ⟨W, e, _, bl, S, h, fun d e1 W1 H1 v t1 l1 S1 r1 => ⟨W1, e1, d, _, B.up bl l1, S1, r1, t1, fun e' W' H' σ' p l S' => c.nx _ _ _ _ p (l1.tr l) S'⟩⟩
theorem od_inadd {K : PySem.W.Frag} : OpD K rAdd qAddI := fun W H σ e x y d1 d2 P Q S r1 r2 t k => by
  obtain ⟨i, j, rfl, rfl, p⟩ := t
  exact ⟨i, j, r1.int_inv, r2.int_inv, k _ _ _ _ _ p W.le_refl S (.int _)⟩
end
end DL
namespace DL
open PySem PySem.Spec PyProof.Rows L2
open Evl (Ex)

/-! ### operators of own classes -/
section
variable {K : PySem.W.Frag} {C C2 : Addr} {nm : String}
theorem NoSl.looks {M : Model} {h : Heap} (n : NoSl K C nm) (X : K.In h) : PySem.W.Looks M h (fillsNumberSlot (.ref C) nm) false := by
  intro A Q E s k q
  obtain ⟨cd, hc, hm⟩ := n.cd
  unfold fillsNumberSlot
  refine wpAny_bind ((PySem.W.looks_clsIn X hc).andThen (f := fun cd => pure cd.mro) .now A _ E s k ?_)
  rw [hm, List.anyM_cons]
  refine wpAny_bind ?_
  show wpAny M A (List.anyM _ [PySem.dunder nm, dunderR nm]) _ _ _
  rw [List.anyM_cons]
  refine wpAny_bind (wpAny_bind (PySem.W.looks_findIn X n.a A _ E s k ?_))
  dsimp only
  refine wpAny_pure ?_
  rw [if_neg (show ¬ (false = true) by simp), List.anyM_cons]
  refine wpAny_bind (wpAny_bind (PySem.W.looks_findIn X n.b A _ E s k ?_))
  dsimp only
  refine wpAny_pure ?_
  rw [if_neg (show ¬ (false = true) by simp)]
  refine wpAny_pure ?_
  rw [if_neg (show ¬ (false = true) by simp), List.anyM_cons]
  refine wpAny_bind (wpAny_bind (PySem.W.looks_findIn X n.oa A _ E s k (wpAny_bind (PySem.W.looks_findIn X n.ob A _ E s k ?_))))
  refine wpAny_pure ?_
  simp only [Option.isSome_none, Bool.false_and, Bool.or_self]
  rw [if_neg (show ¬ (false = true) by simp)]
  exact wpAny_pure q
end
section
variable {prog : Program} {w : World} {A : Around} {E : Value → Shared → Prop} {s : Shared} {K : PySem.W.Frag} {x C C2 L f : Addr} {h₀ : Heap} {m : Str → Option Value} {ox : Obj} {od : Option Obj}
open PySem.W in
/-- an operator of an own class, the other one of a class that has none -/
theorem binop_two {op : Operator} {b : Value} {Q : Value → Shared → Prop} (F : Fr h₀ L s.heap m) (X₀ : K.In h₀) (I : InstAt s.heap x ox C od) (hb : Looks (model prog w) s.heap (typeOf b) (.ref C2)) (n2 : NoSl K C2 op.info.2) (hc : selfFirst K C = true)
    (hs : findIn K (.ref C) (PySem.dunder op.info.2) = some (some (.ref f))) (hf : isFn K (.ref f) = true)
    (h : wpAny (model prog w) A (call (.ref f) [.ref x, b]) (PySem.W.CmpBack Q) E s) : wpAny (model prog w) A (binaryOp op (.ref x) b) Q E s := by
  have X := X₀.keeps F.keep
  obtain ⟨cd, hcd, hm⟩ := any_some hc
  obtain ⟨rest, hm⟩ : ∃ rest, cd.mro = .ref C :: rest := by
    cases q : cd.mro with
    | nil => rw [q] at hm; cases hm
    | cons a r => rw [q] at hm; exact ⟨r, by rw [List.head?_cons] at hm; cases (beq_iff_eq.mp hm); rfl⟩
  by_cases hcc : C = C2
  · subst hcc
    exact binop_K F X₀ I hb hc hs hf h
  have hne : (Value.ref C == Value.ref C2) = false := beq_eq_false_iff_ne.mpr fun e => hcc (by cases e; rfl)
  unfold binaryOp
  refine wpAny_holding (wpAny_bind ?_)
  unfold binaryOp1
  refine wpAny_bind (I.type.here (wpAny_bind (hb.here (wpAny_bind ((fills_K X hcd hm hs).here ?_)))))
  simp only [hne, Bool.false_eq_true, if_false]
  refine wpAny_bind ((n2.looks X).here ?_)
  simp only [Bool.and_false, Bool.false_eq_true, if_false, Bool.false_and]
  refine wpAny_bind (wpAny_pure ?_)
  simp only [Bool.and_false, Bool.false_eq_true, if_false, Bool.false_and]
  refine wpAny_bind (m := tryMethod (.ref x) _ b) ?_
  unfold tryMethod
  refine wpAny_bind (special_fn X I hs (beq_iff_eq.mp hf) (wpAny_mono h (fun v s' hv => ?_) fun _ _ e => e))
  cases v <;> first | exact hv.elim | exact wpAny_pure (wpAny_pure (wpAny_pure hv))
end
/-- a call of two values, the second one an instance of C2 -/
def rTwo (K : PySem.W.Frag) (C C2 : Addr) (sp : Spc) : R2 := fun x y H Q => ∃ a dx gs b dy gt, x = .ref a ∧ H a = some (.ins C dx gs) ∧ y = .ref b ∧ H b = some (.ins C2 dy gt) ∧ spD K sp [.ref a, .ref b] H Q E0
def qTwo (C C2 : Addr) (sp : Spc) : D → D → DE := fun d y e P => (∃ ns xs, insD e.cs d = some (C, ns, xs)) ∧ (∃ ns xs, insD e.cs y = some (C2, ns, xs)) ∧ sp [d, y] e.cs fun r cs' => P r { e with cs := cs' }
theorem od_two {K : PySem.W.Frag} {C C2 : Addr} {sp : Spc} : OpD K (rTwo K C C2 sp) (qTwo C C2 sp) := fun W H σ e x y d1 d2 P Q S r1 r2 ⟨⟨n1, x1, i1⟩, ⟨n2, x2, i2⟩, t⟩ k => by
  obtain ⟨a, dx, gs, rfl, h1, h2, h3⟩ := S.ok.ins r1 i1
  obtain ⟨b, dy, gt, rfl, h1', h2', h3'⟩ := S.ok.ins r2 i2
  exact ⟨a, dx, gs, b, dy, gt, rfl, h1, rfl, h1', W, e.cs, [d1, d2], _, S.ok, .cons r1 (.cons r2 .nil), t, fun d cs' W' H' v p l ok r' => k _ _ _ _ _ p l ⟨ok, S.sl.mono l⟩ r'⟩
section
variable {X : Cx} {C C2 fn : Addr} {k : Nat} {ps : List Str} {sp : Spc}
theorem cmp_eq {op : CmpOp} (h1 : op ≠ .Is) (h2 : op ≠ .IsNot) (h3 : op ≠ .In) (h4 : op ≠ .NotIn) (a b : Value) : compareOp op a b = richCompare op a b := by
  cases op <;> first | rfl | exact absurd rfl ‹_›
theorem op_cmpO {op : CmpOp} (G : Good X.prog X.w X.K X.mg X.base k fn ps sp) (hr : Room k X.A) (hu : X.A.units < cLine) (sm : Sm X.K C (cmpInfo op).2.1 fn) (hop : ∀ a b, compareOp op a b = richCompare op a b := by intros; rfl) : OpR X (compareOp op) (rTwo X.K C C sp) := by
  rintro pins s σ H x y v u Q I rx ry ⟨a, dx, gs, b, dy, gt, rfl, ha, rfl, hb, h⟩
  obtain ⟨fd, F, bi, kp⟩ := G
  cases (show v = Value.ref a from rx)
  cases (show u = Value.ref b from ry)
  obtain ⟨od, J⟩ := Inv.inst I ha
  obtain ⟨od2, J2⟩ := Inv.inst I hb
  obtain ⟨m, hF⟩ := I.fr
  rw [hop]
  refine PySem.W.cmp_K hu hF I.ok.mod.kin J J2.type (by unfold PySem.W.notFirst; simp) sm.at_ sm.fn (wpAny_mono (run_in (us := [.ref a, .ref b]) (vs := [V.ref a, V.ref b]) F bi hr I.env0 I (.cons rfl (.cons rfl .nil)) h) (fun v s' z => ?_) fun _ _ z => z)
  obtain ⟨v', H', I', rv, q⟩ := z
  exact RelV.cmp rv (P := EP X pins σ Q) ⟨v', H', I', rv, q⟩
theorem op_binO {op : Operator} (G : Good X.prog X.w X.K X.mg X.base k fn ps sp) (hr : Room k X.A) (sm : Sm X.K C (PySem.dunder op.info.2) fn) (hc : PySem.W.selfFirst X.K C = true) : OpR X (binaryOp op) (rTwo X.K C C sp) := by
  rintro pins s σ H x y v u Q I rx ry ⟨a, dx, gs, b, dy, gt, rfl, ha, rfl, hb, h⟩
  obtain ⟨fd, F, bi, kp⟩ := G
  cases (show v = Value.ref a from rx)
  cases (show u = Value.ref b from ry)
  obtain ⟨od, J⟩ := Inv.inst I ha
  obtain ⟨od2, J2⟩ := Inv.inst I hb
  obtain ⟨m, hF⟩ := I.fr
  refine PySem.W.binop_K hF I.ok.mod.kin J J2.type hc sm.at_ sm.fn (wpAny_mono (run_in (us := [.ref a, .ref b]) (vs := [V.ref a, V.ref b]) F bi hr I.env0 I (.cons rfl (.cons rfl .nil)) h) (fun v s' z => ?_) fun _ _ z => z)
  obtain ⟨v', H', I', rv, q⟩ := z
  exact RelV.cmp rv (P := EP X pins σ Q) ⟨v', H', I', rv, q⟩
theorem op_binT {op : Operator} (G : Good X.prog X.w X.K X.mg X.base k fn ps sp) (hr : Room k X.A) (sm : Sm X.K C (PySem.dunder op.info.2) fn) (hc : PySem.W.selfFirst X.K C = true) (n2 : NoSl X.K C2 op.info.2) : OpR X (binaryOp op) (rTwo X.K C C2 sp) := by
  rintro pins s σ H x y v u Q I rx ry ⟨a, dx, gs, b, dy, gt, rfl, ha, rfl, hb, h⟩
  obtain ⟨fd, F, bi, kp⟩ := G
  cases (show v = Value.ref a from rx)
  cases (show u = Value.ref b from ry)
  obtain ⟨od, J⟩ := Inv.inst I ha
  obtain ⟨od2, J2⟩ := Inv.inst I hb
  obtain ⟨m, hF⟩ := I.fr
  refine binop_two hF I.ok.mod.kin J J2.type n2 hc sm.at_ sm.fn (wpAny_mono (run_in (us := [.ref a, .ref b]) (vs := [V.ref a, V.ref b]) F bi hr I.env0 I (.cons rfl (.cons rfl .nil)) h) (fun v s' z => ?_) fun _ _ z => z)
  obtain ⟨v', H', I', rv, q⟩ := z
  exact RelV.cmp rv (P := EP X pins σ Q) ⟨v', H', I', rv, q⟩
end

/-! ### o[i] = v of an own class -/
section
variable {X : Cx} {B : Bs} {C fn : Addr} {k : Nat} {ps : List Str} {sp : Spc} {o i ex : Expr} {to ti tv : DE} {pos p2 : Pos}
def rSetO (K : PySem.W.Frag) (C : Addr) (sp : Spc) : TSet := fun x i v H Q => ∃ a dx gs, x = .ref a ∧ H a = some (.ins C dx gs) ∧ spD K sp [.ref a, i, v] H (fun _ H' => Q H') E0
theorem set_own (G : Good X.prog X.w X.K X.mg X.base k fn ps sp) (hr : Room k X.A) (sm : Sm X.K C "__setitem__" fn) (hq : PySem.W.noSeq X.K C = true) : PSet X (rSetO X.K C sp) := by
  rintro pins s σ H x i v ov iv u Q I rx ri rv ⟨a, dx, gs, rfl, ha, h⟩
  obtain ⟨fd, F, bi, kp⟩ := G
  cases (show ov = Value.ref a from rx)
  obtain ⟨od, J⟩ := Inv.inst I ha
  obtain ⟨m, hF⟩ := I.fr
  have KX := I.kIn
  unfold setItem sequenceKey callSpecial?
  refine wpAny_holding (wpAny_bind (wpAny_bind (J.type.here ?_)))
  refine wpAny_bind ((PySem.W.anyM_none KX hq).here ?_)
  rw [if_pos (show (!false) = true from rfl)]
  refine wpAny_pure (wpAny_bind ?_)
  refine wpAny_mono (PySem.W.special_fn (Q := fun r s' => r ≠ none ∧ ∃ H', Inv X pins σ H' s' ∧ Q H') KX J sm.at_ (beq_iff_eq.mp sm.fn) (wpAny_mono (run_in (us := [.ref a, iv, u]) (vs := [V.ref a, i, v]) F bi hr I.env0 I (.cons rfl (.cons ri (.cons rv .nil))) h) (fun v s' z => ?_) fun _ _ z => z)) (fun r s' z => ?_) fun _ _ z => z
  · obtain ⟨v', H', I', rv, q⟩ := z
    exact ⟨(fun z => nomatch z), H', I', q⟩
  · obtain ⟨h1, H', I', q⟩ := z
    cases r with
    | none => exact absurd rfl h1
    | some _ => exact wpAny_pure ⟨H', I', q⟩
def sSetO (C : Addr) (sp : Spc) (tv to ti : DE) : DS := fun P e => tv e fun v e1 => to e1 fun o e2 => ti e2 fun i e3 => (∃ ns xs, insD e3.cs o = some (C, ns, xs)) ∧ sp [o, i, v] e3.cs fun _ cs' => P.nx { e3 with cs := cs' }
theorem ds_setO (G : Good X.prog X.w X.K X.mg X.base k fn ps sp) (hr : Room k X.A) (sm : Sm X.K C "__setitem__" fn) (hq : PySem.W.noSeq X.K C = true) (hv : PE X ex (lE X.K B tv)) (ho : PE X o (lE X.K B to)) (hi : PE X i (lE X.K B ti))
    (ha : ∀ v, assign (.Subscript o i p2) X.env v = (do
      let ov ← holding [v] (eval o X.env)
      let iv ← holding [v, ov] (eval i X.env)
      standAt p2
      holding [v, ov, iv] (setItem ov iv v)
      release [v, ov, iv] []) := by intro _; rfl)
    (hs : swapsWithSole [.Subscript o i p2] ex pos.line X.env = pure false := by rfl) (hw : swappedStores [.Subscript o i p2] ex X.env = pure none := by rfl)
    (h1 : (assignEach [.Subscript o i p2] X.env).map (·.2) = [assign (.Subscript o i p2) X.env] := by rfl) : PS X (.Assign [.Subscript o i p2] ex pos) (lS X.K B (sSetO C sp tv to ti)) := PS.imp (ps_asg hv (pg_sub ho hi (set_own G hr sm hq) ha) hs hw h1) fun E σ H h => by
  obtain ⟨W, e, P, bl, S, h, c⟩ := lS_un h
  refine ⟨W, e, _, bl, S, h, fun d e1 W1 H1 v t1 l1 S1 r1 => ⟨W1, e1, _, B.up bl l1, S1, t1, fun ob e2 W2 H2 w t2 l2 S2 r2 => ⟨W2, e2, _, B.up bl (l1.tr l2), S2, t2, fun ix e3 W3 H3 x t3 l3 S3 r3 => ?_⟩⟩⟩
  obtain ⟨⟨ns, xs, hi⟩, t3⟩ := t3
  have r23 := R.mono l3 _ _ r2
  obtain ⟨a, dx, gs, rfl, h1', h2', h3'⟩ := S3.ok.ins r23 hi
  exact ⟨a, dx, gs, rfl, h1', W3, e3.cs, [ob, ix, d], _, S3.ok, .cons r23 (.cons r3 (.cons (R.mono (l2.tr l3) _ _ r1) .nil)), t3, fun d' cs' W' H' v' p l ok r' => c.nx _ _ _ _ p (((l1.tr l2).tr l3).tr l) ⟨ok, S3.sl.mono l⟩⟩
end

/-! ### isinstance with an own class -/
def qIsiC (C : Addr) : List D → DE
  | [d, .raw (.ref C')] => fun e P => C' = C ∧ (∃ ns xs, insD e.cs d = some (C, ns, xs)) ∧ P (.bl true) e
  | _ => fun _ _ => False
theorem cd_isiC {K : PySem.W.Frag} {C : Addr} : CallD K (fun xs H Q => ∃ a dx fs, xs = [.ref a, .ref C] ∧ H a = some (.ins C dx fs) ∧ Q (.bl true) H) (qIsiC C) := by
  intro W H σ e vs ds P Q S r t k
  unfold qIsiC at t
  split at t
  · obtain ⟨v, v2, rfl, r1, r2⟩ := r.two
    obtain ⟨rfl, ⟨ns, xs, hi⟩, p⟩ := t
    obtain ⟨a, dx, gs, rfl, h1, _⟩ := S.ok.ins r1 hi
    cases r2
    exact ⟨a, dx, gs, rfl, h1, k _ _ _ _ _ p W.le_refl S (.bl _)⟩
  · exact t.elim
theorem de_cls {X : Cx} {B : Bs} {x : Str} {C : Addr} {pos : Pos} (hg : Gl X x) (hm : X.mg x = some (.ref C)) (hd : (x == ("__debug__" : Str)) = false := by decide) : PE X (.Name x pos) (lE X.K B (eC (.raw (.ref C)))) :=
  de_glob hg hm (show RelV (.ref C) (.ref C) from rfl) (fun _ => .raw _) hd
end DL
namespace DL
open PySem PySem.Spec PyProof.Rows L2
open Evl (Ex)

/-! ### in, not in -/
def flD : D → Bool
  | .non => true
  | .bl _ => true
  | .int _ => true
  | .str _ => true
  | _ => false
def eqF : D → D → Bool
  | .non, .non => true
  | .bl a, .bl b => a == b
  | .bl a, .int b => (if a then 1 else 0) == b
  | .int a, .bl b => a == (if b then 1 else 0)
  | .int a, .int b => a == b
  | .str a, .str b => a == b
  | _, _ => false
def inF (x : D) (xs : List D) : Bool := xs.any fun y => eqF y x
section
variable {K : PySem.W.Frag} {W : Wd}
theorem R.flat {v : V} {d : D} (r : R K W v d) (h : flD d = true) : flatV v = true := by
  cases d <;> first | (cases h; done) | (cases r; rfl)
theorem R.eqv {v w : V} {d d' : D} (r : R K W v d) (r' : R K W w d') (h : flD d = true) (h' : flD d' = true) : eqV v w = eqF d d' := by
  cases d <;> first | (cases h; done) | (cases d' <;> first | (cases h'; done) | (cases r; cases r'; rfl))
theorem RAll.flat : ∀ {vs : List V} {ds : List D}, RAll K W vs ds → ds.all flD = true → vs.all flatV = true
  | _, _, .nil, _ => rfl
  | _, _, .cons r t, h => by
    rw [List.all_cons, Bool.and_eq_true] at h
    rw [List.all_cons, r.flat h.1, RAll.flat t h.2] <;> rfl
theorem RAll.inv {x : V} {d : D} (r : R K W x d) (h : flD d = true) : ∀ {vs : List V} {ds : List D}, RAll K W vs ds → ds.all flD = true → inV x vs = inF d ds
  | _, _, .nil, _ => rfl
  | _, _, .cons r1 t, h1 => by
    rw [List.all_cons, Bool.and_eq_true] at h1
    have ih := RAll.inv r h t h1.2
    unfold inV inF at ih ⊢
    rw [List.any_cons, List.any_cons, R.eqv r1 r h1.1 h, ih]
end
def qIn (neg : Bool) : D → D → DE := fun x y e P => (flD x = true ∧ ∃ xs, seqD e.cs y = some xs ∧ xs.all flD = true ∧ P (.bl (if neg then !inF x xs else inF x xs)) e) ∨
  ∃ ys, drf e.cs y = .lst ys ∧ shp (drf e.cs x) = true ∧ shp (.lst ys) = true ∧ P (.bl (if neg then !((toPs ys).any fun z => PyData.eqv z (toP (drf e.cs x))) else (toPs ys).any fun z => PyData.eqv z (toP (drf e.cs x)))) e
def rInA (K : PySem.W.Frag) (neg : Bool) : R2 := fun x y H Q => rIn K neg x y H Q ∨ (if neg then rNotInD K else rInD K) x y H Q
section
variable {X : Cx} {K : PySem.W.Frag}
theorem op_inA (hu : X.A.units + 65 < cLine) : OpR X (compareOp .In) (rInA X.K false) := op_in_seq.or (op_inD hu)
theorem op_notInA (hu : X.A.units + 65 < cLine) : OpR X (compareOp .NotIn) (rInA X.K true) := op_notIn_seq.or (op_notInD hu)
theorem od_in {neg : Bool} : OpD K (rInA K neg) (qIn neg) := by
  intro W H σ e x y d1 d2 P Q S r1 r2 t k
  rcases t with ⟨h1, xs, h2, h3, t⟩ | ⟨ys, h1, h2, h3, t⟩
  · obtain ⟨a, vs, rfl, h4, h5⟩ := S.ok.seq r2 h2
    refine .inl ⟨a, vs, rfl, h4, r1.flat h1, h5.flat h3, ?_⟩
    have := k _ _ _ _ (.bl (if neg then !inF d1 xs else inF d1 xs)) t W.le_refl S (.bl _)
    rw [RAll.inv r1 h1 h5 h3]
    exact this
  · obtain ⟨o1, s1⟩ := shp_and h2
    obtain ⟨o2, s2⟩ := shp_and h3
    have hx := S.ok.dp r1 o1
    have hy := S.ok.dp r2 (by rw [h1]; exact o2)
    rw [h1] at hy
    cases neg with
    | false => exact .inr ⟨_, _, hx, hy, s1, s2, k _ _ _ _ _ t W.le_refl S (.bl _)⟩
    | true => exact .inr ⟨_, _, hx, hy, s1, s2, k _ _ _ _ _ t W.le_refl S (.bl _)⟩
end
theorem units5 {k : Nat} {A : Around} (r : Room k A) : A.units + 65 < cLine := by have := r.un; omega
end DL
namespace DL
open PySem PySem.Spec PyProof.Rows L2
open Evl (Ex)

/-! ### enumerate, zip -/
/-- the list at a stays ds as long as G -/
def Stay (K : PySem.W.Frag) (W : Wd) (a : Addr) (G : List Cel → Prop) (ds : List D) : Prop := ∀ W' H σ e, W.sub W' → Sd K W' H σ e → G e.cs → ∃ vs, SqL K H a vs ∧ RAll K W' vs ds
def itL (d : D) (e : En) (P : List D → (List Cel → Prop) → En → Prop) : Prop :=
  (∃ xs, fixL d = some xs ∧ P xs anyC e) ∨ ∃ n xs, d = .cell n ∧ e.cs[n]? = some (.lst xs) ∧ P xs (fun cs => cs[n]? = some (.lst xs)) e
theorem v_itLF {d : D} {e : En} {P : List D → (List Cel → Prop) → En → Prop} (h : ∃ xs, fixL d = some xs ∧ P xs anyC e) : itL d e P := .inl h
theorem v_itLC {n : Nat} {e : En} {P : List D → (List Cel → Prop) → En → Prop} (h : ∃ xs, e.cs[n]? = some (.lst xs) ∧ P xs (fun cs => cs[n]? = some (.lst xs)) e) : itL (.cell n) e P := let ⟨xs, h1, h2⟩ := h; .inr ⟨n, xs, rfl, h1, h2⟩
section
variable {K : PySem.W.Frag} {W : Wd} {H : Hp} {σ : L2.St} {e : En}
theorem itL_stay {d : D} {v : V} {P : List D → (List Cel → Prop) → En → Prop} (S : Sd K W H σ e) (r : R K W v d) (h : itL d e P) : ∃ a xs G, v = .ref a ∧ (∃ vs, SqL K H a vs ∧ RAll K W vs xs) ∧ Stay K W a G xs ∧ P xs G e := by
  rcases h with ⟨xs, hx, p⟩ | ⟨n, xs, rfl, hc, p⟩
  · cases r <;> simp only [fixL] at hx <;> cases hx
    · rename_i a vs h1 h2
      exact ⟨a, _, _, rfl, ⟨vs, SqL.of (S.ok.ex _ _ h1), h2⟩, fun W' H' σ' e' l S' _ => ⟨vs, SqL.of (S'.ok.ex _ _ (l.1 _ _ h1)), RAll.mono' l _ _ h2⟩, p⟩
    · rename_i a vs h1 h2
      exact ⟨a, _, _, rfl, ⟨vs, Evl.ex_l S.ok.ex h1, h2⟩, fun W' H' σ' e' l S' _ => ⟨vs, Evl.ex_l (l.1.trans S'.ok.ex) h1, RAll.mono' l _ _ h2⟩, p⟩
  · cases r with
    | cell hm =>
      obtain ⟨vs, h1, h2⟩ := S.ok.cellL hm hc
      refine ⟨_, xs, _, rfl, ⟨vs, SqL.of h1, h2⟩, fun W' H' σ' e' l S' g => ?_, p⟩
      obtain ⟨more, e2⟩ := l.2
      have := (List.getElem?_eq_some_iff.mp hm).1
      obtain ⟨vs', h1', h2'⟩ := S'.ok.cellL (show W'.m[n]? = some _ by rw [e2, List.getElem?_append_left this]; exact hm) g
      exact ⟨vs', SqL.of h1', h2'⟩
def enumD : Nat → List D → List D
  | _, [] => []
  | k, x :: xs => .tup [.int (k : Int), x] :: enumD (k + 1) xs
theorem enumD_len : ∀ (k : Nat) (xs : List D), (enumD k xs).length = xs.length
  | _, [] => rfl
  | k, x :: xs => congrArg (· + 1) (enumD_len (k + 1) xs)
theorem enumD_get {d : D} : ∀ {k : Nat} {xs : List D} {i : Nat}, (enumD k xs)[i]? = some d → ∃ x, xs[i]? = some x ∧ d = .tup [.int ((k + i : Nat) : Int), x]
  | _, [], _, h => by simp [enumD] at h
  | k, x :: xs, 0, h => by
    simp [enumD] at h
    exact ⟨x, by simp, h.symm⟩
  | k, x :: xs, i + 1, h => by
    have h' : (enumD (k + 1) xs)[i]? = some d := by simpa [enumD] using h
    obtain ⟨y, h1, h2⟩ := enumD_get h'
    exact ⟨y, by simpa using h1, by rw [h2, show k + 1 + i = k + (i + 1) by omega]⟩
def zipD : List D → List D → List D
  | x :: xs, y :: ys => .tup [x, y] :: zipD xs ys
  | _, _ => []
theorem zipD_len : ∀ xs ys : List D, (zipD xs ys).length = min xs.length ys.length
  | [], _ => by simp [zipD]
  | _ :: _, [] => by simp [zipD]
  | x :: xs, y :: ys => by
    have := zipD_len xs ys
    simp only [zipD, List.length_cons]
    omega
theorem zipD_get {d : D} : ∀ {xs ys : List D} {i : Nat}, (zipD xs ys)[i]? = some d → ∃ x y, xs[i]? = some x ∧ ys[i]? = some y ∧ d = .tup [x, y]
  | [], _, _, h => by simp [zipD] at h
  | _ :: _, [], _, h => by simp [zipD] at h
  | x :: xs, y :: ys, 0, h => by
    simp [zipD] at h
    exact ⟨x, y, by simp, by simp, h.symm⟩
  | x :: xs, y :: ys, i + 1, h => by
    have h' : (zipD xs ys)[i]? = some d := by simpa [zipD] using h
    obtain ⟨a, b, h1, h2, h3⟩ := zipD_get h'
    exact ⟨a, b, by simpa using h1, by simpa using h2, h3⟩
theorem new2 (S : Sd K W H σ e) {T : Addr} {x y : V} {a b : D} (hT : H T = none) (r1 : R K W x a) (r2 : R K W y b) : ∃ W', W.le W' ∧ Sd K W' (upd H T (.tup [x, y])) σ e ∧ R K W' (.ref T) (.tup [a, b]) := by
  obtain ⟨ok, l⟩ := S.ok.newF (o := .tup [x, y]) hT
  exact ⟨_, l, ⟨ok, S.sl.mono l⟩, .tup (SqT.of upd_same) (.cons (R.mono l _ _ r1) (.cons (R.mono l _ _ r2) .nil))⟩
theorem wk_enum {a : Addr} {G : List Cel → Prop} {ds : List D} (s : Stay K W a G ds) : Wk K W (Ite K a) G (enumD 0 ds) where
  go := fun i W' H σ e l S g hi => by
    obtain ⟨vs, h1, h2⟩ := s W' H σ e l S g
    rw [enumD_len] at hi
    have hi' : i < vs.length := by rw [h2.length]; exact hi
    exact ⟨vs, vs[i], h1, by simp [hi']⟩
  yld := fun i W' H σ e x H' d l S g hd y => by
    obtain ⟨vs, h1, h2⟩ := s W' H σ e l S g
    obtain ⟨T, x', rfl, hT, rfl, y⟩ := y
    obtain ⟨z, hz, rfl⟩ := enumD_get hd
    obtain ⟨v, hv, rv⟩ := h2.get hz
    have e1 := y vs h1
    rw [hv] at e1
    cases e1
    rw [Nat.zero_add]
    exact new2 S hT (.int _) rv
  stop := fun i W' H σ e l S g hi => by
    obtain ⟨vs, h1, h2⟩ := s W' H σ e l S g
    rw [enumD_len] at hi
    exact ⟨vs, h1, by rw [h2.length]; exact hi⟩
theorem wk_zip {a b : Addr} {G G' : List Cel → Prop} {ds ds' : List D} (s : Stay K W a G ds) (s' : Stay K W b G' ds') : Wk K W (Itz K a b) (fun cs => G cs ∧ G' cs) (zipD ds ds') where
  go := fun i W' H σ e l S g hi => by
    obtain ⟨vs, h1, h2⟩ := s W' H σ e l S g.1
    obtain ⟨us, h3, h4⟩ := s' W' H σ e l S g.2
    rw [zipD_len] at hi
    have hi1 : i < vs.length := by rw [h2.length]; omega
    have hi2 : i < us.length := by rw [h4.length]; omega
    exact ⟨vs, us, vs[i], us[i], h1, h3, by simp [hi1], by simp [hi2]⟩
  yld := fun i W' H σ e x H' d l S g hd y => by
    obtain ⟨vs, h1, h2⟩ := s W' H σ e l S g.1
    obtain ⟨us, h3, h4⟩ := s' W' H σ e l S g.2
    obtain ⟨T, x', y', rfl, hT, rfl, q1, q2⟩ := y
    obtain ⟨z, z', hz, hz', rfl⟩ := zipD_get hd
    obtain ⟨v, hv, rv⟩ := h2.get hz
    obtain ⟨u, hu, ru⟩ := h4.get hz'
    have e1 := q1 vs h1
    rw [hv] at e1
    cases e1
    have e2 := q2 us h3
    rw [hu] at e2
    cases e2
    exact new2 S hT rv ru
  stop := fun i W' H σ e l S g hi => by
    obtain ⟨vs, h1, h2⟩ := s W' H σ e l S g.1
    obtain ⟨us, h3, h4⟩ := s' W' H σ e l S g.2
    rw [zipD_len] at hi
    exact ⟨vs, us, h1, h3, by rw [h2.length, h4.length]; omega⟩
theorem wk_zipT {a b : Addr} {vs us : List V} {ds ds' : List D} (h1 : SqT K W.F a vs) (h2 : RAll K W vs ds) (h3 : SqT K W.F b us) (h4 : RAll K W us ds') : Wk K W (RZ.ItzT K a b) anyC (zipD ds ds') where
  go := fun i W' H σ e l S g hi => by
    rw [zipD_len] at hi
    have hi1 : i < vs.length := by rw [h2.length]; omega
    have hi2 : i < us.length := by rw [h4.length]; omega
    exact ⟨vs, us, vs[i], us[i], Evl.ex_t (l.1.trans S.ok.ex) h1, Evl.ex_t (l.1.trans S.ok.ex) h3, by simp [hi1], by simp [hi2]⟩
  yld := fun i W' H σ e x H' d l S g hd y => by
    obtain ⟨T, x', y', rfl, hT, rfl, q1, q2⟩ := y
    obtain ⟨z, z', hz, hz', rfl⟩ := zipD_get hd
    obtain ⟨v, hv, rv⟩ := h2.get hz
    obtain ⟨u, hu, ru⟩ := h4.get hz'
    have e1 := q1 vs (Evl.ex_t (l.1.trans S.ok.ex) h1)
    rw [hv] at e1
    cases e1
    have e2 := q2 us (Evl.ex_t (l.1.trans S.ok.ex) h3)
    rw [hu] at e2
    cases e2
    exact new2 S hT (R.mono' l _ _ rv) (R.mono' l _ _ ru)
  stop := fun i W' H σ e l S g hi => by
    rw [zipD_len] at hi
    exact ⟨vs, us, Evl.ex_t (l.1.trans S.ok.ex) h1, Evl.ex_t (l.1.trans S.ok.ex) h3, by rw [h2.length, h4.length]; omega⟩
end
def iEn (t : DA) : DI := fun e P => t e fun ds e1 => ∃ d, ds = [d] ∧ itL d e1 fun xs G e2 => P (enumD 0 xs) G e2
def iZp (t : DA) : DI := fun e P => t e fun ds e1 => ∃ x y, ds = [x, y] ∧ ((itL x e1 fun xs G _ => itL y e1 fun ys G' _ => P (zipD xs ys) (fun cs => G cs ∧ G' cs) e1) ∨ ∃ xs ys, x = .tup xs ∧ y = .tup ys ∧ P (zipD xs ys) anyC e1)
section
variable {X : Cx} {B : Bs} {ex e2 : Expr} {ta : DA} {p pos tpos : Pos} {elts : List Expr} {kk : Nat}
theorem di_enum (hg : Gl X "enumerate") (hm : X.mg "enumerate" = none) (ha : PA X [ex] (lA X.K B ta)) (hs : starEach [ex] X.env = [(false, eval ex X.env)] := by rfl) : PI X (.Tuple elts kk tpos) (.Call (.Name "enumerate" p) [ex] [] pos) (lI X.K B (iEn ta)) :=
  PI.imp (pi_enum hg hm ha hs) fun σ H Q ⟨W, e, P, bl, S, t, k⟩ => ⟨W, e, _, bl, S, t, fun ds e1 W1 H1 vs ⟨d, hd, p⟩ l S1 r => by
    subst hd
    obtain ⟨v, rfl, r1⟩ := r.one
    obtain ⟨a, xs, G, rfl, ⟨us, h1, h2⟩, st, q⟩ := itL_stay S1 r1 p
    exact ⟨a, us, rfl, h1, k _ _ _ _ _ _ q l S1 (wk_enum st)⟩⟩
theorem di_zip (hg : Gl X "zip") (hm : X.mg "zip" = none) (ha : PA X [ex, e2] (lA X.K B ta)) (hs : starEach [ex, e2] X.env = (false, eval ex X.env) :: starEach [e2] X.env := by rfl) (hpl : (backTo pos (starEach [e2] X.env)).any (·.1) = false := by rfl) :
    PI X (.Tuple elts kk tpos) (.Call (.Name "zip" p) [ex, e2] [] pos) (lI X.K B (iZp ta)) :=
  PI.imp (RZ.pi_zipA hg hm ha hs hpl) fun σ H Q ⟨W, e, P, bl, S, t, k⟩ => ⟨W, e, _, bl, S, t, fun ds e1 W1 H1 vs ⟨x, y, hd, p⟩ l S1 r => by
    subst hd
    obtain ⟨v, v2, rfl, r1, r2⟩ := r.two
    rcases p with p | ⟨xs, ys, rfl, rfl, p⟩
    · obtain ⟨a, xs, G, rfl, ⟨us, h1, h2⟩, st, q⟩ := itL_stay S1 r1 p
      obtain ⟨b, ys, G', rfl, ⟨ws, h3, h4⟩, st', q'⟩ := itL_stay S1 r2 q
      exact ⟨a, b, us, ws, rfl, .inl ⟨h1, h3, k _ _ _ _ _ _ q' l S1 (wk_zip st st')⟩⟩
    · cases r1 with
      | tup h1 h2 =>
        cases r2 with
        | tup h3 h4 => exact ⟨_, _, _, _, rfl, .inr ⟨Evl.ex_t S1.ok.ex h1, Evl.ex_t S1.ok.ex h3, k _ _ _ _ _ _ p l S1 (wk_zipT h1 h2 h3 h4)⟩⟩⟩
end
/-- a tuple of the module -/
theorem de_tupG {X : Cx} {B : Bs} {x : Str} {a : Addr} {vs : List V} {ds : List D} {pos : Pos} (hg : Gl X x) (hm : X.mg x = some (.ref a)) (h : ∀ H, SqT X.K H a vs) (r : ∀ W, RAll X.K W vs ds) (hd : (x == ("__debug__" : Str)) = false := by decide) :
    PE X (.Name x pos) (lE X.K B (eC (.tup ds))) := de_glob hg hm (show RelV (.ref a) (.ref a) from rfl) (fun W => .tup (h W.F) (r W)) hd
end DL
namespace DL
open PySem PySem.Spec PyProof.Rows L2
open Evl (Ex)

/-! ### more steps -/
section
variable {e : En} {P : D → En → Prop} {x y d : D} {a b : Int} {te tv to : DE} {Po' : Po} {C : Addr} {f : Str} {PE' : En → Prop} {k : Bool}
theorem v_isN0 (p : P (.bl true) e) : qIs .non .non e P := ⟨rfl, rfl, p⟩
theorem v_isN1 (h : isN x = false ∧ notRaw x = true ∧ P (.bl false) e) : qIs x .non e P := by
  obtain ⟨h1, h2, p⟩ := h
  rw [← h1] at p
  cases x <;> first | (cases h1; done) | (cases h2; done) | exact ⟨rfl, rfl, p⟩
theorem v_isnN0 (p : P (.bl false) e) : qIsNot .non .non e P := ⟨rfl, rfl, p⟩
theorem v_isnN1 (h : isN x = false ∧ notRaw x = true ∧ P (.bl true) e) : qIsNot x .non e P := by
  obtain ⟨h1, h2, p⟩ := h
  cases x <;> first | (cases h1; done) | (cases h2; done) | exact ⟨rfl, rfl, p⟩
def noInt : D → Bool
  | .int _ => false
  | _ => true
theorem v_eqP (h : (noInt x || noInt y) = true ∧ shp (drf e.cs x) = true ∧ shp (drf e.cs y) = true ∧ PyData.eqv (toP (drf e.cs x)) (toP (drf e.cs y)) = k ∧ P (.bl k) e) : qEq x y e P := by
  obtain ⟨h0, h1, h2, h3, p⟩ := h
  have q : shp (drf e.cs x) = true ∧ shp (drf e.cs y) = true ∧ P (.bl (PyData.eqv (toP (drf e.cs x)) (toP (drf e.cs y)))) e := ⟨h1, h2, by rw [h3]; exact p⟩
  unfold qEq
  split
  · exact nomatch (show false = true from h0)
  · exact q
theorem v_neP (h : (noInt x || noInt y) = true ∧ shp (drf e.cs x) = true ∧ shp (drf e.cs y) = true ∧ PyData.eqv (toP (drf e.cs x)) (toP (drf e.cs y)) = k ∧ P (.bl (!k)) e) : qNe x y e P := by
  obtain ⟨h0, h1, h2, h3, p⟩ := h
  have q : shp (drf e.cs x) = true ∧ shp (drf e.cs y) = true ∧ P (.bl (!PyData.eqv (toP (drf e.cs x)) (toP (drf e.cs y)))) e := ⟨h1, h2, by rw [h3]; exact p⟩
  unfold qNe
  split
  · exact nomatch (show false = true from h0)
  · exact q
theorem v_eqPT (h : (noInt x || noInt y) = true ∧ shp (drf e.cs x) = true ∧ shp (drf e.cs y) = true ∧ PyData.eqv (toP (drf e.cs x)) (toP (drf e.cs y)) = true ∧ P (.bl true) e) : qEq x y e P := v_eqP h
theorem v_eqPF (h : (noInt x || noInt y) = true ∧ shp (drf e.cs x) = true ∧ shp (drf e.cs y) = true ∧ PyData.eqv (toP (drf e.cs x)) (toP (drf e.cs y)) = false ∧ P (.bl false) e) : qEq x y e P := v_eqP h
theorem v_nePT (h : (noInt x || noInt y) = true ∧ shp (drf e.cs x) = true ∧ shp (drf e.cs y) = true ∧ PyData.eqv (toP (drf e.cs x)) (toP (drf e.cs y)) = true ∧ P (.bl false) e) : qNe x y e P := v_neP h
theorem v_nePF (h : (noInt x || noInt y) = true ∧ shp (drf e.cs x) = true ∧ shp (drf e.cs y) = true ∧ PyData.eqv (toP (drf e.cs x)) (toP (drf e.cs y)) = false ∧ P (.bl true) e) : qNe x y e P := v_neP h
def nd : D → Bool
  | .cell _ => false
  | .fro _ => false
  | _ => true
theorem nd_drf {cs : List Cel} {d : D} (h : nd d = true) : drf cs d = d := by cases d <;> first | rfl | cases h
theorem v_eqN (h : (nd x = true ∧ nd y = true ∧ (noInt x || noInt y) = true) ∧ shp x = true ∧ shp y = true ∧ PyData.eqv (toP x) (toP y) = k ∧ P (.bl k) e) : qEq x y e P := by
  obtain ⟨⟨h1, h2, h3⟩, h4, h5, h6, p⟩ := h
  exact v_eqP ⟨h3, by rw [nd_drf h1]; exact h4, by rw [nd_drf h2]; exact h5, by rw [nd_drf h1, nd_drf h2]; exact h6, p⟩
theorem v_neN (h : (nd x = true ∧ nd y = true ∧ (noInt x || noInt y) = true) ∧ shp x = true ∧ shp y = true ∧ PyData.eqv (toP x) (toP y) = k ∧ P (.bl (!k)) e) : qNe x y e P := by
  obtain ⟨⟨h1, h2, h3⟩, h4, h5, h6, p⟩ := h
  exact v_neP ⟨h3, by rw [nd_drf h1]; exact h4, by rw [nd_drf h2]; exact h5, by rw [nd_drf h1, nd_drf h2]; exact h6, p⟩
theorem v_eqNT (h : (nd x = true ∧ nd y = true ∧ (noInt x || noInt y) = true) ∧ shp x = true ∧ shp y = true ∧ PyData.eqv (toP x) (toP y) = true ∧ P (.bl true) e) : qEq x y e P := v_eqN h
theorem v_eqNF (h : (nd x = true ∧ nd y = true ∧ (noInt x || noInt y) = true) ∧ shp x = true ∧ shp y = true ∧ PyData.eqv (toP x) (toP y) = false ∧ P (.bl false) e) : qEq x y e P := v_eqN h
theorem v_neNT (h : (nd x = true ∧ nd y = true ∧ (noInt x || noInt y) = true) ∧ shp x = true ∧ shp y = true ∧ PyData.eqv (toP x) (toP y) = true ∧ P (.bl false) e) : qNe x y e P := v_neN h
theorem v_neNF (h : (nd x = true ∧ nd y = true ∧ (noInt x || noInt y) = true) ∧ shp x = true ∧ shp y = true ∧ PyData.eqv (toP x) (toP y) = false ∧ P (.bl true) e) : qNe x y e P := v_neN h
theorem ins_cell {cs : List Cel} {n : Nat} {ns : List Str} {xs : List D} (h : cs[n]? = some (.ins C ns xs)) : insD cs (.cell n) = some (C, ns, xs) := by
  show (match cs[n]? with | some (.ins C ns xs) => some (C, ns, xs) | _ => none) = some (C, ns, xs)
  rw [h]
theorem v_asgG {g : DG} (h : te e fun d e1 => g d e1 Po'.nx) : sAsgG te g Po' e := h
theorem v_gN {i : Nat} (h : PE' { e with sl := e.sl.set i (some d) }) : gN i d e PE' := h
theorem v_gF (h : to e fun o e1 => updF C f o d e1 PE') : gF C f to d e PE' := h
theorem v_gZ (h : PE' e) : gZ [] e PE' := ⟨rfl, h⟩
theorem v_gC {t : DG} {u : DGs} {xs : List D} (h : t x e fun e1 => u xs e1 PE') : gC t u (x :: xs) e PE' := ⟨_, _, rfl, h⟩
theorem v_gT {n : Nat} {u : DGs} {xs : List D} (h : xs.length = n ∧ u xs e PE') : gT n u (.tup xs) e PE' := ⟨_, rfl, h⟩
theorem v_updF (h : ∃ n ns xs i, x = .cell n ∧ e.cs[n]? = some (.ins C ns xs) ∧ ns.length < 900 ∧ ixF f ns = some i ∧ PE' { e with cs := e.cs.set n (.ins C ns (xs.set i d)) }) : updF C f x d e PE' := h
theorem v_fldU (h : tv e fun v e1 => to e1 fun o e2 => updF C f o v e2 Po'.nx) : sFldU C f to tv Po' e := h
theorem v_fldA {q : D → D → DE} (h : to e fun o e1 => ∃ ns xs x, insD e1.cs o = some (C, ns, xs) ∧ getF f ns xs = some x ∧ tv e1 fun y e2 => q x y e2 fun z e3 => updF C f o z e3 Po'.nx) : sFldA C f q to tv Po' e := h
theorem v_addII (p : P (.int (a + b)) e) : qAddI (.int a) (.int b) e P := ⟨a, b, rfl, rfl, p⟩
theorem v_methX {cs : List Cel} {m : Str} {R : Prop} (h : (∃ ns xs, insD cs d = some (C, ns, xs) ∧ m ∉ ns) ∧ R) : (∃ ns xs, insD cs d = some (C, ns, xs) ∧ m ∉ ns) ∧ R := h
theorem v_while {c : DT} {tb : DS} (h : ∃ I : Nat → En → Prop, (∃ m, I m e) ∧ ∀ m e1, I m e1 → c e1 fun b e2 => if b = true then tb (Po'.lp fun e3 => ∃ m', m' < m ∧ I m' e3) e2 else Po'.nx e2) : sWhile c tb Po' e := h
theorem v_setO {ti : DE} {sp : Spc} (h : tv e fun v e1 => to e1 fun o e2 => ti e2 fun i e3 => (∃ ns xs, insD e3.cs o = some (C, ns, xs)) ∧ sp [o, i, v] e3.cs fun _ cs' => Po'.nx { e3 with cs := cs' }) : sSetO C sp tv to ti Po' e := h
theorem v_en {t : DA} {Q : List D → (List Cel → Prop) → En → Prop} (h : t e fun ds e1 => ∃ d, ds = [d] ∧ itL d e1 fun xs G e2 => Q (enumD 0 xs) G e2) : iEn t e Q := h
theorem v_oneD {PQ : D → Prop} (h : PQ d) : ∃ d', [d] = [d'] ∧ PQ d' := ⟨d, rfl, h⟩
theorem v_addL {o : Bool} {xs ys : List D} (h : xs.length + ys.length ≤ 100000 ∧ newL o (xs ++ ys) e P) : qAdd o (.lst xs) (.lst ys) e P := ⟨xs, ys, rfl, rfl, Nat.le_trans h.1 (by decide), h.2⟩
end
end DL
namespace DL
open PySem PySem.Spec PyProof.Rows L2
open Evl (Ex)

/-! ### data that may be compared -/
structure Sh (n : Nat) (d : D) : Prop where
  ok : okD d = true
  lay : (toP d).canLay0 = true
  dep : (toP d).depth ≤ n
structure Shs (n : Nat) (ds : List D) : Prop where
  ok : okDs ds = true
  lay : PyData.canLayAll0 (toPs ds) = true
  dep : PyData.depthAll (toPs ds) ≤ n
theorem Sh.shp {n : Nat} {d : D} (h : Sh n d) (hn : n ≤ 64 := by decide) : shp d = true := by
  unfold DL.shp SeqAt.shaped
  rw [h.ok, h.lay, decide_eq_true (Nat.le_trans h.dep hn)] <;> rfl
theorem Sh.mono {n m : Nat} {d : D} (h : Sh n d) (hn : n ≤ m) : Sh m d := ⟨h.ok, h.lay, Nat.le_trans h.dep hn⟩
theorem Sh.int (i : Int) : Sh 0 (.int i) := ⟨rfl, rfl, by show (PyData.int _).depth ≤ 0; simp [PyData.depth]⟩
theorem Sh.bl (b : Bool) : Sh 0 (.bl b) := ⟨rfl, rfl, by show (PyData.bool _).depth ≤ 0; simp [PyData.depth]⟩
theorem Sh.non : Sh 0 .non := ⟨rfl, rfl, by show (PyData.none).depth ≤ 0; simp [PyData.depth]⟩
theorem Sh.str {s : Str} (h : (PyData.str s).canLay0 = true) : Sh 0 (.str s) := ⟨rfl, h, by show (PyData.str _).depth ≤ 0; simp [PyData.depth]⟩
theorem Sh.ofE {α : Type} [DecidableEq α] {enc : α → D} {n : Nat} (h : EqE enc n) (a : α) : Sh n (enc a) := ⟨h.ok a, h.lay a, h.dep a⟩
theorem Shs.nil {n : Nat} : Shs n [] := ⟨rfl, rfl, Nat.zero_le _⟩
theorem Shs.cons {n : Nat} {d : D} {ds : List D} (h : Sh n d) (t : Shs n ds) : Shs n (d :: ds) := by
  refine ⟨?_, ?_, ?_⟩
  · show (okD d && okDs ds) = true
    rw [h.ok, t.ok] <;> rfl
  · show ((toP d).canLay0 && PyData.canLayAll0 (toPs ds)) = true
    rw [h.lay, t.lay] <;> rfl
  · have h1 := h.dep
    have h2 := t.dep
    show PyData.depthAll (toP d :: toPs ds) ≤ n
    simp only [PyData.depthAll]
    omega
theorem Shs.all {n : Nat} : ∀ {ds : List D}, (∀ d ∈ ds, Sh n d) → Shs n ds
  | [], _ => .nil
  | d :: ds, h => .cons (h d (List.mem_cons_self ..)) (Shs.all fun x hx => h x (List.mem_cons_of_mem _ hx))
theorem Sh.tup {n : Nat} {ds : List D} (h : Shs n ds) : Sh (n + 1) (.tup ds) := ⟨h.ok, by show (PyData.tuple (toPs ds)).canLay0 = true; simp only [PyData.canLay0]; exact h.lay, by have := h.dep; show (PyData.tuple (toPs ds)).depth ≤ n + 1; simp only [PyData.depth]; omega⟩
theorem Sh.lst {n : Nat} {ds : List D} (h : Shs n ds) : Sh (n + 1) (.lst ds) := ⟨h.ok, by show (PyData.list (toPs ds)).canLay0 = true; simp only [PyData.canLay0]; exact h.lay, by have := h.dep; show (PyData.list (toPs ds)).depth ≤ n + 1; simp only [PyData.depth]; omega⟩
mutual
theorem eqv_refl : ∀ d : PyData, d.canLay0 = true → PyData.eqv d d = true
  | .none, _ => by simp only [PyData.eqv]
  | .bool b, _ => by simp only [PyData.eqv, beq_self_eq_true]
  | .int i, _ => by simp only [PyData.eqv, beq_self_eq_true]
  | .str s, _ => by simp only [PyData.eqv, beq_self_eq_true]
  | .list xs, h => by
    simp only [PyData.canLay0] at h
    simp only [PyData.eqv]
    exact eqvs_refl xs h
  | .tuple xs, h => by
    simp only [PyData.canLay0] at h
    simp only [PyData.eqv]
    exact eqvs_refl xs h
  | .dict _, h => by simp only [PyData.canLay0] at h; cases h
theorem eqvs_refl : ∀ ds : List PyData, PyData.canLayAll0 ds = true → PyData.eqvAll ds ds = true
  | [], _ => by simp only [PyData.eqvAll]
  | d :: ds, h => by
    simp only [PyData.canLayAll0, Bool.and_eq_true] at h
    simp only [PyData.eqvAll, eqv_refl d h.1, eqvs_refl ds h.2, Bool.and_self]
end
section
variable {e : En} {P : D → En → Prop} {x y d : D} {n : Nat}
theorem drf_lk {cs : List Cel} {d : D} {xs : List D} (h : lk cs d = some xs) : drf cs d = .lst xs := by
  cases d with
  | cell n => exact drf_cell (lk_cell_iff h)
  | lst ys => cases h; rfl
  | fro ys => cases h; rfl
  | _ => cases h
theorem v_tgX {tg : Tg} {d : D} {sl : List (Option D)} {PQ : List (Option D) → Prop} (h : ∃ sl', setTg tg d sl = some sl' ∧ PQ sl') : ∃ sl', setTg tg d sl = some sl' ∧ PQ sl' := h
theorem app_set' {cs : List Cel} {c0 c : Cel} : (cs ++ [c0]).set cs.length c = cs ++ [c] := by simp
/-- the same data on both sides -/
theorem v_eqS (hx : drf e.cs x = d) (hy : drf e.cs y = d) (h : Sh n d) (p : P (.bl true) e) (hni : (noInt x || noInt y) = true := by rfl) (hn : n ≤ 64 := by decide) : qEq x y e P :=
  v_eqP ⟨hni, by rw [hx]; exact h.shp hn, by rw [hy]; exact h.shp hn, by rw [hx, hy]; exact eqv_refl _ h.lay, p⟩
theorem v_neS (hx : drf e.cs x = d) (hy : drf e.cs y = d) (h : Sh n d) (p : P (.bl false) e) (hni : (noInt x || noInt y) = true := by rfl) (hn : n ≤ 64 := by decide) : qNe x y e P :=
  v_nePT ⟨hni, by rw [hx]; exact h.shp hn, by rw [hy]; exact h.shp hn, by rw [hx, hy]; exact eqv_refl _ h.lay, p⟩
end
end DL
namespace DL
open PySem PySem.Spec PyProof.Rows L2
open Evl (Ex)

/-! ### an own class beside what is none of it -/
theorem mro_ty : ∀ a ∈ tysB, (PySem.fastBuiltinMro a).isSome = true := by decide +kernel
theorem subIn_ty {K : PySem.W.Frag} {C : Addr} {a : String} (h : a ∈ tysB) : PySem.W.subIn K (.type a) (.ref C) = some false := by
  have q := mro_ty a h
  show (PySem.fastBuiltinMro a).map (·.contains (Value.ref C)) = some false
  unfold PySem.fastBuiltinMro at q ⊢
  cases e : PySem.fastFind? a with
  | none => rw [e] at q; cases q
  | some m =>
    show some ((m.mro.map Value.type).contains (Value.ref C)) = some false
    rw [Option.some.injEq, Bool.eq_false_iff]
    intro z
    obtain ⟨n, _, e⟩ := List.mem_map.mp (List.contains_iff_mem.mp z)
    cases e
theorem nf_ty {K : PySem.W.Frag} {C : Addr} {a : String} (h : a ∈ tysB) : PySem.W.notFirst K C (.type a) = true := by
  unfold PySem.W.notFirst
  rw [subIn_ty h]
  simp
def rCmpA (K : PySem.W.Frag) (C : Addr) (sp : Spc) : R2 := fun x y H Q => ∃ a dx gs t, x = .ref a ∧ H a = some (.ins C dx gs) ∧ TyX K H y (.type t) ∧ t ∈ tysB ∧ spD K sp [.ref a, y] H Q E0
def qCmpA (C : Addr) (sp : Spc) : D → D → DE := fun d y e P => (∃ ns xs, insD e.cs d = some (C, ns, xs)) ∧ ((∃ ns xs, insD e.cs y = some (C, ns, xs)) ∨ ∃ t, tyN e.cs y = some t) ∧ sp [d, y] e.cs fun r cs' => P r { e with cs := cs' }
theorem od_cmpA {K : PySem.W.Frag} {C : Addr} {sp : Spc} : OpD K (fun x y H Q => rTwo K C C sp x y H Q ∨ rCmpA K C sp x y H Q) (qCmpA C sp) := fun W H σ e x y d1 d2 P Q S r1 r2 ⟨⟨n1, x1, i1⟩, h2, t⟩ k => by
  rcases h2 with h2 | ⟨t', h2⟩
  · exact .inl (od_two W H σ e x y d1 d2 P Q S r1 r2 ⟨⟨n1, x1, i1⟩, h2, t⟩ k)
  · obtain ⟨a, dx, gs, rfl, h1, h2', h3⟩ := S.ok.ins r1 i1
    obtain ⟨ty, mem⟩ := S.ok.ty r2 h2
    exact .inr ⟨a, dx, gs, t', rfl, h1, ty, mem, W, e.cs, [d1, d2], _, S.ok, .cons r1 (.cons r2 .nil), t, fun d cs' W' H' v p l ok r' => k _ _ _ _ _ p l ⟨ok, S.sl.mono l⟩ r'⟩
section
variable {X : Cx} {C fn : Addr} {k : Nat} {ps : List Str} {sp : Spc}
theorem op_cmpT {op : CmpOp} (G : Good X.prog X.w X.K X.mg X.base k fn ps sp) (hr : Room k X.A) (hu : X.A.units < cLine) (sm : Sm X.K C (cmpInfo op).2.1 fn) (hop : ∀ a b, compareOp op a b = richCompare op a b := by intros; rfl) : OpR X (compareOp op) (rCmpA X.K C sp) := by
  rintro pins s σ H x y v u Q I rx ry ⟨a, dx, gs, t, rfl, ha, ty, mem, h⟩
  obtain ⟨fd, F, bi, kp⟩ := G
  cases (show v = Value.ref a from rx)
  obtain ⟨od, J⟩ := Inv.inst I ha
  obtain ⟨m, hF⟩ := I.fr
  obtain ⟨Ph, Z, hz, _⟩ := kit_of I ry ty
  rw [hop]
  refine PySem.W.cmp_K hu hF I.ok.mod.kin J (Z.ty _ _ I.kIn hz) (nf_ty mem) sm.at_ sm.fn (wpAny_mono (run_in (us := [.ref a, u]) (vs := [V.ref a, y]) F bi hr I.env0 I (.cons rfl (.cons ry .nil)) h) (fun v s' z => ?_) fun _ _ z => z)
  obtain ⟨v', H', I', rv, q⟩ := z
  exact RelV.cmp rv (P := EP X pins σ Q) ⟨v', H', I', rv, q⟩
theorem op_cmpA {op : CmpOp} (G : Good X.prog X.w X.K X.mg X.base k fn ps sp) (hr : Room k X.A) (hu : X.A.units < cLine) (sm : Sm X.K C (cmpInfo op).2.1 fn) (hop : ∀ a b, compareOp op a b = richCompare op a b := by intros; rfl) :
    OpR X (compareOp op) (fun x y H Q => rTwo X.K C C sp x y H Q ∨ rCmpA X.K C sp x y H Q) := (op_cmpO G hr hu sm hop).or (op_cmpT G hr hu sm hop)
end
def qIsiA (C : Addr) : List D → DE
  | [d, .raw (.ref C')] => fun e P => C' = C ∧ (((∃ ns xs, insD e.cs d = some (C, ns, xs)) ∧ P (.bl true) e) ∨ ((∃ t, tyN e.cs d = some t) ∧ P (.bl false) e))
  | _ => fun _ _ => False
theorem cd_isiA {K : PySem.W.Frag} {C : Addr} (kt : ∀ a ∈ tysB, PySem.W.kitOne K (.type a) (.ref C) = some false) : CallD K (fun xs H Q => (∃ a dx fs, xs = [.ref a, .ref C] ∧ H a = some (.ins C dx fs) ∧ Q (.bl true) H) ∨ rIsi K xs H Q) (qIsiA C) := by
  intro W H σ e vs ds P Q S r t k
  unfold qIsiA at t
  split at t
  · obtain ⟨v, v2, rfl, r1, r2⟩ := r.two
    obtain ⟨rfl, t⟩ := t
    rcases t with ⟨⟨ns, xs, hi⟩, p⟩ | ⟨⟨a, ea⟩, p⟩
    · obtain ⟨a, dx, gs, rfl, h1, _⟩ := S.ok.ins r1 hi
      cases r2
      exact .inl ⟨a, dx, gs, rfl, h1, k _ _ _ _ _ p W.le_refl S (.bl _)⟩
    · obtain ⟨ty, mem⟩ := S.ok.ty r1 ea
      cases r2
      exact .inr ⟨v, .ref _, _, _, _, rfl, .own _, ty, kt _ mem, k _ _ _ _ _ p W.le_refl S (.bl _)⟩
  · exact t.elim
theorem v_isAT {C : Addr} {d : D} {e : En} {P : D → En → Prop} (h : ∃ ns xs, insD e.cs d = some (C, ns, xs)) (p : P (.bl true) e) : qIsiA C [d, .raw (.ref C)] e P := ⟨rfl, .inl ⟨h, p⟩⟩
theorem v_isAF {C : Addr} {d : D} {e : En} {P : D → En → Prop} (h : ∃ t, tyN e.cs d = some t) (p : P (.bl false) e) : qIsiA C [d, .raw (.ref C)] e P := ⟨rfl, .inr ⟨h, p⟩⟩

/-! ### minus -/
def eNeg (ta : DE) : DE := fun e P => ta e fun x e1 => ∃ i, x = .int i ∧ P (.int (-i)) e1
section
variable {X : Cx} {B : Bs} {a : Expr} {pos : Pos} {ta : DE}
theorem de_neg (ha : PE X a (lE X.K B ta)) : PE X (.UnaryOp .USub a pos) (lE X.K B (eNeg ta)) :=
  PE.imp (pe_un un_neg ha) fun σ H Q ⟨W, e, P, bl, S, t, k⟩ => ⟨W, e, _, bl, S, t, fun x e1 W1 H1 v ⟨c, ex, h1⟩ l1 S1 r1 => ⟨c, by subst ex; exact r1.int_inv, k _ _ _ _ _ h1 l1 S1 (.int _)⟩⟩
end
theorem v_neg {ta : DE} {e : En} {P : D → En → Prop} (h : ta e fun x e1 => ∃ i, x = .int i ∧ P (.int (-i)) e1) : eNeg ta e P := h
theorem v_oneI {i : Int} {PQ : Int → Prop} (h : PQ i) : ∃ j, D.int i = .int j ∧ PQ j := ⟨i, rfl, h⟩
section
variable {e : En} {P : D → En → Prop}
theorem v_isnB {a b : Bool} (p : P (.bl (!decide (a = b))) e) : qIsNot (.bl a) (.bl b) e P := p
theorem v_isB {a b : Bool} (p : P (.bl (decide (a = b))) e) : qIs (.bl a) (.bl b) e P := p
end
theorem cut_last {α : Type} (f : α → D) (fs : List α) : cutD (fs.map f) none (some (-1)) = (fs.take (fs.length - 1)).map f := by
  unfold cutD
  have h := HT.clip_eq (-1) fs.length fs.length
  rw [if_pos (by decide)] at h
  have h2 : HT.sIx fs.length fs.length (some (-1)) = fs.length - 1 := by omega
  rw [HT.sIx_none, List.length_map, List.drop_zero, h2, ← List.map_take, Nat.sub_zero]
theorem cut_from {α : Type} (f : α → D) (fs : List α) (k : Nat) : cutD (fs.map f) (some (k : Int)) none = (fs.drop k).map f := by
  unfold cutD
  rw [HT.sIx_none, HT.sIx_nat, List.length_map, ← List.map_drop, ← List.map_take]
  congr 1
  rcases Nat.le_total k fs.length with h | h
  · rw [Nat.min_eq_left h, List.take_of_length_le (by simp)]
  · rw [Nat.min_eq_right h, List.drop_eq_nil_of_le (Nat.le_refl _), List.drop_eq_nil_of_le h]
    simp
theorem cut_mid {α : Type} (f : α → D) (fs : List α) (i j : Nat) (h : i ≤ j) (h2 : j ≤ fs.length) : cutD (fs.map f) (some (i : Int)) (some (j : Int)) = ((fs.drop i).take (j - i)).map f := by
  unfold cutD
  rw [HT.sIx_nat, HT.sIx_nat, List.length_map, ← List.map_drop, ← List.map_take, Nat.min_eq_left h2, Nat.min_eq_left (Nat.le_trans h h2)]
theorem atI_end {α : Type} {f : α → D} {xs : List α} {x : α} (h : xs[xs.length - 1]? = some x) : atI (xs.map f) (-1) = some (f x) := by
  have hl := (List.getElem?_eq_some_iff.mp h).1
  have e : ixN (xs.map f).length (-1) = some (xs.length - 1) := by
    unfold ixN
    rw [List.length_map, if_neg (by decide), if_pos (by omega)]
    congr 1
    omega
  unfold atI
  rw [e]
  show (xs.map f)[xs.length - 1]? = some (f x)
  rw [List.getElem?_map, h]
  rfl
end DL
namespace DL
open PySem PySem.Spec PyProof.Rows L2
open Evl (Ex)

/-! ### in, of an own class -/
section
variable {prog : Program} {w : World} {A : Around} {E : Value → Shared → Prop} {s : Shared} {K : PySem.W.Frag} {x C f : Addr} {ox : Obj} {od : Option Obj} {y : Value} {Q : Bool → Shared → Prop}
open PySem.W in
theorem contains_own {M : Model} (X : K.In s.heap) (I : InstAt s.heap x ox C od) (hs : findIn K (.ref C) "__contains__" = some (some (.ref f))) (hf : typeIn K (.ref f) = some (.type "function"))
    (h : wpAny M A (call (.ref f) [.ref x, y]) (fun v s' => ∃ b, v = .bool b ∧ Q b s') E s) : wpAny M A (contains (.ref x) y) Q E s := by
  unfold contains specialOf
  refine wpAny_holding ?_
  refine wpAny_bind (wpAny_bind (I.type.here ((looks_findIn X hs).here ?_)))
  rw [if_neg (show ¬ ((some (Value.ref f) == some Value.none) = true) by simp)]
  unfold callSpecialUnlessNone? specialOf
  refine wpAny_bind (wpAny_bind (wpAny_bind (I.type.here ((looks_findIn X hs).here ?_))))
  refine wpAny_holding (wpAny_bind ((bind_fn X _ hf).here ?_))
  dsimp only
  rw [if_neg (show ¬ ((Value.ref f == Value.none) = true) by simp)]
  refine wpAny_bind (wpAny_mono h (fun v s' hv => ?_) fun _ _ z => z)
  obtain ⟨b, rfl, q⟩ := hv
  exact wpAny_pure (wpAny_truthy_bool q)
end
def isB : D → Prop := fun d => ∃ b, d = .bl b
def rInO (K : PySem.W.Frag) (C : Addr) (sp : Spc) : R2 := fun y x H Q => ∃ a dx gs, x = .ref a ∧ H a = some (.ins C dx gs) ∧ spD K sp [.ref a, y] H (fun v H' => (∃ b, v = .bl b) ∧ Q v H') E0
def qInO (C : Addr) (sp : Spc) : D → D → DE := fun y d e P => (∃ ns xs, insD e.cs d = some (C, ns, xs)) ∧ sp [d, y] e.cs fun r cs' => isB r ∧ P r { e with cs := cs' }
theorem od_inO {K : PySem.W.Frag} {C : Addr} {sp : Spc} : OpD K (rInO K C sp) (qInO C sp) := fun W H σ e x y d1 d2 P Q S r1 r2 ⟨⟨n1, x1, i1⟩, t⟩ k => by
  obtain ⟨a, dx, gs, rfl, h1, h2, h3⟩ := S.ok.ins r2 i1
  exact ⟨a, dx, gs, rfl, h1, W, e.cs, [d2, d1], _, S.ok, .cons r2 (.cons r1 .nil), t, fun d cs' W' H' v ⟨⟨b, hb⟩, p⟩ l ok r' => ⟨⟨b, by subst hb; exact r'.bl_inv⟩, k _ _ _ _ _ p l ⟨ok, S.sl.mono l⟩ r'⟩⟩
theorem op_inO {X : Cx} {C fn : Addr} {k : Nat} {ps : List Str} {sp : Spc} (G : Good X.prog X.w X.K X.mg X.base k fn ps sp) (hr : Room k X.A) (sm : Sm X.K C "__contains__" fn) : OpR X (compareOp .In) (rInO X.K C sp) := by
  rintro pins s σ H y x v u Q I ry rx ⟨a, dx, gs, rfl, ha, h⟩
  obtain ⟨fd, F, bi, kp⟩ := G
  cases (show u = Value.ref a from rx)
  obtain ⟨od, J⟩ := Inv.inst I ha
  show wpAny (model X.prog X.w) X.A ((contains (.ref a) v) >>= fun b => pure (Value.bool b)) _ _ s
  have c : wpAny (model X.prog X.w) X.A (contains (.ref a) v) (fun b s' => EP X pins σ Q (Value.bool b) s') X.xe s := by
    refine contains_own I.kIn J sm.at_ (beq_iff_eq.mp sm.fn) (wpAny_mono (run_in (us := [.ref a, v]) (vs := [V.ref a, y]) F bi hr I.env0 I (.cons rfl (.cons ry .nil)) h) (fun v s' z => ?_) fun _ _ z => z)
    obtain ⟨v', H', I', rv, ⟨b, rfl⟩, q⟩ := z
    cases rv
    exact ⟨b, rfl, .bl b, H', I', rfl, q⟩
  exact wpAny_bind (wpAny_mono c (fun b s' q => wpAny_pure q) fun _ _ z => z)

/-! ### more list methods -/
section
variable {K : PySem.W.Frag}
theorem RAll.eraseIdx {W : Wd} : ∀ {vs : List V} {ds : List D} (k : Nat), RAll K W vs ds → RAll K W (vs.eraseIdx k) (ds.eraseIdx k)
  | _, _, _, .nil => .nil
  | _, _, 0, .cons _ t => t
  | _, _, k + 1, .cons r t => .cons r (RAll.eraseIdx k t)
def qClr : D → List D → DE := fun d ds e P => ∃ n xs, d = .cell n ∧ ds = [] ∧ e.cs[n]? = some (.lst xs) ∧ P .non { e with cs := e.cs.set n (.lst []) }
theorem md_clr : MtD K rClear qClr := by
  rintro W H σ e x vs d ds P Q S r rs ⟨n, xs, rfl, rfl, hc, p⟩ k
  cases rs
  cases r with
  | @cell _ a hm =>
    obtain ⟨vs, h1, h2⟩ := S.ok.cellL hm hc
    refine ⟨a, vs, rfl, rfl, h1, ?_⟩
    exact k _ _ _ _ _ p W.le_refl ⟨S.ok.setC hm hc (fun z => nomatch z) ⟨_, upd_same, .nil⟩, S.sl⟩ .non
/-- xs.pop(i), i from the front -/
def qPopI : D → List D → DE := fun d ds e P => ∃ (n : Nat) (xs : List D) (i : Nat) (y : D), d = .cell n ∧ ds = [.int (i : Nat)] ∧ e.cs[n]? = some (.lst xs) ∧ xs[i]? = some y ∧ i < 1000000 ∧ P y { e with cs := e.cs.set n (.lst (xs.eraseIdx i)) }
theorem md_popI : MtD K rPopAt qPopI := by
  rintro W H σ e x vs d ds P Q S r rs ⟨n, xs, i, y, rfl, rfl, hc, hy, hi, p⟩ k
  obtain ⟨v, rfl, rv⟩ := rs.one
  cases rv
  cases r with
  | @cell _ a hm =>
    obtain ⟨vs, h1, h2⟩ := S.ok.cellL hm hc
    obtain ⟨z, hz, rz⟩ := h2.get hy
    have hl := (List.getElem?_eq_some_iff.mp hz).1
    refine ⟨a, vs, _, i, z, rfl, rfl, h1, by omega, by omega, ?_, hz, ?_⟩
    · exact (ixN_seq (Evl.ixN_nat hl)).1
    · exact k _ _ _ _ _ p W.le_refl ⟨S.ok.setC hm hc (fun z => nomatch z) ⟨_, upd_same, h2.eraseIdx i⟩, S.sl⟩ rz
end
/-! ### whole numbers of the module -/
theorem de_intG {X : Cx} {B : Bs} {x : Str} {i : Int} {pos : Pos} (hg : Gl X x) (hm : ∃ t, X.mg x = some (.int i t)) (hd : (x == ("__debug__" : Str)) = false := by decide) : PE X (.Name x pos) (lE X.K B (eC (.int i))) := by
  obtain ⟨t, hm⟩ := hm
  exact de_glob hg hm (show RelV (.int i) (.int i t) from ⟨t, rfl⟩) (fun _ => .int i) hd
end DL
namespace DL
open PySem PySem.Spec PyProof.Rows L2
open Evl (Ex)

/-! ### comprehensions of two clauses -/
def eLc2 (o : Bool) (it : DI) (tg : Tg) (tt : DT) (it1 : DI) (tg1 : Tg) (tt1 : DT) (te : DE) (vs vs1 : List Nat) : DE := fun e P => it e fun ds G e1 => ∃ I : Nat → List D → List Cel → Prop, I 0 [] e1.cs ∧
  (∀ i d acc cs, ds[i]? = some d → I i acc cs → G cs ∧ ∃ sl', setTg tg d (wipeD e1.sl vs) = some sl' ∧ tt ⟨sl', cs⟩ fun b e2 => if b = true then
    it1 e2 fun ds1 G1 e3 => ∃ I1 : Nat → List D → List Cel → Prop, I1 0 acc e3.cs ∧
      (∀ j d1 acc1 cs1, ds1[j]? = some d1 → I1 j acc1 cs1 → G1 cs1 ∧ ∃ sl2, setTg tg1 d1 (wipeD e3.sl vs1) = some sl2 ∧ tt1 ⟨sl2, cs1⟩ fun b1 e4 => if b1 = true then te e4 fun y e5 => acc1.length < sizeLine ∧ I1 (j + 1) (acc1 ++ [y]) e5.cs else I1 (j + 1) acc1 e4.cs) ∧
      ∀ acc1 cs1, I1 ds1.length acc1 cs1 → G1 cs1 ∧ I (i + 1) acc1 cs1
    else I (i + 1) acc e2.cs) ∧
  ∀ acc cs, I ds.length acc cs → G cs ∧ newL o acc ⟨e1.sl, cs⟩ P
section
variable {K : PySem.W.Frag} {X : Cx} {B : Bs} {elt tgE iter tgE1 iter1 : Expr} {ifs ifs1 : List Expr} {scope : Scope} {own : List (Str × Nat)} {pos : Pos} {it it1 : DI} {tg tg1 : Tg} {tt tt1 : DT} {te : DE} {o : Bool}
/-- the list that grows, hidden -/
def HidS (K : PySem.W.Frag) (F1 : Hp) (m1 : List Addr) (h1 : List (Addr × List V)) (Dl : Addr) (H : Hp) (acc : List D) (cs : List Cel) : Prop :=
  ∃ (F : Hp) (mm : List Addr) (vs' : List V), Wd.sub ⟨F1, m1, h1⟩ ⟨F, mm, (Dl, vs') :: h1⟩ ∧ Ok K ⟨F, mm, (Dl, vs') :: h1⟩ H cs ∧ RAll K ⟨F, mm, (Dl, vs') :: h1⟩ vs' acc
theorem lc2_ok {vs vs1 : List Nat} (hv : ∀ i ∈ tg.on, i ∈ vs) (hv1 : ∀ i ∈ tg1.on, i ∈ vs1) : ∀ σ H Q, lE K B (eLc2 o it tg tt it1 tg1 tt1 te vs vs1) σ H Q →
    tLc2 (lI K B it) (gV K tg) (lT K Bs.any tt) (lI K Bs.any it1) (gV K tg1) (lT K Bs.any tt1) (lE K Bs.any te) vs vs1 σ H Q := by
  rintro σ H Q ⟨W, e, P, bl, S, t, k⟩
  refine ⟨W, e, _, bl, S, t, fun ds G e1 W1 H1 J ⟨I, i0, turn, done⟩ l1 S1 wk Dl hD => ?_⟩
  obtain ⟨F1, m1, h1⟩ := W1
  refine ⟨fun i m H => m = ds.length - i ∧ i ≤ ds.length ∧ ∃ (acc : List D) (cs : List Cel), HidS K F1 m1 h1 Dl H acc cs ∧ I i acc cs,
    ⟨_, rfl, Nat.zero_le _, [], e1.cs, ⟨F1, m1, [], ⟨Ex.refl _, [], (List.append_nil _).symm⟩, S1.ok.hide hD, .nil⟩, i0⟩, ?_⟩
  rintro i m H2 ⟨rfl, hi, acc, cs, ⟨F, mm, vs', sb, ok, ra⟩, p⟩
  have Sx : Sd K ⟨F, mm, (Dl, vs') :: h1⟩ H2 σ ⟨e1.sl, cs⟩ := ⟨ok, S1.sl.mono' sb⟩
  by_cases hlt : i < ds.length
  · have hd : ds[i]? = some ds[i] := by simp [hlt]
    obtain ⟨g2, sl', hsl, p3⟩ := turn i _ acc cs hd p
    refine .inr ⟨wk.go i _ H2 σ _ sb Sx g2 hlt, fun H => ∃ (acc : List D) (cs : List Cel), HidS K F1 m1 h1 Dl H acc cs ∧ I (i + 1) acc cs, fun H' q => ⟨ds.length - (i + 1), by omega, rfl, hlt, q⟩, fun x H' y => ?_⟩
    obtain ⟨W3, l3, S3, r3⟩ := wk.yld i _ H2 σ _ x H' _ sb Sx g2 hd y
    have S3w : Sd K W3 H' (wipe σ vs) ⟨wipeD e1.sl vs, cs⟩ := ⟨S3.ok, S3.sl.wipe vs⟩
    refine gV_ok (vs := vs) S3w r3 hsl fun σ4 S4 w4 => ⟨by rw [w4 hv, wipe_wipe], ?_⟩
    refine ⟨W3, _, _, trivial, S4, p3, fun b e5 W5 H5 p5 l5 S5 => ?_⟩
    have l35 := l3.tr l5
    cases b with
    | false =>
      refine iteF ⟨acc, e5.cs, ?_, p5⟩
      have ra5 := RAll.mono l35 _ _ ra
      obtain ⟨F5, m5, h5⟩ := W5
      obtain rfl : h5 = (Dl, vs') :: h1 := l35.2.2
      exact ⟨F5, m5, vs', sb.tr (W2 := ⟨F5, m5, (Dl, vs') :: h1⟩) ⟨l35.1, l35.2.1⟩, S5.ok, ra5⟩
    | true =>
      refine iteT ⟨W5, e5, _, trivial, S5, p5, fun ds1 G1 e6 W6 H6 J1 ⟨I1, i10, turn1, done1⟩ l6 S6 wk1 => ?_⟩
      have l36 := l35.tr l6
      have ra6 := RAll.mono l36 _ _ ra
      obtain ⟨F6, m6, h6⟩ := W6
      obtain rfl : h6 = (Dl, vs') :: h1 := l36.2.2
      have sb6 : Wd.sub ⟨F1, m1, h1⟩ ⟨F6, m6, (Dl, vs') :: h1⟩ := sb.tr (W2 := ⟨F6, m6, (Dl, vs') :: h1⟩) ⟨l36.1, l36.2.1⟩
      refine ⟨fun j k H => k = ds1.length - j ∧ j ≤ ds1.length ∧ ∃ (acc1 : List D) (cs1 : List Cel), HidS K F6 m6 h1 Dl H acc1 cs1 ∧ I1 j acc1 cs1,
        ⟨_, rfl, Nat.zero_le _, acc, e6.cs, ⟨F6, m6, vs', ⟨Ex.refl _, [], (List.append_nil _).symm⟩, S6.ok, ra6⟩, i10⟩, ?_⟩
      rintro j k1 H7 ⟨rfl, hj, acc1, cs1, ⟨F7, mm7, vs7, sb7, ok7, ra7⟩, q1⟩
      have sb7' : Wd.sub ⟨F6, m6, (Dl, vs') :: h1⟩ ⟨F7, mm7, (Dl, vs7) :: h1⟩ := ⟨sb7.1, sb7.2⟩
      have Sx7 : Sd K ⟨F7, mm7, (Dl, vs7) :: h1⟩ H7 σ4 ⟨e6.sl, cs1⟩ := ⟨ok7, S6.sl.mono' sb7'⟩
      by_cases hlt1 : j < ds1.length
      · have hd1 : ds1[j]? = some ds1[j] := by simp [hlt1]
        obtain ⟨g7, sl7, hsl7, p7⟩ := turn1 j _ acc1 cs1 hd1 q1
        refine .inr ⟨wk1.go j _ H7 σ4 _ sb7' Sx7 g7 hlt1, fun H => ∃ (acc1 : List D) (cs1 : List Cel), HidS K F6 m6 h1 Dl H acc1 cs1 ∧ I1 (j + 1) acc1 cs1, fun H' q => ⟨ds1.length - (j + 1), by omega, rfl, hlt1, q⟩, fun x1 H8 y1 => ?_⟩
        obtain ⟨W8, l8, S8, r8⟩ := wk1.yld j _ H7 σ4 _ x1 H8 _ sb7' Sx7 g7 hd1 y1
        have S8w : Sd K W8 H8 (wipe σ4 vs1) ⟨wipeD e6.sl vs1, cs1⟩ := ⟨S8.ok, S8.sl.wipe vs1⟩
        refine gV_ok (vs := vs1) S8w r8 hsl7 fun σ9 S9 w9 => ⟨by rw [w9 hv1, wipe_wipe], ?_⟩
        refine ⟨W8, _, _, trivial, S9, p7, fun b1 e10 W10 H10 p10 l10 S10 => ?_⟩
        have l810 := l8.tr l10
        cases b1 with
        | false =>
          refine iteF ⟨acc1, e10.cs, ?_, p10⟩
          have ra10 := RAll.mono l810 _ _ ra7
          obtain ⟨F10, m10, h10⟩ := W10
          obtain rfl : h10 = (Dl, vs7) :: h1 := l810.2.2
          exact ⟨F10, m10, vs7, sb7.tr (W2 := ⟨F10, m10, (Dl, vs7) :: h1⟩) ⟨l810.1, l810.2.1⟩, S10.ok, ra10⟩
        | true =>
          refine iteT ⟨W10, e10, _, trivial, S10, p10, fun y e11 W11 H11 v11 ⟨hz, p11⟩ l11 S11 r11 => ?_⟩
          have l811 := l810.tr l11
          have hD11 : H11 Dl = some (.lst vs7) := (S11.ok.hd (Dl, vs7) (by rw [l811.2.2]; exact List.mem_cons_self)).1
          have ra11 := RAll.mono l811 _ _ ra7
          refine ⟨vs7, hD11, by rw [ra11.length]; exact hz, acc1 ++ [y], e11.cs, ?_, p11⟩
          have ok11 := S11.ok
          have ra12 := ra11.app1 r11
          obtain ⟨F11, m11, h11⟩ := W11
          obtain rfl : h11 = (Dl, vs7) :: h1 := l811.2.2
          exact ⟨F11, m11, vs7 ++ [v11], sb7.tr (W2 := ⟨F11, m11, (Dl, vs7 ++ [v11]) :: h1⟩) ⟨l811.1, l811.2.1⟩, ok11.grow, ra12.world rfl rfl⟩
      · have ei : j = ds1.length := by omega
        subst ei
        obtain ⟨g7, q7⟩ := done1 acc1 cs1 q1
        exact .inl ⟨wk1.stop _ _ H7 σ4 _ sb7' Sx7 g7 (Nat.le_refl _), acc1, cs1, ⟨F7, mm7, vs7, sb6.tr (W2 := ⟨F7, mm7, (Dl, vs7) :: h1⟩) sb7', ok7, ra7⟩, q7⟩
  · have ei : i = ds.length := by omega
    subst ei
    obtain ⟨g2, q⟩ := done acc cs p
    refine .inl ⟨wk.stop _ _ H2 σ _ sb Sx g2 (Nat.le_refl _), ?_⟩
    have ra' : RAll K ⟨F, mm, h1⟩ vs' acc := ra.world rfl rfl
    have lx : (⟨F1, m1, h1⟩ : Wd).le ⟨F, mm, h1⟩ := ⟨sb.1, sb.2, rfl⟩
    cases o with
    | false =>
      obtain ⟨ok', l'⟩ := ok.showF
      exact k _ _ _ _ _ q (l1.tr (lx.tr l')) ⟨ok', S1.sl.mono (lx.tr l')⟩ (.lst upd_same (RAll.mono l' _ _ ra'))
    | true =>
      obtain ⟨ok', l'⟩ := ok.showC ra'
      refine k _ _ _ _ _ q (l1.tr (lx.tr l')) ⟨ok', S1.sl.mono (lx.tr l')⟩ (.cell ?_)
      show (mm ++ [Dl])[cs.length]? = some Dl
      have hl : mm.length = cs.length := ok.len
      rw [← hl, List.getElem?_append_right (Nat.le_refl _)]
      simp
theorem de_lc2 {vs1 : List Nat} (hc : X.calm = true) (hN : X.N.Nodup) (hi : PI X tgE iter (lI X.K B it)) (ok : BlkOk X.N X.env.scope scope own) (hv : ∀ i ∈ tg.on, i ∈ own.map (·.2)) (hv1 : ∀ i ∈ tg1.on, i ∈ vs1) (hv2 : ∀ i ∈ vs1, i ∈ own.map (·.2))
    (hg : ∀ (s : Shared) (H : Hp) (C : Addr) (cl : List (Str × Addr)) (fp : List Addr), PG (X.blk s H scope (compEnvC scope cl C X.env) fp) tgE (gV X.K tg)) (ht : ∀ (s : Shared) (H : Hp) (C : Addr) (cl : List (Str × Addr)) (fp : List Addr), PTs (X.blk s H scope (compEnvC scope cl C X.env) fp) ifs (lT X.K Bs.any tt))
    (hi1 : ∀ (s : Shared) (H : Hp) (C : Addr) (cl : List (Str × Addr)) (fp : List Addr), PI (X.blk s H scope (compEnvC scope cl C X.env) fp) tgE1 iter1 (lI X.K Bs.any it1))
    (hg1 : ∀ (s : Shared) (H : Hp) (C : Addr) (cl : List (Str × Addr)) (fp : List Addr), PG (X.blk s H scope (compEnvC scope cl C X.env) fp) tgE1 (gV X.K tg1)) (ht1 : ∀ (s : Shared) (H : Hp) (C : Addr) (cl : List (Str × Addr)) (fp : List Addr), PTs (X.blk s H scope (compEnvC scope cl C X.env) fp) ifs1 (lT X.K Bs.any tt1))
    (he : ∀ (s : Shared) (H : Hp) (C : Addr) (cl : List (Str × Addr)) (fp : List Addr), PE (X.blk s H scope (compEnvC scope cl C X.env) fp) elt (lE X.K Bs.any te)) (hs : ∀ x, foldedSetIterable iter X.env x = pure x := by intro _; rfl) (hs1 : ∀ env x, foldedSetIterable iter1 env x = pure x := by intro _ _; rfl) :
    PE X (.ListComp elt [⟨tgE, iter, ifs, 0⟩, ⟨tgE1, iter1, ifs1, 0⟩] scope pos) (lE X.K B (eLc2 o it tg tt it1 tg1 tt1 te (own.map (·.2)) vs1)) := PE.imp (pe_lc2 hc hN hi ok hv2 hg ht hi1 hg1 ht1 he hs hs1) (lc2_ok hv hv1)
end
theorem v_lc2 {e : En} {P : D → En → Prop} {tg tg1 : Tg} {tt tt1 : DT} {te : DE} {vs vs1 : List Nat} {o : Bool} {it it1 : DI} (h : it e fun ds G e1 => ∃ I : Nat → List D → List Cel → Prop, I 0 [] e1.cs ∧
  (∀ i d acc cs, ds[i]? = some d → I i acc cs → G cs ∧ ∃ sl', setTg tg d (wipeD e1.sl vs) = some sl' ∧ tt ⟨sl', cs⟩ fun b e2 => if b = true then
    it1 e2 fun ds1 G1 e3 => ∃ I1 : Nat → List D → List Cel → Prop, I1 0 acc e3.cs ∧
      (∀ j d1 acc1 cs1, ds1[j]? = some d1 → I1 j acc1 cs1 → G1 cs1 ∧ ∃ sl2, setTg tg1 d1 (wipeD e3.sl vs1) = some sl2 ∧ tt1 ⟨sl2, cs1⟩ fun b1 e4 => if b1 = true then te e4 fun y e5 => acc1.length < sizeLine ∧ I1 (j + 1) (acc1 ++ [y]) e5.cs else I1 (j + 1) acc1 e4.cs) ∧
      ∀ acc1 cs1, I1 ds1.length acc1 cs1 → G1 cs1 ∧ I (i + 1) acc1 cs1
    else I (i + 1) acc e2.cs) ∧
  ∀ acc cs, I ds.length acc cs → G cs ∧ newL o acc ⟨e1.sl, cs⟩ P) : eLc2 o it tg tt it1 tg1 tt1 te vs vs1 e P := h
end DL
namespace DL
open PySem PySem.Spec PyProof.Rows L2
open Evl (Ex)

/-! ### max, min of two -/
section
variable {K : PySem.W.Frag}
def qMax2 : List D → DE
  | [.int i, .int j] => fun e P => P (.int (if j > i then j else i)) e
  | _ => fun _ _ => False
def qMin2 : List D → DE
  | [.int i, .int j] => fun e P => P (.int (if j < i then j else i)) e
  | _ => fun _ _ => False
theorem cd_max2 : CallD K (fun xs H Q => ∃ i j, xs = [.int i, .int j] ∧ Q (.int (if j > i then j else i)) H) qMax2 := by
  intro W H σ e vs ds P Q S r t k
  unfold qMax2 at t
  split at t
  · exact ⟨_, _, r.two_int, k _ _ _ _ _ t W.le_refl S (.int _)⟩
  · exact t.elim
theorem cd_min2 : CallD K (fun xs H Q => ∃ i j, xs = [.int i, .int j] ∧ Q (.int (if j < i then j else i)) H) qMin2 := by
  intro W H σ e vs ds P Q S r t k
  unfold qMin2 at t
  split at t
  · exact ⟨_, _, r.two_int, k _ _ _ _ _ t W.le_refl S (.int _)⟩
  · exact t.elim
end
section
variable {e : En} {P : D → En → Prop} {a b : Int}
theorem v_max2 (p : P (.int (if b > a then b else a)) e) : qMax2 [.int a, .int b] e P := p
theorem v_min2 (p : P (.int (if b < a then b else a)) e) : qMin2 [.int a, .int b] e P := p
end
theorem bt_max : bootBuiltins "max" = some (.builtin "max") := by rfl
theorem bt_min : bootBuiltins "min" = some (.builtin "min") := by rfl
/-! ### extend; what is never reached -/
def qExt : D → List D → DE := fun d ds e P => ∃ n xs y ys, d = .cell n ∧ ds = [y] ∧ e.cs[n]? = some (.lst xs) ∧ lkP e.cs y = some ys ∧ xs.length + ys.length ≤ 100000 ∧ P .non { e with cs := e.cs.set n (.lst (xs ++ ys)) }
theorem RAll.app {K : PySem.W.Frag} {W : Wd} : ∀ {vs ws : List V} {xs ys : List D}, RAll K W vs xs → RAll K W ws ys → RAll K W (vs ++ ws) (xs ++ ys)
  | _, _, _, _, .nil, h => h
  | _, _, _, _, .cons r t, h => .cons r (RAll.app t h)
theorem md_ext {K : PySem.W.Frag} : MtD K rExtend qExt := by
  rintro W H σ e x vs d ds P Q S r rs ⟨n, xs, y, ys, rfl, rfl, hc, hy, hz, p⟩ k
  obtain ⟨v, rfl, rv⟩ := rs.one
  cases r with
  | @cell _ a hm =>
    obtain ⟨vs, h1, h2⟩ := S.ok.cellL hm hc
    obtain ⟨b, ws, rfl, h3, h4⟩ := S.ok.lkP rv hy
    refine ⟨a, b, vs, ws, rfl, rfl, h1, h3, ?_, ?_⟩
    · rw [h2.length, h4.length]
      exact Nat.le_trans hz (by decide)
    exact k _ _ _ _ _ p W.le_refl ⟨S.ok.setC hm hc (fun z => nomatch z) ⟨_, upd_same, h2.app h4⟩, S.sl⟩ .non
def eNever : DE := fun _ _ => False
theorem de_never {X : Cx} {B : Bs} {ex : Expr} : PE X ex (lE X.K B eNever) := ⟨fun _ _ _ _ _ _ ⟨_, _, _, _, _, t, _⟩ => t.elim⟩
/-! ### a, b = x, y -/
def sPar (i j : Nat) (ta : DA) : DS := fun P e => ta e fun ds e1 => ∃ x y, ds = [x, y] ∧ P.nx { e1 with sl := (e1.sl.set i (some x)).set j (some y) }
theorem ds_par {X : Cx} {B : Bs} {i j : Nat} {x y : Str} {a b : Expr} {ta : DA} {px py pt k2p pos : Pos} {kt k2} (hc : X.calm = true) (hN : X.N.Nodup) (hi : X.N[i]? = some x) (hj : X.N[j]? = some y) (hij : i ≠ j)
    (hx : X.env.scope.names.lookup x = some .local) (hy : X.env.scope.names.lookup y = some .local) (ha : PA X [a, b] (lA X.K B ta))
    (hw : swappedStores [.Tuple [.Name x px, .Name y py] kt pt] (.Tuple [a, b] k2 k2p) X.env = pure (some [x, y]) := by rfl)
    (hs : swapsWithSole [.Tuple [.Name x px, .Name y py] kt pt] (.Tuple [a, b] k2 k2p) pos.line X.env = pure false := by rfl) :
    PS X (.Assign [.Tuple [.Name x px, .Name y py] kt pt] (.Tuple [a, b] k2 k2p) pos) (lS X.K B (sPar i j ta)) :=
  PS.imp (ps_par hc hN hi hj hij hx hy ha hw hs) fun E σ H h => by
    obtain ⟨W, e, P, bl, S, h, c⟩ := lS_un h
    refine ⟨W, e, _, bl, S, h, fun ds e1 W1 H1 vs ⟨x, y, hd, p⟩ l S1 r => ?_⟩
    subst hd
    cases r with
    | cons r1 r2 =>
      cases r2 with
      | cons r2 r3 =>
        cases r3
        exact ⟨_, _, rfl, c.nx _ _ _ _ p l ⟨S1.ok, (S1.sl.set r1).set r2⟩⟩
theorem v_par {i j : Nat} {ta : DA} {P : Po} {e : En} (h : ta e fun ds e1 => ∃ x y, ds = [x, y] ∧ P.nx { e1 with sl := (e1.sl.set i (some x)).set j (some y) }) : sPar i j ta P e := h
/-! ### xs.index(k), whole numbers -/
def qIdx : D → List D → DE := fun d ds e P => ∃ (ns : List Int) (k : Int) (j : Nat), lk e.cs d = some (ns.map .int) ∧ ds = [.int k] ∧ ns[j]? = some k ∧ (∀ (m : Nat) (z : Int), m < j → ns[m]? = some z → z ≠ k) ∧ P (.int (j : Nat)) e
theorem md_idx {K : PySem.W.Frag} : MtD K (rIndex K) qIdx := by
  rintro W H σ e x vs d ds P Q S r rs ⟨ns, k, j, hl, rfl, h1, h2, p⟩ kk
  obtain ⟨v, rfl, rv⟩ := rs.one
  cases rv
  obtain ⟨a, ws, rfl, h3, h4⟩ := S.ok.lk r hl
  cases RAll.ints_inv h4
  refine ⟨a, ns.map V.int, _, j, .int k, rfl, rfl, h3, rfl, ?_, ?_, ?_, ?_, kk _ _ _ _ _ p W.le_refl S (.int _)⟩
  · rw [List.all_map]
    exact List.all_eq_true.mpr fun _ _ => rfl
  · rw [List.getElem?_map, h1]
    rfl
  · exact beq_self_eq_true k
  · intro m z' hm hz
    rw [List.getElem?_map] at hz
    obtain ⟨z, hz1, rfl⟩ := Option.map_eq_some_iff.mp hz
    exact beq_eq_false_iff_ne.mpr (h2 m z hm hz1)
theorem v_idx {ns : List Int} {d : D} {e : En} {P : D → En → Prop} {k : Int} {j : Nat} (hl : lk e.cs d = some (ns.map .int)) (h1 : ns[j]? = some k) (h2 : ∀ (m : Nat) (z : Int), m < j → ns[m]? = some z → z ≠ k) (p : P (.int (j : Nat)) e) : qIdx d [.int k] e P := ⟨ns, k, j, hl, rfl, h1, h2, p⟩
/-! ### a dict that is only handed on: none of its keys is looked at -/
def eDct : DE := fun e P => P .dct e
theorem de_dct0 {X : Cx} {B : Bs} {pos : Pos} : PE X (.Dict [] [] pos) (lE X.K B eDct) := PE.imp pe_dnewK fun σ H Q ⟨W, e, P, _, S, t, k⟩ p hp => by
  obtain ⟨ok, l⟩ := S.ok.newF (o := .dK []) hp
  exact k .dct e _ _ _ t l ⟨ok, S.sl.mono l⟩ (.dct upd_same)
theorem de_dctI {X : Cx} {B : Bs} {pos p1 p2 : Pos} {i j : Int} {j1 j2} : PE X (.Dict [some (.Constant (.int i) j1 p1)] [.Constant (.int j) j2 p2] pos) (lE X.K B eDct) :=
  PE.imp (pe_disp (pps_cons (pe_int (i := i)) (pe_int (i := j)) pps_nil) rfl rfl (fun z => nomatch z) (by simp)) fun σ H Q ⟨W, e, P, _, S, t, k⟩ p hp => by
    obtain ⟨ok, l⟩ := S.ok.newF (o := .dK (mergeK [] [(.inl i, .int j)])) hp
    refine ⟨upd_same, [(.inl i, .int j)], rfl, by simp, ?_⟩
    rw [upd_upd]
    exact k .dct e _ _ _ t l ⟨ok, S.sl.mono l⟩ (.dct upd_same)
theorem v_dct {e : En} {P : D → En → Prop} (p : P .dct e) : eDct e P := p
end DL
/-! a dict that changes (int keys), list.remove, list.pop(), list.count, list.index of nested items, (x,) * n, [*xs, y], a, b, c = x, y, z -/
namespace DL
open PySem PySem.Spec PyProof.Rows L2
open Evl (Ex)

/-! ### a dict with int keys as a cell -/
def getI : List (Int × D) → Int → Option D
  | [], _ => none
  | p :: r, k => if p.1 = k then some p.2 else getI r k
def putI (kxs : List (Int × D)) (k : Int) (d : D) : List (Int × D) :=
  if (kxs.any fun p => decide (p.1 = k)) = true then kxs.map (fun p => if p.1 = k then (p.1, d) else p) else kxs ++ [(k, d)]
section
variable {K : PySem.W.Frag} {W : Wd}
theorem RKs.length : ∀ {ps : List (Key × V)} {kxs : List (Int × D)}, RKs K W ps kxs → ps.length = kxs.length
  | _, _, .nil => rfl
  | _, _, .cons _ t => by rw [List.length_cons, List.length_cons, RKs.length t]
theorem RKs.get (k : Int) : ∀ {ps : List (Key × V)} {kxs : List (Int × D)}, RKs K W ps kxs → (getI kxs k = none ∧ valV ps (.inl k) = none) ∨ ∃ d v, getI kxs k = some d ∧ valV ps (.inl k) = some v ∧ R K W v d
  | _, _, .nil => .inl ⟨rfl, rfl⟩
  | _, _, @RKs.cons _ _ k' v d ps kxs r t => by
    by_cases e : k' = k
    · exact .inr ⟨d, v, by unfold getI; rw [if_pos e], valV_pos (p := ((.inl k' : Key), v)) (by rw [e]), r⟩
    · have e2 : ¬ ((Sum.inl k' : Key) = .inl k) := fun z => e (Sum.inl.inj z)
      have e3 : valV (((.inl k' : Key), v) :: ps) (.inl k) = valV ps (.inl k) := valV_neg (p := ((.inl k' : Key), v)) e2
      have e4 : getI ((k', d) :: kxs) k = getI kxs k := by
        show (if k' = k then some d else getI kxs k) = _
        rw [if_neg e]
      rw [e3, e4]
      exact RKs.get k t
theorem RKs.any (k : Int) : ∀ {ps : List (Key × V)} {kxs : List (Int × D)}, RKs K W ps kxs → (ps.any fun p => decide (p.1 = (.inl k : Key))) = (kxs.any fun p => decide (p.1 = k))
  | _, _, .nil => rfl
  | _, _, @RKs.cons _ _ k' v d ps kxs r t => by
    rw [List.any_cons, List.any_cons, RKs.any k t]
    congr 1
    exact decide_eq_decide.mpr ⟨fun z => Sum.inl.inj z, fun z => by rw [show k' = k from z]⟩
theorem RKs.repl {v : V} {d : D} (rv : R K W v d) (k : Int) : ∀ {ps : List (Key × V)} {kxs : List (Int × D)}, RKs K W ps kxs → RKs K W (ps.map fun p => if p.1 = (.inl k : Key) then (p.1, v) else p) (kxs.map fun p => if p.1 = k then (p.1, d) else p)
  | _, _, .nil => .nil
  | _, _, @RKs.cons _ _ k' v' d' ps kxs r t => by
    rw [List.map_cons, List.map_cons]
    by_cases e : k' = k
    · subst e
      rw [if_pos rfl, if_pos rfl]
      exact .cons rv (RKs.repl rv k' t)
    · rw [if_neg (fun z => e (Sum.inl.inj z)), if_neg e]
      exact .cons r (RKs.repl rv k t)
theorem RKs.app1 {v : V} {d : D} (rv : R K W v d) (k : Int) : ∀ {ps : List (Key × V)} {kxs : List (Int × D)}, RKs K W ps kxs → RKs K W (ps ++ [(.inl k, v)]) (kxs ++ [(k, d)])
  | _, _, .nil => .cons rv .nil
  | _, _, .cons r t => .cons r (RKs.app1 rv k t)
theorem RKs.put {v : V} {d : D} (rv : R K W v d) (k : Int) {ps : List (Key × V)} {kxs : List (Int × D)} (h : RKs K W ps kxs) : RKs K W (putK ps (.inl k) v) (putI kxs k d) := by
  unfold putK putI
  rw [h.any k]
  split
  · exact h.repl rv k
  · exact h.app1 rv k
theorem Ok.cellD {H : Hp} {cs : List Cel} (h : Ok K W H cs) {n : Nat} {a : Addr} {kxs : List (Int × D)} (hm : W.m[n]? = some a) (hc : cs[n]? = some (.dic kxs)) : ∃ ps, H a = some (.dK ps) ∧ RKs K W ps kxs := h.cl n a _ hm hc
end
/-- {} -/
def eDnew : DE := fun e P => P (.cell e.cs.length) { e with cs := e.cs ++ [.dic []] }
theorem de_dnew {X : Cx} {B : Bs} {pos : Pos} : PE X (.Dict [] [] pos) (lE X.K B eDnew) := PE.imp pe_dnewK fun σ H Q ⟨W, e, P, _, S, t, k⟩ p hp => by
  obtain ⟨ok, l⟩ := S.ok.newC (o := .dK []) (c := .dic []) hp fun W' l => ⟨[], upd_same, .nil⟩
  refine k _ _ _ _ _ t l ⟨ok, S.sl.mono l⟩ (.cell ?_)
  show (W.m ++ [p])[e.cs.length]? = some p
  rw [← S.ok.len]
  simp
theorem v_dnew {e : En} {P : D → En → Prop} (p : P (.cell e.cs.length) { e with cs := e.cs ++ [.dic []] }) : eDnew e P := p
/-- d[k] = v -/
def sDput (td ti tv : DE) : DS := fun P e => tv e fun y e1 => td e1 fun d e2 => ti e2 fun i e3 => ∃ n kxs k, d = .cell n ∧ i = .int k ∧ e3.cs[n]? = some (.dic kxs) ∧ kxs.length < sizeLine ∧ P.nx { e3 with cs := e3.cs.set n (.dic (putI kxs k y)) }
theorem ds_dput {X : Cx} {B : Bs} {o i value : Expr} {td ti tv : DE} {pos pos' : Pos} (hu : X.A.units + 1 < cLine) (hv : PE X value (lE X.K B tv)) (ho : PE X o (lE X.K B td)) (hi : PE X i (lE X.K B ti))
    (hs : swapsWith value (some (.Subscript o i pos')) pos.line X.env = pure false := by rfl) : PS X (.Assign [.Subscript o i pos'] value pos) (lS X.K B (sDput td ti tv)) :=
  PS.imp (ps_dput hu ho hi hv hs) fun E σ H h => by
    obtain ⟨W, e, P, bl, S, h, c⟩ := lS_un h
    refine ⟨W, e, _, bl, S, h, fun y e1 W1 H1 vy t1 l1 S1 r1 => ?_⟩
    refine ⟨W1, e1, _, B.up bl l1, S1, t1, fun d e2 W2 H2 vd t2 l2 S2 r2 => ?_⟩
    refine ⟨W2, e2, _, B.up (B.up bl l1) l2, S2, t2, fun j e3 W3 H3 vj ⟨n, kxs, k, hd, hj, hc, hz, p⟩ l3 S3 r3 => ?_⟩
    subst hd hj
    cases r3
    have r2' := R.mono l3 _ _ r2
    cases r2' with
    | @cell _ a hm =>
      obtain ⟨ps, h1, h2⟩ := S3.ok.cellD hm hc
      refine ⟨a, _, rfl, DPut.k (k := .inl k) h1 (by rw [h2.length]; exact hz), ?_⟩
      have ry := R.mono l3 _ _ (R.mono l2 _ _ r1)
      exact c.nx _ _ _ _ p ((l1.tr l2).tr l3) ⟨S3.ok.setC hm hc (fun z => nomatch z) ⟨_, upd_same, h2.put ry k⟩, S3.sl⟩
theorem v_dput {td ti tv : DE} {P : Po} {e : En} (h : tv e fun y e1 => td e1 fun d e2 => ti e2 fun i e3 => ∃ n kxs k, d = .cell n ∧ i = .int k ∧ e3.cs[n]? = some (.dic kxs) ∧ kxs.length < sizeLine ∧ P.nx { e3 with cs := e3.cs.set n (.dic (putI kxs k y)) }) : sDput td ti tv P e := h
/-- d.get(k, x) -/
def eDget (td ti tx : DE) : DE := fun e P => td e fun d e1 => (∃ n kxs, d = .cell n ∧ e1.cs[n]? = some (.dic kxs)) ∧ ti e1 fun i e2 => tx e2 fun x e3 => ∃ n kxs k, d = .cell n ∧ i = .int k ∧ e3.cs[n]? = some (.dic kxs) ∧ P ((getI kxs k).getD x) e3
theorem de_dget {X : Cx} {B : Bs} {o i f : Expr} {td ti tx : DE} {apos cpos : Pos} (hu : X.A.units + 1 < cLine) (ho : PE X o (lE X.K B td)) (hi : PE X i (lE X.K B ti)) (hf : PE X f (lE X.K B tx)) (m : M2 X o "get" apos i f cpos) :
    PE X (.Call (.Attribute o "get" apos) [i, f] [] cpos) (lE X.K B (eDget td ti tx)) :=
  PE.imp (pe_dget2 hu ho hi hf m) fun σ H Q ⟨W, e, P, bl, S, t, k⟩ => ⟨W, e, _, bl, S, t, fun d e1 W1 H1 v1 ⟨⟨n, kxs, hd, hc⟩, t1⟩ l1 S1 r1 => by
    subst hd
    cases r1 with
    | @cell _ a hm =>
      obtain ⟨ps, h1, h2⟩ := S1.ok.cellD hm hc
      refine ⟨a, rfl, .inl ⟨ps, .inl h1⟩, W1, e1, _, B.up bl l1, S1, t1, fun j e2 W2 H2 v2 t2 l2 S2 r2 => ?_⟩
      refine ⟨W2, e2, _, B.up (B.up bl l1) l2, S2, t2, fun x e3 W3 H3 v3 ⟨n', kxs', kk, hn, hj, hc', p⟩ l3 S3 r3 => ?_⟩
      subst hj
      cases hn
      cases r2
      obtain ⟨ps', h3, h4⟩ := S3.ok.cellD (Wd.get_more (Wd.le.tr l2 l3).2.1 hm) hc'
      refine ⟨_, DGet.k (k := .inl kk) h3, ?_⟩
      have l := (l1.tr l2).tr l3
      rcases h4.get kk with ⟨g1, g2⟩ | ⟨dd, vv, g1, g2, g3⟩
      · rw [g2]
        rw [g1] at p
        exact k _ _ _ _ _ p l S3 r3
      · rw [g2]
        rw [g1] at p
        exact k _ _ _ _ _ p l S3 g3⟩
theorem v_dget {td ti tx : DE} {e : En} {P : D → En → Prop} (h : td e fun d e1 => (∃ n kxs, d = .cell n ∧ e1.cs[n]? = some (.dic kxs)) ∧ ti e1 fun i e2 => tx e2 fun x e3 => ∃ n kxs k, d = .cell n ∧ i = .int k ∧ e3.cs[n]? = some (.dic kxs) ∧ P ((getI kxs k).getD x) e3) : eDget td ti tx e P := h
/-- k in d -/
def eDin (ti td : DE) : DE := fun e P => ti e fun i e1 => td e1 fun d e2 => ∃ n kxs k, d = .cell n ∧ i = .int k ∧ e2.cs[n]? = some (.dic kxs) ∧ P (.bl (getI kxs k).isSome) e2
theorem dc_din {X : Cx} {B : Bs} {o i : Expr} {td ti : DE} (hu : X.A.units + 1 < cLine) (hi : PE X i (lE X.K B ti)) (ho : PE X o (lE X.K B td)) : PC X .In i o (lE X.K B (eDin ti td)) :=
  ⟨fun pins s σ H Q I ⟨W, e, P, bl, S, t, k⟩ => (pc_din hu hi ho).run pins s σ H Q I ⟨W, e, _, bl, S, t, fun j e1 W1 H1 v1 t1 l1 S1 r1 => ⟨W1, e1, _, B.up bl l1, S1, t1, fun d e2 W2 H2 v2 ⟨n, kxs, kk, hd, hj, hc, p⟩ l2 S2 r2 => by
    subst hd hj
    cases r1
    cases r2 with
    | @cell _ a hm =>
      obtain ⟨ps, h1, h2⟩ := S2.ok.cellD hm hc
      refine ⟨a, _, rfl, DGet.k (k := .inl kk) h1, ?_⟩
      have e1 : (valV ps (.inl kk)).isSome = (getI kxs kk).isSome := by
        rcases h2.get kk with ⟨g1, g2⟩ | ⟨dd, vv, g1, g2, _⟩
        · rw [g1, g2] <;> rfl
        · rw [g1, g2] <;> rfl
      rw [show (valV ps (.inl kk)).isSome = _ from e1]
      exact k _ _ _ _ _ p (l1.tr l2) S2 (.bl _)⟩⟩⟩
theorem v_din {ti td : DE} {e : En} {P : D → En → Prop} (h : ti e fun i e1 => td e1 fun d e2 => ∃ n kxs k, d = .cell n ∧ i = .int k ∧ e2.cs[n]? = some (.dic kxs) ∧ P (.bl (getI kxs k).isSome) e2) : eDin ti td e P := h
/-! ### list.pop() -/
def qPop0 : D → List D → DE := fun d ds e P => ∃ (n : Nat) (xs : List D) (y : D), d = .cell n ∧ ds = [] ∧ e.cs[n]? = some (.lst xs) ∧ xs[xs.length - 1]? = some y ∧ P y { e with cs := e.cs.set n (.lst xs.dropLast) }
theorem md_pop0 {K : PySem.W.Frag} : MtD K rPop qPop0 := by
  rintro W H σ e x vs d ds P Q S r rs ⟨n, xs, y, rfl, rfl, hc, hy, p⟩ k
  cases rs
  cases r with
  | @cell _ a hm =>
    obtain ⟨vs, h1, h2⟩ := S.ok.cellL hm hc
    obtain ⟨z, hz, rz⟩ := h2.get hy
    refine ⟨a, vs, z, rfl, rfl, h1, by rw [h2.length]; exact hz, ?_⟩
    exact k _ _ _ _ _ p W.le_refl ⟨S.ok.setC hm hc (fun z => nomatch z) ⟨_, upd_same, h2.dropLast⟩, S.sl⟩ rz
/-! ### remove, count, index: items of any depth -/
def rRemD (K : PySem.W.Frag) : V → List V → Hp → VK → Prop := fun x xs H Q => ∃ (a : Addr) (ys : List V) (y : V) (d : PyData) (ds : List PyData) (j : Nat) (z : PyData), x = V.ref a ∧ xs = [y] ∧ H a = some (.lst ys) ∧ DpAll K H ys ds ∧ Dp K H y d ∧
  SeqAt.shaped (.list ds) = true ∧ SeqAt.shaped d = true ∧ ds[j]? = some z ∧ PyData.eqv z d = true ∧ (∀ (m : Nat) (z' : PyData), m < j → ds[m]? = some z' → PyData.eqv z' d = false) ∧ Q .non (upd H a (.lst (ys.eraseIdx j)))
theorem mt_remD {X : Cx} (hu : X.A.units + 65 < cLine) : MtM X "list.remove" (rRemD X.K) := by
  intro pins s σ H x xs v us Q I rx rxs h
  obtain ⟨a, ys, y, d, ds, j, z, rfl, rfl, hH, ha, hy, sl, sd, hz, hzj, hno, q⟩ := h
  cases rx
  obtain ⟨uy, rfl, ry⟩ := rxs.one
  obtain ⟨bs, r1⟩ := Dp.reads I d y uy hy ry
  have hxs : PyData.canLayAll0 ds = true := SeqAt.canLay_of_shaped sl
  have hroom : X.A.units + 1 + min (PyData.depthAll ds) d.depth < cLine := room_in_shaped sd hu
  obtain ⟨zz, its, n, rv, hl, ho⟩ := I.lstM hH
  obtain ⟨as, h4⟩ := Dp.readsAll I ds _ its ha rv
  have hn : its.length = ds.length := SeqAt.ReadsAll.length ds its as h4
  have hmap : its.map (SeqAt.readOf s.heap) = ds := SeqAt.readsAll_map ds its as hxs h4
  obtain ⟨hjd, _⟩ := List.getElem?_eq_some_iff.mp hz
  have hjl : j < its.length := by omega
  have hj : j < its.toArray.size := by simpa using hjl
  have at_ : ∀ (m : Nat) (hm : m < its.toArray.size) (z' : PyData), ds[m]? = some z' → SeqAt.readOf s.heap its.toArray[m] = z' := by
    intro m hm z' hz'
    have hml : m < its.length := by simpa using hm
    rw [← hmap, List.getElem?_map, List.getElem?_eq_getElem hml] at hz'
    have e1 : SeqAt.readOf s.heap its[m] = z' := Option.some.inj (show some (SeqAt.readOf s.heap its[m]) = some z' from hz')
    simpa using e1
  refine call_meets PySem.F.slot_list_remove ⟨_, ho, rfl⟩ PySem.F.entry_list_remove (PySem.F.args_list_remove_2 _ _)
    (SeqAt.list_removeAt a its.toArray n none #[] uy (fun u => PyData.eqv (SeqAt.readOf s.heap u) d) j hj ?_ ?_ (by rw [List.size_toArray]; omega)) ⟨ho, SeqAt.items_eqAt (vs := its.toArray) (show ReadsAll s.heap its.toArray.toList ds as from h4) r1 hxs (SeqAt.canLay_of_shaped sd) hroom, ?_⟩
  · show PyData.eqv (SeqAt.readOf s.heap its.toArray[j]) d = true
    rw [at_ j hj z hz]
    exact hzj
  · intro m hm hmj
    have hmd : m < ds.length := by omega
    have hz' : ds[m]? = some ds[m] := List.getElem?_eq_getElem hmd
    show PyData.eqv (SeqAt.readOf s.heap its.toArray[m]) d = false
    rw [at_ m hm _ hz']
    exact hno m _ hmj hz'
  · have rr := rv.eraseIdx j
    refine ⟨.non, _, I.lset (its' := its.eraseIdx j) (t' := s.toks) hH ho ?_ rr ?_, rfl, q⟩
    · show its.toArray.eraseIdxIfInBounds j = (its.eraseIdx j).toArray
      rw [List.eraseIdxIfInBounds_toArray]
    · have z2 := List.length_eraseIdx_le ys j
      omega
/-- where the first equal item stands -/
def FstAt (xs : List D) (y : D) (j : Nat) : Prop := (∃ z, xs[j]? = some z ∧ PyData.eqv (toP z) (toP y) = true) ∧ ∀ (m : Nat) (z : D), m < j → xs[m]? = some z → PyData.eqv (toP z) (toP y) = false
theorem toPs_map : ∀ xs : List D, toPs xs = xs.map toP
  | [] => rfl
  | x :: xs => by rw [toPs, toPs_map xs] <;> rfl
theorem FstAt.at {xs : List D} {y : D} {j : Nat} (h : FstAt xs y j) : (∃ z, (toPs xs)[j]? = some z ∧ PyData.eqv z (toP y) = true) ∧ ∀ (m : Nat) (z : PyData), m < j → (toPs xs)[m]? = some z → PyData.eqv z (toP y) = false := by
  obtain ⟨⟨z, h1, h2⟩, h3⟩ := h
  refine ⟨⟨toP z, by rw [toPs_map, List.getElem?_map, h1] <;> rfl, h2⟩, fun m w hm hw => ?_⟩
  rw [toPs_map, List.getElem?_map] at hw
  obtain ⟨z', e1, rfl⟩ := Option.map_eq_some_iff.mp hw
  exact h3 m z' hm e1
def qRem : D → List D → DE := fun d ds e P => ∃ (n : Nat) (xs : List D) (y : D) (j : Nat), d = .cell n ∧ ds = [y] ∧ e.cs[n]? = some (.lst xs) ∧ shp (.lst xs) = true ∧ shp (drf e.cs y) = true ∧ FstAt xs (drf e.cs y) j ∧ P .non { e with cs := e.cs.set n (.lst (xs.eraseIdx j)) }
theorem md_rem {K : PySem.W.Frag} : MtD K (rRemD K) qRem := by
  rintro W H σ e x vs d ds P Q S r rs ⟨n, xs, y, j, rfl, rfl, hc, s1, s2, hj, p⟩ k
  obtain ⟨v, rfl, rv⟩ := rs.one
  obtain ⟨o1, t1⟩ := shp_and s1
  obtain ⟨o2, t2⟩ := shp_and s2
  obtain ⟨⟨z, hz1, hz2⟩, hno⟩ := hj.at
  cases r with
  | @cell _ a hm =>
    obtain ⟨vs, h1, h2⟩ := S.ok.cellL hm hc
    refine ⟨a, vs, v, toP (drf e.cs y), toPs xs, j, z, rfl, rfl, h1, RAll.dp S.ok.ex xs vs h2 o1, S.ok.dp rv o2, t1, t2, hz1, hz2, hno, ?_⟩
    exact k _ _ _ _ _ p W.le_refl ⟨S.ok.setC hm hc (fun z => nomatch z) ⟨_, upd_same, h2.eraseIdx j⟩, S.sl⟩ .non
/-- xs.index(y) -/
def qIdxD : D → List D → DE := fun d ds e P => ∃ (xs : List D) (y : D) (j : Nat), lk e.cs d = some xs ∧ ds = [y] ∧ shp (.lst xs) = true ∧ shp (drf e.cs y) = true ∧ FstAt xs (drf e.cs y) j ∧ P (.int (j : Nat)) e
theorem md_idxD {K : PySem.W.Frag} : MtD K (rIndexD K) qIdxD := by
  rintro W H σ e x vs d ds P Q S r rs ⟨xs, y, j, hl, rfl, s1, s2, hj, p⟩ k
  obtain ⟨v, rfl, rv⟩ := rs.one
  obtain ⟨o1, t1⟩ := shp_and s1
  obtain ⟨o2, t2⟩ := shp_and s2
  obtain ⟨⟨z, hz1, hz2⟩, hno⟩ := hj.at
  obtain ⟨a, ws, rfl, h3, h4⟩ := S.ok.lk r hl
  exact ⟨a, v, toP (drf e.cs y), toPs xs, j, z, rfl, rfl, .lst h3 (RAll.dp S.ok.ex xs ws h4 o1), S.ok.dp rv o2, t1, t2, hz1, hz2, hno, k _ _ _ _ _ p W.le_refl S (.int _)⟩
/-- xs.count(y) -/
def rCntD (K : PySem.W.Frag) : V → List V → Hp → VK → Prop := fun x xs H Q => ∃ (a : Addr) (y : V) (d : PyData) (ds : List PyData), x = V.ref a ∧ xs = [y] ∧ Dp K H (V.ref a) (.list ds) ∧ Dp K H y d ∧
  SeqAt.shaped (.list ds) = true ∧ SeqAt.shaped d = true ∧ Q (.int (ds.countP (fun z => PyData.eqv z d) : Nat)) H
theorem mt_cntD {X : Cx} (hu : X.A.units + 65 < cLine) : MtR X "list.count" (rCntD X.K) := by
  intro pins s σ H x xs v us Q I rx rxs h
  obtain ⟨a, y, d, ds, rfl, rfl, hl, hy, sl, sd, q⟩ := h
  cases rx
  obtain ⟨uy, rfl, ry⟩ := rxs.one
  obtain ⟨bs, r1⟩ := Dp.reads I d y uy hy ry
  have hxs : PyData.canLayAll0 ds = true := SeqAt.canLay_of_shaped sl
  have hroom : X.A.units + 1 + min (PyData.depthAll ds) d.depth < cLine := room_in_shaped sd hu
  cases hl with
  | lst hs ha =>
    obtain ⟨its, rv, ⟨⟨cls, dd, data, sls⟩, n, ho, hc, hdn, hdt⟩, hlen⟩ := I.list hs
    simp only at hc hdt
    subst hc hdt
    obtain ⟨as, h4⟩ := Dp.readsAll I ds _ its ha rv
    have hmap : its.map (SeqAt.readOf s.heap) = ds := SeqAt.readsAll_map ds its as hxs h4
    refine call_meets PySem.F.slot_list_count ⟨_, ho, rfl⟩ PySem.F.entry_list_count (PySem.F.args_list_count_2 _ _)
      (SeqAt.list_countAt a its.toArray n dd sls uy (fun u => PyData.eqv (SeqAt.readOf s.heap u) d)) ⟨ho, SeqAt.items_eqAt (vs := its.toArray) (show ReadsAll s.heap its.toArray.toList ds as from h4) r1 hxs (SeqAt.canLay_of_shaped sd) hroom, ?_⟩
    have ec : its.toArray.toList.countP (fun u => PyData.eqv (SeqAt.readOf s.heap u) d) = ds.countP (fun z => PyData.eqv z d) := by
      rw [← hmap, List.countP_map]
      rfl
    refine ⟨.int (ds.countP (fun z => PyData.eqv z d) : Nat), H, I.tok _, ⟨s.toks, ?_⟩, q⟩
    rw [ec]
def qCntD : D → List D → DE := fun d ds e P => ∃ (xs : List D) (y : D), lk e.cs d = some xs ∧ ds = [y] ∧ shp (.lst xs) = true ∧ shp (drf e.cs y) = true ∧ P (.int (xs.countP (fun z => PyData.eqv (toP z) (toP (drf e.cs y))) : Nat)) e
theorem md_cntD {K : PySem.W.Frag} : MtD K (rCntD K) qCntD := by
  rintro W H σ e x vs d ds P Q S r rs ⟨xs, y, hl, rfl, s1, s2, p⟩ k
  obtain ⟨v, rfl, rv⟩ := rs.one
  obtain ⟨o1, t1⟩ := shp_and s1
  obtain ⟨o2, t2⟩ := shp_and s2
  obtain ⟨a, ws, rfl, h3, h4⟩ := S.ok.lk r hl
  refine ⟨a, v, toP (drf e.cs y), toPs xs, rfl, rfl, .lst h3 (RAll.dp S.ok.ex xs ws h4 o1), S.ok.dp rv o2, t1, t2, ?_⟩
  have ec : (toPs xs).countP (fun z => PyData.eqv z (toP (drf e.cs y))) = xs.countP (fun z => PyData.eqv (toP z) (toP (drf e.cs y))) := by
    rw [toPs_map, List.countP_map]
    rfl
  rw [ec]
  exact k _ _ _ _ _ p W.le_refl S (.int _)
/-! ### [*xs, y] -/
def aStar (te : DE) (tr : DA) : DA := fun e P => te e fun d e1 => ∃ xs, lkP e1.cs d = some xs ∧ tr e1 fun ys e2 => P (xs ++ ys) e2
theorem da_star {X : Cx} {B : Bs} {ex : Expr} {es : List Expr} {te : DE} {tr : DA} {p : Pos} (he : PE X ex (lE X.K B te)) (hr : PA X es (lA X.K B tr)) (hs : starEach (.Starred ex p :: es) X.env = (true, eval ex X.env) :: starEach es X.env := by rfl) : PA X (.Starred ex p :: es) (lA X.K B (aStar te tr)) :=
  PA.imp (StX.pa_star he hr hs) fun σ H Q ⟨W, e, P, bl, S, t, k⟩ => ⟨W, e, _, bl, S, t, fun d e1 W1 H1 v ⟨xs, hx, t1⟩ l1 S1 r1 => by
    obtain ⟨a, vs, rfl, h1, h2⟩ := S1.ok.lkP r1 hx
    exact ⟨a, vs, rfl, .inr (SqL.of h1), W1, e1, _, B.up bl l1, S1, t1, fun ys e2 W2 H2 ws p l2 S2 r2 => k _ _ _ _ _ p (l1.tr l2) S2 ((RAll.mono l2 _ _ h2).append r2)⟩⟩
theorem v_star {te : DE} {tr : DA} {e : En} {P : List D → En → Prop} (h : te e fun d e1 => ∃ xs, lkP e1.cs d = some xs ∧ tr e1 fun ys e2 => P (xs ++ ys) e2) : aStar te tr e P := h
/-! ### a, b, c = x, y, z -/
def sPar3 (i j l : Nat) (ta : DA) : DS := fun P e => ta e fun ds e1 => ∃ x y z, ds = [x, y, z] ∧ P.nx { e1 with sl := ((e1.sl.set i (some x)).set j (some y)).set l (some z) }
theorem ds_par3 {X : Cx} {B : Bs} {i j l : Nat} {x y z : Str} {a b c : Expr} {ta : DA} {px py pz pt k2p pos : Pos} {kt k2} (hc : X.calm = true) (hN : X.N.Nodup) (hi : X.N[i]? = some x) (hj : X.N[j]? = some y) (hl : X.N[l]? = some z) (hij : i ≠ j) (hil : i ≠ l) (hjl : j ≠ l)
    (hx : X.env.scope.names.lookup x = some .local) (hy : X.env.scope.names.lookup y = some .local) (hz : X.env.scope.names.lookup z = some .local) (ha : PA X [a, b, c] (lA X.K B ta))
    (hw : swappedStores [.Tuple [.Name x px, .Name y py, .Name z pz] kt pt] (.Tuple [a, b, c] k2 k2p) X.env = pure (some [x, y, z]) := by rfl)
    (hs : swapsWithSole [.Tuple [.Name x px, .Name y py, .Name z pz] kt pt] (.Tuple [a, b, c] k2 k2p) pos.line X.env = pure false := by rfl) :
    PS X (.Assign [.Tuple [.Name x px, .Name y py, .Name z pz] kt pt] (.Tuple [a, b, c] k2 k2p) pos) (lS X.K B (sPar3 i j l ta)) :=
  PS.imp (ps_par3 hc hN hi hj hl hij hil hjl hx hy hz ha hw hs) fun E σ H h => by
    obtain ⟨W, e, P, bl, S, h, cc⟩ := lS_un h
    refine ⟨W, e, _, bl, S, h, fun ds e1 W1 H1 vs ⟨x, y, z, hd, p⟩ l S1 r => ?_⟩
    subst hd
    cases r with
    | cons r1 r =>
      cases r with
      | cons r2 r =>
        cases r with
        | cons r3 r4 =>
          cases r4
          exact ⟨_, _, _, rfl, cc.nx _ _ _ _ p l ⟨S1.ok, ((S1.sl.set r1).set r2).set r3⟩⟩
theorem v_par3 {i j l : Nat} {ta : DA} {P : Po} {e : En} (h : ta e fun ds e1 => ∃ x y z, ds = [x, y, z] ∧ P.nx { e1 with sl := ((e1.sl.set i (some x)).set j (some y)).set l (some z) }) : sPar3 i j l ta P e := h
/-! ### (x, ..) * n -/
theorem tuple_mul1 (l : Addr) (items : Array Value) (n : Nat) (dd : Option Addr) (sl : Array (Option Value)) (u : Tok) :
    Meets (Builtin.«tuple.__mul__» ⟨[.ref l, .int 1 u], []⟩) (fun _ R s => s.heap.get? l = some { cls := .type "tuple", dict := dd, data := .seq items n, slots := sl } ∧ R (.ok (.ret (Value.ref l))) s) :=
  .of_wp fun prog w A R s h => by
    obtain ⟨hp, g, d, tk, os⟩ := s
    obtain ⟨hl, h⟩ := h
    have f1 := AutoSeq1.idx_int
    have c0 : (decide ((1 : Int) < -(2 ^ 63)) || decide ((1 : Int) ≥ 2 ^ 63)) = false := by decide
    have c1 : (items.isEmpty || (1 : Int) == 1) = true := by simp
    wp_walk using wpAny_loadPart' hl
    repeat (first
      | (refine wpAny_ite_false (decide_eq_false (by rw [c0]; exact Bool.false_ne_true)) ?_; wp_walk using wpAny_loadPart' hl)
      | (refine wpAny_ite_true (decide_eq_true (by rw [c1])) ?_; wp_walk using wpAny_loadPart' hl))
    exact ⟨_, rfl, h⟩
def rRep1 (K : PySem.W.Frag) : R2 := fun x y H Q => ∃ l xs, x = .ref l ∧ y = .int 1 ∧ SqT K H l xs ∧ Q x H
theorem op_rep1 {X : Cx} : OpR X (binaryOp .Mult) (rRep1 X.K) := by
  intro pins s σ H x y v u Q I rx ry h
  obtain ⟨l, xs, rfl, rfl, hT, q⟩ := h
  cases rx
  obtain ⟨t, rfl⟩ := ry
  obtain ⟨its, r, ⟨⟨cls, dd, data, sl⟩, ho, hc, n, hd⟩, hs⟩ := I.tuple hT
  simp only at hc hd
  subst hc hd
  refine wpAny_binaryOp_repeat_ref (T := "tuple") (U := "int") (by decide) ⟨_, ho, rfl⟩ (fun s' => typeIs_int s' 1 t) noFill_tuple_mul PySem.F.fills_int_mul PySem.F.slot_int_rmul repeat_tuple PySem.F.slot_int_index.lookup
    (call_meets PySem.F.slot_int_rmul (typeIs_int s 1 t) PySem.F.entry_int_rmul (PySem.F.args_int_rmul_2 _ _) (int_rmul_tuple 1 t l its.toArray n dd sl)
      ⟨ho, rfl, ⟨_, ho, rfl⟩, call_meets PySem.F.slot_tuple_mul ⟨_, ho, rfl⟩ PySem.F.entry_tuple_mul (PySem.F.args_tuple_mul_2 _ _) (tuple_mul1 l its.toArray n dd sl t) ⟨ho, ?_⟩⟩)
  exact ⟨.ref l, H, I, rfl, q⟩
def rRepA (K : PySem.W.Frag) : R2 := fun x y H Q => rRepT K x y H Q ∨ rRep1 K x y H Q
theorem op_repA {X : Cx} : OpR X (binaryOp .Mult) (rRepA X.K) := op_repT.or op_rep1
def qRepT : D → D → DE
  | .tup xs, .int k => fun e P => xs ≠ [] ∧ 1 ≤ k ∧ k ≤ 1000 ∧ xs.length ≤ 1000 ∧ P (.tup (List.replicate k.toNat xs).flatten) e
  | _, _ => fun _ _ => False
theorem RAll.rep {K : PySem.W.Frag} {W : Wd} {vs : List V} {ds : List D} (h : RAll K W vs ds) : ∀ n : Nat, RAll K W (List.replicate n vs).flatten (List.replicate n ds).flatten
  | 0 => .nil
  | n + 1 => by
    rw [List.replicate_succ, List.replicate_succ, List.flatten_cons, List.flatten_cons]
    exact h.append (RAll.rep h n)
theorem od_rep {K : PySem.W.Frag} : OpD K (rRepA K) qRepT := by
  intro W H σ e x y d1 d2 P Q S r1 r2 t k
  unfold qRepT at t
  split at t
  · obtain ⟨hne, h1, h2, hz, p⟩ := t
    cases r2
    cases r1 with
    | @tup l vs _ hs ha =>
      rename_i kk
      by_cases e1 : kk = 1
      · subst e1
        refine .inr ⟨l, vs, rfl, rfl, Evl.ex_t S.ok.ex hs, ?_⟩
        refine k _ _ _ _ _ p W.le_refl S ?_
        have e2 : ∀ {α : Type} (ys : List α), (List.replicate (1 : Int).toNat ys).flatten = ys := fun ys => by simp
        rw [e2]
        exact .tup hs ha
      · refine .inl ⟨l, _, vs, rfl, rfl, Evl.ex_t S.ok.ex hs, fun z => hne ?_, by omega, h2, by rw [ha.length]; exact hz, ?_⟩
        · subst z; cases ha; rfl
        · exact newT_ok S (ha.rep kk.toNat) p k
  · exact t.elim
theorem v_rep {xs : List D} {n : Int} {e : En} {P : D → En → Prop} (hne : xs ≠ []) (h1 : 1 ≤ n) (h2 : n ≤ 1000) (hz : xs.length ≤ 1000) (p : P (.tup (List.replicate n.toNat xs).flatten) e) : qRepT (.tup xs) (.int n) e P := ⟨hne, h1, h2, hz, p⟩
/-! ### isinstance(x, (T1, T2)) -/
def rIsiS (K : PySem.W.Frag) : List V → Hp → VK → Prop := fun xs H Q => ∃ (x : V) (tp : Addr) (cs : List V) (t : Value) (us : List Value) (b : Bool), xs = [x, .ref tp] ∧ SqT K H tp cs ∧ Paired ClsV cs us ∧ TyX K H x t ∧ PySem.W.kitAny K t us = some b ∧ Q (.bl b) H
theorem call_isiS {X : Cx} : CallR X (.builtin "isinstance") (rIsiS X.K) := by
  intro pins s σ H xs us Q I r h
  obtain ⟨x, tp, cs, t, ws, b, rfl, hT, k, ty, e, q⟩ := h
  obtain ⟨u1, u2, rfl, r1, r2⟩ := vals2 r
  cases (show u2 = Value.ref tp from r2)
  obtain ⟨P, Z, p, hx⟩ := kit_of I r1 ty
  obtain ⟨its, rv, ⟨o, h1, h2, n, h3⟩, _⟩ := I.tuple hT
  have e3 := ClsV.all k rv
  subst e3
  obtain ⟨oc, od, dt, sl⟩ := o
  simp only at h2 h3
  subst h2 h3
  exact PySem.W.kia_tup Z I.kIn p h1 e hx fun tk => ⟨.bl b, H, I.tok tk, rfl, q⟩
def qIsi2 : List D → DE
  | [d, .tup [.raw (.ty T), .raw (.ty U)]] => fun e P => tyKnown T = true ∧ tyKnown U = true ∧ ∃ a, tyN e.cs d = some a ∧ P (.bl (isTy a T || isTy a U)) e
  | _ => fun _ _ => False
theorem cd_isi2 {K : PySem.W.Frag} : CallD K (rIsiS K) qIsi2 := by
  intro W H σ e vs ds P Q S r t k
  unfold qIsi2 at t
  split at t
  · obtain ⟨v, v2, rfl, r1, r2⟩ := r.two
    obtain ⟨hT, hU, a, ea, p⟩ := t
    obtain ⟨ty, mem⟩ := S.ok.ty r1 ea
    cases r2 with
    | tup hs ha =>
      cases ha with
      | cons a1 a2 =>
        cases a2 with
        | cons a2 a3 =>
          cases a1; cases a2; cases a3
          refine ⟨v, _, _, _, [.type _, .type _], _, rfl, Evl.ex_t S.ok.ex hs, .cons (.ty _) (.cons (.ty _) .nil), ty, ?_, k _ _ _ _ _ p W.le_refl S (.bl _)⟩
          have e1 := kit_ty (K := K) (kit_in mem hT)
          have e2 := kit_ty (K := K) (kit_in mem hU)
          unfold PySem.W.kitAny
          rw [e1]
          rename_i T' U' _
          cases hb : isTy a T' with
          | true => rfl
          | false =>
            show (match PySem.W.kitOne K _ _ with
              | some true => some true
              | some false => PySem.W.kitAny K _ []
              | none => none) = _
            rw [e2]
            cases hb2 : isTy a U' with
            | true => rfl
            | false => rfl
  · exact t.elim
/-! ### k in d as a test -/
theorem de_din {X : Cx} {B : Bs} {o i : Expr} {td ti : DE} {pos : Pos} (hu : X.A.units + 1 < cLine) (hi : PE X i (lE X.K B ti)) (ho : PE X o (lE X.K B td)) (hm : behindInMarks CmpOp.In o = false) : PE X (.Compare i [.In] [o] pos) (lE X.K B (eDin ti td)) := pe_cmp (dc_din hu hi ho) hm
theorem dt_din {X : Cx} {B : Bs} {o i : Expr} {td ti : DE} {pos : Pos} (hu : X.A.units + 1 < cLine) (hi : PE X i (lE X.K B ti)) (ho : PE X o (lE X.K B td)) (hm : behindInMarks CmpOp.In o = false) : PT X (.Compare i [.In] [o] pos) (lT X.K B (eTest (eDin ti td))) :=
  PT.imp (pt_cmp (dc_din hu hi ho) hm) (test_ok fun _ _ _ z => z)
theorem units1 {k : Nat} {A : Around} (r : Room k A) : A.units + 1 < cLine := by have := r.un; omega
/-! ### a list that is given up: it changes no more -/
mutual
def subC (n : Nat) (ys : List D) : D → D
  | .tup xs => .tup (subCs n ys xs)
  | .lst xs => .lst (subCs n ys xs)
  | .fro xs => .fro (subCs n ys xs)
  | .ins C ns xs => .ins C ns (subCs n ys xs)
  | .cell m => if m = n then .lst ys else .cell m
  | .non => .non
  | .bl b => .bl b
  | .int i => .int i
  | .str s => .str s
  | .dct => .dct
  | .raw v => .raw v
  | .exc C p => .exc C p
def subCs (n : Nat) (ys : List D) : List D → List D
  | [] => []
  | x :: xs => subC n ys x :: subCs n ys xs
end
section
variable {K : PySem.W.Frag} {W : Wd} {n : Nat} {a : Addr} {vs : List V} {ys : List D}
mutual
theorem R.subC (hm : W.m[n]? = some a) (hF : W.F a = some (.lst vs)) (hr : RAll K W vs ys) : ∀ (d : D) (v : V), R K W v d → R K W v (DL.subC n ys d)
  | .non, _, h => by cases h; exact .non
  | .bl b, _, h => by cases h; exact .bl b
  | .int i, _, h => by cases h; exact .int i
  | .str s, _, h => by cases h; exact .str s
  | .tup xs, _, h => by
    cases h with
    | tup hs ha => exact .tup hs (RAll.subC hm hF hr xs _ ha)
  | .lst xs, _, h => by
    cases h with
    | lst hs ha => exact .lst hs (RAll.subC hm hF hr xs _ ha)
  | .fro xs, _, h => by
    cases h with
    | fro hs ha => exact .fro hs (RAll.subC hm hF hr xs _ ha)
  | .ins C ns xs, _, h => by
    cases h with
    | ins hs ha => exact .ins hs (RAll.subC hm hF hr xs _ ha)
  | .cell m, _, h => by
    cases h with
    | cell hs =>
      unfold DL.subC
      by_cases e : m = n
      · subst e
        rw [hm] at hs
        cases hs
        rw [if_pos rfl]
        exact .lst hF hr
      · rw [if_neg e]
        exact .cell hs
  | .dct, _, h => by cases h with | dct hs => exact .dct hs
  | .raw v, _, h => by cases h; exact .raw v
  | .exc C p, _, h => by cases h with | exc hs hp => exact .exc hs hp
theorem RAll.subC (hm : W.m[n]? = some a) (hF : W.F a = some (.lst vs)) (hr : RAll K W vs ys) : ∀ (ds : List D) (us : List V), RAll K W us ds → RAll K W us (DL.subCs n ys ds)
  | [], _, h => by cases h; exact .nil
  | d :: ds, _, h => by
    cases h with
    | cons h1 h2 => exact .cons (R.subC hm hF hr d _ h1) (RAll.subC hm hF hr ds _ h2)
end
end
/-- lists given up, one after the other -/
inductive Fzs : D → List Cel → D → List Cel → Prop
  | nil {d : D} {cs : List Cel} : Fzs d cs d cs
  | one {d d' : D} {cs cs' : List Cel} {n : Nat} {xs : List D} : cs[n]? = some (.lst xs) → Fzs (subC n xs d) (cs.set n .dead) d' cs' → Fzs d cs d' cs'
def eFz (te : DE) : DE := fun e P => te e fun d e1 => ∃ d' cs', Fzs d e1.cs d' cs' ∧ P d' { e1 with cs := cs' }
theorem fz_ok {K : PySem.W.Frag} {H : Hp} {σ : L2.St} {sl : List (Option D)} {v : V} {d d' : D} {cs cs' : List Cel} (h : Fzs d cs d' cs') : ∀ {W : Wd}, Sd K W H σ ⟨sl, cs⟩ → R K W v d → ∃ W', W.le W' ∧ Sd K W' H σ ⟨sl, cs'⟩ ∧ R K W' v d' := by
  induction h with
  | nil => exact fun {W} S r => ⟨W, W.le_refl, S, r⟩
  | @one d d' cs cs' n xs hc _ ih =>
    intro W S r
    have hn : n < W.m.length := by
      rw [S.ok.len]
      exact (List.getElem?_eq_some_iff.mp hc).1
    have hm : W.m[n]? = some W.m[n] := List.getElem?_eq_getElem hn
    obtain ⟨vs, h1, h2⟩ := S.ok.cellL hm hc
    obtain ⟨ok, l⟩ := S.ok.freeze hm hc h1
    have S2 : Sd K ⟨upd W.F W.m[n] (.lst vs), W.m, W.h⟩ H σ ⟨sl, cs.set n .dead⟩ := ⟨ok, S.sl.mono l⟩
    have r2 := R.subC (W := ⟨upd W.F W.m[n] (.lst vs), W.m, W.h⟩) (n := n) hm (show upd W.F W.m[n] (.lst vs) W.m[n] = _ from upd_same) (RAll.mono l _ _ h2) d v (R.mono l _ _ r)
    obtain ⟨W', l', S', r'⟩ := ih S2 r2
    exact ⟨W', l.tr l', S', r'⟩
theorem de_fz {X : Cx} {B : Bs} {ex : Expr} {te : DE} (he : PE X ex (lE X.K B te)) : PE X ex (lE X.K B (eFz te)) :=
  PE.imp he fun σ H Q ⟨W, e, P, bl, S, t, k⟩ => ⟨W, e, _, bl, S, t, fun d e1 W1 H1 v ⟨d', cs', hz, p⟩ l1 S1 r1 => by
    obtain ⟨W2, l2, S2, r2⟩ := fz_ok hz (sl := e1.sl) S1 r1
    exact k _ _ _ _ _ p (l1.tr l2) S2 r2⟩
theorem v_fz {te : DE} {e : En} {P : D → En → Prop} (h : te e fun d e1 => ∃ d' cs', Fzs d e1.cs d' cs' ∧ P d' { e1 with cs := cs' }) : eFz te e P := h
/-! ### script + [..]: a list that is known as it is -/
theorem list_addP (l : Addr) (o1 : Obj) (items : Array Value) (n : Nat) (b : Addr) (o2 : Obj) (items2 : Array Value) (n2 : Nat) (c1 : o1.cls = .type "list") (d1 : o1.data = .seq items n) (c2 : o2.cls = .type "list") (d2 : o2.data = .seq items2 n2) (hc0 : items.size + items2.size ≤ sizeLine) :
    Meets (Builtin.«list.__add__» ⟨[.ref l, .ref b], []⟩) (fun _ R s => s.heap.get? l = some o1 ∧ s.heap.get? b = some o2 ∧ R (.ok (.ret (Value.ref s.heap.objs.size))) { s with heap := s.heap.push { cls := Value.type "list", data := Data.seq (items ++ items2) }, toks := s.toks }) :=
  .of_wp fun prog w A R s h => by
    obtain ⟨oc, od, dt, sl⟩ := o1
    obtain ⟨oc2, od2, dt2, sl2⟩ := o2
    simp only at c1 d1 c2 d2
    subst c1 d1 c2 d2
    obtain ⟨hp, g, d, tk, os⟩ := s; obtain ⟨hl, hb, h⟩ := h; have f1 := PySem.AutoSeq1.idx_int; have f2 := PySem.AutoSeq1.sub_tuple_tuple; have f3 := PySem.AutoSeq1.sub_list_list; have f4 := PySem.AutoSeq1.sub_tuple_list; have f5 := PySem.AutoSeq1.sub_list_tuple; wp_walk using wpAny_loadPart' hl, wpAny_loadPart' hb; exact ⟨_, rfl, h⟩
def rCatF (K : PySem.W.Frag) : R2 := fun x y H Q => ∃ l b xs zs, x = .ref l ∧ y = .ref b ∧ SqL K H l xs ∧ H b = some (.lst zs) ∧ xs.length + zs.length ≤ sizeLine ∧ ∀ p, H p = none → Q (.ref p) (upd H p (.lst (xs ++ zs)))
theorem op_catF {X : Cx} : OpR X (binaryOp .Add) (rCatF X.K) := by
  intro pins s σ H x y v u Q I rx ry h
  obtain ⟨l, b, xs, zs, rfl, rfl, hH, hB, hz, q⟩ := h
  cases rx
  cases ry
  obtain ⟨its, r, ⟨o, n, e, hc, _, hdt⟩, hl⟩ := I.list hH
  obtain ⟨z2, its2, n2, r2, hl2, e2⟩ := I.lstM hB
  have el := r.length
  refine concat_meets ⟨o, e, hc⟩ ⟨_, e2, rfl⟩ noFill_list_add seq_list_add F.slot_list_add F.entry_list_add (F.args_list_add_2 _ _) (list_addP l o its.toArray n b _ its2.toArray n2 hc hdt rfl rfl (by rw [List.size_toArray, List.size_toArray]; omega)) ⟨e, e2, ?_⟩
  have ea : its.toArray ++ its2.toArray = (its ++ its2).toArray := by simp
  rw [ea]
  exact ⟨.ref _, _, I.lnew (t' := s.toks) (r.append r2) (by rw [List.length_append]; omega), rfl, q _ I.fresh⟩
def qCatF (o : Bool) : D → D → DE := fun x y e P => ∃ xs ys, x = .fro xs ∧ lkP e.cs y = some ys ∧ xs.length + ys.length ≤ sizeLine ∧ newL o (xs ++ ys) e P
theorem od_catF {K : PySem.W.Frag} {o : Bool} : OpD K (rCatF K) (qCatF o) := by
  rintro W H σ e x y d1 d2 P Q S r1 r2 ⟨xs, ys, rfl, e2, hz, t⟩ k
  cases r1 with
  | fro h1 q1 =>
    obtain ⟨p2, ws, rfl, h2, q2⟩ := S.ok.lkP r2 e2
    exact ⟨_, p2, _, ws, rfl, rfl, Evl.ex_l S.ok.ex h1, h2, by rw [q1.length, q2.length]; exact hz, newL_ok S (q1.append q2) t k⟩
theorem v_catF {o : Bool} {x y : D} {e : En} {P : D → En → Prop} {xs ys : List D} (h1 : x = .fro xs) (h2 : lkP e.cs y = some ys) (hz : xs.length + ys.length ≤ 100000) (p : newL o (xs ++ ys) e P) : qCatF o x y e P := ⟨xs, ys, h1, h2, Nat.le_trans hz (by decide), p⟩
end DL
/-! exceptions: what leaves a def, by class, what it holds, and cells -/
namespace DL
open PySem PySem.Spec PyProof.Rows L2
open Evl (Ex)

/-- an exception: its class, and its field index, if its class has that -/
structure XN where
  c : Str
  p : Option Int
def xnF (i : Int) : List (Str × V) := [("index", .int i)]
def PayOk (p : Option Int) (d : Option Addr) (W : Wd) : Prop := match p with
  | none => d = none
  | some i => ∃ dd, d = some dd ∧ W.F dd = some (.xd (xnF i))
theorem PayOk.mono {p : Option Int} {d : Option Addr} {W W' : Wd} (h : PayOk p d W) (l : W.le W') : PayOk p d W' := by
  cases p with
  | none => exact h
  | some i =>
    obtain ⟨dd, e1, e2⟩ := h
    exact ⟨dd, e1, l.1 _ _ e2⟩
/-- a promise with what may be raised -/
abbrev SpX := List D → List Cel → (D → List Cel → Prop) → (XN → List Cel → Prop) → Prop
def spDX (K : PySem.W.Frag) (sp : SpX) : Sp := fun vs H Q E => ∃ W cs ds P PX, Ok K W H cs ∧ RAll K W vs ds ∧ sp ds cs P PX ∧ (∀ d cs' W' H' v, P d cs' → W.le W' → Ok K W' H' cs' → R K W' v d → Q v H') ∧
  ∀ x cs' W' H' d, PX x cs' → PayOk x.p d W' → W.le W' → Ok K W' H' cs' → E (.ref (He.ga K x.c)) d H'
def GoodX (P : Program) (w : World) (K : PySem.W.Frag) (mg : Str → Option Value) (base : Heap) (k : Nat) (f : Addr) (ps : List Str) (sp : SpX) : Prop :=
  ∃ fd, FnOk P w K mg base (L2.CX P w) k f fd ps (spDX K sp) ∧ Binds K fd ps [] ∧ PySem.W.keepIn K (.ref f) = true
theorem GoodX.mono {P : Program} {w : World} {K : PySem.W.Frag} {mg : Str → Option Value} {base : Heap} {j k : Nat} {f : Addr} {ps : List Str} {sp : SpX} (g : GoodX P w K mg base j f ps sp) (h : j ≤ k) : GoodX P w K mg base k f ps sp := by
  obtain ⟨fd, F, b, kp⟩ := g
  exact ⟨fd, F.mono h, b, kp⟩
/-- what is wished of an exception -/
def wE (K : PySem.W.Frag) (B : Bs) (XX : XN → List Cel → Prop) : XK := fun cls d H => ∃ x W cs, cls = .ref (He.ga K x.c) ∧ PayOk x.p d W ∧ B.p W ∧ Ok K W H cs ∧ XX x cs
def XT (X : Cx) (B : Bs) (XX : XN → List Cel → Prop) : Prop := L2.Takes X (fun cls d _ H => wE X.K B XX cls d H)
theorem XT.passes {X : Cx} {B : Bs} {XX : XN → List Cel → Prop} (tk : XT X B XX) : Passes (L2.CX X.prog X.w) X (wE X.K B XX) :=
  fun pins σ H s e s' I c => L2.passes_call tk (fun _ _ _ _ h => h) pins σ H s e s' I c
/-- with the slots' number -/
theorem XT.of {X : Cx} {B : Bs} {XX : XN → List Cel → Prop} {W : WX} (t : L2.Takes X W) (h : ∀ cls d σ H, σ.length = X.N.length → wE X.K B XX cls d H → W cls d σ H) : XT X B XX :=
  fun u s' ⟨a, B', sI, pins, σ, H, cls, d, e, I, nb, up, sky, na, os, ag, w⟩ => t u s' ⟨a, B', sI, pins, σ, H, cls, d, e, I, nb, up, sky, na, os, ag, h _ _ _ _ I.len w⟩

/-! ### raise -/
section
variable {X : Cx} {B : Bs} {XX : XN → List Cel → Prop} {ex a b o ix : Expr} {es : List Expr} {te tv to ti ta' tb' : DE} {ta : DA} {C : Addr} {f m x : Str} {pos apos p p2 : Pos} {k : Nat} {fn : Addr} {ps : List Str} {sp : SpX}
def sRaise (XX : XN → List Cel → Prop) (c : Str) : DS := fun _ e => XX ⟨c, none⟩ e.cs
theorem ds_raise {c : Str} {j : Nat} (hc : X.calm = true) (tk : XT X B XX) (xo : PySem.W.excIn X.K (He.ga X.K c) He.veBase "ValueError.__new__" = true ∧ PySem.W.keepIn X.K (.ref (He.ga X.K c)) = true ∧ PySem.W.subIn X.K (.ref (He.ga X.K c)) (.type "BaseException") = some true ∧ PySem.W.typeIn X.K (.ref (He.ga X.K c)) = some (.type "type"))
    (gC : X.mg c = some (.ref (He.ga X.K c))) (hg : Gl X c) (hdb : (c == ("__debug__" : Str)) = false := by decide) : PS X (.Raise (some (.Call (.Name c p) [.Constant (.str m) j p2] [] pos)) none apos) (lS X.K B (sRaise XX c)) :=
  PS.imp (L2.ps_raise hc tk (L2.pmk_own F.excBase_ValueError xo.1 gC xo.2.1 (raises_own xo.2.2.1 xo.2.2.2) hg hdb)) fun E σ H h => by
    obtain ⟨W, e, P, bl, S, h, _⟩ := lS_un h
    exact ⟨⟨c, none⟩, W, e.cs, rfl, rfl, bl, S.ok, h⟩

/-! ### calls that may raise -/
def eCallX (XX : XN → List Cel → Prop) (sp : SpX) (ta : DA) : DE := fun e P => ta e fun ds e1 => sp ds e1.cs (fun d cs' => P d { e1 with cs := cs' }) XX
theorem de_callX (G : GoodX X.prog X.w X.K X.mg X.base k fn ps sp) (tk : XT X B XX) (hr : Room k X.A) (hm : X.mg x = some (.ref fn)) (ha : PA X (ex :: es) (lA X.K B ta)) (hg : Gl X x := by rfl) (hdb : (x == ("__debug__" : Str)) = false := by decide)
    (he : starEach (ex :: es) X.env = (false, eval ex X.env) :: starEach es X.env := by rfl) (hpl : (backTo pos (starEach es X.env)).any (·.1) = false := by rfl) : PE X (.Call (.Name x p) (ex :: es) [] pos) (lE X.K B (eCallX XX sp ta)) := by
  obtain ⟨fd, F, b, kp⟩ := G
  refine PE.imp (pe_call F hr hg hm kp b .nil tk.passes ha hdb he hpl) fun σ H Q ⟨W, e, P, bl, S, t, k⟩ => ⟨W, e, _, bl, S, t, fun ds e1 W1 H1 vs h l S1 r => ?_⟩
  show spDX X.K sp (vs ++ []) H1 Q (wE X.K B XX)
  rw [List.append_nil]
  exact ⟨W1, e1.cs, ds, _, XX, S1.ok, r, h, fun d cs' W2 H2 v p l2 ok2 r2 => k _ _ _ _ _ p (l.tr l2) ⟨ok2, S1.sl.mono l2⟩ r2, fun x cs' W2 H2 d px pd l2 ok2 => ⟨x, W2, cs', rfl, pd, B.up bl (l.tr l2), ok2, px⟩⟩
/-- what the caller sees: its own cells -/
def FinX (cs0 : List Cel) (PX : XN → List Cel → Prop) (x : XN) (cs : List Cel) : Prop := PX x cs ∨ ((∀ c ∈ cs.take cs0.length, c ∈ cs0 ∨ c.loD cs0.length = true) ∧ PX x (cs.take cs0.length))
def eMakeX (C : Addr) (XX : XN → List Cel → Prop) (sp : SpX) (ta : DA) : DE := fun e P => ta e fun ds e1 => sp (.cell e1.cs.length :: ds) (e1.cs ++ [.ins C [] []])
  (fun d cs' => d = .non ∧ (P (.cell e1.cs.length) { e1 with cs := cs' } ∨ ∃ cs1 C' ns xs, cs' = cs1 ++ [.ins C' ns xs] ∧ cs1.length = e1.cs.length ∧ los e1.cs.length xs = true ∧ (∀ c ∈ cs1, c ∈ e1.cs ∨ c.loD e1.cs.length = true) ∧ P (.ins C' ns xs) { e1 with cs := cs1 }))
  (FinX e1.cs XX)
theorem de_makeX (G : GoodX X.prog X.w X.K X.mg X.base k fn ps sp) (tk : XT X B XX) (hr : Room (k + 1) X.A) (M : Mk X.K C fn) (hm : X.mg x = some (.ref C)) (ha : PA X (ex :: es) (lA X.K B ta)) (hg : Gl X x := by rfl) (hdb : (x == ("__debug__" : Str)) = false := by decide)
    (he : starEach (ex :: es) X.env = (false, eval ex X.env) :: starEach es X.env := by rfl) (hpl : (backTo pos (starEach es X.env)).any (·.1) = false := by rfl) : PE X (.Call (.Name x p) (ex :: es) [] pos) (lE X.K B (eMakeX C XX sp ta)) := by
  obtain ⟨fd, F, bb, kp⟩ := G
  refine PE.imp (pe_make M F hr hg hm bb .nil tk.passes ha hdb he hpl) fun σ H Q ⟨W, e, P, bl, S, t, k⟩ => ⟨W, e, _, bl, S, t, fun ds e1 W1 H1 vs h l S1 r => fun x dx hx hdx hne => ?_⟩
  have hx2 : upd H1 dx (.own x) x = none := by rw [upd_ne (Ne.symm hne)]; exact hx
  have okd : Ok X.K W1 (upd H1 dx (.own x)) e1.cs := by
    have ne : ∀ a ∈ W1.m, a ≠ dx := fun a ha e => S1.ok.fresh hdx (e ▸ ha)
    have neh : ∀ q ∈ W1.h, q.1 ≠ dx := fun q hq e => by
      have := (S1.ok.hd q hq).1
      rw [e, hdx] at this; cases this
    refine ⟨S1.ok.ex.trans (Ex.new hdx), S1.ok.len, S1.ok.nd, fun a ha => by rw [upd_ne (ne a ha)]; exact S1.ok.here a ha, S1.ok.fr, fun n a c e1 e2 => (S1.ok.cl n a c e1 e2).heap (upd_ne (ne a (List.mem_of_getElem? e1))), fun q hq => ?_, S1.ok.hn⟩
    obtain ⟨g1, g2, g3⟩ := S1.ok.hd q hq
    exact ⟨by rw [upd_ne (neh q hq)]; exact g1, g2, g3⟩
  obtain ⟨ok, l2⟩ := okd.newC (o := .ins C dx []) (c := .ins C [] []) hx2 fun W' l => ⟨dx, [], upd_same, rfl, .nil⟩
  have rc : R X.K ⟨W1.F, W1.m ++ [x], W1.h⟩ (.ref x) (.cell e1.cs.length) := .cell (by
    show (W1.m ++ [x])[e1.cs.length]? = some x
    rw [← S1.ok.len, List.getElem?_append_right (Nat.le_refl _)]
    simp)
  rw [List.append_nil]
  refine ⟨_, _, _, _, FinX e1.cs XX, ok, .cons rc (RAll.mono l2 _ _ r), h, fun d cs' W3 H3 v ⟨hd, p⟩ l3 ok3 r3 => ⟨by subst hd; exact r3.non_inv, ?_⟩, fun xn cs' W3 H3 dd px pd l3 ok3 => ?_⟩
  · rcases p with p | ⟨cs1, C', ns, xs, rfl, hl, hx, hc, p⟩
    · exact k _ _ _ _ _ p ((l.tr l2).tr l3) ⟨ok3, S1.sl.mono (l2.tr l3)⟩ (R.mono l3 _ _ rc)
    · have l13 := l2.tr l3
      have tk : (cs1 ++ [Cel.ins C' ns xs]).take e1.cs.length = cs1 := by rw [← hl]; exact List.take_left
      obtain ⟨ok4, l4⟩ := S1.ok.trim ok3 l13 (by rw [tk]; exact hc)
      rw [tk] at ok4
      have rc3 := R.mono l3 _ _ rc
      cases rc3 with
      | cell hm =>
        have hcl : (cs1 ++ [Cel.ins C' ns xs])[e1.cs.length]? = some (Cel.ins C' ns xs) := by
          rw [← hl, List.getElem?_append_right (Nat.le_refl _)]; simp
        obtain ⟨dx', gs, g1, g2, g3⟩ := ok3.cl _ _ _ hm hcl
        have g4 : RAll X.K ⟨W3.F, W3.m.take e1.cs.length, W3.h⟩ (gs.map (·.2)) xs := RAll.low _ _ g3 hx
        have hF : W3.F x = none := (ok3.fr _ _ _ hm hcl).resolve_left fun z => nomatch z
        obtain ⟨ok5, l5⟩ := ok4.addF g1 hF (ok3.old_out hm) (fun q hq e => (ok3.hd q hq).2.2 (e ▸ List.mem_of_getElem? hm))
        subst g2
        exact k _ _ _ _ _ p (l.tr (l4.tr l5)) ⟨ok5, S1.sl.mono (l4.tr l5)⟩ (.ins upd_same (RAll.mono l5 _ _ g4))
  · have l13 := l2.tr l3
    rcases px with px | ⟨hc, px⟩
    · exact ⟨xn, W3, cs', rfl, pd, B.up bl (l.tr l13), ok3, px⟩
    · obtain ⟨ok4, l4⟩ := S1.ok.trim ok3 l13 hc
      exact ⟨xn, ⟨W3.F, W3.m.take e1.cs.length, W3.h⟩, _, rfl, pd, B.up bl (l.tr l4), ok4, px⟩
/-- the callee at any nearness -/
theorem run_inX {pins : List (Addr × Obj)} {σ : L2.St} {H : Hp} {s : Shared} {A : Around} {fd : FuncData} {sp : Sp} {E : XK} {Q : VK} {us : List Value} {vs : List V} (F : FnOk X.prog X.w X.K X.mg X.base (L2.CX X.prog X.w) k fn fd ps sp) (hb : Binds X.K fd ps []) (hr : Room k A)
    (e0 : Env0 X.prog X.w X.K X.mg X.base A X.stack s H) (hx : Passes (L2.CX X.prog X.w) X E) (I : Inv X pins σ H s) (r : Vals vs us) (h : sp vs H Q E) : wpAny (model X.prog X.w) A (call (.ref fn) us) (EP X pins σ Q) X.xe s := by
  have hl : (us ++ []).length = ps.length := by rw [List.append_nil, ← r.length]; exact F.len _ _ _ _ h
  have hbt := hb s us I.kIn hl
  rw [List.append_nil] at hbt
  refine wpAny_call (codeAny_mono (F.run A X.stack s H ⟨us, []⟩ us vs Q E hr e0 hbt r h) fun r s' hq => ?_)
  cases r with
  | error e => exact hx _ _ _ _ _ _ I hq
  | ok fl =>
    cases fl with
    | ret u => exact I.after hq
    | next => exact False.elim hq
    | brk => exact False.elim hq
    | cont => exact False.elim hq
def rTwoX (K : PySem.W.Frag) (B : Bs) (XX : XN → List Cel → Prop) (C C2 : Addr) (sp : SpX) : R2 := fun x y H Q => ∃ a dx gs b dy gt, x = .ref a ∧ H a = some (.ins C dx gs) ∧ y = .ref b ∧ H b = some (.ins C2 dy gt) ∧ spDX K sp [.ref a, .ref b] H Q (wE K B XX)
def qTwoX (C C2 : Addr) (XX : XN → List Cel → Prop) (sp : SpX) : D → D → DE := fun d y e P => (∃ ns xs, insD e.cs d = some (C, ns, xs)) ∧ (∃ ns xs, insD e.cs y = some (C2, ns, xs)) ∧ sp [d, y] e.cs (fun r cs' => P r { e with cs := cs' }) XX
theorem op_binX {C : Addr} {op : Operator} (G : GoodX X.prog X.w X.K X.mg X.base k fn ps sp) (tk : XT X B XX) (hr : Room k X.A) (sm : Sm X.K C (PySem.dunder op.info.2) fn) (hc : PySem.W.selfFirst X.K C = true) : OpR X (binaryOp op) (rTwoX X.K B XX C C sp) := by
  rintro pins s σ H x y v u Q I rx ry ⟨a, dx, gs, b, dy, gt, rfl, ha, rfl, hb, h⟩
  obtain ⟨fd, F, bi, kp⟩ := G
  cases (show v = Value.ref a from rx)
  cases (show u = Value.ref b from ry)
  obtain ⟨od, J⟩ := Inv.inst I ha
  obtain ⟨od2, J2⟩ := Inv.inst I hb
  obtain ⟨m, hF⟩ := I.fr
  refine PySem.W.binop_K hF I.ok.mod.kin J J2.type hc sm.at_ sm.fn (wpAny_mono (run_inX (us := [.ref a, .ref b]) (vs := [V.ref a, V.ref b]) F bi hr I.env0 tk.passes I (.cons rfl (.cons rfl .nil)) h) (fun v s' z => ?_) fun _ _ z => z)
  obtain ⟨v', H', I', rv, q⟩ := z
  exact RelV.cmp rv (P := EP X pins σ Q) ⟨v', H', I', rv, q⟩
/-- such an operation: the world is known all along -/
def OpDX (K : PySem.W.Frag) (B : Bs) (r : R2) (q : D → D → DE) : Prop := ∀ (W : Wd) (H : Hp) (σ : L2.St) (e : En) (x y : V) (d1 d2 : D) (P : D → En → Prop) (Q : VK), B.p W → Sd K W H σ e → R K W x d1 → R K W y d2 → q d1 d2 e P →
  (∀ d e' W' H' v, P d e' → W.le W' → Sd K W' H' σ e' → R K W' v d → Q v H') → r x y H Q
theorem od_twoX {K : PySem.W.Frag} {C C2 : Addr} : OpDX K B (rTwoX K B XX C C2 sp) (qTwoX C C2 XX sp) := fun W H σ e x y d1 d2 P Q bl S r1 r2 ⟨⟨n1, x1, i1⟩, ⟨n2, x2, i2⟩, t⟩ k => by
  obtain ⟨a, dx, gs, rfl, h1, h2, h3⟩ := S.ok.ins r1 i1
  obtain ⟨b, dy, gt, rfl, h1', h2', h3'⟩ := S.ok.ins r2 i2
  exact ⟨a, dx, gs, b, dy, gt, rfl, h1, rfl, h1', W, e.cs, [d1, d2], _, XX, S.ok, .cons r1 (.cons r2 .nil), t, fun d cs' W' H' v p l ok r' => k _ _ _ _ _ p l ⟨ok, S.sl.mono l⟩ r', fun x cs' W' H' d px pd l ok => ⟨x, W', cs', rfl, pd, B.up bl l, ok, px⟩⟩
theorem de_binX {op : Operator} {r : R2} {q : D → D → DE} (ho : OpR X (binaryOp op) r) (hq : OpDX X.K B r q) (ha : PE X a (lE X.K B ta')) (hb : PE X b (lE X.K B tb')) : PE X (.BinOp a op b pos) (lE X.K B (eBin q ta' tb')) :=
  PE.imp (pe_op ho ha hb) fun σ H Q ⟨W, e, P, bl, S, t, k⟩ => ⟨W, e, _, bl, S, t, fun x e1 W1 H1 v1 t1 l1 S1 r1 => ⟨W1, e1, _, (B.up bl l1), S1, t1, fun y e2 W2 H2 v2 t2 l2 S2 r2 =>
    hq W2 H2 σ e2 v1 v2 x y P Q (B.up bl (l1.tr l2)) S2 (R.mono l2 _ _ r1) r2 t2 fun d e3 W3 H3 v3 p l3 S3 r3 => k d e3 W3 H3 v3 p ((l1.tr l2).tr l3) S3 r3⟩⟩
def rSetX (K : PySem.W.Frag) (B : Bs) (XX : XN → List Cel → Prop) (C : Addr) (sp : SpX) : TSet := fun x i v H Q => ∃ a dx gs, x = .ref a ∧ H a = some (.ins C dx gs) ∧ spDX K sp [.ref a, i, v] H (fun _ H' => Q H') (wE K B XX)
theorem set_ownX (G : GoodX X.prog X.w X.K X.mg X.base k fn ps sp) (tk : XT X B XX) (hr : Room k X.A) (sm : Sm X.K C "__setitem__" fn) (hq : PySem.W.noSeq X.K C = true) : PSet X (rSetX X.K B XX C sp) := by
  rintro pins s σ H x i v ov iv u Q I rx ri rv ⟨a, dx, gs, rfl, ha, h⟩
  obtain ⟨fd, F, bi, kp⟩ := G
  cases (show ov = Value.ref a from rx)
  obtain ⟨od, J⟩ := Inv.inst I ha
  obtain ⟨m, hF⟩ := I.fr
  have KX := I.kIn
  unfold setItem sequenceKey callSpecial?
  refine wpAny_holding (wpAny_bind (wpAny_bind (J.type.here ?_)))
  refine wpAny_bind ((PySem.W.anyM_none KX hq).here ?_)
  rw [if_pos (show (!false) = true from rfl)]
  refine wpAny_pure (wpAny_bind ?_)
  refine wpAny_mono (PySem.W.special_fn (Q := fun r s' => r ≠ none ∧ ∃ H', Inv X pins σ H' s' ∧ Q H') KX J sm.at_ (beq_iff_eq.mp sm.fn) (wpAny_mono (run_inX (us := [.ref a, iv, u]) (vs := [V.ref a, i, v]) F bi hr I.env0 tk.passes I (.cons rfl (.cons ri (.cons rv .nil))) h) (fun v s' z => ?_) fun _ _ z => z)) (fun r s' z => ?_) fun _ _ z => z
  · obtain ⟨v', H', I', rv, q⟩ := z
    exact ⟨(fun z => nomatch z), H', I', q⟩
  · obtain ⟨h1, H', I', q⟩ := z
    cases r with
    | none => exact absurd rfl h1
    | some _ => exact wpAny_pure ⟨H', I', q⟩
def sSetX (C : Addr) (XX : XN → List Cel → Prop) (sp : SpX) (tv to ti : DE) : DS := fun P e => tv e fun v e1 => to e1 fun o e2 => ti e2 fun i e3 => (∃ ns xs, insD e3.cs o = some (C, ns, xs)) ∧ sp [o, i, v] e3.cs (fun _ cs' => P.nx { e3 with cs := cs' }) XX
theorem ds_setX (G : GoodX X.prog X.w X.K X.mg X.base k fn ps sp) (tk : XT X B XX) (hr : Room k X.A) (sm : Sm X.K C "__setitem__" fn) (hq : PySem.W.noSeq X.K C = true) (hv : PE X ex (lE X.K B tv)) (ho : PE X o (lE X.K B to)) (hi : PE X ix (lE X.K B ti))
    (ha : ∀ v, assign (.Subscript o ix p2) X.env v = (do
      let ov ← holding [v] (eval o X.env)
      let iv ← holding [v, ov] (eval ix X.env)
      standAt p2
      holding [v, ov, iv] (setItem ov iv v)
      release [v, ov, iv] []) := by intro _; rfl)
    (hs : swapsWithSole [.Subscript o ix p2] ex pos.line X.env = pure false := by rfl) (hw : swappedStores [.Subscript o ix p2] ex X.env = pure none := by rfl)
    (h1 : (assignEach [.Subscript o ix p2] X.env).map (·.2) = [assign (.Subscript o ix p2) X.env] := by rfl) : PS X (.Assign [.Subscript o ix p2] ex pos) (lS X.K B (sSetX C XX sp tv to ti)) := PS.imp (ps_asg hv (pg_sub ho hi (set_ownX G tk hr sm hq) ha) hs hw h1) fun E σ H h => by
  obtain ⟨W, e, P, bl, S, h, c⟩ := lS_un h
  refine ⟨W, e, _, bl, S, h, fun d e1 W1 H1 v t1 l1 S1 r1 => ⟨W1, e1, _, B.up bl l1, S1, t1, fun ob e2 W2 H2 w t2 l2 S2 r2 => ⟨W2, e2, _, B.up bl (l1.tr l2), S2, t2, fun ix e3 W3 H3 x t3 l3 S3 r3 => ?_⟩⟩⟩
  obtain ⟨⟨ns, xs, hi⟩, t3⟩ := t3
  have r23 := R.mono l3 _ _ r2
  have b3 := B.up bl ((l1.tr l2).tr l3)
  obtain ⟨a, dx, gs, rfl, h1', h2', h3'⟩ := S3.ok.ins r23 hi
  exact ⟨a, dx, gs, rfl, h1', W3, e3.cs, [ob, ix, d], _, XX, S3.ok, .cons r23 (.cons r3 (.cons (R.mono (l2.tr l3) _ _ r1) .nil)), t3, fun d' cs' W' H' v' p l ok r' => c.nx _ _ _ _ p (((l1.tr l2).tr l3).tr l) ⟨ok, S3.sl.mono l⟩,
    fun x cs' W' H' d px pd l ok => ⟨x, W', cs', rfl, pd, B.up b3 l, ok, px⟩⟩
end

/-! ### a def that may raise -/
abbrev cxX (P : Program) (w : World) (K : PySem.W.Frag) (mg : Str → Option Value) (base : Heap) (N : List Str) (qual : Str) (scope : Scope) (f : Addr) (cd : Value) (A : Around) (outer : List Env) (s : Shared) (H : Hp) (E : XK) : Cx := cxOf (L2.CX P w) P w K mg base N qual scope f cd A outer s H E
theorem fn_dX {P : Program} {w : World} {K : PySem.W.Frag} {mg : Str → Option Value} {base : Heap} {x qual : Str} {params : Arguments} {body : List Stmt} {scope : Scope} {dvs : List V} {kws : List (Str × V)} {f : Addr} {fd : FuncData} {N ps : List Str} {k : Nat} {sp : SpX} {t : (XN → List Cel → Prop) → DS}
    (F : FunD K x qual params body scope dvs kws f fd) (S : FnScope N ps scope) (len : ∀ ds cs Q QX, sp ds cs Q QX → ds.length = ps.length)
    (der : ∀ (cdv : Value) (A : Around) (outer : List Env) (s : Shared) (H : Hp) (E : XK) (B : Bs) (XX : XN → List Cel → Prop), Room k (A.deeper (envOfC qual scope s.heap.objs.size f cdv)) → XT (cxX P w K mg base N qual scope f cdv A outer s H E) B XX →
      PassesOwn (model P w) (A.deeper (envOfC qual scope s.heap.objs.size f cdv)) (envOfC qual scope s.heap.objs.size f cdv) (cxX P w K mg base N qual scope f cdv A outer s H E).xe → PSs (cxX P w K mg base N qual scope f cdv A outer s H E) body (lS K B (t XX)))
    (vc : ∀ ds cs Q QX, (∀ d ∈ ds, loD cs.length d = true) → (∀ c ∈ cs, c.loD cs.length = true) → sp ds cs Q QX → t (FinX cs QX) (Po.fn cs Q) ⟨startD N ds, cs⟩) : FnOk P w K mg base (L2.CX P w) (k + 1) f fd ps (spDX K sp) := by
  refine F.ok S (fun vs H Q E ⟨W, cs, ds, P', PX, ok, r, h, _⟩ => by rw [r.length]; exact len _ _ _ _ h) fun cdv A outer s H vs Q E hr ⟨W, cs, ds, P', PX, ok, r, h, kk, kx⟩ => ?_
  have tk0 : L2.Takes (cxX P w K mg base N qual scope f cdv A outer s H E) (fun cls d _ H => E cls d H) := L2.takes_of (X := cxX P w K mg base N qual scope f cdv A outer s H E) rfl rfl rfl rfl
  have tk : XT (cxX P w K mg base N qual scope f cdv A outer s H E) (Bs.of W) (FinX cs PX) := L2.Takes.imp tk0 fun cls d σ H' ⟨c, W', cs', e1, e2, bp, ok', px⟩ => by
    subst e1
    rcases px with px | ⟨hc, px⟩
    · exact kx c cs' W' H' d px e2 bp ok'
    · obtain ⟨ok4, l4⟩ := ok.trim ok' bp hc
      exact kx c _ ⟨W'.F, W'.m.take cs.length, W'.h⟩ H' d px e2 l4 ok4
  refine ⟨_, der cdv A outer s H E (Bs.of W) (FinX cs PX) hr tk (passes_of (X := cxX P w K mg base N qual scope f cdv A outer s H E) rfl), W, ⟨startD N ds, cs⟩, _, W.le_refl, ⟨ok, start_ok r⟩, vc ds cs P' PX (fun d hd => ?_) ok.cl_lo h, ?_, fin_ok ok kk, fun _ _ _ _ z => z.elim, fun _ _ _ _ z => z.elim⟩
  · obtain ⟨i, hi, e⟩ := List.mem_iff_getElem.mp hd
    obtain ⟨v, hv, rv⟩ := r.get (i := i) (d := d) (by simp [hi, e])
    rw [← ok.len]
    exact R.lo_of _ _ rv
  · exact fun e' W' H' σ' p l S' => fin_ok ok kk .non e'.cs W' H' .non p l S'.ok .non
theorem good_ofX {P : Program} {w : World} {K : PySem.W.Frag} {mg : Str → Option Value} {base : Heap} {x qual : Str} {params : Arguments} {body : List Stmt} {scope : Scope} {f : Addr} {N ps : List Str} {k : Nat} {sp : SpX} {t : (XN → List Cel → Prop) → DS}
    (F : ∃ fd, FunD K x qual params body scope [] [] f fd) (S : FnScope N ps scope) (len : ∀ ds cs Q QX, sp ds cs Q QX → ds.length = ps.length)
    (bi : ∀ (kV doc pm : Value) (an : Option Addr) (cdv ct : Value) (us : List Value), us.length = ps.length → bindArgs (PySem.W.fnOf x qual params body scope .none kV doc pm an cdv ct) ⟨us, []⟩ = pure (ps.zip us))
    (der : ∀ (cdv : Value) (A : Around) (outer : List Env) (s : Shared) (H : Hp) (E : XK) (B : Bs) (XX : XN → List Cel → Prop), Room k (A.deeper (envOfC qual scope s.heap.objs.size f cdv)) → XT (cxX P w K mg base N qual scope f cdv A outer s H E) B XX →
      PassesOwn (model P w) (A.deeper (envOfC qual scope s.heap.objs.size f cdv)) (envOfC qual scope s.heap.objs.size f cdv) (cxX P w K mg base N qual scope f cdv A outer s H E).xe → PSs (cxX P w K mg base N qual scope f cdv A outer s H E) body (lS K B (t XX)))
    (vc : ∀ ds cs Q QX, (∀ d ∈ ds, loD cs.length d = true) → (∀ c ∈ cs, c.loD cs.length = true) → sp ds cs Q QX → t (FinX cs QX) (Po.fn cs Q) ⟨startD N ds, cs⟩) : GoodX P w K mg base (k + 1) f ps sp := by
  obtain ⟨fd, F⟩ := F
  exact ⟨fd, fn_dX F S len der vc, F.bindsN bi, F.kp⟩

/-! ### try .. except C as n -/
def Po.un (P : Po) (i : Nat) : Po := { nx := fun e => P.nx { e with sl := e.sl.set i none }, rt := P.rt, bk := fun e => P.bk { e with sl := e.sl.set i none }, ct := fun e => P.ct { e with sl := e.sl.set i none } }
def sTryAs (tbl : List (Str × Bool)) (i L : Nat) (tb : (XN → List Cel → Prop) → DS) (ts : XN → Addr → DS) (XXo : XN → List Cel → Prop) : DS := fun P e => ∃ XX, tb XX P e ∧
  ∀ x cs', XX x cs' → ∃ b, (x.c, b) ∈ tbl ∧ (b = true → ∀ a, ts x a (P.un i) ⟨(List.replicate L none).set i (some (.raw (.ref a))), cs'⟩) ∧ (b = false → XXo x cs')
theorem SlO.none_ {K : PySem.W.Frag} {W : Wd} {σ : L2.St} {L : Nat} (h : σ.length = L) : SlO K W σ (List.replicate L none) := ⟨by rw [h, List.length_replicate], fun i d e => by
  rw [List.getElem?_replicate] at e
  split at e <;> cases e⟩
theorem SlO.unset {K : PySem.W.Frag} {W : Wd} {σ : L2.St} {sl : List (Option D)} {i : Nat} (h : SlO K W σ sl) : SlO K W (σ.set i none) (sl.set i none) := by
  refine ⟨by simp [h.1], fun j d e => ?_⟩
  rw [List.getElem?_set] at e
  by_cases hij : i = j
  · subst hij
    rw [if_pos rfl] at e
    split at e <;> cases e
  · rw [if_neg hij] at e
    obtain ⟨v, a, b⟩ := h.2 j d e
    exact ⟨v, by rw [List.getElem?_set_ne hij]; exact a, b⟩
theorem PSs.ofEx {X : Cx} {ss : List Stmt} {α : Type} {t : TS} {q : α → Prop} {u : α → TS} (h : ∀ x, q x → PSs X ss (u x)) (i : ∀ D σ H, t D σ H → ∃ x, q x ∧ u x D σ H) : PSs X ss t := ⟨fun pins s σ H D I w => by
  obtain ⟨x, hq, hu⟩ := i D σ H w
  exact (h x hq).run pins s σ H D I hu⟩
/-- an own exception class: isinstance, and no attribute index of its own -/
structure ExcZ (K : PySem.W.Frag) (D : Addr) : Prop where
  e : ExcC K D
  n : PySem.W.findIn K (.ref D) "index" = some none
theorem ExcZ.xf {K : PySem.W.Frag} {D : Addr} (h : ExcZ K D) : XfC K D := ⟨h.e.hg, h.e.hk, h.e.hs, h.e.hd⟩
theorem ds_tryAs {X : Cx} {B : Bs} {x n : Str} {C : Addr} {i : Nat} {body suite : List Stmt} {b₀ : Stmt} {np pos pos' : Pos} {tbl : List (Str × Bool)} {tb : (XN → List Cel → Prop) → DS} {ts : XN → Addr → DS} {XXo : XN → List Cel → Prop}
    (hs : X.stack = X.env :: X.outer) (hf : X.env.frame = some X.env.locals) (hN : X.N.Nodup) (hi : X.N[i]? = some n) (hln : X.env.kindOf n = some .local) (hm : X.mg x = some (.ref C)) (hg : Gl X x) (tko : XT X B XXo)
    (hx : ∀ p ∈ tbl, PySem.W.exmOne X.K (.ref (He.ga X.K p.1)) (.ref C) = some p.2) (hE : ∀ p ∈ tbl, ExcZ X.K (He.ga X.K p.1))
    (hb : ∀ (B : Bs) (XX : XN → List Cel → Prop) (pn : List (Addr × Obj)) (xe : Value → Shared → Prop), XT (X.tr pn xe) B XX → PassesOwn (model X.prog X.w) X.A X.env xe → PSs (X.tr pn xe) body (lS X.K B (tb XX)))
    (hsu : ∀ (B : Bs) (x : XN) (a : Addr) (oe : Obj) (d : Option Addr) (pn : List (Addr × Obj)), ExcZ X.K (He.ga X.K x.c) → Zc (.ref (He.ga X.K x.c)) d oe → (∃ vs, oe.data = .fields vs) → (∀ W, B.p W → PayOk x.p d W) → PSs (X.suite a ((a, oe) :: pn)) (b₀ :: suite) (lS X.K B (ts x a)))
    (hdb : (x == ("__debug__" : Str)) = false := by decide) :
    PS X (.Try body [.ExceptHandler (some (.Name x np)) (some n) (b₀ :: suite) pos'] [] [] pos) (lS X.K B (sTryAs tbl i X.N.length tb ts XXo)) := by
  refine PS.imp (L2.ps_try_as (x := x) (n := n) (c := .ref C) (i := i) (Wout := fun cls d _ H => wE X.K B XXo cls d H)
    (tb := fun W D σ H => ∃ p : Bs × (XN → List Cel → Prop), (∀ cls d σ H, σ.length = X.N.length → wE X.K p.1 p.2 cls d H → W cls d σ H) ∧ lS X.K p.1 (tb p.2) D σ H)
    (ts := fun a cls d D σ H => ∃ p : Bs × XN, (cls = .ref (He.ga X.K p.2.c) ∧ ExcZ X.K (He.ga X.K p.2.c) ∧ ∀ W, p.1.p W → PayOk p.2.p d W) ∧ lS X.K p.1 (ts p.2 a) D σ H)
    hs hf hN hi hln ⟨hg, hdb, .inl hm⟩ tko (fun W pn xe tk po => ?_) (fun a oe cls d pn hz hfd => ?_)) fun E σ H h => ?_
  · exact PSs.ofEx (q := fun p : Bs × (XN → List Cel → Prop) => ∀ cls d σ H, σ.length = X.N.length → wE X.K p.1 p.2 cls d H → W cls d σ H) (u := fun p => lS X.K p.1 (tb p.2)) (fun p hp => hb p.1 p.2 pn xe (XT.of (X := X.tr pn xe) tk hp) po) fun D σ H h => h
  · exact PSs.ofEx (q := fun p : Bs × XN => cls = .ref (He.ga X.K p.2.c) ∧ ExcZ X.K (He.ga X.K p.2.c) ∧ ∀ W, p.1.p W → PayOk p.2.p d W) (u := fun p => lS X.K p.1 (ts p.2 a)) (fun p ⟨h1, h2, h3⟩ => by
      subst h1
      exact hsu p.1 p.2 a oe d pn h2 hz hfd h3) fun D σ H h => h
  · obtain ⟨W, e, P, bl, S, ⟨XX, h, hc⟩, c⟩ := lS_un h
    refine ⟨(Bs.of W, XX), fun cls d σ' H' hl ⟨cc, W', cs', e1, e2, bp, ok', px⟩ => ?_, lS_mk W.le_refl S h c⟩
    subst e1
    obtain ⟨b, hbm, hy, hn⟩ := hc cc cs' px
    refine ⟨b, hx _ hbm, fun eb a na => ?_, fun eb => ⟨cc, W', cs', rfl, e2, B.up bl bp, ok', hn eb⟩⟩
    refine ⟨(Bs.of W', cc), ⟨rfl, hE _ hbm, fun W1 l1 => e2.mono l1⟩, lS_mk (P := P.un i) W'.le_refl ⟨ok', (SlO.none_ hl).set (.raw (.ref a))⟩ (hy eb a) ?_⟩
    exact ⟨fun e' W2 H2 σ2 p l S2 => c.nx _ _ _ _ p (bp.tr l) ⟨S2.ok, S2.sl.unset⟩, fun d cs W2 H2 v p l ok r => c.rt _ _ _ _ _ p (bp.tr l) ok r, fun e' W2 H2 σ2 p l S2 => c.bk _ _ _ _ p (bp.tr l) ⟨S2.ok, S2.sl.unset⟩, fun e' W2 H2 σ2 p l S2 => c.ct _ _ _ _ p (bp.tr l) ⟨S2.ok, S2.sl.unset⟩⟩
/-! ### the field of what was caught -/
def eXf (x : XN) (a : Addr) (te : DE) : DE := fun e P => te e fun d e1 => d = .raw (.ref a) ∧ ∃ i, x.p = some i ∧ P (.int i) e1
theorem de_xf {X : Cx} {B : Bs} {x : XN} {a : Addr} {oe : Obj} {d : Option Addr} {pn : List (Addr × Obj)} {ex : Expr} {te : DE} {pos : Pos} (T : ExcZ X.K (He.ga X.K x.c)) (hz : Zc (.ref (He.ga X.K x.c)) d oe) (hf : ∃ vs, oe.data = .fields vs)
    (hp : ∀ W, B.p W → PayOk x.p d W) (he : PE (X.suite a ((a, oe) :: pn)) ex (lE X.K B te)) (hb : attributeBase ex "index" X.env (eval ex X.env) = eval ex X.env := by rfl) : PE (X.suite a ((a, oe) :: pn)) (.Attribute ex "index" pos) (lE X.K B (eXf x a te)) :=
  PE.imp (pe_xf T.xf T.n hz hf he hb) fun σ H Q ⟨W, e, P, bl, S, t, k⟩ => ⟨W, e, _, bl, S, t, fun dd e1 W1 H1 v ⟨hd, i, hi, p⟩ l S1 r => by
    subst hd
    cases r
    have h := hp W1 (B.up bl l)
    rw [hi] at h
    obtain ⟨q, e1', e2⟩ := h
    exact ⟨rfl, rfl, q, xnF i, .int i, e1', S1.ok.ex _ _ e2, rfl, k _ _ _ _ _ p l S1 (.int i)⟩⟩
/-! ### raise C(i), C having its own __init__ -/
def spIx (C : Addr) : Sp := fun vs H Q _ => ∃ (a : Addr) (i : Int), vs = [.ref a, .int i] ∧ H a = some (exo a C none) ∧ ∀ dx, H dx = none → dx ≠ a → Q .non (upd (upd H dx (exd dx (xnF i))) a (exo a C (some dx)))
def GoodIx (P : Program) (w : World) (K : PySem.W.Frag) (mg : Str → Option Value) (base : Heap) (k : Nat) (f : Addr) (c : Str) : Prop :=
  ∃ fd, FnOk P w K mg base CX0 k f fd ["self", "index"] (spIx (He.ga K c)) ∧ Binds K fd ["self", "index"] [] ∧ OexC K (He.ga K c) ∧ PySem.W.findIn K (.ref (He.ga K c)) "__init__" = some (some (.ref f)) ∧ PySem.W.typeIn K (.ref f) = some (.type "function")
theorem goodIx_of {P : Program} {w : World} {K : PySem.W.Frag} {mg : Str → Option Value} {base : Heap} {x qual c : Str} {params : Arguments} {body : List Stmt} {scope : Scope} {f : Addr} {k : Nat}
    (F : ∃ fd, FunD K x qual params body scope [] [] f fd) (S : FnScope ["self", "index"] ["self", "index"] scope)
    (bi : ∀ (kV doc pm : Value) (an : Option Addr) (cdv ct : Value) (us : List Value), us.length = 2 → bindArgs (PySem.W.fnOf x qual params body scope .none kV doc pm an cdv ct) ⟨us, []⟩ = pure ((["self", "index"] : List Str).zip us))
    (der : ∀ (cdv : Value) (A : Around) (outer : List Env) (s : Shared) (H : Hp) (E : XK), PSs (cxOf CX0 P w K mg base ["self", "index"] qual scope f cdv A outer s H E) body (tOst K "index" (tVar 0) (tVar 1)))
    (T : OexC K (He.ga K c)) (hno : PySem.W.findIn K (.ref (He.ga K c)) "index" = some none) (sm : Sm K (He.ga K c) "__init__" f) : GoodIx P w K mg base (k + 1) f c := by
  obtain ⟨fd, F⟩ := F
  refine ⟨fd, F.ok S (fun vs H Q E ⟨a, i, e, _⟩ => by rw [e]; rfl) fun cdv A outer s H vs Q E hr ⟨a, i, e, h1, h2⟩ => ⟨tOst K "index" (tVar 0) (tVar 1), der cdv A outer s H E, ?_⟩, F.bindsN bi, T, sm.at_, beq_iff_eq.mp sm.fn⟩
  subst e
  exact ⟨.int i, rfl, .ref a, rfl, a, _, rfl, T, hno, .inl ⟨h1, h2⟩⟩
def sRaiseI (XX : XN → List Cel → Prop) (c : Str) (te : DE) : DS := fun _ e => te e fun d e1 => ∃ i, [d] = [D.int i] ∧ XX ⟨c, some i⟩ e1.cs
theorem ds_raiseI {X : Cx} {B : Bs} {XX : XN → List Cel → Prop} {c : Str} {ex : Expr} {te : DE} {k : Nat} {f : Addr} {p pos apos : Pos} (G : GoodIx X.prog X.w X.K X.mg X.base k f c) (hc : X.calm = true) (tk : XT X B XX) (hr : Room (k + 1) X.A) (gC : X.mg c = some (.ref (He.ga X.K c))) (hg : Gl X c)
    (he : PE X ex (lE X.K B te)) (hdb : (c == ("__debug__" : Str)) = false := by decide) (hse : starEach [ex] X.env = (false, eval ex X.env) :: starEach [] X.env := by rfl) (hpl : (backTo pos (starEach ([] : List Expr) X.env)).any (·.1) = false := by rfl) :
    PS X (.Raise (some (.Call (.Name c p) [ex] [] pos)) none apos) (lS X.K B (sRaiseI XX c te)) := by
  obtain ⟨fd, F, bi, T, iC, tI⟩ := G
  refine PS.imp (L2.ps_raise hc tk (L2.pmk_oex T iC tI F hr bi .nil pass0 hg gC (da_cons he da_nil hse) hdb hse hpl)) fun E σ H h => ?_
  obtain ⟨W, e, P, bl, S, h, _⟩ := lS_un h
  refine ⟨W, e, _, bl, S, (show aCons te aNil e (fun ds e1 => ∃ i, ds = [.int i] ∧ XX ⟨c, some i⟩ e1.cs) from ?_), fun ds e1 W1 H1 vs ⟨i, hd, px⟩ l S1 r => ?_⟩
  · exact h
  subst hd
  obtain ⟨v, rfl, r1⟩ : ∃ v, vs = [v] ∧ R X.K W1 v (.int i) := by
    cases r with
    | cons r1 r2 => cases r2; exact ⟨_, rfl, r1⟩
  cases r1
  refine ⟨by simp, fun a ha => ⟨a, i, rfl, upd_same, fun dx hdx hne => ⟨rfl, dx, xnF i, upd_same, ?_, ?_, ?_⟩⟩⟩
  · rw [upd_ne hne, upd_same]
  · rw [upd_ne hne] at hdx
    exact hdx
  · rw [upd_ne hne] at hdx
    obtain ⟨ok2, l2⟩ := S1.ok.newF (o := .xd (xnF i)) hdx
    have eh : upd (del (upd (upd (upd H1 a (exo a (He.ga X.K c) none)) dx (exd dx (xnF i))) a (exo a (He.ga X.K c) (some dx))) a) dx (.xd (xnF i)) = upd H1 dx (.xd (xnF i)) := by
      funext b
      by_cases h1 : b = dx
      · subst h1
        rw [upd_same, upd_same]
      · rw [upd_ne h1, upd_ne h1]
        by_cases h2 : b = a
        · subst h2
          rw [del_same, ha]
        · rw [del_ne h2, upd_ne h2, upd_ne h1, upd_ne h2]
    rw [eh]
    exact ⟨⟨c, some i⟩, _, e1.cs, rfl, ⟨dx, rfl, upd_same⟩, B.up bl (l.tr l2), ok2, px⟩
/-! ### what the head tells -/
theorem excc_ok {K : PySem.W.Frag} {c : Str} (h : (Fx.excc c).ok K = true) : ExcC K (He.ga K c) := by
  obtain ⟨h1, h2⟩ := He.ba h
  obtain ⟨h3, h4⟩ := He.ba h2
  obtain ⟨h5, h6⟩ := He.ba h4
  obtain ⟨h7, h8⟩ := He.ba h6
  obtain ⟨h9, h10⟩ := He.ba h8
  obtain ⟨h11, h12⟩ := He.ba h10
  obtain ⟨h13, h14⟩ := He.ba h12
  exact ⟨He.eqO_ok h3, He.eqO_ok h5, (He.exc_ok h1).2.2.1, h7, He.eqO_ok h9, He.eqO_ok h11, of_decide_eq_true h13, of_decide_eq_true h14⟩
theorem exci_ok {K : PySem.W.Frag} {c : Str} (h : (Fx.exci c).ok K = true) : ExcC K (He.ga K c) := by
  obtain ⟨h1, h2⟩ := He.ba h
  obtain ⟨h3, h4⟩ := He.ba h2
  obtain ⟨h5, h6⟩ := He.ba h4
  obtain ⟨h7, h8⟩ := He.ba h6
  obtain ⟨h9, h10⟩ := He.ba h8
  obtain ⟨h11, h12⟩ := He.ba h10
  obtain ⟨h13, h14⟩ := He.ba h12
  exact ⟨He.eqO_ok h3, He.eqO_ok h5, of_decide_eq_true h1, h7, He.eqO_ok h9, He.eqO_ok h11, of_decide_eq_true h13, of_decide_eq_true h14⟩
theorem kitb_ok {K : PySem.W.Frag} {T : String} {l : List (Str × Bool)} (h : (Fx.kitb T l).ok K = true) : ∀ p ∈ l, PySem.W.kitOne K (.ref (He.ga K p.1)) (.type T) = some p.2 := fun p m => of_decide_eq_true (List.all_eq_true.mp h p m)
theorem exm_okT {K : PySem.W.Frag} {c : Str} {l : List (Str × Bool)} (h : (Fx.exm c l).ok K = true) : ∀ p ∈ l, PySem.W.exmOne K (.ref (He.ga K p.1)) (.ref (He.ga K c)) = some p.2 := fun p m => of_decide_eq_true (List.all_eq_true.mp h p m)
theorem excL_nil {K : PySem.W.Frag} : ∀ p ∈ ([] : List (Str × Bool)), ExcZ K (He.ga K p.1) := fun _ h => nomatch h
theorem excL_cons {K : PySem.W.Frag} {c : Str} {b : Bool} {l : List (Str × Bool)} (h : ExcZ K (He.ga K c)) (t : ∀ p ∈ l, ExcZ K (He.ga K p.1)) : ∀ p ∈ (c, b) :: l, ExcZ K (He.ga K p.1) := fun p m => by
  rcases List.mem_cons.mp m with rfl | m
  · exact h
  · exact t p m
theorem XT.never {X : Cx} {B : Bs} : XT X B (fun _ _ => False) := fun _ _ ⟨_, _, _, _, _, _, _, _, _, _, _, _, _, _, _, _, _, _, _, _, _, _, _, w⟩ => w.elim
section
variable {XX : XN → List Cel → Prop} {sp : SpX} {ta : DA} {tv to ti te : DE} {e : En} {P : D → En → Prop} {Po' : Po} {C C2 : Addr} {d y tg : D} {ds : List D} {c : Str} {a : Addr} {tbl : List (Str × Bool)}
theorem v_callX (h : ta e fun ds e1 => sp ds e1.cs (fun d cs' => P d { e1 with cs := cs' }) XX) : eCallX XX sp ta e P := h
theorem v_makeX (h : ta e fun ds e1 => sp (.cell e1.cs.length :: ds) (e1.cs ++ [.ins C [] []])
  (fun d cs' => d = .non ∧ (P (.cell e1.cs.length) { e1 with cs := cs' } ∨ ∃ cs1 C' ns xs, cs' = cs1 ++ [.ins C' ns xs] ∧ cs1.length = e1.cs.length ∧ los e1.cs.length xs = true ∧ (∀ c ∈ cs1, c ∈ e1.cs ∨ c.loD e1.cs.length = true) ∧ P (.ins C' ns xs) { e1 with cs := cs1 }))
  (FinX e1.cs XX)) : eMakeX C XX sp ta e P := h
theorem v_setX (h : tv e fun v e1 => to e1 fun o e2 => ti e2 fun i e3 => (∃ ns xs, insD e3.cs o = some (C, ns, xs)) ∧ sp [o, i, v] e3.cs (fun _ cs' => Po'.nx { e3 with cs := cs' }) XX) : sSetX C XX sp tv to ti Po' e := h
theorem v_twoX (h : (∃ ns xs, insD e.cs d = some (C, ns, xs)) ∧ (∃ ns xs, insD e.cs y = some (C2, ns, xs)) ∧ sp [d, y] e.cs (fun r cs' => P r { e with cs := cs' }) XX) : qTwoX C C2 XX sp d y e P := h
theorem v_raise (h : XX ⟨c, none⟩ e.cs) : sRaise XX c Po' e := h
theorem v_raiseI (h : te e fun d e1 => ∃ i, [d] = [D.int i] ∧ XX ⟨c, some i⟩ e1.cs) : sRaiseI XX c te Po' e := h
theorem v_xf {x : XN} (h : te e fun d e1 => d = .raw (.ref a) ∧ ∃ i, x.p = some i ∧ P (.int i) e1) : eXf x a te e P := h
theorem v_tryAs {i L : Nat} {tb : (XN → List Cel → Prop) → DS} {ts : XN → Addr → DS} {XXo : XN → List Cel → Prop} (XX : XN → List Cel → Prop) (h1 : tb XX Po' e)
    (h2 : ∀ x cs', XX x cs' → ∃ b, (x.c, b) ∈ tbl ∧ (b = true → ∀ a, ts x a (Po'.un i) ⟨(List.replicate L none).set i (some (.raw (.ref a))), cs'⟩) ∧ (b = false → XXo x cs')) : sTryAs tbl i L tb ts XXo Po' e := ⟨XX, h1, h2⟩
end
theorem v_unx {P : Po} {i : Nat} {e : En} (h : P.nx { e with sl := e.sl.set i none }) : (P.un i).nx e := h
theorem v_urt {P : Po} {i : Nat} {d : D} {cs : List Cel} (h : P.rt d cs) : (P.un i).rt d cs := h
theorem encB : EqE D.bl 0 where
  ok := fun _ => rfl
  lay := fun _ => rfl
  dep := fun _ => by
    show (PyData.bool _).depth ≤ 0
    simp [PyData.depth]
  eqv := fun a b => by
    show PyData.eqv (.bool a) (.bool b) = _
    simp only [PyData.eqv]
    exact Bool.beq_eq_decide_eq a b
theorem encBL : EqE (fun xs : List Bool => D.lst (xs.map D.bl)) 1 := encB.lst
theorem atI_zero {x : D} {xs : List D} : atI (x :: xs) 0 = some x := atI_nat (j := 0) rfl
theorem atI_one {x y : D} {xs : List D} : atI (x :: y :: xs) 1 = some y := atI_nat (j := 1) rfl
/-! ### a comprehension in a comprehension -/
def relS (scope sc : Scope) : Scope := { scope with names := scope.names.map fun (n, k) => if (k == .free && sc.kind == .function && sc.names.lookup n == some .cell) then (n, .cell) else (n, k) }
theorem blkOk_in {N : List Str} {scope0 sc0 scope : Scope} {env : PySem.Env} {own : List (Str × Nat)} (he : env.scope = sc0) (h : blkC N (relS scope0 sc0) scope own = true) : BlkOk N (relabel scope0 env) scope own := by
  subst he
  exact blkOk_by h
/-! ### isinstance(x, T), x one of an own class, or a plain value -/
def qIsiO (C : Addr) (T : String) : List D → DE
  | [d, .raw (.ty T')] => fun e P => T' = T ∧ (((∃ ns xs, insD e.cs d = some (C, ns, xs)) ∧ P (.bl false) e) ∨ (tyKnown T = true ∧ ∃ a, tyN e.cs d = some a ∧ P (.bl (isTy a T)) e))
  | _ => fun _ _ => False
theorem cd_isiO {K : PySem.W.Frag} {C : Addr} {T : String} (ic : C8.InsC K C) (kt : PySem.W.kitOne K (.ref C) (.type T) = some false) : CallD K (rIsi K) (qIsiO C T) := by
  intro W H σ e vs ds P Q S r t k
  unfold qIsiO at t
  split at t
  · obtain ⟨v, v2, rfl, r1, r2⟩ := r.two
    obtain ⟨rfl, t⟩ := t
    cases r2
    rcases t with ⟨⟨ns, xs, hi⟩, p⟩ | ⟨hT, a, ea, p⟩
    · obtain ⟨a, dx, gs, rfl, h1, h2, h3⟩ := S.ok.ins r1 hi
      exact ⟨.ref a, .ty _, .ref C, _, false, rfl, .ty _, .base (TyOf.ins h1 ic.cl ic.ha ic.hn ic.htk ic.hm), kt, k _ _ _ _ _ p W.le_refl S (.bl _)⟩
    · obtain ⟨ty, mem⟩ := S.ok.ty r1 ea
      exact ⟨v, .ty _, _, _, _, rfl, .ty _, ty, kit_ty (kit_in mem hT), k _ _ _ _ _ p W.le_refl S (.bl _)⟩
  · exact t.elim
theorem v_isiOF {C : Addr} {T : String} {d : D} {e : En} {P : D → En → Prop} (h : ∃ ns xs, insD e.cs d = some (C, ns, xs)) (p : P (.bl false) e) : qIsiO C T [d, .raw (.ty T)] e P := ⟨rfl, .inl ⟨h, p⟩⟩
theorem v_isiOT {C : Addr} {T : String} {d : D} {e : En} {P : D → En → Prop} {a : String} (hT : tyKnown T = true) (h : tyN e.cs d = some a) (p : P (.bl (isTy a T)) e) : qIsiO C T [d, .raw (.ty T)] e P := ⟨rfl, .inr ⟨hT, a, h, p⟩⟩
end DL
/-! isinstance of what was caught, with a field or without; try .. except C without a name -/
namespace DL
open PySem PySem.Spec PyProof.Rows L2
open Evl (Ex)
/-- the caught one's dict, as the heap has it -/
def HasD (d : Option Addr) (H : Hp) : Prop := d = none ∨ ∃ dd fs, d = some dd ∧ H dd = some (.xd fs)
theorem inst_of {X : Cx} {a D : Addr} {oe : Obj} {d : Option Addr} {pn pins : List (Addr × Obj)} {σ : L2.St} {H : Hp} {s : Shared} (I : Inv (X.suite a ((a, oe) :: pn)) pins σ H s) (hz : Zc (.ref D) d oe) (hf : ∃ vs, oe.data = .fields vs) (hd : HasD d H) : ∃ od, PySem.W.InstAt s.heap a oe D od := by
  obtain ⟨hget, _⟩ := I.pin (a, oe) (List.mem_append.mpr (.inl List.mem_cons_self))
  obtain ⟨vs, hv⟩ := hf
  rcases hd with rfl | ⟨dd, fs, rfl, ea⟩
  · refine ⟨none, hget, hz.1, by unfold PySem.W.notCls; rw [hv] <;> rfl, ?_⟩
    rw [hz.2]
    trivial
  · obtain ⟨mA, hns, hr⟩ := (I.hok dd _ ea : ObjOk X.prog X.w H s.heap dd (.xd fs))
    obtain ⟨od, ho, hl⟩ := lookIn_ns hns
    refine ⟨some od, hget, hz.1, by unfold PySem.W.notCls; rw [hv] <;> rfl, ?_⟩
    rw [hz.2]
    exact ho
theorem cls_some {K : PySem.W.Frag} {D : Addr} (h : PySem.W.hasDictIn K D = true) : (PySem.W.clsIn K D).isSome = true := by
  obtain ⟨cd, hc, _⟩ := PySem.W.any_some h
  rw [hc]
  rfl
def rIsEz (K : PySem.W.Frag) (D a : Addr) (d : Option Addr) : List V → Hp → VK → Prop := fun xs H Q => HasD d H ∧ rIsE K D a xs H Q
theorem call_isEz {X : Cx} {a D : Addr} {oe : Obj} {d : Option Addr} {pn : List (Addr × Obj)} (C : ExcC X.K D) (hz : Zc (.ref D) d oe) (hf : ∃ vs, oe.data = .fields vs) : CallR (X.suite a ((a, oe) :: pn)) (.builtin "isinstance") (rIsEz X.K D a d) := by
  intro pins s σ H xs us Q I r ⟨hd, h⟩
  obtain ⟨c, cv, b, rfl, hcv, e, q⟩ := h
  cases r with
  | cons rx rr =>
    cases rr with
    | cons rt rr =>
      cases rr
      cases rx
      have ec := hcv _ rt
      subst ec
      obtain ⟨od, J⟩ := inst_of I hz hf hd
      exact PySem.W.kia_one (PySem.W.kitx_exc (cls_some C.hd) C.hg C.hk C.hs C.ha C.hn C.ht C.hm) I.kIn J e (fun z => nomatch z) fun tk => ⟨.bl b, H, I.kept (t' := tk) fun _ _ z => z, rfl, q⟩
def rIsETz (K : PySem.W.Frag) (D a : Addr) (d : Option Addr) : List V → Hp → VK → Prop := fun xs H Q => HasD d H ∧ ∃ (tp : Addr) (vs : List V) (us : List Value) (b : Bool), xs = [.ref a, .ref tp] ∧ SqT K H tp vs ∧ Paired ClsV vs us ∧ PySem.W.kitAny K (.ref D) us = some b ∧ Q (.bl b) H
theorem call_isETz {X : Cx} {a D : Addr} {oe : Obj} {d : Option Addr} {pn : List (Addr × Obj)} (C : ExcC X.K D) (hz : Zc (.ref D) d oe) (hf : ∃ vs, oe.data = .fields vs) : CallR (X.suite a ((a, oe) :: pn)) (.builtin "isinstance") (rIsETz X.K D a d) := by
  intro pins s σ H xs us Q I r ⟨hd, h⟩
  obtain ⟨tp, vs, ws, b, rfl, hT, k, e, q⟩ := h
  obtain ⟨u1, u2, rfl, r1, r2⟩ := vals2 r
  cases (show u1 = Value.ref a from r1)
  cases (show u2 = Value.ref tp from r2)
  obtain ⟨its, rv, ⟨o, h1, h2, n, h3⟩, _⟩ := I.tuple hT
  have e3 := ClsV.all k rv
  subst e3
  obtain ⟨oc, od0, dt, sl⟩ := o
  simp only at h2 h3
  subst h2 h3
  obtain ⟨od, J⟩ := inst_of I hz hf hd
  exact PySem.W.kia_tup (PySem.W.kitx_exc (cls_some C.hd) C.hg C.hk C.hs C.ha C.hn C.ht C.hm) I.kIn J h1 e (fun z => nomatch z) fun tk => ⟨.bl b, H, I.kept (t' := tk) fun _ _ z => z, rfl, q⟩
/-- the answer for the class c stands in the table -/
def qIsE (x : XN) (a : Addr) (tbl : List (Str × Bool)) (tg : D) : List D → DE := fun ds e P => ∃ d, ds = [.raw (.ref a), d] ∧ d = tg ∧ ∃ b, (x.c, b) ∈ tbl ∧ P (.bl b) e
/-- the same, where the caught one's dict is known -/
def CallDB (K : PySem.W.Frag) (B : Bs) (r : List V → Hp → VK → Prop) (q : List D → DE) : Prop := ∀ (W : Wd) (H : Hp) (σ : L2.St) (e : En) (vs : List V) (ds : List D) (P : D → En → Prop) (Q : VK), B.p W → Sd K W H σ e → RAll K W vs ds → q ds e P →
  (∀ d e' W' H' v, P d e' → W.le W' → Sd K W' H' σ e' → R K W' v d → Q v H') → r vs H Q
section
variable {K : PySem.W.Frag} {X : Cx} {B : Bs} {x : Str} {p pos : Pos} {ex : Expr} {es : List Expr} {ta : DA} {id T : String} {r : List V → Hp → VK → Prop} {q : List D → DE}
theorem de_callBB (hc : CallR X (.builtin id) r) (hq : CallDB X.K B r q) (hg : Gl X x) (hm : X.mg x = none) (hv : bootBuiltins x = some (.builtin id)) (ha : PA X (ex :: es) (lA X.K B ta)) (hn : x ≠ "__name__" := by decide) (hdb : (x == ("__debug__" : Str)) = false := by decide)
    (he : starEach (ex :: es) X.env = (false, eval ex X.env) :: starEach es X.env := by rfl) (hpl : (backTo pos (starEach es X.env)).any (·.1) = false := by rfl) : PE X (.Call (.Name x p) (ex :: es) [] pos) (lE X.K B (eCB q ta)) :=
  PE.imp (pe_callB hc hg hm hv ha hn hdb he hpl) fun σ H Q ⟨W, e, P, bl, S, t, k⟩ =>
    ⟨W, e, _, bl, S, t, fun ds e1 W1 H1 vs t1 l1 S1 r1 => hq W1 H1 σ e1 vs ds P Q (B.up bl l1) S1 r1 t1 fun d e2 W2 H2 v p l2 S2 r2 => k d e2 W2 H2 v p (l1.tr l2) S2 r2⟩
end
theorem hasD_of {x : XN} {d : Option Addr} {W : Wd} {H : Hp} (hp : PayOk x.p d W) (ex : Ex W.F H) : HasD d H := by
  unfold PayOk at hp
  split at hp
  · exact .inl hp
  · obtain ⟨dd, e1, e2⟩ := hp
    exact .inr ⟨dd, _, e1, ex _ _ e2⟩
section
variable {K : PySem.W.Frag} {B : Bs} {x : XN} {a : Addr} {d : Option Addr} {tbl : List (Str × Bool)}
theorem cd_isE {C : Addr} (hp : ∀ W, B.p W → PayOk x.p d W) (h : ∀ p ∈ tbl, PySem.W.kitOne K (.ref (He.ga K p.1)) (.ref C) = some p.2) : CallDB K B (rIsEz K (He.ga K x.c) a d) (qIsE x a tbl (.raw (.ref C))) := by
  rintro W H σ e vs ds P Q bw S r ⟨d, rfl, rfl, b, hb, p⟩ k
  obtain ⟨v, v2, rfl, r1, r2⟩ := r.two
  cases r1
  cases r2
  exact ⟨hasD_of (hp W bw) S.ok.ex, .ref C, .ref C, b, rfl, fun u hu => hu, h _ hb, k _ _ _ _ _ p W.le_refl S (.bl _)⟩
theorem cd_isEB {T : String} (hp : ∀ W, B.p W → PayOk x.p d W) (h : ∀ p ∈ tbl, PySem.W.kitOne K (.ref (He.ga K p.1)) (.type T) = some p.2) : CallDB K B (rIsEz K (He.ga K x.c) a d) (qIsE x a tbl (.raw (.ty T))) := by
  rintro W H σ e vs ds P Q bw S r ⟨d, rfl, rfl, b, hb, p⟩ k
  obtain ⟨v, v2, rfl, r1, r2⟩ := r.two
  cases r1
  cases r2
  exact ⟨hasD_of (hp W bw) S.ok.ex, .ty T, .type T, b, rfl, fun u hu => hu, h _ hb, k _ _ _ _ _ p W.le_refl S (.bl _)⟩
theorem clsv_map {W : Wd} : ∀ {Cs : List Addr} {vs : List V}, RAll K W vs (Cs.map fun C => D.raw (.ref C)) → Paired ClsV vs (Cs.map fun C => Value.ref C)
  | [], _, .nil => .nil
  | C :: Cs, _, .cons r t => by
    cases r
    exact .cons (.own C) (clsv_map t)
theorem cd_isET {Cs : List Addr} (hp : ∀ W, B.p W → PayOk x.p d W) (h : ∀ p ∈ tbl, PySem.W.kitAny K (.ref (He.ga K p.1)) (Cs.map fun C => .ref C) = some p.2) : CallDB K B (rIsETz K (He.ga K x.c) a d) (qIsE x a tbl (.tup (Cs.map fun C => .raw (.ref C)))) := by
  rintro W H σ e vs ds P Q bw S r ⟨d, rfl, rfl, b, hb, p⟩ k
  obtain ⟨v, v2, rfl, r1, r2⟩ := r.two
  cases r1
  cases r2 with
  | tup h1 h2 => exact ⟨hasD_of (hp W bw) S.ok.ex, _, _, _, b, rfl, Evl.ex_t S.ok.ex h1, clsv_map h2, h _ hb, k _ _ _ _ _ p W.le_refl S (.bl _)⟩
end
theorem kito_ok {K : PySem.W.Frag} {c : Str} {l : List (Str × Bool)} (h : (Fx.kito c l).ok K = true) : ∀ p ∈ l, PySem.W.kitOne K (.ref (He.ga K p.1)) (.ref (He.ga K c)) = some p.2 := fun p m => of_decide_eq_true (List.all_eq_true.mp h p m)
theorem kita_ok {K : PySem.W.Frag} {cs : List Str} {l : List (Str × Bool)} (h : (Fx.kita cs l).ok K = true) : ∀ p ∈ l, PySem.W.kitAny K (.ref (He.ga K p.1)) (cs.map fun x => .ref (He.ga K x)) = some p.2 := fun p m => of_decide_eq_true (List.all_eq_true.mp h p m)
theorem bt_ValueError : bootBuiltins "ValueError" = some (.type "ValueError") := by decide +kernel
theorem v_isEX {x : XN} {a : Addr} {tbl : List (Str × Bool)} {tg : D} {ds : List D} {e : En} {P : D → En → Prop} (h : ∃ d, ds = [.raw (.ref a), d] ∧ d = tg ∧ ∃ b, (x.c, b) ∈ tbl ∧ P (.bl b) e) : qIsE x a tbl tg ds e P := h
/-! ### without a name -/
def sTryN (tbl : List (Str × Bool)) (L : Nat) (tb : (XN → List Cel → Prop) → DS) (ts : DS) (XXo : XN → List Cel → Prop) : DS := fun P e => ∃ XX, tb XX P e ∧
  ∀ x cs', XX x cs' → ∃ b, (x.c, b) ∈ tbl ∧ (b = true → ts P ⟨List.replicate L none, cs'⟩) ∧ (b = false → XXo x cs')
theorem ds_tryN {X : Cx} {B : Bs} {x : Str} {C : Addr} {body suite : List Stmt} {b₀ : Stmt} {np pos pos' : Pos} {tbl : List (Str × Bool)} {tb : (XN → List Cel → Prop) → DS} {ts : DS} {XXo : XN → List Cel → Prop}
    (hs : X.stack = X.env :: X.outer) (hf : X.env.frame = some X.env.locals) (hm : X.mg x = some (.ref C)) (hg : Gl X x) (tko : XT X B XXo)
    (hx : ∀ p ∈ tbl, PySem.W.exmOne X.K (.ref (He.ga X.K p.1)) (.ref C) = some p.2)
    (hb : ∀ (B : Bs) (XX : XN → List Cel → Prop) (pn : List (Addr × Obj)) (xe : Value → Shared → Prop), XT (X.tr pn xe) B XX → PassesOwn (model X.prog X.w) X.A X.env xe → PSs (X.tr pn xe) body (lS X.K B (tb XX)))
    (hsu : ∀ (B : Bs) (a : Addr) (oe : Obj) (pn : List (Addr × Obj)), PSs (X.suite a ((a, oe) :: pn)) (b₀ :: suite) (lS X.K B ts))
    (hdb : (x == ("__debug__" : Str)) = false := by decide) :
    PS X (.Try body [.ExceptHandler (some (.Name x np)) none (b₀ :: suite) pos'] [] [] pos) (lS X.K B (sTryN tbl X.N.length tb ts XXo)) := by
  refine PS.imp (L2.ps_try_many (Wout := fun cls d _ H => wE X.K B XXo cls d H)
    (tb := fun W D σ H => ∃ p : Bs × (XN → List Cel → Prop), (∀ cls d σ H, σ.length = X.N.length → wE X.K p.1 p.2 cls d H → W cls d σ H) ∧ lS X.K p.1 (tb p.2) D σ H)
    (l := [(.ref C, fun a cls d D σ H => ∃ p : Bs, lS X.K p ts D σ H)])
    hs hf tko (fun W pn xe tk po => ?_) (.cons ⟨hg, hdb, .inl hm⟩ (fun a oe cls d pn hz hfd => ?_) .nil)) fun E σ H h => ?_
  · exact PSs.ofEx (q := fun p : Bs × (XN → List Cel → Prop) => ∀ cls d σ H, σ.length = X.N.length → wE X.K p.1 p.2 cls d H → W cls d σ H) (u := fun p => lS X.K p.1 (tb p.2)) (fun p hp => hb p.1 p.2 pn xe (XT.of (X := X.tr pn xe) tk hp) po) fun D σ H h => h
  · exact PSs.ofEx (q := fun _ : Bs => True) (u := fun p => lS X.K p ts) (fun p _ => hsu p a oe pn) fun D σ H ⟨p, h⟩ => ⟨p, trivial, h⟩
  · obtain ⟨W, e, P, bl, S, ⟨XX, h, hc⟩, c⟩ := lS_un h
    refine ⟨(Bs.of W, XX), fun cls d σ' H' hl ⟨cc, W', cs', e1, e2, bp, ok', px⟩ => ?_, lS_mk W.le_refl S h c⟩
    subst e1
    obtain ⟨b, hbm, hy, hn⟩ := hc cc cs' px
    refine ⟨b, hx _ hbm, fun eb a na => ?_, fun eb => ⟨cc, W', cs', rfl, e2, B.up bl bp, ok', hn eb⟩⟩
    refine ⟨Bs.any, lS_mk (P := P) trivial ⟨ok', SlO.none_ hl⟩ (hy eb) ?_⟩
    exact ⟨fun e' W2 H2 σ2 p l S2 => c.nx _ _ _ _ p (bp.tr l) S2, fun d cs W2 H2 v p l ok r => c.rt _ _ _ _ _ p (bp.tr l) ok r, fun e' W2 H2 σ2 p l S2 => c.bk _ _ _ _ p (bp.tr l) S2, fun e' W2 H2 σ2 p l S2 => c.ct _ _ _ _ p (bp.tr l) S2⟩
theorem v_tryN {e : En} {Po' : Po} {tbl : List (Str × Bool)} {L : Nat} {tb : (XN → List Cel → Prop) → DS} {ts : DS} {XXo : XN → List Cel → Prop} (XX : XN → List Cel → Prop) (h1 : tb XX Po' e)
    (h2 : ∀ x cs', XX x cs' → ∃ b, (x.c, b) ∈ tbl ∧ (b = true → ts Po' ⟨List.replicate L none, cs'⟩) ∧ (b = false → XXo x cs')) : sTryN tbl L tb ts XXo Po' e := ⟨XX, h1, h2⟩
theorem set_self {cs : List Cel} {n : Nat} {c : Cel} (h : cs[n]? = some c) : cs.set n c = cs := by
  apply List.ext_getElem?
  intro k
  rw [List.getElem?_set]
  by_cases hk : n = k
  · subst hk
    rw [if_pos rfl, if_pos (List.getElem?_eq_some_iff.mp h).1, h]
  · rw [if_neg hk]
end DL
/-! a caught exception that is kept behind its suite: try .. except C as e: x = e, and isinstance(x, T) later -/
namespace DL
open PySem PySem.Spec PyProof.Rows L2
open Evl (Ex)
section
variable {X : Cx} {pins : List (Addr × Obj)} {σ : L2.St} {H : Hp} {s : Shared}
theorem inv_keep {a C : Addr} {d : Option Addr} {oe : Obj} (I : Inv X pins σ H s) (na : H a = none) (e : s.heap.get? a = some oe) (hz : Zc (.ref C) d oe) (hf : ∃ vs, oe.data = .fields vs)
    (n0 : X.s_0.heap.get? a = none) (nL : a ≠ X.env.locals) (np : ∀ p ∈ X.pn ++ pins, p.1 ≠ a) : Inv X pins σ (upd H a (exV a C d)) s where
  ok := I.ok
  os := I.os
  bare := I.bare
  base := by
    have ne : ∀ {b : Addr} {u : HO}, H b = some u → b ≠ a := fun {b u} q z => by rw [z, na] at q; cases q
    refine ⟨I.base.keep, I.base.slot, fun b o q n x => ?_, I.base.there, fun b xs q => ?_, fun b o u q => ?_, fun b ps q => ?_⟩
    · have hb : b ≠ a := fun z => by rw [z, n0] at q; cases q
      rw [upd_ne hb]
      exact I.base.free b o q n x
    · have z := I.base.tups b xs q
      rw [upd_ne (ne z)]
      exact z
    · have z := I.base.frzs b o u q
      rw [upd_ne (ne z)]
      exact z
    · obtain ⟨more, z⟩ := I.base.tbls b ps q
      exact ⟨more, by rw [upd_ne (ne z)]; exact z⟩
  loc := I.loc
  cell := I.cell
  free := by rw [upd_ne (Ne.symm nL)]; exact I.free
  freeC := fun x c hc => by
    have hca : c ≠ a := fun z => by
      obtain ⟨v, o, q1, q2⟩ := I.cell x c hc
      obtain ⟨vs, q3⟩ := hf
      rw [z, e] at q1
      cases q1
      rw [q3] at q2
      cases q2
    rw [upd_ne hca]
    exact I.freeC x c hc
  pin := fun p hp => by
    obtain ⟨p1, p2, p3⟩ := I.pin p hp
    exact ⟨p1, by rw [upd_ne (np p hp)]; exact p2, p3⟩
  hok := I.hok.laidN (fun _ _ q => q) na ⟨⟨oe, e, hz.1, hz.2, hf⟩, ⟨oe, e⟩, fun h1 h2 ⟨o, q, r⟩ k => ⟨o, k o q, r⟩⟩
  len := I.len
end
/-- the ends behind a suite whose exception is kept -/
def keepE (i : Nat) (a C : Addr) (d : Option Addr) (D : Ends) : Ends where
  nx := fun σ H => H a = none → D.nx (σ.set i none) (upd H a (exV a C d))
  rt := fun v H => H a = none → D.rt v (upd H a (exV a C d))
  bk := fun σ H => H a = none → D.bk (σ.set i none) (upd H a (exV a C d))
  ct := fun σ H => H a = none → D.ct (σ.set i none) (upd H a (exV a C d))
def wKe (K : PySem.W.Frag) (c : Value) (i : Nat) (ts : Addr → Addr → Option Addr → TS) (Wout : WX) (D : Ends) : WX := fun cls d σ H =>
  ∃ C : Addr, cls = .ref C ∧ ∃ b, PySem.W.exmOne K cls c = some b ∧ (b = true → ∀ a, H a = none → ts a C d (keepE i a C d D) (σ.set i (some (.ref a))) H) ∧ (b = false → Wout cls d σ H)
theorem ps_try_keep {X : Cx} {x n : Str} {c : Value} {i : Nat} {body suite : List Stmt} {b₀ : Stmt} {np pos pos' : Pos} {tb : WX → TS} {ts : Addr → Addr → Option Addr → TS} {Wout : WX}
    (hx0 : X.ex = []) (hs : X.stack = X.env :: X.outer) (hf : X.env.frame = some X.env.locals) (nd : X.N.Nodup) (hi : X.N[i]? = some n) (kl : X.env.kindOf n = some .local) (nm : Names X x c) (tko : Takes X Wout)
    (tB : ∀ (W : WX) (pn : List (Addr × Obj)) (xe : Value → Shared → Prop), Takes (X.tr pn xe) W → PassesOwn (model X.prog X.w) X.A X.env xe → PSs (X.tr pn xe) body (tb W))
    (tS : ∀ (a : Addr) (oe : Obj) (C : Addr) (d : Option Addr) (pn : List (Addr × Obj)), Zc (.ref C) d oe → (∃ vs, oe.data = .fields vs) → PSs (X.suite a ((a, oe) :: pn)) (b₀ :: suite) (ts a C d)) :
    PS X (.Try body [.ExceptHandler (some (.Name x np)) (some n) (b₀ :: suite) pos'] [] [] pos) (fun D σ H => tb (wKe X.K c i ts Wout D) D σ H) := by
  refine ⟨fun pins s σ H D I start => ?_⟩
  have XO := I.ok
  have frm : X.A.frames = some (X.env :: X.outer) := (XO.frames).trans (by rw [hs])
  let hd : List ExceptHandler := [.ExceptHandler (some (.Name x np)) (some n) (b₀ :: suite) pos']
  refine wpAny_Try_except (wpAny_mono ((tB (wKe X.K c i ts Wout D) (X.pn ++ pins) (fun e t1 => wpAny (model X.prog X.w) X.A (noteFrame e X.env) (fun _ t2 => wpAny (model X.prog X.w) X.A (setFlight e none) (fun _ t3 =>
    wpAny (model X.prog X.w) X.A (handleBy e X.env hd) (SP X pins D) X.xe t3) X.xe t2) X.xe t1) (fun u s' air => ?caught) PassesOwn.looking).run [] s σ H D (I.toTry _) start) (fun f t post => ?through) fun _ _ z => z)
  case caught =>
    obtain ⟨a, B, sI, pins', σ1, H1, cls, d, rfl, JJ, low, up, sky, na, osE, bareE, C, rfl, b, hb, yes, no⟩ := air
    have J := JJ.ofTry (pins := pins) XO
    have sky1 : Sky B (X.env :: X.outer) a (Zc (.ref C) d) X.env.locals s'.heap := by rw [← hs]; exact sky
    show wpAny (model X.prog X.w) X.A (noteFrame (.ref a) X.env) _ _ _
    refine Sky.land Zc.steady frm hf sky1 fun g1 land1 up1 => ?_
    have J1 : Inv X pins σ1 H1 { s' with heap := g1 } := J.landed low land1.1 (up.trans up1) osE bareE
    obtain ⟨o1, vs1, e1, z1, f1⟩ := land1.there
    have nst : a ∉ frs (X.env :: X.outer) := fun hm => by
      obtain ⟨_, o', e', nf⟩ := land1.2.2.1.mem hm
      rw [e1] at e'
      cases e'
      exact nf _ f1
    have nLoc : a ≠ X.env.locals := fun z => nst (List.mem_filterMap.mpr ⟨X.env, List.mem_cons_self, by rw [hf, z]⟩)
    have nFs : a ∉ X.fs := fun hm => by
      obtain ⟨v, hv, q⟩ := List.mem_filterMap.mp hm
      exact nst (List.mem_filterMap.mpr ⟨v, List.mem_cons_of_mem _ hv, q⟩)
    -- nothing stood there before
    have Bnone : B.get? a = none := by
      rcases sky with h | h | h
      · exact h.2.1
      · exact h.2.1
      · exact h.2.1
    have none1 : ∀ o, sI.heap.get? a = some o → False := fun o q => by
      have := low a o q (by rw [hs]; exact nst)
      rw [Bnone] at this
      cases this
    have none0 : X.s_0.heap.get? a = none := by
      cases q : X.s_0.heap.get? a with
      | none => rfl
      | some o =>
        obtain ⟨o', q'⟩ := J.base.there a o q (by rw [hx0]; exact fun z => nomatch z)
        exact (none1 o' q').elim
    have nPin : ∀ p ∈ X.pn ++ pins, p.1 ≠ a := fun p hp z => by
      have := (J.pin p hp).1
      rw [z] at this
      exact none1 _ this
    have S1 := J1.suite e1 f1 na nLoc nFs
    refine wpAny_handleBy_cons (codeAny_handlers_test ?_) (by intro q; cases q)
    have LT : PySem.W.Looks (model X.prog X.w) g1 (typeOf (.ref a)) (.ref C) := fun _ _ _ _ k q => wpAny_typeOf_ref (k _ _ e1) (by rw [z1.1]; exact q)
    have LM := PySem.W.exm_one (M := model X.prog X.w) J1.kIn LT hb
    have ask : ∀ {Q : Value → Shared → Prop} {E : Value → Shared → Prop}, Q c { s' with heap := g1 } → wpAny (model X.prog X.w) (X.A.mark (some (.ref a))) (eval (.Name x np) X.env) Q E { s' with heap := g1 } := fun {Q E} q => by
      obtain ⟨gx, db, m | ⟨m, v, nn⟩⟩ := nm
      · exact ld_glob (X := X.suite a ((a, o1) :: (X.pn ++ pins))) S1 gx m q db
      · exact ld_blt (X := X.suite a ((a, o1) :: (X.pn ++ pins))) S1 gx m v q nn db
    refine ask (LM.here ?_)
    cases b with
    | true =>
      refine codeAny_handlers_suite_as (HandSPX.lands_againZ land1 fun g2 land2 up2 => ?_)
      have J2 : Inv X pins σ1 H1 { s' with heap := g2 } := J.landed low land2.1 ((up.trans up1).trans up2) osE bareE
      obtain ⟨o2, vs2, e2, z2, f2⟩ := land2.there
      refine store_ok (X := X.suite a ((a, o2) :: (X.pn ++ pins))) (v := .ref a) (J2.suite e2 f2 na nLoc nFs) nd hi (.inl kl) rfl (fun t5 T5 => ?_) (.inr kl)
      refine wpAny_mono ((tS a o2 C d (X.pn ++ pins) z2 ⟨_, f2⟩).run [] t5 _ H1 _ T5 (yes rfl a na)) (fun f t6 post => ?_) fun _ _ z => z.elim
      have pinned : ∀ {σ6 : L2.St} {H6 : Hp}, Inv (X.suite a ((a, o2) :: (X.pn ++ pins))) [] σ6 H6 t6 → t6.heap.get? a = some o2 ∧ H6 a = none := fun T6 =>
        let z := T6.pin (a, o2) (List.mem_append_left _ List.mem_cons_self)
        ⟨z.1, z.2.1⟩
      have away : ∀ {σ6 : L2.St} {H6 : Hp} {Q : Shared → Prop}, Inv (X.suite a ((a, o2) :: (X.pn ++ pins))) [] σ6 H6 t6 → (∀ t7, Inv X pins (σ6.set i none) (upd H6 a (exV a C d)) t7 → Q t7) →
          wpAny (model X.prog X.w) X.A (do bindName X.env n .none; unbindBehindTheSuite X.env n pos') (fun _ t7 => Q t7) X.xe t6 := fun {σ6 H6 Q} T6 hq =>
        gone_ok (inv_keep (T6.unsuite XO) (pinned T6).2 (pinned T6).1 z2 ⟨_, f2⟩ none0 nLoc nPin) nd hi kl hq
      match f, post with
      | .next, ⟨σ6, H6, T6, q6⟩ => exact away T6 fun t7 J7 => ⟨_, _, J7, q6 (pinned T6).2⟩
      | .brk, ⟨σ6, H6, T6, q6⟩ => exact away T6 fun t7 J7 => ⟨_, _, J7, q6 (pinned T6).2⟩
      | .cont, ⟨σ6, H6, T6, q6⟩ => exact away T6 fun t7 J7 => ⟨_, _, J7, q6 (pinned T6).2⟩
      | .ret u, ⟨v6, σ6, H6, T6, r6, q6⟩ => exact away T6 fun t7 J7 => ⟨_, _, _, J7, r6, q6 (pinned T6).2⟩
    | false =>
      show wpAny _ X.A (handleBy (.ref a) X.env []) _ _ _
      refine wpAny_handleBy_nil ?_
      obtain ⟨_, _, _, ob, vb, T, oT, tt, eb, zb, fb, v1, _⟩ := id land1
      unfold PySem.passOn
      refine wpAny_bind (wpAny_field eb fb v1 ?_)
      rw [if_neg (show ¬ ((Value.ref T == Value.none) = true) by simp)]
      have out : wpAny (model X.prog X.w) X.A (setFlight (.ref a) X.env.frame) (fun _ t4 => wpAny (model X.prog X.w) X.A (throw (.ref a) : Sem Flow) (SP X pins D) X.xe t4) X.xe { s' with heap := g1 } := by
        rw [hf]
        exact HandSPX.setFlight_upZ land1 fun g2 held up2 => wpAny_throw (tko _ _ ⟨a, B, sI, pins, σ1, H1, .ref C, d, rfl, J, low, (up.trans up1).trans up2, .inr (.inr (by rw [hs]; exact held)), na, osE, bareE, no rfl⟩)
      first
        | exact wpAny_bind (wpAny_pure (wpAny_bind out))
        | exact wpAny_bind out
  case through =>
    match f, post with
    | .next, ⟨σ1, H1, J1, q⟩ => exact wpAny_execs_nil ⟨σ1, H1, J1.ofTry XO, q⟩
    | .brk, ⟨σ1, H1, J1, q⟩ => exact ⟨σ1, H1, J1.ofTry XO, q⟩
    | .cont, ⟨σ1, H1, J1, q⟩ => exact ⟨σ1, H1, J1.ofTry XO, q⟩
    | .ret u, ⟨v, σ1, H1, J1, r, q⟩ => exact ⟨v, σ1, H1, J1.ofTry XO, r, q⟩
/-! ### by data -/
/-- what was caught is an exception from now on -/
inductive ConvE (a C : Addr) (p : Option Int) : List (Option D) → List (Option D) → Prop
  | nil : ConvE a C p [] []
  | same {x : Option D} {xs ys : List (Option D)} : ConvE a C p xs ys → ConvE a C p (x :: xs) (x :: ys)
  | exc {xs ys : List (Option D)} : ConvE a C p xs ys → ConvE a C p (some (.raw (.ref a)) :: xs) (some (.exc C p) :: ys)
theorem ConvE.len {a C : Addr} {p : Option Int} : ∀ {xs ys : List (Option D)}, ConvE a C p xs ys → xs.length = ys.length
  | _, _, .nil => rfl
  | _, _, .same h => by rw [List.length_cons, List.length_cons, h.len]
  | _, _, .exc h => by rw [List.length_cons, List.length_cons, h.len]
theorem ConvE.get {a C : Addr} {p : Option Int} : ∀ {xs ys : List (Option D)} {j : Nat} {d : D}, ConvE a C p xs ys → ys[j]? = some (some d) → xs[j]? = some (some d) ∨ (d = .exc C p ∧ xs[j]? = some (some (.raw (.ref a))))
  | _, _, _, _, .nil, e => by simp at e
  | _, _, 0, _, .same _, e => by simp at e; subst e; exact .inl rfl
  | _, _, j + 1, _, .same h, e => by simpa using h.get (j := j) (by simpa using e)
  | _, _, 0, _, .exc _, e => by simp at e; subst e; exact .inr ⟨rfl, rfl⟩
  | _, _, j + 1, _, .exc h, e => by simpa using h.get (j := j) (by simpa using e)
theorem ConvE.refl {a C : Addr} {p : Option Int} : ∀ xs : List (Option D), ConvE a C p xs xs
  | [] => .nil
  | _ :: xs => .same (ConvE.refl xs)
def Po.kp (P : Po) (i : Nat) (a C : Addr) (p : Option Int) : Po where
  nx := fun e => ∃ sl, ConvE a C p (e.sl.set i none) sl ∧ P.nx ⟨sl, e.cs⟩
  rt := P.rt
  bk := fun e => ∃ sl, ConvE a C p (e.sl.set i none) sl ∧ P.bk ⟨sl, e.cs⟩
  ct := fun e => ∃ sl, ConvE a C p (e.sl.set i none) sl ∧ P.ct ⟨sl, e.cs⟩
def sTryKe (K : PySem.W.Frag) (tbl : List (Str × Bool)) (i L : Nat) (tb : (XN → List Cel → Prop) → DS) (ts : XN → Addr → DS) (XXo : XN → List Cel → Prop) : DS := fun P e => ∃ XX, tb XX P e ∧
  ∀ x cs', XX x cs' → ∃ b, (x.c, b) ∈ tbl ∧ (b = true → ∀ a, ts x a (P.kp i a (He.ga K x.c) x.p) ⟨(List.replicate L none).set i (some (.raw (.ref a))), cs'⟩) ∧ (b = false → XXo x cs')
theorem SlO.conv {K : PySem.W.Frag} {W : Wd} {σ : L2.St} {a C : Addr} {p : Option Int} {d : Option Addr} {sl sl' : List (Option D)} (h : SlO K W σ sl) (hF : W.F a = some (exV a C d)) (hp : PayV p d W) (c : ConvE a C p sl sl') : SlO K W σ sl' := by
  refine ⟨by rw [h.1, c.len], fun j y e => ?_⟩
  rcases c.get e with q | ⟨rfl, q⟩
  · exact h.2 j y q
  · obtain ⟨v, e1, r⟩ := h.2 j _ q
    cases r
    exact ⟨_, e1, .exc hF hp⟩
theorem pay_of {p : Option Int} {d : Option Addr} {W : Wd} (h : PayOk p d W) : PayV p d W := by
  cases p <;> exact h
theorem ds_tryKeep {X : Cx} {B : Bs} {x n : Str} {C : Addr} {i : Nat} {body suite : List Stmt} {b₀ : Stmt} {np pos pos' : Pos} {tbl : List (Str × Bool)} {tb : (XN → List Cel → Prop) → DS} {ts : XN → Addr → DS} {XXo : XN → List Cel → Prop}
    (hx0 : X.ex = []) (hs : X.stack = X.env :: X.outer) (hf : X.env.frame = some X.env.locals) (hN : X.N.Nodup) (hi : X.N[i]? = some n) (hln : X.env.kindOf n = some .local) (hm : X.mg x = some (.ref C)) (hg : Gl X x) (tko : XT X B XXo)
    (hx : ∀ p ∈ tbl, PySem.W.exmOne X.K (.ref (He.ga X.K p.1)) (.ref C) = some p.2) (hE : ∀ p ∈ tbl, ExcZ X.K (He.ga X.K p.1))
    (hb : ∀ (B : Bs) (XX : XN → List Cel → Prop) (pn : List (Addr × Obj)) (xe : Value → Shared → Prop), XT (X.tr pn xe) B XX → PassesOwn (model X.prog X.w) X.A X.env xe → PSs (X.tr pn xe) body (lS X.K B (tb XX)))
    (hsu : ∀ (B : Bs) (x : XN) (a : Addr) (oe : Obj) (d : Option Addr) (pn : List (Addr × Obj)), ExcZ X.K (He.ga X.K x.c) → Zc (.ref (He.ga X.K x.c)) d oe → (∃ vs, oe.data = .fields vs) → (∀ W, B.p W → PayOk x.p d W) → PSs (X.suite a ((a, oe) :: pn)) (b₀ :: suite) (lS X.K B (ts x a)))
    (hdb : (x == ("__debug__" : Str)) = false := by decide) :
    PS X (.Try body [.ExceptHandler (some (.Name x np)) (some n) (b₀ :: suite) pos'] [] [] pos) (lS X.K B (sTryKe X.K tbl i X.N.length tb ts XXo)) := by
  refine PS.imp (ps_try_keep (x := x) (n := n) (c := .ref C) (i := i) (Wout := fun cls d _ H => wE X.K B XXo cls d H)
    (tb := fun W D σ H => ∃ p : Bs × (XN → List Cel → Prop), (∀ cls d σ H, σ.length = X.N.length → wE X.K p.1 p.2 cls d H → W cls d σ H) ∧ lS X.K p.1 (tb p.2) D σ H)
    (ts := fun a E d D σ H => ∃ p : Bs × XN, (E = He.ga X.K p.2.c ∧ ExcZ X.K (He.ga X.K p.2.c) ∧ ∀ W, p.1.p W → PayOk p.2.p d W) ∧ lS X.K p.1 (ts p.2 a) D σ H)
    hx0 hs hf hN hi hln ⟨hg, hdb, .inl hm⟩ tko (fun W pn xe tk po => ?_) (fun a oe E d pn hz hfd => ?_)) fun E σ H h => ?_
  · exact PSs.ofEx (q := fun p : Bs × (XN → List Cel → Prop) => ∀ cls d σ H, σ.length = X.N.length → wE X.K p.1 p.2 cls d H → W cls d σ H) (u := fun p => lS X.K p.1 (tb p.2)) (fun p hp => hb p.1 p.2 pn xe (XT.of (X := X.tr pn xe) tk hp) po) fun D σ H h => h
  · exact PSs.ofEx (q := fun p : Bs × XN => E = He.ga X.K p.2.c ∧ ExcZ X.K (He.ga X.K p.2.c) ∧ ∀ W, p.1.p W → PayOk p.2.p d W) (u := fun p => lS X.K p.1 (ts p.2 a)) (fun p ⟨h1, h2, h3⟩ => by
      subst h1
      exact hsu p.1 p.2 a oe d pn h2 hz hfd h3) fun D σ H h => h
  · obtain ⟨W, e, P, bl, S, ⟨XX, h, hc⟩, c⟩ := lS_un h
    refine ⟨(Bs.of W, XX), fun cls d σ' H' hl ⟨cc, W', cs', e1, e2, bp, ok', px⟩ => ?_, lS_mk W.le_refl S h c⟩
    subst e1
    obtain ⟨b, hbm, hy, hn⟩ := hc cc cs' px
    refine ⟨_, rfl, b, hx _ hbm, fun eb a na => ?_, fun eb => ⟨cc, W', cs', rfl, e2, B.up bl bp, ok', hn eb⟩⟩
    refine ⟨(Bs.of W', cc), ⟨rfl, hE _ hbm, fun W1 l1 => e2.mono l1⟩, lS_mk (P := P.kp i a (He.ga X.K cc.c) cc.p) W'.le_refl ⟨ok', (SlO.none_ hl).set (.raw (.ref a))⟩ (hy eb a) ?_⟩
    have next : ∀ {e' : En} {W2 : Wd} {H2 : Hp} {σ2 : L2.St} {sl : List (Option D)}, W'.le W2 → Sd X.K W2 H2 σ2 e' → H2 a = none → ConvE a (He.ga X.K cc.c) cc.p (e'.sl.set i none) sl → ∃ W3, W'.le W3 ∧ Sd X.K W3 (upd H2 a (exV a (He.ga X.K cc.c) d)) (σ2.set i none) ⟨sl, e'.cs⟩ := by
      intro e' W2 H2 σ2 sl l S2 na2 cv
      obtain ⟨ok3, l3⟩ := S2.ok.newF (o := exV a (He.ga X.K cc.c) d) na2
      exact ⟨_, l.tr l3, ok3, SlO.conv (S2.sl.unset.mono l3) upd_same ((pay_of (e2.mono l)).mono l3.1) cv⟩
    refine ⟨fun e' W2 H2 σ2 ⟨sl, cv, p⟩ l S2 na2 => ?_, fun y cs W2 H2 v p l ok r na2 => ?_, fun e' W2 H2 σ2 ⟨sl, cv, p⟩ l S2 na2 => ?_, fun e' W2 H2 σ2 ⟨sl, cv, p⟩ l S2 na2 => ?_⟩
    · obtain ⟨W3, l3, S3⟩ := next l S2 na2 cv
      exact c.nx _ _ _ _ p (bp.tr l3) S3
    · obtain ⟨ok3, l3⟩ := ok.newF (o := exV a (He.ga X.K cc.c) d) na2
      exact c.rt _ _ _ _ _ p (bp.tr (l.tr l3)) ok3 (R.mono l3 _ _ r)
    · obtain ⟨W3, l3, S3⟩ := next l S2 na2 cv
      exact c.bk _ _ _ _ p (bp.tr l3) S3
    · obtain ⟨W3, l3, S3⟩ := next l S2 na2 cv
      exact c.ct _ _ _ _ p (bp.tr l3) S3
theorem v_tryKe {K : PySem.W.Frag} {e : En} {Po' : Po} {tbl : List (Str × Bool)} {i L : Nat} {tb : (XN → List Cel → Prop) → DS} {ts : XN → Addr → DS} {XXo : XN → List Cel → Prop} (XX : XN → List Cel → Prop) (h1 : tb XX Po' e)
    (h2 : ∀ x cs', XX x cs' → ∃ b, (x.c, b) ∈ tbl ∧ (b = true → ∀ a, ts x a (Po'.kp i a (He.ga K x.c) x.p) ⟨(List.replicate L none).set i (some (.raw (.ref a))), cs'⟩) ∧ (b = false → XXo x cs')) : sTryKe K tbl i L tb ts XXo Po' e := ⟨XX, h1, h2⟩
theorem v_kpn {P : Po} {i : Nat} {a C : Addr} {p : Option Int} {e : En} (h : ∃ sl, ConvE a C p (e.sl.set i none) sl ∧ P.nx ⟨sl, e.cs⟩) : (P.kp i a C p).nx e := h
theorem v_kpr {P : Po} {i : Nat} {a C : Addr} {p : Option Int} {d : D} {cs : List Cel} (h : P.rt d cs) : (P.kp i a C p).rt d cs := h
/-! ### isinstance(x, T), x an exception that is kept -/
theorem inst_kept {X : Cx} {a C : Addr} {d : Option Addr} {pins : List (Addr × Obj)} {σ : L2.St} {H : Hp} {s : Shared} (I : Inv X pins σ H s) (h : H a = some (exV a C d)) (hd : HasD d H) : ∃ oe od, PySem.W.InstAt s.heap a oe C od := by
  obtain ⟨⟨oe, g1, g2, g3, vs, g4⟩, _⟩ := (show ObjOk X.prog X.w H s.heap a (exV a C d) from I.hok a _ h)
  rcases hd with rfl | ⟨dd, fs, rfl, ea⟩
  · refine ⟨oe, none, g1, g2, by unfold PySem.W.notCls; rw [g4] <;> rfl, ?_⟩
    rw [g3]
    trivial
  · obtain ⟨mA, hns, hr⟩ := (show ObjOk X.prog X.w H s.heap dd (.xd fs) from I.hok dd _ ea)
    obtain ⟨od, ho, hl⟩ := lookIn_ns hns
    refine ⟨oe, some od, g1, g2, by unfold PySem.W.notCls; rw [g4] <;> rfl, ?_⟩
    rw [g3]
    exact ho
def rIsK (K : PySem.W.Frag) : List V → Hp → VK → Prop := fun xs H Q => ∃ (a C : Addr) (d : Option Addr) (c : V) (cv : Value) (b : Bool), xs = [.ref a, c] ∧ H a = some (exV a C d) ∧ HasD d H ∧ ExcC K C ∧ (∀ u, RelV c u → u = cv) ∧ PySem.W.kitOne K (.ref C) cv = some b ∧ Q (.bl b) H
theorem call_isK {X : Cx} : CallR X (.builtin "isinstance") (rIsK X.K) := by
  intro pins s σ H xs us Q I r h
  obtain ⟨a, D, d, c, cv, b, rfl, ha, hd, C, hcv, e, q⟩ := h
  cases r with
  | cons rx rr =>
    cases rr with
    | cons rt rr =>
      cases rr
      cases rx
      have ec := hcv _ rt
      subst ec
      obtain ⟨oe, od, J⟩ := inst_kept I ha hd
      exact PySem.W.kia_one (PySem.W.kitx_exc (cls_some C.hd) C.hg C.hk C.hs C.ha C.hn C.ht C.hm) I.kIn J e (fun z => nomatch z) fun tk => ⟨.bl b, H, I.kept (t' := tk) fun _ _ z => z, rfl, q⟩
def rIsKT (K : PySem.W.Frag) : List V → Hp → VK → Prop := fun xs H Q => ∃ (a C : Addr) (d : Option Addr) (tp : Addr) (vs : List V) (us : List Value) (b : Bool), xs = [.ref a, .ref tp] ∧ H a = some (exV a C d) ∧ HasD d H ∧ ExcC K C ∧ SqT K H tp vs ∧ Paired ClsV vs us ∧ PySem.W.kitAny K (.ref C) us = some b ∧ Q (.bl b) H
theorem call_isKT {X : Cx} : CallR X (.builtin "isinstance") (rIsKT X.K) := by
  intro pins s σ H xs us Q I r h
  obtain ⟨a, D, d, tp, vs, ws, b, rfl, ha, hd, C, hT, k, e, q⟩ := h
  obtain ⟨u1, u2, rfl, r1, r2⟩ := vals2 r
  cases (show u1 = Value.ref a from r1)
  cases (show u2 = Value.ref tp from r2)
  obtain ⟨its, rv, ⟨o, h1, h2, n, h3⟩, _⟩ := I.tuple hT
  have e3 := ClsV.all k rv
  subst e3
  obtain ⟨oc, od0, dt, sl⟩ := o
  simp only at h2 h3
  subst h2 h3
  obtain ⟨oe, od, J⟩ := inst_kept I ha hd
  exact PySem.W.kia_tup (PySem.W.kitx_exc (cls_some C.hd) C.hg C.hk C.hs C.ha C.hn C.ht C.hm) I.kIn J h1 e (fun z => nomatch z) fun tk => ⟨.bl b, H, I.kept (t' := tk) fun _ _ z => z, rfl, q⟩
/-- the answer for the class stands in the table -/
def qIsK (K : PySem.W.Frag) (tbl : List (Str × Bool)) (tg : D) : List D → DE := fun ds e P => ∃ (c : Str) (p : Option Int) (d : D), ds = [.exc (He.ga K c) p, d] ∧ d = tg ∧ ∃ b, (c, b) ∈ tbl ∧ P (.bl b) e
theorem hasD_pay {p : Option Int} {d : Option Addr} {W : Wd} {H : Hp} (hp : PayV p d W) (ex : Ex W.F H) : HasD d H := hasD_of (x := ⟨"", p⟩) (show PayOk p d W by cases p <;> exact hp) ex
section
variable {K : PySem.W.Frag} {tbl : List (Str × Bool)}
theorem cd_isK {C : Addr} (hE : ∀ p ∈ tbl, ExcZ K (He.ga K p.1)) (h : ∀ p ∈ tbl, PySem.W.kitOne K (.ref (He.ga K p.1)) (.ref C) = some p.2) : CallD K (rIsK K) (qIsK K tbl (.raw (.ref C))) := by
  rintro W H σ e vs ds P Q S r ⟨c, p, d, rfl, rfl, b, hb, t⟩ k
  obtain ⟨v, v2, rfl, r1, r2⟩ := r.two
  cases r2
  cases r1 with
  | exc hF hp => exact ⟨_, _, _, .ref C, .ref C, b, rfl, S.ok.ex _ _ hF, hasD_pay hp S.ok.ex, (hE _ hb).e, fun u hu => hu, h _ hb, k _ _ _ _ _ t W.le_refl S (.bl _)⟩
theorem cd_isKB {T : String} (hE : ∀ p ∈ tbl, ExcZ K (He.ga K p.1)) (h : ∀ p ∈ tbl, PySem.W.kitOne K (.ref (He.ga K p.1)) (.type T) = some p.2) : CallD K (rIsK K) (qIsK K tbl (.raw (.ty T))) := by
  rintro W H σ e vs ds P Q S r ⟨c, p, d, rfl, rfl, b, hb, t⟩ k
  obtain ⟨v, v2, rfl, r1, r2⟩ := r.two
  cases r2
  cases r1 with
  | exc hF hp => exact ⟨_, _, _, .ty T, .type T, b, rfl, S.ok.ex _ _ hF, hasD_pay hp S.ok.ex, (hE _ hb).e, fun u hu => hu, h _ hb, k _ _ _ _ _ t W.le_refl S (.bl _)⟩
theorem cd_isKT {Cs : List Addr} (hE : ∀ p ∈ tbl, ExcZ K (He.ga K p.1)) (h : ∀ p ∈ tbl, PySem.W.kitAny K (.ref (He.ga K p.1)) (Cs.map fun C => .ref C) = some p.2) : CallD K (rIsKT K) (qIsK K tbl (.tup (Cs.map fun C => .raw (.ref C)))) := by
  rintro W H σ e vs ds P Q S r ⟨c, p, d, rfl, rfl, b, hb, t⟩ k
  obtain ⟨v, v2, rfl, r1, r2⟩ := r.two
  cases r2 with
  | tup h1 h2 =>
    cases r1 with
    | exc hF hp => exact ⟨_, _, _, _, _, _, b, rfl, S.ok.ex _ _ hF, hasD_pay hp S.ok.ex, (hE _ hb).e, Evl.ex_t S.ok.ex h1, clsv_map h2, h _ hb, k _ _ _ _ _ t W.le_refl S (.bl _)⟩
end
theorem v_isK {K : PySem.W.Frag} {tbl : List (Str × Bool)} {tg : D} {ds : List D} {e : En} {P : D → En → Prop} (h : ∃ (c : Str) (p : Option Int) (d : D), ds = [.exc (He.ga K c) p, d] ∧ d = tg ∧ ∃ b, (c, b) ∈ tbl ∧ P (.bl b) e) : qIsK K tbl tg ds e P := h
/-! ### xs.insert(i, y) -/
def qIns : D → List D → DE := fun d ds e P => ∃ (n : Nat) (xs : List D) (i : Int) (y : D), d = .cell n ∧ ds = [.int i, y] ∧ e.cs[n]? = some (.lst xs) ∧ xs.length < 100000 ∧ 0 ≤ i ∧ i < 1000000 ∧ P .non { e with cs := e.cs.set n (.lst (xs.take i.toNat ++ [y] ++ xs.drop i.toNat)) }
theorem md_ins {K : PySem.W.Frag} : MtD K (fun x vs H Q => ∃ (l : Addr) (xs : List V) (i : Int) (y : V), x = .ref l ∧ vs = [.int i, y] ∧ H l = some (.lst xs) ∧ xs.length < sizeLine ∧ 0 ≤ i ∧ i < 2 ^ 63 ∧ Q .non (upd H l (.lst (xs.take i.toNat ++ [y] ++ xs.drop i.toNat)))) qIns := by
  rintro W H σ e x vs d ds P Q S r rs ⟨n, xs, i, y, rfl, rfl, hc, hz, h0, h1, p⟩ k
  obtain ⟨v, v2, rfl, rv, r2⟩ := rs.two
  cases rv
  cases r with
  | @cell _ a hm =>
    obtain ⟨vs, g1, g2⟩ := S.ok.cellL hm hc
    refine ⟨a, vs, i, v2, rfl, rfl, g1, ?_, h0, by omega, ?_⟩
    · rw [g2.length]
      exact Nat.lt_of_lt_of_le hz (by decide)
    · exact k _ _ _ _ _ p W.le_refl ⟨S.ok.setC hm hc (fun z => nomatch z) ⟨_, upd_same, ((g2.take i.toNat).append (.cons r2 .nil)).append (g2.drop i.toNat)⟩, S.sl⟩ .non
/-! ### [x, ..] * n -/
def qRepL (o : Bool) : D → D → DE := fun x y e P => ∃ xs k, lkP e.cs x = some xs ∧ y = .int k ∧ -1000000 ≤ k ∧ k ≤ 1000000 ∧ xs.length * k.toNat ≤ 100000 ∧ newL o (List.replicate k.toNat xs).flatten e P
theorem rep_all {K : PySem.W.Frag} {W : Wd} {vs : List V} {xs : List D} (h : RAll K W vs xs) : ∀ n : Nat, RAll K W (List.replicate n vs).flatten (List.replicate n xs).flatten
  | 0 => .nil
  | n + 1 => by
    rw [List.replicate_succ, List.replicate_succ, List.flatten_cons, List.flatten_cons]
    exact h.append (rep_all h n)
theorem od_repL {K : PySem.W.Frag} {o : Bool} : OpD K rRep (qRepL o) := by
  rintro W H σ e x y d1 d2 P Q S r1 r2 ⟨xs, k0, h1, rfl, g1, g2, g3, t⟩ k
  obtain ⟨p1, vs, rfl, e1, q1⟩ := S.ok.lkP r1 h1
  cases r2
  exact ⟨p1, k0, vs, rfl, rfl, e1, by omega, by omega, by rw [q1.length]; exact Nat.le_trans g3 (by decide), newL_ok S (rep_all q1 _) t k⟩
theorem v_repL {o : Bool} {x : D} {k : Int} {xs : List D} {e : En} {P : D → En → Prop} (h : lkP e.cs x = some xs) (h1 : -1000000 ≤ k) (h2 : k ≤ 1000000) (hz : xs.length * k.toNat ≤ 100000) (p : newL o (List.replicate k.toNat xs).flatten e P) : qRepL o x (.int k) e P := ⟨xs, k, h, rfl, h1, h2, hz, p⟩
/-! ### a, b = a list -/
def sAsgL (t : DE) (is : List Nat) : DS := fun P e => t e fun d e1 => ∃ xs, lk e1.cs d = some xs ∧ xs.length = is.length ∧ P.nx ⟨setAll is xs e1.sl, e1.cs⟩
theorem lk_seq {K : PySem.W.Frag} {W : Wd} {H : Hp} {cs : List Cel} {d : D} {v : V} {xs : List D} (ok : Ok K W H cs) (r : R K W v d) (h : lk cs d = some xs) : ∃ a vs, v = .ref a ∧ SqL K H a vs ∧ RAll K W vs xs := by
  cases d with
  | lst ys =>
    cases h
    cases r with
    | lst h1 h2 => exact ⟨_, _, rfl, SqL.of (ok.ex _ _ h1), h2⟩
  | fro ys =>
    cases h
    cases r with
    | fro h1 h2 => exact ⟨_, _, rfl, Evl.ex_l ok.ex h1, h2⟩
  | cell n =>
    cases r with
    | cell hm =>
      have h' : (match cs[n]? with | some (.lst xs) => some xs | _ => none) = some xs := h
      split at h'
      · rename_i ys hc
        cases h'
        obtain ⟨vs, h1, h2⟩ := ok.cellL hm hc
        exact ⟨_, _, rfl, SqL.of h1, h2⟩
      · cases h'
  | _ => cases h
theorem ds_asgL {X : Cx} {B : Bs} {es : List Expr} {ex : Expr} {te : DE} {is : List Nat} {k : Nat} {tp pos : Pos} (he : PE X ex (lE X.K B te)) (hg : PG X (.Tuple es k tp) (gLst X.K is.length (gVs is))) (hs : swapsWithSole [.Tuple es k tp] ex pos.line X.env = pure false := by rfl) (hw : swappedStores [.Tuple es k tp] ex X.env = pure none := by rfl)
    (h1 : (assignEach [.Tuple es k tp] X.env).map (·.2) = [assign (.Tuple es k tp) X.env] := by rfl) : PS X (.Assign [.Tuple es k tp] ex pos) (lS X.K B (sAsgL te is)) := PS.imp (ps_asg he hg hs hw h1) fun E σ H h => by
  obtain ⟨W, e, P, bl, S, h, c⟩ := lS_un h
  refine ⟨W, e, _, bl, S, h, fun d e1 W1 H1 v ⟨xs, hx, hl, p⟩ l S1 r => ?_⟩
  obtain ⟨a, vs, rfl, h2, h3⟩ := lk_seq S1.ok r hx
  exact ⟨a, vs, rfl, h2, by rw [h3.length]; exact hl, gVs_ok (vs := []) is _ _ _ _ h3 hl S1.sl fun σ' S' _ => c.nx _ _ _ _ p l ⟨S1.ok, S'⟩⟩
theorem v_asgL {t : DE} {is : List Nat} {Po' : Po} {e : En} (h : t e fun d e1 => ∃ xs, lk e1.cs d = some xs ∧ xs.length = is.length ∧ Po'.nx ⟨setAll is xs e1.sl, e1.cs⟩) : sAsgL t is Po' e := h
/-! ### a list that changes no more from here on -/
def sFrz (t : DS) : DS := fun P e => t { P with nx := fun e1 => ∃ n xs, e1.cs[n]? = some (.lst xs) ∧ P.nx ⟨e1.sl.map (Option.map (subC n xs)), e1.cs.set n .dead⟩ } e
theorem frz_ok {K : PySem.W.Frag} {W : Wd} {H : Hp} {σ : L2.St} {sl : List (Option D)} {cs : List Cel} {n : Nat} {xs : List D} (S : Sd K W H σ ⟨sl, cs⟩) (hc : cs[n]? = some (.lst xs)) : ∃ W', W.le W' ∧ Sd K W' H σ ⟨sl.map (Option.map (subC n xs)), cs.set n .dead⟩ := by
  have hn : n < W.m.length := by
    rw [S.ok.len]
    exact (List.getElem?_eq_some_iff.mp hc).1
  have hm : W.m[n]? = some W.m[n] := List.getElem?_eq_getElem hn
  obtain ⟨vs, h1, h2⟩ := S.ok.cellL hm hc
  obtain ⟨ok, l⟩ := S.ok.freeze hm hc h1
  refine ⟨_, l, ok, ⟨by rw [S.sl.1, List.length_map], fun j d' e => ?_⟩⟩
  rw [List.getElem?_map, Option.map_eq_some_iff] at e
  obtain ⟨y, e1, e2⟩ := e
  obtain ⟨d, rfl, rfl⟩ := Option.map_eq_some_iff.mp e2
  obtain ⟨v, g1, g2⟩ := S.sl.2 j d e1
  exact ⟨v, g1, R.subC (W := ⟨upd W.F W.m[n] (.lst vs), W.m, W.h⟩) (n := n) hm (show upd W.F W.m[n] (.lst vs) W.m[n] = _ from upd_same) (RAll.mono l _ _ h2) d v (R.mono l _ _ g2)⟩
theorem ds_frz {X : Cx} {B : Bs} {st : Stmt} {t : DS} (h : PS X st (lS X.K B t)) : PS X st (lS X.K B (sFrz t)) := PS.imp h fun E σ H z => by
  obtain ⟨W, e, P, bl, S, h, c⟩ := lS_un z
  refine ⟨W, e, _, bl, S, h, ⟨fun e' W' H' σ' ⟨n, xs, hc, p⟩ l S' => ?_, c.rt, c.bk, c.ct⟩⟩
  obtain ⟨W2, l2, S2⟩ := frz_ok S' hc
  exact c.nx _ _ _ _ p (l.tr l2) S2
theorem v_frz {t : DS} {Po' : Po} {e : En} (h : t { Po' with nx := fun e1 => ∃ n xs, e1.cs[n]? = some (.lst xs) ∧ Po'.nx ⟨e1.sl.map (Option.map (subC n xs)), e1.cs.set n .dead⟩ } e) : sFrz t Po' e := h
end DL
/-! methods that may raise, with one keyword-only parameter and its default -/
namespace L2
open PySem PySem.Spec PyProof.Rows
section
variable {X : Cx} {CX : CXT} {k n : Nat} {f C : Addr} {fd : FuncData} {ps ks : List Str} {sp : Sp} {E : XK} {m : Str} {pos apos : Pos} {e o : Expr} {es : List Expr} {kws : List Keyword} {ta : TE} {t tk : TA} {g : List Value → List Value → List Value} {gV : List V → List V → List V}
theorem PK.imp (h : PK X kws t) (f : ∀ σ H Q, tk σ H Q → t σ H Q) : PK X kws tk := ⟨fun pos pins s σ H Q I p => h.run pos pins s σ H Q I (f σ H Q p)⟩
def tMethK (C : Addr) (m : Str) (n k : Nat) (sp : Sp) (gV : List V → List V → List V) (E : XK) (ta : TE) (t tk : TA) : TE := fun σ H Q => ta σ H fun x H1 => ∃ a dx fs, x = .ref a ∧ H1 a = some (.ins C dx fs) ∧ fs.lookup m = none ∧
  t σ H1 fun vs H2 => tk σ H2 fun zs H3 => vs.length + 1 = n ∧ zs.length = k ∧ sp (gV (x :: vs) zs) H3 Q E
/-- o.m(e, .., k = v) -/
theorem pe_methK {pl : Sem Bool} (he : PE X o ta) (c : Cls X.K C) (hm : Meth X.K C m f) (F : FnOk X.prog X.w X.K X.mg X.base CX k f fd ps sp) (hr : Room k X.A) (hb : KBn X.K fd ps n ks g gV) (hx : Passes CX X E) (ha : PA X (e :: es) t) (hkw : PK X kws tk)
    (hall : (backToKw pos (keywordEach kws X.env)).all (·.1.isSome) = true := by rfl) (hks : (backToKw pos (keywordEach kws X.env)).filterMap (·.1) = ks := by rfl)
    (hst : starEach (e :: es) X.env = (false, eval e X.env) :: starEach es X.env := by rfl) (hpl : ((backTo pos (starEach (e :: es) X.env)).any (·.1) || (backToKw pos (keywordEach kws X.env)).any (·.1.isNone)) = false := by rfl)
    (ht : eval (.Call (.Attribute o m apos) (e :: es) kws pos) X.env = (do
      let ov ← eval o X.env
      standAt apos.atName
      let (f, first) ← holding [ov] (getMethod ov m pl)
      callWith pos f first (backTo pos (starEach (e :: es) X.env)) (backToKw pos (keywordEach kws X.env))) := by rfl) :
    PE X (.Call (.Attribute o m apos) (e :: es) kws pos) (tMethK C m n ks.length sp gV E ta t tk) := by
  refine ⟨fun pins s σ H Q I h => ?_⟩
  refine PySem.W.methodCall_KW (pl := pl) (thn (he.run pins s σ H _ I h) fun u s1 ⟨x, H1, I1, rx, a, dx, fs, ex, ea, l, q⟩ => ?_) ht
  subst ex
  obtain rfl : u = Value.ref a := rx
  refine getmeth_ok I1 ea c hm l ?_
  refine PySem.W.callWith_KW (first := [.ref a]) (h₀ := X.base) I.ok.mod.kin hm.kp hall (thn (ha.run pos pins s1 σ H1 _ I1 q) fun us s2 ⟨vs, H2, I2, r, q2⟩ => ?_) hpl hst
  refine thn (hkw.run pos pins s2 σ H2 _ I2 q2) fun ws s3 ⟨zs, H3, I3, rz, l1, l2, q3⟩ => ⟨I3.kIn, ?_⟩
  rw [hks]
  exact run_fnN (us := .ref a :: us) (vs := .ref a :: vs) F hr hb hx I3 (.cons rfl r) rz l1 l2 q3
/-- o.m(k = v) -/
theorem pe_methK0 {pl : Sem Bool} (he : PE X o ta) (c : Cls X.K C) (hm : Meth X.K C m f) (F : FnOk X.prog X.w X.K X.mg X.base CX k f fd ps sp) (hr : Room k X.A) (hb : KBn X.K fd ps n ks g gV) (hx : Passes CX X E) (hkw : PK X kws tk)
    (hall : (backToKw pos (keywordEach kws X.env)).all (·.1.isSome) = true := by rfl) (hks : (backToKw pos (keywordEach kws X.env)).filterMap (·.1) = ks := by rfl)
    (hpl : ((backTo pos (starEach [] X.env)).any (·.1) || (backToKw pos (keywordEach kws X.env)).any (·.1.isNone)) = false := by rfl)
    (ht : eval (.Call (.Attribute o m apos) [] kws pos) X.env = (do
      let ov ← eval o X.env
      standAt apos.atName
      let (f, first) ← holding [ov] (getMethod ov m pl)
      callWith pos f first (backTo pos (starEach [] X.env)) (backToKw pos (keywordEach kws X.env))) := by rfl) :
    PE X (.Call (.Attribute o m apos) [] kws pos) (tMethK C m n ks.length sp gV E ta tNil tk) := by
  refine ⟨fun pins s σ H Q I h => ?_⟩
  refine PySem.W.methodCall_KW (pl := pl) (thn (he.run pins s σ H _ I h) fun u s1 ⟨x, H1, I1, rx, a, dx, fs, ex, ea, l, q⟩ => ?_) ht
  subst ex
  obtain rfl : u = Value.ref a := rx
  refine getmeth_ok I1 ea c hm l ?_
  refine PySem.W.callWith_KW0 (first := [.ref a]) (h₀ := X.base) I.ok.mod.kin hm.kp hall ?_ hpl
  refine thn (hkw.run pos pins s1 σ H1 _ I1 q) fun ws s3 ⟨zs, H3, I3, rz, l1, l2, q3⟩ => ⟨I3.kIn, ?_⟩
  rw [hks]
  exact run_fnN (us := [.ref a]) (vs := [.ref a]) F hr hb hx I3 (.cons rfl .nil) rz l1 l2 q3
end
end L2
namespace DL
open PySem PySem.Spec PyProof.Rows L2
open Evl (Ex)
/-- a method with n parameters and one more, keyword-only, kw, with a default (dd as data) -/
def GoodK (P : Program) (w : World) (K : PySem.W.Frag) (mg : Str → Option Value) (base : Heap) (k : Nat) (f : Addr) (ps : List Str) (n : Nat) (kw : Str) (dd : D) (sp : SpX) : Prop :=
  ∃ fd us0 dv, FnOk P w K mg base (L2.CX P w) k f fd ps (spDX K sp) ∧ PySem.W.keepIn K (.ref f) = true ∧ Binds K fd ps us0 ∧ Vals [dv] us0 ∧ (∀ W, R K W dv dd) ∧ KBn K fd ps n [kw] (fun us ws => us ++ ws) (fun vs zs => vs ++ zs)
theorem GoodK.mono {P : Program} {w : World} {K : PySem.W.Frag} {mg : Str → Option Value} {base : Heap} {j k n : Nat} {f : Addr} {ps : List Str} {kw : Str} {dd : D} {sp : SpX} (g : GoodK P w K mg base j f ps n kw dd sp) (h : j ≤ k) : GoodK P w K mg base k f ps n kw dd sp := by
  obtain ⟨fd, us0, dv, F, r⟩ := g
  exact ⟨fd, us0, dv, F.mono h, r⟩
def eMethX (C : Addr) (m : Str) (XX : XN → List Cel → Prop) (sp : SpX) (dd : List D) (t : DE) (ta : DA) : DE := fun e P => t e fun d e1 => (∃ ns xs, insD e1.cs d = some (C, ns, xs) ∧ m ∉ ns) ∧ ta e1 fun ds e2 => sp (d :: (ds ++ dd)) e2.cs (fun r cs' => P r { e2 with cs := cs' }) XX
/-- with the keyword: its value stands behind the others -/
def eMethK (C : Addr) (m : Str) (XX : XN → List Cel → Prop) (sp : SpX) (n : Nat) (t : DE) (ta tk : DA) : DE := fun e P => t e fun d e1 => (∃ ns xs, insD e1.cs d = some (C, ns, xs) ∧ m ∉ ns) ∧ ta e1 fun ds e2 => tk e2 fun zs e3 => ds.length + 1 = n ∧ zs.length = 1 ∧ sp (d :: (ds ++ zs)) e3.cs (fun r cs' => P r { e3 with cs := cs' }) XX
section
variable {X : Cx} {B : Bs} {XX : XN → List Cel → Prop} {ex o : Expr} {es : List Expr} {kws : List Keyword} {te t1 : DE} {ta t2 tk' : DA} {C : Addr} {f m x kw : Str} {pos apos p kpos : Pos} {k n : Nat} {fn : Addr} {ps ks : List Str} {sp : SpX} {dd : D} {nm : Option Str}
/-- the keywords' values, as data -/
theorem dk_nil : PK X [] (lA X.K B aNil) := PK.imp pk_nil fun σ H Q ⟨W, e, P, bl, S, t, k⟩ => k [] e W H [] t W.le_refl S .nil
theorem dk_cons (ha : PE X ex (lE X.K B t1)) (hr : PK X kws (lA X.K B t2)) : PK X (⟨nm, ex, kpos⟩ :: kws) (lA X.K B (aCons t1 t2)) :=
  PK.imp (pk_cons ha hr) fun σ H Q ⟨W, e, P, bl, S, t, k⟩ => ⟨W, e, _, bl, S, t, fun d e1 W1 H1 v t1 l1 S1 r1 => ⟨W1, e1, _, (B.up bl l1), S1, t1, fun ds e2 W2 H2 vs p l2 S2 r2 => k _ _ _ _ _ p (l1.tr l2) S2 (.cons (R.mono l2 _ _ r1) r2)⟩⟩
theorem de_methX {pl : Sem Bool} (G : GoodK X.prog X.w X.K X.mg X.base k fn ps n kw dd sp) (tk : XT X B XX) (hr : Room k X.A) (c : Cls X.K C) (hm : Meth X.K C m fn) (ho : PE X o (lE X.K B te)) (ha : PA X (ex :: es) (lA X.K B ta))
    (hst : starEach (ex :: es) X.env = (false, eval ex X.env) :: starEach es X.env := by rfl) (hpl : (backTo pos (starEach es X.env)).any (·.1) = false := by rfl)
    (ht : eval (.Call (.Attribute o m apos) (ex :: es) [] pos) X.env = (do
      let ov ← eval o X.env
      standAt apos.atName
      let (f, first) ← holding [ov] (getMethod ov m pl)
      callWith pos f first (backTo pos (starEach (ex :: es) X.env)) (backToKw pos (keywordEach [] X.env))) := by rfl) :
    PE X (.Call (.Attribute o m apos) (ex :: es) [] pos) (lE X.K B (eMethX C m XX sp [dd] te ta)) := by
  obtain ⟨fd, us0, dv, F, kp, b, rv, rd, _⟩ := G
  refine PE.imp (pe_meth ho c hm F hr b rv tk.passes ha hst hpl ht) fun σ H Q ⟨W, e, P, bl, S, t, k⟩ => ⟨W, e, _, bl, S, t, fun d e1 W1 H1 v ⟨⟨ns, xs, hi, hn⟩, h⟩ l S1 r => ?_⟩
  obtain ⟨a, dx, gs, rfl, h1, h2, h3⟩ := S1.ok.ins r hi
  refine ⟨a, dx, gs, rfl, h1, lookup_none (by rw [h2]; exact hn), W1, e1, _, B.up bl l, S1, h, fun ds e2 W2 H2 vs h l2 S2 r2 => ?_⟩
  exact ⟨W2, e2.cs, d :: (ds ++ [dd]), _, XX, S2.ok, .cons (R.mono l2 _ _ r) (r2.append (.cons (rd W2) .nil)), h, fun d cs' W3 H3 v p l3 ok3 r3 => k _ _ _ _ _ p ((l.tr l2).tr l3) ⟨ok3, S2.sl.mono l3⟩ r3, fun y cs' W3 H3 d' px pd l3 ok3 => ⟨y, W3, cs', rfl, pd, B.up bl ((l.tr l2).tr l3), ok3, px⟩⟩
theorem de_methX0 {pl : Sem Bool} (G : GoodK X.prog X.w X.K X.mg X.base k fn ps n kw dd sp) (tk : XT X B XX) (hr : Room k X.A) (c : Cls X.K C) (hm : Meth X.K C m fn) (ho : PE X o (lE X.K B te))
    (ht : eval (.Call (.Attribute o m apos) [] [] pos) X.env = (do
      let ov ← eval o X.env
      standAt apos.atName
      let (f, first) ← holding [ov] (getMethod ov m pl)
      callWith pos f first (backTo pos (starEach [] X.env)) (backToKw pos (keywordEach [] X.env))) := by rfl) :
    PE X (.Call (.Attribute o m apos) [] [] pos) (lE X.K B (eMethX C m XX sp [dd] te aNil)) := by
  obtain ⟨fd, us0, dv, F, kp, b, rv, rd, _⟩ := G
  refine PE.imp (pe_meth0 ho c hm F hr b rv tk.passes ht) fun σ H Q ⟨W, e, P, bl, S, t, k⟩ => ⟨W, e, _, bl, S, t, fun d e1 W1 H1 v ⟨⟨ns, xs, hi, hn⟩, h⟩ l S1 r => ?_⟩
  obtain ⟨a, dx, gs, rfl, h1, h2, h3⟩ := S1.ok.ins r hi
  refine ⟨a, dx, gs, rfl, h1, lookup_none (by rw [h2]; exact hn), ?_⟩
  exact ⟨W1, e1.cs, [d, dd], _, XX, S1.ok, .cons r (.cons (rd W1) .nil), h, fun d cs' W3 H3 v p l3 ok3 r3 => k _ _ _ _ _ p (l.tr l3) ⟨ok3, S1.sl.mono l3⟩ r3, fun y cs' W3 H3 d' px pd l3 ok3 => ⟨y, W3, cs', rfl, pd, B.up bl (l.tr l3), ok3, px⟩⟩
theorem de_methXK {pl : Sem Bool} (G : GoodK X.prog X.w X.K X.mg X.base k fn ps n kw dd sp) (tk : XT X B XX) (hr : Room k X.A) (c : Cls X.K C) (hm : Meth X.K C m fn) (ho : PE X o (lE X.K B te)) (ha : PA X (ex :: es) (lA X.K B ta)) (hk : PK X kws (lA X.K B tk'))
    (hall : (backToKw pos (keywordEach kws X.env)).all (·.1.isSome) = true := by rfl) (hks : (backToKw pos (keywordEach kws X.env)).filterMap (·.1) = [kw] := by rfl)
    (hst : starEach (ex :: es) X.env = (false, eval ex X.env) :: starEach es X.env := by rfl) (hpl : ((backTo pos (starEach (ex :: es) X.env)).any (·.1) || (backToKw pos (keywordEach kws X.env)).any (·.1.isNone)) = false := by rfl)
    (ht : eval (.Call (.Attribute o m apos) (ex :: es) kws pos) X.env = (do
      let ov ← eval o X.env
      standAt apos.atName
      let (f, first) ← holding [ov] (getMethod ov m pl)
      callWith pos f first (backTo pos (starEach (ex :: es) X.env)) (backToKw pos (keywordEach kws X.env))) := by rfl) :
    PE X (.Call (.Attribute o m apos) (ex :: es) kws pos) (lE X.K B (eMethK C m XX sp n te ta tk')) := by
  obtain ⟨fd, us0, dv, F, kp, _, _, _, b⟩ := G
  refine PE.imp (pe_methK ho c hm F hr b tk.passes ha hk hall hks hst hpl ht) fun σ H Q ⟨W, e, P, bl, S, t, k⟩ => ⟨W, e, _, bl, S, t, fun d e1 W1 H1 v ⟨⟨ns, xs, hi, hn⟩, h⟩ l S1 r => ?_⟩
  obtain ⟨a, dx, gs, rfl, h1, h2, h3⟩ := S1.ok.ins r hi
  refine ⟨a, dx, gs, rfl, h1, lookup_none (by rw [h2]; exact hn), W1, e1, _, B.up bl l, S1, h, fun ds e2 W2 H2 vs h l2 S2 r2 => ⟨W2, e2, _, B.up bl (l.tr l2), S2, h, fun zs e3 W3 H3 ws ⟨z1, z2, h⟩ l3 S3 r3 => ⟨by rw [r2.length]; exact z1, by rw [r3.length]; exact z2, ?_⟩⟩⟩
  exact ⟨W3, e3.cs, d :: (ds ++ zs), _, XX, S3.ok, .cons (R.mono (l2.tr l3) _ _ r) ((r2.mono l3).append r3), h, fun d cs' W4 H4 v p l4 ok4 r4 => k _ _ _ _ _ p (((l.tr l2).tr l3).tr l4) ⟨ok4, S3.sl.mono l4⟩ r4, fun y cs' W4 H4 d' px pd l4 ok4 => ⟨y, W4, cs', rfl, pd, B.up bl (((l.tr l2).tr l3).tr l4), ok4, px⟩⟩
theorem de_methXK0 {pl : Sem Bool} (G : GoodK X.prog X.w X.K X.mg X.base k fn ps n kw dd sp) (tk : XT X B XX) (hr : Room k X.A) (c : Cls X.K C) (hm : Meth X.K C m fn) (ho : PE X o (lE X.K B te)) (hk : PK X kws (lA X.K B tk'))
    (hall : (backToKw pos (keywordEach kws X.env)).all (·.1.isSome) = true := by rfl) (hks : (backToKw pos (keywordEach kws X.env)).filterMap (·.1) = [kw] := by rfl)
    (hpl : ((backTo pos (starEach [] X.env)).any (·.1) || (backToKw pos (keywordEach kws X.env)).any (·.1.isNone)) = false := by rfl)
    (ht : eval (.Call (.Attribute o m apos) [] kws pos) X.env = (do
      let ov ← eval o X.env
      standAt apos.atName
      let (f, first) ← holding [ov] (getMethod ov m pl)
      callWith pos f first (backTo pos (starEach [] X.env)) (backToKw pos (keywordEach kws X.env))) := by rfl) :
    PE X (.Call (.Attribute o m apos) [] kws pos) (lE X.K B (eMethK C m XX sp n te aNil tk')) := by
  obtain ⟨fd, us0, dv, F, kp, _, _, _, b⟩ := G
  refine PE.imp (pe_methK0 ho c hm F hr b tk.passes hk hall hks hpl ht) fun σ H Q ⟨W, e, P, bl, S, t, k⟩ => ⟨W, e, _, bl, S, t, fun d e1 W1 H1 v ⟨⟨ns, xs, hi, hn⟩, h⟩ l S1 r => ?_⟩
  obtain ⟨a, dx, gs, rfl, h1, h2, h3⟩ := S1.ok.ins r hi
  refine ⟨a, dx, gs, rfl, h1, lookup_none (by rw [h2]; exact hn), W1, e1, _, B.up bl l, S1, h, fun zs e3 W3 H3 ws ⟨z1, z2, h⟩ l3 S3 r3 => ⟨z1, by rw [r3.length]; exact z2, ?_⟩⟩
  exact ⟨W3, e3.cs, d :: zs, _, XX, S3.ok, .cons (R.mono l3 _ _ r) r3, h, fun d cs' W4 H4 v p l4 ok4 r4 => k _ _ _ _ _ p ((l.tr l3).tr l4) ⟨ok4, S3.sl.mono l4⟩ r4, fun y cs' W4 H4 d' px pd l4 ok4 => ⟨y, W4, cs', rfl, pd, B.up bl ((l.tr l3).tr l4), ok4, px⟩⟩
end
/-! ### x not in o of an own class -/
def rNinO (K : PySem.W.Frag) (C : Addr) (sp : Spc) : R2 := fun y x H Q => rInO K C sp y x H fun v H' => ∃ b, v = .bl b ∧ Q (.bl (!b)) H'
def qNinO (C : Addr) (sp : Spc) : D → D → DE := fun y d => fun e P => qInO C sp y d e fun r e' => ∃ b, r = .bl b ∧ P (.bl (!b)) e'
theorem od_ninO {K : PySem.W.Frag} {C : Addr} {sp : Spc} : OpD K (rNinO K C sp) (qNinO C sp) := fun W H σ e x y d1 d2 P Q S r1 r2 t k =>
  od_inO W H σ e x y d1 d2 _ _ S r1 r2 t fun d e1 W1 H1 v ⟨b, hb, p⟩ l S1 r => by
    subst hb
    exact ⟨b, r.bl_inv, k _ _ _ _ _ p l S1 (.bl _)⟩
theorem op_ninO {X : Cx} {C fn : Addr} {k : Nat} {ps : List Str} {sp : Spc} (G : Good X.prog X.w X.K X.mg X.base k fn ps sp) (hr : Room k X.A) (sm : Sm X.K C "__contains__" fn) : OpR X (compareOp .NotIn) (rNinO X.K C sp) := by
  rintro pins s σ H y x v u Q I ry rx ⟨a, dx, gs, rfl, ha, h⟩
  obtain ⟨fd, F, bi, kp⟩ := G
  cases (show u = Value.ref a from rx)
  obtain ⟨od, J⟩ := Inv.inst I ha
  show wpAny (model X.prog X.w) X.A ((contains (.ref a) v) >>= fun b => pure (Value.bool (!b))) _ _ s
  have c : wpAny (model X.prog X.w) X.A (contains (.ref a) v) (fun b s' => EP X pins σ Q (Value.bool (!b)) s') X.xe s := by
    refine contains_own I.kIn J sm.at_ (beq_iff_eq.mp sm.fn) (wpAny_mono (run_in (us := [.ref a, v]) (vs := [V.ref a, y]) F bi hr I.env0 I (.cons rfl (.cons ry .nil)) h) (fun v s' z => ?_) fun _ _ z => z)
    obtain ⟨v', H', I', rv, ⟨b, rfl⟩, ⟨b2, e2, q⟩⟩ := z
    cases e2
    cases rv
    exact ⟨b, rfl, .bl (!b), H', I', rfl, q⟩
  exact wpAny_bind (wpAny_mono c (fun b s' q => wpAny_pure q) fun _ _ z => z)
section
variable {X : Cx} {B : Bs} {XX : XN → List Cel → Prop} {ex o : Expr} {es : List Expr} {te : DE} {ta : DA} {C : Addr} {m : Str} {pos apos : Pos} {k : Nat} {fn : Addr} {ps : List Str} {sp : SpX}
/-- a method of that kind without such a parameter -/
theorem de_methGX {pl : Sem Bool} (G : GoodX X.prog X.w X.K X.mg X.base k fn ps sp) (tk : XT X B XX) (hr : Room k X.A) (c : Cls X.K C) (hm : Meth X.K C m fn) (ho : PE X o (lE X.K B te)) (ha : PA X (ex :: es) (lA X.K B ta))
    (hst : starEach (ex :: es) X.env = (false, eval ex X.env) :: starEach es X.env := by rfl) (hpl : (backTo pos (starEach es X.env)).any (·.1) = false := by rfl)
    (ht : eval (.Call (.Attribute o m apos) (ex :: es) [] pos) X.env = (do
      let ov ← eval o X.env
      standAt apos.atName
      let (f, first) ← holding [ov] (getMethod ov m pl)
      callWith pos f first (backTo pos (starEach (ex :: es) X.env)) (backToKw pos (keywordEach [] X.env))) := by rfl) :
    PE X (.Call (.Attribute o m apos) (ex :: es) [] pos) (lE X.K B (eMethX C m XX sp [] te ta)) := by
  obtain ⟨fd, F, b, _⟩ := G
  refine PE.imp (pe_meth ho c hm F hr b .nil tk.passes ha hst hpl ht) fun σ H Q ⟨W, e, P, bl, S, t, k⟩ => ⟨W, e, _, bl, S, t, fun d e1 W1 H1 v ⟨⟨ns, xs, hi, hn⟩, h⟩ l S1 r => ?_⟩
  obtain ⟨a, dx, gs, rfl, h1, h2, h3⟩ := S1.ok.ins r hi
  refine ⟨a, dx, gs, rfl, h1, lookup_none (by rw [h2]; exact hn), W1, e1, _, B.up bl l, S1, h, fun ds e2 W2 H2 vs h l2 S2 r2 => ?_⟩
  exact ⟨W2, e2.cs, d :: (ds ++ []), _, XX, S2.ok, .cons (R.mono l2 _ _ r) (r2.append .nil), h, fun d cs' W3 H3 v p l3 ok3 r3 => k _ _ _ _ _ p ((l.tr l2).tr l3) ⟨ok3, S2.sl.mono l3⟩ r3, fun y cs' W3 H3 d' px pd l3 ok3 => ⟨y, W3, cs', rfl, pd, B.up bl ((l.tr l2).tr l3), ok3, px⟩⟩
theorem de_methGX0 {pl : Sem Bool} (G : GoodX X.prog X.w X.K X.mg X.base k fn ps sp) (tk : XT X B XX) (hr : Room k X.A) (c : Cls X.K C) (hm : Meth X.K C m fn) (ho : PE X o (lE X.K B te))
    (ht : eval (.Call (.Attribute o m apos) [] [] pos) X.env = (do
      let ov ← eval o X.env
      standAt apos.atName
      let (f, first) ← holding [ov] (getMethod ov m pl)
      callWith pos f first (backTo pos (starEach [] X.env)) (backToKw pos (keywordEach [] X.env))) := by rfl) :
    PE X (.Call (.Attribute o m apos) [] [] pos) (lE X.K B (eMethX C m XX sp [] te aNil)) := by
  obtain ⟨fd, F, b, _⟩ := G
  refine PE.imp (pe_meth0 ho c hm F hr b .nil tk.passes ht) fun σ H Q ⟨W, e, P, bl, S, t, k⟩ => ⟨W, e, _, bl, S, t, fun d e1 W1 H1 v ⟨⟨ns, xs, hi, hn⟩, h⟩ l S1 r => ?_⟩
  obtain ⟨a, dx, gs, rfl, h1, h2, h3⟩ := S1.ok.ins r hi
  refine ⟨a, dx, gs, rfl, h1, lookup_none (by rw [h2]; exact hn), ?_⟩
  exact ⟨W1, e1.cs, [d], _, XX, S1.ok, .cons r .nil, h, fun d cs' W3 H3 v p l3 ok3 r3 => k _ _ _ _ _ p (l.tr l3) ⟨ok3, S1.sl.mono l3⟩ r3, fun y cs' W3 H3 d' px pd l3 ok3 => ⟨y, W3, cs', rfl, pd, B.up bl (l.tr l3), ok3, px⟩⟩
end
theorem goodK_of {P : Program} {w : World} {K : PySem.W.Frag} {mg : Str → Option Value} {base : Heap} {x qual kw : Str} {params : Arguments} {body : List Stmt} {scope : Scope} {f : Addr} {N ps : List Str} {k n : Nat} {dv : V} {dd : D} {sp : SpX} {t : (XN → List Cel → Prop) → DS}
    (F : ∃ fd, FunD K x qual params body scope [] [(kw, dv)] f fd) (S : FnScope N ps scope) (len : ∀ ds cs Q QX, sp ds cs Q QX → ds.length = ps.length) (hn : n + 1 = ps.length) (rd : ∀ W, R K W dv dd)
    (b0 : ∀ (D : Addr) (doc pm : Value) (an : Option Addr) (cdv ct : Value) (us ks : List Value), us.length = n → ks.length = 1 → KwChain D ([kw].zip ks) (bindArgs (PySem.W.fnOf x qual params body scope .none (.ref D) doc pm an cdv ct) ⟨us, []⟩) (ps.zip (us ++ ks)))
    (b1 : ∀ (kV doc pm : Value) (an : Option Addr) (cdv ct : Value) (us ks : List Value), us.length = n → ks.length = 1 → bindArgs (PySem.W.fnOf x qual params body scope .none kV doc pm an cdv ct) ⟨us, [kw].zip ks⟩ = pure (ps.zip (us ++ ks)))
    (der : ∀ (cdv : Value) (A : Around) (outer : List Env) (s : Shared) (H : Hp) (E : XK) (B : Bs) (XX : XN → List Cel → Prop), Room k (A.deeper (envOfC qual scope s.heap.objs.size f cdv)) → XT (cxX P w K mg base N qual scope f cdv A outer s H E) B XX →
      PassesOwn (model P w) (A.deeper (envOfC qual scope s.heap.objs.size f cdv)) (envOfC qual scope s.heap.objs.size f cdv) (cxX P w K mg base N qual scope f cdv A outer s H E).xe → PSs (cxX P w K mg base N qual scope f cdv A outer s H E) body (lS K B (t XX)))
    (vc : ∀ ds cs Q QX, (∀ d ∈ ds, loD cs.length d = true) → (∀ c ∈ cs, c.loD cs.length = true) → sp ds cs Q QX → t (FinX cs QX) (Po.fn cs Q) ⟨startD N ds, cs⟩) : GoodK P w K mg base (k + 1) f ps n kw dd sp := by
  obtain ⟨fd, F⟩ := F
  obtain ⟨us0, rv, b⟩ := F.binds0 (ps := ps) n (by simp) hn fun D doc pm an cdv ct us ks h1 h2 => b0 D doc pm an cdv ct us ks h1 h2
  refine ⟨fd, us0, dv, fn_dX F S len der vc, F.kp, b, rv, rd, ⟨fun s us ws X h1 h2 => ?_, fun r1 r2 => r1.append r2⟩⟩
  obtain ⟨oc, od, dV, kV, doc, pm, an, cdv, ct, osl, rfl, lk, hcd, hD, hK⟩ := F.ex
  rcases hD with ⟨_, rfl⟩ | ⟨e, _⟩
  · exact BindsTo.of_looks fun M => PySem.W.Looks.of_pure (b1 kV doc pm an cdv ct us ws h1 h2)
  · exact absurd rfl e
end DL
/-! order of nested data -/
namespace DL
open PySem PySem.Spec PyProof.Rows L2
def rOrd (lt : Bool) (neg : Bool) (K : PySem.W.Frag) : R2 := fun x y H Q => ∃ d e, Dp K H x d ∧ Dp K H y e ∧ PySem.W.alike d e = true ∧ d ≠ .none ∧ min d.depth e.depth ≤ 64 ∧ Q (.bl (xor neg (if lt = true then PySem.W.dataLt d e else PySem.W.dataLt e d))) H
section
variable {X : Cx} (hu : X.A.units + 64 < cLine)
include hu
theorem op_ltN : OpR X (compareOp .Lt) (rOrd true false X.K) := by
  intro pins s σ H x y v u Q I rx ry ⟨d, e, hd, he, ha, hn, hm, q⟩
  obtain ⟨as, r1⟩ := Dp.reads I d x v hd rx
  obtain ⟨bs, r2⟩ := Dp.reads I e y u he ry
  rw [Bool.false_xor, if_pos rfl] at q
  exact PySem.W.lt_data r1 r2 ha hn (by omega) ⟨.bl _, H, I, rfl, q⟩
theorem op_gtN : OpR X (compareOp .Gt) (rOrd false false X.K) := by
  intro pins s σ H x y v u Q I rx ry ⟨d, e, hd, he, ha, hn, hm, q⟩
  obtain ⟨as, r1⟩ := Dp.reads I d x v hd rx
  obtain ⟨bs, r2⟩ := Dp.reads I e y u he ry
  rw [Bool.false_xor, if_neg (by decide)] at q
  exact PySem.W.gt_data r1 r2 ha hn (by omega) ⟨.bl _, H, I, rfl, q⟩
theorem op_leN : OpR X (compareOp .LtE) (rOrd false true X.K) := by
  intro pins s σ H x y v u Q I rx ry ⟨d, e, hd, he, ha, hn, hm, q⟩
  obtain ⟨as, r1⟩ := Dp.reads I d x v hd rx
  obtain ⟨bs, r2⟩ := Dp.reads I e y u he ry
  rw [Bool.true_xor, if_neg (by decide)] at q
  exact PySem.W.le_data r1 r2 ha hn (by omega) ⟨.bl _, H, I, rfl, q⟩
theorem op_geN : OpR X (compareOp .GtE) (rOrd true true X.K) := by
  intro pins s σ H x y v u Q I rx ry ⟨d, e, hd, he, ha, hn, hm, q⟩
  obtain ⟨as, r1⟩ := Dp.reads I d x v hd rx
  obtain ⟨bs, r2⟩ := Dp.reads I e y u he ry
  rw [Bool.true_xor, if_pos rfl] at q
  exact PySem.W.ge_data r1 r2 ha hn (by omega) ⟨.bl _, H, I, rfl, q⟩
end
/-- the answer of an order of data -/
def ordD (lt neg : Bool) (x y : D) : Bool := xor neg (if lt = true then PySem.W.dataLt (toP x) (toP y) else PySem.W.dataLt (toP y) (toP x))
def qOrd (lt neg : Bool) : D → D → DE := fun x y e P => shp (drf e.cs x) = true ∧ shp (drf e.cs y) = true ∧ PySem.W.alike (toP (drf e.cs x)) (toP (drf e.cs y)) = true ∧ toP (drf e.cs x) ≠ .none ∧ min (toP (drf e.cs x)).depth (toP (drf e.cs y)).depth ≤ 64 ∧ P (.bl (ordD lt neg (drf e.cs x) (drf e.cs y))) e
theorem od_ord {lt neg : Bool} {K : PySem.W.Frag} : OpD K (rOrd lt neg K) (qOrd lt neg) := by
  intro W H σ e x y d1 d2 P Q S r1 r2 ⟨h1, h2, ha, hn, hm, t⟩ k
  obtain ⟨o1, s1⟩ := shp_and h1
  obtain ⟨o2, s2⟩ := shp_and h2
  exact ⟨_, _, S.ok.dp r1 o1, S.ok.dp r2 o2, ha, hn, hm, k _ _ _ _ _ t W.le_refl S (.bl _)⟩
end DL
namespace DL
open PySem PySem.Spec PyProof.Rows L2
/-! ### tuples with changing lists in them -/
def drf2 (cs : List Cel) : D → D
  | .tup xs => .tup (xs.map (drf cs))
  | d => drf cs d
theorem dp_all {K : PySem.W.Frag} {W : Wd} {H : Hp} {cs : List Cel} (h : Ok K W H cs) : ∀ {xs : List D} {vs : List V}, RAll K W vs xs → okDs (xs.map (drf cs)) = true → DpAll K H vs (toPs (xs.map (drf cs)))
  | [], _, r, _ => by cases r; exact .nil
  | x :: xs, _, r, o => by
    cases r with
    | cons r1 r2 =>
      have o' : (okD (drf cs x) && okDs (xs.map (drf cs))) = true := o
      rw [Bool.and_eq_true] at o'
      exact .cons (h.dp r1 o'.1) (dp_all h r2 o'.2)
theorem Ok.dp2 {K : PySem.W.Frag} {W : Wd} {H : Hp} {cs : List Cel} (h : Ok K W H cs) {d : D} {v : V} (r : R K W v d) (o : okD (drf2 cs d) = true) : Dp K H v (toP (drf2 cs d)) := by
  cases d with
  | tup xs =>
    cases r with
    | tup hs ha => exact .tup (Evl.ex_t h.ex hs) (dp_all h ha o)
  | _ => exact h.dp r o
def qOrd2 (lt neg : Bool) : D → D → DE := fun x y e P => shp (drf2 e.cs x) = true ∧ shp (drf2 e.cs y) = true ∧ PySem.W.alike (toP (drf2 e.cs x)) (toP (drf2 e.cs y)) = true ∧ toP (drf2 e.cs x) ≠ .none ∧ min (toP (drf2 e.cs x)).depth (toP (drf2 e.cs y)).depth ≤ 64 ∧ P (.bl (ordD lt neg (drf2 e.cs x) (drf2 e.cs y))) e
theorem od_ord2 {lt neg : Bool} {K : PySem.W.Frag} : OpD K (rOrd lt neg K) (qOrd2 lt neg) := by
  intro W H σ e x y d1 d2 P Q S r1 r2 ⟨h1, h2, ha, hn, hm, t⟩ k
  obtain ⟨o1, s1⟩ := shp_and h1
  obtain ⟨o2, s2⟩ := shp_and h2
  exact ⟨_, _, S.ok.dp2 r1 o1, S.ok.dp2 r2 o2, ha, hn, hm, k _ _ _ _ _ t W.le_refl S (.bl _)⟩
def qEq2 : D → D → DE := fun x y e P => shp (drf2 e.cs x) = true ∧ shp (drf2 e.cs y) = true ∧ P (.bl (PyData.eqv (toP (drf2 e.cs x)) (toP (drf2 e.cs y)))) e
theorem od_eq2 {K : PySem.W.Frag} : OpD K (rEqD K) qEq2 := by
  intro W H σ e x y d1 d2 P Q S r1 r2 ⟨h1, h2, t⟩ k
  obtain ⟨o1, s1⟩ := shp_and h1
  obtain ⟨o2, s2⟩ := shp_and h2
  exact ⟨_, _, S.ok.dp2 r1 o1, S.ok.dp2 r2 o2, s1, s2, k _ _ _ _ _ t W.le_refl S (.bl _)⟩
end DL
namespace LW
open PySem PySem.Spec PyProof.Rows L2 DL
open Evl (Ex)
/-! ### what each def promises -/
def isI : D → Bool
  | .int _ => true
  | _ => false
inductive Wo where
  | forget | again | off | read | copy | swap | out | twice
deriving DecidableEq
def Wo.s : Wo → Str
  | .forget => "forget"
  | .again => "again"
  | .off => "off"
  | .read => "read"
  | .copy => "copy"
  | .swap => "swap"
  | .out => "out"
  | .twice => "twice"
abbrev Dd : Type := Wo × List Int
def encD (t : Dd) : D := .tup (.str t.1.s :: t.2.map .int)
def offs (b : Int) : List Dd := (List.range (b - 1).toNat).map fun (i : Nat) => (.off, [1 + (i : Int)])
def reads (b j : Int) : List Dd := (List.range (b - 1).toNat).map fun (i : Nat) => (.read, [j, 1 + (i : Int)])
def copies (r : Int) : List Dd := (List.range r.toNat).map fun (j : Nat) => (.copy, [0 + (j : Int)])
def readsA (b : Int) (k : Nat) : List Dd := (List.range k).flatMap fun (j : Nat) => reads b (0 + (j : Int))
def allD (b r : Int) : List Dd := [(.forget, []), (.again, [])] ++ offs b ++ readsA b r.toNat ++ copies r ++ [(.swap, []), (.out, []), (.twice, [])]
def kiN : List Str := ["held_base", "held_rows", "held_deeds", "held_most"]
def kiD (K : PySem.W.Frag) (b r : Int) (ds : List Dd) (m : Int) : D := .ins (He.ga K "Kind") kiN [.int b, .int r, .lst (ds.map encD), .int m]
structure Gn (b r : Int) : Prop where
  b2 : 2 ≤ b
  b12 : b ≤ 12
  r1 : 1 ≤ r
  r4 : r ≤ 4
  c : b ^ r.toNat ≤ 1000
def isIn {α : Type} [DecidableEq α] (x : α) (xs : List α) : Bool := decide (x ∈ xs)
def keep (b r : Int) (some : List Dd) : List Dd := (allD b r).filter fun t => isIn t some
structure Gk (b r : Int) (some : List Dd) (m : Int) : Prop where
  n : Gn b r
  sub : ∀ t ∈ some, t ∈ allD b r
  nd : some.Nodup
  l1 : 1 ≤ some.length
  l8 : some.length ≤ 8
  m1 : 1 ≤ m
  m3 : m ≤ 3
def sp_is_integer (K : PySem.W.Frag) : Spc := fun ds cs P => ∃ d, ds = [d] ∧ (∃ a, tyN cs d = some a) ∧ P (.bl (isI d)) cs
def sp_number_of_columns (K : PySem.W.Frag) : Spc := fun ds cs P => ∃ b r : Int, ds = [.int b, .int r] ∧ 2 ≤ b ∧ b ≤ 12 ∧ 1 ≤ r ∧ r ≤ 4 ∧ P (.int (b ^ r.toNat)) cs
def sp_is_deed (K : PySem.W.Frag) : Spc := fun ds cs P => ∃ (t : Dd) (b r : Int), ds = [encD t, .int b, .int r] ∧ t ∈ allD b r ∧ P (.bl true) cs
def sp_all_deeds (K : PySem.W.Frag) : Spc := fun ds cs P => ∃ b r : Int, ds = [.int b, .int r] ∧ 2 ≤ b ∧ b ≤ 12 ∧ 1 ≤ r ∧ r ≤ 4 ∧ P (.lst ((allD b r).map encD)) cs
def sp_Kind_init (K : PySem.W.Frag) : Spc := fun ds cs P => ∃ (n : Nat) (b r m : Int) (d : D) (some_ : List Dd), ds = [.cell n, .int b, .int r, d, .int m] ∧ lk cs d = some (some_.map encD) ∧ (∀ ys, d ≠ .fro ys) ∧ cs[n]? = some (.ins (He.ga K "Kind") [] []) ∧ Gk b r some_ m ∧
  P .non (cs.set n (.ins (He.ga K "Kind") kiN [.int b, .int r, .lst ((keep b r some_).map encD), .int m]))
def sp_Kind_most (K : PySem.W.Frag) : Spc := fun ds cs P => ∃ (b r m : Int) (es : List Dd), ds = [kiD K b r es m] ∧ P (.int m) cs
structure Gl0 (l : List Int) : Prop where
  nd : l.Nodup
  ge : ∀ x ∈ l, 2 ≤ x ∧ x ≤ 60
  len : l.length ≤ 8
def sp_check_lot (K : PySem.W.Frag) : Spc := fun ds cs P => ∃ (d : D) (l : List Int), ds = [d] ∧ lk cs d = some (l.map .int) ∧ (∀ ys, d ≠ .fro ys) ∧ Gl0 l ∧ P .non cs
def okC (b r : Int) (c : List Int) : Bool := decide ((c.length : Int) = r) && c.all fun n => decide (0 ≤ n) && decide (n < b)
def shN : List Str := ["held_base", "held_rows", "held_columns", "size"]
def shD (K : PySem.W.Frag) (b r : Int) (cols : List (List Int)) : D := .ins (He.ga K "Sheet") shN [.int b, .int r, .lst (cols.map encC), .int cols.length]
def isSh (K : PySem.W.Frag) (cs : List Cel) (d : D) (b r : Int) (cols : List (List Int)) : Prop := ∃ hc, insD cs d = some (He.ga K "Sheet", shN, [.int b, .int r, hc, .int cols.length]) ∧ lk cs hc = some (cols.map encC) ∧ ∀ ys, hc ≠ .fro ys
structure Gd (b r : Int) (cols : List (List Int)) : Prop where
  b2 : 2 ≤ b
  b12 : b ≤ 12
  r1 : 1 ≤ r
  r4 : r ≤ 4
  c : ∀ c ∈ cols, okC b r c = true
  n : cols.length ≤ 1000
def sp_is_column (K : PySem.W.Frag) : Spc := fun ds cs P => ∃ (c : List Int) (b r : Int), ds = [encC c, .int b, .int r] ∧ c.length ≤ 1000 ∧ P (.bl (okC b r c)) cs
def sp_Sheet_init (K : PySem.W.Frag) : Spc := fun ds cs P => ∃ n d cols b r, ds = [.cell n, .int b, .int r, d] ∧ cs[n]? = some (.ins (He.ga K "Sheet") [] []) ∧ lk cs d = some (cols.map encC) ∧ (∀ ys, d ≠ .fro ys) ∧ Gd b r cols ∧
  (P .non (cs.set n (.ins (He.ga K "Sheet") shN [.int b, .int r, .lst (cols.map encC), .int cols.length])) ∨
    P .non (cs.set n (.ins (He.ga K "Sheet") shN [.int b, .int r, .cell cs.length, .int cols.length]) ++ [.lst (cols.map encC)]))
def sp_Sheet_base (K : PySem.W.Frag) : Spc := fun ds cs P => ∃ (d : D) (b r : Int) (cols : List (List Int)), ds = [d] ∧ isSh K cs d b r cols ∧ P (.int b) cs
def sp_Sheet_rows (K : PySem.W.Frag) : Spc := fun ds cs P => ∃ (d : D) (b r : Int) (cols : List (List Int)), ds = [d] ∧ isSh K cs d b r cols ∧ P (.int r) cs
def sp_Sheet_columns (K : PySem.W.Frag) : Spc := fun ds cs P => ∃ (d : D) (b r : Int) (cols : List (List Int)), ds = [d] ∧ isSh K cs d b r cols ∧ fresh (cols.map encC) cs P
def sp_Kind_base (K : PySem.W.Frag) : Spc := fun ds cs P => ∃ (b r m : Int) (es : List Dd), ds = [kiD K b r es m] ∧ P (.int b) cs
def sp_Kind_rows (K : PySem.W.Frag) : Spc := fun ds cs P => ∃ (b r m : Int) (es : List Dd), ds = [kiD K b r es m] ∧ P (.int r) cs
def sp_Kind_deeds (K : PySem.W.Frag) : Spc := fun ds cs P => ∃ (b r m : Int) (es : List Dd), ds = [kiD K b r es m] ∧ es.length ≤ 8 ∧ fresh (es.map encD) cs P
def cpF (r : Int) (s : List Dd) : List Nat := (List.range r.toNat).filter fun (j : Nat) => isIn ((.copy, [0 + (j : Int)]) : Dd) s
def cpD (cp : List Nat) : List D := cp.map fun (j : Nat) => .int (0 + (j : Int))
def sp_copy_rows (K : PySem.W.Frag) : Spc := fun ds cs P => ∃ (b r m : Int) (s : List Dd), ds = [kiD K b r (keep b r s) m] ∧ Gk b r s m ∧ P (.lst (cpD (cpF r s))) cs
def sp_power (K : PySem.W.Frag) : Spc := fun ds cs P => ∃ (b : Int) (k : Nat), ds = [.int b, .int (k : Nat)] ∧ 2 ≤ b ∧ b ≤ 12 ∧ k ≤ 1000 ∧ P (.int (b ^ k)) cs
structure Std where
  left : Int
  wt : Option Int
  bf : Option (List Int)
  k : Int
  gap : Int
  near : Option Int
  rs : List (Int × Int × Int)
def oI : Option Int → D
  | none => .non
  | some i => .int i
def oT : Option (List Int) → D
  | none => .non
  | some xs => .tup (xs.map .int)
def encR (t : Int × Int × Int) : D := .tup [.int t.1, .int t.2.1, .int t.2.2]
def encSt (s : Std) : D := .tup [.int s.left, oI s.wt, oT s.bf, .int s.k, .int s.gap, oI s.near, .tup (s.rs.map encR)]
def st0 (m : Int) (l : List Int) : Std := ⟨m, none, none, 0, 0, some 0, l.map fun _ => (0, 1, 1)⟩
def jx (t : Dd) : Nat := (t.2.getD 0 0).toNat
def ax (t : Dd) : Int := t.2.getD 0 0
def dx (t : Dd) : Int := t.2.getD 1 0
def posB (s : Std) (t : Dd) (c : Int) : Bool := if s.left = 0 ∨ s.wt ≠ none then false else match t.1 with
  | .forget => decide (c > 0)
  | .copy => s.bf.isSome
  | _ => true
def tkF (b : Int) (cp : List Nat) (bf : List Int) (col : List Int) (t : Dd) : Int := match t.1 with
  | .read => col.sum - col.getD (jx t) 0 + (col.getD (jx t) 0 + dx t) % b
  | .copy => col.sum - col.getD (jx t) 0 + bf.getD (cp.idxOf (jx t)) 0
  | _ => col.sum
abbrev Out : Type := Int × Int × Int × Option Int
def encOut : Option Out → D
  | none => .non
  | some o => .tup [.int o.1, .int o.2.1, .int o.2.2.1, oI o.2.2.2]
def drF (b : Int) (s : Std) (col : List Int) : Out := match s.wt with
  | none => (col.sum, 1, (col.sum + s.k) / b, none)
  | some w => (((col.sum + s.k) % b - w) * (1 - b) + col.sum * b, 2, (col.sum + s.k) / b, none)
def dwO (b : Int) (k total : Int) (t : Dd) : Out := match t.1 with
  | .out => (0, 0, k, none)
  | .forget => (total - (total + k) / b * b, 1, 0, none)
  | .again => (total + b, 1, (total + k) / b + 1, none)
  | .off => (total + ((total + k) % b + ax t) % b - (total + k) % b, 1, (total + k) / b, none)
  | .swap => (total, 0, (total + k) / b, some ((total + k) % b))
  | .twice => (total + total * b, 2, (total + (total + k) / b) / b, none)
  | _ => (total, 1, (total + k) / b, none)
def dwF (b : Int) (cp : List Nat) (s : Std) (col : List Int) (t : Dd) : Option Out :=
  if posB s t ((col.sum + s.k) / b) then some (dwO b s.k (tkF b cp (s.bf.getD []) col t) t) else none
def abv (g : Int) : Nat := if g > 0 then g.toNat else 0
def blw (g : Int) : Nat := if g < 0 then (0 - g).toNat else 0
def stF (g c : Int) : Nat := if (abv g : Int) + c < (blw g : Int) + 1 then ((abv g : Int) + c).toNat else blw g + 1
def nbF (b g : Int) (near : Option Int) (f total c : Int) : Option Int := match near with
  | none => none
  | some n => if (n + f * b ^ abv g - total * b ^ blw g) % b ^ stF g c = 0 then some ((n + f * b ^ abv g - total * b ^ blw g) / b ^ stF g c) else none
def rsF (b : Int) (l : List Int) (rs : List (Int × Int × Int)) (f total : Int) (c : Nat) : List (Int × Int × Int) :=
  List.zipWith (fun t d => ((t.1 + f * t.2.2 - total * t.2.1) % d, t.2.1 * b % d, t.2.2 * b ^ c % d)) rs l
def ouF (b : Int) (cp : List Nat) (s : Std) (col : List Int) : Option Dd → Option Out
  | none => some (drF b s col)
  | some t => dwF b cp s col t
def dn (od : Option Dd) : Int := if od = none then 0 else 1
def adv (b : Int) (cp : List Nat) (l : List Int) (s : Std) (col : List Int) (od : Option Dd) (o : Out) : Std :=
  ⟨s.left - dn od, o.2.2.2, some (cp.map fun j => col.getD j 0), o.2.2.1, s.gap + o.2.1 - 1, nbF b s.gap s.near o.1 col.sum o.2.1, rsF b l s.rs o.1 col.sum o.2.1.toNat⟩
def nsF (b : Int) (cp : List Nat) (l : List Int) (s : Std) (col : List Int) (od : Option Dd) : Option Std := (ouF b cp s col od).map (adv b cp l s col od)
abbrev Pl : Type := List Int × Option Dd
def goes (b : Int) (cp : List Nat) (l : List Int) (s : Std) : List Pl → Option Std
  | [] => some s
  | x :: p => (nsF b cp l s x.1 x.2).bind fun s' => goes b cp l s' p
def slF : Nat → List Pl → List (Nat × Dd)
  | _, [] => []
  | n, (_, none) :: p => slF (n + 1) p
  | n, (_, some t) :: p => (n, t) :: slF (n + 1) p
def encS (t : Nat × Dd) : D := .tup [.int (t.1 : Nat), encD t.2]
def oD : Option Dd → D
  | none => .non
  | some t => encD t
def oR : Option Dd → D
  | none => .tup [.str "right"]
  | some t => encD t
structure Gs (cp : List Nat) (l : List Int) (s : Std) : Prop where
  k0 : 0 ≤ s.k
  k1 : s.k ≤ 100
  w : ∀ w, s.wt = some w → 0 ≤ w ∧ w ≤ 11
  b : ∀ xs, s.bf = some xs → xs.length = cp.length
  bb : ∀ xs, s.bf = some xs → ∀ y ∈ xs, 0 ≤ y ∧ y ≤ 11
  g0 : -900 ≤ s.gap
  g1 : s.gap ≤ 900
  rs : s.rs.length = l.length
structure Gc (b r : Int) (cp : List Nat) (col : List Int) (od : Option Dd) : Prop where
  b2 : 2 ≤ b
  b12 : b ≤ 12
  r1 : 1 ≤ r
  r4 : r ≤ 4
  c : okC b r col = true
  cb : ∀ j ∈ cp, (j : Int) < r
  cl : cp.length ≤ 4
  nd : cp.Nodup
  d : ∀ t, od = some t → t ∈ allD b r ∧ (t.1 = .copy → jx t ∈ cp)
def sp_is_possible (K : PySem.W.Frag) : Spc := fun ds cs P => ∃ (s : Std) (t : Dd) (c b r : Int), ds = [encSt s, encD t, .int c] ∧ t ∈ allD b r ∧ P (.bl (posB s t c)) cs
def sp_taken_sum (K : PySem.W.Frag) : Spc := fun ds cs P => ∃ (b r : Int) (cp : List Nat) (bf : Option (List Int)) (col : List Int) (t : Dd), ds = [.int b, .lst (cpD cp), oT bf, encC col, encD t] ∧ Gc b r cp col (some t) ∧ (∀ xs, bf = some xs → xs.length = cp.length) ∧ (t.1 = .copy → bf.isSome = true) ∧ P (.int (tkF b cp (bf.getD []) col t)) cs
def sp_done_rightly (K : PySem.W.Frag) : Spc := fun ds cs P => ∃ (b r : Int) (cp : List Nat) (l : List Int) (s : Std) (col : List Int), ds = [.int b, encSt s, encC col] ∧ Gc b r cp col none ∧ Gs cp l s ∧ P (encOut (some (drF b s col))) cs
def sp_done_with (K : PySem.W.Frag) : Spc := fun ds cs P => ∃ (b r : Int) (cp : List Nat) (l : List Int) (s : Std) (col : List Int) (t : Dd), ds = [.int b, .lst (cpD cp), encSt s, encC col, encD t] ∧ Gc b r cp col (some t) ∧ Gs cp l s ∧ P (encOut (dwF b cp s col t)) cs
def sp_near_behind (K : PySem.W.Frag) : Spc := fun ds cs P => ∃ (b g : Int) (near : Option Int) (f t c : Int), ds = [.int b, .int g, oI near, .int f, .int t, .int c] ∧ 2 ≤ b ∧ b ≤ 12 ∧ -900 ≤ g ∧ g ≤ 900 ∧ -1000000 ≤ f ∧ f ≤ 1000000 ∧ -1000000 ≤ t ∧ t ≤ 1000000 ∧ 0 ≤ c ∧ c ≤ 2 ∧ P (oI (nbF b g near f t c)) cs
def sp_next_standing (K : PySem.W.Frag) : Spc := fun ds cs P => ∃ (b r : Int) (cp : List Nat) (d : D) (l : List Int) (s : Std) (col : List Int) (od : Option Dd) (s' : Std), ds = [.int b, .lst (cpD cp), d, encSt s, encC col, oD od] ∧ lk cs d = some (l.map .int) ∧ (∀ ys, d ≠ .fro ys) ∧ Gl0 l ∧ Gc b r cp col od ∧ Gs cp l s ∧ nsF b cp l s col od = some s' ∧ P (encSt s') cs
def sp_beginning (K : PySem.W.Frag) : Spc := fun ds cs P => ∃ (b r m : Int) (es : List Dd) (d : D) (l : List Int), ds = [kiD K b r es m, d] ∧ lk cs d = some (l.map .int) ∧ (∀ ys, d ≠ .fro ys) ∧ Gl0 l ∧ P (encSt (st0 m l)) cs
def sp_Kind_contains (K : PySem.W.Frag) : Spc := fun ds cs P => ∃ (b r m : Int) (es : List Dd) (t : Dd), ds = [kiD K b r es m, encD t] ∧ t ∈ allD b r ∧ P (.bl (isIn t es)) cs
structure Wr where
  figs : List Int
  wt : Option Int
  k : Int
def adF (b : Int) (pv c : List Int) : Option Dd → List Int
  | none => c
  | some t => match t.1 with
    | .read => c.set (jx t) ((c.getD (jx t) 0 + dx t) % b)
    | .copy => c.set (jx t) (pv.getD (jx t) 0)
    | _ => c
def wdOf : Option Dd → Option Wo := Option.map (·.1)
def w1F (b : Int) (w : Wr) (sum : Int) (od : Option Dd) : Wr := if wdOf od = some .out then w else match w.wt with
  | some x => ⟨w.figs ++ [(sum + w.k) % b, x], none, (sum + w.k) / b⟩
  | none => match od with
    | none => ⟨w.figs ++ [(sum + w.k) % b], none, (sum + w.k) / b⟩
    | some t => match t.1 with
      | .swap => ⟨w.figs, some ((sum + w.k) % b), (sum + w.k) / b⟩
      | .off => ⟨w.figs ++ [((sum + w.k) % b + ax t) % b], none, (sum + w.k) / b⟩
      | _ => ⟨w.figs ++ [(sum + w.k) % b], none, (sum + w.k) / b⟩
def w2F (b : Int) (w : Wr) (sum : Int) (od : Option Dd) : Wr := match wdOf od with
  | some .twice => ⟨w.figs ++ [(sum + w.k) % b], w.wt, (sum + w.k) / b⟩
  | some .forget => ⟨w.figs, w.wt, 0⟩
  | some .again => ⟨w.figs, w.wt, w.k + 1⟩
  | _ => w
def wrS (b : Int) (x : Wr × List Int) (y : Pl) : Wr × List Int := (w2F b (w1F b x.1 (adF b x.2 y.1 y.2).sum y.2) (adF b x.2 y.1 y.2).sum y.2, y.1)
def wrF (b : Int) (pl : List Pl) : Wr := (pl.foldl (wrS b) (⟨[], none, 0⟩, [])).1
def vlF (b : Int) (last : Int) : List Int → Int
  | [] => last
  | x :: xs => vlF b last xs * b + x
def oL : Option Int → List Int
  | none => []
  | some i => [i]
def erF (b : Int) (pl : List Pl) : Int := vlF b (wrF b pl).k ((wrF b pl).figs ++ oL (wrF b pl).wt) - vlF b 0 (pl.map (·.1.sum))
def docF (b r : Int) (s : List Dd) (m : Int) (l : List Int) (pl : List Pl) : Std :=
  ⟨m - (slF 0 pl).length, (wrF b pl).wt, if pl = [] then none else some ((cpF r s).map fun j => ((pl.getLast?.map (·.1)).getD []).getD j 0), (wrF b pl).k, ((wrF b pl).figs.length : Int) - pl.length,
    if erF b pl % b ^ min pl.length (wrF b pl).figs.length = 0 then some (erF b pl / b ^ min pl.length (wrF b pl).figs.length) else none,
    l.map fun d => (erF b pl % d, b ^ pl.length % d, b ^ (wrF b pl).figs.length % d)⟩
structure Gq (b r : Int) (pl : List Pl) : Prop where
  b2 : 2 ≤ b
  b12 : b ≤ 12
  r1 : 1 ≤ r
  r4 : r ≤ 4
  c : ∀ x ∈ pl, okC b r x.1 = true
  d : ∀ x ∈ pl, ∀ t, x.2 = some t → t ∈ allD b r
  n : pl.length ≤ 300
  cp : ∀ x t, pl[0]? = some x → x.2 = some t → t.1 ≠ .copy
def psL (b m : Int) (pl : List Pl) (col : List Int) (t : Dd) : Bool := if (wrF b pl).wt ≠ none ∨ ((slF 0 pl).length : Int) ≥ m then false else match t.1 with
  | .copy => decide (0 < pl.length)
  | .forget => decide (col.sum + (wrF b pl).k ≥ b)
  | _ => true
def nod (cols : List (List Int)) : List Pl := cols.map fun c => (c, none)
def kF (b r : Int) (p : Dd → Bool) : List Dd := (allD b r).filter p
def kd (K : PySem.W.Frag) (b r : Int) (p : Dd → Bool) (m : Int) : D := kiD K b r (kF b r p) m
structure Pl' (b r : Int) (pl : List Dd) : Prop where
  n : Gn b r
  sub : ∀ t ∈ pl, t ∈ allD b r
  nd : pl.Nodup
  l8 : pl.length ≤ 8
structure Pr (pl : List Dd) (p : Dd → Bool) (m : Int) : Prop where
  hd : ∃ x, pl.head? = some x ∧ p x = true
  sub : ∀ t, p t = true → t ∈ pl
  m1 : 1 ≤ m
  m3 : m ≤ 3
def mx (a b : Int) : Int := if b > a then b else a
def mn (a b : Int) : Int := if b < a then b else a
def sp_Kind_alike (K : PySem.W.Frag) : Spc := fun ds cs P => ∃ (b r m m' : Int) (es es' : List Dd), ds = [kiD K b r es m, kiD K b r es' m'] ∧ P (.bl true) cs
def sp_Kind_or (K : PySem.W.Frag) : Spc := fun ds cs P => ∃ (b r m m' : Int) (pl : List Dd) (p q : Dd → Bool), ds = [kd K b r p m, kd K b r q m'] ∧ Pl' b r pl ∧ Pr pl p m ∧ Pr pl q m' ∧ P (kd K b r (fun t => p t || q t) (mx m m')) cs
def sp_Kind_and (K : PySem.W.Frag) : Spc := fun ds cs P => ∃ (b r m m' : Int) (pl : List Dd) (p q : Dd → Bool), ds = [kd K b r p m, kd K b r q m'] ∧ Pl' b r pl ∧ Pr pl p m ∧ Pr pl q m' ∧ P (kd K b r (fun t => p t && q t) (mn m m')) cs
def sp_Sheet_setitem (K : PySem.W.Frag) : Spc := fun ds cs P => ∃ (n m : Nat) (b r : Int) (cols : List (List Int)) (i : Nat) (c : List Int), ds = [.cell n, .int (i : Nat), encC c] ∧ cs[n]? = some (.ins (He.ga K "Sheet") shN [.int b, .int r, .cell m, .int cols.length]) ∧ cs[m]? = some (.lst (cols.map encC)) ∧ i < cols.length ∧ okC b r c = true ∧ c.length ≤ 1000 ∧
  P .non (cs.set m (.lst ((cols.set i c).map encC)))
structure Po1 (b r : Int) (s : List Dd) (m : Int) (pl : List Pl) : Prop where
  k : Gk b r s m
  c : ∀ x ∈ pl, okC b r x.1 = true
  d : ∀ (i : Nat) (x : Pl) (t : Dd), pl[i]? = some x → x.2 = some t → t ∈ s ∧ psL b m (pl.take i) x.1 t = true
structure Gp (b r : Int) (s : List Dd) (m : Int) (l : List Int) (pl : List Pl) : Prop where
  k : Gk b r s m
  c : ∀ x ∈ pl, okC b r x.1 = true
  d : ∀ x ∈ pl, ∀ t, x.2 = some t → t ∈ s
  n : pl.length ≤ 300
  gs : ∀ i st, i ≤ pl.length → goes b (cpF r s) l (st0 m l) (pl.take i) = some st → Gs (cpF r s) l st
def sp_Sheet_len (K : PySem.W.Frag) : Spc := fun ds cs P => ∃ (d : D) (b r : Int) (cols : List (List Int)), ds = [d] ∧ isSh K cs d b r cols ∧ P (.int cols.length) cs
abbrev plC (a : Int) : Cel := .lst [.int a]
def sp_law_pool (K : PySem.W.Frag) : Spc := fun ds cs P => ∃ (c : Int) (s : Nat), ds = [.int c, .int (s : Nat)] ∧ s ≤ 1000 ∧ ∀ a : Int, P (.cell cs.length) (cs ++ [plC a])
def sp_law_draw (K : PySem.W.Frag) : Spc := fun ds cs P => ∃ (n : Nat) (m a : Int), ds = [.cell n, .int m] ∧ cs[n]? = some (plC a) ∧ 0 < m ∧ m ≤ 1000000000000000000000 ∧ ∀ r a' : Int, 0 ≤ r → r < m → P (.int r) (cs.set n (plC a'))
def sp_law_power (K : PySem.W.Frag) : Spc := fun ds cs P => ∃ b k : Int, ds = [.int b, .int k] ∧ 2 ≤ b ∧ b ≤ 12 ∧ 0 ≤ k ∧ k ≤ 1000 ∧ P (.int (b ^ k.toNat)) cs
def sp_law_all_deeds (K : PySem.W.Frag) : Spc := fun ds cs P => ∃ b r : Int, ds = [.int b, .int r] ∧ 2 ≤ b ∧ b ≤ 12 ∧ 1 ≤ r ∧ r ≤ 4 ∧ fresh ((allD b r).map encD) cs P
def sp_law_some_deeds (K : PySem.W.Frag) : Spc := fun ds cs P => ∃ (n : Nat) (a b r m : Int), ds = [.cell n, .int b, .int r, .int m] ∧ cs[n]? = some (plC a) ∧ 2 ≤ b ∧ b ≤ 12 ∧ 1 ≤ r ∧ r ≤ 4 ∧ 0 ≤ m ∧ m ≤ 8 ∧
  ∀ (ys : List Dd) (a' : Int), ys.Nodup → (∀ t ∈ ys, t ∈ allD b r) → (ys.length : Int) = m → P (.lst (ys.map encD)) (cs.set n (plC a'))
/-- what stands in it is one plain thing -/
def alA (d : D) : Prop := d = .non ∨ (∃ b, d = .bl b) ∨ (∃ i, d = .int i) ∨ ∃ s : Str, d = .str s ∧ (PyData.str s).canLay0 = true
/-- equal, in so many storeys -/
def alk : Nat → List Cel → D → D → Prop
  | 0, _, d, d' => d = d' ∧ alA d
  | n + 1, cs, d, d' => (d = d' ∧ alA d) ∨ (∃ xs, d = .tup xs ∧ d' = .tup xs ∧ xs.length ≤ 30000 ∧ ∀ x ∈ xs, alk n cs x x) ∨
    ∃ xs, lk cs d = some xs ∧ lk cs d' = some xs ∧ (∀ ys, d ≠ .fro ys) ∧ (∀ ys, d' ≠ .fro ys) ∧ xs.length ≤ 30000 ∧ ∀ x ∈ xs, alk n cs x x
def sp_law_alike_0 (K : PySem.W.Frag) : Spc := fun ds cs P => ∃ d d2, ds = [d, d2] ∧ alk 0 cs d d2 ∧ P (.bl true) cs
def sp_law_alike_1 (K : PySem.W.Frag) : Spc := fun ds cs P => ∃ d d2, ds = [d, d2] ∧ alk 1 cs d d2 ∧ P (.bl true) cs
def sp_law_alike_2 (K : PySem.W.Frag) : Spc := fun ds cs P => ∃ d d2, ds = [d, d2] ∧ alk 2 cs d d2 ∧ P (.bl true) cs
def sp_law_alike_3 (K : PySem.W.Frag) : Spc := fun ds cs P => ∃ d d2, ds = [d, d2] ∧ alk 3 cs d d2 ∧ P (.bl true) cs
/-! the law's own -/
/-- a kind's deeds, in its order -/
structure Ge (b r : Int) (es : List Dd) (m : Int) : Prop where
  k : Gk b r es m
  ke : keep b r es = es
def sp_law_setting (K : PySem.W.Frag) : Spc := fun ds cs P => ∃ (n : Nat) (a : Int), ds = [.cell n] ∧ cs[n]? = some (plC a) ∧
  ∀ (b r m a' : Int) (es : List Dd) (l : List Int), Ge b r es m → es.length ≤ 5 → Gl0 l → P (.tup [.int b, .int r, .lst (es.map encD), .int m, .lst (l.map .int)]) (cs.set n (plC a'))
def sp_law_made (K : PySem.W.Frag) : Spc := fun ds cs P => ∃ (n : Nat) (a b r m : Int) (es : List Dd), ds = [.cell n, .int b, .int r, .lst (es.map encD), .int m] ∧ cs[n]? = some (plC a) ∧ Ge b r es m ∧ es.length ≤ 5 ∧ ∀ a' : Int, P (kiD K b r es m) (cs.set n (plC a'))
def sp_law_column (K : PySem.W.Frag) : Spc := fun ds cs P => ∃ (n : Nat) (a b r : Int), ds = [.cell n, .int b, .int r] ∧ cs[n]? = some (plC a) ∧ Gn b r ∧ ∀ (ys : List Int) (a' : Int), okC b r ys = true → P (encC ys) (cs.set n (plC a'))
/-- one column of a run: none if its deed is not possible there -/
def rnS (b : Int) (i : Nat) (pv : List Int) (w : Wr) (y : Pl) : Option Wr :=
  if (y.2 ≠ none ∧ w.wt ≠ none) ∨ (wdOf y.2 = some .copy ∧ i = 0) ∨ (wdOf y.2 = some .forget ∧ (y.1.sum + w.k) / b = 0) then none
  else some (w2F b (w1F b w (adF b pv y.1 y.2).sum y.2) (adF b pv y.1 y.2).sum y.2)
def rnI (b : Int) (pl : List Pl) : Nat → Option Wr
  | 0 => some ⟨[], none, 0⟩
  | i + 1 => (rnI b pl i).bind fun w => rnS b i (pl.getD (i - 1) ([], none)).1 w (pl.getD i ([], none))
def rnF (b : Int) (pl : List Pl) : Option Wr := rnI b pl pl.length
def encRn : Option Wr → D
  | none => .non
  | some w => .tup [.lst (w.figs.map .int), oI w.wt, .int w.k]
/-- columns and deeds that may stand in a run -/
structure Gr (b r : Int) (pl : List Pl) : Prop where
  b2 : 2 ≤ b
  b12 : b ≤ 12
  r1 : 1 ≤ r
  r4 : r ≤ 4
  c : ∀ x ∈ pl, okC b r x.1 = true
  d : ∀ x ∈ pl, ∀ t, x.2 = some t → t ∈ allD b r
  n : pl.length ≤ 300
def sp_law_run (K : PySem.W.Frag) : Spc := fun ds cs P => ∃ (b r : Int) (d d2 : D) (pl : List Pl), ds = [.int b, d, d2] ∧ lk cs d = some ((pl.map (·.1)).map encC) ∧ lk cs d2 = some ((slF 0 pl).map encS) ∧ Gr b r pl ∧ P (encRn (rnF b pl)) cs
def sp_law_value (K : PySem.W.Frag) : Spc := fun ds cs P => ∃ (b : Int) (d : D) (xs : List Int) (last : Int), ds = [.int b, d, .int last] ∧ lk cs d = some (xs.map .int) ∧ 2 ≤ b ∧ b ≤ 12 ∧ P (.int (vlF b last xs)) cs
def sp_law_standing (K : PySem.W.Frag) : Spc := fun ds cs P => ∃ (b r m : Int) (es : List Dd) (l : List Int) (d d2 : D) (pl : List Pl), ds = [.int b, .lst (es.map encD), .lst (l.map .int), .int m, d, d2] ∧ lk cs d = some ((pl.map (·.1)).map encC) ∧ lk cs d2 = some ((slF 0 pl).map encS) ∧ Ge b r es m ∧ Po1 b r es m pl ∧ pl.length ≤ 200 ∧ Gl0 l ∧ P (encSt (docF b r es m l pl)) cs
def sp_law_possible (K : PySem.W.Frag) : Spc := fun ds cs P => ∃ (b r m : Int) (es : List Dd) (d d2 : D) (pl : List Pl) (col : List Int), ds = [.int b, .lst (es.map encD), .int m, d, d2, encC col] ∧ lk cs d = some ((pl.map (·.1)).map encC) ∧ lk cs d2 = some ((slF 0 pl).map encS) ∧ Ge b r es m ∧ Po1 b r es m pl ∧ pl.length ≤ 200 ∧ okC b r col = true ∧ (∀ ys, d ≠ .fro ys) ∧ (∀ ys, d2 ≠ .fro ys) ∧
  P (.lst (.non :: ((es.filter fun t => psL b m pl col t).map encD))) cs
/-! ledgers -/
def ldN : List Str := ["own_kind", "own_lot", "history"]
/-- an entry of the history: the column, its deed, the standing behind it -/
def hsE (b r : Int) (es : List Dd) (m : Int) (l : List Int) (pl : List Pl) (i : Nat) : D := .tup [encC (pl.getD i ([], none)).1, oD (pl.getD i ([], none)).2, encSt (docF b r es m l (pl.take (i + 1)))]
def hsF (b r : Int) (es : List Dd) (m : Int) (l : List Int) (pl : List Pl) : List D := (List.range pl.length).map (hsE b r es m l pl)
/-- a ledger at n, its history at h: the plan so far -/
structure Ld (K : PySem.W.Frag) (cs : List Cel) (n h : Nat) (b r : Int) (es : List Dd) (m : Int) (l : List Int) (pl : List Pl) : Prop where
  at_ : cs[n]? = some (.ins (He.ga K "Ledger") ldN [kiD K b r es m, .lst (l.map .int), .cell h])
  hs : cs[h]? = some (.lst (hsF b r es m l pl))
  e : Ge b r es m
  p : Po1 b r es m pl
  n2 : pl.length ≤ 200
  l : Gl0 l
def sp_Ledger_init (K : PySem.W.Frag) : Spc := fun ds cs P => ∃ (n : Nat) (b r m : Int) (es : List Dd) (d : D) (l : List Int), ds = [.cell n, kiD K b r es m, d] ∧ cs[n]? = some (.ins (He.ga K "Ledger") [] []) ∧ lk cs d = some (l.map .int) ∧ (∀ ys, d ≠ .fro ys) ∧ Gl0 l ∧
  P .non (cs.set n (.ins (He.ga K "Ledger") ldN [kiD K b r es m, .lst (l.map .int), .cell cs.length]) ++ [.lst []])
def sp_Ledger_sheet (K : PySem.W.Frag) : Spc := fun ds cs P => ∃ (n h : Nat) (b r m : Int) (es : List Dd) (l : List Int) (pl : List Pl), ds = [.cell n] ∧ Ld K cs n h b r es m l pl ∧
  (P (shD K b r (pl.map (·.1))) cs ∨ P (.cell cs.length) (cs ++ [.ins (He.ga K "Sheet") shN [.int b, .int r, .cell (cs.length + 1), .int pl.length], .lst ((pl.map (·.1)).map encC)]))
def sp_Ledger_slips (K : PySem.W.Frag) : Spc := fun ds cs P => ∃ (n h : Nat) (b r m : Int) (es : List Dd) (l : List Int) (pl : List Pl), ds = [.cell n] ∧ Ld K cs n h b r es m l pl ∧ fresh ((slF 0 pl).map encS) cs P
def sp_Ledger_standing (K : PySem.W.Frag) : Spc := fun ds cs P => ∃ (n h : Nat) (b r m : Int) (es : List Dd) (l : List Int) (pl : List Pl), ds = [.cell n] ∧ Ld K cs n h b r es m l pl ∧ P (encSt (docF b r es m l pl)) cs
def sp_Ledger_waits (K : PySem.W.Frag) : Spc := fun ds cs P => ∃ (n h : Nat) (b r m : Int) (es : List Dd) (l : List Int) (pl : List Pl), ds = [.cell n] ∧ Ld K cs n h b r es m l pl ∧ P (.bl (wrF b pl).wt.isSome) cs
def sp_Ledger_len (K : PySem.W.Frag) : Spc := fun ds cs P => ∃ (n h : Nat) (b r m : Int) (es : List Dd) (l : List Int) (pl : List Pl), ds = [.cell n] ∧ Ld K cs n h b r es m l pl ∧ P (.int pl.length) cs
def sp_Ledger_put (K : PySem.W.Frag) : SpX := fun ds cs P PX => ∃ (n h : Nat) (b r m : Int) (es : List Dd) (l : List Int) (pl : List Pl) (col : List Int) (od : Option Dd), ds = [.cell n, encC col, oD od] ∧ Ld K cs n h b r es m l pl ∧ Po1 b r es m (pl ++ [(col, od)]) ∧
  P .non (cs.set h (.lst (hsF b r es m l (pl ++ [(col, od)]))))
def sp_law_look (K : PySem.W.Frag) : Spc := fun ds cs P => ∃ (n h : Nat) (b r m : Int) (es : List Dd) (l : List Int) (pl : List Pl) (x y : D) (turn : Int), ds = [.cell n, .int b, .int r, .lst [x, y, encSt (docF b r es m l pl)], .int turn] ∧ Ld K cs n h b r es m l pl ∧
  lk cs x = some ((pl.map (·.1)).map encC) ∧ lk cs y = some ((slF 0 pl).map encS) ∧ (∀ ys, x ≠ .fro ys) ∧ (∀ ys, y ≠ .fro ys) ∧ P (.bl true) cs
def sp_law_spoil (K : PySem.W.Frag) : Spc := fun ds cs P => ∃ (n h : Nat) (b r m : Int) (es : List Dd) (l : List Int) (pl : List Pl), ds = [.cell n] ∧ Ld K cs n h b r es m l pl ∧ P .non cs
def sp_law (K : PySem.W.Frag) : Spc := spLaw
abbrev Lo (ds : List D) (cs : List Cel) : Prop := (∀ d ∈ ds, loD cs.length d = true)
abbrev LoC (cs : List Cel) : Prop := (∀ c ∈ cs, c.loD cs.length = true)
structure Txt (K : PySem.W.Frag) (mg : Str → Option Value) : Prop where
  g_law_pool : mg "_law_pool" = some (.ref (He.ga K "_law_pool"))
  g_law_setting : mg "_law_setting" = some (.ref (He.ga K "_law_setting"))
  g_Ledger : mg "Ledger" = some (.ref (He.ga K "Ledger"))
  g_law_made : mg "_law_made" = some (.ref (He.ga K "_law_made"))
  g_law_look : mg "_law_look" = some (.ref (He.ga K "_law_look"))
  g_law_standing : mg "_law_standing" = some (.ref (He.ga K "_law_standing"))
  g_law_draw : mg "_law_draw" = some (.ref (He.ga K "_law_draw"))
  g_law_column : mg "_law_column" = some (.ref (He.ga K "_law_column"))
  g_law_possible : mg "_law_possible" = some (.ref (He.ga K "_law_possible"))
  g_law_spoil : mg "_law_spoil" = some (.ref (He.ga K "_law_spoil"))
  g_law_power : mg "_law_power" = some (.ref (He.ga K "_law_power"))
  g_law_some_deeds : mg "_law_some_deeds" = some (.ref (He.ga K "_law_some_deeds"))
  g_law_all_deeds : mg "_law_all_deeds" = some (.ref (He.ga K "_law_all_deeds"))
  g_check_lot : mg "check_lot" = some (.ref (He.ga K "check_lot"))
  g_Kind : mg "Kind" = some (.ref (He.ga K "Kind"))
  g_is_integer : mg "is_integer" = some (.ref (He.ga K "is_integer"))
  g_number_of_columns : mg "number_of_columns" = some (.ref (He.ga K "number_of_columns"))
  g_is_deed : mg "is_deed" = some (.ref (He.ga K "is_deed"))
  g_all_deeds : mg "all_deeds" = some (.ref (He.ga K "all_deeds"))
  g_PLAIN : mg "PLAIN" = some (.ref (He.ga K "PLAIN"))
  g_Sheet : mg "Sheet" = some (.ref (He.ga K "Sheet"))
  g_law_alike : mg "_law_alike" = some (.ref (He.ga K "_law_alike"))
  g_is_column : mg "is_column" = some (.ref (He.ga K "is_column"))
  g_beginning : mg "beginning" = some (.ref (He.ga K "beginning"))
  g_law_run : mg "_law_run" = some (.ref (He.ga K "_law_run"))
  g_law_value : mg "_law_value" = some (.ref (He.ga K "_law_value"))
  g_next_standing : mg "next_standing" = some (.ref (He.ga K "next_standing"))
  g_copy_rows : mg "copy_rows" = some (.ref (He.ga K "copy_rows"))
  g_done_rightly : mg "done_rightly" = some (.ref (He.ga K "done_rightly"))
  g_done_with : mg "done_with" = some (.ref (He.ga K "done_with"))
  g_near_behind : mg "near_behind" = some (.ref (He.ga K "near_behind"))
  g_power : mg "power" = some (.ref (He.ga K "power"))
  g_is_possible : mg "is_possible" = some (.ref (He.ga K "is_possible"))
  g_taken_sum : mg "taken_sum" = some (.ref (He.ga K "taken_sum"))
  g_law : mg "law" = some (.ref (He.ga K "law"))
  n_list : mg "list" = none
  c_Ledger : Cls K (He.ga K "Ledger")
  mk_Ledger : Mk K (He.ga K "Ledger") (He.ma K (He.ga K "Ledger") "__init__")
  n_len : mg "len" = none
  m_Ledger_put : Meth K (He.ga K "Ledger") "put" (He.ma K (He.ga K "Ledger") "put")
  n_int : mg "int" = none
  n_range : mg "range" = none
  na_Ledger_own_kind : NoAttr K (He.ga K "Ledger") "own_kind"
  na_Ledger_own_lot : NoAttr K (He.ga K "Ledger") "own_lot"
  na_Ledger_history : NoAttr K (He.ga K "Ledger") "history"
  n_isinstance : mg "isinstance" = none
  n_bool : mg "bool" = none
  c_Kind : Cls K (He.ga K "Kind")
  mk_Kind : Mk K (He.ga K "Kind") (He.ma K (He.ga K "Kind") "__init__")
  sm_Kind_or : Sm K (He.ga K "Kind") "__or__" (He.ma K (He.ga K "Kind") "__or__")
  sf_Kind : PySem.W.selfFirst K (He.ga K "Kind") = true
  sm_Kind_and : Sm K (He.ga K "Kind") "__and__" (He.ma K (He.ga K "Kind") "__and__")
  ig_MOST_COLUMNS : ∃ t, mg "MOST_COLUMNS" = some (.int 1000 t)
  n_all : mg "all" = none
  ig_MOST_DEEDS : ∃ t, mg "MOST_DEEDS" = some (.int 8 t)
  na_Kind_held_base : NoAttr K (He.ga K "Kind") "held_base"
  na_Kind_held_rows : NoAttr K (He.ga K "Kind") "held_rows"
  na_Kind_held_deeds : NoAttr K (He.ga K "Kind") "held_deeds"
  na_Kind_held_most : NoAttr K (He.ga K "Kind") "held_most"
  n_tuple : mg "tuple" = none
  n_str : mg "str" = none
  tg_PLAIN : ∀ H, SqT K H (He.ga K "PLAIN") [.str "forget", .str "again", .str "swap", .str "out", .str "twice"]
  m_Kind_alike : Meth K (He.ga K "Kind") "alike" (He.ma K (He.ga K "Kind") "alike")
  p_Ledger_sheet : PropOf K (He.ga K "Ledger") "sheet" (He.ma K (He.ga K "Ledger") "sheet") (pga K (He.ga K "Ledger") "sheet")
  ic_Sheet : C8.InsC K (He.ga K "Sheet")
  c_Sheet : Cls K (He.ga K "Sheet")
  p_Sheet_base : PropOf K (He.ga K "Sheet") "base" (He.ma K (He.ga K "Sheet") "base") (pga K (He.ga K "Sheet") "base")
  p_Sheet_rows : PropOf K (He.ga K "Sheet") "rows" (He.ma K (He.ga K "Sheet") "rows") (pga K (He.ga K "Sheet") "rows")
  p_Sheet_columns : PropOf K (He.ga K "Sheet") "columns" (He.ma K (He.ga K "Sheet") "columns") (pga K (He.ga K "Sheet") "columns")
  p_Ledger_slips : PropOf K (He.ga K "Ledger") "slips" (He.ma K (He.ga K "Ledger") "slips") (pga K (He.ga K "Ledger") "slips")
  p_Ledger_standing : PropOf K (He.ga K "Ledger") "standing" (He.ma K (He.ga K "Ledger") "standing") (pga K (He.ga K "Ledger") "standing")
  p_Ledger_waits : PropOf K (He.ga K "Ledger") "waits" (He.ma K (He.ga K "Ledger") "waits") (pga K (He.ga K "Ledger") "waits")
  sm_Ledger_len : Sm K (He.ga K "Ledger") "__len__" (He.ma K (He.ga K "Ledger") "__len__")
  mk_Sheet : Mk K (He.ga K "Sheet") (He.ma K (He.ga K "Sheet") "__init__")
  p_Kind_rows : PropOf K (He.ga K "Kind") "rows" (He.ma K (He.ga K "Kind") "rows") (pga K (He.ga K "Kind") "rows")
  p_Kind_base : PropOf K (He.ga K "Kind") "base" (He.ma K (He.ga K "Kind") "base") (pga K (He.ga K "Kind") "base")
  na_Sheet_held_base : NoAttr K (He.ga K "Sheet") "held_base"
  na_Sheet_held_rows : NoAttr K (He.ga K "Sheet") "held_rows"
  na_Sheet_held_columns : NoAttr K (He.ga K "Sheet") "held_columns"
  na_Sheet_size : NoAttr K (He.ga K "Sheet") "size"
  n_enumerate : mg "enumerate" = none
  p_Kind_most : PropOf K (He.ga K "Kind") "most" (He.ma K (He.ga K "Kind") "most") (pga K (He.ga K "Kind") "most")
  n_sum : mg "sum" = none
  n_min : mg "min" = none
  sm_Kind_contains : Sm K (He.ga K "Kind") "__contains__" (He.ma K (He.ga K "Kind") "__contains__")
  p_Kind_deeds : PropOf K (He.ga K "Kind") "deeds" (He.ma K (He.ga K "Kind") "deeds") (pga K (He.ga K "Kind") "deeds")
  sm_Sheet_len : Sm K (He.ga K "Sheet") "__len__" (He.ma K (He.ga K "Sheet") "__len__")
  sm_Sheet_setitem : Sm K (He.ga K "Sheet") "__setitem__" (He.ma K (He.ga K "Sheet") "__setitem__")
  nq_Sheet : PySem.W.noSeq K (He.ga K "Sheet") = true
  F_law_pool : ∃ fd, FunD K "_law_pool" "_law_pool" (defArgs s_law_pool) (defBody s_law_pool) (defScope s_law_pool) [] [] (He.ga K "_law_pool") fd
  F_law_draw : ∃ fd, FunD K "_law_draw" "_law_draw" (defArgs s_law_draw) (defBody s_law_draw) (defScope s_law_draw) [] [] (He.ga K "_law_draw") fd
  F_law_power : ∃ fd, FunD K "_law_power" "_law_power" (defArgs s_law_power) (defBody s_law_power) (defScope s_law_power) [] [] (He.ga K "_law_power") fd
  F_law_all_deeds : ∃ fd, FunD K "_law_all_deeds" "_law_all_deeds" (defArgs s_law_all_deeds) (defBody s_law_all_deeds) (defScope s_law_all_deeds) [] [] (He.ga K "_law_all_deeds") fd
  F_law_some_deeds : ∃ fd, FunD K "_law_some_deeds" "_law_some_deeds" (defArgs s_law_some_deeds) (defBody s_law_some_deeds) (defScope s_law_some_deeds) [] [] (He.ga K "_law_some_deeds") fd
  F_law_setting : ∃ fd, FunD K "_law_setting" "_law_setting" (defArgs s_law_setting) (defBody s_law_setting) (defScope s_law_setting) [] [] (He.ga K "_law_setting") fd
  F_check_lot : ∃ fd, FunD K "check_lot" "check_lot" (defArgs s_check_lot) (defBody s_check_lot) (defScope s_check_lot) [] [] (He.ga K "check_lot") fd
  F_Ledger_init : ∃ fd, FunD K "__init__" "Ledger.__init__" (defArgs s_Ledger_init) (defBody s_Ledger_init) (defScope s_Ledger_init) [] [] (He.ma K (He.ga K "Ledger") "__init__") fd
  F_is_integer : ∃ fd, FunD K "is_integer" "is_integer" (defArgs s_is_integer) (defBody s_is_integer) (defScope s_is_integer) [] [] (He.ga K "is_integer") fd
  F_number_of_columns : ∃ fd, FunD K "number_of_columns" "number_of_columns" (defArgs s_number_of_columns) (defBody s_number_of_columns) (defScope s_number_of_columns) [] [] (He.ga K "number_of_columns") fd
  F_is_deed : ∃ fd, FunD K "is_deed" "is_deed" (defArgs s_is_deed) (defBody s_is_deed) (defScope s_is_deed) [] [] (He.ga K "is_deed") fd
  F_all_deeds : ∃ fd, FunD K "all_deeds" "all_deeds" (defArgs s_all_deeds) (defBody s_all_deeds) (defScope s_all_deeds) [] [] (He.ga K "all_deeds") fd
  F_Kind_init : ∃ fd, FunD K "__init__" "Kind.__init__" (defArgs s_Kind_init) (defBody s_Kind_init) (defScope s_Kind_init) [] [] (He.ma K (He.ga K "Kind") "__init__") fd
  F_Kind_alike : ∃ fd, FunD K "alike" "Kind.alike" (defArgs s_Kind_alike) (defBody s_Kind_alike) (defScope s_Kind_alike) [] [] (He.ma K (He.ga K "Kind") "alike") fd
  F_Kind_or : ∃ fd, FunD K "__or__" "Kind.__or__" (defArgs s_Kind_or) (defBody s_Kind_or) (defScope s_Kind_or) [] [] (He.ma K (He.ga K "Kind") "__or__") fd
  F_Kind_and : ∃ fd, FunD K "__and__" "Kind.__and__" (defArgs s_Kind_and) (defBody s_Kind_and) (defScope s_Kind_and) [] [] (He.ma K (He.ga K "Kind") "__and__") fd
  F_law_made : ∃ fd, FunD K "_law_made" "_law_made" (defArgs s_law_made) (defBody s_law_made) (defScope s_law_made) [] [] (He.ga K "_law_made") fd
  F_is_column : ∃ fd, FunD K "is_column" "is_column" (defArgs s_is_column) (defBody s_is_column) (defScope s_is_column) [] [] (He.ga K "is_column") fd
  F_Sheet_init : ∃ fd, FunD K "__init__" "Sheet.__init__" (defArgs s_Sheet_init) (defBody s_Sheet_init) (defScope s_Sheet_init) [] [] (He.ma K (He.ga K "Sheet") "__init__") fd
  F_Kind_rows : ∃ fd, FunD K "rows" "Kind.rows" (defArgs s_Kind_rows) (defBody s_Kind_rows) (defScope s_Kind_rows) [] [] (pga K (He.ga K "Kind") "rows") fd
  F_Kind_base : ∃ fd, FunD K "base" "Kind.base" (defArgs s_Kind_base) (defBody s_Kind_base) (defScope s_Kind_base) [] [] (pga K (He.ga K "Kind") "base") fd
  F_Ledger_sheet : ∃ fd, FunD K "sheet" "Ledger.sheet" (defArgs s_Ledger_sheet) (defBody s_Ledger_sheet) (defScope s_Ledger_sheet) [] [] (pga K (He.ga K "Ledger") "sheet") fd
  F_Sheet_base : ∃ fd, FunD K "base" "Sheet.base" (defArgs s_Sheet_base) (defBody s_Sheet_base) (defScope s_Sheet_base) [] [] (pga K (He.ga K "Sheet") "base") fd
  F_Sheet_rows : ∃ fd, FunD K "rows" "Sheet.rows" (defArgs s_Sheet_rows) (defBody s_Sheet_rows) (defScope s_Sheet_rows) [] [] (pga K (He.ga K "Sheet") "rows") fd
  F_law_alike_0 : ∃ fd, FunD K "_law_alike" "_law_alike" (defArgs s_law_alike_0) (defBody s_law_alike_0) (defScope s_law_alike_0) [] [] (He.ga K "_law_alike") fd
  F_law_alike_1 : ∃ fd, FunD K "_law_alike" "_law_alike" (defArgs s_law_alike_1) (defBody s_law_alike_1) (defScope s_law_alike_1) [] [] (He.ga K "_law_alike") fd
  F_law_alike_2 : ∃ fd, FunD K "_law_alike" "_law_alike" (defArgs s_law_alike_2) (defBody s_law_alike_2) (defScope s_law_alike_2) [] [] (He.ga K "_law_alike") fd
  F_law_alike_3 : ∃ fd, FunD K "_law_alike" "_law_alike" (defArgs s_law_alike_3) (defBody s_law_alike_3) (defScope s_law_alike_3) [] [] (He.ga K "_law_alike") fd
  F_Sheet_columns : ∃ fd, FunD K "columns" "Sheet.columns" (defArgs s_Sheet_columns) (defBody s_Sheet_columns) (defScope s_Sheet_columns) [] [] (pga K (He.ga K "Sheet") "columns") fd
  F_Ledger_slips : ∃ fd, FunD K "slips" "Ledger.slips" (defArgs s_Ledger_slips) (defBody s_Ledger_slips) (defScope s_Ledger_slips) [] [] (pga K (He.ga K "Ledger") "slips") fd
  F_Kind_most : ∃ fd, FunD K "most" "Kind.most" (defArgs s_Kind_most) (defBody s_Kind_most) (defScope s_Kind_most) [] [] (pga K (He.ga K "Kind") "most") fd
  F_beginning : ∃ fd, FunD K "beginning" "beginning" (defArgs s_beginning) (defBody s_beginning) (defScope s_beginning) [] [] (He.ga K "beginning") fd
  F_Ledger_standing : ∃ fd, FunD K "standing" "Ledger.standing" (defArgs s_Ledger_standing) (defBody s_Ledger_standing) (defScope s_Ledger_standing) [] [] (pga K (He.ga K "Ledger") "standing") fd
  F_Ledger_waits : ∃ fd, FunD K "waits" "Ledger.waits" (defArgs s_Ledger_waits) (defBody s_Ledger_waits) (defScope s_Ledger_waits) [] [] (pga K (He.ga K "Ledger") "waits") fd
  F_Ledger_len : ∃ fd, FunD K "__len__" "Ledger.__len__" (defArgs s_Ledger_len) (defBody s_Ledger_len) (defScope s_Ledger_len) [] [] (He.ma K (He.ga K "Ledger") "__len__") fd
  F_law_look : ∃ fd, FunD K "_law_look" "_law_look" (defArgs s_law_look) (defBody s_law_look) (defScope s_law_look) [] [] (He.ga K "_law_look") fd
  F_law_run : ∃ fd, FunD K "_law_run" "_law_run" (defArgs s_law_run) (defBody s_law_run) (defScope s_law_run) [] [] (He.ga K "_law_run") fd
  F_law_value : ∃ fd, FunD K "_law_value" "_law_value" (defArgs s_law_value) (defBody s_law_value) (defScope s_law_value) [] [] (He.ga K "_law_value") fd
  F_law_standing : ∃ fd, FunD K "_law_standing" "_law_standing" (defArgs s_law_standing) (defBody s_law_standing) (defScope s_law_standing) [] [] (He.ga K "_law_standing") fd
  F_law_column : ∃ fd, FunD K "_law_column" "_law_column" (defArgs s_law_column) (defBody s_law_column) (defScope s_law_column) [] [] (He.ga K "_law_column") fd
  F_law_possible : ∃ fd, FunD K "_law_possible" "_law_possible" (defArgs s_law_possible) (defBody s_law_possible) (defScope s_law_possible) [] [] (He.ga K "_law_possible") fd
  F_Kind_contains : ∃ fd, FunD K "__contains__" "Kind.__contains__" (defArgs s_Kind_contains) (defBody s_Kind_contains) (defScope s_Kind_contains) [] [] (He.ma K (He.ga K "Kind") "__contains__") fd
  F_done_rightly : ∃ fd, FunD K "done_rightly" "done_rightly" (defArgs s_done_rightly) (defBody s_done_rightly) (defScope s_done_rightly) [] [] (He.ga K "done_rightly") fd
  F_is_possible : ∃ fd, FunD K "is_possible" "is_possible" (defArgs s_is_possible) (defBody s_is_possible) (defScope s_is_possible) [] [] (He.ga K "is_possible") fd
  F_taken_sum : ∃ fd, FunD K "taken_sum" "taken_sum" (defArgs s_taken_sum) (defBody s_taken_sum) (defScope s_taken_sum) [] [] (He.ga K "taken_sum") fd
  F_done_with : ∃ fd, FunD K "done_with" "done_with" (defArgs s_done_with) (defBody s_done_with) (defScope s_done_with) [] [] (He.ga K "done_with") fd
  F_power : ∃ fd, FunD K "power" "power" (defArgs s_power) (defBody s_power) (defScope s_power) [] [] (He.ga K "power") fd
  F_near_behind : ∃ fd, FunD K "near_behind" "near_behind" (defArgs s_near_behind) (defBody s_near_behind) (defScope s_near_behind) [] [] (He.ga K "near_behind") fd
  F_next_standing : ∃ fd, FunD K "next_standing" "next_standing" (defArgs s_next_standing) (defBody s_next_standing) (defScope s_next_standing) [] [] (He.ga K "next_standing") fd
  F_Kind_deeds : ∃ fd, FunD K "deeds" "Kind.deeds" (defArgs s_Kind_deeds) (defBody s_Kind_deeds) (defScope s_Kind_deeds) [] [] (pga K (He.ga K "Kind") "deeds") fd
  F_copy_rows : ∃ fd, FunD K "copy_rows" "copy_rows" (defArgs s_copy_rows) (defBody s_copy_rows) (defScope s_copy_rows) [] [] (He.ga K "copy_rows") fd
  F_Ledger_put : ∃ fd, FunD K "put" "Ledger.put" (defArgs s_Ledger_put) (defBody s_Ledger_put) (defScope s_Ledger_put) [] [("deed", .non)] (He.ma K (He.ga K "Ledger") "put") fd
  F_Sheet_len : ∃ fd, FunD K "__len__" "Sheet.__len__" (defArgs s_Sheet_len) (defBody s_Sheet_len) (defScope s_Sheet_len) [] [] (He.ma K (He.ga K "Sheet") "__len__") fd
  F_Sheet_setitem : ∃ fd, FunD K "__setitem__" "Sheet.__setitem__" (defArgs s_Sheet_setitem) (defBody s_Sheet_setitem) (defScope s_Sheet_setitem) [] [] (He.ma K (He.ga K "Sheet") "__setitem__") fd
  F_law_spoil : ∃ fd, FunD K "_law_spoil" "_law_spoil" (defArgs s_law_spoil) (defBody s_law_spoil) (defScope s_law_spoil) [] [] (He.ga K "_law_spoil") fd
  F_law : ∃ fd, FunD K "law" "law" (defArgs s_law) (defBody s_law) (defScope s_law) [] [] (He.ga K "law") fd
section
variable {P : Program} {w : World} {K : PySem.W.Frag} {mg : Str → Option Value} {base : Heap}
def t_law_pool (K : PySem.W.Frag) : DS := (sSeq (sIf (eTest (eBin qGe (eV 0) (eBin (qPow) (eC (.int 10)) (eC (.int 18))))) (sRet (eLst true (aCons (eBin (qSub) (eV 0) (eBin (qPow) (eC (.int 10)) (eC (.int 18)))) aNil))) sNext) (sSeq (sAsg (eBin (qAdd false) (eBin (qAdd false) (eBin (qMod) (eCB qInt (aCons (eV 0) aNil)) (eC (.int 1000003))) (eBin (qMul) (eC (.int 17)) (eV 1))) (eC (.int 3))) 2) (sSeq (sAsg (eC (.int 0)) 3) (sSeq (sFor (iR1 (aCons (eC (.int 14)) aNil)) (.one 4) (sSeq (sAsg (eBin (qMod) (eCB qInt (aCons (eBin (qAdd false) (eBin (qAdd false) (eBin (qMul) (eV 2) (eV 2)) (eBin (qMul) (eC (.int 65539)) (eV 2))) (eBin (qMul) (eC (.int 104729)) (eBin (qAdd false) (eV 4) (eC (.int 1))))) aNil)) (eC (.int 2147483629))) 2) (sAsg (eBin (qAdd false) (eBin (qMul) (eV 3) (eC (.int 1000033))) (eBin (qMod) (eCB qInt (aCons (eBin (qFdiv) (eV 2) (eC (.int 7))) aNil)) (eC (.int 1000033)))) 3))) (sRet (eLst true (aCons (eV 3) aNil)))))))
theorem d_law_pool (T : Txt K mg) : ∀ (cdv : Value) (A : Around) (outer : List Env) (s : Shared) (H : Hp) (E : XK) (B : Bs), Room 1 (A.deeper (envOfC "_law_pool" (defScope s_law_pool) s.heap.objs.size (He.ga K "_law_pool") cdv)) → PSs (cx0 P w K mg base N_law_pool "_law_pool" (defScope s_law_pool) (He.ga K "_law_pool") cdv A outer s H E) (defBody s_law_pool) (lS K B (t_law_pool K)) := by
  intro cdv A outer s H E B hr
  exact (dss_cons (ds_if (dt_cmp op_ge od_ge (dv 0) (de_bin op_pow od_pow de_int de_int) (nomark _)) (dss_one (ds_ret (de_lst (o := true) (da_cons (de_bin op_sub od_sub (dv 0) (de_bin op_pow od_pow de_int de_int)) da_nil)))) dss_nil) (dss_cons (ds_set (i := 2) sc_law_pool.nd rfl (Or.inl rfl) (de_bin op_addA (od_add (o := false)) (de_bin op_addA (od_add (o := false)) (de_bin op_mod od_mod (de_callTy call_intA cd_int rfl T.n_int bt_int (da_cons (dv 0) da_nil)) de_int) (de_bin op_mulA od_mul de_int (dv 1))) de_int)) (dss_cons (ds_set (i := 3) sc_law_pool.nd rfl (Or.inl rfl) de_int) (dss_cons (ds_for (tg := (.one 4)) PassesOwn.never rfl (di_range1 rfl T.n_range (da_cons de_int da_nil)) (pg_name (i := 4) sc_law_pool.nd rfl (Or.inl rfl)) (dss_cons (ds_set (i := 2) sc_law_pool.nd rfl (Or.inl rfl) (de_bin op_mod od_mod (de_callTy call_intA cd_int rfl T.n_int bt_int (da_cons (de_bin op_addA (od_add (o := false)) (de_bin op_addA (od_add (o := false)) (de_bin op_mulA od_mul (dv 2) (dv 2)) (de_bin op_mulA od_mul de_int (dv 2))) (de_bin op_mulA od_mul de_int (de_bin op_addA (od_add (o := false)) (dv 4) de_int))) da_nil)) de_int)) (dss_one (ds_set (i := 3) sc_law_pool.nd rfl (Or.inl rfl) (de_bin op_addA (od_add (o := false)) (de_bin op_mulA od_mul (dv 3) de_int) (de_bin op_mod od_mod (de_callTy call_intA cd_int rfl T.n_int bt_int (da_cons (de_bin op_fdivA od_fdiv (dv 2) de_int) da_nil)) de_int)))))) (dss_one (ds_ret (de_lst (o := true) (da_cons (dv 3) da_nil))))))))
def t_law_draw (K : PySem.W.Frag) : DS := (sSeq (sAsg (eBin (qMod) (eCB qInt (aCons (eBin qIx (eV 0) (eC (.int 0))) aNil)) (eV 1)) 2) (sSeq (sSub (eBin (qFdiv) (eBin qIx (eV 0) (eC (.int 0))) (eV 1)) (eV 0) (eC (.int 0))) (sRet (eV 2))))
theorem d_law_draw (T : Txt K mg) : ∀ (cdv : Value) (A : Around) (outer : List Env) (s : Shared) (H : Hp) (E : XK) (B : Bs), Room 1 (A.deeper (envOfC "_law_draw" (defScope s_law_draw) s.heap.objs.size (He.ga K "_law_draw") cdv)) → PSs (cx0 P w K mg base N_law_draw "_law_draw" (defScope s_law_draw) (He.ga K "_law_draw") cdv A outer s H E) (defBody s_law_draw) (lS K B (t_law_draw K)) := by
  intro cdv A outer s H E B hr
  exact (dss_cons (ds_set (i := 2) sc_law_draw.nd rfl (Or.inl rfl) (de_bin op_mod od_mod (de_callTy call_intA cd_int rfl T.n_int bt_int (da_cons (de_ix (dv 0) de_int (fun _ _ => rfl)) da_nil)) (dv 1))) (dss_cons (ds_sub (de_bin op_fdivA od_fdiv (de_ix (dv 0) de_int (fun _ _ => rfl)) (dv 1)) (dv 0) de_int) (dss_one (ds_ret (dv 2)))))
def t_law_power (K : PySem.W.Frag) : DS := (sSeq (sAsg (eC (.int 1)) 2) (sSeq (sFor (iR1 (aCons (eV 1) aNil)) (.one 3) (sAsg (eBin (qMul) (eV 2) (eV 0)) 2)) (sRet (eV 2))))
theorem d_law_power (T : Txt K mg) : ∀ (cdv : Value) (A : Around) (outer : List Env) (s : Shared) (H : Hp) (E : XK) (B : Bs), Room 1 (A.deeper (envOfC "_law_power" (defScope s_law_power) s.heap.objs.size (He.ga K "_law_power") cdv)) → PSs (cx0 P w K mg base N_law_power "_law_power" (defScope s_law_power) (He.ga K "_law_power") cdv A outer s H E) (defBody s_law_power) (lS K B (t_law_power K)) := by
  intro cdv A outer s H E B hr
  exact (dss_cons (ds_set (i := 2) sc_law_power.nd rfl (Or.inl rfl) de_int) (dss_cons (ds_for (tg := (.one 3)) PassesOwn.never rfl (di_range1 rfl T.n_range (da_cons (dv 1) da_nil)) (pg_name (i := 3) sc_law_power.nd rfl (Or.inl rfl)) (dss_one (ds_set (i := 2) sc_law_power.nd rfl (Or.inl rfl) (de_bin op_mulA od_mul (dv 2) (dv 0))))) (dss_one (ds_ret (dv 2)))))
def t_law_all_deeds (K : PySem.W.Frag) : DS := (sSeq (sAsg (eBin (qAdd true) (eLst false (aCons (eTup (aCons (eC (.str "forget")) aNil)) (aCons (eTup (aCons (eC (.str "again")) aNil)) aNil))) (eLc false (iR2 (aCons (eC (.int 1)) (aCons (eV 0) aNil))) (.one 4) dYes (eTup (aCons (eC (.str "off")) (aCons (eV 4) aNil))) [4])) 2) (sSeq (sFor (iR1 (aCons (eV 1) aNil)) (.one 3) (sDrop (eBM qExt (eV 2) (aCons (eLc false (iR2 (aCons (eC (.int 1)) (aCons (eV 0) aNil))) (.one 4) dYes (eTup (aCons (eC (.str "read")) (aCons (eV 3) (aCons (eV 4) aNil)))) [4]) aNil)))) (sRet (eBin (qAdd true) (eBin (qAdd false) (eV 2) (eLc false (iR1 (aCons (eV 1) aNil)) (.one 3) dYes (eTup (aCons (eC (.str "copy")) (aCons (eV 3) aNil))) [3])) (eLst false (aCons (eTup (aCons (eC (.str "swap")) aNil)) (aCons (eTup (aCons (eC (.str "out")) aNil)) (aCons (eTup (aCons (eC (.str "twice")) aNil)) aNil))))))))
theorem d_law_all_deeds (T : Txt K mg) : ∀ (cdv : Value) (A : Around) (outer : List Env) (s : Shared) (H : Hp) (E : XK) (B : Bs), Room 1 (A.deeper (envOfC "_law_all_deeds" (defScope s_law_all_deeds) s.heap.objs.size (He.ga K "_law_all_deeds") cdv)) → PSs (cx0 P w K mg base N_law_all_deeds "_law_all_deeds" (defScope s_law_all_deeds) (He.ga K "_law_all_deeds") cdv A outer s H E) (defBody s_law_all_deeds) (lS K B (t_law_all_deeds K)) := by
  intro cdv A outer s H E B hr
  exact (dss_cons (ds_set (i := 2) sc_law_all_deeds.nd rfl (Or.inl rfl) (de_bin op_addA (od_add (o := true)) (de_lst (o := false) (da_cons (de_tup (da_cons de_str da_nil)) (da_cons (de_tup (da_cons de_str da_nil)) da_nil))) (de_lc (o := false) (own := [("d", 4)]) (tg := (.one 4)) rfl sc_law_all_deeds.nd (di_range2 rfl T.n_range (da_cons de_int (da_cons (dv 0) da_nil))) (blkOk_by (own := [("d", 4)]) (N := N_law_all_deeds) (sc := defScope s_law_all_deeds) (by decide +kernel)) (by decide) (fun _ _ _ _ _ => (pg_name (i := 4) sc_law_all_deeds.nd rfl (Or.inl rfl))) (fun _ _ _ _ _ => dts_nil) (fun _ _ _ _ _ => (de_tup (da_cons de_str (da_cons (dv 4) da_nil))))))) (dss_cons (ds_for (tg := (.one 3)) PassesOwn.never rfl (di_range1 rfl T.n_range (da_cons (dv 1) da_nil)) (pg_name (i := 3) sc_law_all_deeds.nd rfl (Or.inr rfl)) (dss_one (ds_expr (de_bm PySem.F.plainAttrs_list PySem.F.slot_list_extend PySem.F.type_list_extend mt_extend md_ext (dv 2) (da_cons (de_lc (o := false) (own := [("d", 4)]) (tg := (.one 4)) rfl sc_law_all_deeds.nd (di_range2 rfl T.n_range (da_cons de_int (da_cons (dv 0) da_nil))) (blkOk_by (own := [("d", 4)]) (N := N_law_all_deeds) (sc := defScope s_law_all_deeds) (by decide +kernel)) (by decide) (fun _ _ _ _ _ => (pg_name (i := 4) sc_law_all_deeds.nd rfl (Or.inl rfl))) (fun _ _ _ _ _ => dts_nil) (fun _ _ _ _ _ => (de_tup (da_cons de_str (da_cons (dv 3) (da_cons (dv 4) da_nil)))))) da_nil))))) (dss_one (ds_ret (de_bin op_addA (od_add (o := true)) (de_bin op_addA (od_add (o := false)) (dv 2) (de_lc (o := false) (own := [("j", 3)]) (tg := (.one 3)) rfl sc_law_all_deeds.nd (di_range1 rfl T.n_range (da_cons (dv 1) da_nil)) (blkOk_by (own := [("j", 3)]) (N := N_law_all_deeds) (sc := defScope s_law_all_deeds) (by decide +kernel)) (by decide) (fun _ _ _ _ _ => (pg_name (i := 3) sc_law_all_deeds.nd rfl (Or.inl rfl))) (fun _ _ _ _ _ => dts_nil) (fun _ _ _ _ _ => (de_tup (da_cons de_str (da_cons (dv 3) da_nil)))))) (de_lst (o := false) (da_cons (de_tup (da_cons de_str da_nil)) (da_cons (de_tup (da_cons de_str da_nil)) (da_cons (de_tup (da_cons de_str da_nil)) da_nil)))))))))
def t_law_some_deeds (K : PySem.W.Frag) : DS := (sSeq (sAsg (eCall (sp_law_all_deeds K) (aCons (eV 1) (aCons (eV 2) aNil))) 4) (sSeq (sAsg (eLst false (aCons (eC (.str "forget")) (aCons (eC (.str "again")) (aCons (eC (.str "off")) (aCons (eC (.str "read")) (aCons (eC (.str "copy")) (aCons (eC (.str "swap")) (aCons (eC (.str "out")) (aCons (eC (.str "twice")) aNil))))))))) 5) (sSeq (sAsg (eLst true aNil) 6) (sSeq (sFor (iR1 (aCons (eV 3) aNil)) (.one 7) (sSeq (sAsg (eBin qIx (eV 5) (eCall (sp_law_draw K) (aCons (eV 0) (aCons (eC (.int 8)) aNil)))) 8) (sSeq (sAsg (eLc false (iS (eV 4)) (.one 10) (eTest (eBin qEq (eBin qIx (eV 10) (eC (.int 0))) (eV 8))) (eV 10) [10]) 9) (sSeq (sIf (eTest (eBin qEq (eV 9) (eLst false aNil))) (sAsg (eCB (qList false) (aCons (eV 4) aNil)) 9) sNext) (sSeq (sAsg (eBin qIx (eV 9) (eCall (sp_law_draw K) (aCons (eV 0) (aCons (eCB qLen (aCons (eV 9) aNil)) aNil)))) 10) (sSeq (sDrop (eBM qRem (eV 4) (aCons (eV 10) aNil))) (sDrop (eBM qApp (eV 6) (aCons (eV 10) aNil))))))))) (sRet (eV 6))))))
theorem d_law_some_deeds (T : Txt K mg) (G_law_all_deeds : Good P w K mg base 2 (He.ga K "_law_all_deeds") ["base", "rows"] (sp_law_all_deeds K)) (G_law_draw : Good P w K mg base 2 (He.ga K "_law_draw") ["pool", "many"] (sp_law_draw K)) : ∀ (cdv : Value) (A : Around) (outer : List Env) (s : Shared) (H : Hp) (E : XK) (B : Bs), Room 4 (A.deeper (envOfC "_law_some_deeds" (defScope s_law_some_deeds) s.heap.objs.size (He.ga K "_law_some_deeds") cdv)) → PSs (cx0 P w K mg base N_law_some_deeds "_law_some_deeds" (defScope s_law_some_deeds) (He.ga K "_law_some_deeds") cdv A outer s H E) (defBody s_law_some_deeds) (lS K B (t_law_some_deeds K)) := by
  intro cdv A outer s H E B hr
  exact (dss_cons (ds_set (i := 4) sc_law_some_deeds.nd rfl (Or.inl rfl) (de_callG G_law_all_deeds (hr.mono (by decide)) T.g_law_all_deeds (da_cons (dv 1) (da_cons (dv 2) da_nil)))) (dss_cons (ds_set (i := 5) sc_law_some_deeds.nd rfl (Or.inl rfl) (de_lst (o := false) (da_cons de_str (da_cons de_str (da_cons de_str (da_cons de_str (da_cons de_str (da_cons de_str (da_cons de_str (da_cons de_str da_nil)))))))))) (dss_cons (ds_set (i := 6) sc_law_some_deeds.nd rfl (Or.inl rfl) (de_lst (o := true) da_nil)) (dss_cons (ds_for (tg := (.one 7)) PassesOwn.never rfl (di_range1 rfl T.n_range (da_cons (dv 3) da_nil)) (pg_name (i := 7) sc_law_some_deeds.nd rfl (Or.inl rfl)) (dss_cons (ds_set (i := 8) sc_law_some_deeds.nd rfl (Or.inr rfl) (de_ix (dv 5) (de_callG G_law_draw (hr.mono (by decide)) T.g_law_draw (da_cons (dv 0) (da_cons de_int da_nil))) (fun _ _ => rfl))) (dss_cons (ds_setLc (o := false) (i := 9) (own := [("act", 10)]) (tg := (.one 10)) rfl sc_law_some_deeds.nd rfl rfl (sw_true rfl rfl rfl (by decide +kernel)) (di_any (dv 4)) (blkOk_by (own := [("act", 10)]) (N := N_law_some_deeds) (sc := defScope s_law_some_deeds) (by decide +kernel)) (by decide) (fun _ _ _ _ _ => (pg_name (i := 10) sc_law_some_deeds.nd rfl (Or.inl rfl))) (fun _ _ _ _ _ => (dts_one (dt_cmp (op_eqD hr.units) od_eq (de_ix (dv 10) de_int (fun _ _ => rfl)) (dv 8) (nomark _)))) (fun _ _ _ _ _ => (dv 10))) (dss_cons (ds_if (dt_cmp (op_eqD hr.units) od_eq (dv 9) (de_lst (o := false) da_nil) (nomark _)) (dss_one (ds_set (i := 9) sc_law_some_deeds.nd rfl (Or.inl rfl) (de_callTy call_listA (cd_list (o := false)) rfl T.n_list bt_list (da_cons (dv 4) da_nil)))) dss_nil) (dss_cons (ds_set (i := 10) sc_law_some_deeds.nd rfl (Or.inl rfl) (de_ix (dv 9) (de_callG G_law_draw (hr.mono (by decide)) T.g_law_draw (da_cons (dv 0) (da_cons (de_callB call_lenA cd_len rfl T.n_len bt_len (da_cons (dv 9) da_nil)) da_nil))) (fun _ _ => rfl))) (dss_cons (ds_expr (de_bm PySem.F.plainAttrs_list PySem.F.slot_list_remove PySem.F.type_list_remove (mt_remD (units5 hr)) md_rem (dv 4) (da_cons (dv 10) da_nil))) (dss_one (ds_expr (de_bm PySem.F.plainAttrs_list PySem.F.slot_list_append PySem.F.type_list_append mt_append md_app (dv 6) (da_cons (dv 10) da_nil)))))))))) (dss_one (ds_ret (dv 6)))))))
def t_law_setting (K : PySem.W.Frag) : DS := (sSeq (sAsg (eBin (qAdd false) (eC (.int 2)) (eCall (sp_law_draw K) (aCons (eV 0) (aCons (eC (.int 11)) aNil)))) 1) (sSeq (sAsg (eBin (qAdd false) (eC (.int 1)) (eCall (sp_law_draw K) (aCons (eV 0) (aCons (eC (.int 4)) aNil)))) 2) (sSeq (sWhile (eTest (eBin qGt (eCall (sp_law_power K) (aCons (eV 1) (aCons (eV 2) aNil))) (eC (.int 1000)))) (sAsg (eBin (qSub) (eV 2) (eC (.int 1))) 2)) (sSeq (sAsg (eCall (sp_law_some_deeds K) (aCons (eV 0) (aCons (eV 1) (aCons (eV 2) (aCons (eBin (qAdd false) (eC (.int 1)) (eCall (sp_law_draw K) (aCons (eV 0) (aCons (eC (.int 5)) aNil)))) aNil))))) 3) (sSeq (sAsg (eLc false (iS (eCall (sp_law_all_deeds K) (aCons (eV 1) (aCons (eV 2) aNil)))) (.one 9) (eTest (eBin (qIn false) (eV 9) (eV 3))) (eV 9) [9]) 4) (sSeq (sAsg (eBin (qAdd false) (eC (.int 1)) (eCall (sp_law_draw K) (aCons (eV 0) (aCons (eC (.int 3)) aNil)))) 5) (sSeq (sAsg (eLst true aNil) 6) (sSeq (sFor (iR1 (aCons (eCall (sp_law_draw K) (aCons (eV 0) (aCons (eC (.int 5)) aNil))) aNil)) (.one 7) (sSeq (sAsg (eBin (qAdd false) (eC (.int 2)) (eCall (sp_law_draw K) (aCons (eV 0) (aCons (eC (.int 59)) aNil)))) 8) (sIf (eTest (eBin (qIn true) (eV 8) (eV 6))) (sDrop (eBM qApp (eV 6) (aCons (eV 8) aNil))) sNext))) (sRet (eFz (eTup (aCons (eV 1) (aCons (eV 2) (aCons (eV 4) (aCons (eV 5) (aCons (eV 6) aNil))))))))))))))))
theorem d_law_setting (T : Txt K mg) (G_law_draw : Good P w K mg base 2 (He.ga K "_law_draw") ["pool", "many"] (sp_law_draw K)) (G_law_power : Good P w K mg base 2 (He.ga K "_law_power") ["base", "many"] (sp_law_power K)) (G_law_some_deeds : Good P w K mg base 5 (He.ga K "_law_some_deeds") ["pool", "base", "rows", "many"] (sp_law_some_deeds K)) (G_law_all_deeds : Good P w K mg base 2 (He.ga K "_law_all_deeds") ["base", "rows"] (sp_law_all_deeds K)) : ∀ (cdv : Value) (A : Around) (outer : List Env) (s : Shared) (H : Hp) (E : XK) (B : Bs), Room 7 (A.deeper (envOfC "_law_setting" (defScope s_law_setting) s.heap.objs.size (He.ga K "_law_setting") cdv)) → PSs (cx0 P w K mg base N_law_setting "_law_setting" (defScope s_law_setting) (He.ga K "_law_setting") cdv A outer s H E) (defBody s_law_setting) (lS K B (t_law_setting K)) := by
  intro cdv A outer s H E B hr
  exact (dss_cons (ds_set (i := 1) sc_law_setting.nd rfl (Or.inl rfl) (de_bin op_addA (od_add (o := false)) de_int (de_callG G_law_draw (hr.mono (by decide)) T.g_law_draw (da_cons (dv 0) (da_cons de_int da_nil))))) (dss_cons (ds_set (i := 2) sc_law_setting.nd rfl (Or.inl rfl) (de_bin op_addA (od_add (o := false)) de_int (de_callG G_law_draw (hr.mono (by decide)) T.g_law_draw (da_cons (dv 0) (da_cons de_int da_nil))))) (dss_cons (ds_while PassesOwn.never (dt_cmp op_gt od_gt (de_callG G_law_power (hr.mono (by decide)) T.g_law_power (da_cons (dv 1) (da_cons (dv 2) da_nil))) de_int (nomark _)) (dss_one (ds_set (i := 2) sc_law_setting.nd rfl (Or.inl rfl) (de_bin op_sub od_sub (dv 2) de_int)))) (dss_cons (ds_set (i := 3) sc_law_setting.nd rfl (Or.inr rfl) (de_callG G_law_some_deeds (hr.mono (by decide)) T.g_law_some_deeds (da_cons (dv 0) (da_cons (dv 1) (da_cons (dv 2) (da_cons (de_bin op_addA (od_add (o := false)) de_int (de_callG G_law_draw (hr.mono (by decide)) T.g_law_draw (da_cons (dv 0) (da_cons de_int da_nil)))) da_nil)))))) (dss_cons (ds_setLc (o := false) (i := 4) (own := [("act", 9)]) (tg := (.one 9)) rfl sc_law_setting.nd rfl rfl (sw_true rfl rfl rfl (by decide +kernel)) (di_any (de_callG G_law_all_deeds (hr.mono (by decide)) T.g_law_all_deeds (da_cons (dv 1) (da_cons (dv 2) da_nil)))) (blkOk_by (own := [("act", 9)]) (N := N_law_setting) (sc := defScope s_law_setting) (by decide +kernel)) (by decide) (fun _ _ _ _ _ => (pg_name (i := 9) sc_law_setting.nd rfl (Or.inl rfl))) (fun _ _ _ _ _ => (dts_one (dt_cmp (op_inA (units5 hr)) od_in (dv 9) (dv 3) rfl))) (fun _ _ _ _ _ => (dv 9))) (dss_cons (ds_set (i := 5) sc_law_setting.nd rfl (Or.inl rfl) (de_bin op_addA (od_add (o := false)) de_int (de_callG G_law_draw (hr.mono (by decide)) T.g_law_draw (da_cons (dv 0) (da_cons de_int da_nil))))) (dss_cons (ds_set (i := 6) sc_law_setting.nd rfl (Or.inl rfl) (de_lst (o := true) da_nil)) (dss_cons (ds_for (tg := (.one 7)) PassesOwn.never rfl (di_range1 rfl T.n_range (da_cons (de_callG G_law_draw (hr.mono (by decide)) T.g_law_draw (da_cons (dv 0) (da_cons de_int da_nil))) da_nil)) (pg_name (i := 7) sc_law_setting.nd rfl (Or.inl rfl)) (dss_cons (ds_set (i := 8) sc_law_setting.nd rfl (Or.inl rfl) (de_bin op_addA (od_add (o := false)) de_int (de_callG G_law_draw (hr.mono (by decide)) T.g_law_draw (da_cons (dv 0) (da_cons de_int da_nil))))) (dss_one (ds_if (dt_cmp (op_notInA (units5 hr)) od_in (dv 8) (dv 6) rfl) (dss_one (ds_expr (de_bm PySem.F.plainAttrs_list PySem.F.slot_list_append PySem.F.type_list_append mt_append md_app (dv 6) (da_cons (dv 8) da_nil)))) dss_nil)))) (dss_one (ds_ret (de_fz (de_tup (da_cons (dv 1) (da_cons (dv 2) (da_cons (dv 4) (da_cons (dv 5) (da_cons (dv 6) da_nil)))))))))))))))))
def t_check_lot (K : PySem.W.Frag) : DS := (sSeq (sIf (dNot (eTru (eCB qIsi (aCons (eV 0) (aCons (eC (.raw (.ty "list"))) aNil))))) sNever sNext) (sFor (iR1 (aCons (eCB qLen (aCons (eV 0) aNil)) aNil)) (.one 1) (sSeq (sAsg (eBin qIx (eV 0) (eV 1)) 2) (sSeq (sIf (dOr (dNot (eTru (eCB qIsi (aCons (eV 2) (aCons (eC (.raw (.ty "int"))) aNil))))) (dOr (eTru (eCB qIsi (aCons (eV 2) (aCons (eC (.raw (.ty "bool"))) aNil)))) (eTest (eBin qLt (eV 2) (eC (.int 2)))))) sNever sNext) (sIf (eTest (eBin (qIn false) (eV 2) (eSl false (eV 0) oNone (oSome (eV 1))))) sNever sNext)))))
theorem d_check_lot (T : Txt K mg) : ∀ (cdv : Value) (A : Around) (outer : List Env) (s : Shared) (H : Hp) (E : XK) (B : Bs), Room 1 (A.deeper (envOfC "check_lot" (defScope s_check_lot) s.heap.objs.size (He.ga K "check_lot") cdv)) → PSs (cx0 P w K mg base N_check_lot "check_lot" (defScope s_check_lot) (He.ga K "check_lot") cdv A outer s H E) (defBody s_check_lot) (lS K B (t_check_lot K)) := by
  intro cdv A outer s H E B hr
  exact (dss_cons (ds_if (dt_not (dt_tru (de_callB call_isi cd_isi rfl T.n_isinstance bt_isinstance (da_cons (dv 0) (da_cons (de_ty rfl T.n_list bt_list) da_nil))))) (dss_one ds_never) dss_nil) (dss_one (ds_for (tg := (.one 1)) PassesOwn.never rfl (di_range1 rfl T.n_range (da_cons (de_callB call_lenA cd_len rfl T.n_len bt_len (da_cons (dv 0) da_nil)) da_nil)) (pg_name (i := 1) sc_check_lot.nd rfl (Or.inl rfl)) (dss_cons (ds_set (i := 2) sc_check_lot.nd rfl (Or.inl rfl) (de_ix (dv 0) (dv 1) (fun _ _ => rfl))) (dss_cons (ds_if (PW.pt (dw_or (dt_not (dt_tru (de_callB call_isi cd_isi rfl T.n_isinstance bt_isinstance (da_cons (dv 2) (da_cons (de_ty rfl T.n_int bt_int) da_nil))))) (dw_or (dt_tru (de_callB call_isi cd_isi rfl T.n_isinstance bt_isinstance (da_cons (dv 2) (da_cons (de_ty rfl T.n_bool bt_bool) da_nil)))) (dw_or1 (dt_cmp op_lt od_lt (dv 2) de_int (nomark _)))))) (dss_one ds_never) dss_nil) (dss_one (ds_if (dt_cmp (op_inA (units5 hr)) od_in (dv 2) (de_slice (o := false) (dv 0) do_none (do_some (dv 1))) rfl) (dss_one ds_never) dss_nil)))))))
def t_Ledger_init (K : PySem.W.Frag) : DS := (sSeq (sDrop (eCall (sp_check_lot K) (aCons (eV 2) aNil))) (sSeq (sFldD (He.ga K "Ledger") "own_kind" (eV 0) (eV 1)) (sSeq (sFldD (He.ga K "Ledger") "own_lot" (eV 0) (eCB (qList false) (aCons (eV 2) aNil))) (sFldD (He.ga K "Ledger") "history" (eV 0) (eLst true aNil)))))
theorem d_Ledger_init (T : Txt K mg) (G_check_lot : Good P w K mg base 2 (He.ga K "check_lot") ["lot"] (sp_check_lot K)) : ∀ (cdv : Value) (A : Around) (outer : List Env) (s : Shared) (H : Hp) (E : XK) (B : Bs), Room 4 (A.deeper (envOfC "Ledger.__init__" (defScope s_Ledger_init) s.heap.objs.size (He.ma K (He.ga K "Ledger") "__init__") cdv)) → PSs (cx0 P w K mg base N_Ledger_init "Ledger.__init__" (defScope s_Ledger_init) (He.ma K (He.ga K "Ledger") "__init__") cdv A outer s H E) (defBody s_Ledger_init) (lS K B (t_Ledger_init K)) := by
  intro cdv A outer s H E B hr
  exact (dss_cons (ds_expr (de_callG G_check_lot (hr.mono (by decide)) T.g_check_lot (da_cons (dv 2) da_nil))) (dss_cons (ds_fld T.c_Ledger T.na_Ledger_own_kind (dv 0) (dv 1)) (dss_cons (ds_fld T.c_Ledger T.na_Ledger_own_lot (dv 0) (de_callTy call_listA (cd_list (o := false)) rfl T.n_list bt_list (da_cons (dv 2) da_nil))) (dss_one (ds_fld T.c_Ledger T.na_Ledger_history (dv 0) (de_lst (o := true) da_nil))))))
def t_is_integer (K : PySem.W.Frag) : DS := (sRet (eAnd (eCB qIsi (aCons (eV 0) (aCons (eC (.raw (.ty "int"))) aNil))) (eNot (eCB qIsi (aCons (eV 0) (aCons (eC (.raw (.ty "bool"))) aNil))))))
theorem d_is_integer (T : Txt K mg) : ∀ (cdv : Value) (A : Around) (outer : List Env) (s : Shared) (H : Hp) (E : XK) (B : Bs), Room 1 (A.deeper (envOfC "is_integer" (defScope s_is_integer) s.heap.objs.size (He.ga K "is_integer") cdv)) → PSs (cx0 P w K mg base N_is_integer "is_integer" (defScope s_is_integer) (He.ga K "is_integer") cdv A outer s H E) (defBody s_is_integer) (lS K B (t_is_integer K)) := by
  intro cdv A outer s H E B hr
  exact (dss_one (ds_ret (de_and (de_callB call_isi cd_isi rfl T.n_isinstance bt_isinstance (da_cons (dv 0) (da_cons (de_ty rfl T.n_int bt_int) da_nil))) (de_one (de_not (de_callB call_isi cd_isi rfl T.n_isinstance bt_isinstance (da_cons (dv 0) (da_cons (de_ty rfl T.n_bool bt_bool) da_nil))))))))
def t_number_of_columns (K : PySem.W.Frag) : DS := (sSeq (sAsg (eC (.int 1)) 2) (sSeq (sFor (iR1 (aCons (eV 1) aNil)) (.one 3) (sAsg (eBin (qMul) (eV 2) (eV 0)) 2)) (sRet (eV 2))))
theorem d_number_of_columns (T : Txt K mg) : ∀ (cdv : Value) (A : Around) (outer : List Env) (s : Shared) (H : Hp) (E : XK) (B : Bs), Room 1 (A.deeper (envOfC "number_of_columns" (defScope s_number_of_columns) s.heap.objs.size (He.ga K "number_of_columns") cdv)) → PSs (cx0 P w K mg base N_number_of_columns "number_of_columns" (defScope s_number_of_columns) (He.ga K "number_of_columns") cdv A outer s H E) (defBody s_number_of_columns) (lS K B (t_number_of_columns K)) := by
  intro cdv A outer s H E B hr
  exact (dss_cons (ds_set (i := 2) sc_number_of_columns.nd rfl (Or.inl rfl) de_int) (dss_cons (ds_for (tg := (.one 3)) PassesOwn.never rfl (di_range1 rfl T.n_range (da_cons (dv 1) da_nil)) (pg_name (i := 3) sc_number_of_columns.nd rfl (Or.inl rfl)) (dss_one (ds_set (i := 2) sc_number_of_columns.nd rfl (Or.inl rfl) (de_bin op_mulA od_mul (dv 2) (dv 0))))) (dss_one (ds_ret (dv 2)))))
def t_is_deed (K : PySem.W.Frag) : DS := (sSeq (sIf (dOr (dNot (eTru (eCB qIsi (aCons (eV 0) (aCons (eC (.raw (.ty "tuple"))) aNil))))) (dOr (eTest (eBin qEq (eCB qLen (aCons (eV 0) aNil)) (eC (.int 0)))) (dNot (eTru (eCB qIsi (aCons (eBin qIx (eV 0) (eC (.int 0))) (aCons (eC (.raw (.ty "str"))) aNil))))))) (sRet (eC (.bl false))) sNext) (sSeq (sIf (dNot (eTru (eCB qAll (aCons (eLc false (iS (eSl false (eV 0) (oSome (eC (.int 1))) oNone)) (.one 4) dYes (eCall (sp_is_integer K) (aCons (eV 4) aNil)) [4]) aNil)))) (sRet (eC (.bl false))) sNext) (sSeq (sAsg (eBin qIx (eV 0) (eC (.int 0))) 3) (sSeq (sIf (eTest (eBin (qIn false) (eV 3) (eC (.tup [.str "forget", .str "again", .str "swap", .str "out", .str "twice"])))) (sRet (eBin qEq (eCB qLen (aCons (eV 0) aNil)) (eC (.int 1)))) sNext) (sSeq (sIf (eTest (eBin qEq (eV 3) (eC (.str "off")))) (sRet (eAnd (eBin qEq (eCB qLen (aCons (eV 0) aNil)) (eC (.int 2))) (eChain qLe qLt (eC (.int 1)) (eBin qIx (eV 0) (eC (.int 1))) (eV 1)))) sNext) (sSeq (sIf (eTest (eBin qEq (eV 3) (eC (.str "copy")))) (sRet (eAnd (eBin qEq (eCB qLen (aCons (eV 0) aNil)) (eC (.int 2))) (eChain qLe qLt (eC (.int 0)) (eBin qIx (eV 0) (eC (.int 1))) (eV 2)))) sNext) (sRet (eAnd (eBin qEq (eV 3) (eC (.str "read"))) (eAnd (eBin qEq (eCB qLen (aCons (eV 0) aNil)) (eC (.int 3))) (eAnd (eChain qLe qLt (eC (.int 0)) (eBin qIx (eV 0) (eC (.int 1))) (eV 2)) (eChain qLe qLt (eC (.int 1)) (eBin qIx (eV 0) (eC (.int 2))) (eV 1))))))))))))
theorem d_is_deed (T : Txt K mg) (G_is_integer : Good P w K mg base 2 (He.ga K "is_integer") ["value"] (sp_is_integer K)) : ∀ (cdv : Value) (A : Around) (outer : List Env) (s : Shared) (H : Hp) (E : XK) (B : Bs), Room 4 (A.deeper (envOfC "is_deed" (defScope s_is_deed) s.heap.objs.size (He.ga K "is_deed") cdv)) → PSs (cx0 P w K mg base N_is_deed "is_deed" (defScope s_is_deed) (He.ga K "is_deed") cdv A outer s H E) (defBody s_is_deed) (lS K B (t_is_deed K)) := by
  intro cdv A outer s H E B hr
  exact (dss_cons (ds_if (PW.pt (dw_or (dt_not (dt_tru (de_callB call_isi cd_isi rfl T.n_isinstance bt_isinstance (da_cons (dv 0) (da_cons (de_ty rfl T.n_tuple bt_tuple) da_nil))))) (dw_or (dt_cmp (op_eqD hr.units) od_eq (de_callB call_lenA cd_len rfl T.n_len bt_len (da_cons (dv 0) da_nil)) de_int (nomark _)) (dw_or1 (dt_not (dt_tru (de_callB call_isi cd_isi rfl T.n_isinstance bt_isinstance (da_cons (de_ix (dv 0) de_int (fun _ _ => rfl)) (da_cons (de_ty rfl T.n_str bt_str) da_nil))))))))) (dss_one (ds_ret de_bl)) dss_nil) (dss_cons (ds_if (dt_not (dt_tru (de_callB (cr_all rfl) cd_all rfl T.n_all bt_all (da_cons (de_lc (o := false) (own := [("part", 4)]) (tg := (.one 4)) rfl sc_is_deed.nd (di_any (de_slice (o := false) (dv 0) (do_some de_int) do_none)) (blkOk_by (own := [("part", 4)]) (N := N_is_deed) (sc := defScope s_is_deed) (by decide +kernel)) (by decide) (fun _ _ _ _ _ => (pg_name (i := 4) sc_is_deed.nd rfl (Or.inl rfl))) (fun _ _ _ _ _ => dts_nil) (fun _ _ _ _ _ => (de_callG G_is_integer (hr.mono (by decide)) T.g_is_integer (da_cons (dv 4) da_nil)))) da_nil)))) (dss_one (ds_ret de_bl)) dss_nil) (dss_cons (ds_set (i := 3) sc_is_deed.nd rfl (Or.inl rfl) (de_ix (dv 0) de_int (fun _ _ => rfl))) (dss_cons (ds_if (dt_cmp (op_inA (units5 hr)) od_in (dv 3) (de_tupG rfl T.g_PLAIN T.tg_PLAIN (fun _ => (.cons (.str _) (.cons (.str _) (.cons (.str _) (.cons (.str _) (.cons (.str _) .nil))))))) rfl) (dss_one (ds_ret (de_cmp (op_eqD hr.units) od_eq (de_callB call_lenA cd_len rfl T.n_len bt_len (da_cons (dv 0) da_nil)) de_int (nomark _)))) dss_nil) (dss_cons (ds_if (dt_cmp (op_eqD hr.units) od_eq (dv 3) de_str (nomark _)) (dss_one (ds_ret (de_and (de_cmp (op_eqD hr.units) od_eq (de_callB call_lenA cd_len rfl T.n_len bt_len (da_cons (dv 0) da_nil)) de_int (nomark _)) (de_one (de_chain op_le op_lt od_le od_lt de_int (de_ix (dv 0) de_int (fun _ _ => rfl)) (dv 1)))))) dss_nil) (dss_cons (ds_if (dt_cmp (op_eqD hr.units) od_eq (dv 3) de_str (nomark _)) (dss_one (ds_ret (de_and (de_cmp (op_eqD hr.units) od_eq (de_callB call_lenA cd_len rfl T.n_len bt_len (da_cons (dv 0) da_nil)) de_int (nomark _)) (de_one (de_chain op_le op_lt od_le od_lt de_int (de_ix (dv 0) de_int (fun _ _ => rfl)) (dv 2)))))) dss_nil) (dss_one (ds_ret (de_and (de_cmp (op_eqD hr.units) od_eq (dv 3) de_str (nomark _)) (de_and (de_cmp (op_eqD hr.units) od_eq (de_callB call_lenA cd_len rfl T.n_len bt_len (da_cons (dv 0) da_nil)) de_int (nomark _)) (de_and (de_chain op_le op_lt od_le od_lt de_int (de_ix (dv 0) de_int (fun _ _ => rfl)) (dv 2)) (de_one (de_chain op_le op_lt od_le od_lt de_int (de_ix (dv 0) de_int (fun _ _ => rfl)) (dv 1))))))))))))))
def t_all_deeds (K : PySem.W.Frag) : DS := (sSeq (sAsg (eLst false (aCons (eTup (aCons (eC (.str "forget")) aNil)) (aCons (eTup (aCons (eC (.str "again")) aNil)) aNil))) 2) (sSeq (sAsg (eBin (qAdd false) (eV 2) (eLc false (iR2 (aCons (eC (.int 1)) (aCons (eV 0) aNil))) (.one 3) dYes (eTup (aCons (eC (.str "off")) (aCons (eV 3) aNil))) [3])) 2) (sSeq (sAsg (eBin (qAdd false) (eV 2) (eLc2 false (iR1 (aCons (eV 1) aNil)) (.one 4) dYes (iR2 (aCons (eC (.int 1)) (aCons (eV 0) aNil))) (.one 3) dYes (eTup (aCons (eC (.str "read")) (aCons (eV 4) (aCons (eV 3) aNil)))) [4, 3] [3])) 2) (sSeq (sAsg (eBin (qAdd false) (eV 2) (eLc false (iR1 (aCons (eV 1) aNil)) (.one 4) dYes (eTup (aCons (eC (.str "copy")) (aCons (eV 4) aNil))) [4])) 2) (sRet (eBin (qAdd false) (eV 2) (eLst false (aCons (eTup (aCons (eC (.str "swap")) aNil)) (aCons (eTup (aCons (eC (.str "out")) aNil)) (aCons (eTup (aCons (eC (.str "twice")) aNil)) aNil))))))))))
theorem d_all_deeds (T : Txt K mg) : ∀ (cdv : Value) (A : Around) (outer : List Env) (s : Shared) (H : Hp) (E : XK) (B : Bs), Room 1 (A.deeper (envOfC "all_deeds" (defScope s_all_deeds) s.heap.objs.size (He.ga K "all_deeds") cdv)) → PSs (cx0 P w K mg base N_all_deeds "all_deeds" (defScope s_all_deeds) (He.ga K "all_deeds") cdv A outer s H E) (defBody s_all_deeds) (lS K B (t_all_deeds K)) := by
  intro cdv A outer s H E B hr
  exact (dss_cons (ds_set (i := 2) sc_all_deeds.nd rfl (Or.inl rfl) (de_lst (o := false) (da_cons (de_tup (da_cons de_str da_nil)) (da_cons (de_tup (da_cons de_str da_nil)) da_nil)))) (dss_cons (ds_set (i := 2) sc_all_deeds.nd rfl (Or.inl rfl) (de_bin op_addA (od_add (o := false)) (dv 2) (de_lc (o := false) (own := [("d", 3)]) (tg := (.one 3)) rfl sc_all_deeds.nd (di_range2 rfl T.n_range (da_cons de_int (da_cons (dv 0) da_nil))) (blkOk_by (own := [("d", 3)]) (N := N_all_deeds) (sc := defScope s_all_deeds) (by decide +kernel)) (by decide) (fun _ _ _ _ _ => (pg_name (i := 3) sc_all_deeds.nd rfl (Or.inl rfl))) (fun _ _ _ _ _ => dts_nil) (fun _ _ _ _ _ => (de_tup (da_cons de_str (da_cons (dv 3) da_nil))))))) (dss_cons (ds_set (i := 2) sc_all_deeds.nd rfl (Or.inl rfl) (de_bin op_addA (od_add (o := false)) (dv 2) (de_lc2 (o := false) (own := [("j", 4), ("d", 3)]) (tg := (.one 4)) (tg1 := (.one 3)) (vs1 := [3]) rfl sc_all_deeds.nd (di_range1 rfl T.n_range (da_cons (dv 1) da_nil)) (blkOk_by (own := [("j", 4), ("d", 3)]) (N := N_all_deeds) (sc := defScope s_all_deeds) (by decide +kernel)) (by decide) (by decide) (by decide) (fun _ _ _ _ _ => (pg_name (i := 4) sc_all_deeds.nd rfl (Or.inl rfl))) (fun _ _ _ _ _ => dts_nil) (fun _ _ _ _ _ => (di_range2 rfl T.n_range (da_cons de_int (da_cons (dv 0) da_nil)))) (fun _ _ _ _ _ => (pg_name (i := 3) sc_all_deeds.nd rfl (Or.inl rfl))) (fun _ _ _ _ _ => dts_nil) (fun _ _ _ _ _ => (de_tup (da_cons de_str (da_cons (dv 4) (da_cons (dv 3) da_nil)))))))) (dss_cons (ds_set (i := 2) sc_all_deeds.nd rfl (Or.inl rfl) (de_bin op_addA (od_add (o := false)) (dv 2) (de_lc (o := false) (own := [("j", 4)]) (tg := (.one 4)) rfl sc_all_deeds.nd (di_range1 rfl T.n_range (da_cons (dv 1) da_nil)) (blkOk_by (own := [("j", 4)]) (N := N_all_deeds) (sc := defScope s_all_deeds) (by decide +kernel)) (by decide) (fun _ _ _ _ _ => (pg_name (i := 4) sc_all_deeds.nd rfl (Or.inl rfl))) (fun _ _ _ _ _ => dts_nil) (fun _ _ _ _ _ => (de_tup (da_cons de_str (da_cons (dv 4) da_nil))))))) (dss_one (ds_ret (de_bin op_addA (od_add (o := false)) (dv 2) (de_lst (o := false) (da_cons (de_tup (da_cons de_str da_nil)) (da_cons (de_tup (da_cons de_str da_nil)) (da_cons (de_tup (da_cons de_str da_nil)) da_nil)))))))))))
def t_Kind_init (K : PySem.W.Frag) : DS := (sSeq (sIf (dOr (dNot (eTru (eCall (sp_is_integer K) (aCons (eV 1) aNil)))) (dNot (eTest (eChain qLe qLe (eC (.int 2)) (eV 1) (eC (.int 12)))))) sNever sNext) (sSeq (sIf (dOr (dNot (eTru (eCall (sp_is_integer K) (aCons (eV 2) aNil)))) (dNot (eTest (eChain qLe qLe (eC (.int 1)) (eV 2) (eC (.int 4)))))) sNever sNext) (sSeq (sIf (eTest (eBin qGt (eCall (sp_number_of_columns K) (aCons (eV 1) (aCons (eV 2) aNil))) (eC (.int 1000)))) sNever sNext) (sSeq (sIf (dOr (dNot (eTru (eCB qIsi (aCons (eV 3) (aCons (eC (.raw (.ty "list"))) aNil))))) (dNot (eTru (eCB qAll (aCons (eLc false (iS (eV 3)) (.one 6) dYes (eCall (sp_is_deed K) (aCons (eV 6) (aCons (eV 1) (aCons (eV 2) aNil)))) [6]) aNil))))) sNever sNext) (sSeq (sAsg (eLc false (iS (eCall (sp_all_deeds K) (aCons (eV 1) (aCons (eV 2) aNil)))) (.one 6) (eTest (eBin (qIn false) (eV 6) (eV 3))) (eV 6) [6]) 5) (sSeq (sIf (dOr (eTest (eBin qNe (eCB qLen (aCons (eV 5) aNil)) (eCB qLen (aCons (eV 3) aNil)))) (dNot (eTest (eChain qLe qLe (eC (.int 1)) (eCB qLen (aCons (eV 5) aNil)) (eC (.int 8)))))) sNever sNext) (sSeq (sIf (dOr (dNot (eTru (eCall (sp_is_integer K) (aCons (eV 4) aNil)))) (dNot (eTest (eChain qLe qLe (eC (.int 1)) (eV 4) (eC (.int 3)))))) sNever sNext) (sSeq (sFldD (He.ga K "Kind") "held_base" (eV 0) (eV 1)) (sSeq (sFldD (He.ga K "Kind") "held_rows" (eV 0) (eV 2)) (sSeq (sFldD (He.ga K "Kind") "held_deeds" (eV 0) (eV 5)) (sFldD (He.ga K "Kind") "held_most" (eV 0) (eV 4))))))))))))
theorem d_Kind_init (T : Txt K mg) (G_is_integer : Good P w K mg base 2 (He.ga K "is_integer") ["value"] (sp_is_integer K)) (G_number_of_columns : Good P w K mg base 2 (He.ga K "number_of_columns") ["base", "rows"] (sp_number_of_columns K)) (G_is_deed : Good P w K mg base 5 (He.ga K "is_deed") ["value", "base", "rows"] (sp_is_deed K)) (G_all_deeds : Good P w K mg base 2 (He.ga K "all_deeds") ["base", "rows"] (sp_all_deeds K)) : ∀ (cdv : Value) (A : Around) (outer : List Env) (s : Shared) (H : Hp) (E : XK) (B : Bs), Room 7 (A.deeper (envOfC "Kind.__init__" (defScope s_Kind_init) s.heap.objs.size (He.ma K (He.ga K "Kind") "__init__") cdv)) → PSs (cx0 P w K mg base N_Kind_init "Kind.__init__" (defScope s_Kind_init) (He.ma K (He.ga K "Kind") "__init__") cdv A outer s H E) (defBody s_Kind_init) (lS K B (t_Kind_init K)) := by
  intro cdv A outer s H E B hr
  exact (dss_cons (ds_if (PW.pt (dw_or (dt_not (dt_tru (de_callG G_is_integer (hr.mono (by decide)) T.g_is_integer (da_cons (dv 1) da_nil)))) (dw_or1 (dt_not (dt_chain op_le op_le od_le od_le de_int (dv 1) de_int))))) (dss_one ds_never) dss_nil) (dss_cons (ds_if (PW.pt (dw_or (dt_not (dt_tru (de_callG G_is_integer (hr.mono (by decide)) T.g_is_integer (da_cons (dv 2) da_nil)))) (dw_or1 (dt_not (dt_chain op_le op_le od_le od_le de_int (dv 2) de_int))))) (dss_one ds_never) dss_nil) (dss_cons (ds_if (dt_cmp op_gt od_gt (de_callG G_number_of_columns (hr.mono (by decide)) T.g_number_of_columns (da_cons (dv 1) (da_cons (dv 2) da_nil))) (de_intG rfl T.ig_MOST_COLUMNS) (nomark _)) (dss_one ds_never) dss_nil) (dss_cons (ds_if (PW.pt (dw_or (dt_not (dt_tru (de_callB call_isi cd_isi rfl T.n_isinstance bt_isinstance (da_cons (dv 3) (da_cons (de_ty rfl T.n_list bt_list) da_nil))))) (dw_or1 (dt_not (dt_tru (de_callB (cr_all rfl) cd_all rfl T.n_all bt_all (da_cons (de_lc (o := false) (own := [("deed", 6)]) (tg := (.one 6)) rfl sc_Kind_init.nd (di_any (dv 3)) (blkOk_by (own := [("deed", 6)]) (N := N_Kind_init) (sc := defScope s_Kind_init) (by decide +kernel)) (by decide) (fun _ _ _ _ _ => (pg_name (i := 6) sc_Kind_init.nd rfl (Or.inl rfl))) (fun _ _ _ _ _ => dts_nil) (fun _ _ _ _ _ => (de_callG G_is_deed (hr.mono (by decide)) T.g_is_deed (da_cons (dv 6) (da_cons (dv 1) (da_cons (dv 2) da_nil)))))) da_nil))))))) (dss_one ds_never) dss_nil) (dss_cons (ds_setLc (o := false) (i := 5) (own := [("deed", 6)]) (tg := (.one 6)) rfl sc_Kind_init.nd rfl rfl (sw_true rfl rfl rfl (by decide +kernel)) (di_any (de_callG G_all_deeds (hr.mono (by decide)) T.g_all_deeds (da_cons (dv 1) (da_cons (dv 2) da_nil)))) (blkOk_by (own := [("deed", 6)]) (N := N_Kind_init) (sc := defScope s_Kind_init) (by decide +kernel)) (by decide) (fun _ _ _ _ _ => (pg_name (i := 6) sc_Kind_init.nd rfl (Or.inl rfl))) (fun _ _ _ _ _ => (dts_one (dt_cmp (op_inA (units5 hr)) od_in (dv 6) (dv 3) rfl))) (fun _ _ _ _ _ => (dv 6))) (dss_cons (ds_if (PW.pt (dw_or (dt_cmp (op_neD hr.units) od_ne (de_callB call_lenA cd_len rfl T.n_len bt_len (da_cons (dv 5) da_nil)) (de_callB call_lenA cd_len rfl T.n_len bt_len (da_cons (dv 3) da_nil)) (nomark _)) (dw_or1 (dt_not (dt_chain op_le op_le od_le od_le de_int (de_callB call_lenA cd_len rfl T.n_len bt_len (da_cons (dv 5) da_nil)) (de_intG rfl T.ig_MOST_DEEDS)))))) (dss_one ds_never) dss_nil) (dss_cons (ds_if (PW.pt (dw_or (dt_not (dt_tru (de_callG G_is_integer (hr.mono (by decide)) T.g_is_integer (da_cons (dv 4) da_nil)))) (dw_or1 (dt_not (dt_chain op_le op_le od_le od_le de_int (dv 4) de_int))))) (dss_one ds_never) dss_nil) (dss_cons (ds_fld T.c_Kind T.na_Kind_held_base (dv 0) (dv 1)) (dss_cons (ds_fld T.c_Kind T.na_Kind_held_rows (dv 0) (dv 2)) (dss_cons (ds_fld T.c_Kind T.na_Kind_held_deeds (dv 0) (dv 5)) (dss_one (ds_fld T.c_Kind T.na_Kind_held_most (dv 0) (dv 4)))))))))))))
def t_Kind_alike (K : PySem.W.Frag) : DS := (sRet (eAnd (eBin qEq (eFld (He.ga K "Kind") "held_base" (eV 0)) (eFld (He.ga K "Kind") "held_base" (eV 1))) (eBin qEq (eFld (He.ga K "Kind") "held_rows" (eV 0)) (eFld (He.ga K "Kind") "held_rows" (eV 1)))))
theorem d_Kind_alike (T : Txt K mg) : ∀ (cdv : Value) (A : Around) (outer : List Env) (s : Shared) (H : Hp) (E : XK) (B : Bs), Room 1 (A.deeper (envOfC "Kind.alike" (defScope s_Kind_alike) s.heap.objs.size (He.ma K (He.ga K "Kind") "alike") cdv)) → PSs (cx0 P w K mg base N_Kind_alike "Kind.alike" (defScope s_Kind_alike) (He.ma K (He.ga K "Kind") "alike") cdv A outer s H E) (defBody s_Kind_alike) (lS K B (t_Kind_alike K)) := by
  intro cdv A outer s H E B hr
  exact (dss_one (ds_ret (de_and (de_cmp (op_eqD hr.units) od_eq (de_fld T.c_Kind T.na_Kind_held_base (dv 0)) (de_fld T.c_Kind T.na_Kind_held_base (dv 1)) (nomark _)) (de_one (de_cmp (op_eqD hr.units) od_eq (de_fld T.c_Kind T.na_Kind_held_rows (dv 0)) (de_fld T.c_Kind T.na_Kind_held_rows (dv 1)) (nomark _))))))
def t_Kind_or (K : PySem.W.Frag) : DS := (sSeq (sIf (dNot (eTru (eMeth (He.ga K "Kind") "alike" (sp_Kind_alike K) (eV 0) (aCons (eV 1) aNil)))) sNever sNext) (sSeq (sAsg (eBin (qAdd false) (eFld (He.ga K "Kind") "held_deeds" (eV 0)) (eLc false (iS (eFld (He.ga K "Kind") "held_deeds" (eV 1))) (.one 4) (eTest (eBin (qIn true) (eV 4) (eFld (He.ga K "Kind") "held_deeds" (eV 0)))) (eV 4) [4])) 2) (sSeq (sIf (eTest (eBin qGt (eCB qLen (aCons (eV 2) aNil)) (eC (.int 8)))) sNever sNext) (sSeq (sAsg (eFld (He.ga K "Kind") "held_most" (eV 0)) 3) (sSeq (sIf (eTest (eBin qGt (eFld (He.ga K "Kind") "held_most" (eV 1)) (eV 3))) (sAsg (eFld (He.ga K "Kind") "held_most" (eV 1)) 3) sNext) (sRet (eMake (He.ga K "Kind") (sp_Kind_init K) (aCons (eFld (He.ga K "Kind") "held_base" (eV 0)) (aCons (eFld (He.ga K "Kind") "held_rows" (eV 0)) (aCons (eV 2) (aCons (eV 3) aNil)))))))))))
theorem d_Kind_or (T : Txt K mg) (G_Kind_alike : Good P w K mg base 2 (He.ma K (He.ga K "Kind") "alike") ["self", "other"] (sp_Kind_alike K)) (G_Kind_init : Good P w K mg base 8 (He.ma K (He.ga K "Kind") "__init__") ["self", "base", "rows", "deeds", "most"] (sp_Kind_init K)) : ∀ (cdv : Value) (A : Around) (outer : List Env) (s : Shared) (H : Hp) (E : XK) (B : Bs), Room 10 (A.deeper (envOfC "Kind.__or__" (defScope s_Kind_or) s.heap.objs.size (He.ma K (He.ga K "Kind") "__or__") cdv)) → PSs (cx0 P w K mg base N_Kind_or "Kind.__or__" (defScope s_Kind_or) (He.ma K (He.ga K "Kind") "__or__") cdv A outer s H E) (defBody s_Kind_or) (lS K B (t_Kind_or K)) := by
  intro cdv A outer s H E B hr
  exact (dss_cons (ds_if (dt_not (dt_tru (de_methG G_Kind_alike (hr.mono (by decide)) T.c_Kind T.m_Kind_alike (dv 0) (da_cons (dv 1) da_nil)))) (dss_one ds_never) dss_nil) (dss_cons (ds_set (i := 2) sc_Kind_or.nd rfl (Or.inl rfl) (de_bin op_addA (od_add (o := false)) (de_fld T.c_Kind T.na_Kind_held_deeds (dv 0)) (de_lc (o := false) (own := [("deed", 4)]) (tg := (.one 4)) rfl sc_Kind_or.nd (di_any (de_fld T.c_Kind T.na_Kind_held_deeds (dv 1))) (blkOk_by (own := [("deed", 4)]) (N := N_Kind_or) (sc := defScope s_Kind_or) (by decide +kernel)) (by decide) (fun _ _ _ _ _ => (pg_name (i := 4) sc_Kind_or.nd rfl (Or.inl rfl))) (fun _ _ _ _ _ => (dts_one (dt_cmp (op_notInA (units5 hr)) od_in (dv 4) (de_fld T.c_Kind T.na_Kind_held_deeds (dv 0)) rfl))) (fun _ _ _ _ _ => (dv 4))))) (dss_cons (ds_if (dt_cmp op_gt od_gt (de_callB call_lenA cd_len rfl T.n_len bt_len (da_cons (dv 2) da_nil)) (de_intG rfl T.ig_MOST_DEEDS) (nomark _)) (dss_one ds_never) dss_nil) (dss_cons (ds_set (i := 3) sc_Kind_or.nd rfl (Or.inl rfl) (de_fld T.c_Kind T.na_Kind_held_most (dv 0))) (dss_cons (ds_if (dt_cmp op_gt od_gt (de_fld T.c_Kind T.na_Kind_held_most (dv 1)) (dv 3) (nomark _)) (dss_one (ds_set (i := 3) sc_Kind_or.nd rfl (Or.inl rfl) (de_fld T.c_Kind T.na_Kind_held_most (dv 1)))) dss_nil) (dss_one (ds_ret (de_makeG G_Kind_init (hr.mono (by decide)) T.mk_Kind T.g_Kind (da_cons (de_fld T.c_Kind T.na_Kind_held_base (dv 0)) (da_cons (de_fld T.c_Kind T.na_Kind_held_rows (dv 0)) (da_cons (dv 2) (da_cons (dv 3) da_nil))))))))))))
def t_Kind_and (K : PySem.W.Frag) : DS := (sSeq (sIf (dNot (eTru (eMeth (He.ga K "Kind") "alike" (sp_Kind_alike K) (eV 0) (aCons (eV 1) aNil)))) sNever sNext) (sSeq (sAsg (eLc false (iS (eFld (He.ga K "Kind") "held_deeds" (eV 0))) (.one 4) (eTest (eBin (qIn false) (eV 4) (eFld (He.ga K "Kind") "held_deeds" (eV 1)))) (eV 4) [4]) 2) (sSeq (sIf (eTest (eBin qEq (eCB qLen (aCons (eV 2) aNil)) (eC (.int 0)))) sNever sNext) (sSeq (sAsg (eFld (He.ga K "Kind") "held_most" (eV 0)) 3) (sSeq (sIf (eTest (eBin qLt (eFld (He.ga K "Kind") "held_most" (eV 1)) (eV 3))) (sAsg (eFld (He.ga K "Kind") "held_most" (eV 1)) 3) sNext) (sRet (eMake (He.ga K "Kind") (sp_Kind_init K) (aCons (eFld (He.ga K "Kind") "held_base" (eV 0)) (aCons (eFld (He.ga K "Kind") "held_rows" (eV 0)) (aCons (eV 2) (aCons (eV 3) aNil)))))))))))
theorem d_Kind_and (T : Txt K mg) (G_Kind_alike : Good P w K mg base 2 (He.ma K (He.ga K "Kind") "alike") ["self", "other"] (sp_Kind_alike K)) (G_Kind_init : Good P w K mg base 8 (He.ma K (He.ga K "Kind") "__init__") ["self", "base", "rows", "deeds", "most"] (sp_Kind_init K)) : ∀ (cdv : Value) (A : Around) (outer : List Env) (s : Shared) (H : Hp) (E : XK) (B : Bs), Room 10 (A.deeper (envOfC "Kind.__and__" (defScope s_Kind_and) s.heap.objs.size (He.ma K (He.ga K "Kind") "__and__") cdv)) → PSs (cx0 P w K mg base N_Kind_and "Kind.__and__" (defScope s_Kind_and) (He.ma K (He.ga K "Kind") "__and__") cdv A outer s H E) (defBody s_Kind_and) (lS K B (t_Kind_and K)) := by
  intro cdv A outer s H E B hr
  exact (dss_cons (ds_if (dt_not (dt_tru (de_methG G_Kind_alike (hr.mono (by decide)) T.c_Kind T.m_Kind_alike (dv 0) (da_cons (dv 1) da_nil)))) (dss_one ds_never) dss_nil) (dss_cons (ds_setLc (o := false) (i := 2) (own := [("deed", 4)]) (tg := (.one 4)) rfl sc_Kind_and.nd rfl rfl (sw_true rfl rfl rfl (by decide +kernel)) (di_any (de_fld T.c_Kind T.na_Kind_held_deeds (dv 0))) (blkOk_by (own := [("deed", 4)]) (N := N_Kind_and) (sc := defScope s_Kind_and) (by decide +kernel)) (by decide) (fun _ _ _ _ _ => (pg_name (i := 4) sc_Kind_and.nd rfl (Or.inl rfl))) (fun _ _ _ _ _ => (dts_one (dt_cmp (op_inA (units5 hr)) od_in (dv 4) (de_fld T.c_Kind T.na_Kind_held_deeds (dv 1)) rfl))) (fun _ _ _ _ _ => (dv 4))) (dss_cons (ds_if (dt_cmp (op_eqD hr.units) od_eq (de_callB call_lenA cd_len rfl T.n_len bt_len (da_cons (dv 2) da_nil)) de_int (nomark _)) (dss_one ds_never) dss_nil) (dss_cons (ds_set (i := 3) sc_Kind_and.nd rfl (Or.inl rfl) (de_fld T.c_Kind T.na_Kind_held_most (dv 0))) (dss_cons (ds_if (dt_cmp op_lt od_lt (de_fld T.c_Kind T.na_Kind_held_most (dv 1)) (dv 3) (nomark _)) (dss_one (ds_set (i := 3) sc_Kind_and.nd rfl (Or.inl rfl) (de_fld T.c_Kind T.na_Kind_held_most (dv 1)))) dss_nil) (dss_one (ds_ret (de_makeG G_Kind_init (hr.mono (by decide)) T.mk_Kind T.g_Kind (da_cons (de_fld T.c_Kind T.na_Kind_held_base (dv 0)) (da_cons (de_fld T.c_Kind T.na_Kind_held_rows (dv 0)) (da_cons (dv 2) (da_cons (dv 3) da_nil))))))))))))
def t_law_made (K : PySem.W.Frag) : DS := (sSeq (sAsg (eCall (sp_law_draw K) (aCons (eV 0) (aCons (eC (.int 3)) aNil))) 5) (sSeq (sAsg (eBin (qAdd false) (eC (.int 1)) (eCall (sp_law_draw K) (aCons (eV 0) (aCons (eCB qLen (aCons (eV 3) aNil)) aNil)))) 6) (sSeq (sIf (eTest (eBin qEq (eV 5) (eC (.int 1)))) (sRet (eBin (qTwo (He.ga K "Kind") (He.ga K "Kind") (sp_Kind_or K)) (eMake (He.ga K "Kind") (sp_Kind_init K) (aCons (eV 1) (aCons (eV 2) (aCons (eSl false (eV 3) oNone (oSome (eV 6))) (aCons (eC (.int 1)) aNil))))) (eMake (He.ga K "Kind") (sp_Kind_init K) (aCons (eV 1) (aCons (eV 2) (aCons (eSl false (eV 3) (oSome (eBin (qSub) (eV 6) (eC (.int 1)))) oNone) (aCons (eV 4) aNil))))))) sNext) (sSeq (sIf (dAnd (eTest (eBin qEq (eV 5) (eC (.int 2)))) (eTest (eBin qLt (eCB qLen (aCons (eV 3) aNil)) (eC (.int 8))))) (sSeq (sAsg (eLc false (iS (eCall (sp_law_all_deeds K) (aCons (eV 1) (aCons (eV 2) aNil)))) (.one 8) (eTest (eBin (qIn true) (eV 8) (eV 3))) (eV 8) [8]) 7) (sRet (eBin (qTwo (He.ga K "Kind") (He.ga K "Kind") (sp_Kind_and K)) (eMake (He.ga K "Kind") (sp_Kind_init K) (aCons (eV 1) (aCons (eV 2) (aCons (eBin (qAdd false) (eV 3) (eSl false (eV 7) oNone (oSome (eC (.int 1))))) (aCons (eC (.int 3)) aNil))))) (eMake (He.ga K "Kind") (sp_Kind_init K) (aCons (eV 1) (aCons (eV 2) (aCons (eBin (qAdd false) (eSl false (eV 7) (oSome (eC (.int 1))) (oSome (eC (.int 2)))) (eV 3)) (aCons (eV 4) aNil)))))))) sNext) (sRet (eMake (He.ga K "Kind") (sp_Kind_init K) (aCons (eV 1) (aCons (eV 2) (aCons (eCB (qList false) (aCons (eV 3) aNil)) (aCons (eV 4) aNil))))))))))
theorem d_law_made (T : Txt K mg) (G_law_draw : Good P w K mg base 2 (He.ga K "_law_draw") ["pool", "many"] (sp_law_draw K)) (G_Kind_init : Good P w K mg base 8 (He.ma K (He.ga K "Kind") "__init__") ["self", "base", "rows", "deeds", "most"] (sp_Kind_init K)) (G_Kind_or : Good P w K mg base 11 (He.ma K (He.ga K "Kind") "__or__") ["self", "other"] (sp_Kind_or K)) (G_law_all_deeds : Good P w K mg base 2 (He.ga K "_law_all_deeds") ["base", "rows"] (sp_law_all_deeds K)) (G_Kind_and : Good P w K mg base 11 (He.ma K (He.ga K "Kind") "__and__") ["self", "other"] (sp_Kind_and K)) : ∀ (cdv : Value) (A : Around) (outer : List Env) (s : Shared) (H : Hp) (E : XK) (B : Bs), Room 13 (A.deeper (envOfC "_law_made" (defScope s_law_made) s.heap.objs.size (He.ga K "_law_made") cdv)) → PSs (cx0 P w K mg base N_law_made "_law_made" (defScope s_law_made) (He.ga K "_law_made") cdv A outer s H E) (defBody s_law_made) (lS K B (t_law_made K)) := by
  intro cdv A outer s H E B hr
  exact (dss_cons (ds_set (i := 5) sc_law_made.nd rfl (Or.inl rfl) (de_callG G_law_draw (hr.mono (by decide)) T.g_law_draw (da_cons (dv 0) (da_cons de_int da_nil)))) (dss_cons (ds_set (i := 6) sc_law_made.nd rfl (Or.inl rfl) (de_bin op_addA (od_add (o := false)) de_int (de_callG G_law_draw (hr.mono (by decide)) T.g_law_draw (da_cons (dv 0) (da_cons (de_callB call_lenA cd_len rfl T.n_len bt_len (da_cons (dv 3) da_nil)) da_nil))))) (dss_cons (ds_if (dt_cmp (op_eqD hr.units) od_eq (dv 5) de_int (nomark _)) (dss_one (ds_ret (de_bin (op_binO G_Kind_or (hr.mono (by decide)) T.sm_Kind_or T.sf_Kind) od_two (de_makeG G_Kind_init (hr.mono (by decide)) T.mk_Kind T.g_Kind (da_cons (dv 1) (da_cons (dv 2) (da_cons (de_slice (o := false) (dv 3) do_none (do_some (dv 6))) (da_cons de_int da_nil))))) (de_makeG G_Kind_init (hr.mono (by decide)) T.mk_Kind T.g_Kind (da_cons (dv 1) (da_cons (dv 2) (da_cons (de_slice (o := false) (dv 3) (do_some (de_bin op_sub od_sub (dv 6) de_int)) do_none) (da_cons (dv 4) da_nil)))))))) dss_nil) (dss_cons (ds_if (PW.pt (dw_and (dt_cmp (op_eqD hr.units) od_eq (dv 5) de_int (nomark _)) (dw_and1 (dt_cmp op_lt od_lt (de_callB call_lenA cd_len rfl T.n_len bt_len (da_cons (dv 3) da_nil)) de_int (nomark _))))) (dss_cons (ds_setLc (o := false) (i := 7) (own := [("act", 8)]) (tg := (.one 8)) rfl sc_law_made.nd rfl rfl (sw_true rfl rfl rfl (by decide +kernel)) (di_any (de_callG G_law_all_deeds (hr.mono (by decide)) T.g_law_all_deeds (da_cons (dv 1) (da_cons (dv 2) da_nil)))) (blkOk_by (own := [("act", 8)]) (N := N_law_made) (sc := defScope s_law_made) (by decide +kernel)) (by decide) (fun _ _ _ _ _ => (pg_name (i := 8) sc_law_made.nd rfl (Or.inl rfl))) (fun _ _ _ _ _ => (dts_one (dt_cmp (op_notInA (units5 hr)) od_in (dv 8) (dv 3) rfl))) (fun _ _ _ _ _ => (dv 8))) (dss_one (ds_ret (de_bin (op_binO G_Kind_and (hr.mono (by decide)) T.sm_Kind_and T.sf_Kind) od_two (de_makeG G_Kind_init (hr.mono (by decide)) T.mk_Kind T.g_Kind (da_cons (dv 1) (da_cons (dv 2) (da_cons (de_bin op_addA (od_add (o := false)) (dv 3) (de_slice (o := false) (dv 7) do_none (do_some de_int))) (da_cons de_int da_nil))))) (de_makeG G_Kind_init (hr.mono (by decide)) T.mk_Kind T.g_Kind (da_cons (dv 1) (da_cons (dv 2) (da_cons (de_bin op_addA (od_add (o := false)) (de_slice (o := false) (dv 7) (do_some de_int) (do_some de_int)) (dv 3)) (da_cons (dv 4) da_nil))))))))) dss_nil) (dss_one (ds_ret (de_makeG G_Kind_init (hr.mono (by decide)) T.mk_Kind T.g_Kind (da_cons (dv 1) (da_cons (dv 2) (da_cons (de_callTy call_listA (cd_list (o := false)) rfl T.n_list bt_list (da_cons (dv 3) da_nil)) (da_cons (dv 4) da_nil)))))))))))
def t_is_column (K : PySem.W.Frag) : DS := (sSeq (sIf (dOr (dNot (eTru (eCB qIsi (aCons (eV 0) (aCons (eC (.raw (.ty "tuple"))) aNil))))) (eTest (eBin qNe (eCB qLen (aCons (eV 0) aNil)) (eV 2)))) (sRet (eC (.bl false))) sNext) (sRet (eCB qAll (aCons (eLc false (iS (eV 0)) (.one 3) dYes (eAnd (eCall (sp_is_integer K) (aCons (eV 3) aNil)) (eChain qLe qLt (eC (.int 0)) (eV 3) (eV 1))) [3]) aNil))))
theorem d_is_column (T : Txt K mg) (G_is_integer : Good P w K mg base 2 (He.ga K "is_integer") ["value"] (sp_is_integer K)) : ∀ (cdv : Value) (A : Around) (outer : List Env) (s : Shared) (H : Hp) (E : XK) (B : Bs), Room 4 (A.deeper (envOfC "is_column" (defScope s_is_column) s.heap.objs.size (He.ga K "is_column") cdv)) → PSs (cx0 P w K mg base N_is_column "is_column" (defScope s_is_column) (He.ga K "is_column") cdv A outer s H E) (defBody s_is_column) (lS K B (t_is_column K)) := by
  intro cdv A outer s H E B hr
  exact (dss_cons (ds_if (PW.pt (dw_or (dt_not (dt_tru (de_callB call_isi cd_isi rfl T.n_isinstance bt_isinstance (da_cons (dv 0) (da_cons (de_ty rfl T.n_tuple bt_tuple) da_nil))))) (dw_or1 (dt_cmp (op_neD hr.units) od_ne (de_callB call_lenA cd_len rfl T.n_len bt_len (da_cons (dv 0) da_nil)) (dv 2) (nomark _))))) (dss_one (ds_ret de_bl)) dss_nil) (dss_one (ds_ret (de_callB (cr_all rfl) cd_all rfl T.n_all bt_all (da_cons (de_lc (o := false) (own := [("figure", 3)]) (tg := (.one 3)) rfl sc_is_column.nd (di_any (dv 0)) (blkOk_by (own := [("figure", 3)]) (N := N_is_column) (sc := defScope s_is_column) (by decide +kernel)) (by decide) (fun _ _ _ _ _ => (pg_name (i := 3) sc_is_column.nd rfl (Or.inl rfl))) (fun _ _ _ _ _ => dts_nil) (fun _ _ _ _ _ => (de_and (de_callG G_is_integer (hr.mono (by decide)) T.g_is_integer (da_cons (dv 3) da_nil)) (de_one (de_chain op_le op_lt od_le od_lt de_int (dv 3) (dv 1)))))) da_nil)))))
def t_Sheet_init (K : PySem.W.Frag) : DS := (sSeq (sIf (dOr (dNot (eTru (eCall (sp_is_integer K) (aCons (eV 1) aNil)))) (dNot (eTest (eChain qLe qLe (eC (.int 2)) (eV 1) (eC (.int 12)))))) sNever sNext) (sSeq (sIf (dOr (dNot (eTru (eCall (sp_is_integer K) (aCons (eV 2) aNil)))) (dNot (eTest (eChain qLe qLe (eC (.int 1)) (eV 2) (eC (.int 4)))))) sNever sNext) (sSeq (sIf (dOr (dNot (eTru (eCB qIsi (aCons (eV 3) (aCons (eC (.raw (.ty "list"))) aNil))))) (dNot (eTru (eCB qAll (aCons (eLc false (iS (eV 3)) (.one 4) dYes (eCall (sp_is_column K) (aCons (eV 4) (aCons (eV 1) (aCons (eV 2) aNil)))) [4]) aNil))))) sNever sNext) (sSeq (sFldD (He.ga K "Sheet") "held_base" (eV 0) (eV 1)) (sSeq (sFldD (He.ga K "Sheet") "held_rows" (eV 0) (eV 2)) (sSeq (sFldD (He.ga K "Sheet") "held_columns" (eV 0) (eCB qListE (aCons (eV 3) aNil))) (sFldD (He.ga K "Sheet") "size" (eV 0) (eCB qLen (aCons (eV 3) aNil)))))))))
theorem d_Sheet_init (T : Txt K mg) (G_is_integer : Good P w K mg base 2 (He.ga K "is_integer") ["value"] (sp_is_integer K)) (G_is_column : Good P w K mg base 5 (He.ga K "is_column") ["value", "base", "rows"] (sp_is_column K)) : ∀ (cdv : Value) (A : Around) (outer : List Env) (s : Shared) (H : Hp) (E : XK) (B : Bs), Room 7 (A.deeper (envOfC "Sheet.__init__" (defScope s_Sheet_init) s.heap.objs.size (He.ma K (He.ga K "Sheet") "__init__") cdv)) → PSs (cx0 P w K mg base N_Sheet_init "Sheet.__init__" (defScope s_Sheet_init) (He.ma K (He.ga K "Sheet") "__init__") cdv A outer s H E) (defBody s_Sheet_init) (lS K B (t_Sheet_init K)) := by
  intro cdv A outer s H E B hr
  exact (dss_cons (ds_if (PW.pt (dw_or (dt_not (dt_tru (de_callG G_is_integer (hr.mono (by decide)) T.g_is_integer (da_cons (dv 1) da_nil)))) (dw_or1 (dt_not (dt_chain op_le op_le od_le od_le de_int (dv 1) de_int))))) (dss_one ds_never) dss_nil) (dss_cons (ds_if (PW.pt (dw_or (dt_not (dt_tru (de_callG G_is_integer (hr.mono (by decide)) T.g_is_integer (da_cons (dv 2) da_nil)))) (dw_or1 (dt_not (dt_chain op_le op_le od_le od_le de_int (dv 2) de_int))))) (dss_one ds_never) dss_nil) (dss_cons (ds_if (PW.pt (dw_or (dt_not (dt_tru (de_callB call_isi cd_isi rfl T.n_isinstance bt_isinstance (da_cons (dv 3) (da_cons (de_ty rfl T.n_list bt_list) da_nil))))) (dw_or1 (dt_not (dt_tru (de_callB (cr_all rfl) cd_all rfl T.n_all bt_all (da_cons (de_lc (o := false) (own := [("column", 4)]) (tg := (.one 4)) rfl sc_Sheet_init.nd (di_any (dv 3)) (blkOk_by (own := [("column", 4)]) (N := N_Sheet_init) (sc := defScope s_Sheet_init) (by decide +kernel)) (by decide) (fun _ _ _ _ _ => (pg_name (i := 4) sc_Sheet_init.nd rfl (Or.inl rfl))) (fun _ _ _ _ _ => dts_nil) (fun _ _ _ _ _ => (de_callG G_is_column (hr.mono (by decide)) T.g_is_column (da_cons (dv 4) (da_cons (dv 1) (da_cons (dv 2) da_nil)))))) da_nil))))))) (dss_one ds_never) dss_nil) (dss_cons (ds_fld T.c_Sheet T.na_Sheet_held_base (dv 0) (dv 1)) (dss_cons (ds_fld T.c_Sheet T.na_Sheet_held_rows (dv 0) (dv 2)) (dss_cons (ds_fld T.c_Sheet T.na_Sheet_held_columns (dv 0) (de_callTy call_listA cd_listE rfl T.n_list bt_list (da_cons (dv 3) da_nil))) (dss_one (ds_fld T.c_Sheet T.na_Sheet_size (dv 0) (de_callB call_lenA cd_len rfl T.n_len bt_len (da_cons (dv 3) da_nil))))))))))
def t_Kind_rows (K : PySem.W.Frag) : DS := (sRet (eFld (He.ga K "Kind") "held_rows" (eV 0)))
theorem d_Kind_rows (T : Txt K mg) : ∀ (cdv : Value) (A : Around) (outer : List Env) (s : Shared) (H : Hp) (E : XK) (B : Bs), Room 1 (A.deeper (envOfC "Kind.rows" (defScope s_Kind_rows) s.heap.objs.size (pga K (He.ga K "Kind") "rows") cdv)) → PSs (cx0 P w K mg base N_Kind_rows "Kind.rows" (defScope s_Kind_rows) (pga K (He.ga K "Kind") "rows") cdv A outer s H E) (defBody s_Kind_rows) (lS K B (t_Kind_rows K)) := by
  intro cdv A outer s H E B hr
  exact (dss_one (ds_ret (de_fld T.c_Kind T.na_Kind_held_rows (dv 0))))
def t_Kind_base (K : PySem.W.Frag) : DS := (sRet (eFld (He.ga K "Kind") "held_base" (eV 0)))
theorem d_Kind_base (T : Txt K mg) : ∀ (cdv : Value) (A : Around) (outer : List Env) (s : Shared) (H : Hp) (E : XK) (B : Bs), Room 1 (A.deeper (envOfC "Kind.base" (defScope s_Kind_base) s.heap.objs.size (pga K (He.ga K "Kind") "base") cdv)) → PSs (cx0 P w K mg base N_Kind_base "Kind.base" (defScope s_Kind_base) (pga K (He.ga K "Kind") "base") cdv A outer s H E) (defBody s_Kind_base) (lS K B (t_Kind_base K)) := by
  intro cdv A outer s H E B hr
  exact (dss_one (ds_ret (de_fld T.c_Kind T.na_Kind_held_base (dv 0))))
def t_Ledger_sheet (K : PySem.W.Frag) : DS := (sRet (eMake (He.ga K "Sheet") (sp_Sheet_init K) (aCons (eProp (He.ga K "Kind") (sp_Kind_base K) (eFld (He.ga K "Ledger") "own_kind" (eV 0))) (aCons (eProp (He.ga K "Kind") (sp_Kind_rows K) (eFld (He.ga K "Ledger") "own_kind" (eV 0))) (aCons (eLc false (iS (eFld (He.ga K "Ledger") "history" (eV 0))) (.one 1) dYes (eBin qIx (eV 1) (eC (.int 0))) [1]) aNil)))))
theorem d_Ledger_sheet (T : Txt K mg) (G_Sheet_init : Good P w K mg base 8 (He.ma K (He.ga K "Sheet") "__init__") ["self", "base", "rows", "columns"] (sp_Sheet_init K)) (G_Kind_rows : Good P w K mg base 2 (pga K (He.ga K "Kind") "rows") ["self"] (sp_Kind_rows K)) (G_Kind_base : Good P w K mg base 2 (pga K (He.ga K "Kind") "base") ["self"] (sp_Kind_base K)) : ∀ (cdv : Value) (A : Around) (outer : List Env) (s : Shared) (H : Hp) (E : XK) (B : Bs), Room 10 (A.deeper (envOfC "Ledger.sheet" (defScope s_Ledger_sheet) s.heap.objs.size (pga K (He.ga K "Ledger") "sheet") cdv)) → PSs (cx0 P w K mg base N_Ledger_sheet "Ledger.sheet" (defScope s_Ledger_sheet) (pga K (He.ga K "Ledger") "sheet") cdv A outer s H E) (defBody s_Ledger_sheet) (lS K B (t_Ledger_sheet K)) := by
  intro cdv A outer s H E B hr
  exact (dss_one (ds_ret (de_makeG G_Sheet_init (hr.mono (by decide)) T.mk_Sheet T.g_Sheet (da_cons (de_propG G_Kind_base (hr.mono (by decide)) T.c_Kind T.p_Kind_base (de_fld T.c_Ledger T.na_Ledger_own_kind (dv 0))) (da_cons (de_propG G_Kind_rows (hr.mono (by decide)) T.c_Kind T.p_Kind_rows (de_fld T.c_Ledger T.na_Ledger_own_kind (dv 0))) (da_cons (de_lc (o := false) (own := [("entry", 1)]) (tg := (.one 1)) rfl sc_Ledger_sheet.nd (di_any (de_fld T.c_Ledger T.na_Ledger_history (dv 0))) (blkOk_by (own := [("entry", 1)]) (N := N_Ledger_sheet) (sc := defScope s_Ledger_sheet) (by decide +kernel)) (by decide) (fun _ _ _ _ _ => (pg_name (i := 1) sc_Ledger_sheet.nd rfl (Or.inl rfl))) (fun _ _ _ _ _ => dts_nil) (fun _ _ _ _ _ => (de_ix (dv 1) de_int (fun _ _ => rfl)))) da_nil))))))
def t_Sheet_base (K : PySem.W.Frag) : DS := (sRet (eFld (He.ga K "Sheet") "held_base" (eV 0)))
theorem d_Sheet_base (T : Txt K mg) : ∀ (cdv : Value) (A : Around) (outer : List Env) (s : Shared) (H : Hp) (E : XK) (B : Bs), Room 1 (A.deeper (envOfC "Sheet.base" (defScope s_Sheet_base) s.heap.objs.size (pga K (He.ga K "Sheet") "base") cdv)) → PSs (cx0 P w K mg base N_Sheet_base "Sheet.base" (defScope s_Sheet_base) (pga K (He.ga K "Sheet") "base") cdv A outer s H E) (defBody s_Sheet_base) (lS K B (t_Sheet_base K)) := by
  intro cdv A outer s H E B hr
  exact (dss_one (ds_ret (de_fld T.c_Sheet T.na_Sheet_held_base (dv 0))))
def t_Sheet_rows (K : PySem.W.Frag) : DS := (sRet (eFld (He.ga K "Sheet") "held_rows" (eV 0)))
theorem d_Sheet_rows (T : Txt K mg) : ∀ (cdv : Value) (A : Around) (outer : List Env) (s : Shared) (H : Hp) (E : XK) (B : Bs), Room 1 (A.deeper (envOfC "Sheet.rows" (defScope s_Sheet_rows) s.heap.objs.size (pga K (He.ga K "Sheet") "rows") cdv)) → PSs (cx0 P w K mg base N_Sheet_rows "Sheet.rows" (defScope s_Sheet_rows) (pga K (He.ga K "Sheet") "rows") cdv A outer s H E) (defBody s_Sheet_rows) (lS K B (t_Sheet_rows K)) := by
  intro cdv A outer s H E B hr
  exact (dss_one (ds_ret (de_fld T.c_Sheet T.na_Sheet_held_rows (dv 0))))
def t_law_alike_0 (K : PySem.W.Frag) : DS := (sSeq (sIf (eTru (eCB qIsi2 (aCons (eV 1) (aCons (eTup (aCons (eC (.raw (.ty "list"))) (aCons (eC (.raw (.ty "tuple"))) aNil))) aNil)))) (sSeq (sIf (dOr (eTest (eBin qNe (eCB qIsi (aCons (eV 0) (aCons (eC (.raw (.ty "list"))) aNil))) (eCB qIsi (aCons (eV 1) (aCons (eC (.raw (.ty "list"))) aNil))))) (eTest (eBin qNe (eCB qIsi (aCons (eV 0) (aCons (eC (.raw (.ty "tuple"))) aNil))) (eCB qIsi (aCons (eV 1) (aCons (eC (.raw (.ty "tuple"))) aNil)))))) (sRet (eC (.bl false))) sNext) (sSeq (sIf (eTest (eBin qNe (eCB qLen (aCons (eV 0) aNil)) (eCB qLen (aCons (eV 1) aNil)))) (sRet (eC (.bl false))) sNext) (sSeq (sFor (iR1 (aCons (eCB qLen (aCons (eV 1) aNil)) aNil)) (.one 2) (sIf (dNot (eTru eNever)) (sRet (eC (.bl false))) sNext)) (sRet (eC (.bl true)))))) sNext) (sSeq (sIf (eTru (eCB qIsi (aCons (eV 1) (aCons (eC (.raw (.ty "str"))) aNil)))) (sRet (eAnd (eCB qIsi (aCons (eV 0) (aCons (eC (.raw (.ty "str"))) aNil))) (eBin qEq (eV 0) (eV 1)))) sNext) (sSeq (sIf (dAnd (eTru (eCB qIsi (aCons (eV 1) (aCons (eC (.raw (.ty "int"))) aNil)))) (dNot (eTru (eCB qIsi (aCons (eV 1) (aCons (eC (.raw (.ty "bool"))) aNil)))))) (sRet (eAnd (eCB qIsi (aCons (eV 0) (aCons (eC (.raw (.ty "int"))) aNil))) (eAnd (eNot (eCB qIsi (aCons (eV 0) (aCons (eC (.raw (.ty "bool"))) aNil)))) (eBin qEq (eV 0) (eV 1))))) sNext) (sRet (eAnd (eBin qEq (eCB qIsi (aCons (eV 0) (aCons (eC (.raw (.ty "bool"))) aNil))) (eCB qIsi (aCons (eV 1) (aCons (eC (.raw (.ty "bool"))) aNil)))) (eAnd (eBin qEq (eV 0) (eV 1)) (eBin qEq (eBin qIs (eV 0) (eC .non)) (eBin qIs (eV 1) (eC .non)))))))))
theorem d_law_alike_0 (T : Txt K mg) : ∀ (cdv : Value) (A : Around) (outer : List Env) (s : Shared) (H : Hp) (E : XK) (B : Bs), Room 1 (A.deeper (envOfC "_law_alike" (defScope s_law_alike_0) s.heap.objs.size (He.ga K "_law_alike") cdv)) → PSs (cx0 P w K mg base N_law_alike_0 "_law_alike" (defScope s_law_alike_0) (He.ga K "_law_alike") cdv A outer s H E) (defBody s_law_alike_0) (lS K B (t_law_alike_0 K)) := by
  intro cdv A outer s H E B hr
  exact (dss_cons (ds_if (dt_tru (de_callB call_isiS cd_isi2 rfl T.n_isinstance bt_isinstance (da_cons (dv 1) (da_cons (de_tup (da_cons (de_ty rfl T.n_list bt_list) (da_cons (de_ty rfl T.n_tuple bt_tuple) da_nil))) da_nil)))) (dss_cons (ds_if (PW.pt (dw_or (dt_cmp (op_neD hr.units) od_ne (de_callB call_isi cd_isi rfl T.n_isinstance bt_isinstance (da_cons (dv 0) (da_cons (de_ty rfl T.n_list bt_list) da_nil))) (de_callB call_isi cd_isi rfl T.n_isinstance bt_isinstance (da_cons (dv 1) (da_cons (de_ty rfl T.n_list bt_list) da_nil))) (nomark _)) (dw_or1 (dt_cmp (op_neD hr.units) od_ne (de_callB call_isi cd_isi rfl T.n_isinstance bt_isinstance (da_cons (dv 0) (da_cons (de_ty rfl T.n_tuple bt_tuple) da_nil))) (de_callB call_isi cd_isi rfl T.n_isinstance bt_isinstance (da_cons (dv 1) (da_cons (de_ty rfl T.n_tuple bt_tuple) da_nil))) (nomark _))))) (dss_one (ds_ret de_bl)) dss_nil) (dss_cons (ds_if (dt_cmp (op_neD hr.units) od_ne (de_callB call_lenA cd_len rfl T.n_len bt_len (da_cons (dv 0) da_nil)) (de_callB call_lenA cd_len rfl T.n_len bt_len (da_cons (dv 1) da_nil)) (nomark _)) (dss_one (ds_ret de_bl)) dss_nil) (dss_cons (ds_for (tg := (.one 2)) PassesOwn.never rfl (di_range1 rfl T.n_range (da_cons (de_callB call_lenA cd_len rfl T.n_len bt_len (da_cons (dv 1) da_nil)) da_nil)) (pg_name (i := 2) sc_law_alike_0.nd rfl (Or.inl rfl)) (dss_one (ds_if (dt_not (dt_tru de_never)) (dss_one (ds_ret de_bl)) dss_nil))) (dss_one (ds_ret de_bl))))) dss_nil) (dss_cons (ds_if (dt_tru (de_callB call_isi cd_isi rfl T.n_isinstance bt_isinstance (da_cons (dv 1) (da_cons (de_ty rfl T.n_str bt_str) da_nil)))) (dss_one (ds_ret (de_and (de_callB call_isi cd_isi rfl T.n_isinstance bt_isinstance (da_cons (dv 0) (da_cons (de_ty rfl T.n_str bt_str) da_nil))) (de_one (de_cmp (op_eqD hr.units) od_eq (dv 0) (dv 1) (nomark _)))))) dss_nil) (dss_cons (ds_if (PW.pt (dw_and (dt_tru (de_callB call_isi cd_isi rfl T.n_isinstance bt_isinstance (da_cons (dv 1) (da_cons (de_ty rfl T.n_int bt_int) da_nil)))) (dw_and1 (dt_not (dt_tru (de_callB call_isi cd_isi rfl T.n_isinstance bt_isinstance (da_cons (dv 1) (da_cons (de_ty rfl T.n_bool bt_bool) da_nil)))))))) (dss_one (ds_ret (de_and (de_callB call_isi cd_isi rfl T.n_isinstance bt_isinstance (da_cons (dv 0) (da_cons (de_ty rfl T.n_int bt_int) da_nil))) (de_and (de_not (de_callB call_isi cd_isi rfl T.n_isinstance bt_isinstance (da_cons (dv 0) (da_cons (de_ty rfl T.n_bool bt_bool) da_nil)))) (de_one (de_cmp (op_eqD hr.units) od_eq (dv 0) (dv 1) (nomark _))))))) dss_nil) (dss_one (ds_ret (de_and (de_cmp (op_eqD hr.units) od_eq (de_callB call_isi cd_isi rfl T.n_isinstance bt_isinstance (da_cons (dv 0) (da_cons (de_ty rfl T.n_bool bt_bool) da_nil))) (de_callB call_isi cd_isi rfl T.n_isinstance bt_isinstance (da_cons (dv 1) (da_cons (de_ty rfl T.n_bool bt_bool) da_nil))) (nomark _)) (de_and (de_cmp (op_eqD hr.units) od_eq (dv 0) (dv 1) (nomark _)) (de_one (de_cmp (op_eqD hr.units) od_eq (de_cmp op_isA od_is (dv 0) de_non (nomark _)) (de_cmp op_isA od_is (dv 1) de_non (nomark _)) (nomark _))))))))))
def t_law_alike_1 (K : PySem.W.Frag) : DS := (sSeq (sIf (eTru (eCB qIsi2 (aCons (eV 1) (aCons (eTup (aCons (eC (.raw (.ty "list"))) (aCons (eC (.raw (.ty "tuple"))) aNil))) aNil)))) (sSeq (sIf (dOr (eTest (eBin qNe (eCB qIsi (aCons (eV 0) (aCons (eC (.raw (.ty "list"))) aNil))) (eCB qIsi (aCons (eV 1) (aCons (eC (.raw (.ty "list"))) aNil))))) (eTest (eBin qNe (eCB qIsi (aCons (eV 0) (aCons (eC (.raw (.ty "tuple"))) aNil))) (eCB qIsi (aCons (eV 1) (aCons (eC (.raw (.ty "tuple"))) aNil)))))) (sRet (eC (.bl false))) sNext) (sSeq (sIf (eTest (eBin qNe (eCB qLen (aCons (eV 0) aNil)) (eCB qLen (aCons (eV 1) aNil)))) (sRet (eC (.bl false))) sNext) (sSeq (sFor (iR1 (aCons (eCB qLen (aCons (eV 1) aNil)) aNil)) (.one 2) (sIf (dNot (eTru (eCall (sp_law_alike_0 K) (aCons (eBin qIx (eV 0) (eV 2)) (aCons (eBin qIx (eV 1) (eV 2)) aNil))))) (sRet (eC (.bl false))) sNext)) (sRet (eC (.bl true)))))) sNext) (sSeq (sIf (eTru (eCB qIsi (aCons (eV 1) (aCons (eC (.raw (.ty "str"))) aNil)))) (sRet (eAnd (eCB qIsi (aCons (eV 0) (aCons (eC (.raw (.ty "str"))) aNil))) (eBin qEq (eV 0) (eV 1)))) sNext) (sSeq (sIf (dAnd (eTru (eCB qIsi (aCons (eV 1) (aCons (eC (.raw (.ty "int"))) aNil)))) (dNot (eTru (eCB qIsi (aCons (eV 1) (aCons (eC (.raw (.ty "bool"))) aNil)))))) (sRet (eAnd (eCB qIsi (aCons (eV 0) (aCons (eC (.raw (.ty "int"))) aNil))) (eAnd (eNot (eCB qIsi (aCons (eV 0) (aCons (eC (.raw (.ty "bool"))) aNil)))) (eBin qEq (eV 0) (eV 1))))) sNext) (sRet (eAnd (eBin qEq (eCB qIsi (aCons (eV 0) (aCons (eC (.raw (.ty "bool"))) aNil))) (eCB qIsi (aCons (eV 1) (aCons (eC (.raw (.ty "bool"))) aNil)))) (eAnd (eBin qEq (eV 0) (eV 1)) (eBin qEq (eBin qIs (eV 0) (eC .non)) (eBin qIs (eV 1) (eC .non)))))))))
theorem d_law_alike_1 (T : Txt K mg) (G_law_alike_0 : Good P w K mg base 2 (He.ga K "_law_alike") ["told", "due"] (sp_law_alike_0 K)) : ∀ (cdv : Value) (A : Around) (outer : List Env) (s : Shared) (H : Hp) (E : XK) (B : Bs), Room 4 (A.deeper (envOfC "_law_alike" (defScope s_law_alike_1) s.heap.objs.size (He.ga K "_law_alike") cdv)) → PSs (cx0 P w K mg base N_law_alike_1 "_law_alike" (defScope s_law_alike_1) (He.ga K "_law_alike") cdv A outer s H E) (defBody s_law_alike_1) (lS K B (t_law_alike_1 K)) := by
  intro cdv A outer s H E B hr
  exact (dss_cons (ds_if (dt_tru (de_callB call_isiS cd_isi2 rfl T.n_isinstance bt_isinstance (da_cons (dv 1) (da_cons (de_tup (da_cons (de_ty rfl T.n_list bt_list) (da_cons (de_ty rfl T.n_tuple bt_tuple) da_nil))) da_nil)))) (dss_cons (ds_if (PW.pt (dw_or (dt_cmp (op_neD hr.units) od_ne (de_callB call_isi cd_isi rfl T.n_isinstance bt_isinstance (da_cons (dv 0) (da_cons (de_ty rfl T.n_list bt_list) da_nil))) (de_callB call_isi cd_isi rfl T.n_isinstance bt_isinstance (da_cons (dv 1) (da_cons (de_ty rfl T.n_list bt_list) da_nil))) (nomark _)) (dw_or1 (dt_cmp (op_neD hr.units) od_ne (de_callB call_isi cd_isi rfl T.n_isinstance bt_isinstance (da_cons (dv 0) (da_cons (de_ty rfl T.n_tuple bt_tuple) da_nil))) (de_callB call_isi cd_isi rfl T.n_isinstance bt_isinstance (da_cons (dv 1) (da_cons (de_ty rfl T.n_tuple bt_tuple) da_nil))) (nomark _))))) (dss_one (ds_ret de_bl)) dss_nil) (dss_cons (ds_if (dt_cmp (op_neD hr.units) od_ne (de_callB call_lenA cd_len rfl T.n_len bt_len (da_cons (dv 0) da_nil)) (de_callB call_lenA cd_len rfl T.n_len bt_len (da_cons (dv 1) da_nil)) (nomark _)) (dss_one (ds_ret de_bl)) dss_nil) (dss_cons (ds_for (tg := (.one 2)) PassesOwn.never rfl (di_range1 rfl T.n_range (da_cons (de_callB call_lenA cd_len rfl T.n_len bt_len (da_cons (dv 1) da_nil)) da_nil)) (pg_name (i := 2) sc_law_alike_1.nd rfl (Or.inl rfl)) (dss_one (ds_if (dt_not (dt_tru (de_callG G_law_alike_0 (hr.mono (by decide)) T.g_law_alike (da_cons (de_ix (dv 0) (dv 2) (fun _ _ => rfl)) (da_cons (de_ix (dv 1) (dv 2) (fun _ _ => rfl)) da_nil))))) (dss_one (ds_ret de_bl)) dss_nil))) (dss_one (ds_ret de_bl))))) dss_nil) (dss_cons (ds_if (dt_tru (de_callB call_isi cd_isi rfl T.n_isinstance bt_isinstance (da_cons (dv 1) (da_cons (de_ty rfl T.n_str bt_str) da_nil)))) (dss_one (ds_ret (de_and (de_callB call_isi cd_isi rfl T.n_isinstance bt_isinstance (da_cons (dv 0) (da_cons (de_ty rfl T.n_str bt_str) da_nil))) (de_one (de_cmp (op_eqD hr.units) od_eq (dv 0) (dv 1) (nomark _)))))) dss_nil) (dss_cons (ds_if (PW.pt (dw_and (dt_tru (de_callB call_isi cd_isi rfl T.n_isinstance bt_isinstance (da_cons (dv 1) (da_cons (de_ty rfl T.n_int bt_int) da_nil)))) (dw_and1 (dt_not (dt_tru (de_callB call_isi cd_isi rfl T.n_isinstance bt_isinstance (da_cons (dv 1) (da_cons (de_ty rfl T.n_bool bt_bool) da_nil)))))))) (dss_one (ds_ret (de_and (de_callB call_isi cd_isi rfl T.n_isinstance bt_isinstance (da_cons (dv 0) (da_cons (de_ty rfl T.n_int bt_int) da_nil))) (de_and (de_not (de_callB call_isi cd_isi rfl T.n_isinstance bt_isinstance (da_cons (dv 0) (da_cons (de_ty rfl T.n_bool bt_bool) da_nil)))) (de_one (de_cmp (op_eqD hr.units) od_eq (dv 0) (dv 1) (nomark _))))))) dss_nil) (dss_one (ds_ret (de_and (de_cmp (op_eqD hr.units) od_eq (de_callB call_isi cd_isi rfl T.n_isinstance bt_isinstance (da_cons (dv 0) (da_cons (de_ty rfl T.n_bool bt_bool) da_nil))) (de_callB call_isi cd_isi rfl T.n_isinstance bt_isinstance (da_cons (dv 1) (da_cons (de_ty rfl T.n_bool bt_bool) da_nil))) (nomark _)) (de_and (de_cmp (op_eqD hr.units) od_eq (dv 0) (dv 1) (nomark _)) (de_one (de_cmp (op_eqD hr.units) od_eq (de_cmp op_isA od_is (dv 0) de_non (nomark _)) (de_cmp op_isA od_is (dv 1) de_non (nomark _)) (nomark _))))))))))
def t_law_alike_2 (K : PySem.W.Frag) : DS := (sSeq (sIf (eTru (eCB qIsi2 (aCons (eV 1) (aCons (eTup (aCons (eC (.raw (.ty "list"))) (aCons (eC (.raw (.ty "tuple"))) aNil))) aNil)))) (sSeq (sIf (dOr (eTest (eBin qNe (eCB qIsi (aCons (eV 0) (aCons (eC (.raw (.ty "list"))) aNil))) (eCB qIsi (aCons (eV 1) (aCons (eC (.raw (.ty "list"))) aNil))))) (eTest (eBin qNe (eCB qIsi (aCons (eV 0) (aCons (eC (.raw (.ty "tuple"))) aNil))) (eCB qIsi (aCons (eV 1) (aCons (eC (.raw (.ty "tuple"))) aNil)))))) (sRet (eC (.bl false))) sNext) (sSeq (sIf (eTest (eBin qNe (eCB qLen (aCons (eV 0) aNil)) (eCB qLen (aCons (eV 1) aNil)))) (sRet (eC (.bl false))) sNext) (sSeq (sFor (iR1 (aCons (eCB qLen (aCons (eV 1) aNil)) aNil)) (.one 2) (sIf (dNot (eTru (eCall (sp_law_alike_1 K) (aCons (eBin qIx (eV 0) (eV 2)) (aCons (eBin qIx (eV 1) (eV 2)) aNil))))) (sRet (eC (.bl false))) sNext)) (sRet (eC (.bl true)))))) sNext) (sSeq (sIf (eTru (eCB qIsi (aCons (eV 1) (aCons (eC (.raw (.ty "str"))) aNil)))) (sRet (eAnd (eCB qIsi (aCons (eV 0) (aCons (eC (.raw (.ty "str"))) aNil))) (eBin qEq (eV 0) (eV 1)))) sNext) (sSeq (sIf (dAnd (eTru (eCB qIsi (aCons (eV 1) (aCons (eC (.raw (.ty "int"))) aNil)))) (dNot (eTru (eCB qIsi (aCons (eV 1) (aCons (eC (.raw (.ty "bool"))) aNil)))))) (sRet (eAnd (eCB qIsi (aCons (eV 0) (aCons (eC (.raw (.ty "int"))) aNil))) (eAnd (eNot (eCB qIsi (aCons (eV 0) (aCons (eC (.raw (.ty "bool"))) aNil)))) (eBin qEq (eV 0) (eV 1))))) sNext) (sRet (eAnd (eBin qEq (eCB qIsi (aCons (eV 0) (aCons (eC (.raw (.ty "bool"))) aNil))) (eCB qIsi (aCons (eV 1) (aCons (eC (.raw (.ty "bool"))) aNil)))) (eAnd (eBin qEq (eV 0) (eV 1)) (eBin qEq (eBin qIs (eV 0) (eC .non)) (eBin qIs (eV 1) (eC .non)))))))))
theorem d_law_alike_2 (T : Txt K mg) (G_law_alike_1 : Good P w K mg base 5 (He.ga K "_law_alike") ["told", "due"] (sp_law_alike_1 K)) : ∀ (cdv : Value) (A : Around) (outer : List Env) (s : Shared) (H : Hp) (E : XK) (B : Bs), Room 7 (A.deeper (envOfC "_law_alike" (defScope s_law_alike_2) s.heap.objs.size (He.ga K "_law_alike") cdv)) → PSs (cx0 P w K mg base N_law_alike_2 "_law_alike" (defScope s_law_alike_2) (He.ga K "_law_alike") cdv A outer s H E) (defBody s_law_alike_2) (lS K B (t_law_alike_2 K)) := by
  intro cdv A outer s H E B hr
  exact (dss_cons (ds_if (dt_tru (de_callB call_isiS cd_isi2 rfl T.n_isinstance bt_isinstance (da_cons (dv 1) (da_cons (de_tup (da_cons (de_ty rfl T.n_list bt_list) (da_cons (de_ty rfl T.n_tuple bt_tuple) da_nil))) da_nil)))) (dss_cons (ds_if (PW.pt (dw_or (dt_cmp (op_neD hr.units) od_ne (de_callB call_isi cd_isi rfl T.n_isinstance bt_isinstance (da_cons (dv 0) (da_cons (de_ty rfl T.n_list bt_list) da_nil))) (de_callB call_isi cd_isi rfl T.n_isinstance bt_isinstance (da_cons (dv 1) (da_cons (de_ty rfl T.n_list bt_list) da_nil))) (nomark _)) (dw_or1 (dt_cmp (op_neD hr.units) od_ne (de_callB call_isi cd_isi rfl T.n_isinstance bt_isinstance (da_cons (dv 0) (da_cons (de_ty rfl T.n_tuple bt_tuple) da_nil))) (de_callB call_isi cd_isi rfl T.n_isinstance bt_isinstance (da_cons (dv 1) (da_cons (de_ty rfl T.n_tuple bt_tuple) da_nil))) (nomark _))))) (dss_one (ds_ret de_bl)) dss_nil) (dss_cons (ds_if (dt_cmp (op_neD hr.units) od_ne (de_callB call_lenA cd_len rfl T.n_len bt_len (da_cons (dv 0) da_nil)) (de_callB call_lenA cd_len rfl T.n_len bt_len (da_cons (dv 1) da_nil)) (nomark _)) (dss_one (ds_ret de_bl)) dss_nil) (dss_cons (ds_for (tg := (.one 2)) PassesOwn.never rfl (di_range1 rfl T.n_range (da_cons (de_callB call_lenA cd_len rfl T.n_len bt_len (da_cons (dv 1) da_nil)) da_nil)) (pg_name (i := 2) sc_law_alike_2.nd rfl (Or.inl rfl)) (dss_one (ds_if (dt_not (dt_tru (de_callG G_law_alike_1 (hr.mono (by decide)) T.g_law_alike (da_cons (de_ix (dv 0) (dv 2) (fun _ _ => rfl)) (da_cons (de_ix (dv 1) (dv 2) (fun _ _ => rfl)) da_nil))))) (dss_one (ds_ret de_bl)) dss_nil))) (dss_one (ds_ret de_bl))))) dss_nil) (dss_cons (ds_if (dt_tru (de_callB call_isi cd_isi rfl T.n_isinstance bt_isinstance (da_cons (dv 1) (da_cons (de_ty rfl T.n_str bt_str) da_nil)))) (dss_one (ds_ret (de_and (de_callB call_isi cd_isi rfl T.n_isinstance bt_isinstance (da_cons (dv 0) (da_cons (de_ty rfl T.n_str bt_str) da_nil))) (de_one (de_cmp (op_eqD hr.units) od_eq (dv 0) (dv 1) (nomark _)))))) dss_nil) (dss_cons (ds_if (PW.pt (dw_and (dt_tru (de_callB call_isi cd_isi rfl T.n_isinstance bt_isinstance (da_cons (dv 1) (da_cons (de_ty rfl T.n_int bt_int) da_nil)))) (dw_and1 (dt_not (dt_tru (de_callB call_isi cd_isi rfl T.n_isinstance bt_isinstance (da_cons (dv 1) (da_cons (de_ty rfl T.n_bool bt_bool) da_nil)))))))) (dss_one (ds_ret (de_and (de_callB call_isi cd_isi rfl T.n_isinstance bt_isinstance (da_cons (dv 0) (da_cons (de_ty rfl T.n_int bt_int) da_nil))) (de_and (de_not (de_callB call_isi cd_isi rfl T.n_isinstance bt_isinstance (da_cons (dv 0) (da_cons (de_ty rfl T.n_bool bt_bool) da_nil)))) (de_one (de_cmp (op_eqD hr.units) od_eq (dv 0) (dv 1) (nomark _))))))) dss_nil) (dss_one (ds_ret (de_and (de_cmp (op_eqD hr.units) od_eq (de_callB call_isi cd_isi rfl T.n_isinstance bt_isinstance (da_cons (dv 0) (da_cons (de_ty rfl T.n_bool bt_bool) da_nil))) (de_callB call_isi cd_isi rfl T.n_isinstance bt_isinstance (da_cons (dv 1) (da_cons (de_ty rfl T.n_bool bt_bool) da_nil))) (nomark _)) (de_and (de_cmp (op_eqD hr.units) od_eq (dv 0) (dv 1) (nomark _)) (de_one (de_cmp (op_eqD hr.units) od_eq (de_cmp op_isA od_is (dv 0) de_non (nomark _)) (de_cmp op_isA od_is (dv 1) de_non (nomark _)) (nomark _))))))))))
def t_law_alike_3 (K : PySem.W.Frag) : DS := (sSeq (sIf (eTru (eCB qIsi2 (aCons (eV 1) (aCons (eTup (aCons (eC (.raw (.ty "list"))) (aCons (eC (.raw (.ty "tuple"))) aNil))) aNil)))) (sSeq (sIf (dOr (eTest (eBin qNe (eCB qIsi (aCons (eV 0) (aCons (eC (.raw (.ty "list"))) aNil))) (eCB qIsi (aCons (eV 1) (aCons (eC (.raw (.ty "list"))) aNil))))) (eTest (eBin qNe (eCB qIsi (aCons (eV 0) (aCons (eC (.raw (.ty "tuple"))) aNil))) (eCB qIsi (aCons (eV 1) (aCons (eC (.raw (.ty "tuple"))) aNil)))))) (sRet (eC (.bl false))) sNext) (sSeq (sIf (eTest (eBin qNe (eCB qLen (aCons (eV 0) aNil)) (eCB qLen (aCons (eV 1) aNil)))) (sRet (eC (.bl false))) sNext) (sSeq (sFor (iR1 (aCons (eCB qLen (aCons (eV 1) aNil)) aNil)) (.one 2) (sIf (dNot (eTru (eCall (sp_law_alike_2 K) (aCons (eBin qIx (eV 0) (eV 2)) (aCons (eBin qIx (eV 1) (eV 2)) aNil))))) (sRet (eC (.bl false))) sNext)) (sRet (eC (.bl true)))))) sNext) (sSeq (sIf (eTru (eCB qIsi (aCons (eV 1) (aCons (eC (.raw (.ty "str"))) aNil)))) (sRet (eAnd (eCB qIsi (aCons (eV 0) (aCons (eC (.raw (.ty "str"))) aNil))) (eBin qEq (eV 0) (eV 1)))) sNext) (sSeq (sIf (dAnd (eTru (eCB qIsi (aCons (eV 1) (aCons (eC (.raw (.ty "int"))) aNil)))) (dNot (eTru (eCB qIsi (aCons (eV 1) (aCons (eC (.raw (.ty "bool"))) aNil)))))) (sRet (eAnd (eCB qIsi (aCons (eV 0) (aCons (eC (.raw (.ty "int"))) aNil))) (eAnd (eNot (eCB qIsi (aCons (eV 0) (aCons (eC (.raw (.ty "bool"))) aNil)))) (eBin qEq (eV 0) (eV 1))))) sNext) (sRet (eAnd (eBin qEq (eCB qIsi (aCons (eV 0) (aCons (eC (.raw (.ty "bool"))) aNil))) (eCB qIsi (aCons (eV 1) (aCons (eC (.raw (.ty "bool"))) aNil)))) (eAnd (eBin qEq (eV 0) (eV 1)) (eBin qEq (eBin qIs (eV 0) (eC .non)) (eBin qIs (eV 1) (eC .non)))))))))
theorem d_law_alike_3 (T : Txt K mg) (G_law_alike_2 : Good P w K mg base 8 (He.ga K "_law_alike") ["told", "due"] (sp_law_alike_2 K)) : ∀ (cdv : Value) (A : Around) (outer : List Env) (s : Shared) (H : Hp) (E : XK) (B : Bs), Room 10 (A.deeper (envOfC "_law_alike" (defScope s_law_alike_3) s.heap.objs.size (He.ga K "_law_alike") cdv)) → PSs (cx0 P w K mg base N_law_alike_3 "_law_alike" (defScope s_law_alike_3) (He.ga K "_law_alike") cdv A outer s H E) (defBody s_law_alike_3) (lS K B (t_law_alike_3 K)) := by
  intro cdv A outer s H E B hr
  exact (dss_cons (ds_if (dt_tru (de_callB call_isiS cd_isi2 rfl T.n_isinstance bt_isinstance (da_cons (dv 1) (da_cons (de_tup (da_cons (de_ty rfl T.n_list bt_list) (da_cons (de_ty rfl T.n_tuple bt_tuple) da_nil))) da_nil)))) (dss_cons (ds_if (PW.pt (dw_or (dt_cmp (op_neD hr.units) od_ne (de_callB call_isi cd_isi rfl T.n_isinstance bt_isinstance (da_cons (dv 0) (da_cons (de_ty rfl T.n_list bt_list) da_nil))) (de_callB call_isi cd_isi rfl T.n_isinstance bt_isinstance (da_cons (dv 1) (da_cons (de_ty rfl T.n_list bt_list) da_nil))) (nomark _)) (dw_or1 (dt_cmp (op_neD hr.units) od_ne (de_callB call_isi cd_isi rfl T.n_isinstance bt_isinstance (da_cons (dv 0) (da_cons (de_ty rfl T.n_tuple bt_tuple) da_nil))) (de_callB call_isi cd_isi rfl T.n_isinstance bt_isinstance (da_cons (dv 1) (da_cons (de_ty rfl T.n_tuple bt_tuple) da_nil))) (nomark _))))) (dss_one (ds_ret de_bl)) dss_nil) (dss_cons (ds_if (dt_cmp (op_neD hr.units) od_ne (de_callB call_lenA cd_len rfl T.n_len bt_len (da_cons (dv 0) da_nil)) (de_callB call_lenA cd_len rfl T.n_len bt_len (da_cons (dv 1) da_nil)) (nomark _)) (dss_one (ds_ret de_bl)) dss_nil) (dss_cons (ds_for (tg := (.one 2)) PassesOwn.never rfl (di_range1 rfl T.n_range (da_cons (de_callB call_lenA cd_len rfl T.n_len bt_len (da_cons (dv 1) da_nil)) da_nil)) (pg_name (i := 2) sc_law_alike_3.nd rfl (Or.inl rfl)) (dss_one (ds_if (dt_not (dt_tru (de_callG G_law_alike_2 (hr.mono (by decide)) T.g_law_alike (da_cons (de_ix (dv 0) (dv 2) (fun _ _ => rfl)) (da_cons (de_ix (dv 1) (dv 2) (fun _ _ => rfl)) da_nil))))) (dss_one (ds_ret de_bl)) dss_nil))) (dss_one (ds_ret de_bl))))) dss_nil) (dss_cons (ds_if (dt_tru (de_callB call_isi cd_isi rfl T.n_isinstance bt_isinstance (da_cons (dv 1) (da_cons (de_ty rfl T.n_str bt_str) da_nil)))) (dss_one (ds_ret (de_and (de_callB call_isi cd_isi rfl T.n_isinstance bt_isinstance (da_cons (dv 0) (da_cons (de_ty rfl T.n_str bt_str) da_nil))) (de_one (de_cmp (op_eqD hr.units) od_eq (dv 0) (dv 1) (nomark _)))))) dss_nil) (dss_cons (ds_if (PW.pt (dw_and (dt_tru (de_callB call_isi cd_isi rfl T.n_isinstance bt_isinstance (da_cons (dv 1) (da_cons (de_ty rfl T.n_int bt_int) da_nil)))) (dw_and1 (dt_not (dt_tru (de_callB call_isi cd_isi rfl T.n_isinstance bt_isinstance (da_cons (dv 1) (da_cons (de_ty rfl T.n_bool bt_bool) da_nil)))))))) (dss_one (ds_ret (de_and (de_callB call_isi cd_isi rfl T.n_isinstance bt_isinstance (da_cons (dv 0) (da_cons (de_ty rfl T.n_int bt_int) da_nil))) (de_and (de_not (de_callB call_isi cd_isi rfl T.n_isinstance bt_isinstance (da_cons (dv 0) (da_cons (de_ty rfl T.n_bool bt_bool) da_nil)))) (de_one (de_cmp (op_eqD hr.units) od_eq (dv 0) (dv 1) (nomark _))))))) dss_nil) (dss_one (ds_ret (de_and (de_cmp (op_eqD hr.units) od_eq (de_callB call_isi cd_isi rfl T.n_isinstance bt_isinstance (da_cons (dv 0) (da_cons (de_ty rfl T.n_bool bt_bool) da_nil))) (de_callB call_isi cd_isi rfl T.n_isinstance bt_isinstance (da_cons (dv 1) (da_cons (de_ty rfl T.n_bool bt_bool) da_nil))) (nomark _)) (de_and (de_cmp (op_eqD hr.units) od_eq (dv 0) (dv 1) (nomark _)) (de_one (de_cmp (op_eqD hr.units) od_eq (de_cmp op_isA od_is (dv 0) de_non (nomark _)) (de_cmp op_isA od_is (dv 1) de_non (nomark _)) (nomark _))))))))))
def t_Sheet_columns (K : PySem.W.Frag) : DS := (sRet (eCB (qList true) (aCons (eFld (He.ga K "Sheet") "held_columns" (eV 0)) aNil)))
theorem d_Sheet_columns (T : Txt K mg) : ∀ (cdv : Value) (A : Around) (outer : List Env) (s : Shared) (H : Hp) (E : XK) (B : Bs), Room 1 (A.deeper (envOfC "Sheet.columns" (defScope s_Sheet_columns) s.heap.objs.size (pga K (He.ga K "Sheet") "columns") cdv)) → PSs (cx0 P w K mg base N_Sheet_columns "Sheet.columns" (defScope s_Sheet_columns) (pga K (He.ga K "Sheet") "columns") cdv A outer s H E) (defBody s_Sheet_columns) (lS K B (t_Sheet_columns K)) := by
  intro cdv A outer s H E B hr
  exact (dss_one (ds_ret (de_callTy call_listA (cd_list (o := true)) rfl T.n_list bt_list (da_cons (de_fld T.c_Sheet T.na_Sheet_held_columns (dv 0)) da_nil))))
def t_Ledger_slips (K : PySem.W.Frag) : DS := (sRet (eLc true (iEn (aCons (eFld (He.ga K "Ledger") "history" (eV 0)) aNil)) (.tup [1, 2]) (eTest (eBin qIsNot (eBin qIx (eV 2) (eC (.int 1))) (eC .non))) (eTup (aCons (eV 1) (aCons (eBin qIx (eV 2) (eC (.int 1))) aNil))) [1, 2]))
theorem d_Ledger_slips (T : Txt K mg) : ∀ (cdv : Value) (A : Around) (outer : List Env) (s : Shared) (H : Hp) (E : XK) (B : Bs), Room 1 (A.deeper (envOfC "Ledger.slips" (defScope s_Ledger_slips) s.heap.objs.size (pga K (He.ga K "Ledger") "slips") cdv)) → PSs (cx0 P w K mg base N_Ledger_slips "Ledger.slips" (defScope s_Ledger_slips) (pga K (He.ga K "Ledger") "slips") cdv A outer s H E) (defBody s_Ledger_slips) (lS K B (t_Ledger_slips K)) := by
  intro cdv A outer s H E B hr
  exact (dss_one (ds_ret (de_lc (o := true) (own := [("at", 1), ("entry", 2)]) (tg := (.tup [1, 2])) rfl sc_Ledger_slips.nd (di_enum rfl T.n_enumerate (da_cons (de_fld T.c_Ledger T.na_Ledger_history (dv 0)) da_nil)) (blkOk_by (own := [("at", 1), ("entry", 2)]) (N := N_Ledger_slips) (sc := defScope s_Ledger_slips) (by decide +kernel)) (by decide) (fun _ _ _ _ _ => (pg_tup rfl (pgs_cons (pg_name (i := 1) sc_Ledger_slips.nd rfl (Or.inl rfl)) (pgs_cons (pg_name (i := 2) sc_Ledger_slips.nd rfl (Or.inl rfl)) pgs_nil)))) (fun _ _ _ _ _ => (dts_one (dt_cmp op_isNotA od_isNot (de_ix (dv 2) de_int (fun _ _ => rfl)) de_non (nomark _)))) (fun _ _ _ _ _ => (de_tup (da_cons (dv 1) (da_cons (de_ix (dv 2) de_int (fun _ _ => rfl)) da_nil)))))))
def t_Kind_most (K : PySem.W.Frag) : DS := (sRet (eFld (He.ga K "Kind") "held_most" (eV 0)))
theorem d_Kind_most (T : Txt K mg) : ∀ (cdv : Value) (A : Around) (outer : List Env) (s : Shared) (H : Hp) (E : XK) (B : Bs), Room 1 (A.deeper (envOfC "Kind.most" (defScope s_Kind_most) s.heap.objs.size (pga K (He.ga K "Kind") "most") cdv)) → PSs (cx0 P w K mg base N_Kind_most "Kind.most" (defScope s_Kind_most) (pga K (He.ga K "Kind") "most") cdv A outer s H E) (defBody s_Kind_most) (lS K B (t_Kind_most K)) := by
  intro cdv A outer s H E B hr
  exact (dss_one (ds_ret (de_fld T.c_Kind T.na_Kind_held_most (dv 0))))
def t_beginning (K : PySem.W.Frag) : DS := (sSeq (sDrop (eCall (sp_check_lot K) (aCons (eV 1) aNil))) (sRet (eTup (aCons (eProp (He.ga K "Kind") (sp_Kind_most K) (eV 0)) (aCons (eC .non) (aCons (eC .non) (aCons (eC (.int 0)) (aCons (eC (.int 0)) (aCons (eC (.int 0)) (aCons (eCB qTuple (aCons (eLc false (iS (eV 1)) (.one 2) dYes (eTup (aCons (eC (.int 0)) (aCons (eC (.int 1)) (aCons (eC (.int 1)) aNil)))) [2]) aNil)) aNil))))))))))
theorem d_beginning (T : Txt K mg) (G_check_lot : Good P w K mg base 2 (He.ga K "check_lot") ["lot"] (sp_check_lot K)) (G_Kind_most : Good P w K mg base 2 (pga K (He.ga K "Kind") "most") ["self"] (sp_Kind_most K)) : ∀ (cdv : Value) (A : Around) (outer : List Env) (s : Shared) (H : Hp) (E : XK) (B : Bs), Room 4 (A.deeper (envOfC "beginning" (defScope s_beginning) s.heap.objs.size (He.ga K "beginning") cdv)) → PSs (cx0 P w K mg base N_beginning "beginning" (defScope s_beginning) (He.ga K "beginning") cdv A outer s H E) (defBody s_beginning) (lS K B (t_beginning K)) := by
  intro cdv A outer s H E B hr
  exact (dss_cons (ds_expr (de_callG G_check_lot (hr.mono (by decide)) T.g_check_lot (da_cons (dv 1) da_nil))) (dss_one (ds_ret (de_tup (da_cons (de_propG G_Kind_most (hr.mono (by decide)) T.c_Kind T.p_Kind_most (dv 0)) (da_cons de_non (da_cons de_non (da_cons de_int (da_cons de_int (da_cons de_int (da_cons (de_callTy call_tupleA cd_tuple rfl T.n_tuple bt_tuple (da_cons (de_lc (o := false) (own := [("divisor", 2)]) (tg := (.one 2)) rfl sc_beginning.nd (di_any (dv 1)) (blkOk_by (own := [("divisor", 2)]) (N := N_beginning) (sc := defScope s_beginning) (by decide +kernel)) (by decide) (fun _ _ _ _ _ => (pg_name (i := 2) sc_beginning.nd rfl (Or.inl rfl))) (fun _ _ _ _ _ => dts_nil) (fun _ _ _ _ _ => (de_tup (da_cons de_int (da_cons de_int (da_cons de_int da_nil)))))) da_nil)) da_nil)))))))))))
def t_Ledger_standing (K : PySem.W.Frag) : DS := (sSeq (sIf (eTest (eBin qEq (eCB qLen (aCons (eFld (He.ga K "Ledger") "history" (eV 0)) aNil)) (eC (.int 0)))) (sRet (eCall (sp_beginning K) (aCons (eFld (He.ga K "Ledger") "own_kind" (eV 0)) (aCons (eFld (He.ga K "Ledger") "own_lot" (eV 0)) aNil)))) sNext) (sRet (eBin qIx (eBin qIx (eFld (He.ga K "Ledger") "history" (eV 0)) (eNeg (eC (.int 1)))) (eC (.int 2)))))
theorem d_Ledger_standing (T : Txt K mg) (G_beginning : Good P w K mg base 5 (He.ga K "beginning") ["kind", "lot"] (sp_beginning K)) : ∀ (cdv : Value) (A : Around) (outer : List Env) (s : Shared) (H : Hp) (E : XK) (B : Bs), Room 7 (A.deeper (envOfC "Ledger.standing" (defScope s_Ledger_standing) s.heap.objs.size (pga K (He.ga K "Ledger") "standing") cdv)) → PSs (cx0 P w K mg base N_Ledger_standing "Ledger.standing" (defScope s_Ledger_standing) (pga K (He.ga K "Ledger") "standing") cdv A outer s H E) (defBody s_Ledger_standing) (lS K B (t_Ledger_standing K)) := by
  intro cdv A outer s H E B hr
  exact (dss_cons (ds_if (dt_cmp (op_eqD hr.units) od_eq (de_callB call_lenA cd_len rfl T.n_len bt_len (da_cons (de_fld T.c_Ledger T.na_Ledger_history (dv 0)) da_nil)) de_int (nomark _)) (dss_one (ds_ret (de_callG G_beginning (hr.mono (by decide)) T.g_beginning (da_cons (de_fld T.c_Ledger T.na_Ledger_own_kind (dv 0)) (da_cons (de_fld T.c_Ledger T.na_Ledger_own_lot (dv 0)) da_nil))))) dss_nil) (dss_one (ds_ret (de_ix (de_ix (de_fld T.c_Ledger T.na_Ledger_history (dv 0)) (de_neg de_int) (fun _ _ => rfl)) de_int (fun _ _ => rfl)))))
def t_Ledger_waits (K : PySem.W.Frag) : DS := (sRet (eBin qIsNot (eBin qIx (eProp (He.ga K "Ledger") (sp_Ledger_standing K) (eV 0)) (eC (.int 1))) (eC .non)))
theorem d_Ledger_waits (T : Txt K mg) (G_Ledger_standing : Good P w K mg base 8 (pga K (He.ga K "Ledger") "standing") ["self"] (sp_Ledger_standing K)) : ∀ (cdv : Value) (A : Around) (outer : List Env) (s : Shared) (H : Hp) (E : XK) (B : Bs), Room 10 (A.deeper (envOfC "Ledger.waits" (defScope s_Ledger_waits) s.heap.objs.size (pga K (He.ga K "Ledger") "waits") cdv)) → PSs (cx0 P w K mg base N_Ledger_waits "Ledger.waits" (defScope s_Ledger_waits) (pga K (He.ga K "Ledger") "waits") cdv A outer s H E) (defBody s_Ledger_waits) (lS K B (t_Ledger_waits K)) := by
  intro cdv A outer s H E B hr
  exact (dss_one (ds_ret (de_cmp op_isNotA od_isNot (de_ix (de_propG G_Ledger_standing (hr.mono (by decide)) T.c_Ledger T.p_Ledger_standing (dv 0)) de_int (fun _ _ => rfl)) de_non (nomark _))))
def t_Ledger_len (K : PySem.W.Frag) : DS := (sRet (eCB qLen (aCons (eFld (He.ga K "Ledger") "history" (eV 0)) aNil)))
theorem d_Ledger_len (T : Txt K mg) : ∀ (cdv : Value) (A : Around) (outer : List Env) (s : Shared) (H : Hp) (E : XK) (B : Bs), Room 1 (A.deeper (envOfC "Ledger.__len__" (defScope s_Ledger_len) s.heap.objs.size (He.ma K (He.ga K "Ledger") "__len__") cdv)) → PSs (cx0 P w K mg base N_Ledger_len "Ledger.__len__" (defScope s_Ledger_len) (He.ma K (He.ga K "Ledger") "__len__") cdv A outer s H E) (defBody s_Ledger_len) (lS K B (t_Ledger_len K)) := by
  intro cdv A outer s H E B hr
  exact (dss_one (ds_ret (de_callB call_lenA cd_len rfl T.n_len bt_len (da_cons (de_fld T.c_Ledger T.na_Ledger_history (dv 0)) da_nil))))
def t_law_look (K : PySem.W.Frag) : DS := (sSeq (sAsg (eC (.bl true)) 5) (sSeq (sFor (iR1 (aCons (eC (.int 5)) aNil)) (.one 6) (sSeq (sAsg (eBin (qMod) (eCB qInt (aCons (eBin (qAdd false) (eBin (qMul) (eV 6) (eC (.int 2))) (eV 4)) aNil)) (eC (.int 5))) 7) (sIf (eTest (eBin qEq (eV 7) (eC (.int 0)))) (sSeq (sAsg (eProp (He.ga K "Ledger") (sp_Ledger_sheet K) (eV 0)) 8) (sSeq (sAsg (eAnd (eV 5) (eAnd (eCB (qIsiC (He.ga K "Sheet")) (aCons (eV 8) (aCons (eC (.raw (.ref (He.ga K "Sheet")))) aNil))) (eAnd (eBin qEq (eProp (He.ga K "Sheet") (sp_Sheet_base K) (eV 8)) (eV 1)) (eBin qEq (eProp (He.ga K "Sheet") (sp_Sheet_rows K) (eV 8)) (eV 2))))) 5) (sAsg (eAnd (eV 5) (eCall (sp_law_alike_3 K) (aCons (eProp (He.ga K "Sheet") (sp_Sheet_columns K) (eV 8)) (aCons (eBin qIx (eV 3) (eC (.int 0))) aNil)))) 5))) (sIf (eTest (eBin qEq (eV 7) (eC (.int 1)))) (sAsg (eAnd (eV 5) (eCall (sp_law_alike_3 K) (aCons (eProp (He.ga K "Ledger") (sp_Ledger_slips K) (eV 0)) (aCons (eBin qIx (eV 3) (eC (.int 1))) aNil)))) 5) (sIf (eTest (eBin qEq (eV 7) (eC (.int 2)))) (sAsg (eAnd (eV 5) (eCall (sp_law_alike_3 K) (aCons (eProp (He.ga K "Ledger") (sp_Ledger_standing K) (eV 0)) (aCons (eBin qIx (eV 3) (eC (.int 2))) aNil)))) 5) (sIf (eTest (eBin qEq (eV 7) (eC (.int 3)))) (sAsg (eAnd (eV 5) (eCall (sp_law_alike_3 K) (aCons (eProp (He.ga K "Ledger") (sp_Ledger_waits K) (eV 0)) (aCons (eBin qIsNot (eBin qIx (eBin qIx (eV 3) (eC (.int 2))) (eC (.int 1))) (eC .non)) aNil)))) 5) (sAsg (eAnd (eV 5) (eBin qEq (eCB (qLenO (He.ga K "Ledger") (sp_Ledger_len K)) (aCons (eV 0) aNil)) (eCB qLen (aCons (eBin qIx (eV 3) (eC (.int 0))) aNil)))) 5))))))) (sRet (eV 5))))
theorem d_law_look (T : Txt K mg) (G_Ledger_sheet : Good P w K mg base 11 (pga K (He.ga K "Ledger") "sheet") ["self"] (sp_Ledger_sheet K)) (G_Sheet_base : Good P w K mg base 2 (pga K (He.ga K "Sheet") "base") ["self"] (sp_Sheet_base K)) (G_Sheet_rows : Good P w K mg base 2 (pga K (He.ga K "Sheet") "rows") ["self"] (sp_Sheet_rows K)) (G_law_alike_3 : Good P w K mg base 11 (He.ga K "_law_alike") ["told", "due"] (sp_law_alike_3 K)) (G_Sheet_columns : Good P w K mg base 2 (pga K (He.ga K "Sheet") "columns") ["self"] (sp_Sheet_columns K)) (G_Ledger_slips : Good P w K mg base 2 (pga K (He.ga K "Ledger") "slips") ["self"] (sp_Ledger_slips K)) (G_Ledger_standing : Good P w K mg base 8 (pga K (He.ga K "Ledger") "standing") ["self"] (sp_Ledger_standing K)) (G_Ledger_waits : Good P w K mg base 11 (pga K (He.ga K "Ledger") "waits") ["self"] (sp_Ledger_waits K)) (G_Ledger_len : Good P w K mg base 2 (He.ma K (He.ga K "Ledger") "__len__") ["self"] (sp_Ledger_len K)) : ∀ (cdv : Value) (A : Around) (outer : List Env) (s : Shared) (H : Hp) (E : XK) (B : Bs), Room 13 (A.deeper (envOfC "_law_look" (defScope s_law_look) s.heap.objs.size (He.ga K "_law_look") cdv)) → PSs (cx0 P w K mg base N_law_look "_law_look" (defScope s_law_look) (He.ga K "_law_look") cdv A outer s H E) (defBody s_law_look) (lS K B (t_law_look K)) := by
  intro cdv A outer s H E B hr
  exact (dss_cons (ds_set (i := 5) sc_law_look.nd rfl (Or.inl rfl) de_bl) (dss_cons (ds_for (tg := (.one 6)) PassesOwn.never rfl (di_range1 rfl T.n_range (da_cons de_int da_nil)) (pg_name (i := 6) sc_law_look.nd rfl (Or.inl rfl)) (dss_cons (ds_set (i := 7) sc_law_look.nd rfl (Or.inl rfl) (de_bin op_mod od_mod (de_callTy call_intA cd_int rfl T.n_int bt_int (da_cons (de_bin op_addA (od_add (o := false)) (de_bin op_mulA od_mul (dv 6) de_int) (dv 4)) da_nil)) de_int)) (dss_one (ds_if (dt_cmp (op_eqD hr.units) od_eq (dv 7) de_int (nomark _)) (dss_cons (ds_set (i := 8) sc_law_look.nd rfl (Or.inl rfl) (de_propG G_Ledger_sheet (hr.mono (by decide)) T.c_Ledger T.p_Ledger_sheet (dv 0))) (dss_cons (ds_set (i := 5) sc_law_look.nd rfl (Or.inl rfl) (de_and (dv 5) (de_and (de_callB (C8.call_isC T.ic_Sheet) cd_isiC rfl T.n_isinstance bt_isinstance (da_cons (dv 8) (da_cons (de_cls rfl T.g_Sheet) da_nil))) (de_and (de_cmp (op_eqD hr.units) od_eq (de_propG G_Sheet_base (hr.mono (by decide)) T.c_Sheet T.p_Sheet_base (dv 8)) (dv 1) (nomark _)) (de_one (de_cmp (op_eqD hr.units) od_eq (de_propG G_Sheet_rows (hr.mono (by decide)) T.c_Sheet T.p_Sheet_rows (dv 8)) (dv 2) (nomark _))))))) (dss_one (ds_set (i := 5) sc_law_look.nd rfl (Or.inl rfl) (de_and (dv 5) (de_one (de_callG G_law_alike_3 (hr.mono (by decide)) T.g_law_alike (da_cons (de_propG G_Sheet_columns (hr.mono (by decide)) T.c_Sheet T.p_Sheet_columns (dv 8)) (da_cons (de_ix (dv 3) de_int (fun _ _ => rfl)) da_nil))))))))) (dss_one (ds_if (dt_cmp (op_eqD hr.units) od_eq (dv 7) de_int (nomark _)) (dss_one (ds_set (i := 5) sc_law_look.nd rfl (Or.inl rfl) (de_and (dv 5) (de_one (de_callG G_law_alike_3 (hr.mono (by decide)) T.g_law_alike (da_cons (de_propG G_Ledger_slips (hr.mono (by decide)) T.c_Ledger T.p_Ledger_slips (dv 0)) (da_cons (de_ix (dv 3) de_int (fun _ _ => rfl)) da_nil))))))) (dss_one (ds_if (dt_cmp (op_eqD hr.units) od_eq (dv 7) de_int (nomark _)) (dss_one (ds_set (i := 5) sc_law_look.nd rfl (Or.inl rfl) (de_and (dv 5) (de_one (de_callG G_law_alike_3 (hr.mono (by decide)) T.g_law_alike (da_cons (de_propG G_Ledger_standing (hr.mono (by decide)) T.c_Ledger T.p_Ledger_standing (dv 0)) (da_cons (de_ix (dv 3) de_int (fun _ _ => rfl)) da_nil))))))) (dss_one (ds_if (dt_cmp (op_eqD hr.units) od_eq (dv 7) de_int (nomark _)) (dss_one (ds_set (i := 5) sc_law_look.nd rfl (Or.inl rfl) (de_and (dv 5) (de_one (de_callG G_law_alike_3 (hr.mono (by decide)) T.g_law_alike (da_cons (de_propG G_Ledger_waits (hr.mono (by decide)) T.c_Ledger T.p_Ledger_waits (dv 0)) (da_cons (de_cmp op_isNotA od_isNot (de_ix (de_ix (dv 3) de_int (fun _ _ => rfl)) de_int (fun _ _ => rfl)) de_non (nomark _)) da_nil))))))) (dss_one (ds_set (i := 5) sc_law_look.nd rfl (Or.inl rfl) (de_and (dv 5) (de_one (de_cmp (op_eqD hr.units) od_eq (de_callB (call_lenO G_Ledger_len (hr.mono (by decide)) T.sm_Ledger_len) cd_lenO rfl T.n_len bt_len (da_cons (dv 0) da_nil)) (de_callB call_lenA cd_len rfl T.n_len bt_len (da_cons (de_ix (dv 3) de_int (fun _ _ => rfl)) da_nil)) (nomark _)))))))))))))))) (dss_one (ds_ret (dv 5)))))
def u_law_run_3 (K : PySem.W.Frag) : DS := (sSeq (sIf (dAnd (eTest (eBin qEq (eBin qIx (eV 5) (eC (.int 0))) (eC (.str "forget")))) (eTest (eBin qEq (eV 8) (eC (.int 0))))) (sRet (eC .non)) sNext) (sSeq (sIf (eTest (eBin qEq (eBin qIx (eV 5) (eC (.int 0))) (eC (.str "forget")))) (sAsg (eC (.int 0)) 8) sNext) (sSeq (sIf (eTest (eBin qEq (eBin qIx (eV 5) (eC (.int 0))) (eC (.str "again")))) (sAsg (eBin (qAdd false) (eV 8) (eC (.int 1))) 8) sNext) (sIf (eTest (eBin qEq (eBin qIx (eV 5) (eC (.int 0))) (eC (.str "twice")))) (sSeq (sAsg (eBin (qAdd false) (eCB qSum (aCons (eV 10) aNil)) (eV 8)) 11) (sSeq (sDrop (eBM qApp (eV 6) (aCons (eBin (qMod) (eCB qInt (aCons (eV 11) aNil)) (eV 0)) aNil))) (sAsg (eBin (qFdiv) (eV 11) (eV 0)) 8))) sNext))))
def u_law_run_2 (K : PySem.W.Frag) : DS := (sSeq (sDrop (eBM qApp (eV 6) (aCons (eV 12) aNil))) (sSeq (sIf (eTest (eBin qIsNot (eV 7) (eC .non))) (sSeq (sDrop (eBM qApp (eV 6) (aCons (eV 7) aNil))) (sAsg (eC .non) 7)) sNext) (u_law_run_3 K)))
def u_law_run_1 (K : PySem.W.Frag) : DS := (sSeq (sPar 12 8 (aCons (eBin (qMod) (eCB qInt (aCons (eV 11) aNil)) (eV 0)) (aCons (eBin (qFdiv) (eV 11) (eV 0)) aNil))) (sSeq (sIf (eTest (eBin qEq (eBin qIx (eV 5) (eC (.int 0))) (eC (.str "swap")))) (sSeq (sAsg (eV 12) 7) sCont) sNext) (sSeq (sIf (eTest (eBin qEq (eBin qIx (eV 5) (eC (.int 0))) (eC (.str "off")))) (sAsg (eBin (qMod) (eCB qInt (aCons (eBin (qAdd false) (eV 12) (eBin qIx (eV 5) (eC (.int 1)))) aNil)) (eV 0)) 12) sNext) (u_law_run_2 K))))
def u_law_run_0 (K : PySem.W.Frag) : DS := (sSeq (sIf (eTest (eBin qEq (eBin qIx (eV 5) (eC (.int 0))) (eC (.str "out")))) sCont sNext) (sSeq (sAsg (eCB (qList true) (aCons (eBin qIx (eV 1) (eV 9)) aNil)) 10) (sSeq (sIf (eTest (eBin qEq (eBin qIx (eV 5) (eC (.int 0))) (eC (.str "copy")))) (sSub (eBin qIx (eBin qIx (eV 1) (eBin (qSub) (eV 9) (eC (.int 1)))) (eBin qIx (eV 5) (eC (.int 1)))) (eV 10) (eBin qIx (eV 5) (eC (.int 1)))) sNext) (sSeq (sIf (eTest (eBin qEq (eBin qIx (eV 5) (eC (.int 0))) (eC (.str "read")))) (sSub (eBin (qMod) (eCB qInt (aCons (eBin (qAdd false) (eBin qIx (eV 10) (eBin qIx (eV 5) (eC (.int 1)))) (eBin qIx (eV 5) (eC (.int 2)))) aNil)) (eV 0)) (eV 10) (eBin qIx (eV 5) (eC (.int 1)))) sNext) (sSeq (sAsg (eBin (qAdd false) (eCB qSum (aCons (eV 10) aNil)) (eV 8)) 11) (u_law_run_1 K))))))
def t_law_run (K : PySem.W.Frag) : DS := (sSeq (sAsg eDnew 3) (sSeq (sFor (iS (eV 2)) (.tup [4, 5]) (sDput (eV 3) (eV 4) (eV 5))) (sSeq (sPar3 6 7 8 (aCons (eLst true aNil) (aCons (eC .non) (aCons (eC (.int 0)) aNil)))) (sSeq (sFor (iR1 (aCons (eCB qLen (aCons (eV 1) aNil)) aNil)) (.one 9) (sSeq (sAsg (eDget (eV 3) (eV 9) (eTup (aCons (eC (.str "rightly")) aNil))) 5) (sSeq (sIf (dOr (dAnd (eTest (eDin (eV 9) (eV 3))) (eTest (eBin qIsNot (eV 7) (eC .non)))) (dAnd (eTest (eBin qEq (eBin qIx (eV 5) (eC (.int 0))) (eC (.str "copy")))) (eTest (eBin qEq (eV 9) (eC (.int 0)))))) (sRet (eC .non)) sNext) (u_law_run_0 K)))) (sRet (eFz (eTup (aCons (eV 6) (aCons (eV 7) (aCons (eV 8) aNil))))))))))
theorem d_law_run (T : Txt K mg) : ∀ (cdv : Value) (A : Around) (outer : List Env) (s : Shared) (H : Hp) (E : XK) (B : Bs), Room 1 (A.deeper (envOfC "_law_run" (defScope s_law_run) s.heap.objs.size (He.ga K "_law_run") cdv)) → PSs (cx0 P w K mg base N_law_run "_law_run" (defScope s_law_run) (He.ga K "_law_run") cdv A outer s H E) (defBody s_law_run) (lS K B (t_law_run K)) := by
  intro cdv A outer s H E B hr
  have h : PSs (cx0 P w K mg base N_law_run "_law_run" (defScope s_law_run) (He.ga K "_law_run") cdv A outer s H E) (defBody s_law_run) (lS K B (sSeq (sAsg eDnew 3) (sSeq (sFor (iS (eV 2)) (.tup [4, 5]) (sDput (eV 3) (eV 4) (eV 5))) (sSeq (sPar3 6 7 8 (aCons (eLst true aNil) (aCons (eC .non) (aCons (eC (.int 0)) aNil)))) (sSeq (sFor (iR1 (aCons (eCB qLen (aCons (eV 1) aNil)) aNil)) (.one 9) (sSeq (sAsg (eDget (eV 3) (eV 9) (eTup (aCons (eC (.str "rightly")) aNil))) 5) (sSeq (sIf (dOr (dAnd (eTest (eDin (eV 9) (eV 3))) (eTest (eBin qIsNot (eV 7) (eC .non)))) (dAnd (eTest (eBin qEq (eBin qIx (eV 5) (eC (.int 0))) (eC (.str "copy")))) (eTest (eBin qEq (eV 9) (eC (.int 0)))))) (sRet (eC .non)) sNext) (sSeq (sIf (eTest (eBin qEq (eBin qIx (eV 5) (eC (.int 0))) (eC (.str "out")))) sCont sNext) (sSeq (sAsg (eCB (qList true) (aCons (eBin qIx (eV 1) (eV 9)) aNil)) 10) (sSeq (sIf (eTest (eBin qEq (eBin qIx (eV 5) (eC (.int 0))) (eC (.str "copy")))) (sSub (eBin qIx (eBin qIx (eV 1) (eBin (qSub) (eV 9) (eC (.int 1)))) (eBin qIx (eV 5) (eC (.int 1)))) (eV 10) (eBin qIx (eV 5) (eC (.int 1)))) sNext) (sSeq (sIf (eTest (eBin qEq (eBin qIx (eV 5) (eC (.int 0))) (eC (.str "read")))) (sSub (eBin (qMod) (eCB qInt (aCons (eBin (qAdd false) (eBin qIx (eV 10) (eBin qIx (eV 5) (eC (.int 1)))) (eBin qIx (eV 5) (eC (.int 2)))) aNil)) (eV 0)) (eV 10) (eBin qIx (eV 5) (eC (.int 1)))) sNext) (sSeq (sAsg (eBin (qAdd false) (eCB qSum (aCons (eV 10) aNil)) (eV 8)) 11) (sSeq (sPar 12 8 (aCons (eBin (qMod) (eCB qInt (aCons (eV 11) aNil)) (eV 0)) (aCons (eBin (qFdiv) (eV 11) (eV 0)) aNil))) (sSeq (sIf (eTest (eBin qEq (eBin qIx (eV 5) (eC (.int 0))) (eC (.str "swap")))) (sSeq (sAsg (eV 12) 7) sCont) sNext) (sSeq (sIf (eTest (eBin qEq (eBin qIx (eV 5) (eC (.int 0))) (eC (.str "off")))) (sAsg (eBin (qMod) (eCB qInt (aCons (eBin (qAdd false) (eV 12) (eBin qIx (eV 5) (eC (.int 1)))) aNil)) (eV 0)) 12) sNext) (sSeq (sDrop (eBM qApp (eV 6) (aCons (eV 12) aNil))) (sSeq (sIf (eTest (eBin qIsNot (eV 7) (eC .non))) (sSeq (sDrop (eBM qApp (eV 6) (aCons (eV 7) aNil))) (sAsg (eC .non) 7)) sNext) (sSeq (sIf (dAnd (eTest (eBin qEq (eBin qIx (eV 5) (eC (.int 0))) (eC (.str "forget")))) (eTest (eBin qEq (eV 8) (eC (.int 0))))) (sRet (eC .non)) sNext) (sSeq (sIf (eTest (eBin qEq (eBin qIx (eV 5) (eC (.int 0))) (eC (.str "forget")))) (sAsg (eC (.int 0)) 8) sNext) (sSeq (sIf (eTest (eBin qEq (eBin qIx (eV 5) (eC (.int 0))) (eC (.str "again")))) (sAsg (eBin (qAdd false) (eV 8) (eC (.int 1))) 8) sNext) (sIf (eTest (eBin qEq (eBin qIx (eV 5) (eC (.int 0))) (eC (.str "twice")))) (sSeq (sAsg (eBin (qAdd false) (eCB qSum (aCons (eV 10) aNil)) (eV 8)) 11) (sSeq (sDrop (eBM qApp (eV 6) (aCons (eBin (qMod) (eCB qInt (aCons (eV 11) aNil)) (eV 0)) aNil))) (sAsg (eBin (qFdiv) (eV 11) (eV 0)) 8))) sNext))))))))))))))))) (sRet (eFz (eTup (aCons (eV 6) (aCons (eV 7) (aCons (eV 8) aNil))))))))))) := (dss_cons (ds_set (i := 3) sc_law_run.nd rfl (Or.inl rfl) de_dnew) (dss_cons (ds_for (tg := (.tup [4, 5])) PassesOwn.never rfl (di_any (dv 2)) (pg_tup rfl (pgs_cons (pg_name (i := 4) sc_law_run.nd rfl (Or.inl rfl)) (pgs_cons (pg_name (i := 5) sc_law_run.nd rfl (Or.inl rfl)) pgs_nil))) (dss_one (ds_dput (units1 hr) (dv 5) (dv 3) (dv 4)))) (dss_cons (ds_par3 (i := 6) (j := 7) (l := 8) rfl sc_law_run.nd rfl rfl rfl (by decide) (by decide) (by decide) rfl rfl rfl (da_cons (de_lst (o := true) da_nil) (da_cons de_non (da_cons de_int da_nil)))) (dss_cons (ds_for (tg := (.one 9)) PassesOwn.never rfl (di_range1 rfl T.n_range (da_cons (de_callB call_lenA cd_len rfl T.n_len bt_len (da_cons (dv 1) da_nil)) da_nil)) (pg_name (i := 9) sc_law_run.nd rfl (Or.inl rfl)) (dss_cons (ds_set (i := 5) sc_law_run.nd rfl (Or.inl rfl) (de_dget (units1 hr) (dv 3) (dv 9) (de_tup (da_cons de_str da_nil)) ⟨rfl, rfl, rfl, rfl⟩)) (dss_cons (ds_if (PW.pt (dw_or (PW.pt (dw_and (dt_din (units1 hr) (dv 9) (dv 3) rfl) (dw_and1 (dt_cmp op_isNotA od_isNot (dv 7) de_non (nomark _))))) (dw_or1 (PW.pt (dw_and (dt_cmp (op_eqD hr.units) od_eq (de_ix (dv 5) de_int (fun _ _ => rfl)) de_str (nomark _)) (dw_and1 (dt_cmp (op_eqD hr.units) od_eq (dv 9) de_int (nomark _)))))))) (dss_one (ds_ret de_non)) dss_nil) (dss_cons (ds_if (dt_cmp (op_eqD hr.units) od_eq (de_ix (dv 5) de_int (fun _ _ => rfl)) de_str (nomark _)) (dss_one ds_continue) dss_nil) (dss_cons (ds_set (i := 10) sc_law_run.nd rfl (Or.inl rfl) (de_callTy call_listA (cd_list (o := true)) rfl T.n_list bt_list (da_cons (de_ix (dv 1) (dv 9) (fun _ _ => rfl)) da_nil))) (dss_cons (ds_if (dt_cmp (op_eqD hr.units) od_eq (de_ix (dv 5) de_int (fun _ _ => rfl)) de_str (nomark _)) (dss_one (ds_sub (de_ix (de_ix (dv 1) (de_bin op_sub od_sub (dv 9) de_int) (fun _ _ => rfl)) (de_ix (dv 5) de_int (fun _ _ => rfl)) (fun _ _ => rfl)) (dv 10) (de_ix (dv 5) de_int (fun _ _ => rfl)))) dss_nil) (dss_cons (ds_if (dt_cmp (op_eqD hr.units) od_eq (de_ix (dv 5) de_int (fun _ _ => rfl)) de_str (nomark _)) (dss_one (ds_sub (de_bin op_mod od_mod (de_callTy call_intA cd_int rfl T.n_int bt_int (da_cons (de_bin op_addA (od_add (o := false)) (de_ix (dv 10) (de_ix (dv 5) de_int (fun _ _ => rfl)) (fun _ _ => rfl)) (de_ix (dv 5) de_int (fun _ _ => rfl))) da_nil)) (dv 0)) (dv 10) (de_ix (dv 5) de_int (fun _ _ => rfl)))) dss_nil) (dss_cons (ds_set (i := 11) sc_law_run.nd rfl (Or.inl rfl) (de_bin op_addA (od_add (o := false)) (de_callB (call_sumA rfl) cd_sum rfl T.n_sum bt_sum (da_cons (dv 10) da_nil)) (dv 8))) (dss_cons (ds_par (i := 12) (j := 8) rfl sc_law_run.nd rfl rfl (by decide) rfl rfl (da_cons (de_bin op_mod od_mod (de_callTy call_intA cd_int rfl T.n_int bt_int (da_cons (dv 11) da_nil)) (dv 0)) (da_cons (de_bin op_fdivA od_fdiv (dv 11) (dv 0)) da_nil))) (dss_cons (ds_if (dt_cmp (op_eqD hr.units) od_eq (de_ix (dv 5) de_int (fun _ _ => rfl)) de_str (nomark _)) (dss_cons (ds_set (i := 7) sc_law_run.nd rfl (Or.inl rfl) (dv 12)) (dss_one ds_continue)) dss_nil) (dss_cons (ds_if (dt_cmp (op_eqD hr.units) od_eq (de_ix (dv 5) de_int (fun _ _ => rfl)) de_str (nomark _)) (dss_one (ds_set (i := 12) sc_law_run.nd rfl (Or.inl rfl) (de_bin op_mod od_mod (de_callTy call_intA cd_int rfl T.n_int bt_int (da_cons (de_bin op_addA (od_add (o := false)) (dv 12) (de_ix (dv 5) de_int (fun _ _ => rfl))) da_nil)) (dv 0)))) dss_nil) (dss_cons (ds_expr (de_bm PySem.F.plainAttrs_list PySem.F.slot_list_append PySem.F.type_list_append mt_append md_app (dv 6) (da_cons (dv 12) da_nil))) (dss_cons (ds_if (dt_cmp op_isNotA od_isNot (dv 7) de_non (nomark _)) (dss_cons (ds_expr (de_bm PySem.F.plainAttrs_list PySem.F.slot_list_append PySem.F.type_list_append mt_append md_app (dv 6) (da_cons (dv 7) da_nil))) (dss_one (ds_set (i := 7) sc_law_run.nd rfl (Or.inl rfl) de_non))) dss_nil) (dss_cons (ds_if (PW.pt (dw_and (dt_cmp (op_eqD hr.units) od_eq (de_ix (dv 5) de_int (fun _ _ => rfl)) de_str (nomark _)) (dw_and1 (dt_cmp (op_eqD hr.units) od_eq (dv 8) de_int (nomark _))))) (dss_one (ds_ret de_non)) dss_nil) (dss_cons (ds_if (dt_cmp (op_eqD hr.units) od_eq (de_ix (dv 5) de_int (fun _ _ => rfl)) de_str (nomark _)) (dss_one (ds_set (i := 8) sc_law_run.nd rfl (Or.inl rfl) de_int)) dss_nil) (dss_cons (ds_if (dt_cmp (op_eqD hr.units) od_eq (de_ix (dv 5) de_int (fun _ _ => rfl)) de_str (nomark _)) (dss_one (ds_set (i := 8) sc_law_run.nd rfl (Or.inl rfl) (de_bin op_addA (od_add (o := false)) (dv 8) de_int))) dss_nil) (dss_one (ds_if (dt_cmp (op_eqD hr.units) od_eq (de_ix (dv 5) de_int (fun _ _ => rfl)) de_str (nomark _)) (dss_cons (ds_set (i := 11) sc_law_run.nd rfl (Or.inl rfl) (de_bin op_addA (od_add (o := false)) (de_callB (call_sumA rfl) cd_sum rfl T.n_sum bt_sum (da_cons (dv 10) da_nil)) (dv 8))) (dss_cons (ds_expr (de_bm PySem.F.plainAttrs_list PySem.F.slot_list_append PySem.F.type_list_append mt_append md_app (dv 6) (da_cons (de_bin op_mod od_mod (de_callTy call_intA cd_int rfl T.n_int bt_int (da_cons (dv 11) da_nil)) (dv 0)) da_nil))) (dss_one (ds_set (i := 8) sc_law_run.nd rfl (Or.inl rfl) (de_bin op_fdivA od_fdiv (dv 11) (dv 0)))))) dss_nil)))))))))))))))))) (dss_one (ds_ret (de_fz (de_tup (da_cons (dv 6) (da_cons (dv 7) (da_cons (dv 8) da_nil)))))))))))
  exact h
def t_law_value (K : PySem.W.Frag) : DS := (sSeq (sAsg (eV 2) 3) (sSeq (sFor (iS (eRev false (eV 1))) (.one 4) (sAsg (eBin (qAdd false) (eBin (qMul) (eV 3) (eV 0)) (eV 4)) 3)) (sRet (eV 3))))
theorem d_law_value (T : Txt K mg) : ∀ (cdv : Value) (A : Around) (outer : List Env) (s : Shared) (H : Hp) (E : XK) (B : Bs), Room 1 (A.deeper (envOfC "_law_value" (defScope s_law_value) s.heap.objs.size (He.ga K "_law_value") cdv)) → PSs (cx0 P w K mg base N_law_value "_law_value" (defScope s_law_value) (He.ga K "_law_value") cdv A outer s H E) (defBody s_law_value) (lS K B (t_law_value K)) := by
  intro cdv A outer s H E B hr
  exact (dss_cons (ds_set (i := 3) sc_law_value.nd rfl (Or.inl rfl) (dv 2)) (dss_cons (ds_for (tg := (.one 4)) PassesOwn.never rfl (di_any (de_rev (o := false) (dv 1))) (pg_name (i := 4) sc_law_value.nd rfl (Or.inl rfl)) (dss_one (ds_set (i := 3) sc_law_value.nd rfl (Or.inl rfl) (de_bin op_addA (od_add (o := false)) (de_bin op_mulA od_mul (dv 3) (dv 0)) (dv 4))))) (dss_one (ds_ret (dv 3)))))
def t_law_standing (K : PySem.W.Frag) : DS := (sSeq (sAsgT (eCall (sp_law_run K) (aCons (eV 0) (aCons (eV 4) (aCons (eV 5) aNil)))) (.tup [6, 7, 8])) (sSeq (sAsg (eCB (qList true) (aCons (eV 6) aNil)) 9) (sSeq (sAsg (eC .non) 10) (sSeq (sIf (eTest (eBin qIsNot (eV 7) (eC .non))) (sDrop (eBM qApp (eV 9) (aCons (eV 7) aNil))) sNext) (sSeq (sIf (eTest (eBin qNe (eV 4) (eLst false aNil))) (sAsg (eCB qTuple (aCons (eLc false (iS (eV 1)) (.one 16) (eTest (eBin qEq (eBin qIx (eV 16) (eC (.int 0))) (eC (.str "copy")))) (eBin qIx (eBin qIx (eV 4) (eNeg (eC (.int 1)))) (eBin qIx (eV 16) (eC (.int 1)))) [16]) aNil)) 10) sNext) (sSeq (sAsg (eBin (qSub) (eCall (sp_law_value K) (aCons (eV 0) (aCons (eV 9) (aCons (eV 8) aNil)))) (eCall (sp_law_value K) (aCons (eV 0) (aCons (eLc false (iS (eV 4)) (.one 17) dYes (eCB qSum (aCons (eV 17) aNil)) [17]) (aCons (eC (.int 0)) aNil))))) 11) (sSeq (sAsg (eCall (sp_law_power K) (aCons (eV 0) (aCons (eCB qMin2 (aCons (eCB qLen (aCons (eV 4) aNil)) (aCons (eCB qLen (aCons (eV 6) aNil)) aNil))) aNil))) 12) (sSeq (sAsg (eC .non) 13) (sSeq (sIf (eTest (eBin qEq (eBin (qMod) (eCB qInt (aCons (eV 11) aNil)) (eV 12)) (eC (.int 0)))) (sAsg (eBin (qFdiv) (eV 11) (eV 12)) 13) sNext) (sSeq (sAsg (eLst false (aCons (eCall (sp_law_power K) (aCons (eV 0) (aCons (eCB qLen (aCons (eV 4) aNil)) aNil))) (aCons (eCall (sp_law_power K) (aCons (eV 0) (aCons (eCB qLen (aCons (eV 6) aNil)) aNil))) aNil))) 14) (sSeq (sAsg (eCB qTuple (aCons (eLc false (iS (eV 2)) (.one 18) dYes (eTup (aCons (eBin (qMod) (eCB qInt (aCons (eV 11) aNil)) (eV 18)) (aCons (eBin (qMod) (eCB qInt (aCons (eBin qIx (eV 14) (eC (.int 0))) aNil)) (eV 18)) (aCons (eBin (qMod) (eCB qInt (aCons (eBin qIx (eV 14) (eC (.int 1))) aNil)) (eV 18)) aNil)))) [18]) aNil)) 15) (sRet (eTup (aCons (eBin (qSub) (eV 3) (eCB qLen (aCons (eV 5) aNil))) (aCons (eV 7) (aCons (eV 10) (aCons (eV 8) (aCons (eBin (qSub) (eCB qLen (aCons (eV 6) aNil)) (eCB qLen (aCons (eV 4) aNil))) (aCons (eV 13) (aCons (eV 15) aNil))))))))))))))))))))
theorem d_law_standing (T : Txt K mg) (G_law_run : Good P w K mg base 2 (He.ga K "_law_run") ["base", "cols", "slips"] (sp_law_run K)) (G_law_value : Good P w K mg base 2 (He.ga K "_law_value") ["base", "figures", "last"] (sp_law_value K)) (G_law_power : Good P w K mg base 2 (He.ga K "_law_power") ["base", "many"] (sp_law_power K)) : ∀ (cdv : Value) (A : Around) (outer : List Env) (s : Shared) (H : Hp) (E : XK) (B : Bs), Room 4 (A.deeper (envOfC "_law_standing" (defScope s_law_standing) s.heap.objs.size (He.ga K "_law_standing") cdv)) → PSs (cx0 P w K mg base N_law_standing "_law_standing" (defScope s_law_standing) (He.ga K "_law_standing") cdv A outer s H E) (defBody s_law_standing) (lS K B (t_law_standing K)) := by
  intro cdv A outer s H E B hr
  exact (dss_cons (ds_asgT (tg := (.tup [6, 7, 8])) (de_callG G_law_run (hr.mono (by decide)) T.g_law_run (da_cons (dv 0) (da_cons (dv 4) (da_cons (dv 5) da_nil)))) (pg_tup rfl (pgs_cons (pg_name (i := 6) sc_law_standing.nd rfl (Or.inl rfl)) (pgs_cons (pg_name (i := 7) sc_law_standing.nd rfl (Or.inl rfl)) (pgs_cons (pg_name (i := 8) sc_law_standing.nd rfl (Or.inl rfl)) pgs_nil))))) (dss_cons (ds_set (i := 9) sc_law_standing.nd rfl (Or.inl rfl) (de_callTy call_listA (cd_list (o := true)) rfl T.n_list bt_list (da_cons (dv 6) da_nil))) (dss_cons (ds_set (i := 10) sc_law_standing.nd rfl (Or.inl rfl) de_non) (dss_cons (ds_if (dt_cmp op_isNotA od_isNot (dv 7) de_non (nomark _)) (dss_one (ds_expr (de_bm PySem.F.plainAttrs_list PySem.F.slot_list_append PySem.F.type_list_append mt_append md_app (dv 9) (da_cons (dv 7) da_nil)))) dss_nil) (dss_cons (ds_if (dt_cmp (op_neD hr.units) od_ne (dv 4) (de_lst (o := false) da_nil) (nomark _)) (dss_one (ds_set (i := 10) sc_law_standing.nd rfl (Or.inl rfl) (de_callTy call_tupleA cd_tuple rfl T.n_tuple bt_tuple (da_cons (de_lc (o := false) (own := [("act", 16)]) (tg := (.one 16)) rfl sc_law_standing.nd (di_any (dv 1)) (blkOk_by (own := [("act", 16)]) (N := N_law_standing) (sc := defScope s_law_standing) (by decide +kernel)) (by decide) (fun _ _ _ _ _ => (pg_name (i := 16) sc_law_standing.nd rfl (Or.inl rfl))) (fun _ _ _ _ _ => (dts_one (dt_cmp (op_eqD hr.units) od_eq (de_ix (dv 16) de_int (fun _ _ => rfl)) de_str (nomark _)))) (fun _ _ _ _ _ => (de_ix (de_ix (dv 4) (de_neg de_int) (fun _ _ => rfl)) (de_ix (dv 16) de_int (fun _ _ => rfl)) (fun _ _ => rfl)))) da_nil)))) dss_nil) (dss_cons (ds_set (i := 11) sc_law_standing.nd rfl (Or.inr rfl) (de_bin op_sub od_sub (de_callG G_law_value (hr.mono (by decide)) T.g_law_value (da_cons (dv 0) (da_cons (dv 9) (da_cons (dv 8) da_nil)))) (de_callG G_law_value (hr.mono (by decide)) T.g_law_value (da_cons (dv 0) (da_cons (de_lc (o := false) (own := [("column", 17)]) (tg := (.one 17)) rfl sc_law_standing.nd (di_any (dv 4)) (blkOk_by (own := [("column", 17)]) (N := N_law_standing) (sc := defScope s_law_standing) (by decide +kernel)) (by decide) (fun _ _ _ _ _ => (pg_name (i := 17) sc_law_standing.nd rfl (Or.inl rfl))) (fun _ _ _ _ _ => dts_nil) (fun _ _ _ _ _ => (de_callB (call_sumA rfl) cd_sum rfl T.n_sum bt_sum (da_cons (dv 17) da_nil)))) (da_cons de_int da_nil)))))) (dss_cons (ds_set (i := 12) sc_law_standing.nd rfl (Or.inl rfl) (de_callG G_law_power (hr.mono (by decide)) T.g_law_power (da_cons (dv 0) (da_cons (de_callB (call_min2 rfl) cd_min2 rfl T.n_min bt_min (da_cons (de_callB call_lenA cd_len rfl T.n_len bt_len (da_cons (dv 4) da_nil)) (da_cons (de_callB call_lenA cd_len rfl T.n_len bt_len (da_cons (dv 6) da_nil)) da_nil))) da_nil)))) (dss_cons (ds_set (i := 13) sc_law_standing.nd rfl (Or.inl rfl) de_non) (dss_cons (ds_if (dt_cmp (op_eqD hr.units) od_eq (de_bin op_mod od_mod (de_callTy call_intA cd_int rfl T.n_int bt_int (da_cons (dv 11) da_nil)) (dv 12)) de_int (nomark _)) (dss_one (ds_set (i := 13) sc_law_standing.nd rfl (Or.inl rfl) (de_bin op_fdivA od_fdiv (dv 11) (dv 12)))) dss_nil) (dss_cons (ds_set (i := 14) sc_law_standing.nd rfl (Or.inr rfl) (de_lst (o := false) (da_cons (de_callG G_law_power (hr.mono (by decide)) T.g_law_power (da_cons (dv 0) (da_cons (de_callB call_lenA cd_len rfl T.n_len bt_len (da_cons (dv 4) da_nil)) da_nil))) (da_cons (de_callG G_law_power (hr.mono (by decide)) T.g_law_power (da_cons (dv 0) (da_cons (de_callB call_lenA cd_len rfl T.n_len bt_len (da_cons (dv 6) da_nil)) da_nil))) da_nil)))) (dss_cons (ds_set (i := 15) sc_law_standing.nd rfl (Or.inl rfl) (de_callTy call_tupleA cd_tuple rfl T.n_tuple bt_tuple (da_cons (de_lc (o := false) (own := [("r", 18)]) (tg := (.one 18)) rfl sc_law_standing.nd (di_any (dv 2)) (blkOk_by (own := [("r", 18)]) (N := N_law_standing) (sc := defScope s_law_standing) (by decide +kernel)) (by decide) (fun _ _ _ _ _ => (pg_name (i := 18) sc_law_standing.nd rfl (Or.inl rfl))) (fun _ _ _ _ _ => dts_nil) (fun _ _ _ _ _ => (de_tup (da_cons (de_bin op_mod od_mod (de_callTy call_intA cd_int rfl T.n_int bt_int (da_cons (dv 11) da_nil)) (dv 18)) (da_cons (de_bin op_mod od_mod (de_callTy call_intA cd_int rfl T.n_int bt_int (da_cons (de_ix (dv 14) de_int (fun _ _ => rfl)) da_nil)) (dv 18)) (da_cons (de_bin op_mod od_mod (de_callTy call_intA cd_int rfl T.n_int bt_int (da_cons (de_ix (dv 14) de_int (fun _ _ => rfl)) da_nil)) (dv 18)) da_nil)))))) da_nil))) (dss_one (ds_ret (de_tup (da_cons (de_bin op_sub od_sub (dv 3) (de_callB call_lenA cd_len rfl T.n_len bt_len (da_cons (dv 5) da_nil))) (da_cons (dv 7) (da_cons (dv 10) (da_cons (dv 8) (da_cons (de_bin op_sub od_sub (de_callB call_lenA cd_len rfl T.n_len bt_len (da_cons (dv 6) da_nil)) (de_callB call_lenA cd_len rfl T.n_len bt_len (da_cons (dv 4) da_nil))) (da_cons (dv 13) (da_cons (dv 15) da_nil)))))))))))))))))))))
def t_law_column (K : PySem.W.Frag) : DS := (sSeq (sIf (eTest (eBin qEq (eCall (sp_law_draw K) (aCons (eV 0) (aCons (eC (.int 4)) aNil))) (eC (.int 3)))) (sRet (eBin (qRepT) (eTup (aCons (eBin (qSub) (eV 1) (eC (.int 1))) aNil)) (eV 2))) sNext) (sRet (eCB qTuple (aCons (eLc false (iR1 (aCons (eV 2) aNil)) (.one 3) dYes (eCall (sp_law_draw K) (aCons (eV 0) (aCons (eV 1) aNil))) [3]) aNil))))
theorem d_law_column (T : Txt K mg) (G_law_draw : Good P w K mg base 2 (He.ga K "_law_draw") ["pool", "many"] (sp_law_draw K)) : ∀ (cdv : Value) (A : Around) (outer : List Env) (s : Shared) (H : Hp) (E : XK) (B : Bs), Room 4 (A.deeper (envOfC "_law_column" (defScope s_law_column) s.heap.objs.size (He.ga K "_law_column") cdv)) → PSs (cx0 P w K mg base N_law_column "_law_column" (defScope s_law_column) (He.ga K "_law_column") cdv A outer s H E) (defBody s_law_column) (lS K B (t_law_column K)) := by
  intro cdv A outer s H E B hr
  exact (dss_cons (ds_if (dt_cmp (op_eqD hr.units) od_eq (de_callG G_law_draw (hr.mono (by decide)) T.g_law_draw (da_cons (dv 0) (da_cons de_int da_nil))) de_int (nomark _)) (dss_one (ds_ret (de_bin op_repA od_rep (de_tup (da_cons (de_bin op_sub od_sub (dv 1) de_int) da_nil)) (dv 2)))) dss_nil) (dss_one (ds_ret (de_callTy call_tupleA cd_tuple rfl T.n_tuple bt_tuple (da_cons (de_lc (o := false) (own := [("j", 3)]) (tg := (.one 3)) rfl sc_law_column.nd (di_range1 rfl T.n_range (da_cons (dv 2) da_nil)) (blkOk_by (own := [("j", 3)]) (N := N_law_column) (sc := defScope s_law_column) (by decide +kernel)) (by decide) (fun _ _ _ _ _ => (pg_name (i := 3) sc_law_column.nd rfl (Or.inl rfl))) (fun _ _ _ _ _ => dts_nil) (fun _ _ _ _ _ => (de_callG G_law_draw (hr.mono (by decide)) T.g_law_draw (da_cons (dv 0) (da_cons (dv 1) da_nil))))) da_nil)))))
def t_law_possible (K : PySem.W.Frag) : DS := (sSeq (sIf (dOr (eTest (eBin qEq (eCB qLen (aCons (eV 4) aNil)) (eV 2))) (eTest (eBin qIsNot (eBin qIx (eCall (sp_law_run K) (aCons (eV 0) (aCons (eV 3) (aCons (eV 4) aNil)))) (eC (.int 1))) (eC .non)))) (sRet (eLst false (aCons (eC .non) aNil))) sNext) (sSeq (sAsg (eCB qLen (aCons (eV 3) aNil)) 6) (sRet (eBin (qAdd false) (eLst false (aCons (eC .non) aNil)) (eLc false (iS (eV 1)) (.one 7) (eTest (eBin qIsNot (eCall (sp_law_run K) (aCons (eV 0) (aCons (eBin (qAdd false) (eV 3) (eLst false (aCons (eV 5) aNil))) (aCons (eBin (qAdd false) (eV 4) (eLst false (aCons (eTup (aCons (eV 6) (aCons (eV 7) aNil))) aNil))) aNil)))) (eC .non))) (eV 7) [7])))))
theorem d_law_possible (T : Txt K mg) (G_law_run : Good P w K mg base 2 (He.ga K "_law_run") ["base", "cols", "slips"] (sp_law_run K)) : ∀ (cdv : Value) (A : Around) (outer : List Env) (s : Shared) (H : Hp) (E : XK) (B : Bs), Room 4 (A.deeper (envOfC "_law_possible" (defScope s_law_possible) s.heap.objs.size (He.ga K "_law_possible") cdv)) → PSs (cx0 P w K mg base N_law_possible "_law_possible" (defScope s_law_possible) (He.ga K "_law_possible") cdv A outer s H E) (defBody s_law_possible) (lS K B (t_law_possible K)) := by
  intro cdv A outer s H E B hr
  exact (dss_cons (ds_if (PW.pt (dw_or (dt_cmp (op_eqD hr.units) od_eq (de_callB call_lenA cd_len rfl T.n_len bt_len (da_cons (dv 4) da_nil)) (dv 2) (nomark _)) (dw_or1 (dt_cmp op_isNotA od_isNot (de_ix (de_callG G_law_run (hr.mono (by decide)) T.g_law_run (da_cons (dv 0) (da_cons (dv 3) (da_cons (dv 4) da_nil)))) de_int (fun _ _ => rfl)) de_non (nomark _))))) (dss_one (ds_ret (de_lst (o := false) (da_cons de_non da_nil)))) dss_nil) (dss_cons (ds_set (i := 6) sc_law_possible.nd rfl (Or.inr rfl) (de_callB call_lenA cd_len rfl T.n_len bt_len (da_cons (dv 3) da_nil))) (dss_one (ds_ret (de_bin op_addA (od_add (o := false)) (de_lst (o := false) (da_cons de_non da_nil)) (de_lc (o := false) (own := [("act", 7)]) (tg := (.one 7)) rfl sc_law_possible.nd (di_any (dv 1)) (blkOk_by (own := [("act", 7)]) (N := N_law_possible) (sc := defScope s_law_possible) (by decide +kernel)) (by decide) (fun _ _ _ _ _ => (pg_name (i := 7) sc_law_possible.nd rfl (Or.inl rfl))) (fun _ _ _ _ _ => (dts_one (dt_cmp op_isNotA od_isNot (de_callG G_law_run (hr.mono (by decide)) T.g_law_run (da_cons (dv 0) (da_cons (de_bin op_addA (od_add (o := false)) (dv 3) (de_lst (o := false) (da_cons (dv 5) da_nil))) (da_cons (de_bin op_addA (od_add (o := false)) (dv 4) (de_lst (o := false) (da_cons (de_tup (da_cons (dv 6) (da_cons (dv 7) da_nil))) da_nil))) da_nil)))) de_non (nomark _)))) (fun _ _ _ _ _ => (dv 7))))))))
def t_Kind_contains (K : PySem.W.Frag) : DS := (sRet (eAnd (eCall (sp_is_deed K) (aCons (eV 1) (aCons (eFld (He.ga K "Kind") "held_base" (eV 0)) (aCons (eFld (He.ga K "Kind") "held_rows" (eV 0)) aNil)))) (eBin (qIn false) (eV 1) (eFld (He.ga K "Kind") "held_deeds" (eV 0)))))
theorem d_Kind_contains (T : Txt K mg) (G_is_deed : Good P w K mg base 5 (He.ga K "is_deed") ["value", "base", "rows"] (sp_is_deed K)) : ∀ (cdv : Value) (A : Around) (outer : List Env) (s : Shared) (H : Hp) (E : XK) (B : Bs), Room 7 (A.deeper (envOfC "Kind.__contains__" (defScope s_Kind_contains) s.heap.objs.size (He.ma K (He.ga K "Kind") "__contains__") cdv)) → PSs (cx0 P w K mg base N_Kind_contains "Kind.__contains__" (defScope s_Kind_contains) (He.ma K (He.ga K "Kind") "__contains__") cdv A outer s H E) (defBody s_Kind_contains) (lS K B (t_Kind_contains K)) := by
  intro cdv A outer s H E B hr
  exact (dss_one (ds_ret (de_and (de_callG G_is_deed (hr.mono (by decide)) T.g_is_deed (da_cons (dv 1) (da_cons (de_fld T.c_Kind T.na_Kind_held_base (dv 0)) (da_cons (de_fld T.c_Kind T.na_Kind_held_rows (dv 0)) da_nil)))) (de_one (de_cmp (op_inA (units5 hr)) od_in (dv 1) (de_fld T.c_Kind T.na_Kind_held_deeds (dv 0)) rfl)))))
def t_done_rightly (K : PySem.W.Frag) : DS := (sSeq (sPar 3 4 (aCons (eBin qIx (eV 1) (eC (.int 1))) (aCons (eBin qIx (eV 1) (eC (.int 3))) aNil))) (sSeq (sAsg (eCB qSum (aCons (eV 2) aNil)) 5) (sSeq (sAsg (eBin (qMod) (eBin (qAdd false) (eV 5) (eV 4)) (eV 0)) 6) (sSeq (sAsg (eBin (qFdiv) (eBin (qAdd false) (eV 5) (eV 4)) (eV 0)) 4) (sSeq (sIf (eTest (eBin qIs (eV 3) (eC .non))) (sRet (eTup (aCons (eV 5) (aCons (eC (.int 1)) (aCons (eV 4) (aCons (eC .non) aNil)))))) sNext) (sRet (eTup (aCons (eBin (qAdd false) (eBin (qMul) (eBin (qSub) (eV 6) (eV 3)) (eBin (qSub) (eC (.int 1)) (eV 0))) (eBin (qMul) (eV 5) (eV 0))) (aCons (eC (.int 2)) (aCons (eV 4) (aCons (eC .non) aNil)))))))))))
theorem d_done_rightly (T : Txt K mg) : ∀ (cdv : Value) (A : Around) (outer : List Env) (s : Shared) (H : Hp) (E : XK) (B : Bs), Room 1 (A.deeper (envOfC "done_rightly" (defScope s_done_rightly) s.heap.objs.size (He.ga K "done_rightly") cdv)) → PSs (cx0 P w K mg base N_done_rightly "done_rightly" (defScope s_done_rightly) (He.ga K "done_rightly") cdv A outer s H E) (defBody s_done_rightly) (lS K B (t_done_rightly K)) := by
  intro cdv A outer s H E B hr
  exact (dss_cons (ds_par (i := 3) (j := 4) rfl sc_done_rightly.nd rfl rfl (by decide) rfl rfl (da_cons (de_ix (dv 1) de_int (fun _ _ => rfl)) (da_cons (de_ix (dv 1) de_int (fun _ _ => rfl)) da_nil))) (dss_cons (ds_set (i := 5) sc_done_rightly.nd rfl (Or.inl rfl) (de_callB (call_sumA rfl) cd_sum rfl T.n_sum bt_sum (da_cons (dv 2) da_nil))) (dss_cons (ds_set (i := 6) sc_done_rightly.nd rfl (Or.inl rfl) (de_bin op_mod od_mod (de_bin op_addA (od_add (o := false)) (dv 5) (dv 4)) (dv 0))) (dss_cons (ds_set (i := 4) sc_done_rightly.nd rfl (Or.inl rfl) (de_bin op_fdivA od_fdiv (de_bin op_addA (od_add (o := false)) (dv 5) (dv 4)) (dv 0))) (dss_cons (ds_if (dt_cmp op_isA od_is (dv 3) de_non (nomark _)) (dss_one (ds_ret (de_tup (da_cons (dv 5) (da_cons de_int (da_cons (dv 4) (da_cons de_non da_nil))))))) dss_nil) (dss_one (ds_ret (de_tup (da_cons (de_bin op_addA (od_add (o := false)) (de_bin op_mulA od_mul (de_bin op_sub od_sub (dv 6) (dv 3)) (de_bin op_sub od_sub de_int (dv 0))) (de_bin op_mulA od_mul (dv 5) (dv 0))) (da_cons de_int (da_cons (dv 4) (da_cons de_non da_nil))))))))))))
def t_is_possible (K : PySem.W.Frag) : DS := (sSeq (sAsgT (eSl false (eV 0) oNone (oSome (eC (.int 3)))) (.tup [3, 4, 5])) (sSeq (sIf (dOr (eTest (eBin qEq (eV 3) (eC (.int 0)))) (eTest (eBin qIsNot (eV 4) (eC .non)))) (sRet (eC (.bl false))) sNext) (sSeq (sIf (eTest (eBin qEq (eBin qIx (eV 1) (eC (.int 0))) (eC (.str "forget")))) (sRet (eBin qGt (eV 2) (eC (.int 0)))) sNext) (sSeq (sIf (eTest (eBin qEq (eBin qIx (eV 1) (eC (.int 0))) (eC (.str "copy")))) (sRet (eBin qIsNot (eV 5) (eC .non))) sNext) (sRet (eC (.bl true)))))))
theorem d_is_possible (T : Txt K mg) : ∀ (cdv : Value) (A : Around) (outer : List Env) (s : Shared) (H : Hp) (E : XK) (B : Bs), Room 1 (A.deeper (envOfC "is_possible" (defScope s_is_possible) s.heap.objs.size (He.ga K "is_possible") cdv)) → PSs (cx0 P w K mg base N_is_possible "is_possible" (defScope s_is_possible) (He.ga K "is_possible") cdv A outer s H E) (defBody s_is_possible) (lS K B (t_is_possible K)) := by
  intro cdv A outer s H E B hr
  exact (dss_cons (ds_asgT (tg := (.tup [3, 4, 5])) (de_slice (o := false) (dv 0) do_none (do_some de_int)) (pg_tup rfl (pgs_cons (pg_name (i := 3) sc_is_possible.nd rfl (Or.inl rfl)) (pgs_cons (pg_name (i := 4) sc_is_possible.nd rfl (Or.inl rfl)) (pgs_cons (pg_name (i := 5) sc_is_possible.nd rfl (Or.inl rfl)) pgs_nil))))) (dss_cons (ds_if (PW.pt (dw_or (dt_cmp (op_eqD hr.units) od_eq (dv 3) de_int (nomark _)) (dw_or1 (dt_cmp op_isNotA od_isNot (dv 4) de_non (nomark _))))) (dss_one (ds_ret de_bl)) dss_nil) (dss_cons (ds_if (dt_cmp (op_eqD hr.units) od_eq (de_ix (dv 1) de_int (fun _ _ => rfl)) de_str (nomark _)) (dss_one (ds_ret (de_cmp op_gt od_gt (dv 2) de_int (nomark _)))) dss_nil) (dss_cons (ds_if (dt_cmp (op_eqD hr.units) od_eq (de_ix (dv 1) de_int (fun _ _ => rfl)) de_str (nomark _)) (dss_one (ds_ret (de_cmp op_isNotA od_isNot (dv 5) de_non (nomark _)))) dss_nil) (dss_one (ds_ret de_bl))))))
def t_taken_sum (K : PySem.W.Frag) : DS := (sSeq (sAsg (eCB qSum (aCons (eV 3) aNil)) 5) (sSeq (sIf (eTest (eBin qEq (eBin qIx (eV 4) (eC (.int 0))) (eC (.str "read")))) (sRet (eBin (qAdd false) (eBin (qSub) (eV 5) (eBin qIx (eV 3) (eBin qIx (eV 4) (eC (.int 1))))) (eBin (qMod) (eBin (qAdd false) (eBin qIx (eV 3) (eBin qIx (eV 4) (eC (.int 1)))) (eBin qIx (eV 4) (eC (.int 2)))) (eV 0)))) sNext) (sSeq (sIf (eTest (eBin qEq (eBin qIx (eV 4) (eC (.int 0))) (eC (.str "copy")))) (sRet (eBin (qAdd false) (eBin (qSub) (eV 5) (eBin qIx (eV 3) (eBin qIx (eV 4) (eC (.int 1))))) (eBin qIx (eV 2) (eBM qIdx (eV 1) (aCons (eBin qIx (eV 4) (eC (.int 1))) aNil))))) sNext) (sRet (eV 5)))))
theorem d_taken_sum (T : Txt K mg) : ∀ (cdv : Value) (A : Around) (outer : List Env) (s : Shared) (H : Hp) (E : XK) (B : Bs), Room 1 (A.deeper (envOfC "taken_sum" (defScope s_taken_sum) s.heap.objs.size (He.ga K "taken_sum") cdv)) → PSs (cx0 P w K mg base N_taken_sum "taken_sum" (defScope s_taken_sum) (He.ga K "taken_sum") cdv A outer s H E) (defBody s_taken_sum) (lS K B (t_taken_sum K)) := by
  intro cdv A outer s H E B hr
  exact (dss_cons (ds_set (i := 5) sc_taken_sum.nd rfl (Or.inl rfl) (de_callB (call_sumA rfl) cd_sum rfl T.n_sum bt_sum (da_cons (dv 3) da_nil))) (dss_cons (ds_if (dt_cmp (op_eqD hr.units) od_eq (de_ix (dv 4) de_int (fun _ _ => rfl)) de_str (nomark _)) (dss_one (ds_ret (de_bin op_addA (od_add (o := false)) (de_bin op_sub od_sub (dv 5) (de_ix (dv 3) (de_ix (dv 4) de_int (fun _ _ => rfl)) (fun _ _ => rfl))) (de_bin op_mod od_mod (de_bin op_addA (od_add (o := false)) (de_ix (dv 3) (de_ix (dv 4) de_int (fun _ _ => rfl)) (fun _ _ => rfl)) (de_ix (dv 4) de_int (fun _ _ => rfl))) (dv 0))))) dss_nil) (dss_cons (ds_if (dt_cmp (op_eqD hr.units) od_eq (de_ix (dv 4) de_int (fun _ _ => rfl)) de_str (nomark _)) (dss_one (ds_ret (de_bin op_addA (od_add (o := false)) (de_bin op_sub od_sub (dv 5) (de_ix (dv 3) (de_ix (dv 4) de_int (fun _ _ => rfl)) (fun _ _ => rfl))) (de_ix (dv 2) (de_bm PySem.F.plainAttrs_list PySem.F.slot_list_index PySem.F.type_list_index mt_index md_idx (dv 1) (da_cons (de_ix (dv 4) de_int (fun _ _ => rfl)) da_nil)) (fun _ _ => rfl))))) dss_nil) (dss_one (ds_ret (dv 5))))))
def t_done_with (K : PySem.W.Frag) : DS := (sSeq (sAsg (eBin qIx (eV 4) (eC (.int 0))) 5) (sSeq (sIf (dNot (eTru (eCall (sp_is_possible K) (aCons (eV 2) (aCons (eV 4) (aCons (eBin (qFdiv) (eBin (qAdd false) (eCB qSum (aCons (eV 3) aNil)) (eBin qIx (eV 2) (eC (.int 3)))) (eV 0)) aNil)))))) (sRet (eC .non)) sNext) (sSeq (sIf (eTest (eBin qEq (eV 5) (eC (.str "out")))) (sRet (eTup (aCons (eC (.int 0)) (aCons (eC (.int 0)) (aCons (eBin qIx (eV 2) (eC (.int 3))) (aCons (eC .non) aNil)))))) sNext) (sSeq (sAsg (eCall (sp_taken_sum K) (aCons (eV 0) (aCons (eV 1) (aCons (eBin qIx (eV 2) (eC (.int 2))) (aCons (eV 3) (aCons (eV 4) aNil)))))) 6) (sSeq (sAsg (eBin (qMod) (eBin (qAdd false) (eV 6) (eBin qIx (eV 2) (eC (.int 3)))) (eV 0)) 7) (sSeq (sAsg (eBin (qFdiv) (eBin (qAdd false) (eV 6) (eBin qIx (eV 2) (eC (.int 3)))) (eV 0)) 8) (sSeq (sIf (eTest (eBin qEq (eV 5) (eC (.str "forget")))) (sRet (eTup (aCons (eBin (qSub) (eV 6) (eBin (qMul) (eV 8) (eV 0))) (aCons (eC (.int 1)) (aCons (eC (.int 0)) (aCons (eC .non) aNil)))))) sNext) (sSeq (sIf (eTest (eBin qEq (eV 5) (eC (.str "again")))) (sRet (eTup (aCons (eBin (qAdd false) (eV 6) (eV 0)) (aCons (eC (.int 1)) (aCons (eBin (qAdd false) (eV 8) (eC (.int 1))) (aCons (eC .non) aNil)))))) sNext) (sSeq (sIf (eTest (eBin qEq (eV 5) (eC (.str "off")))) (sRet (eTup (aCons (eBin (qSub) (eBin (qAdd false) (eV 6) (eBin (qMod) (eBin (qAdd false) (eV 7) (eBin qIx (eV 4) (eC (.int 1)))) (eV 0))) (eV 7)) (aCons (eC (.int 1)) (aCons (eV 8) (aCons (eC .non) aNil)))))) sNext) (sSeq (sIf (eTest (eBin qEq (eV 5) (eC (.str "swap")))) (sRet (eTup (aCons (eV 6) (aCons (eC (.int 0)) (aCons (eV 8) (aCons (eV 7) aNil)))))) sNext) (sSeq (sIf (eTest (eBin qEq (eV 5) (eC (.str "twice")))) (sRet (eTup (aCons (eBin (qAdd false) (eV 6) (eBin (qMul) (eV 6) (eV 0))) (aCons (eC (.int 2)) (aCons (eBin (qFdiv) (eBin (qAdd false) (eV 6) (eV 8)) (eV 0)) (aCons (eC .non) aNil)))))) sNext) (sRet (eTup (aCons (eV 6) (aCons (eC (.int 1)) (aCons (eV 8) (aCons (eC .non) aNil)))))))))))))))))
theorem d_done_with (T : Txt K mg) (G_is_possible : Good P w K mg base 2 (He.ga K "is_possible") ["standing", "deed", "carry"] (sp_is_possible K)) (G_taken_sum : Good P w K mg base 2 (He.ga K "taken_sum") ["base", "copies", "before", "column", "deed"] (sp_taken_sum K)) : ∀ (cdv : Value) (A : Around) (outer : List Env) (s : Shared) (H : Hp) (E : XK) (B : Bs), Room 4 (A.deeper (envOfC "done_with" (defScope s_done_with) s.heap.objs.size (He.ga K "done_with") cdv)) → PSs (cx0 P w K mg base N_done_with "done_with" (defScope s_done_with) (He.ga K "done_with") cdv A outer s H E) (defBody s_done_with) (lS K B (t_done_with K)) := by
  intro cdv A outer s H E B hr
  exact (dss_cons (ds_set (i := 5) sc_done_with.nd rfl (Or.inl rfl) (de_ix (dv 4) de_int (fun _ _ => rfl))) (dss_cons (ds_if (dt_not (dt_tru (de_callG G_is_possible (hr.mono (by decide)) T.g_is_possible (da_cons (dv 2) (da_cons (dv 4) (da_cons (de_bin op_fdivA od_fdiv (de_bin op_addA (od_add (o := false)) (de_callB (call_sumA rfl) cd_sum rfl T.n_sum bt_sum (da_cons (dv 3) da_nil)) (de_ix (dv 2) de_int (fun _ _ => rfl))) (dv 0)) da_nil)))))) (dss_one (ds_ret de_non)) dss_nil) (dss_cons (ds_if (dt_cmp (op_eqD hr.units) od_eq (dv 5) de_str (nomark _)) (dss_one (ds_ret (de_tup (da_cons de_int (da_cons de_int (da_cons (de_ix (dv 2) de_int (fun _ _ => rfl)) (da_cons de_non da_nil))))))) dss_nil) (dss_cons (ds_set (i := 6) sc_done_with.nd rfl (Or.inl rfl) (de_callG G_taken_sum (hr.mono (by decide)) T.g_taken_sum (da_cons (dv 0) (da_cons (dv 1) (da_cons (de_ix (dv 2) de_int (fun _ _ => rfl)) (da_cons (dv 3) (da_cons (dv 4) da_nil))))))) (dss_cons (ds_set (i := 7) sc_done_with.nd rfl (Or.inl rfl) (de_bin op_mod od_mod (de_bin op_addA (od_add (o := false)) (dv 6) (de_ix (dv 2) de_int (fun _ _ => rfl))) (dv 0))) (dss_cons (ds_set (i := 8) sc_done_with.nd rfl (Or.inl rfl) (de_bin op_fdivA od_fdiv (de_bin op_addA (od_add (o := false)) (dv 6) (de_ix (dv 2) de_int (fun _ _ => rfl))) (dv 0))) (dss_cons (ds_if (dt_cmp (op_eqD hr.units) od_eq (dv 5) de_str (nomark _)) (dss_one (ds_ret (de_tup (da_cons (de_bin op_sub od_sub (dv 6) (de_bin op_mulA od_mul (dv 8) (dv 0))) (da_cons de_int (da_cons de_int (da_cons de_non da_nil))))))) dss_nil) (dss_cons (ds_if (dt_cmp (op_eqD hr.units) od_eq (dv 5) de_str (nomark _)) (dss_one (ds_ret (de_tup (da_cons (de_bin op_addA (od_add (o := false)) (dv 6) (dv 0)) (da_cons de_int (da_cons (de_bin op_addA (od_add (o := false)) (dv 8) de_int) (da_cons de_non da_nil))))))) dss_nil) (dss_cons (ds_if (dt_cmp (op_eqD hr.units) od_eq (dv 5) de_str (nomark _)) (dss_one (ds_ret (de_tup (da_cons (de_bin op_sub od_sub (de_bin op_addA (od_add (o := false)) (dv 6) (de_bin op_mod od_mod (de_bin op_addA (od_add (o := false)) (dv 7) (de_ix (dv 4) de_int (fun _ _ => rfl))) (dv 0))) (dv 7)) (da_cons de_int (da_cons (dv 8) (da_cons de_non da_nil))))))) dss_nil) (dss_cons (ds_if (dt_cmp (op_eqD hr.units) od_eq (dv 5) de_str (nomark _)) (dss_one (ds_ret (de_tup (da_cons (dv 6) (da_cons de_int (da_cons (dv 8) (da_cons (dv 7) da_nil))))))) dss_nil) (dss_cons (ds_if (dt_cmp (op_eqD hr.units) od_eq (dv 5) de_str (nomark _)) (dss_one (ds_ret (de_tup (da_cons (de_bin op_addA (od_add (o := false)) (dv 6) (de_bin op_mulA od_mul (dv 6) (dv 0))) (da_cons de_int (da_cons (de_bin op_fdivA od_fdiv (de_bin op_addA (od_add (o := false)) (dv 6) (dv 8)) (dv 0)) (da_cons de_non da_nil))))))) dss_nil) (dss_one (ds_ret (de_tup (da_cons (dv 6) (da_cons de_int (da_cons (dv 8) (da_cons de_non da_nil))))))))))))))))))
def t_power (K : PySem.W.Frag) : DS := (sSeq (sAsg (eC (.int 1)) 2) (sSeq (sFor (iR1 (aCons (eV 1) aNil)) (.one 3) (sAsg (eBin (qMul) (eV 2) (eV 0)) 2)) (sRet (eV 2))))
theorem d_power (T : Txt K mg) : ∀ (cdv : Value) (A : Around) (outer : List Env) (s : Shared) (H : Hp) (E : XK) (B : Bs), Room 1 (A.deeper (envOfC "power" (defScope s_power) s.heap.objs.size (He.ga K "power") cdv)) → PSs (cx0 P w K mg base N_power "power" (defScope s_power) (He.ga K "power") cdv A outer s H E) (defBody s_power) (lS K B (t_power K)) := by
  intro cdv A outer s H E B hr
  exact (dss_cons (ds_set (i := 2) sc_power.nd rfl (Or.inl rfl) de_int) (dss_cons (ds_for (tg := (.one 3)) PassesOwn.never rfl (di_range1 rfl T.n_range (da_cons (dv 1) da_nil)) (pg_name (i := 3) sc_power.nd rfl (Or.inl rfl)) (dss_one (ds_set (i := 2) sc_power.nd rfl (Or.inl rfl) (de_bin op_mulA od_mul (dv 2) (dv 0))))) (dss_one (ds_ret (dv 2)))))
def t_near_behind (K : PySem.W.Frag) : DS := (sSeq (sIf (eTest (eBin qIs (eV 2) (eC .non))) (sRet (eC .non)) sNext) (sSeq (sAsg (eIf (eTest (eBin qGt (eV 1) (eC (.int 0)))) (eV 1) (eC (.int 0))) 6) (sSeq (sAsg (eIf (eTest (eBin qLt (eV 1) (eC (.int 0)))) (eBin (qSub) (eC (.int 0)) (eV 1)) (eC (.int 0))) 7) (sSeq (sAsg (eBin (qSub) (eBin (qAdd false) (eV 2) (eBin (qMul) (eV 3) (eCall (sp_power K) (aCons (eV 0) (aCons (eV 6) aNil))))) (eBin (qMul) (eV 4) (eCall (sp_power K) (aCons (eV 0) (aCons (eV 7) aNil))))) 2) (sSeq (sAsg (eBin (qAdd false) (eV 7) (eC (.int 1))) 8) (sSeq (sIf (eTest (eBin qLt (eBin (qAdd false) (eV 6) (eV 5)) (eV 8))) (sAsg (eBin (qAdd false) (eV 6) (eV 5)) 8) sNext) (sSeq (sAsg (eCall (sp_power K) (aCons (eV 0) (aCons (eV 8) aNil))) 9) (sSeq (sIf (eTest (eBin qNe (eBin (qMod) (eV 2) (eV 9)) (eC (.int 0)))) (sRet (eC .non)) sNext) (sRet (eBin (qFdiv) (eV 2) (eV 9)))))))))))
theorem d_near_behind (T : Txt K mg) (G_power : Good P w K mg base 2 (He.ga K "power") ["base", "count"] (sp_power K)) : ∀ (cdv : Value) (A : Around) (outer : List Env) (s : Shared) (H : Hp) (E : XK) (B : Bs), Room 4 (A.deeper (envOfC "near_behind" (defScope s_near_behind) s.heap.objs.size (He.ga K "near_behind") cdv)) → PSs (cx0 P w K mg base N_near_behind "near_behind" (defScope s_near_behind) (He.ga K "near_behind") cdv A outer s H E) (defBody s_near_behind) (lS K B (t_near_behind K)) := by
  intro cdv A outer s H E B hr
  exact (dss_cons (ds_if (dt_cmp op_isA od_is (dv 2) de_non (nomark _)) (dss_one (ds_ret de_non)) dss_nil) (dss_cons (ds_set (i := 6) sc_near_behind.nd rfl (Or.inl rfl) (de_if (dt_cmp op_gt od_gt (dv 1) de_int (nomark _)) (dv 1) de_int)) (dss_cons (ds_set (i := 7) sc_near_behind.nd rfl (Or.inl rfl) (de_if (dt_cmp op_lt od_lt (dv 1) de_int (nomark _)) (de_bin op_sub od_sub de_int (dv 1)) de_int)) (dss_cons (ds_set (i := 2) sc_near_behind.nd rfl (Or.inl rfl) (de_bin op_sub od_sub (de_bin op_addA (od_add (o := false)) (dv 2) (de_bin op_mulA od_mul (dv 3) (de_callG G_power (hr.mono (by decide)) T.g_power (da_cons (dv 0) (da_cons (dv 6) da_nil))))) (de_bin op_mulA od_mul (dv 4) (de_callG G_power (hr.mono (by decide)) T.g_power (da_cons (dv 0) (da_cons (dv 7) da_nil)))))) (dss_cons (ds_set (i := 8) sc_near_behind.nd rfl (Or.inl rfl) (de_bin op_addA (od_add (o := false)) (dv 7) de_int)) (dss_cons (ds_if (dt_cmp op_lt od_lt (de_bin op_addA (od_add (o := false)) (dv 6) (dv 5)) (dv 8) (nomark _)) (dss_one (ds_set (i := 8) sc_near_behind.nd rfl (Or.inl rfl) (de_bin op_addA (od_add (o := false)) (dv 6) (dv 5)))) dss_nil) (dss_cons (ds_set (i := 9) sc_near_behind.nd rfl (Or.inl rfl) (de_callG G_power (hr.mono (by decide)) T.g_power (da_cons (dv 0) (da_cons (dv 8) da_nil)))) (dss_cons (ds_if (dt_cmp (op_neD hr.units) od_ne (de_bin op_mod od_mod (dv 2) (dv 9)) de_int (nomark _)) (dss_one (ds_ret de_non)) dss_nil) (dss_one (ds_ret (de_bin op_fdivA od_fdiv (dv 2) (dv 9))))))))))))
def t_next_standing (K : PySem.W.Frag) : DS := (sSeq (sAsgT (eV 3) (.tup [6, 7, 8, 9, 10, 11, 12])) (sSeq (sIf (eTest (eBin qIs (eV 5) (eC .non))) (sAsg (eCall (sp_done_rightly K) (aCons (eV 0) (aCons (eV 3) (aCons (eV 4) aNil)))) 13) (sSeq (sAsg (eCall (sp_done_with K) (aCons (eV 0) (aCons (eV 1) (aCons (eV 3) (aCons (eV 4) (aCons (eV 5) aNil)))))) 13) (sAsg (eBin (qSub) (eV 6) (eC (.int 1))) 6))) (sSeq (sIf (eTest (eBin qIs (eV 13) (eC .non))) (sRet (eC .non)) sNext) (sSeq (sAsgT (eV 13) (.tup [14, 15, 9, 7])) (sSeq (sAsg (eCB qSum (aCons (eV 4) aNil)) 16) (sSeq (sAsg (eCall (sp_near_behind K) (aCons (eV 0) (aCons (eV 10) (aCons (eV 11) (aCons (eV 14) (aCons (eV 16) (aCons (eV 15) aNil))))))) 11) (sSeq (sAsg (eLst true aNil) 17) (sSeq (sFor (iR1 (aCons (eCB qLen (aCons (eV 2) aNil)) aNil)) (.one 18) (sSeq (sAsg (eBin qIx (eV 2) (eV 18)) 19) (sSeq (sAsgT (eBin qIx (eV 12) (eV 18)) (.tup [20, 21, 22])) (sSeq (sAsg (eBin (qMod) (eBin (qSub) (eBin (qAdd false) (eV 20) (eBin (qMul) (eV 14) (eV 22))) (eBin (qMul) (eV 16) (eV 21))) (eV 19)) 20) (sDrop (eBM qApp (eV 17) (aCons (eTup (aCons (eV 20) (aCons (eBin (qMod) (eBin (qMul) (eV 21) (eV 0)) (eV 19)) (aCons (eBin (qMod) (eBin (qMul) (eV 22) (eCall (sp_power K) (aCons (eV 0) (aCons (eV 15) aNil)))) (eV 19)) aNil)))) aNil))))))) (sSeq (sAsg (eCB qTuple (aCons (eLc false (iS (eV 1)) (.one 23) dYes (eBin qIx (eV 4) (eV 23)) [23]) aNil)) 8) (sRet (eTup (aCons (eV 6) (aCons (eV 7) (aCons (eV 8) (aCons (eV 9) (aCons (eBin (qSub) (eBin (qAdd false) (eV 10) (eV 15)) (eC (.int 1))) (aCons (eV 11) (aCons (eCB qTuple (aCons (eV 17) aNil)) aNil))))))))))))))))))
theorem d_next_standing (T : Txt K mg) (G_done_rightly : Good P w K mg base 2 (He.ga K "done_rightly") ["base", "standing", "column"] (sp_done_rightly K)) (G_done_with : Good P w K mg base 5 (He.ga K "done_with") ["base", "copies", "standing", "column", "deed"] (sp_done_with K)) (G_near_behind : Good P w K mg base 5 (He.ga K "near_behind") ["base", "gap", "near", "factor", "total", "count"] (sp_near_behind K)) (G_power : Good P w K mg base 2 (He.ga K "power") ["base", "count"] (sp_power K)) : ∀ (cdv : Value) (A : Around) (outer : List Env) (s : Shared) (H : Hp) (E : XK) (B : Bs), Room 7 (A.deeper (envOfC "next_standing" (defScope s_next_standing) s.heap.objs.size (He.ga K "next_standing") cdv)) → PSs (cx0 P w K mg base N_next_standing "next_standing" (defScope s_next_standing) (He.ga K "next_standing") cdv A outer s H E) (defBody s_next_standing) (lS K B (t_next_standing K)) := by
  intro cdv A outer s H E B hr
  exact (dss_cons (ds_asgT (tg := (.tup [6, 7, 8, 9, 10, 11, 12])) (dv 3) (pg_tup rfl (pgs_cons (pg_name (i := 6) sc_next_standing.nd rfl (Or.inl rfl)) (pgs_cons (pg_name (i := 7) sc_next_standing.nd rfl (Or.inl rfl)) (pgs_cons (pg_name (i := 8) sc_next_standing.nd rfl (Or.inl rfl)) (pgs_cons (pg_name (i := 9) sc_next_standing.nd rfl (Or.inl rfl)) (pgs_cons (pg_name (i := 10) sc_next_standing.nd rfl (Or.inl rfl)) (pgs_cons (pg_name (i := 11) sc_next_standing.nd rfl (Or.inl rfl)) (pgs_cons (pg_name (i := 12) sc_next_standing.nd rfl (Or.inl rfl)) pgs_nil))))))))) (dss_cons (ds_if (dt_cmp op_isA od_is (dv 5) de_non (nomark _)) (dss_one (ds_set (i := 13) sc_next_standing.nd rfl (Or.inl rfl) (de_callG G_done_rightly (hr.mono (by decide)) T.g_done_rightly (da_cons (dv 0) (da_cons (dv 3) (da_cons (dv 4) da_nil)))))) (dss_cons (ds_set (i := 13) sc_next_standing.nd rfl (Or.inl rfl) (de_callG G_done_with (hr.mono (by decide)) T.g_done_with (da_cons (dv 0) (da_cons (dv 1) (da_cons (dv 3) (da_cons (dv 4) (da_cons (dv 5) da_nil))))))) (dss_one (ds_set (i := 6) sc_next_standing.nd rfl (Or.inl rfl) (de_bin op_sub od_sub (dv 6) de_int))))) (dss_cons (ds_if (dt_cmp op_isA od_is (dv 13) de_non (nomark _)) (dss_one (ds_ret de_non)) dss_nil) (dss_cons (ds_asgT (tg := (.tup [14, 15, 9, 7])) (dv 13) (pg_tup rfl (pgs_cons (pg_name (i := 14) sc_next_standing.nd rfl (Or.inl rfl)) (pgs_cons (pg_name (i := 15) sc_next_standing.nd rfl (Or.inl rfl)) (pgs_cons (pg_name (i := 9) sc_next_standing.nd rfl (Or.inl rfl)) (pgs_cons (pg_name (i := 7) sc_next_standing.nd rfl (Or.inl rfl)) pgs_nil)))))) (dss_cons (ds_set (i := 16) sc_next_standing.nd rfl (Or.inl rfl) (de_callB (call_sumA rfl) cd_sum rfl T.n_sum bt_sum (da_cons (dv 4) da_nil))) (dss_cons (ds_set (i := 11) sc_next_standing.nd rfl (Or.inl rfl) (de_callG G_near_behind (hr.mono (by decide)) T.g_near_behind (da_cons (dv 0) (da_cons (dv 10) (da_cons (dv 11) (da_cons (dv 14) (da_cons (dv 16) (da_cons (dv 15) da_nil)))))))) (dss_cons (ds_set (i := 17) sc_next_standing.nd rfl (Or.inl rfl) (de_lst (o := true) da_nil)) (dss_cons (ds_for (tg := (.one 18)) PassesOwn.never rfl (di_range1 rfl T.n_range (da_cons (de_callB call_lenA cd_len rfl T.n_len bt_len (da_cons (dv 2) da_nil)) da_nil)) (pg_name (i := 18) sc_next_standing.nd rfl (Or.inl rfl)) (dss_cons (ds_set (i := 19) sc_next_standing.nd rfl (Or.inl rfl) (de_ix (dv 2) (dv 18) (fun _ _ => rfl))) (dss_cons (ds_asgT (tg := (.tup [20, 21, 22])) (de_ix (dv 12) (dv 18) (fun _ _ => rfl)) (pg_tup rfl (pgs_cons (pg_name (i := 20) sc_next_standing.nd rfl (Or.inl rfl)) (pgs_cons (pg_name (i := 21) sc_next_standing.nd rfl (Or.inl rfl)) (pgs_cons (pg_name (i := 22) sc_next_standing.nd rfl (Or.inl rfl)) pgs_nil))))) (dss_cons (ds_set (i := 20) sc_next_standing.nd rfl (Or.inl rfl) (de_bin op_mod od_mod (de_bin op_sub od_sub (de_bin op_addA (od_add (o := false)) (dv 20) (de_bin op_mulA od_mul (dv 14) (dv 22))) (de_bin op_mulA od_mul (dv 16) (dv 21))) (dv 19))) (dss_one (ds_expr (de_bm PySem.F.plainAttrs_list PySem.F.slot_list_append PySem.F.type_list_append mt_append md_app (dv 17) (da_cons (de_tup (da_cons (dv 20) (da_cons (de_bin op_mod od_mod (de_bin op_mulA od_mul (dv 21) (dv 0)) (dv 19)) (da_cons (de_bin op_mod od_mod (de_bin op_mulA od_mul (dv 22) (de_callG G_power (hr.mono (by decide)) T.g_power (da_cons (dv 0) (da_cons (dv 15) da_nil)))) (dv 19)) da_nil)))) da_nil)))))))) (dss_cons (ds_set (i := 8) sc_next_standing.nd rfl (Or.inl rfl) (de_callTy call_tupleA cd_tuple rfl T.n_tuple bt_tuple (da_cons (de_lc (o := false) (own := [("row", 23)]) (tg := (.one 23)) rfl sc_next_standing.nd (di_any (dv 1)) (blkOk_by (own := [("row", 23)]) (N := N_next_standing) (sc := defScope s_next_standing) (by decide +kernel)) (by decide) (fun _ _ _ _ _ => (pg_name (i := 23) sc_next_standing.nd rfl (Or.inl rfl))) (fun _ _ _ _ _ => dts_nil) (fun _ _ _ _ _ => (de_ix (dv 4) (dv 23) (fun _ _ => rfl)))) da_nil))) (dss_one (ds_ret (de_tup (da_cons (dv 6) (da_cons (dv 7) (da_cons (dv 8) (da_cons (dv 9) (da_cons (de_bin op_sub od_sub (de_bin op_addA (od_add (o := false)) (dv 10) (dv 15)) de_int) (da_cons (dv 11) (da_cons (de_callTy call_tupleA cd_tuple rfl T.n_tuple bt_tuple (da_cons (dv 17) da_nil)) da_nil)))))))))))))))))))
def t_Kind_deeds (K : PySem.W.Frag) : DS := (sRet (eCB (qList true) (aCons (eFld (He.ga K "Kind") "held_deeds" (eV 0)) aNil)))
theorem d_Kind_deeds (T : Txt K mg) : ∀ (cdv : Value) (A : Around) (outer : List Env) (s : Shared) (H : Hp) (E : XK) (B : Bs), Room 1 (A.deeper (envOfC "Kind.deeds" (defScope s_Kind_deeds) s.heap.objs.size (pga K (He.ga K "Kind") "deeds") cdv)) → PSs (cx0 P w K mg base N_Kind_deeds "Kind.deeds" (defScope s_Kind_deeds) (pga K (He.ga K "Kind") "deeds") cdv A outer s H E) (defBody s_Kind_deeds) (lS K B (t_Kind_deeds K)) := by
  intro cdv A outer s H E B hr
  exact (dss_one (ds_ret (de_callTy call_listA (cd_list (o := true)) rfl T.n_list bt_list (da_cons (de_fld T.c_Kind T.na_Kind_held_deeds (dv 0)) da_nil))))
def t_copy_rows (K : PySem.W.Frag) : DS := (sRet (eLc false (iS (eProp (He.ga K "Kind") (sp_Kind_deeds K) (eV 0))) (.one 1) (eTest (eBin qEq (eBin qIx (eV 1) (eC (.int 0))) (eC (.str "copy")))) (eBin qIx (eV 1) (eC (.int 1))) [1]))
theorem d_copy_rows (T : Txt K mg) (G_Kind_deeds : Good P w K mg base 2 (pga K (He.ga K "Kind") "deeds") ["self"] (sp_Kind_deeds K)) : ∀ (cdv : Value) (A : Around) (outer : List Env) (s : Shared) (H : Hp) (E : XK) (B : Bs), Room 4 (A.deeper (envOfC "copy_rows" (defScope s_copy_rows) s.heap.objs.size (He.ga K "copy_rows") cdv)) → PSs (cx0 P w K mg base N_copy_rows "copy_rows" (defScope s_copy_rows) (He.ga K "copy_rows") cdv A outer s H E) (defBody s_copy_rows) (lS K B (t_copy_rows K)) := by
  intro cdv A outer s H E B hr
  exact (dss_one (ds_ret (de_lc (o := false) (own := [("deed", 1)]) (tg := (.one 1)) rfl sc_copy_rows.nd (di_any (de_propG G_Kind_deeds (hr.mono (by decide)) T.c_Kind T.p_Kind_deeds (dv 0))) (blkOk_by (own := [("deed", 1)]) (N := N_copy_rows) (sc := defScope s_copy_rows) (by decide +kernel)) (by decide) (fun _ _ _ _ _ => (pg_name (i := 1) sc_copy_rows.nd rfl (Or.inl rfl))) (fun _ _ _ _ _ => (dts_one (dt_cmp (op_eqD hr.units) od_eq (de_ix (dv 1) de_int (fun _ _ => rfl)) de_str (nomark _)))) (fun _ _ _ _ _ => (de_ix (dv 1) de_int (fun _ _ => rfl))))))
def t_Ledger_put (K : PySem.W.Frag) (XX : XN → List Cel → Prop) : DS := (sSeq (sAsg (eFld (He.ga K "Ledger") "own_kind" (eV 0)) 3) (sSeq (sIf (dNot (eTru (eCall (sp_is_column K) (aCons (eV 1) (aCons (eProp (He.ga K "Kind") (sp_Kind_base K) (eV 3)) (aCons (eProp (He.ga K "Kind") (sp_Kind_rows K) (eV 3)) aNil)))))) sNever sNext) (sSeq (sIf (dAnd (eTest (eBin qIsNot (eV 2) (eC .non))) (eTest (eBin (qNinO (He.ga K "Kind") (sp_Kind_contains K)) (eV 2) (eV 3)))) sNever sNext) (sSeq (sAsg (eCall (sp_next_standing K) (aCons (eProp (He.ga K "Kind") (sp_Kind_base K) (eV 3)) (aCons (eCall (sp_copy_rows K) (aCons (eV 3) aNil)) (aCons (eFld (He.ga K "Ledger") "own_lot" (eV 0)) (aCons (eProp (He.ga K "Ledger") (sp_Ledger_standing K) (eV 0)) (aCons (eV 1) (aCons (eV 2) aNil))))))) 4) (sSeq (sIf (eTest (eBin qIs (eV 4) (eC .non))) sNever sNext) (sDrop (eBM qApp (eFld (He.ga K "Ledger") "history" (eV 0)) (aCons (eTup (aCons (eV 1) (aCons (eV 2) (aCons (eV 4) aNil)))) aNil))))))))
theorem d_Ledger_put (T : Txt K mg) (G_is_column : Good P w K mg base 5 (He.ga K "is_column") ["value", "base", "rows"] (sp_is_column K)) (G_Kind_rows : Good P w K mg base 2 (pga K (He.ga K "Kind") "rows") ["self"] (sp_Kind_rows K)) (G_Kind_base : Good P w K mg base 2 (pga K (He.ga K "Kind") "base") ["self"] (sp_Kind_base K)) (G_Kind_contains : Good P w K mg base 8 (He.ma K (He.ga K "Kind") "__contains__") ["self", "deed"] (sp_Kind_contains K)) (G_next_standing : Good P w K mg base 8 (He.ga K "next_standing") ["base", "copies", "lot", "standing", "column", "deed"] (sp_next_standing K)) (G_Ledger_standing : Good P w K mg base 8 (pga K (He.ga K "Ledger") "standing") ["self"] (sp_Ledger_standing K)) (G_copy_rows : Good P w K mg base 5 (He.ga K "copy_rows") ["kind"] (sp_copy_rows K)) : ∀ (cdv : Value) (A : Around) (outer : List Env) (s : Shared) (H : Hp) (E : XK) (B : Bs) (XX : XN → List Cel → Prop), Room 10 (A.deeper (envOfC "Ledger.put" (defScope s_Ledger_put) s.heap.objs.size (He.ma K (He.ga K "Ledger") "put") cdv)) → XT (cxX P w K mg base N_Ledger_put "Ledger.put" (defScope s_Ledger_put) (He.ma K (He.ga K "Ledger") "put") cdv A outer s H E) B XX → PassesOwn (model P w) (A.deeper (envOfC "Ledger.put" (defScope s_Ledger_put) s.heap.objs.size (He.ma K (He.ga K "Ledger") "put") cdv)) (envOfC "Ledger.put" (defScope s_Ledger_put) s.heap.objs.size (He.ma K (He.ga K "Ledger") "put") cdv) (cxX P w K mg base N_Ledger_put "Ledger.put" (defScope s_Ledger_put) (He.ma K (He.ga K "Ledger") "put") cdv A outer s H E).xe → PSs (cxX P w K mg base N_Ledger_put "Ledger.put" (defScope s_Ledger_put) (He.ma K (He.ga K "Ledger") "put") cdv A outer s H E) (defBody s_Ledger_put) (lS K B (t_Ledger_put K XX)) := by
  intro cdv A outer s H E B XX hr tk po
  exact (dss_cons (ds_set (i := 3) sc_Ledger_put.nd rfl (Or.inl rfl) (de_fld T.c_Ledger T.na_Ledger_own_kind (dv 0))) (dss_cons (ds_if (dt_not (dt_tru (de_callG G_is_column (hr.mono (by decide)) T.g_is_column (da_cons (dv 1) (da_cons (de_propG G_Kind_base (hr.mono (by decide)) T.c_Kind T.p_Kind_base (dv 3)) (da_cons (de_propG G_Kind_rows (hr.mono (by decide)) T.c_Kind T.p_Kind_rows (dv 3)) da_nil)))))) (dss_one ds_never) dss_nil) (dss_cons (ds_if (PW.pt (dw_and (dt_cmp op_isNotA od_isNot (dv 2) de_non (nomark _)) (dw_and1 (dt_cmp (op_ninO G_Kind_contains (hr.mono (by decide)) T.sm_Kind_contains) od_ninO (dv 2) (dv 3) rfl)))) (dss_one ds_never) dss_nil) (dss_cons (ds_set (i := 4) sc_Ledger_put.nd rfl (Or.inl rfl) (de_callG G_next_standing (hr.mono (by decide)) T.g_next_standing (da_cons (de_propG G_Kind_base (hr.mono (by decide)) T.c_Kind T.p_Kind_base (dv 3)) (da_cons (de_callG G_copy_rows (hr.mono (by decide)) T.g_copy_rows (da_cons (dv 3) da_nil)) (da_cons (de_fld T.c_Ledger T.na_Ledger_own_lot (dv 0)) (da_cons (de_propG G_Ledger_standing (hr.mono (by decide)) T.c_Ledger T.p_Ledger_standing (dv 0)) (da_cons (dv 1) (da_cons (dv 2) da_nil)))))))) (dss_cons (ds_if (dt_cmp op_isA od_is (dv 4) de_non (nomark _)) (dss_one ds_never) dss_nil) (dss_one (ds_expr (de_bm PySem.F.plainAttrs_list PySem.F.slot_list_append PySem.F.type_list_append mt_append md_app (de_fld T.c_Ledger T.na_Ledger_history (dv 0)) (da_cons (de_tup (da_cons (dv 1) (da_cons (dv 2) (da_cons (dv 4) da_nil)))) da_nil)))))))))
def t_Sheet_len (K : PySem.W.Frag) : DS := (sRet (eCB qLen (aCons (eFld (He.ga K "Sheet") "held_columns" (eV 0)) aNil)))
theorem d_Sheet_len (T : Txt K mg) : ∀ (cdv : Value) (A : Around) (outer : List Env) (s : Shared) (H : Hp) (E : XK) (B : Bs), Room 1 (A.deeper (envOfC "Sheet.__len__" (defScope s_Sheet_len) s.heap.objs.size (He.ma K (He.ga K "Sheet") "__len__") cdv)) → PSs (cx0 P w K mg base N_Sheet_len "Sheet.__len__" (defScope s_Sheet_len) (He.ma K (He.ga K "Sheet") "__len__") cdv A outer s H E) (defBody s_Sheet_len) (lS K B (t_Sheet_len K)) := by
  intro cdv A outer s H E B hr
  exact (dss_one (ds_ret (de_callB call_lenA cd_len rfl T.n_len bt_len (da_cons (de_fld T.c_Sheet T.na_Sheet_held_columns (dv 0)) da_nil))))
def t_Sheet_setitem (K : PySem.W.Frag) : DS := (sSeq (sIf (dNot (eTru (eCall (sp_is_column K) (aCons (eV 2) (aCons (eFld (He.ga K "Sheet") "held_base" (eV 0)) (aCons (eFld (He.ga K "Sheet") "held_rows" (eV 0)) aNil)))))) sNever sNext) (sSub (eV 2) (eFld (He.ga K "Sheet") "held_columns" (eV 0)) (eV 1)))
theorem d_Sheet_setitem (T : Txt K mg) (G_is_column : Good P w K mg base 5 (He.ga K "is_column") ["value", "base", "rows"] (sp_is_column K)) : ∀ (cdv : Value) (A : Around) (outer : List Env) (s : Shared) (H : Hp) (E : XK) (B : Bs), Room 7 (A.deeper (envOfC "Sheet.__setitem__" (defScope s_Sheet_setitem) s.heap.objs.size (He.ma K (He.ga K "Sheet") "__setitem__") cdv)) → PSs (cx0 P w K mg base N_Sheet_setitem "Sheet.__setitem__" (defScope s_Sheet_setitem) (He.ma K (He.ga K "Sheet") "__setitem__") cdv A outer s H E) (defBody s_Sheet_setitem) (lS K B (t_Sheet_setitem K)) := by
  intro cdv A outer s H E B hr
  exact (dss_cons (ds_if (dt_not (dt_tru (de_callG G_is_column (hr.mono (by decide)) T.g_is_column (da_cons (dv 2) (da_cons (de_fld T.c_Sheet T.na_Sheet_held_base (dv 0)) (da_cons (de_fld T.c_Sheet T.na_Sheet_held_rows (dv 0)) da_nil)))))) (dss_one ds_never) dss_nil) (dss_one (ds_sub (dv 2) (de_fld T.c_Sheet T.na_Sheet_held_columns (dv 0)) (dv 1))))
def t_law_spoil (K : PySem.W.Frag) : DS := (sSeq (sAsg (eProp (He.ga K "Ledger") (sp_Ledger_slips K) (eV 0)) 1) (sSeq (sDrop (eBM qApp (eV 1) (aCons (eTup (aCons (eC (.int 0)) (aCons (eTup (aCons (eC (.str "out")) aNil)) aNil))) aNil))) (sSeq (sAsg (eProp (He.ga K "Ledger") (sp_Ledger_sheet K) (eV 0)) 2) (sSeq (sAsg (eProp (He.ga K "Sheet") (sp_Sheet_columns K) (eV 2)) 3) (sSeq (sDrop (eBM qApp (eV 3) (aCons (eTup aNil) aNil))) (sIf (eTest (eBin qGt (eCB (qLenO (He.ga K "Sheet") (sp_Sheet_len K)) (aCons (eV 2) aNil)) (eC (.int 0)))) (sSetO (He.ga K "Sheet") (sp_Sheet_setitem K) (eBin (qRepT) (eTup (aCons (eC (.int 1)) aNil)) (eProp (He.ga K "Sheet") (sp_Sheet_rows K) (eV 2))) (eV 2) (eC (.int 0))) sNext))))))
theorem d_law_spoil (T : Txt K mg) (G_Ledger_slips : Good P w K mg base 2 (pga K (He.ga K "Ledger") "slips") ["self"] (sp_Ledger_slips K)) (G_Ledger_sheet : Good P w K mg base 11 (pga K (He.ga K "Ledger") "sheet") ["self"] (sp_Ledger_sheet K)) (G_Sheet_columns : Good P w K mg base 2 (pga K (He.ga K "Sheet") "columns") ["self"] (sp_Sheet_columns K)) (G_Sheet_len : Good P w K mg base 2 (He.ma K (He.ga K "Sheet") "__len__") ["self"] (sp_Sheet_len K)) (G_Sheet_rows : Good P w K mg base 2 (pga K (He.ga K "Sheet") "rows") ["self"] (sp_Sheet_rows K)) (G_Sheet_setitem : Good P w K mg base 8 (He.ma K (He.ga K "Sheet") "__setitem__") ["self", "at", "worth"] (sp_Sheet_setitem K)) : ∀ (cdv : Value) (A : Around) (outer : List Env) (s : Shared) (H : Hp) (E : XK) (B : Bs), Room 13 (A.deeper (envOfC "_law_spoil" (defScope s_law_spoil) s.heap.objs.size (He.ga K "_law_spoil") cdv)) → PSs (cx0 P w K mg base N_law_spoil "_law_spoil" (defScope s_law_spoil) (He.ga K "_law_spoil") cdv A outer s H E) (defBody s_law_spoil) (lS K B (t_law_spoil K)) := by
  intro cdv A outer s H E B hr
  exact (dss_cons (ds_set (i := 1) sc_law_spoil.nd rfl (Or.inl rfl) (de_propG G_Ledger_slips (hr.mono (by decide)) T.c_Ledger T.p_Ledger_slips (dv 0))) (dss_cons (ds_expr (de_bm PySem.F.plainAttrs_list PySem.F.slot_list_append PySem.F.type_list_append mt_append md_app (dv 1) (da_cons (de_tup (da_cons de_int (da_cons (de_tup (da_cons de_str da_nil)) da_nil))) da_nil))) (dss_cons (ds_set (i := 2) sc_law_spoil.nd rfl (Or.inl rfl) (de_propG G_Ledger_sheet (hr.mono (by decide)) T.c_Ledger T.p_Ledger_sheet (dv 0))) (dss_cons (ds_set (i := 3) sc_law_spoil.nd rfl (Or.inl rfl) (de_propG G_Sheet_columns (hr.mono (by decide)) T.c_Sheet T.p_Sheet_columns (dv 2))) (dss_cons (ds_expr (de_bm PySem.F.plainAttrs_list PySem.F.slot_list_append PySem.F.type_list_append mt_append md_app (dv 3) (da_cons (de_tup da_nil) da_nil))) (dss_one (ds_if (dt_cmp op_gt od_gt (de_callB (call_lenO G_Sheet_len (hr.mono (by decide)) T.sm_Sheet_len) cd_lenO rfl T.n_len bt_len (da_cons (dv 2) da_nil)) de_int (nomark _)) (dss_one (ds_setO G_Sheet_setitem (hr.mono (by decide)) T.sm_Sheet_setitem T.nq_Sheet (de_bin op_repA od_rep (de_tup (da_cons de_int da_nil)) (de_propG G_Sheet_rows (hr.mono (by decide)) T.c_Sheet T.p_Sheet_rows (dv 2))) (dv 2) de_int)) dss_nil)))))))
def t_law (K : PySem.W.Frag) : DS := (sSeq (sAsg (eCall (sp_law_pool K) (aCons (eBin qIx (eBin (qCatF false) (eV 0) (eLst false (aCons (eC (.int 5)) aNil))) (eC (.int 0))) (aCons (eC (.int 50)) aNil))) 1) (sSeq (sAsgT (eCall (sp_law_setting K) (aCons (eV 1) aNil)) (.tup [2, 3, 4, 5, 6])) (sSeq (sAsg (eCB (qList true) (aCons (eV 6) aNil)) 7) (sSeq (sAsg (eMake (He.ga K "Ledger") (sp_Ledger_init K) (aCons (eCall (sp_law_made K) (aCons (eV 1) (aCons (eV 2) (aCons (eV 3) (aCons (eV 4) (aCons (eV 5) aNil)))))) (aCons (eV 7) aNil))) 8) (sSeq (sDrop (eBM qApp (eV 7) (aCons (eC (.int 1)) aNil))) (sSeq (sPar 9 10 (aCons (eLst true aNil) (aCons (eLst true aNil) aNil))) (sSeq (sIf (dNot (eTru (eCall (sp_law_look K) (aCons (eV 8) (aCons (eV 2) (aCons (eV 3) (aCons (eLst false (aCons (eLst false aNil) (aCons (eLst false aNil) (aCons (eCall (sp_law_standing K) (aCons (eV 2) (aCons (eV 4) (aCons (eV 6) (aCons (eV 5) (aCons (eLst false aNil) (aCons (eLst false aNil) aNil))))))) aNil)))) (aCons (eC (.int 0)) aNil)))))))) (sRet (eC (.bl false))) sNext) (sSeq (sFor (iS (eSl false (eBin (qAdd false) (eSl false (eV 0) (oSome (eC (.int 1))) oNone) (eLst false (aCons (eC (.int 4)) (aCons (eC (.int 9)) (aCons (eC (.int 2)) aNil))))) oNone (oSome (eC (.int 60))))) (.one 11) (sSeq (sAsg (eCall (sp_law_pool K) (aCons (eV 11) (aCons (eC (.int 51)) aNil))) 1) (sSeq (sAsg (eCall (sp_law_draw K) (aCons (eV 1) (aCons (eC (.int 5)) aNil))) 12) (sSeq (sAsg (eCall (sp_law_column K) (aCons (eV 1) (aCons (eV 2) (aCons (eV 3) aNil)))) 13) (sSeq (sAsg (eC .non) 14) (sSeq (sIf (eTest (eBin qEq (eCall (sp_law_draw K) (aCons (eV 1) (aCons (eC (.int 2)) aNil))) (eC (.int 1)))) (sSeq (sAsg (eCall (sp_law_possible K) (aCons (eV 2) (aCons (eV 4) (aCons (eV 5) (aCons (eV 9) (aCons (eV 10) (aCons (eV 13) aNil))))))) 15) (sAsg (eBin qIx (eV 15) (eCall (sp_law_draw K) (aCons (eV 1) (aCons (eCB qLen (aCons (eV 15) aNil)) aNil)))) 14)) sNext) (sSeq (sIf (dAnd (eTest (eBin qIs (eV 14) (eC .non))) (eTest (eBin qLt (eV 12) (eC (.int 2))))) (sAsg (eMethX (He.ga K "Ledger") "put" (fun _ _ => False) (sp_Ledger_put K) [.non] (eV 8) (aCons (eV 13) aNil)) 16) (sAsg (eMethK (He.ga K "Ledger") "put" (fun _ _ => False) (sp_Ledger_put K) 2 (eV 8) (aCons (eV 13) aNil) (aCons (eV 14) aNil)) 16)) (sSeq (sIf (eTest (eBin qIsNot (eV 14) (eC .non))) (sDrop (eBM qApp (eV 10) (aCons (eTup (aCons (eCB qLen (aCons (eV 9) aNil)) (aCons (eV 14) aNil))) aNil))) sNext) (sSeq (sDrop (eBM qApp (eV 9) (aCons (eV 13) aNil))) (sSeq (sAsg (eLst false (aCons (eV 9) (aCons (eV 10) (aCons (eCall (sp_law_standing K) (aCons (eV 2) (aCons (eV 4) (aCons (eV 6) (aCons (eV 5) (aCons (eV 9) (aCons (eV 10) aNil))))))) aNil)))) 17) (sSeq (sIf (dOr (eTest (eBin qIsNot (eV 16) (eC .non))) (dNot (eTru (eCall (sp_law_look K) (aCons (eV 8) (aCons (eV 2) (aCons (eV 3) (aCons (eV 17) (aCons (eV 12) aNil))))))))) (sRet (eC (.bl false))) sNext) (sDrop (eCall (sp_law_spoil K) (aCons (eV 8) aNil)))))))))))))) (sRet (eCall (sp_law_look K) (aCons (eV 8) (aCons (eV 2) (aCons (eV 3) (aCons (eLst false (aCons (eV 9) (aCons (eV 10) (aCons (eCall (sp_law_standing K) (aCons (eV 2) (aCons (eV 4) (aCons (eV 6) (aCons (eV 5) (aCons (eV 9) (aCons (eV 10) aNil))))))) aNil)))) (aCons (eC (.int 1)) aNil)))))))))))))))
theorem d_law (T : Txt K mg) (G_law_pool : Good P w K mg base 2 (He.ga K "_law_pool") ["cell", "salt"] (sp_law_pool K)) (G_law_setting : Good P w K mg base 8 (He.ga K "_law_setting") ["pool"] (sp_law_setting K)) (G_Ledger_init : Good P w K mg base 5 (He.ma K (He.ga K "Ledger") "__init__") ["self", "kind", "lot"] (sp_Ledger_init K)) (G_law_made : Good P w K mg base 14 (He.ga K "_law_made") ["pool", "base", "rows", "deeds", "most"] (sp_law_made K)) (G_law_look : Good P w K mg base 14 (He.ga K "_law_look") ["ledger", "base", "rows", "due", "turn"] (sp_law_look K)) (G_law_standing : Good P w K mg base 5 (He.ga K "_law_standing") ["base", "deeds", "lot", "most", "cols", "slips"] (sp_law_standing K)) (G_law_draw : Good P w K mg base 2 (He.ga K "_law_draw") ["pool", "many"] (sp_law_draw K)) (G_law_column : Good P w K mg base 5 (He.ga K "_law_column") ["pool", "base", "rows"] (sp_law_column K)) (G_law_possible : Good P w K mg base 5 (He.ga K "_law_possible") ["base", "deeds", "most", "cols", "slips", "column"] (sp_law_possible K)) (G_Ledger_put : GoodK P w K mg base 11 (He.ma K (He.ga K "Ledger") "put") ["self", "column", "deed"] 2 "deed" (.non) (sp_Ledger_put K)) (G_law_spoil : Good P w K mg base 14 (He.ga K "_law_spoil") ["ledger"] (sp_law_spoil K)) : ∀ (cdv : Value) (A : Around) (outer : List Env) (s : Shared) (H : Hp) (E : XK) (B : Bs), Room 16 (A.deeper (envOfC "law" (defScope s_law) s.heap.objs.size (He.ga K "law") cdv)) → PSs (cx0 P w K mg base N_law "law" (defScope s_law) (He.ga K "law") cdv A outer s H E) (defBody s_law) (lS K B (t_law K)) := by
  intro cdv A outer s H E B hr
  exact (dss_cons (ds_set (i := 1) sc_law.nd rfl (Or.inl rfl) (de_callG G_law_pool (hr.mono (by decide)) T.g_law_pool (da_cons (de_ix (de_bin op_catF (od_catF (o := false)) (dv 0) (de_lst (o := false) (da_cons de_int da_nil))) de_int (fun _ _ => rfl)) (da_cons de_int da_nil)))) (dss_cons (ds_asgT (tg := (.tup [2, 3, 4, 5, 6])) (de_callG G_law_setting (hr.mono (by decide)) T.g_law_setting (da_cons (dv 1) da_nil)) (pg_tup rfl (pgs_cons (pg_name (i := 2) sc_law.nd rfl (Or.inl rfl)) (pgs_cons (pg_name (i := 3) sc_law.nd rfl (Or.inl rfl)) (pgs_cons (pg_name (i := 4) sc_law.nd rfl (Or.inl rfl)) (pgs_cons (pg_name (i := 5) sc_law.nd rfl (Or.inl rfl)) (pgs_cons (pg_name (i := 6) sc_law.nd rfl (Or.inl rfl)) pgs_nil))))))) (dss_cons (ds_set (i := 7) sc_law.nd rfl (Or.inl rfl) (de_callTy call_listA (cd_list (o := true)) rfl T.n_list bt_list (da_cons (dv 6) da_nil))) (dss_cons (ds_set (i := 8) sc_law.nd rfl (Or.inl rfl) (de_makeG G_Ledger_init (hr.mono (by decide)) T.mk_Ledger T.g_Ledger (da_cons (de_callG G_law_made (hr.mono (by decide)) T.g_law_made (da_cons (dv 1) (da_cons (dv 2) (da_cons (dv 3) (da_cons (dv 4) (da_cons (dv 5) da_nil)))))) (da_cons (dv 7) da_nil)))) (dss_cons (ds_expr (de_bm PySem.F.plainAttrs_list PySem.F.slot_list_append PySem.F.type_list_append mt_append md_app (dv 7) (da_cons de_int da_nil))) (dss_cons (ds_par (i := 9) (j := 10) rfl sc_law.nd rfl rfl (by decide) rfl rfl (da_cons (de_lst (o := true) da_nil) (da_cons (de_lst (o := true) da_nil) da_nil))) (dss_cons (ds_if (dt_not (dt_tru (de_callG G_law_look (hr.mono (by decide)) T.g_law_look (da_cons (dv 8) (da_cons (dv 2) (da_cons (dv 3) (da_cons (de_lst (o := false) (da_cons (de_lst (o := false) da_nil) (da_cons (de_lst (o := false) da_nil) (da_cons (de_callG G_law_standing (hr.mono (by decide)) T.g_law_standing (da_cons (dv 2) (da_cons (dv 4) (da_cons (dv 6) (da_cons (dv 5) (da_cons (de_lst (o := false) da_nil) (da_cons (de_lst (o := false) da_nil) da_nil))))))) da_nil)))) (da_cons de_int da_nil)))))))) (dss_one (ds_ret de_bl)) dss_nil) (dss_cons (ds_for (tg := (.one 11)) PassesOwn.never rfl (di_any (de_slice (o := false) (de_bin op_addA (od_add (o := false)) (de_slice (o := false) (dv 0) (do_some de_int) do_none) (de_lst (o := false) (da_cons de_int (da_cons de_int (da_cons de_int da_nil))))) do_none (do_some de_int))) (pg_name (i := 11) sc_law.nd rfl (Or.inl rfl)) (dss_cons (ds_set (i := 1) sc_law.nd rfl (Or.inl rfl) (de_callG G_law_pool (hr.mono (by decide)) T.g_law_pool (da_cons (dv 11) (da_cons de_int da_nil)))) (dss_cons (ds_set (i := 12) sc_law.nd rfl (Or.inl rfl) (de_callG G_law_draw (hr.mono (by decide)) T.g_law_draw (da_cons (dv 1) (da_cons de_int da_nil)))) (dss_cons (ds_set (i := 13) sc_law.nd rfl (Or.inl rfl) (de_callG G_law_column (hr.mono (by decide)) T.g_law_column (da_cons (dv 1) (da_cons (dv 2) (da_cons (dv 3) da_nil))))) (dss_cons (ds_set (i := 14) sc_law.nd rfl (Or.inl rfl) de_non) (dss_cons (ds_if (dt_cmp (op_eqD hr.units) od_eq (de_callG G_law_draw (hr.mono (by decide)) T.g_law_draw (da_cons (dv 1) (da_cons de_int da_nil))) de_int (nomark _)) (dss_cons (ds_set (i := 15) sc_law.nd rfl (Or.inl rfl) (de_callG G_law_possible (hr.mono (by decide)) T.g_law_possible (da_cons (dv 2) (da_cons (dv 4) (da_cons (dv 5) (da_cons (dv 9) (da_cons (dv 10) (da_cons (dv 13) da_nil)))))))) (dss_one (ds_set (i := 14) sc_law.nd rfl (Or.inl rfl) (de_ix (dv 15) (de_callG G_law_draw (hr.mono (by decide)) T.g_law_draw (da_cons (dv 1) (da_cons (de_callB call_lenA cd_len rfl T.n_len bt_len (da_cons (dv 15) da_nil)) da_nil))) (fun _ _ => rfl))))) dss_nil) (dss_cons (ds_if (PW.pt (dw_and (dt_cmp op_isA od_is (dv 14) de_non (nomark _)) (dw_and1 (dt_cmp op_lt od_lt (dv 12) de_int (nomark _))))) (dss_one (ds_set (i := 16) sc_law.nd rfl (Or.inl rfl) (de_methX G_Ledger_put XT.never (hr.mono (by decide)) T.c_Ledger T.m_Ledger_put (dv 8) (da_cons (dv 13) da_nil)))) (dss_one (ds_set (i := 16) sc_law.nd rfl (Or.inl rfl) (de_methXK G_Ledger_put XT.never (hr.mono (by decide)) T.c_Ledger T.m_Ledger_put (dv 8) (da_cons (dv 13) da_nil) (dk_cons (dv 14) dk_nil))))) (dss_cons (ds_if (dt_cmp op_isNotA od_isNot (dv 14) de_non (nomark _)) (dss_one (ds_expr (de_bm PySem.F.plainAttrs_list PySem.F.slot_list_append PySem.F.type_list_append mt_append md_app (dv 10) (da_cons (de_tup (da_cons (de_callB call_lenA cd_len rfl T.n_len bt_len (da_cons (dv 9) da_nil)) (da_cons (dv 14) da_nil))) da_nil)))) dss_nil) (dss_cons (ds_expr (de_bm PySem.F.plainAttrs_list PySem.F.slot_list_append PySem.F.type_list_append mt_append md_app (dv 9) (da_cons (dv 13) da_nil))) (dss_cons (ds_set (i := 17) sc_law.nd rfl (Or.inl rfl) (de_lst (o := false) (da_cons (dv 9) (da_cons (dv 10) (da_cons (de_callG G_law_standing (hr.mono (by decide)) T.g_law_standing (da_cons (dv 2) (da_cons (dv 4) (da_cons (dv 6) (da_cons (dv 5) (da_cons (dv 9) (da_cons (dv 10) da_nil))))))) da_nil))))) (dss_cons (ds_if (PW.pt (dw_or (dt_cmp op_isNotA od_isNot (dv 16) de_non (nomark _)) (dw_or1 (dt_not (dt_tru (de_callG G_law_look (hr.mono (by decide)) T.g_law_look (da_cons (dv 8) (da_cons (dv 2) (da_cons (dv 3) (da_cons (dv 17) (da_cons (dv 12) da_nil))))))))))) (dss_one (ds_ret de_bl)) dss_nil) (dss_one (ds_expr (de_callG G_law_spoil (hr.mono (by decide)) T.g_law_spoil (da_cons (dv 8) da_nil))))))))))))))) (dss_one (ds_ret (de_callG G_law_look (hr.mono (by decide)) T.g_law_look (da_cons (dv 8) (da_cons (dv 2) (da_cons (dv 3) (da_cons (de_lst (o := false) (da_cons (dv 9) (da_cons (dv 10) (da_cons (de_callG G_law_standing (hr.mono (by decide)) T.g_law_standing (da_cons (dv 2) (da_cons (dv 4) (da_cons (dv 6) (da_cons (dv 5) (da_cons (dv 9) (da_cons (dv 10) da_nil))))))) da_nil)))) (da_cons de_int da_nil))))))))))))))))
end
local macro_rules | `(tactic| walk_at "v") => `(tactic| repeat' (first
  | ((with_reducible refine v_varX ?_); (refine ⟨_, rfl, ?_⟩))
  | with_reducible refine v_c ?_
  | with_reducible refine v_seq ?_
  | with_reducible refine v_bin ?_
  | with_reducible refine v_asg ?_
  | with_reducible refine v_acons ?_
  | with_reducible refine v_anil ?_
  | with_reducible refine v_test ?_
  | with_reducible refine v_bl ?_
  | with_reducible refine v_in ?_
  | with_reducible refine v_call ?_
  | with_reducible refine v_cb ?_
  | with_reducible refine v_if ?_
  | with_reducible refine v_ret ?_
  | with_reducible refine v_addI ?_
  | with_reducible refine v_subI ?_
  | with_reducible refine v_eqI ?_
  | with_reducible refine v_neI ?_
  | with_reducible refine v_ltI ?_
  | with_reducible refine v_leI ?_
  | with_reducible refine v_gtI ?_
  | with_reducible refine v_geI ?_
  | with_reducible refine v_intI ?_
  | with_reducible refine v_intB ?_
  | with_reducible refine v_T ?_
  | with_reducible refine v_F ?_
  | with_reducible refine v_dnot ?_
  | with_reducible refine v_dand ?_
  | with_reducible refine v_dor ?_
  | with_reducible refine v_dyes ?_
  | with_reducible refine v_enot ?_
  | with_reducible refine v_eand ?_
  | with_reducible refine v_eor ?_
  | with_reducible refine v_eif ?_
  | with_reducible refine v_chain ?_
  | with_reducible refine v_tru ?_
  | with_reducible refine v_tup ?_
  | with_reducible refine v_lst ?_
  | with_reducible refine v_lc ?_
  | with_reducible refine v_for ?_
  | ((with_reducible refine v_j1X ?_); (refine ⟨by omega, ?_⟩))
  | ((with_reducible refine v_j2X ?_); (refine ⟨by omega, ?_⟩))
  | with_reducible refine v_newF ?_
  | with_reducible refine v_newC ?_
  | with_reducible refine v_sl ?_
  | with_reducible refine v_onone ?_
  | with_reducible refine v_osome ?_
  | with_reducible refine v_bm ?_
  | with_reducible refine v_bm0 ?_
  | with_reducible refine v_next ?_
  | with_reducible refine v_drop ?_
  | with_reducible refine v_retN ?_
  | with_reducible refine v_asgT ?_
  | with_reducible refine v_iS ?_
  | with_reducible refine v_iR1 ?_
  | with_reducible refine v_iR2 ?_
  | with_reducible refine v_prop ?_
  | with_reducible refine v_fld ?_
  | with_reducible refine v_meth ?_
  | with_reducible refine v_make ?_
  | with_reducible refine v_nthn ?_
  | with_reducible refine v_rthn ?_
  | with_reducible refine v_bthn ?_
  | with_reducible refine v_cthn ?_
  | with_reducible refine v_nlp ?_
  | with_reducible refine v_rlp ?_
  | with_reducible refine v_blp ?_
  | with_reducible refine v_clp ?_
  | with_reducible refine v_nfn ?_
  | with_reducible refine v_rfn ?_
  | ((with_reducible refine v_isXT ?_); (refine ⟨_, (by first | exact rfl | assumption), ?_⟩); (refine ⟨rfl, rfl, ?_⟩))
  | ((with_reducible refine v_isXF ?_); (refine ⟨_, (by first | exact rfl | assumption), ?_⟩); (refine ⟨rfl, rfl, ?_⟩))
  | ((with_reducible refine v_ixTX ?_); (refine ⟨_, rfl, ?_⟩))
  | ((with_reducible refine v_ixCx ?_); (refine ⟨_, _, (by first | assumption | exact DL.app_get | exact DL.set_get (by first | assumption | exact DL.app_get | exact DL.set_get (by first | assumption | exact DL.app_get | exact DL.set_get (by first | assumption | exact DL.app_get | exact DL.set_get (by first | assumption | exact DL.app_get | exact DL.set_get (by first | assumption | exact DL.app_get) | exact DL.app_get_lt (by first | assumption | exact DL.app_get)) | exact DL.app_get_lt (by first | assumption | exact DL.app_get | exact DL.set_get (by first | assumption | exact DL.app_get) | exact DL.app_get_lt (by first | assumption | exact DL.app_get))) | exact DL.app_get_lt (by first | assumption | exact DL.app_get | exact DL.set_get (by first | assumption | exact DL.app_get | exact DL.set_get (by first | assumption | exact DL.app_get) | exact DL.app_get_lt (by first | assumption | exact DL.app_get)) | exact DL.app_get_lt (by first | assumption | exact DL.app_get | exact DL.set_get (by first | assumption | exact DL.app_get) | exact DL.app_get_lt (by first | assumption | exact DL.app_get)))) | exact DL.app_get_lt (by first | assumption | exact DL.app_get | exact DL.set_get (by first | assumption | exact DL.app_get | exact DL.set_get (by first | assumption | exact DL.app_get | exact DL.set_get (by first | assumption | exact DL.app_get) | exact DL.app_get_lt (by first | assumption | exact DL.app_get)) | exact DL.app_get_lt (by first | assumption | exact DL.app_get | exact DL.set_get (by first | assumption | exact DL.app_get) | exact DL.app_get_lt (by first | assumption | exact DL.app_get))) | exact DL.app_get_lt (by first | assumption | exact DL.app_get | exact DL.set_get (by first | assumption | exact DL.app_get | exact DL.set_get (by first | assumption | exact DL.app_get) | exact DL.app_get_lt (by first | assumption | exact DL.app_get)) | exact DL.app_get_lt (by first | assumption | exact DL.app_get | exact DL.set_get (by first | assumption | exact DL.app_get) | exact DL.app_get_lt (by first | assumption | exact DL.app_get))))) | exact DL.app_get_lt (by first | assumption | exact DL.app_get | exact DL.set_get (by first | assumption | exact DL.app_get | exact DL.set_get (by first | assumption | exact DL.app_get | exact DL.set_get (by first | assumption | exact DL.app_get | exact DL.set_get (by first | assumption | exact DL.app_get) | exact DL.app_get_lt (by first | assumption | exact DL.app_get)) | exact DL.app_get_lt (by first | assumption | exact DL.app_get | exact DL.set_get (by first | assumption | exact DL.app_get) | exact DL.app_get_lt (by first | assumption | exact DL.app_get))) | exact DL.app_get_lt (by first | assumption | exact DL.app_get | exact DL.set_get (by first | assumption | exact DL.app_get | exact DL.set_get (by first | assumption | exact DL.app_get) | exact DL.app_get_lt (by first | assumption | exact DL.app_get)) | exact DL.app_get_lt (by first | assumption | exact DL.app_get | exact DL.set_get (by first | assumption | exact DL.app_get) | exact DL.app_get_lt (by first | assumption | exact DL.app_get)))) | exact DL.app_get_lt (by first | assumption | exact DL.app_get | exact DL.set_get (by first | assumption | exact DL.app_get | exact DL.set_get (by first | assumption | exact DL.app_get | exact DL.set_get (by first | assumption | exact DL.app_get) | exact DL.app_get_lt (by first | assumption | exact DL.app_get)) | exact DL.app_get_lt (by first | assumption | exact DL.app_get | exact DL.set_get (by first | assumption | exact DL.app_get) | exact DL.app_get_lt (by first | assumption | exact DL.app_get))) | exact DL.app_get_lt (by first | assumption | exact DL.app_get | exact DL.set_get (by first | assumption | exact DL.app_get | exact DL.set_get (by first | assumption | exact DL.app_get) | exact DL.app_get_lt (by first | assumption | exact DL.app_get)) | exact DL.app_get_lt (by first | assumption | exact DL.app_get | exact DL.set_get (by first | assumption | exact DL.app_get) | exact DL.app_get_lt (by first | assumption | exact DL.app_get)))))), rfl, ?_⟩))
  | ((with_reducible refine v_szX ?_); (refine ⟨rfl, ?_⟩))
  | ((with_reducible refine v_fdivX ?_); (refine ⟨.inl ⟨by omega, by omega⟩, ?_⟩))
  | ((with_reducible refine v_mulX ?_); (first | refine ⟨.inl (.inr ⟨by omega, by omega⟩), ?_⟩ | refine ⟨.inl (.inl ⟨by omega, by omega⟩), ?_⟩))
  | ((with_reducible refine v_powX ?_); (refine ⟨⟨by decide, by decide, by decide⟩, ?_⟩))
  | ((with_reducible refine v_modX ?_); (refine ⟨by omega, ?_⟩))
  | with_reducible refine v_sub ?_
  | with_reducible refine v_rev ?_
  | with_reducible refine v_tupT ?_
  | ((with_reducible refine v_subX ?_); refine ⟨_, _, _, _, rfl, (by first | assumption | exact DL.app_get | exact DL.set_get (by first | assumption | exact DL.app_get | exact DL.set_get (by first | assumption | exact DL.app_get | exact DL.set_get (by first | assumption | exact DL.app_get | exact DL.set_get (by first | assumption | exact DL.app_get | exact DL.set_get (by first | assumption | exact DL.app_get) | exact DL.app_get_lt (by first | assumption | exact DL.app_get)) | exact DL.app_get_lt (by first | assumption | exact DL.app_get | exact DL.set_get (by first | assumption | exact DL.app_get) | exact DL.app_get_lt (by first | assumption | exact DL.app_get))) | exact DL.app_get_lt (by first | assumption | exact DL.app_get | exact DL.set_get (by first | assumption | exact DL.app_get | exact DL.set_get (by first | assumption | exact DL.app_get) | exact DL.app_get_lt (by first | assumption | exact DL.app_get)) | exact DL.app_get_lt (by first | assumption | exact DL.app_get | exact DL.set_get (by first | assumption | exact DL.app_get) | exact DL.app_get_lt (by first | assumption | exact DL.app_get)))) | exact DL.app_get_lt (by first | assumption | exact DL.app_get | exact DL.set_get (by first | assumption | exact DL.app_get | exact DL.set_get (by first | assumption | exact DL.app_get | exact DL.set_get (by first | assumption | exact DL.app_get) | exact DL.app_get_lt (by first | assumption | exact DL.app_get)) | exact DL.app_get_lt (by first | assumption | exact DL.app_get | exact DL.set_get (by first | assumption | exact DL.app_get) | exact DL.app_get_lt (by first | assumption | exact DL.app_get))) | exact DL.app_get_lt (by first | assumption | exact DL.app_get | exact DL.set_get (by first | assumption | exact DL.app_get | exact DL.set_get (by first | assumption | exact DL.app_get) | exact DL.app_get_lt (by first | assumption | exact DL.app_get)) | exact DL.app_get_lt (by first | assumption | exact DL.app_get | exact DL.set_get (by first | assumption | exact DL.app_get) | exact DL.app_get_lt (by first | assumption | exact DL.app_get))))) | exact DL.app_get_lt (by first | assumption | exact DL.app_get | exact DL.set_get (by first | assumption | exact DL.app_get | exact DL.set_get (by first | assumption | exact DL.app_get | exact DL.set_get (by first | assumption | exact DL.app_get | exact DL.set_get (by first | assumption | exact DL.app_get) | exact DL.app_get_lt (by first | assumption | exact DL.app_get)) | exact DL.app_get_lt (by first | assumption | exact DL.app_get | exact DL.set_get (by first | assumption | exact DL.app_get) | exact DL.app_get_lt (by first | assumption | exact DL.app_get))) | exact DL.app_get_lt (by first | assumption | exact DL.app_get | exact DL.set_get (by first | assumption | exact DL.app_get | exact DL.set_get (by first | assumption | exact DL.app_get) | exact DL.app_get_lt (by first | assumption | exact DL.app_get)) | exact DL.app_get_lt (by first | assumption | exact DL.app_get | exact DL.set_get (by first | assumption | exact DL.app_get) | exact DL.app_get_lt (by first | assumption | exact DL.app_get)))) | exact DL.app_get_lt (by first | assumption | exact DL.app_get | exact DL.set_get (by first | assumption | exact DL.app_get | exact DL.set_get (by first | assumption | exact DL.app_get | exact DL.set_get (by first | assumption | exact DL.app_get) | exact DL.app_get_lt (by first | assumption | exact DL.app_get)) | exact DL.app_get_lt (by first | assumption | exact DL.app_get | exact DL.set_get (by first | assumption | exact DL.app_get) | exact DL.app_get_lt (by first | assumption | exact DL.app_get))) | exact DL.app_get_lt (by first | assumption | exact DL.app_get | exact DL.set_get (by first | assumption | exact DL.app_get | exact DL.set_get (by first | assumption | exact DL.app_get) | exact DL.app_get_lt (by first | assumption | exact DL.app_get)) | exact DL.app_get_lt (by first | assumption | exact DL.app_get | exact DL.set_get (by first | assumption | exact DL.app_get) | exact DL.app_get_lt (by first | assumption | exact DL.app_get)))))), rfl, rfl, ?_⟩)
  | with_reducible refine v_break ?_
  | with_reducible refine v_cont ?_
  | with_reducible refine v_truB' ?_
  | with_reducible refine v_nT ?_
  | with_reducible refine v_nF ?_
  | ((with_reducible refine v_itF ?_); (refine ⟨_, (by first | exact rfl | assumption), ?_⟩))
  | ((with_reducible refine v_itC ?_); (refine ⟨_, (by first | assumption | exact DL.app_get | exact DL.set_get (by first | assumption | exact DL.app_get | exact DL.set_get (by first | assumption | exact DL.app_get | exact DL.set_get (by first | assumption | exact DL.app_get | exact DL.set_get (by first | assumption | exact DL.app_get | exact DL.set_get (by first | assumption | exact DL.app_get) | exact DL.app_get_lt (by first | assumption | exact DL.app_get)) | exact DL.app_get_lt (by first | assumption | exact DL.app_get | exact DL.set_get (by first | assumption | exact DL.app_get) | exact DL.app_get_lt (by first | assumption | exact DL.app_get))) | exact DL.app_get_lt (by first | assumption | exact DL.app_get | exact DL.set_get (by first | assumption | exact DL.app_get | exact DL.set_get (by first | assumption | exact DL.app_get) | exact DL.app_get_lt (by first | assumption | exact DL.app_get)) | exact DL.app_get_lt (by first | assumption | exact DL.app_get | exact DL.set_get (by first | assumption | exact DL.app_get) | exact DL.app_get_lt (by first | assumption | exact DL.app_get)))) | exact DL.app_get_lt (by first | assumption | exact DL.app_get | exact DL.set_get (by first | assumption | exact DL.app_get | exact DL.set_get (by first | assumption | exact DL.app_get | exact DL.set_get (by first | assumption | exact DL.app_get) | exact DL.app_get_lt (by first | assumption | exact DL.app_get)) | exact DL.app_get_lt (by first | assumption | exact DL.app_get | exact DL.set_get (by first | assumption | exact DL.app_get) | exact DL.app_get_lt (by first | assumption | exact DL.app_get))) | exact DL.app_get_lt (by first | assumption | exact DL.app_get | exact DL.set_get (by first | assumption | exact DL.app_get | exact DL.set_get (by first | assumption | exact DL.app_get) | exact DL.app_get_lt (by first | assumption | exact DL.app_get)) | exact DL.app_get_lt (by first | assumption | exact DL.app_get | exact DL.set_get (by first | assumption | exact DL.app_get) | exact DL.app_get_lt (by first | assumption | exact DL.app_get))))) | exact DL.app_get_lt (by first | assumption | exact DL.app_get | exact DL.set_get (by first | assumption | exact DL.app_get | exact DL.set_get (by first | assumption | exact DL.app_get | exact DL.set_get (by first | assumption | exact DL.app_get | exact DL.set_get (by first | assumption | exact DL.app_get) | exact DL.app_get_lt (by first | assumption | exact DL.app_get)) | exact DL.app_get_lt (by first | assumption | exact DL.app_get | exact DL.set_get (by first | assumption | exact DL.app_get) | exact DL.app_get_lt (by first | assumption | exact DL.app_get))) | exact DL.app_get_lt (by first | assumption | exact DL.app_get | exact DL.set_get (by first | assumption | exact DL.app_get | exact DL.set_get (by first | assumption | exact DL.app_get) | exact DL.app_get_lt (by first | assumption | exact DL.app_get)) | exact DL.app_get_lt (by first | assumption | exact DL.app_get | exact DL.set_get (by first | assumption | exact DL.app_get) | exact DL.app_get_lt (by first | assumption | exact DL.app_get)))) | exact DL.app_get_lt (by first | assumption | exact DL.app_get | exact DL.set_get (by first | assumption | exact DL.app_get | exact DL.set_get (by first | assumption | exact DL.app_get | exact DL.set_get (by first | assumption | exact DL.app_get) | exact DL.app_get_lt (by first | assumption | exact DL.app_get)) | exact DL.app_get_lt (by first | assumption | exact DL.app_get | exact DL.set_get (by first | assumption | exact DL.app_get) | exact DL.app_get_lt (by first | assumption | exact DL.app_get))) | exact DL.app_get_lt (by first | assumption | exact DL.app_get | exact DL.set_get (by first | assumption | exact DL.app_get | exact DL.set_get (by first | assumption | exact DL.app_get) | exact DL.app_get_lt (by first | assumption | exact DL.app_get)) | exact DL.app_get_lt (by first | assumption | exact DL.app_get | exact DL.set_get (by first | assumption | exact DL.app_get) | exact DL.app_get_lt (by first | assumption | exact DL.app_get)))))), ?_⟩))
  | ((with_reducible refine v_insX ?_); (refine ⟨_, _, _, (by first | assumption | exact DL.ins_cell (by first | assumption | exact DL.app_get | exact DL.set_get (by first | assumption | exact DL.app_get | exact DL.set_get (by first | assumption | exact DL.app_get | exact DL.set_get (by first | assumption | exact DL.app_get | exact DL.set_get (by first | assumption | exact DL.app_get) | exact DL.app_get_lt (by first | assumption | exact DL.app_get)) | exact DL.app_get_lt (by first | assumption | exact DL.app_get | exact DL.set_get (by first | assumption | exact DL.app_get) | exact DL.app_get_lt (by first | assumption | exact DL.app_get))) | exact DL.app_get_lt (by first | assumption | exact DL.app_get | exact DL.set_get (by first | assumption | exact DL.app_get | exact DL.set_get (by first | assumption | exact DL.app_get) | exact DL.app_get_lt (by first | assumption | exact DL.app_get)) | exact DL.app_get_lt (by first | assumption | exact DL.app_get | exact DL.set_get (by first | assumption | exact DL.app_get) | exact DL.app_get_lt (by first | assumption | exact DL.app_get)))) | exact DL.app_get_lt (by first | assumption | exact DL.app_get | exact DL.set_get (by first | assumption | exact DL.app_get | exact DL.set_get (by first | assumption | exact DL.app_get | exact DL.set_get (by first | assumption | exact DL.app_get) | exact DL.app_get_lt (by first | assumption | exact DL.app_get)) | exact DL.app_get_lt (by first | assumption | exact DL.app_get | exact DL.set_get (by first | assumption | exact DL.app_get) | exact DL.app_get_lt (by first | assumption | exact DL.app_get))) | exact DL.app_get_lt (by first | assumption | exact DL.app_get | exact DL.set_get (by first | assumption | exact DL.app_get | exact DL.set_get (by first | assumption | exact DL.app_get) | exact DL.app_get_lt (by first | assumption | exact DL.app_get)) | exact DL.app_get_lt (by first | assumption | exact DL.app_get | exact DL.set_get (by first | assumption | exact DL.app_get) | exact DL.app_get_lt (by first | assumption | exact DL.app_get)))))), rfl, ?_⟩))
  | ((with_reducible refine v_insP ?_); (refine ⟨⟨_, _, (by first | assumption | exact DL.ins_cell (by first | assumption | exact DL.app_get | exact DL.set_get (by first | assumption | exact DL.app_get | exact DL.set_get (by first | assumption | exact DL.app_get | exact DL.set_get (by first | assumption | exact DL.app_get | exact DL.set_get (by first | assumption | exact DL.app_get) | exact DL.app_get_lt (by first | assumption | exact DL.app_get)) | exact DL.app_get_lt (by first | assumption | exact DL.app_get | exact DL.set_get (by first | assumption | exact DL.app_get) | exact DL.app_get_lt (by first | assumption | exact DL.app_get))) | exact DL.app_get_lt (by first | assumption | exact DL.app_get | exact DL.set_get (by first | assumption | exact DL.app_get | exact DL.set_get (by first | assumption | exact DL.app_get) | exact DL.app_get_lt (by first | assumption | exact DL.app_get)) | exact DL.app_get_lt (by first | assumption | exact DL.app_get | exact DL.set_get (by first | assumption | exact DL.app_get) | exact DL.app_get_lt (by first | assumption | exact DL.app_get)))) | exact DL.app_get_lt (by first | assumption | exact DL.app_get | exact DL.set_get (by first | assumption | exact DL.app_get | exact DL.set_get (by first | assumption | exact DL.app_get | exact DL.set_get (by first | assumption | exact DL.app_get) | exact DL.app_get_lt (by first | assumption | exact DL.app_get)) | exact DL.app_get_lt (by first | assumption | exact DL.app_get | exact DL.set_get (by first | assumption | exact DL.app_get) | exact DL.app_get_lt (by first | assumption | exact DL.app_get))) | exact DL.app_get_lt (by first | assumption | exact DL.app_get | exact DL.set_get (by first | assumption | exact DL.app_get | exact DL.set_get (by first | assumption | exact DL.app_get) | exact DL.app_get_lt (by first | assumption | exact DL.app_get)) | exact DL.app_get_lt (by first | assumption | exact DL.app_get | exact DL.set_get (by first | assumption | exact DL.app_get) | exact DL.app_get_lt (by first | assumption | exact DL.app_get))))))⟩, ?_⟩))
  | ((with_reducible refine v_lkX ?_); (refine ⟨_, (by first | exact rfl | assumption), ?_⟩))
  | with_reducible refine v_fldS ?_
  | ((with_reducible refine v_fldX ?_); refine ⟨_, _, _, rfl, (by first | assumption | exact DL.app_get | exact DL.set_get (by first | assumption | exact DL.app_get | exact DL.set_get (by first | assumption | exact DL.app_get | exact DL.set_get (by first | assumption | exact DL.app_get | exact DL.set_get (by first | assumption | exact DL.app_get | exact DL.set_get (by first | assumption | exact DL.app_get) | exact DL.app_get_lt (by first | assumption | exact DL.app_get)) | exact DL.app_get_lt (by first | assumption | exact DL.app_get | exact DL.set_get (by first | assumption | exact DL.app_get) | exact DL.app_get_lt (by first | assumption | exact DL.app_get))) | exact DL.app_get_lt (by first | assumption | exact DL.app_get | exact DL.set_get (by first | assumption | exact DL.app_get | exact DL.set_get (by first | assumption | exact DL.app_get) | exact DL.app_get_lt (by first | assumption | exact DL.app_get)) | exact DL.app_get_lt (by first | assumption | exact DL.app_get | exact DL.set_get (by first | assumption | exact DL.app_get) | exact DL.app_get_lt (by first | assumption | exact DL.app_get)))) | exact DL.app_get_lt (by first | assumption | exact DL.app_get | exact DL.set_get (by first | assumption | exact DL.app_get | exact DL.set_get (by first | assumption | exact DL.app_get | exact DL.set_get (by first | assumption | exact DL.app_get) | exact DL.app_get_lt (by first | assumption | exact DL.app_get)) | exact DL.app_get_lt (by first | assumption | exact DL.app_get | exact DL.set_get (by first | assumption | exact DL.app_get) | exact DL.app_get_lt (by first | assumption | exact DL.app_get))) | exact DL.app_get_lt (by first | assumption | exact DL.app_get | exact DL.set_get (by first | assumption | exact DL.app_get | exact DL.set_get (by first | assumption | exact DL.app_get) | exact DL.app_get_lt (by first | assumption | exact DL.app_get)) | exact DL.app_get_lt (by first | assumption | exact DL.app_get | exact DL.set_get (by first | assumption | exact DL.app_get) | exact DL.app_get_lt (by first | assumption | exact DL.app_get))))) | exact DL.app_get_lt (by first | assumption | exact DL.app_get | exact DL.set_get (by first | assumption | exact DL.app_get | exact DL.set_get (by first | assumption | exact DL.app_get | exact DL.set_get (by first | assumption | exact DL.app_get | exact DL.set_get (by first | assumption | exact DL.app_get) | exact DL.app_get_lt (by first | assumption | exact DL.app_get)) | exact DL.app_get_lt (by first | assumption | exact DL.app_get | exact DL.set_get (by first | assumption | exact DL.app_get) | exact DL.app_get_lt (by first | assumption | exact DL.app_get))) | exact DL.app_get_lt (by first | assumption | exact DL.app_get | exact DL.set_get (by first | assumption | exact DL.app_get | exact DL.set_get (by first | assumption | exact DL.app_get) | exact DL.app_get_lt (by first | assumption | exact DL.app_get)) | exact DL.app_get_lt (by first | assumption | exact DL.app_get | exact DL.set_get (by first | assumption | exact DL.app_get) | exact DL.app_get_lt (by first | assumption | exact DL.app_get)))) | exact DL.app_get_lt (by first | assumption | exact DL.app_get | exact DL.set_get (by first | assumption | exact DL.app_get | exact DL.set_get (by first | assumption | exact DL.app_get | exact DL.set_get (by first | assumption | exact DL.app_get) | exact DL.app_get_lt (by first | assumption | exact DL.app_get)) | exact DL.app_get_lt (by first | assumption | exact DL.app_get | exact DL.set_get (by first | assumption | exact DL.app_get) | exact DL.app_get_lt (by first | assumption | exact DL.app_get))) | exact DL.app_get_lt (by first | assumption | exact DL.app_get | exact DL.set_get (by first | assumption | exact DL.app_get | exact DL.set_get (by first | assumption | exact DL.app_get) | exact DL.app_get_lt (by first | assumption | exact DL.app_get)) | exact DL.app_get_lt (by first | assumption | exact DL.app_get | exact DL.set_get (by first | assumption | exact DL.app_get) | exact DL.app_get_lt (by first | assumption | exact DL.app_get)))))), by decide, by decide, ?_⟩)
  | with_reducible refine v_isN0 ?_
  | with_reducible refine v_isnN0 ?_
  | ((with_reducible refine v_isN1 ?_); (refine ⟨rfl, rfl, ?_⟩))
  | ((with_reducible refine v_isnN1 ?_); (refine ⟨rfl, rfl, ?_⟩))
  | ((with_reducible refine v_eqNF ?_); (refine ⟨⟨rfl, rfl, rfl⟩, (by first | rfl | decide +kernel), (by first | rfl | decide +kernel), (by first | rfl | decide +kernel), ?_⟩))
  | ((with_reducible refine v_eqNT ?_); (refine ⟨⟨rfl, rfl, rfl⟩, (by first | rfl | decide +kernel), (by first | rfl | decide +kernel), (by first | rfl | decide +kernel), ?_⟩))
  | ((with_reducible refine v_neNF ?_); (refine ⟨⟨rfl, rfl, rfl⟩, (by first | rfl | decide +kernel), (by first | rfl | decide +kernel), (by first | rfl | decide +kernel), ?_⟩))
  | ((with_reducible refine v_neNT ?_); (refine ⟨⟨rfl, rfl, rfl⟩, (by first | rfl | decide +kernel), (by first | rfl | decide +kernel), (by first | rfl | decide +kernel), ?_⟩))
  | with_reducible refine v_asgG ?_
  | with_reducible refine v_gN ?_
  | with_reducible refine v_gF ?_
  | with_reducible refine v_gZ ?_
  | with_reducible refine v_gC ?_
  | ((with_reducible refine v_gT ?_); (refine ⟨rfl, ?_⟩))
  | ((with_reducible refine v_updF ?_); (refine ⟨_, _, _, _, rfl, (by first | assumption | exact DL.app_get | exact DL.set_get (by first | assumption | exact DL.app_get | exact DL.set_get (by first | assumption | exact DL.app_get | exact DL.set_get (by first | assumption | exact DL.app_get | exact DL.set_get (by first | assumption | exact DL.app_get | exact DL.set_get (by first | assumption | exact DL.app_get) | exact DL.app_get_lt (by first | assumption | exact DL.app_get)) | exact DL.app_get_lt (by first | assumption | exact DL.app_get | exact DL.set_get (by first | assumption | exact DL.app_get) | exact DL.app_get_lt (by first | assumption | exact DL.app_get))) | exact DL.app_get_lt (by first | assumption | exact DL.app_get | exact DL.set_get (by first | assumption | exact DL.app_get | exact DL.set_get (by first | assumption | exact DL.app_get) | exact DL.app_get_lt (by first | assumption | exact DL.app_get)) | exact DL.app_get_lt (by first | assumption | exact DL.app_get | exact DL.set_get (by first | assumption | exact DL.app_get) | exact DL.app_get_lt (by first | assumption | exact DL.app_get)))) | exact DL.app_get_lt (by first | assumption | exact DL.app_get | exact DL.set_get (by first | assumption | exact DL.app_get | exact DL.set_get (by first | assumption | exact DL.app_get | exact DL.set_get (by first | assumption | exact DL.app_get) | exact DL.app_get_lt (by first | assumption | exact DL.app_get)) | exact DL.app_get_lt (by first | assumption | exact DL.app_get | exact DL.set_get (by first | assumption | exact DL.app_get) | exact DL.app_get_lt (by first | assumption | exact DL.app_get))) | exact DL.app_get_lt (by first | assumption | exact DL.app_get | exact DL.set_get (by first | assumption | exact DL.app_get | exact DL.set_get (by first | assumption | exact DL.app_get) | exact DL.app_get_lt (by first | assumption | exact DL.app_get)) | exact DL.app_get_lt (by first | assumption | exact DL.app_get | exact DL.set_get (by first | assumption | exact DL.app_get) | exact DL.app_get_lt (by first | assumption | exact DL.app_get))))) | exact DL.app_get_lt (by first | assumption | exact DL.app_get | exact DL.set_get (by first | assumption | exact DL.app_get | exact DL.set_get (by first | assumption | exact DL.app_get | exact DL.set_get (by first | assumption | exact DL.app_get | exact DL.set_get (by first | assumption | exact DL.app_get) | exact DL.app_get_lt (by first | assumption | exact DL.app_get)) | exact DL.app_get_lt (by first | assumption | exact DL.app_get | exact DL.set_get (by first | assumption | exact DL.app_get) | exact DL.app_get_lt (by first | assumption | exact DL.app_get))) | exact DL.app_get_lt (by first | assumption | exact DL.app_get | exact DL.set_get (by first | assumption | exact DL.app_get | exact DL.set_get (by first | assumption | exact DL.app_get) | exact DL.app_get_lt (by first | assumption | exact DL.app_get)) | exact DL.app_get_lt (by first | assumption | exact DL.app_get | exact DL.set_get (by first | assumption | exact DL.app_get) | exact DL.app_get_lt (by first | assumption | exact DL.app_get)))) | exact DL.app_get_lt (by first | assumption | exact DL.app_get | exact DL.set_get (by first | assumption | exact DL.app_get | exact DL.set_get (by first | assumption | exact DL.app_get | exact DL.set_get (by first | assumption | exact DL.app_get) | exact DL.app_get_lt (by first | assumption | exact DL.app_get)) | exact DL.app_get_lt (by first | assumption | exact DL.app_get | exact DL.set_get (by first | assumption | exact DL.app_get) | exact DL.app_get_lt (by first | assumption | exact DL.app_get))) | exact DL.app_get_lt (by first | assumption | exact DL.app_get | exact DL.set_get (by first | assumption | exact DL.app_get | exact DL.set_get (by first | assumption | exact DL.app_get) | exact DL.app_get_lt (by first | assumption | exact DL.app_get)) | exact DL.app_get_lt (by first | assumption | exact DL.app_get | exact DL.set_get (by first | assumption | exact DL.app_get) | exact DL.app_get_lt (by first | assumption | exact DL.app_get)))))), by decide, rfl, ?_⟩))
  | with_reducible refine v_fldU ?_
  | with_reducible refine v_fldA ?_
  | with_reducible refine v_addII ?_
  | ((with_reducible refine v_methX ?_); (refine ⟨⟨_, _, (by first | assumption | exact DL.ins_cell (by first | assumption | exact DL.app_get | exact DL.set_get (by first | assumption | exact DL.app_get | exact DL.set_get (by first | assumption | exact DL.app_get | exact DL.set_get (by first | assumption | exact DL.app_get | exact DL.set_get (by first | assumption | exact DL.app_get) | exact DL.app_get_lt (by first | assumption | exact DL.app_get)) | exact DL.app_get_lt (by first | assumption | exact DL.app_get | exact DL.set_get (by first | assumption | exact DL.app_get) | exact DL.app_get_lt (by first | assumption | exact DL.app_get))) | exact DL.app_get_lt (by first | assumption | exact DL.app_get | exact DL.set_get (by first | assumption | exact DL.app_get | exact DL.set_get (by first | assumption | exact DL.app_get) | exact DL.app_get_lt (by first | assumption | exact DL.app_get)) | exact DL.app_get_lt (by first | assumption | exact DL.app_get | exact DL.set_get (by first | assumption | exact DL.app_get) | exact DL.app_get_lt (by first | assumption | exact DL.app_get)))) | exact DL.app_get_lt (by first | assumption | exact DL.app_get | exact DL.set_get (by first | assumption | exact DL.app_get | exact DL.set_get (by first | assumption | exact DL.app_get | exact DL.set_get (by first | assumption | exact DL.app_get) | exact DL.app_get_lt (by first | assumption | exact DL.app_get)) | exact DL.app_get_lt (by first | assumption | exact DL.app_get | exact DL.set_get (by first | assumption | exact DL.app_get) | exact DL.app_get_lt (by first | assumption | exact DL.app_get))) | exact DL.app_get_lt (by first | assumption | exact DL.app_get | exact DL.set_get (by first | assumption | exact DL.app_get | exact DL.set_get (by first | assumption | exact DL.app_get) | exact DL.app_get_lt (by first | assumption | exact DL.app_get)) | exact DL.app_get_lt (by first | assumption | exact DL.app_get | exact DL.set_get (by first | assumption | exact DL.app_get) | exact DL.app_get_lt (by first | assumption | exact DL.app_get)))))), by decide⟩, ?_⟩))
  | with_reducible refine v_while ?_
  | with_reducible refine v_setO ?_
  | with_reducible refine v_en ?_
  | with_reducible refine v_oneD ?_
  | ((with_reducible refine v_itLF ?_); (refine ⟨_, rfl, ?_⟩))
  | ((with_reducible refine v_tgX ?_); (refine ⟨_, rfl, ?_⟩))
  | with_reducible refine v_neg ?_
  | with_reducible refine v_oneI ?_
  | with_reducible refine v_isnB ?_
  | with_reducible refine v_isB ?_
  | with_reducible refine v_lc2 ?_
  | with_reducible refine v_max2 ?_
  | with_reducible refine v_min2 ?_
  | with_reducible refine v_callX ?_
  | with_reducible refine v_makeX ?_
  | with_reducible refine v_setX ?_
  | with_reducible refine v_twoX ?_
  | ((with_reducible refine v_isEX ?_); (refine ⟨_, rfl, rfl, _, List.mem_cons_self, ?_⟩))
  | with_reducible refine v_raise ?_
  | ((with_reducible refine v_par ?_); skip)
  | with_reducible refine v_raiseI ?_
  | with_reducible refine v_xf ?_
  | with_reducible refine v_unx ?_
  | with_reducible refine v_urt ?_
  | with_reducible refine v_dct ?_
  | with_reducible refine v_dnew ?_
  | with_reducible refine v_dput ?_
  | with_reducible refine v_dget ?_
  | with_reducible refine v_din ?_
  | with_reducible refine v_star ?_
  | with_reducible refine v_par3 ?_
  | with_reducible refine v_fz ?_))
local macro_rules | `(tactic| walk_at "w") => `(tactic| (walk_at "v"; all_goals try dsimp only [List.set]))
section
variable {K : PySem.W.Frag}
theorem len_is_integer : ∀ ds cs Q, sp_is_integer K ds cs Q → ds.length = 1 := by rintro ds cs Q ⟨_, rfl, _⟩; rfl
theorem vc_is_integer : ∀ ds cs Q, Lo ds cs → LoC cs → sp_is_integer K ds cs Q → t_is_integer K (Po.fn cs Q) ⟨startD N_is_integer ds, cs⟩ := by
  rintro ds cs Q hd hc ⟨d, rfl, ⟨a, ha⟩, q⟩
  unfold t_is_integer
  cases d
  case cell n =>
    cases tyN_cell ha
    walk_at "v"
    exact .inl q
  all_goals first | (cases ha; done) | (walk_at "v"; exact Or.inl q)
theorem log_lt {n k : Nat} (h : n < 2 ^ k) (hk : 0 < k) : n.log2 < k := by
  rcases Nat.eq_zero_or_pos n with rfl | hp
  · exact hk
  · exact (Nat.log2_lt (by omega)).mpr h
theorem fdiv_ok {a b : Int} (h0 : 0 < b) (h1 : b ≤ 1000000000000000000000000000000) : FdivOk a b := .inr ⟨h0, Nat.lt_trans (log_lt (k := 100) (by omega) (by decide)) (by decide)⟩
theorem cut_tl (x : D) (xs : List D) : cutD (x :: xs) (some 1) none = xs := by
  have h := cut_from (α := D) (fun d => d) (x :: xs) 1
  simp only [List.map_id'] at h
  exact h
theorem Wo.s_inj : ∀ a b : Wo, (PyData.eqv (.str a.s) (.str b.s)) = decide (a = b) := by
  intro a b
  cases a <;> cases b <;> first | rfl | decide +kernel
theorem Wo.lay : ∀ a : Wo, (PyData.str a.s).canLay0 = true := by
  intro a
  cases a <;> first | rfl | decide +kernel
theorem shs_int (n : Nat) (ns : List Int) : Shs n (ns.map .int) := .all fun d hd => by
  obtain ⟨i, _, rfl⟩ := List.mem_map.mp hd
  exact (Sh.int i).mono (Nat.zero_le _)
theorem sh_D (t : Dd) : Sh 1 (encD t) := .tup (.cons (Sh.str (Wo.lay _)) (shs_int 0 _))
theorem eqv_D (s t : Dd) : PyData.eqv (toP (encD s)) (toP (encD t)) = decide (s = t) := by
  obtain ⟨a, xs⟩ := s
  obtain ⟨b, ys⟩ := t
  have h1 := Wo.s_inj a b
  have h2 := encI.eqvs xs ys
  show (PyData.eqv (.str a.s) (.str b.s) && PyData.eqvAll (toPs (xs.map .int)) (toPs (ys.map .int))) = _
  rw [h1, h2]
  simp [Prod.mk.injEq]
theorem encDE : EqE encD 1 := ⟨fun t => (sh_D t).ok, fun t => (sh_D t).lay, fun t => (sh_D t).dep, eqv_D⟩
theorem lo_D {k : Nat} (t : Dd) : loD k (encD t) = true := by
  show (true && los k (t.2.map .int)) = true
  rw [los_int] <;> rfl
theorem los_D {k : Nat} (ts : List Dd) : los k (ts.map encD) = true := los_map lo_D ts
theorem any_mem {α : Type} [DecidableEq α] {enc : α → D} {n : Nat} (h : EqE enc n) (a : α) : ∀ xs : List α, ((toPs (xs.map enc)).any fun z => PyData.eqv z (toP (enc a))) = decide (a ∈ xs)
  | [] => rfl
  | x :: xs => by
    show (PyData.eqv (toP (enc x)) (toP (enc a)) || (toPs (xs.map enc)).any fun z => PyData.eqv z (toP (enc a))) = _
    rw [h.eqv, any_mem h a xs]
    simp [eq_comm]
theorem v_inE {α : Type} [DecidableEq α] {enc : α → D} {n : Nat} (h : EqE enc n) {a : α} {xs : List α} {e : En} {P : D → En → Prop} {x y : D} (hx : drf e.cs x = enc a) (hy : drf e.cs y = .lst (xs.map enc)) (p : P (.bl (isIn a xs)) e) (hn : n + 1 ≤ 64 := by decide) : qIn false x y e P := by
  refine .inr ⟨_, hy, ?_, h.lst.shp hn xs, ?_⟩
  · rw [hx]
    exact h.shp (by omega) a
  · rw [hx, any_mem h]
    exact p
theorem v_lcF {P : D → En → Prop} {tg : Tg} {tt : DT} {te : DE} {vs : List Nat} {o : Bool} {G : List Cel → Prop} {α : Type} {ds : List D} {e1 : En} (xs : List α) (enc f : α → D) (pr : α → Bool) (hd : ds = xs.map enc) (hz : xs.length ≤ 100000)
  (turn : ∀ (Q : List Cel → Prop) (Q2 : D → List Cel → Prop) (i : Nat) (x : α), xs[i]? = some x → (pr x = false → Q e1.cs) → (pr x = true → Q2 (f x) e1.cs) → ∃ sl', setTg tg (enc x) (wipeD e1.sl vs) = some sl' ∧ tt ⟨sl', e1.cs⟩ fun b e2 => if b = true then te e2 fun y e3 => Q2 y e3.cs else Q e2.cs)
  (done : newL o ((xs.filter pr).map f) ⟨e1.sl, e1.cs⟩ P) (g : G e1.cs := by first | trivial | assumption) : ds.length ≤ sizeLine ∧ ∃ I : Nat → List D → List Cel → Prop, I 0 [] e1.cs ∧
  (∀ i d acc cs, ds[i]? = some d → I i acc cs → G cs ∧ ∃ sl', setTg tg d (wipeD e1.sl vs) = some sl' ∧ tt ⟨sl', cs⟩ fun b e2 => if b = true then te e2 fun y e3 => I (i + 1) (acc ++ [y]) e3.cs else I (i + 1) acc e2.cs) ∧
  ∀ acc cs, acc.length ≤ ds.length → I ds.length acc cs → G cs ∧ newL o acc ⟨e1.sl, cs⟩ P := by
  subst hd
  refine ⟨sz_le (by simpa using hz), fun i acc cs => acc = ((xs.take i).filter pr).map f ∧ cs = e1.cs, ⟨rfl, rfl⟩, ?_, ?_⟩
  · rintro i d acc cs hi ⟨rfl, rfl⟩
    simp only [List.getElem?_map, Option.map_eq_some_iff] at hi
    obtain ⟨x, hx, rfl⟩ := hi
    refine ⟨g, turn (fun cs => ((xs.take i).filter pr).map f = ((xs.take (i + 1)).filter pr).map f ∧ cs = e1.cs) (fun y cs => ((xs.take i).filter pr).map f ++ [y] = ((xs.take (i + 1)).filter pr).map f ∧ cs = e1.cs) i x hx (fun h => ⟨?_, rfl⟩) fun h => ⟨?_, rfl⟩⟩
    · rw [List.take_add_one, hx]
      simp [h]
    · rw [List.take_add_one, hx]
      simp [h]
  · rintro acc cs _ ⟨rfl, rfl⟩
    exact ⟨g, by simpa using done⟩
def isD (b r : Int) (t : Dd) : Prop := match t.1 with
  | .off => ∃ d, t.2 = [d] ∧ 1 ≤ d ∧ d < b
  | .read => ∃ j d, t.2 = [j, d] ∧ 0 ≤ j ∧ j < r ∧ 1 ≤ d ∧ d < b
  | .copy => ∃ j, t.2 = [j] ∧ 0 ≤ j ∧ j < r
  | _ => t.2 = []
theorem isD_of {b r : Int} {t : Dd} (h : t ∈ allD b r) : isD b r t := by
  unfold allD at h
  simp only [List.mem_append, List.mem_cons, List.not_mem_nil, or_false] at h
  rcases h with (((h | h) | h) | h) | h
  · rcases h with rfl | rfl <;> rfl
  · obtain ⟨i, hi, rfl⟩ := List.mem_map.mp h
    have := List.mem_range.mp hi
    exact ⟨_, rfl, by omega, by omega⟩
  · obtain ⟨j, hj, h⟩ := List.mem_flatMap.mp h
    obtain ⟨i, hi, rfl⟩ := List.mem_map.mp h
    have := List.mem_range.mp hi
    have := List.mem_range.mp hj
    exact ⟨_, _, rfl, by omega, by omega, by omega, by omega⟩
  · obtain ⟨i, hi, rfl⟩ := List.mem_map.mp h
    have := List.mem_range.mp hi
    exact ⟨_, rfl, by omega, by omega⟩
  · rcases h with rfl | rfl | rfl <;> rfl
theorem isD.len {b r : Int} {t : Dd} (h : isD b r t) : t.2.length ≤ 2 := by
  obtain ⟨w, l⟩ := t
  cases w <;> simp only [isD] at h <;> first | (obtain ⟨_, rfl, _⟩ := h; simp; done) | (obtain ⟨_, _, rfl, _⟩ := h; simp; done) | (subst h; simp)
theorem allD_nd_all : ∀ b : Nat, b < 13 → ∀ r : Nat, r < 5 → (allD (b : Int) (r : Int)).Nodup := by decide +kernel
theorem allD_nd {b r : Int} (h1 : 2 ≤ b) (h2 : b ≤ 12) (h3 : 1 ≤ r) (h4 : r ≤ 4) : (allD b r).Nodup := by
  have := allD_nd_all b.toNat (by omega) r.toNat (by omega)
  rw [show ((b.toNat : Nat) : Int) = b by omega, show ((r.toNat : Nat) : Int) = r by omega] at this
  exact this
theorem allD_len_all : ∀ b : Nat, b < 13 → 2 ≤ b → ∀ r : Nat, r < 5 → 1 ≤ r → 8 ≤ (allD (b : Int) (r : Int)).length ∧ (allD (b : Int) (r : Int)).length ≤ 100 := by decide +kernel
theorem allD_len {b r : Int} (h1 : 2 ≤ b) (h2 : b ≤ 12) (h3 : 1 ≤ r) (h4 : r ≤ 4) : 8 ≤ (allD b r).length ∧ (allD b r).length ≤ 100 := by
  have := allD_len_all b.toNat (by omega) (by omega) r.toNat (by omega) (by omega)
  rw [show ((b.toNat : Nat) : Int) = b by omega, show ((r.toNat : Nat) : Int) = r by omega] at this
  exact this
theorem filter_len {α : Type} [DecidableEq α] : ∀ {xs ys : List α}, xs.Nodup → ys.Nodup → (∀ t ∈ ys, t ∈ xs) → (xs.filter fun t => isIn t ys).length = ys.length := by
  intro xs ys hx hy hs
  have p : (xs.filter fun t => isIn t ys).Perm ys := by
    rw [List.perm_ext_iff_of_nodup (hx.filter _) hy]
    intro a
    rw [List.mem_filter, isIn, decide_eq_true_eq]
    exact ⟨fun h => h.2, fun h => ⟨hs a h, h⟩⟩
  exact p.length_eq
theorem st_noc {a b : D} : startD N_number_of_columns [a, b] = [some a, some b, none, none] := rfl
theorem len_number_of_columns : ∀ ds cs Q, sp_number_of_columns K ds cs Q → ds.length = 2 := by rintro ds cs Q ⟨_, _, rfl, _⟩; rfl
theorem vc_number_of_columns : ∀ ds cs Q, Lo ds cs → LoC cs → sp_number_of_columns K ds cs Q → t_number_of_columns K (Po.fn cs Q) ⟨startD N_number_of_columns ds, cs⟩ := by
  rintro ds cs Q hd hc ⟨b, r, rfl, b2, b12, r1, r4, q⟩
  rw [st_noc]
  unfold t_number_of_columns
  walk_at "v"
  refine ⟨fun i e => ∃ x, e = ⟨[some (.int b), some (.int r), some (.int (b ^ i)), x], cs⟩, ⟨none, by simp⟩, ?_, ?_⟩
  · rintro i d e2 hi ⟨x, rfl⟩
    refine ⟨trivial, _, rfl, ?_⟩
    walk_at "v"
    exact ⟨_, by rw [← Int.pow_succ]; rfl⟩
  · rintro e2 ⟨x, rfl⟩
    refine ⟨trivial, ?_⟩
    rw [intsD_len]
    walk_at "v"
    exact .inl q
theorem st_power {a b : D} : startD N_law_power [a, b] = [some a, some b, none, none] := rfl
theorem len_law_power : ∀ ds cs Q, sp_law_power K ds cs Q → ds.length = 2 := by rintro ds cs Q ⟨_, _, rfl, _⟩; rfl
theorem vc_law_power : ∀ ds cs Q, Lo ds cs → LoC cs → sp_law_power K ds cs Q → t_law_power K (Po.fn cs Q) ⟨startD N_law_power ds, cs⟩ := by
  rintro ds cs Q hd hc ⟨b, r, rfl, b2, b12, r1, r4, q⟩
  rw [st_power]
  unfold t_law_power
  walk_at "v"
  refine ⟨fun i e => ∃ x, e = ⟨[some (.int b), some (.int r), some (.int (b ^ i)), x], cs⟩, ⟨none, by simp⟩, ?_, ?_⟩
  · rintro i d e2 hi ⟨x, rfl⟩
    refine ⟨trivial, _, rfl, ?_⟩
    walk_at "v"
    exact ⟨_, by rw [← Int.pow_succ]; rfl⟩
  · rintro e2 ⟨x, rfl⟩
    refine ⟨trivial, ?_⟩
    rw [intsD_len]
    walk_at "v"
    exact .inl q
theorem offs_map (b : Int) : (List.range (b - 1).toNat).map (fun (i : Nat) => encD (.off, [1 + (i : Int)])) = (offs b).map encD := by
  unfold offs
  rw [List.map_map]
  rfl
theorem copies_map (r : Int) : (List.range r.toNat).map (fun (i : Nat) => encD (.copy, [0 + (i : Int)])) = (copies r).map encD := by
  unfold copies
  rw [List.map_map]
  rfl
theorem reads_map (b j : Int) : (List.range (b - 1).toNat).map (fun (i : Nat) => encD (.read, [j, 1 + (i : Int)])) = (reads b j).map encD := by
  unfold reads
  rw [List.map_map]
  rfl
theorem readsA_succ (b : Int) (k : Nat) : readsA b (k + 1) = readsA b k ++ reads b (0 + (k : Int)) := by
  unfold readsA
  rw [List.range_succ, List.flatMap_append]
  simp
theorem reads_len (b j : Int) : (reads b j).length = (b - 1).toNat := by simp [reads]
theorem readsA_len (b : Int) : ∀ k : Nat, (readsA b k).length = k * (b - 1).toNat
  | 0 => by simp [readsA]
  | k + 1 => by rw [readsA_succ, List.length_append, readsA_len b k, reads_len, Nat.succ_mul]
theorem mul_44 {b : Int} {k : Nat} (h1 : b ≤ 12) (h2 : k ≤ 4) : k * (b - 1).toNat ≤ 44 := by
  have h3 : (b - 1).toNat ≤ 11 := by omega
  exact Nat.le_trans (Nat.mul_le_mul h2 h3) (by decide)
theorem offs_len (b : Int) : (offs b).length = (b - 1).toNat := by simp [offs]
theorem copies_len (r : Int) : (copies r).length = r.toNat := by simp [copies]
theorem st_all_deeds {a b : D} : startD N_all_deeds [a, b] = [some a, some b, none, none, none] := rfl
theorem len_all_deeds : ∀ ds cs Q, sp_all_deeds K ds cs Q → ds.length = 2 := by rintro ds cs Q ⟨_, _, rfl, _⟩; rfl
theorem vc_all_deeds : ∀ ds cs Q, Lo ds cs → LoC cs → sp_all_deeds K ds cs Q → t_all_deeds K (Po.fn cs Q) ⟨startD N_all_deeds ds, cs⟩ := by
  rintro ds cs Q hd hc ⟨b, r, rfl, b2, b12, r1, r4, q⟩
  have lo := offs_len b
  have lc := copies_len r
  have lr := readsA_len b r.toNat
  have l44 := mul_44 b12 (show r.toNat ≤ 4 by omega)
  rw [← lr] at l44
  rw [st_all_deeds]
  unfold t_all_deeds
  walk_at "v"
  refine v_lcY (List.range (b - 1).toNat) (fun (i : Nat) => .int (1 + (i : Int))) (fun (i : Nat) => encD (.off, [1 + (i : Int)])) rfl (by simp; omega) (fun Q' i x hx q' => ⟨_, rfl, by walk_at "v"; exact q'⟩) ?_
  rw [offs_map]
  walk_at "v"
  refine v_addL ⟨by simp; omega, ?_⟩
  rw [show [D.tup [D.str "forget"], D.tup [D.str "again"]] = [((.forget, []) : Dd), (.again, [])].map encD from rfl, ← List.map_append]
  walk_at "v"
  refine ⟨fun i acc cs' => acc = (readsA b i).map encD ∧ cs' = cs, ⟨rfl, rfl⟩, ?_, ?_⟩
  · rintro i d acc cs' hi ⟨rfl, rfl⟩
    obtain ⟨hi1, rfl⟩ := intsD_get hi
    refine ⟨trivial, _, rfl, ?_⟩
    unfold dYes
    refine iteT ?_
    walk_at "v"
    refine ⟨fun j acc1 cs1 => acc1 = (readsA b i ++ (reads b (0 + (i : Int))).take j).map encD ∧ cs1 = cs', ⟨by simp, rfl⟩, ?_, ?_⟩
    · rintro j d acc1 cs1 hj ⟨rfl, rfl⟩
      obtain ⟨hj1, rfl⟩ := intsD_get hj
      refine ⟨trivial, _, rfl, ?_⟩
      refine iteT ?_
      walk_at "v"
      have h1 := readsA_len b i
      have h2 := mul_44 b12 (show i ≤ 4 by omega)
      refine ⟨Nat.lt_of_le_of_lt (show _ ≤ 1000 by rw [List.length_map, List.length_append, List.length_take, reads_len]; omega) (by decide), ?_, rfl⟩
      have e : (reads b (0 + (i : Int))).take (j + 1) = (reads b (0 + (i : Int))).take j ++ [(.read, [0 + (i : Int), 1 + (j : Int)])] := by
        rw [List.take_add_one]
        congr 1
        unfold reads
        rw [List.getElem?_map, List.getElem?_range hj1]
        rfl
      rw [e, ← List.append_assoc, List.map_append (l₁ := readsA b i ++ (reads b (0 + (i : Int))).take j)]
      rfl
    · rintro acc1 cs1 ⟨rfl, rfl⟩
      rw [intsD_len]
      refine ⟨trivial, ?_, rfl⟩
      rw [readsA_succ, List.take_of_length_le (by rw [reads_len]; exact Nat.le_refl _)]
  · rintro acc cs' ⟨rfl, rfl⟩
    rw [intsD_len]
    refine ⟨trivial, ?_⟩
    walk_at "v"
    refine v_addL ⟨by simp; omega, ?_⟩
    rw [← List.map_append]
    walk_at "v"
    refine v_lcY (List.range r.toNat) (fun (i : Nat) => .int (0 + (i : Int))) (fun (i : Nat) => encD (.copy, [0 + (i : Int)])) rfl (by simp; omega) (fun Q' i x hx q' => ⟨_, rfl, by walk_at "v"; exact q'⟩) ?_
    rw [copies_map]
    walk_at "v"
    refine v_addL ⟨by simp; omega, ?_⟩
    rw [← List.map_append]
    walk_at "v"
    refine v_addL ⟨by simp; omega, ?_⟩
    rw [show [D.tup [D.str "swap"], D.tup [D.str "out"], D.tup [D.str "twice"]] = [((.swap, []) : Dd), (.out, []), (.twice, [])].map encD from rfl, ← List.map_append]
    walk_at "v"
    exact .inl q
theorem lkP_lk {cs : List Cel} {d : D} {xs : List D} (h : lk cs d = some xs) (hf : ∀ ys, d ≠ .fro ys) : lkP cs d = some xs := by
  cases d <;> first | exact h | (cases h; done) | exact absurd rfl (hf _)
theorem v_addK {o : Bool} {x y : D} {xs ys : List D} {e : En} {P : D → En → Prop} (h1 : lkP e.cs x = some xs) (h2 : lkP e.cs y = some ys) (hz : xs.length + ys.length ≤ 100000) (p : newL o (xs ++ ys) e P) : qAdd o x y e P := by
  have hz' : xs.length + ys.length ≤ sizeLine := Nat.le_trans hz (by decide)
  cases x <;> first | (cases h1; done) | exact ⟨xs, ys, h1, h2, hz', p⟩
theorem app_set {cs : List Cel} {c0 c : Cel} : (cs ++ [c0]).set cs.length c = cs ++ [c] := by simp
theorem v_slT1 {o : Bool} {x : D} {xs : List D} {e : En} {P : D → En → Prop} (p : P (.tup xs) e) : qSl o (.tup (x :: xs)) (some 1) none e P := by
  refine ⟨fun z => ?_, by rw [cut_tl]; exact p⟩
  have h1 := z.1
  have h2 := HT.sIx_nat (x :: xs).length 0 1
  rw [show ((1 : Nat) : Int) = 1 from rfl, h1] at h2
  simp at h2
def Wo.pl : Wo → Bool
  | .forget => true
  | .again => true
  | .swap => true
  | .out => true
  | .twice => true
  | _ => false
theorem plainF : ∀ w : Wo, inF (.str w.s) [.str "forget", .str "again", .str "swap", .str "out", .str "twice"] = w.pl := by
  intro w
  cases w <;> decide +kernel
theorem st_is_deed {a b c : D} : startD N_is_deed [a, b, c] = [some a, some b, some c, none, none] := rfl
theorem len_is_deed : ∀ ds cs Q, sp_is_deed K ds cs Q → ds.length = 3 := by rintro ds cs Q ⟨_, _, _, rfl, _⟩; rfl
theorem vc_is_deed : ∀ ds cs Q, Lo ds cs → LoC cs → sp_is_deed K ds cs Q → t_is_deed K (Po.fn cs Q) ⟨startD N_is_deed ds, cs⟩ := by
  rintro ds cs Q hd hc ⟨t, b, r, rfl, ht, q⟩
  have hi := isD_of ht
  have hl := hi.len
  clear hd ht
  obtain ⟨w, l⟩ := t
  have hlen : (D.str w.s :: l.map .int).length = l.length + 1 := by simp
  rw [st_is_deed]
  unfold t_is_deed
  have hl2 : l.length ≤ 2 := hl
  unfold encD
  dsimp only
  walk_at "v"
  refine v_lenL (xs := .str w.s :: l.map .int) rfl (fun _ z => nomatch z) ?_
  rw [hlen]
  walk_at "v"
  rw [decide_eq_false (by omega)]
  walk_at "v"
  refine v_ixTX ⟨_, atI_nat (j := 0) rfl, ?_⟩
  walk_at "v"
  refine v_slT1 ?_
  walk_at "v"
  refine v_lcY l D.int (fun _ => .bl true) rfl (by omega) (fun Q' i x hx q' => ⟨_, rfl, by walk_at "v"; exact ⟨.int x, rfl, ⟨_, rfl⟩, q'⟩⟩) ?_
  walk_at "v"
  refine v_allL (bs := l.map fun _ => true) (by rw [List.map_map]; rfl) ?_
  have ea : ((l.map fun _ => true).all fun b => b) = true := by simp
  rw [ea]
  walk_at "v"
  refine v_ixTX ⟨_, atI_nat (j := 0) rfl, ?_⟩
  walk_at "v"
  refine .inl ⟨rfl, _, rfl, rfl, ?_⟩
  rw [show (if (false : Bool) = true then !inF (.str w.s) [.str "forget", .str "again", .str "swap", .str "out", .str "twice"] else inF (.str w.s) [.str "forget", .str "again", .str "swap", .str "out", .str "twice"]) = w.pl from plainF w]
  cases w
  all_goals simp only [isD] at hi
  all_goals dsimp only [Wo.pl]
  case off =>
    obtain ⟨d, rfl, d1, d2⟩ := hi
    walk_at "v"
    refine v_lenL (xs := .str Wo.off.s :: [.int d]) rfl (fun _ z => nomatch z) ?_
    walk_at "v"
    refine v_T ?_
    walk_at "v"
    rw [decide_eq_true d1]
    walk_at "v"
    rw [decide_eq_true d2]
    exact .inl q
  case read =>
    obtain ⟨j, d, rfl, j1, j2, d1, d2⟩ := hi
    walk_at "v"
    refine v_lenL (xs := .str Wo.read.s :: [.int j, .int d]) rfl (fun _ z => nomatch z) ?_
    walk_at "v"
    refine v_T ?_
    walk_at "v"
    rw [decide_eq_true j1]
    walk_at "v"
    rw [decide_eq_true j2]
    walk_at "v"
    rw [decide_eq_true d1]
    walk_at "v"
    rw [decide_eq_true d2]
    exact .inl q
  case copy =>
    obtain ⟨j, rfl, j1, j2⟩ := hi
    walk_at "v"
    refine v_lenL (xs := .str Wo.copy.s :: [.int j]) rfl (fun _ z => nomatch z) ?_
    walk_at "v"
    refine v_T ?_
    walk_at "v"
    rw [decide_eq_true j1]
    walk_at "v"
    rw [decide_eq_true j2]
    exact .inl q
  all_goals
    subst hi
    walk_at "v"
    refine v_lenL (xs := [.str _]) rfl (fun _ z => nomatch z) ?_
    walk_at "v"
    exact .inl q
theorem st_Kind_init {a b c d f : D} : startD N_Kind_init [a, b, c, d, f] = [some a, some b, some c, some d, some f, none, none] := rfl
theorem len_Kind_init : ∀ ds cs Q, sp_Kind_init K ds cs Q → ds.length = 5 := by rintro ds cs Q ⟨_, _, _, _, _, _, rfl, _⟩; rfl
theorem keep_len {b r m : Int} {s : List Dd} (g : Gk b r s m) : (keep b r s).length = s.length := filter_len (allD_nd g.n.b2 g.n.b12 g.n.r1 g.n.r4) g.nd g.sub
theorem vc_Kind_init : ∀ ds cs Q, Lo ds cs → LoC cs → sp_Kind_init K ds cs Q → t_Kind_init K (Po.fn cs Q) ⟨startD N_Kind_init ds, cs⟩ := by
  rintro ds cs Q hd hc ⟨n, b, r, m, d, s, rfl, hs, hf, hn, g, q⟩
  have g1 := g.n.b2
  have g2 := g.n.b12
  have g3 := g.n.r1
  have g4 := g.n.r4
  have gl := g.l8
  have g0 := g.l1
  have g5 := g.m1
  have g6 := g.m3
  have al := (allD_len g1 g2 g3 g4).2
  have hty := ty_lk hs hf
  rw [st_Kind_init]
  unfold t_Kind_init
  walk_at "w"
  refine ⟨.int b, rfl, ⟨_, rfl⟩, ?_⟩
  walk_at "w"
  refine v_F ?_
  walk_at "w"
  refine v_itd (fun h => ?_) (fun h => absurd g1 h)
  walk_at "w"
  rw [decide_eq_true g2]
  walk_at "w"
  refine ⟨.int r, rfl, ⟨_, rfl⟩, ?_⟩
  walk_at "w"
  refine v_F ?_
  walk_at "w"
  refine v_itd (fun h => ?_) (fun h => absurd g3 h)
  walk_at "w"
  rw [decide_eq_true g4]
  walk_at "w"
  refine ⟨b, r, rfl, g1, g2, g3, g4, ?_⟩
  walk_at "w"
  rw [decide_eq_false (by have := g.n.c; omega)]
  walk_at "w"
  refine v_itK hs fun G hG => ?_
  refine v_lcY s encD (fun _ => .bl true) rfl (by omega) (fun Q' i x hx q' => ⟨_, rfl, ?_⟩) ?_ hG
  · walk_at "w"
    exact ⟨x, b, r, rfl, g.sub x (List.mem_of_getElem? hx), q'⟩
  walk_at "w"
  refine v_allL (bs := s.map fun _ => true) (by rw [List.map_map]; rfl) ?_
  have ea : ((s.map fun _ => true).all fun b => b) = true := by simp
  rw [ea]
  walk_at "w"
  refine ⟨b, r, rfl, g1, g2, g3, g4, ?_⟩
  walk_at "v"
  refine v_lcF (allD b r) encD encD (fun t => isIn t s) rfl (by omega) (fun Q' Q2 i x hx k1 k2 => ⟨_, rfl, ?_⟩) ?_
  · walk_at "w"
    refine v_inE encDE (a := x) (xs := s) rfl (drf_lk hs) ?_
    walk_at "w"
    cases h : isIn x s
    · refine iteF ?_
      exact k1 h
    · refine iteT ?_
      walk_at "w"
      exact k2 h
  have kl := keep_len g
  rw [show (allD b r).filter (fun t => isIn t s) = keep b r s from rfl]
  walk_at "w"
  refine v_lenK rfl ?_
  rw [List.length_map, kl]
  walk_at "w"
  refine v_lenK hs ?_
  rw [List.length_map]
  walk_at "w"
  rw [decide_eq_true rfl]
  walk_at "w"
  refine v_lenK rfl ?_
  rw [List.length_map, kl]
  walk_at "w"
  rw [decide_eq_true (by omega)]
  walk_at "w"
  rw [decide_eq_true (by omega)]
  walk_at "w"
  refine ⟨.int m, rfl, ⟨_, rfl⟩, ?_⟩
  walk_at "w"
  refine v_F ?_
  walk_at "w"
  rw [decide_eq_true g5]
  walk_at "w"
  rw [decide_eq_true g6]
  walk_at "v"
  simp only [List.set_set]
  exact .inl q
theorem len_Kind_most : ∀ ds cs Q, sp_Kind_most K ds cs Q → ds.length = 1 := by rintro ds cs Q ⟨_, _, _, _, rfl, _⟩; rfl
theorem vc_Kind_most : ∀ ds cs Q, Lo ds cs → LoC cs → sp_Kind_most K ds cs Q → t_Kind_most K (Po.fn cs Q) ⟨startD N_Kind_most ds, cs⟩ := by
  rintro ds cs Q hd hc ⟨b, r, m, es, rfl, q⟩
  have hi : insD cs (kiD K b r es m) = some (He.ga K "Kind", kiN, [.int b, .int r, .lst (es.map encD), .int m]) := rfl
  unfold t_Kind_most
  walk_at "v"
  exact .inl q
theorem app_get' {cs : List Cel} {n : Nat} {c : Cel} (h : n = cs.length) : (cs ++ [c])[n]? = some c := by subst h; exact app_get
theorem keep_sub {b r : Int} {s : List Dd} : ∀ t ∈ keep b r s, t ∈ allD b r := fun t h => (List.mem_filter.mp h).1
theorem isIn_iff {α : Type} [DecidableEq α] {x : α} {xs : List α} : isIn x xs = true ↔ x ∈ xs := decide_eq_true_iff
theorem Gk.keep {b r m : Int} {s : List Dd} (g : Gk b r s m) : Gk b r (LW.keep b r s) m := ⟨g.n, keep_sub, (allD_nd g.n.b2 g.n.b12 g.n.r1 g.n.r4).filter _, by rw [keep_len g]; exact g.l1, by rw [keep_len g]; exact g.l8, g.m1, g.m3⟩
theorem los_ki {k : Nat} {b r m : Int} {es : List Dd} : los k [.int b, .int r, .lst (es.map encD), .int m] = true := by
  show (true && (true && (los k (es.map encD) && (true && true)))) = true
  rw [los_D] <;> rfl
theorem st_check {a : D} : startD N_check_lot [a] = [some a, none, none] := rfl
theorem lk_ty {cs : List Cel} {d : D} {xs : List D} (h : lk cs d = some xs) (hf : ∀ ys, d ≠ .fro ys) : tyN cs d = some "list" := ty_lk h hf
theorem cut_to {α : Type} (f : α → D) (xs : List α) (k : Nat) : DL.cutD (xs.map f) none (some (k : Int)) = (xs.take k).map f := by
  unfold DL.cutD
  rw [HT.sIx_none, HT.sIx_nat, List.length_map, List.drop_zero, Nat.sub_zero, ← List.map_take]
  congr 1
  rcases Nat.le_total k xs.length with h | h
  · rw [Nat.min_eq_left h]
  · rw [Nat.min_eq_right h, List.take_of_length_le (Nat.le_refl _), List.take_of_length_le h]
theorem len_check_lot : ∀ ds cs Q, sp_check_lot K ds cs Q → ds.length = 1 := by rintro ds cs Q ⟨_, _, rfl, _⟩; rfl
theorem vc_check_lot : ∀ ds cs Q, Lo ds cs → LoC cs → sp_check_lot K ds cs Q → t_check_lot K (Po.fn cs Q) ⟨startD N_check_lot ds, cs⟩ := by
  rintro ds cs Q hd hc ⟨d, l, rfl, hl, hf, g, q⟩
  have ht := lk_ty hl hf
  have g8 := g.len
  rw [st_check]
  unfold t_check_lot
  walk_at "w"
  refine v_lenK hl ?_
  rw [List.length_map]
  walk_at "w"
  refine ⟨fun i e => ∃ x1 x2, e = ⟨[some d, x1, x2], cs⟩, ⟨_, _, rfl⟩, ?_, ?_⟩
  · rintro i y e2 hi ⟨x1, x2, rfl⟩
    obtain ⟨hi1, rfl⟩ := intsD_get hi
    have hi3 : i < l.length := by omega
    have hm := g.ge _ (List.getElem_mem hi3)
    refine ⟨trivial, _, rfl, ?_⟩
    rw [Int.zero_add]
    walk_at "w"
    refine v_ixK hl (atI_map (List.getElem?_eq_getElem hi3)) ?_
    walk_at "w"
    rw [decide_eq_false (by omega)]
    walk_at "w"
    refine v_slL hl (fun _ z => by subst z; cases hl) (fun _ z => by subst z; cases hl) ?_
    rw [cut_to]
    walk_at "w"
    refine v_inE encI (a := l[i]) (xs := l.take i) rfl rfl ?_
    have hni : isIn l[i] (l.take i) = false := by
      unfold isIn
      refine decide_eq_false fun hmem => ?_
      obtain ⟨j, hj, e⟩ := List.mem_iff_getElem.mp hmem
      rw [List.length_take] at hj
      rw [List.getElem_take] at e
      exact List.pairwise_iff_getElem.mp g.nd j i (by omega) hi3 (by omega) e
    rw [hni]
    walk_at "w"
    exact ⟨_, _, rfl⟩
  · rintro e2 ⟨x1, x2, rfl⟩
    refine ⟨trivial, ?_⟩
    walk_at "w"
    exact .inl q
theorem st_beginning {a b : D} : startD N_beginning [a, b] = [some a, some b, none] := rfl
theorem len_beginning : ∀ ds cs Q, sp_beginning K ds cs Q → ds.length = 2 := by rintro ds cs Q ⟨_, _, _, _, _, _, rfl, _⟩; rfl
theorem vc_beginning : ∀ ds cs Q, Lo ds cs → LoC cs → sp_beginning K ds cs Q → t_beginning K (Po.fn cs Q) ⟨startD N_beginning ds, cs⟩ := by
  rintro ds cs Q hd hc ⟨b, r, m, es, d, l, rfl, hl, hf, g, q⟩
  have hi : insD cs (kiD K b r es m) = some (He.ga K "Kind", kiN, [.int b, .int r, .lst (es.map encD), .int m]) := rfl
  have g8 := g.len
  rw [st_beginning]
  unfold t_beginning
  walk_at "w"
  refine ⟨d, l, rfl, hl, hf, g, ?_⟩
  walk_at "w"
  refine ⟨b, r, m, es, rfl, ?_⟩
  walk_at "w"
  refine v_itK hl fun G hG => ?_
  refine v_lcY (e1 := ⟨_, _⟩) l D.int (fun _ => .tup [.int 0, .int 1, .int 1]) rfl (by omega) ?_ ?_ hG
  · intro Q' i x hx q'
    refine ⟨_, rfl, ?_⟩
    walk_at "w"
    exact q'
  walk_at "w"
  refine v_tupK rfl ?_
  walk_at "w"
  refine .inl ?_
  unfold encSt st0 at q
  rw [List.map_map] at q
  exact q
theorem st_is_column {a b c : D} : startD N_is_column [a, b, c] = [some a, some b, some c, none] := rfl
theorem okC_of {b r : Int} {c : List Int} (hl : (c.length : Int) = r) (h : ∀ y ∈ c, 0 ≤ y ∧ y < b) : okC b r c = true := by
  unfold okC
  simp only [Bool.and_eq_true, decide_eq_true_eq, List.all_eq_true]
  exact ⟨hl, h⟩
theorem len_is_column : ∀ ds cs Q, sp_is_column K ds cs Q → ds.length = 3 := by rintro ds cs Q ⟨_, _, _, rfl, _⟩; rfl
theorem vc_is_column : ∀ ds cs Q, Lo ds cs → LoC cs → sp_is_column K ds cs Q → t_is_column K (Po.fn cs Q) ⟨startD N_is_column ds, cs⟩ := by
  rintro ds cs Q hd hc ⟨c, b, r, rfl, hz, q⟩
  rw [st_is_column]
  unfold t_is_column
  walk_at "v"
  refine v_lenL (xs := c.map .int) rfl (fun _ z => nomatch z) ?_
  walk_at "v"
  rw [List.length_map]
  refine v_itdn (fun h => ?_) (fun h => ?_)
  · walk_at "v"
    have e : okC b r c = false := by unfold okC; rw [decide_eq_false h, Bool.false_and]
    rw [e] at q
    exact .inl q
  · walk_at "v"
    refine v_lcY c D.int (fun n => .bl (decide (0 ≤ n) && decide (n < b))) rfl (by omega) (fun Q' i x hx q' => ⟨_, rfl, ?_⟩) ?_
    · walk_at "v"
      refine ⟨.int x, rfl, ⟨_, rfl⟩, ?_⟩
      refine ⟨true, rfl, ?_⟩
      walk_at "v"
      refine v_itd (fun h => ?_) (fun h => ?_)
      · walk_at "v"
        rw [decide_eq_true h, Bool.true_and] at q'
        exact q'
      · rw [decide_eq_false h, Bool.false_and] at q'
        exact q'
    · walk_at "v"
      refine v_allL (bs := c.map fun n => decide (0 ≤ n) && decide (n < b)) (by rw [List.map_map]; rfl) ?_
      walk_at "v"
      have e : ((c.map fun n => decide (0 ≤ n) && decide (n < b)).all fun b => b) = okC b r c := by
        unfold okC
        rw [decide_eq_true h, Bool.true_and, List.all_map]
        rfl
      rw [e]
      exact .inl q
theorem st_Sheet_init {a b c d : D} : startD N_Sheet_init [a, b, c, d] = [some a, some b, some c, some d, none] := rfl
theorem Gd.len {b r : Int} {cols : List (List Int)} (g : Gd b r cols) {c : List Int} (h : c ∈ cols) : c.length ≤ 4 := by
  have h1 := g.c c h
  have h2 := g.r4
  unfold okC at h1
  simp only [Bool.and_eq_true, decide_eq_true_eq] at h1
  omega
theorem all_true {α : Type} (f : α → Bool) : ∀ xs : List α, (∀ x ∈ xs, f x = true) → ((xs.map f).all fun b => b) = true
  | [], _ => rfl
  | x :: xs, h => by
    rw [List.map_cons, List.all_cons, h x (List.mem_cons_self ..), Bool.true_and]
    exact all_true f xs fun y hy => h y (List.mem_cons_of_mem _ hy)
theorem len_Sheet_init : ∀ ds cs Q, sp_Sheet_init K ds cs Q → ds.length = 4 := by rintro ds cs Q ⟨_, _, _, _, _, rfl, _⟩; rfl
theorem vc_Sheet_init : ∀ ds cs Q, Lo ds cs → LoC cs → sp_Sheet_init K ds cs Q → t_Sheet_init K (Po.fn cs Q) ⟨startD N_Sheet_init ds, cs⟩ := by
  rintro ds cs Q hd hc ⟨n, d, cols, b, r, rfl, hn, hs, hf, g, q⟩
  have hz := g.n
  have g1 := g.b2
  have g2 := g.b12
  have g3 := g.r1
  have g4 := g.r4
  have hty := ty_lk hs hf
  rw [st_Sheet_init]
  unfold t_Sheet_init
  walk_at "v"
  refine ⟨.int b, rfl, ⟨_, rfl⟩, ?_⟩
  walk_at "v"
  refine v_F ?_
  walk_at "v"
  refine v_itd (fun h => ?_) (fun h => absurd g1 h)
  walk_at "v"
  rw [decide_eq_true g2]
  walk_at "v"
  refine ⟨.int r, rfl, ⟨_, rfl⟩, ?_⟩
  walk_at "v"
  refine v_F ?_
  walk_at "v"
  refine v_itd (fun h => ?_) (fun h => absurd g3 h)
  walk_at "v"
  rw [decide_eq_true g4]
  walk_at "v"
  refine v_itK hs fun G hG => ?_
  refine v_lcY cols encC (fun c => .bl (okC b r c)) rfl (by omega) (fun Q' i x hx q' => ⟨_, rfl, ?_⟩) ?_ hG
  · walk_at "v"
    have := g.len (List.mem_of_getElem? hx)
    exact ⟨x, b, r, rfl, by omega, q'⟩
  walk_at "v"
  refine v_allL (bs := cols.map (okC b r)) (by rw [List.map_map]; rfl) ?_
  rw [all_true _ _ g.c]
  walk_at "v"
  rcases q with q | q
  · refine .inl ⟨_, seq_lk (lk_set (lk_set hs hn fun _ z => nomatch z) (set_get hn) fun _ z => nomatch z), ?_⟩
    walk_at "v"
    refine v_lenK (lk_set (lk_set (lk_set hs hn fun _ z => nomatch z) (set_get hn) fun _ z => nomatch z) (set_get (set_get hn)) fun _ z => nomatch z) ?_
    walk_at "v"
    simp only [List.set_set, List.length_map]
    exact .inl q
  · refine .inr ⟨_, seq_lk (lk_set (lk_set hs hn fun _ z => nomatch z) (set_get hn) fun _ z => nomatch z), ?_⟩
    have hnl := (List.getElem?_eq_some_iff.mp hn).1
    have hg2 : ((cs.set n (.ins (He.ga K "Sheet") ["held_base"] [.int b])).set n (.ins (He.ga K "Sheet") ["held_base", "held_rows"] [.int b, .int r]) ++ [Cel.lst (cols.map encC)])[n]? = some (.ins (He.ga K "Sheet") ["held_base", "held_rows"] [.int b, .int r]) := app_get_lt (set_get (set_get hn))
    walk_at "v"
    refine v_lenK (lk_set (lk_app (lk_set (lk_set hs hn fun _ z => nomatch z) (set_get hn) fun _ z => nomatch z)) hg2 fun _ z => nomatch z) ?_
    walk_at "v"
    simp only [List.set_append, List.length_set, hnl, if_true, List.set_set, List.length_map]
    exact .inl q
theorem len_Sheet_base : ∀ ds cs Q, sp_Sheet_base K ds cs Q → ds.length = 1 := by rintro ds cs Q ⟨_, _, _, _, rfl, _⟩; rfl
theorem vc_Sheet_base : ∀ ds cs Q, Lo ds cs → LoC cs → sp_Sheet_base K ds cs Q → t_Sheet_base K (Po.fn cs Q) ⟨startD N_Sheet_base ds, cs⟩ := by
  rintro ds cs Q hd hc ⟨d, b, r, cols, rfl, ⟨hc1, hi, hl, hf0⟩, q⟩
  unfold t_Sheet_base
  walk_at "v"
  exact .inl q
theorem len_Sheet_rows : ∀ ds cs Q, sp_Sheet_rows K ds cs Q → ds.length = 1 := by rintro ds cs Q ⟨_, _, _, _, rfl, _⟩; rfl
theorem vc_Sheet_rows : ∀ ds cs Q, Lo ds cs → LoC cs → sp_Sheet_rows K ds cs Q → t_Sheet_rows K (Po.fn cs Q) ⟨startD N_Sheet_rows ds, cs⟩ := by
  rintro ds cs Q hd hc ⟨d, b, r, cols, rfl, ⟨hc1, hi, hl, hf0⟩, q⟩
  unfold t_Sheet_rows
  walk_at "v"
  exact .inl q
theorem len_Sheet_columns : ∀ ds cs Q, sp_Sheet_columns K ds cs Q → ds.length = 1 := by rintro ds cs Q ⟨_, _, _, _, rfl, _⟩; rfl
theorem vc_Sheet_columns : ∀ ds cs Q, Lo ds cs → LoC cs → sp_Sheet_columns K ds cs Q → t_Sheet_columns K (Po.fn cs Q) ⟨startD N_Sheet_columns ds, cs⟩ := by
  rintro ds cs Q hd hc ⟨d, b, r, cols, rfl, ⟨hc1, hi, hl, hf0⟩, q⟩
  unfold t_Sheet_columns
  walk_at "v"
  refine v_listL (seq_lk hl) ?_
  walk_at "v"
  exact own_back (los_encC _) q
theorem len_Kind_base : ∀ ds cs Q, sp_Kind_base K ds cs Q → ds.length = 1 := by rintro ds cs Q ⟨_, _, _, _, rfl, _⟩; rfl
theorem vc_Kind_base : ∀ ds cs Q, Lo ds cs → LoC cs → sp_Kind_base K ds cs Q → t_Kind_base K (Po.fn cs Q) ⟨startD N_Kind_base ds, cs⟩ := by
  rintro ds cs Q hd hc ⟨b, r, m, es, rfl, q⟩
  have hi : insD cs (kiD K b r es m) = some (He.ga K "Kind", kiN, [.int b, .int r, .lst (es.map encD), .int m]) := rfl
  unfold t_Kind_base
  walk_at "v"
  exact .inl q
theorem len_Kind_rows : ∀ ds cs Q, sp_Kind_rows K ds cs Q → ds.length = 1 := by rintro ds cs Q ⟨_, _, _, _, rfl, _⟩; rfl
theorem vc_Kind_rows : ∀ ds cs Q, Lo ds cs → LoC cs → sp_Kind_rows K ds cs Q → t_Kind_rows K (Po.fn cs Q) ⟨startD N_Kind_rows ds, cs⟩ := by
  rintro ds cs Q hd hc ⟨b, r, m, es, rfl, q⟩
  have hi : insD cs (kiD K b r es m) = some (He.ga K "Kind", kiN, [.int b, .int r, .lst (es.map encD), .int m]) := rfl
  unfold t_Kind_rows
  walk_at "v"
  exact .inl q
theorem len_Kind_deeds : ∀ ds cs Q, sp_Kind_deeds K ds cs Q → ds.length = 1 := by rintro ds cs Q ⟨_, _, _, _, rfl, _⟩; rfl
theorem vc_Kind_deeds : ∀ ds cs Q, Lo ds cs → LoC cs → sp_Kind_deeds K ds cs Q → t_Kind_deeds K (Po.fn cs Q) ⟨startD N_Kind_deeds ds, cs⟩ := by
  rintro ds cs Q hd hc ⟨b, r, m, es, rfl, hl, q⟩
  have hi : insD cs (kiD K b r es m) = some (He.ga K "Kind", kiN, [.int b, .int r, .lst (es.map encD), .int m]) := rfl
  unfold t_Kind_deeds
  walk_at "v"
  refine v_listL (xs := es.map encD) rfl ?_
  walk_at "v"
  exact own_back (los_D _) q
theorem st_lpower {a b : D} : startD N_power [a, b] = [some a, some b, none, none] := rfl
theorem len_power : ∀ ds cs Q, sp_power K ds cs Q → ds.length = 2 := by rintro ds cs Q ⟨_, _, rfl, _⟩; rfl
theorem vc_power : ∀ ds cs Q, Lo ds cs → LoC cs → sp_power K ds cs Q → t_power K (Po.fn cs Q) ⟨startD N_power ds, cs⟩ := by
  rintro ds cs Q hd hc ⟨b, r, rfl, b2, b12, r4, q⟩
  rw [st_lpower]
  unfold t_power
  walk_at "v"
  rw [Int.toNat_natCast]
  refine ⟨fun i e => ∃ x, e = ⟨[some (.int b), some (.int (r : Nat)), some (.int (b ^ i)), x], cs⟩, ⟨none, by simp⟩, ?_, ?_⟩
  · rintro i d e2 hi ⟨x, rfl⟩
    refine ⟨trivial, _, rfl, ?_⟩
    walk_at "v"
    exact ⟨_, by rw [← Int.pow_succ]; rfl⟩
  · rintro e2 ⟨x, rfl⟩
    refine ⟨trivial, ?_⟩
    rw [intsD_len]
    walk_at "v"
    exact .inl q
theorem okC_bd {b r : Int} {c : List Int} (h : okC b r c = true) (b12 : b ≤ 12) (r4 : r ≤ 4) : 0 ≤ c.sum ∧ c.sum ≤ 44 ∧ (c.length : Int) = r := by
  unfold okC at h
  simp only [Bool.and_eq_true, decide_eq_true_eq, List.all_eq_true] at h
  obtain ⟨hl, h⟩ := h
  have key : ∀ c : List Int, (∀ n ∈ c, 0 ≤ n ∧ n < b) → 0 ≤ c.sum ∧ c.sum ≤ 11 * c.length := by
    intro c
    induction c with
    | nil => intro _; simp
    | cons x xs ih =>
      intro h
      have h1 := h x List.mem_cons_self
      have h2 := ih fun n hn => h n (List.mem_cons_of_mem _ hn)
      rw [List.sum_cons, List.length_cons]
      omega
  have := key c h
  exact ⟨this.1, by omega, hl⟩
theorem getD_get {xs : List Int} {j : Nat} (h : j < xs.length) : xs[j]? = some (xs.getD j 0) := by
  rw [List.getD_eq_getElem?_getD, List.getElem?_eq_getElem h]
  rfl
theorem take_snoc {α : Type} {xs : List α} {i : Nat} {x : α} (h : xs[i]? = some x) : xs.take (i + 1) = xs.take i ++ [x] := by
  rw [List.take_succ, h]
  rfl
theorem cp_bd {r : Int} {s : List Dd} : ∀ j ∈ cpF r s, (j : Int) < r := fun j hj => by
  have := List.mem_range.mp (List.mem_filter.mp hj).1
  omega
theorem cp_len (r : Int) (s : List Dd) (h : r ≤ 4) : (cpF r s).length ≤ 1000 := by
  have := List.length_filter_le (fun (j : Nat) => isIn ((.copy, [0 + (j : Int)]) : Dd) s) (List.range r.toNat)
  unfold cpF
  rw [List.length_range] at this
  omega
theorem cp_keep (b r : Int) (s : List Dd) : (keep b r s).filter (fun t => decide (t.1 = .copy)) = (cpF r s).map fun (j : Nat) => ((.copy, [0 + (j : Int)]) : Dd) := by
  have z1 : ∀ xs : List Dd, (∀ t ∈ xs, t.1 ≠ .copy) → (xs.filter fun t => isIn t s).filter (fun t => decide (t.1 = .copy)) = [] := fun xs h => by
    apply List.filter_eq_nil_iff.mpr
    intro t ht
    rw [decide_eq_true_eq]
    exact h t (List.mem_filter.mp ht).1
  unfold keep allD
  rw [List.filter_append, List.filter_append, List.filter_append, List.filter_append, List.filter_append, List.filter_append, List.filter_append, List.filter_append]
  rw [z1 [(.forget, []), (.again, [])] (by decide), z1 (offs b) (fun t ht => by obtain ⟨_, _, rfl⟩ := List.mem_map.mp ht; exact fun z => nomatch z), z1 [(.swap, []), (.out, []), (.twice, [])] (by decide)]
  rw [z1 (readsA b r.toNat) (fun t ht => by
    obtain ⟨_, _, ht⟩ := List.mem_flatMap.mp ht
    obtain ⟨_, _, rfl⟩ := List.mem_map.mp ht
    exact fun z => nomatch z)]
  rw [List.nil_append, List.nil_append, List.nil_append, List.append_nil]
  unfold copies cpF
  rw [List.filter_map, List.filter_map, List.filter_filter]
  congr 1
theorem len_copy_rows : ∀ ds cs Q, sp_copy_rows K ds cs Q → ds.length = 1 := by rintro ds cs Q ⟨_, _, _, _, rfl, _⟩; rfl
theorem st_copy {a : D} : startD N_copy_rows [a] = [some a, none] := rfl
theorem vc_copy_rows : ∀ ds cs Q, Lo ds cs → LoC cs → sp_copy_rows K ds cs Q → t_copy_rows K (Po.fn cs Q) ⟨startD N_copy_rows ds, cs⟩ := by
  rintro ds cs Q hd hc ⟨b, r, m, s, rfl, g, q⟩
  have hi : insD cs (kiD K b r (keep b r s) m) = some (He.ga K "Kind", kiN, [.int b, .int r, .lst ((keep b r s).map encD), .int m]) := rfl
  have kl := keep_len g
  have g8 := g.l8
  rw [st_copy]
  unfold t_copy_rows
  walk_at "w"
  refine ⟨b, r, m, keep b r s, rfl, by omega, .inl ?_⟩
  walk_at "w"
  refine v_lcF (e1 := ⟨_, _⟩) (keep b r s) encD (fun t => .int (t.2.getD 0 0)) (fun t => decide (t.1 = .copy)) rfl (by omega) (fun Q' Q2 i x hx k1 k2 => ⟨_, rfl, ?_⟩) ?_
  · have hD := isD_of (keep_sub x (List.mem_of_getElem? hx))
    walk_at "w"
    refine v_ixTX ⟨_, atI_nat (j := 0) rfl, ?_⟩
    walk_at "w"
    refine v_eqP (k := decide (x.1 = .copy)) ⟨rfl, (Sh.str (Wo.lay _)).shp, (Sh.str (Wo.lay .copy)).shp, Wo.s_inj _ .copy, ?_⟩
    walk_at "w"
    refine v_itd (fun h => ?_) (fun h => ?_)
    · obtain ⟨w, l⟩ := x
      dsimp only at h
      subst h
      obtain ⟨j, hl, _⟩ : ∃ j, l = [j] ∧ _ := hD
      subst hl
      walk_at "w"
      refine v_ixTX ⟨_, atI_nat (j := 1) rfl, ?_⟩
      exact k2 (decide_eq_true rfl)
    · exact k1 (decide_eq_false h)
  rw [cp_keep, List.map_map]
  walk_at "w"
  exact .inl q
end
section
variable {K : PySem.W.Frag}
theorem snoc_ind {α : Type} {P : List α → Prop} (h0 : P []) (h1 : ∀ p x, P p → P (p ++ [x])) : ∀ p, P p := by
  have key : ∀ n, ∀ p : List α, p.length = n → P p := by
    intro n
    induction n with
    | zero => intro p h; cases List.length_eq_zero_iff.mp h; exact h0
    | succ n ih =>
      intro p h
      rcases List.eq_nil_or_concat p with rfl | ⟨q, y, rfl⟩
      · cases h
      · rw [List.concat_eq_append] at h ⊢
        exact h1 q y (ih q (by rw [List.length_append] at h; exact Nat.succ.inj h))
  exact fun p => key _ p rfl
theorem slF_app : ∀ (p q : List Pl) (n : Nat), slF n (p ++ q) = slF n p ++ slF (n + p.length) q
  | [], q, n => rfl
  | (c, none) :: p, q, n => by
    show slF (n + 1) (p ++ q) = slF (n + 1) p ++ _
    rw [slF_app p q (n + 1), List.length_cons, Nat.add_assoc, Nat.add_comm 1]
  | (c, some t) :: p, q, n => by
    show (n, t) :: slF (n + 1) (p ++ q) = (n, t) :: slF (n + 1) p ++ _
    rw [slF_app p q (n + 1), List.length_cons, Nat.add_assoc, Nat.add_comm 1]
    rfl
theorem goes_app {b : Int} {cp : List Nat} {l : List Int} : ∀ (p q : List Pl) (s : Std), goes b cp l s (p ++ q) = (goes b cp l s p).bind fun s' => goes b cp l s' q
  | [], q, s => rfl
  | x :: p, q, s => by
    show (nsF b cp l s x.1 x.2).bind (fun s' => goes b cp l s' (p ++ q)) = ((nsF b cp l s x.1 x.2).bind fun s' => goes b cp l s' p).bind _
    cases nsF b cp l s x.1 x.2 with
    | none => rfl
    | some s' => exact goes_app p q s'
def lcF (b : Int) (pl : List Pl) : List Int := (pl.foldl (wrS b) (⟨[], none, 0⟩, [])).2
theorem lcF_snoc {b : Int} (p : List Pl) (x : Pl) : lcF b (p ++ [x]) = x.1 := by
  unfold lcF
  rw [List.foldl_append]
  rfl
theorem wrF_snoc {b : Int} (p : List Pl) (x : Pl) : wrF b (p ++ [x]) = w2F b (w1F b (wrF b p) (adF b (lcF b p) x.1 x.2).sum x.2) (adF b (lcF b p) x.1 x.2).sum x.2 := by
  unfold wrF lcF
  rw [List.foldl_append]
  rfl
theorem vlF_app (b last : Int) : ∀ xs ys : List Int, vlF b last (xs ++ ys) = vlF b 0 xs + b ^ xs.length * vlF b last ys
  | [], ys => by
    show vlF b last ys = 0 + b ^ 0 * vlF b last ys
    rw [Int.pow_zero]
    omega
  | x :: xs, ys => by
    show vlF b last (xs ++ ys) * b + x = vlF b 0 xs * b + x + b ^ (xs.length + 1) * vlF b last ys
    rw [vlF_app b last xs ys, Int.pow_succ]
    grind
theorem set_sum : ∀ (c : List Int) (j : Nat) (v : Int), j < c.length → (c.set j v).sum = c.sum - c.getD j 0 + v
  | [], j, v, h => absurd h (Nat.not_lt_zero _)
  | x :: xs, 0, v, _ => by
    show v + xs.sum = x + xs.sum - x + v
    omega
  | x :: xs, j + 1, v, h => by
    have := set_sum xs j v (Nat.lt_of_succ_lt_succ h)
    show x + (xs.set j v).sum = x + xs.sum - xs.getD j 0 + v
    omega
def owF (b : Int) (w : Wr) (S : Int) : Option Dd → Out
  | none => match w.wt with
    | none => (S, 1, (S + w.k) / b, none)
    | some x => (((S + w.k) % b - x) * (1 - b) + S * b, 2, (S + w.k) / b, none)
  | some t => dwO b w.k S t
theorem stepW (b : Int) (w : Wr) (S : Int) (od : Option Dd) (h : od ≠ none → w.wt = none) : ∃ add, (w2F b (w1F b w S od) S od).figs = w.figs ++ add ∧ (w2F b (w1F b w S od) S od).wt = (owF b w S od).2.2.2 ∧ (w2F b (w1F b w S od) S od).k = (owF b w S od).2.2.1 ∧
    (owF b w S od).2.1 = (add.length : Int) ∧ add.length ≤ 2 ∧ vlF b (w2F b (w1F b w S od) S od).k (add ++ oL (w2F b (w1F b w S od) S od).wt) = vlF b w.k (oL w.wt) + (owF b w S od).1 := by
  have e1 := Int.emod_add_mul_ediv (S + w.k) b
  have e2 := Int.emod_add_mul_ediv (S + (S + w.k) / b) b
  obtain ⟨fs, wt, k⟩ := w
  dsimp only at h e1 e2
  generalize hf : (S + k) % b = f at e1
  generalize hq : (S + k) / b = q at e1 e2
  generalize hf2 : (S + q) % b = f2 at e2
  generalize hq2 : (S + q) / b = q2 at e2
  cases od with
  | none =>
    cases wt with
    | none =>
      refine ⟨[f], ?_, rfl, rfl, rfl, by simp, ?_⟩
      · show fs ++ [(S + k) % b] = _; rw [hf]
      · show (S + k) / b * b + (f) = k + S
        rw [hq]; grind
    | some x =>
      refine ⟨[f, x], ?_, rfl, rfl, rfl, by simp, ?_⟩
      · show fs ++ [(S + k) % b, x] = _; rw [hf]
      · show ((S + k) / b * b + x) * b + f = k * b + x + (((S + k) % b - x) * (1 - b) + S * b)
        rw [hq, hf]; grind
  | some t =>
    cases h (fun z => nomatch z)
    obtain ⟨wd, ns⟩ := t
    cases wd with
    | forget =>
      refine ⟨[f], ?_, rfl, rfl, rfl, by simp, ?_⟩
      · show fs ++ [(S + k) % b] = _; rw [hf]
      · show 0 * b + f = k + (S - (S + k) / b * b)
        rw [hq]; grind
    | again =>
      refine ⟨[f], ?_, rfl, rfl, rfl, by simp, ?_⟩
      · show fs ++ [(S + k) % b] = _; rw [hf]
      · show ((S + k) / b + 1) * b + f = k + (S + b)
        rw [hq]; grind
    | off =>
      refine ⟨[(f + ax (.off, ns)) % b], ?_, rfl, rfl, rfl, by simp, ?_⟩
      · show fs ++ [((S + k) % b + ax (.off, ns)) % b] = _; rw [hf]
      · show (S + k) / b * b + (f + ax (.off, ns)) % b = k + (S + ((S + k) % b + ax (.off, ns)) % b - (S + k) % b)
        rw [hq, hf]; grind
    | read =>
      refine ⟨[f], ?_, rfl, rfl, rfl, by simp, ?_⟩
      · show fs ++ [(S + k) % b] = _; rw [hf]
      · show (S + k) / b * b + f = k + S
        rw [hq]; grind
    | copy =>
      refine ⟨[f], ?_, rfl, rfl, rfl, by simp, ?_⟩
      · show fs ++ [(S + k) % b] = _; rw [hf]
      · show (S + k) / b * b + f = k + S
        rw [hq]; grind
    | swap =>
      refine ⟨[], ?_, rfl, rfl, rfl, by simp, ?_⟩
      · show fs = _; rw [List.append_nil]
      · show (S + k) / b * b + (S + k) % b = k + S
        rw [hq, hf]; grind
    | out =>
      refine ⟨[], ?_, rfl, rfl, rfl, by simp, ?_⟩
      · show fs = _; rw [List.append_nil]
      · show k = k + 0
        omega
    | twice =>
      refine ⟨[f, f2], ?_, rfl, rfl, rfl, by simp, ?_⟩
      · show fs ++ [(S + k) % b] ++ [(S + (S + k) / b) % b] = _; rw [hf, hq, hf2, List.append_assoc]; rfl
      · show ((S + (S + k) / b) / b * b + f2) * b + f = k + (S + S * b)
        rw [hq, hq2]; grind
theorem erF_snoc {b : Int} (p : List Pl) (x : Pl) (h : x.2 ≠ none → (wrF b p).wt = none) : erF b (p ++ [x]) = erF b p + (owF b (wrF b p) (adF b (lcF b p) x.1 x.2).sum x.2).1 * b ^ (wrF b p).figs.length - x.1.sum * b ^ p.length := by
  obtain ⟨add, h1, h2, h3, h4, h5, h6⟩ := stepW b (wrF b p) (adF b (lcF b p) x.1 x.2).sum x.2 h
  unfold erF
  rw [wrF_snoc, h1, List.append_assoc, vlF_app, h6, vlF_app b (wrF b p).k (wrF b p).figs, List.map_append, vlF_app b 0 (p.map _), List.length_map]
  show _ - (_ + b ^ p.length * (0 * b + x.1.sum)) = _
  generalize (owF b (wrF b p) (adF b (lcF b p) x.1 x.2).sum x.2).1 = f
  grind
theorem pow_min {b : Int} (n u : Nat) : b ^ n = b ^ min n u * b ^ (n - min n u) := by
  rw [← Int.pow_add]
  congr 1
  omega
theorem near_step {b : Int} (hb : 2 ≤ b) (E f t : Int) (n u c : Nat) (E' : Int) (hE : E' = E + f * b ^ n - t * b ^ u) :
    nbF b ((n : Int) - u) (if E % b ^ min u n = 0 then some (E / b ^ min u n) else none) f t c = if E' % b ^ min (u + 1) (n + c) = 0 then some (E' / b ^ min (u + 1) (n + c)) else none := by
  have hpos : ∀ k : Nat, 0 < b ^ k := fun k => Int.pow_pos (by omega)
  have ha : abv ((n : Int) - u) = n - min u n := by unfold abv; split <;> omega
  have hw : blw ((n : Int) - u) = u - min u n := by unfold blw; split <;> omega
  have hs : stF ((n : Int) - u) c = min (u + 1) (n + c) - min u n := by
    unfold stF
    rw [ha, hw]
    split <;> omega
  have e1 : b ^ n = b ^ min u n * b ^ (n - min u n) := by rw [← Int.pow_add]; congr 1; omega
  have e2 : b ^ u = b ^ min u n * b ^ (u - min u n) := by rw [← Int.pow_add]; congr 1; omega
  have e3 : b ^ min (u + 1) (n + c) = b ^ min u n * b ^ (min (u + 1) (n + c) - min u n) := by rw [← Int.pow_add]; congr 1; omega
  have hB := hpos (min u n)
  unfold nbF
  rw [ha, hw, hs, e3]
  generalize b ^ (n - min u n) = pa at e1 ⊢
  generalize b ^ (u - min u n) = pb at e2 ⊢
  generalize hS : b ^ (min (u + 1) (n + c) - min u n) = ps at e3 ⊢
  have hps : 0 < ps := by rw [← hS]; exact hpos _
  generalize b ^ min u n = B at hB e1 e2 ⊢
  by_cases h : E % B = 0
  · rw [if_pos h]
    have hd : E = B * (E / B) := by have := Int.emod_add_mul_ediv E B; omega
    generalize E / B = e0 at hd
    have hE2 : E' = B * (e0 + f * pa - t * pb) := by rw [hE, hd, e1, e2]; grind
    dsimp only
    generalize e0 + f * pa - t * pb = z at hE2
    rw [hE2, Int.mul_emod_mul_of_pos _ _ hB, Int.mul_ediv_mul_of_pos _ _ hB]
    have hz : (B * (z % ps) = 0) ↔ z % ps = 0 := ⟨fun q => by rcases Int.mul_eq_zero.mp q with y | y <;> omega, fun q => by rw [q, Int.mul_zero]⟩
    by_cases h2 : z % ps = 0
    · rw [if_pos h2, if_pos (hz.mpr h2)]
    · rw [if_neg h2, if_neg fun q => h2 (hz.mp q)]
  · rw [if_neg h]
    dsimp only
    rw [if_neg]
    intro q
    apply h
    have d1 : B * ps ∣ E' := Int.dvd_of_emod_eq_zero q
    have d2 : B ∣ E' := Int.dvd_trans (Int.dvd_mul_right B ps) d1
    have d3 : B ∣ E := by
      have : E = E' - B * (f * pa - t * pb) := by rw [hE, e1, e2]; grind
      rw [this]
      exact Int.dvd_sub d2 (Int.dvd_mul_right _ _)
    exact Int.emod_eq_zero_of_dvd d3
theorem rest_step (E f t pu pn d : Int) : (E % d + f * (pn % d) - t * (pu % d)) % d = (E + f * pn - t * pu) % d := by
  simp [Int.sub_emod, Int.add_emod, Int.mul_emod]
theorem rs_step {b : Int} (E f t : Int) (n u c : Nat) : ∀ l : List Int, rsF b l (l.map fun d => (E % d, b ^ u % d, b ^ n % d)) f t c = l.map fun d => ((E + f * b ^ n - t * b ^ u) % d, b ^ (u + 1) % d, b ^ (n + c) % d)
  | [] => rfl
  | d :: l => by
    have ih := rs_step (b := b) E f t n u c l
    unfold rsF at ih ⊢
    rw [List.map_cons, List.map_cons, List.zipWith_cons_cons, ih]
    congr 1
    dsimp only
    rw [rest_step, Int.pow_succ, Int.pow_add, Int.mul_emod (b ^ u) b d, Int.mul_emod (b ^ u % d) b d, Int.emod_emod, Int.mul_emod (b ^ n) _ d, Int.mul_emod (b ^ n % d) _ d, Int.emod_emod]
theorem slF_snoc (p : List Pl) (x : Pl) : ((slF 0 (p ++ [x])).length : Int) = (slF 0 p).length + dn x.2 := by
  rw [slF_app, List.length_append]
  obtain ⟨c, _ | t⟩ := x
  · rfl
  · rfl
theorem sum_step {b r : Int} {cp : List Nat} {pv col : List Int} {od : Option Dd} (g : Gc b r cp col od) : (adF b pv col od).sum = match od with
    | none => col.sum
    | some t => tkF b cp (cp.map fun j => pv.getD j 0) col t := by
  have hl := (okC_bd g.c g.b12 g.r4).2.2
  cases od with
  | none => rfl
  | some t =>
    obtain ⟨ht, hcp⟩ := g.d t rfl
    have hD := isD_of ht
    obtain ⟨wd, ns⟩ := t
    cases wd with
    | read =>
      obtain ⟨j, d, rfl, h0, h1, _, _⟩ := hD
      show (col.set (jx (.read, [j, d])) ((col.getD (jx (.read, [j, d])) 0 + dx (.read, [j, d])) % b)).sum = _
      rw [set_sum _ _ _ (by show j.toNat < _; omega)]
      rfl
    | copy =>
      obtain ⟨j, rfl, h0, h1⟩ := hD
      have hj := hcp rfl
      show (col.set (jx (.copy, [j])) (pv.getD (jx (.copy, [j])) 0)).sum = col.sum - col.getD (jx (.copy, [j])) 0 + (cp.map fun j => pv.getD j 0).getD (cp.idxOf (jx (.copy, [j]))) 0
      rw [set_sum _ _ _ (by show j.toNat < _; omega)]
      generalize jx (.copy, [j]) = k at hj
      congr 1
      have hk := List.idxOf_lt_length_of_mem hj
      rw [List.getD_eq_getElem?_getD (l := cp.map _), List.getElem?_map, List.getElem?_eq_getElem hk, List.getElem_idxOf hk]
      rfl
    | _ => rfl
theorem ad_ok {b r : Int} {cp : List Nat} {pv col : List Int} {od : Option Dd} (g : Gc b r cp col od) (hp : ∀ t, od = some t → t.1 = .copy → okC b r pv = true) : okC b r (adF b pv col od) = true := by
  have hc := g.c
  have hl := (okC_bd g.c g.b12 g.r4).2.2
  have b2 := g.b2
  have key : ∀ (j : Nat) (v : Int), 0 ≤ v → v < b → okC b r (col.set j v) = true := fun j v h0 h1 => by
    refine okC_of (by rw [List.length_set]; exact hl) fun y hy => ?_
    unfold okC at hc
    simp only [Bool.and_eq_true, decide_eq_true_eq, List.all_eq_true] at hc
    rcases List.mem_or_eq_of_mem_set hy with h | rfl
    · exact hc.2 y h
    · exact ⟨h0, h1⟩
  cases od with
  | none => exact hc
  | some t =>
    obtain ⟨ht, hcp⟩ := g.d t rfl
    have hD := isD_of ht
    have hpv := hp t rfl
    obtain ⟨wd, ns⟩ := t
    cases wd with
    | read => exact key _ _ (Int.emod_nonneg _ (by omega)) (Int.emod_lt_of_pos _ (by omega))
    | copy =>
      obtain ⟨j, rfl, h0, h1⟩ := hD
      have hpv := hpv rfl
      unfold okC at hpv
      simp only [Bool.and_eq_true, decide_eq_true_eq, List.all_eq_true] at hpv
      have hm : pv.getD j.toNat 0 ∈ pv := List.mem_of_getElem? (getD_get (by omega))
      exact key _ _ (hpv.2 _ hm).1 (hpv.2 _ hm).2
    | _ => exact hc
structure Wb (b : Int) (pl : List Pl) (w : Wr) : Prop where
  k0 : 0 ≤ w.k
  k1 : w.k ≤ 100
  v : ∀ x, w.wt = some x → 0 ≤ x ∧ x ≤ 11
  n : w.figs.length ≤ 2 * pl.length
theorem div_bd {b x : Int} (hb : 2 ≤ b) (h0 : 0 ≤ x) (h1 : x ≤ 144) : 0 ≤ x / b ∧ x / b ≤ 72 := by
  have := Int.ediv_nonneg h0 (by omega : (0 : Int) ≤ b)
  have h2 : x / b ≤ x / 2 := by
    have e1 := Int.mul_ediv_self_le (x := x) (k := b) (by omega)
    have h3 : 2 * (x / b) ≤ b * (x / b) := Int.mul_le_mul_of_nonneg_right hb this
    omega
  omega
theorem mod_bd {b x : Int} (hb : 2 ≤ b) (h1 : b ≤ 12) : 0 ≤ x % b ∧ x % b ≤ 11 := by
  have := Int.emod_nonneg x (by omega : b ≠ 0)
  have := Int.emod_lt_of_pos x (by omega : 0 < b)
  omega
theorem w1_bd {b : Int} {pl : List Pl} {w : Wr} {S : Int} {od : Option Dd} (hb : 2 ≤ b) (hb2 : b ≤ 12) (h0 : 0 ≤ S) (h1 : S ≤ 44) (g : Wb b pl w) (x : Pl) : Wb b (pl ++ [x]) (w1F b w S od) ∧ (w1F b w S od).k ≤ 100 ∧ ((w1F b w S od).figs.length ≤ 2 * pl.length + 2) ∧ (wdOf od = some .twice → w.wt = none → (w1F b w S od).figs.length ≤ 2 * pl.length + 1) := by
  have hd := div_bd (x := S + w.k) hb (by have := g.k0; omega) (by have := g.k1; omega)
  have hm := mod_bd (x := S + w.k) hb hb2
  have hn := g.n
  have hL : (pl ++ [x]).length = pl.length + 1 := by simp
  unfold w1F
  split
  · exact ⟨⟨g.k0, g.k1, g.v, by omega⟩, g.k1, by omega, fun _ _ => by omega⟩
  · split
    · refine ⟨⟨hd.1, by show (S + w.k) / b ≤ 100; omega, (fun _ z => nomatch z), ?_⟩, by show (S + w.k) / b ≤ 100; omega, ?_, fun q z => ?_⟩
      · show (w.figs ++ [_, _]).length ≤ _
        rw [List.length_append, hL]
        show w.figs.length + 2 ≤ _
        omega
      · show (w.figs ++ [_, _]).length ≤ _
        rw [List.length_append]
        show w.figs.length + 2 ≤ _
        omega
      · rename_i e
        rw [z] at e
        cases e
    · have one : ∀ y : Int, Wb b (pl ++ [x]) ⟨w.figs ++ [y], none, (S + w.k) / b⟩ ∧ (S + w.k) / b ≤ 100 ∧ ((w.figs ++ [y]).length ≤ 2 * pl.length + 2) ∧ (w.figs ++ [y]).length ≤ 2 * pl.length + 1 := fun y => by
        have e : (w.figs ++ [y]).length = w.figs.length + 1 := by simp
        refine ⟨⟨hd.1, by show (S + w.k) / b ≤ 100; omega, (fun _ z => nomatch z), ?_⟩, by omega, by omega, by omega⟩
        show (w.figs ++ [y]).length ≤ _
        omega
      split
      · exact ⟨(one _).1, (one 0).2.1, (one _).2.2.1, fun _ _ => (one _).2.2.2⟩
      · split
        · refine ⟨⟨hd.1, by show (S + w.k) / b ≤ 100; omega, ?_, by show w.figs.length ≤ _; omega⟩, by show (S + w.k) / b ≤ 100; omega, by show w.figs.length ≤ _; omega, fun _ _ => by show w.figs.length ≤ _; omega⟩
          rintro y hy
          cases hy
          exact hm
        · exact ⟨(one _).1, (one 0).2.1, (one _).2.2.1, fun _ _ => (one _).2.2.2⟩
        · exact ⟨(one _).1, (one 0).2.1, (one _).2.2.1, fun _ _ => (one _).2.2.2⟩
theorem w2_bd {b : Int} {pl : List Pl} {w : Wr} {S : Int} {od : Option Dd} (hb : 2 ≤ b) (hb2 : b ≤ 12) (h0 : 0 ≤ S) (h1 : S ≤ 44) (x : Pl) (g : Wb b pl w) (hw : od ≠ none → w.wt = none) : Wb b (pl ++ [x]) (w2F b (w1F b w S od) S od) := by
  obtain ⟨g1, g2, g3, g4⟩ := w1_bd (od := od) hb hb2 h0 h1 g x
  have hL : (pl ++ [x]).length = pl.length + 1 := by simp
  have hk : wdOf od = some .again → (w1F b w S od).k ≤ 72 := fun e => by
    have hd := div_bd (x := S + w.k) hb (by have := g.k0; omega) (by have := g.k1; omega)
    have hwn := hw (fun z => by rw [z] at e; cases e)
    unfold w1F
    rw [if_neg (by rw [e]; exact fun z => nomatch z), hwn]
    cases od with
    | none => cases e
    | some t =>
      obtain ⟨wd, ns⟩ := t
      cases e
      exact hd.2
  unfold w2F
  split
  · rename_i e
    have hd := div_bd (x := S + (w1F b w S od).k) hb (by have := g1.k0; omega) (by omega)
    have h4 := g4 e (hw (fun z => by rw [z] at e; cases e))
    refine ⟨hd.1, by show (S + (w1F b w S od).k) / b ≤ 100; omega, g1.v, ?_⟩
    show ((w1F b w S od).figs ++ [_]).length ≤ _
    rw [List.length_append, hL]
    show (w1F b w S od).figs.length + 1 ≤ _
    omega
  · exact ⟨Int.le_refl 0, by show (0 : Int) ≤ 100; decide, g1.v, g1.n⟩
  · rename_i e
    have := hk e
    refine ⟨by show 0 ≤ (w1F b w S od).k + 1; have := g1.k0; omega, by show (w1F b w S od).k + 1 ≤ 100; omega, g1.v, g1.n⟩
  · exact g1
theorem cp_nd {r : Int} {s : List Dd} : (cpF r s).Nodup := List.nodup_range.filter _
theorem cp_l4 {r : Int} {s : List Dd} (h : r ≤ 4) : (cpF r s).length ≤ 4 := by
  have := List.length_filter_le (fun (j : Nat) => isIn ((.copy, [0 + (j : Int)]) : Dd) s) (List.range r.toNat)
  unfold cpF
  rw [List.length_range] at this
  omega
theorem cp_mem {b r : Int} {s : List Dd} {t : Dd} (ht : t ∈ allD b r) (hs : t ∈ s) (hc : t.1 = .copy) : jx t ∈ cpF r s := by
  have hD := isD_of ht
  obtain ⟨wd, ns⟩ := t
  cases hc
  obtain ⟨j, rfl, h0, h1⟩ := hD
  refine List.mem_filter.mpr ⟨List.mem_range.mpr (by show j.toNat < _; omega), ?_⟩
  refine isIn_iff.mpr ?_
  rw [show jx (.copy, [j]) = j.toNat from rfl, show (0 + ((j.toNat : Nat) : Int)) = j by omega]
  exact hs
theorem gc_of {b r m : Int} {s : List Dd} {col : List Int} {od : Option Dd} (k : Gk b r s m) (hc : okC b r col = true) (hd : ∀ t, od = some t → t ∈ s) : Gc b r (cpF r s) col od :=
  ⟨k.n.b2, k.n.b12, k.n.r1, k.n.r4, hc, cp_bd, cp_l4 k.n.r4, cp_nd, fun t h => ⟨k.sub _ (hd t h), cp_mem (k.sub _ (hd t h)) (hd t h)⟩⟩
theorem lc_last {b : Int} (p : List Pl) : p ≠ [] → lcF b p = (p.getLast?.map (·.1)).getD [] := by
  intro h
  rcases List.eq_nil_or_concat p with rfl | ⟨q, y, rfl⟩
  · exact absurd rfl h
  · rw [List.concat_eq_append, lcF_snoc, List.getLast?_append]
    rfl
theorem tk_bf {b : Int} {cp : List Nat} {x y col : List Int} {t : Dd} (h : t.1 ≠ .copy) : tkF b cp x col t = tkF b cp y col t := by
  obtain ⟨wd, ns⟩ := t
  cases wd <;> first | rfl | exact absurd rfl h
theorem step_doc {b r m : Int} {s : List Dd} {l : List Int} {p : List Pl} {x : Pl} (k : Gk b r s m) (hc : okC b r x.1 = true) (hd : ∀ t, x.2 = some t → t ∈ s ∧ psL b m p x.1 t = true) :
    nsF b (cpF r s) l (docF b r s m l p) x.1 x.2 = some (docF b r s m l (p ++ [x])) := by
  have g := gc_of (m := m) k hc fun t h => (hd t h).1
  have b2 := k.n.b2
  have hw : x.2 ≠ none → (wrF b p).wt = none := fun h => by
    cases hx : x.2 with
    | none => exact absurd hx h
    | some t =>
      have := (hd t hx).2
      unfold psL at this
      split at this
      · cases this
      · rename_i z
        exact Classical.byContradiction fun q => z (.inl q)
  obtain ⟨col, od⟩ := x
  dsimp only at hc hd g hw
  have ho : ouF b (cpF r s) (docF b r s m l p) col od = some (owF b (wrF b p) (adF b (lcF b p) col od).sum od) := by
    cases od with
    | none => rfl
    | some t =>
      have hS := sum_step (pv := lcF b p) g
      dsimp only at hS
      rw [hS]
      obtain ⟨h1, h2⟩ := hd t rfl
      have h3 := hw (fun z => nomatch z)
      unfold psL at h2
      split at h2
      · cases h2
      · rename_i z
        have hp : posB (docF b r s m l p) t ((col.sum + (wrF b p).k) / b) = true := by
          unfold posB
          rw [if_neg]
          · obtain ⟨wd, ns⟩ := t
            cases wd with
            | forget =>
              have h2 := of_decide_eq_true h2
              have : 1 ≤ (col.sum + (wrF b p).k) / b := by rw [Int.le_ediv_iff_mul_le (by omega)]; omega
              exact decide_eq_true (by omega)
            | copy =>
              have h2 := of_decide_eq_true h2
              show (docF b r s m l p).bf.isSome = true
              unfold docF
              rw [if_neg (by rintro rfl; cases h2)]
              rfl
            | _ => rfl
          · rintro (q | q)
            · have : m - ((slF 0 p).length : Int) = 0 := q
              exact z (.inr (by omega))
            · exact q h3
        show dwF b (cpF r s) (docF b r s m l p) col t = some (dwO b (wrF b p).k _ t)
        unfold dwF
        rw [show (docF b r s m l p).k = (wrF b p).k from rfl, if_pos hp]
        by_cases hcy : t.1 = .copy
        · have hne : p ≠ [] := by
            rintro rfl
            obtain ⟨wd, ns⟩ := t
            cases hcy
            cases of_decide_eq_true h2
          rw [show (docF b r s m l p).bf = some ((cpF r s).map fun j => ((p.getLast?.map (·.1)).getD []).getD j 0) by unfold docF; rw [if_neg hne], ← lc_last (b := b) p hne]
          rfl
        · rw [tk_bf (y := (cpF r s).map fun j => (lcF b p).getD j 0) hcy]
  obtain ⟨add, h1, h2, h3, h4, h5, h6⟩ := stepW b (wrF b p) (adF b (lcF b p) col od).sum od hw
  have eE := erF_snoc p (col, od) hw
  dsimp only at eE ⊢
  unfold nsF
  rw [ho]
  generalize owF b (wrF b p) (adF b (lcF b p) col od).sum od = o at h2 h3 h4 eE ⊢
  have ws := wrF_snoc (b := b) p (col, od)
  dsimp only at ws
  rw [← ws] at h1 h2 h3
  have hn : (wrF b (p ++ [(col, od)])).figs.length = (wrF b p).figs.length + add.length := by rw [h1, List.length_append]
  have hL : (p ++ [(col, od)]).length = p.length + 1 := by simp
  show some (adv b (cpF r s) l (docF b r s m l p) col od o) = _
  have near := near_step b2 (erF b p) o.1 col.sum (wrF b p).figs.length p.length add.length _ eE
  have rest := rs_step (b := b) (erF b p) o.1 col.sum (wrF b p).figs.length p.length add.length l
  rw [← eE] at rest
  congr 1
  unfold adv docF
  dsimp only
  rw [h2, h3, h4, hn, hL, slF_snoc, near, Int.toNat_natCast, rest, if_neg (show ¬ (p ++ [(col, od)] = []) by simp), List.getLast?_append]
  congr 1
  · show m - ((slF 0 p).length : Int) - dn od = m - (((slF 0 p).length : Int) + dn od)
    omega
  · omega
theorem Po1.front {b r m : Int} {s : List Dd} {p q : List Pl} (h : Po1 b r s m (p ++ q)) : Po1 b r s m p := by
  refine ⟨h.k, fun x hx => h.c x (List.mem_append_left _ hx), fun i x t hi ht => ?_⟩
  have hl := (List.getElem?_eq_some_iff.mp hi).1
  have := h.d i x t (by rw [List.getElem?_append_left hl]; exact hi) ht
  rw [List.take_append_of_le_length (by omega)] at this
  exact this
theorem Po1.last {b r m : Int} {s : List Dd} {p : List Pl} {x : Pl} (h : Po1 b r s m (p ++ [x])) : okC b r x.1 = true ∧ ∀ t, x.2 = some t → t ∈ s ∧ psL b m p x.1 t = true := by
  refine ⟨h.c x (List.mem_append_right _ (List.mem_singleton_self x)), fun t ht => ?_⟩
  have := h.d p.length x t (by simp) ht
  rw [List.take_append_of_le_length (Nat.le_refl _), List.take_length] at this
  exact this
theorem Po1.take {b r m : Int} {s : List Dd} {pl : List Pl} (h : Po1 b r s m pl) (i : Nat) : Po1 b r s m (pl.take i) := by
  rw [← List.take_append_drop i pl] at h
  exact h.front
theorem Po1.snoc {b r m : Int} {s : List Dd} {p : List Pl} {x : Pl} (h : Po1 b r s m p) (hc : okC b r x.1 = true) (hd : ∀ t, x.2 = some t → t ∈ s ∧ psL b m p x.1 t = true) : Po1 b r s m (p ++ [x]) := by
  refine ⟨h.k, fun y hy => ?_, fun i y t hi ht => ?_⟩
  · rcases List.mem_append.mp hy with z | z
    · exact h.c y z
    · cases List.mem_singleton.mp z
      exact hc
  · rcases Nat.lt_or_ge i p.length with hl | hl
    · rw [List.getElem?_append_left hl] at hi
      rw [List.take_append_of_le_length (by omega)]
      exact h.d i y t hi ht
    · rw [List.getElem?_append_right hl] at hi
      have h0 : i - p.length = 0 := by
        have := (List.getElem?_eq_some_iff.mp hi).1
        simp at this
        omega
      rw [h0] at hi
      cases hi
      rw [List.take_append_of_le_length (by omega), List.take_of_length_le hl]
      exact hd t ht
theorem ps_wt {b m : Int} {p : List Pl} {col : List Int} {od : Option Dd} (h : ∀ t, od = some t → psL b m p col t = true) (hne : od ≠ none) : (wrF b p).wt = none := by
  cases od with
  | none => exact absurd rfl hne
  | some t =>
    have := h t rfl
    unfold psL at this
    split at this
    · cases this
    · rename_i z
      exact Classical.byContradiction fun q => z (.inl q)
theorem doc_nil {b r m : Int} {s : List Dd} {l : List Int} (g : Gl0 l) : docF b r s m l [] = st0 m l := by
  have e : erF b [] = 0 := rfl
  unfold docF st0
  rw [e]
  show (⟨m - 0, none, none, 0, 0 - 0, if (0 : Int) % b ^ 0 = 0 then some (0 / b ^ 0) else none, l.map fun d => (0 % d, b ^ 0 % d, b ^ 0 % d)⟩ : Std) = _
  rw [Int.pow_zero, if_pos (by rfl)]
  congr 1
  · omega
  · apply List.map_congr_left
    intro d hd
    have := (g.ge d hd).1
    rw [Int.zero_emod, Int.emod_eq_of_lt (by decide) (by omega)]
theorem doc_goes {b r m : Int} {s : List Dd} {l : List Int} (g : Gl0 l) : ∀ pl, Po1 b r s m pl → goes b (cpF r s) l (st0 m l) pl = some (docF b r s m l pl) := by
  apply snoc_ind
  · intro _
    rw [doc_nil g]
    rfl
  · intro p x ih h
    rw [goes_app, ih h.front]
    show (nsF b (cpF r s) l (docF b r s m l p) x.1 x.2).bind _ = _
    rw [step_doc h.k h.last.1 h.last.2]
    rfl
theorem lc_ok {b r m : Int} {s : List Dd} {pl : List Pl} (h : Po1 b r s m pl) (hne : pl ≠ []) : okC b r (lcF b pl) = true := by
  rcases List.eq_nil_or_concat pl with rfl | ⟨q, y, rfl⟩
  · exact absurd rfl hne
  · rw [List.concat_eq_append] at h ⊢
    rw [lcF_snoc]
    exact h.last.1
theorem wr_bd {b r m : Int} {s : List Dd} : ∀ pl, Po1 b r s m pl → Wb b pl (wrF b pl) := by
  apply snoc_ind
  · exact fun _ => ⟨Int.le_refl 0, by show (0 : Int) ≤ 100; decide, (fun _ z => nomatch z), Nat.zero_le _⟩
  · intro p x ih h
    have hw := ps_wt (b := b) (m := m) (p := p) (col := x.1) (od := x.2) fun t ht => (h.last.2 t ht).2
    have g := gc_of (m := m) h.k h.last.1 fun t ht => (h.last.2 t ht).1
    have ha := ad_ok (pv := lcF b p) g fun t ht hcy => by
      refine lc_ok h.front ?_
      rintro rfl
      have := (h.last.2 t ht).2
      unfold psL at this
      rw [hcy] at this
      split at this
      · cases this
      · cases of_decide_eq_true this
    have hb := okC_bd ha g.b12 g.r4
    rw [wrF_snoc]
    exact w2_bd g.b2 g.b12 hb.1 hb.2.1 x (ih h.front) hw
theorem doc_gs {b r m : Int} {s : List Dd} {l : List Int} {pl : List Pl} (h : Po1 b r s m pl) (hn : pl.length ≤ 300) : Gs (cpF r s) l (docF b r s m l pl) := by
  have w := wr_bd pl h
  have := w.n
  refine ⟨w.k0, w.k1, w.v, ?_, ?_, ?_, ?_, List.length_map _⟩
  · intro xs hx
    unfold docF at hx
    dsimp only at hx
    split at hx
    · cases hx
    · cases hx
      exact List.length_map _
  · intro xs hx y hy
    unfold docF at hx
    dsimp only at hx
    split at hx
    · cases hx
    · rename_i hne
      cases hx
      rw [← lc_last (b := b) pl hne] at hy
      obtain ⟨j, _, rfl⟩ := List.mem_map.mp hy
      have ho := lc_ok h hne
      have b12 := h.k.n.b12
      unfold okC at ho
      simp only [Bool.and_eq_true, decide_eq_true_eq, List.all_eq_true] at ho
      rcases Nat.lt_or_ge j (lcF b pl).length with hj | hj
      · have := ho.2 _ (List.mem_of_getElem? (getD_get hj))
        omega
      · rw [List.getD_eq_getElem?_getD, List.getElem?_eq_none hj]
        decide
  · show -900 ≤ (((wrF b pl).figs.length : Int) - pl.length)
    omega
  · show (((wrF b pl).figs.length : Int) - pl.length) ≤ 900
    omega
theorem Po1.gp {b r m : Int} {s : List Dd} {l : List Int} {pl : List Pl} (h : Po1 b r s m pl) (g : Gl0 l) (hn : pl.length ≤ 300) : Gp b r s m l pl := by
  refine ⟨h.k, h.c, fun x hx t ht => ?_, hn, fun i st hi e => ?_⟩
  · obtain ⟨i, hi⟩ := List.getElem?_of_mem hx
    exact (h.d i x t hi ht).1
  · rw [doc_goes g _ (h.take i)] at e
    cases e
    exact doc_gs (h.take i) (by rw [List.length_take]; omega)
theorem Po1.gq {b r m : Int} {s : List Dd} {pl : List Pl} (h : Po1 b r s m pl) (hn : pl.length ≤ 300) : Gq b r pl := by
  refine ⟨h.k.n.b2, h.k.n.b12, h.k.n.r1, h.k.n.r4, h.c, fun x hx t ht => ?_, hn, fun x t hx ht hcy => ?_⟩
  · obtain ⟨i, hi⟩ := List.getElem?_of_mem hx
    exact h.k.sub _ (h.d i x t hi ht).1
  · have := (h.d 0 x t hx ht).2
    unfold psL at this
    rw [hcy] at this
    split at this
    · cases this
    · cases of_decide_eq_true this
end
section
variable {K : PySem.W.Frag}
theorem sz_lt {α : Type} {xs : List α} (h : xs.length < 100000) : xs.length < sizeLine := Nat.lt_of_lt_of_le h (by decide)
theorem v_slT3 {o : Bool} {a b c d : D} {xs : List D} {e : En} {P : D → En → Prop} (p : P (.tup [a, b, c]) e) : qSl o (.tup (a :: b :: c :: d :: xs)) none (some 3) e P := by
  have h := cut_to (α := D) (fun d => d) (a :: b :: c :: d :: xs) 3
  rw [List.map_id', List.map_id'] at h
  refine ⟨fun z => ?_, by rw [show ((3 : Nat) : Int) = (3 : Int) from rfl] at h; rw [h]; exact p⟩
  have h1 := z.2
  rw [show (some (3 : Int)) = some ((3 : Nat) : Int) from rfl, HT.sIx_nat] at h1
  simp at h1
theorem v_wd {w w2 : Wo} {e : En} {P : D → En → Prop} (p : P (.bl (decide (w = w2))) e) : qEq (.str w.s) (.str w2.s) e P :=
  v_eqP (k := decide (w = w2)) ⟨rfl, (Sh.str (Wo.lay _)).shp, (Sh.str (Wo.lay w2)).shp, Wo.s_inj _ w2, p⟩
theorem oI_isnot {wt : Option Int} {e : En} {P : D → En → Prop} (p : P (.bl (decide (wt ≠ none))) e) : qIsNot (oI wt) .non e P := by
  cases wt with
  | none => exact v_isnN0 p
  | some x => exact v_isnN1 ⟨rfl, rfl, p⟩
theorem oI_is {wt : Option Int} {e : En} {P : D → En → Prop} (p : P (.bl (decide (wt = none))) e) : qIs (oI wt) .non e P := by
  cases wt with
  | none => exact v_isN0 p
  | some x => exact v_isN1 ⟨rfl, rfl, p⟩
theorem oT_isnot {bf : Option (List Int)} {e : En} {P : D → En → Prop} (p : P (.bl bf.isSome) e) : qIsNot (oT bf) .non e P := by
  cases bf with
  | none => exact v_isnN0 p
  | some x => exact v_isnN1 ⟨rfl, rfl, p⟩
theorem st_ip {a b c : D} : startD N_is_possible [a, b, c] = [some a, some b, some c, none, none, none] := rfl
theorem len_is_possible : ∀ ds cs Q, sp_is_possible K ds cs Q → ds.length = 3 := by rintro ds cs Q ⟨_, _, _, _, _, rfl, _⟩; rfl
theorem vc_is_possible : ∀ ds cs Q, Lo ds cs → LoC cs → sp_is_possible K ds cs Q → t_is_possible K (Po.fn cs Q) ⟨startD N_is_possible ds, cs⟩ := by
  rintro ds cs Q hd hc ⟨⟨left, wt, bf, k, gap, near, rs⟩, ⟨w, ns⟩, c, b, r, rfl, ht, q⟩
  rw [st_ip]
  unfold t_is_possible encSt encD
  dsimp only
  walk_at "w"
  refine v_slT3 ?_
  walk_at "w"
  dsimp only [setAll, List.set]
  refine v_itd (fun h => ?_) (fun h => ?_)
  · walk_at "w"
    rw [show posB ⟨left, wt, bf, k, gap, near, rs⟩ (w, ns) c = false by unfold posB; exact if_pos (.inl h)] at q
    exact .inl q
  walk_at "w"
  refine oI_isnot ?_
  walk_at "w"
  refine v_itd (fun h2 => ?_) (fun h2 => ?_)
  · walk_at "w"
    rw [show posB ⟨left, wt, bf, k, gap, near, rs⟩ (w, ns) c = false by unfold posB; exact if_pos (.inr h2)] at q
    exact .inl q
  have e : ¬ (left = 0 ∨ wt ≠ none) := fun z => z.elim h h2
  unfold posB at q
  rw [if_neg e] at q
  walk_at "w"
  refine v_ixTX ⟨_, atI_nat (j := 0) rfl, ?_⟩
  walk_at "w"
  refine v_wd (w2 := .forget) ?_
  walk_at "w"
  refine v_itd (fun h3 => ?_) (fun h3 => ?_)
  · subst h3
    walk_at "w"
    exact .inl q
  walk_at "w"
  refine v_ixTX ⟨_, atI_nat (j := 0) rfl, ?_⟩
  walk_at "w"
  refine v_wd (w2 := .copy) ?_
  walk_at "w"
  refine v_itd (fun h4 => ?_) (fun h4 => ?_)
  · subst h4
    walk_at "w"
    refine oT_isnot ?_
    walk_at "w"
    exact .inl q
  walk_at "w"
  cases w <;> first | exact absurd rfl h3 | exact absurd rfl h4 | exact .inl q
theorem st_ts {a b c d e : D} : startD N_taken_sum [a, b, c, d, e] = [some a, some b, some c, some d, some e, none] := rfl
theorem len_taken_sum : ∀ ds cs Q, sp_taken_sum K ds cs Q → ds.length = 5 := by rintro ds cs Q ⟨_, _, _, _, _, _, rfl, _⟩; rfl
theorem vc_taken_sum : ∀ ds cs Q, Lo ds cs → LoC cs → sp_taken_sum K ds cs Q → t_taken_sum K (Po.fn cs Q) ⟨startD N_taken_sum ds, cs⟩ := by
  rintro ds cs Q hd hc ⟨b, r, cp, bf, col, ⟨w, ns⟩, rfl, g, hbl, hbs, q⟩
  have hl := (okC_bd g.c g.b12 g.r4).2.2
  have b2 := g.b2
  have b12 := g.b12
  obtain ⟨ht, hcp⟩ := g.d _ rfl
  have hD := isD_of ht
  rw [st_ts]
  unfold t_taken_sum encD
  dsimp only
  walk_at "w"
  refine v_sumL (ns := col) rfl ?_
  walk_at "w"
  refine v_ixTX ⟨_, atI_nat (j := 0) rfl, ?_⟩
  walk_at "w"
  refine v_wd (w2 := .read) ?_
  walk_at "w"
  refine v_itd (fun h => ?_) (fun h => ?_)
  · subst h
    obtain ⟨j, d, rfl, h0, h1, _, _⟩ := hD
    obtain ⟨j, rfl⟩ : ∃ k : Nat, j = (k : Int) := ⟨j.toNat, by omega⟩
    walk_at "w"
    refine v_ixTX ⟨_, atI_map (getD_get (j := j) (by omega)), ?_⟩
    walk_at "w"
    refine v_ixTX ⟨_, atI_map (getD_get (j := j) (by omega)), ?_⟩
    walk_at "w"
    exact .inl q
  walk_at "w"
  refine v_ixTX ⟨_, atI_nat (j := 0) rfl, ?_⟩
  walk_at "w"
  refine v_wd (w2 := .copy) ?_
  walk_at "w"
  refine v_itd (fun h2 => ?_) (fun h2 => ?_)
  · subst h2
    obtain ⟨j, rfl, h0, h1⟩ := hD
    obtain ⟨j, rfl⟩ : ∃ k : Nat, j = (k : Int) := ⟨j.toNat, by omega⟩
    have hj : j ∈ cp := hcp rfl
    obtain ⟨xs, hx⟩ := Option.isSome_iff_exists.mp (hbs rfl)
    subst hx
    have hxl := hbl xs rfl
    have hk := List.idxOf_lt_length_of_mem hj
    walk_at "w"
    refine v_ixTX ⟨_, atI_map (getD_get (j := j) (by omega)), ?_⟩
    walk_at "w"
    refine ⟨⟨_, rfl⟩, ?_⟩
    walk_at "w"
    refine v_idx (ns := cp.map fun (j : Nat) => (0 + (j : Int))) (k := (j : Int)) (j := cp.idxOf j) ?_ ?_ ?_ ?_
    · show some (cpD cp) = some _
      unfold cpD
      rw [List.map_map]
      rfl
    · rw [List.getElem?_map, List.getElem?_eq_getElem hk, List.getElem_idxOf hk]
      show some (0 + (j : Int)) = _
      rw [Int.zero_add]
    · intro m' z hm hz
      rw [List.getElem?_map] at hz
      obtain ⟨y, hy, rfl⟩ := Option.map_eq_some_iff.mp hz
      intro e
      have ey : y = j := by omega
      subst ey
      obtain ⟨hm2, hy2⟩ := List.getElem?_eq_some_iff.mp hy
      have := List.not_of_lt_findIdx (p := (· == y)) (xs := cp) hm
      rw [hy2] at this
      simp at this
    walk_at "w"
    refine v_ixTX ⟨_, atI_map (getD_get (xs := xs) (j := cp.idxOf j) (by omega)), ?_⟩
    walk_at "w"
    exact .inl q
  walk_at "w"
  cases w <;> first | exact absurd rfl h | exact absurd rfl h2 | exact .inl q
theorem st_dr {a b c : D} : startD N_done_rightly [a, b, c] = [some a, some b, some c, none, none, none, none] := rfl
theorem len_done_rightly : ∀ ds cs Q, sp_done_rightly K ds cs Q → ds.length = 3 := by rintro ds cs Q ⟨_, _, _, _, _, _, rfl, _⟩; rfl
theorem vc_done_rightly : ∀ ds cs Q, Lo ds cs → LoC cs → sp_done_rightly K ds cs Q → t_done_rightly K (Po.fn cs Q) ⟨startD N_done_rightly ds, cs⟩ := by
  rintro ds cs Q hd hc ⟨b, r, cp, l, ⟨left, wt, bf, k, gap, near, rs⟩, col, rfl, g, gs, q⟩
  have b2 := g.b2
  have b12 := g.b12
  rw [st_dr]
  unfold t_done_rightly encSt
  dsimp only
  walk_at "w"
  refine ⟨_, _, rfl, ?_⟩
  walk_at "w"
  refine v_sumL (ns := col) rfl ?_
  walk_at "w"
  refine oI_is ?_
  walk_at "w"
  refine v_itd (fun h => ?_) (fun h => ?_)
  · subst h
    walk_at "w"
    exact .inl q
  obtain ⟨x, rfl⟩ := Option.ne_none_iff_exists'.mp h
  have hx := gs.w x rfl
  have hm := Int.emod_nonneg (col.sum + k) (by omega : b ≠ 0)
  have hm2 := Int.emod_lt_of_pos (col.sum + k) (by omega : 0 < b)
  dsimp only [oI]
  walk_at "w"
  exact .inl q
theorem st_dw {a b c d e : D} : startD N_done_with [a, b, c, d, e] = [some a, some b, some c, some d, some e, none, none, none, none] := rfl
theorem len_done_with : ∀ ds cs Q, sp_done_with K ds cs Q → ds.length = 5 := by rintro ds cs Q ⟨_, _, _, _, _, _, _, rfl, _⟩; rfl
theorem vc_done_with : ∀ ds cs Q, Lo ds cs → LoC cs → sp_done_with K ds cs Q → t_done_with K (Po.fn cs Q) ⟨startD N_done_with ds, cs⟩ := by
  rintro ds cs Q hd hc ⟨b, r, cp, l, ⟨left, wt, bf, k, gap, near, rs⟩, col, ⟨w, ns⟩, rfl, g, gs, q⟩
  have b2 := g.b2
  have b12 := g.b12
  obtain ⟨ht, hcp⟩ := g.d _ rfl
  have hD := isD_of ht
  rw [st_dw]
  unfold t_done_with
  rw [show encSt ⟨left, wt, bf, k, gap, near, rs⟩ = .tup [.int left, oI wt, oT bf, .int k, .int gap, oI near, .tup (rs.map encR)] from rfl, show encD (w, ns) = .tup (.str w.s :: ns.map .int) from rfl]
  walk_at "w"
  refine v_ixTX ⟨_, atI_nat (j := 0) rfl, ?_⟩
  walk_at "w"
  refine v_sumL (ns := col) rfl ?_
  walk_at "w"
  refine ⟨⟨left, wt, bf, k, gap, near, rs⟩, (w, ns), (col.sum + k) / b, b, r, rfl, ht, ?_⟩
  unfold dwF at q
  dsimp only at q
  cases hp : posB ⟨left, wt, bf, k, gap, near, rs⟩ (w, ns) ((col.sum + k) / b)
  · rw [hp] at q
    walk_at "w"
    exact .inl q
  rw [hp, if_pos rfl] at q
  have hcs : w = .copy → bf.isSome = true := fun e => by
    subst e
    unfold posB at hp
    split at hp
    · cases hp
    · exact hp
  walk_at "w"
  refine v_wd (w2 := .out) ?_
  walk_at "w"
  refine v_itd (fun h1 => ?_) (fun h1 => ?_)
  · subst h1
    walk_at "w"
    exact .inl q
  walk_at "w"
  refine ⟨b, r, cp, bf, col, (w, ns), rfl, g, gs.b, hcs, ?_⟩
  generalize tkF b cp (bf.getD []) col (w, ns) = total at q ⊢
  walk_at "w"
  refine v_wd (w2 := .forget) ?_
  walk_at "w"
  refine v_itd (fun h2 => ?_) (fun h2 => ?_)
  · subst h2
    walk_at "w"
    exact .inl q
  walk_at "w"
  refine v_wd (w2 := .again) ?_
  walk_at "w"
  refine v_itd (fun h3 => ?_) (fun h3 => ?_)
  · subst h3
    walk_at "w"
    exact .inl q
  walk_at "w"
  refine v_wd (w2 := .off) ?_
  walk_at "w"
  refine v_itd (fun h4 => ?_) (fun h4 => ?_)
  · subst h4
    obtain ⟨d, rfl, d0, d1⟩ := hD
    walk_at "w"
    exact .inl q
  walk_at "w"
  refine v_wd (w2 := .swap) ?_
  walk_at "w"
  refine v_itd (fun h5 => ?_) (fun h5 => ?_)
  · subst h5
    walk_at "w"
    exact .inl q
  walk_at "w"
  refine v_wd (w2 := .twice) ?_
  walk_at "w"
  refine v_itd (fun h6 => ?_) (fun h6 => ?_)
  · subst h6
    walk_at "w"
    exact .inl q
  walk_at "w"
  cases w <;> first | exact absurd rfl h1 | exact absurd rfl h2 | exact absurd rfl h3 | exact absurd rfl h4 | exact absurd rfl h5 | exact absurd rfl h6 | exact .inl q
theorem pow_small {b : Int} (b2 : 2 ≤ b) (b12 : b ≤ 12) : ∀ {k : Nat}, k ≤ 3 → 0 < b ^ k ∧ b ^ k ≤ 1728 := by
  have h2 : b * b ≤ 12 * 12 := Int.mul_le_mul b12 b12 (by omega) (by decide)
  have h3 : b * b * b ≤ 12 * 12 * 12 := Int.mul_le_mul h2 b12 (by omega) (by decide)
  intro k hk
  refine ⟨Int.pow_pos (by omega), ?_⟩
  have hk4 : k = 0 ∨ k = 1 ∨ k = 2 ∨ k = 3 := by omega
  rcases hk4 with rfl | rfl | rfl | rfl
  · rw [Int.pow_zero]; decide
  · rw [Int.pow_succ, Int.pow_zero]; omega
  · rw [Int.pow_succ, Int.pow_succ, Int.pow_zero, Int.one_mul]; omega
  · rw [Int.pow_succ, Int.pow_succ, Int.pow_succ, Int.pow_zero, Int.one_mul]; omega
theorem st_nb {a b c d e f : D} : startD N_near_behind [a, b, c, d, e, f] = [some a, some b, some c, some d, some e, some f, none, none, none, none] := rfl
theorem len_near_behind : ∀ ds cs Q, sp_near_behind K ds cs Q → ds.length = 6 := by rintro ds cs Q ⟨_, _, _, _, _, _, rfl, _⟩; rfl
theorem vc_near_behind : ∀ ds cs Q, Lo ds cs → LoC cs → sp_near_behind K ds cs Q → t_near_behind K (Po.fn cs Q) ⟨startD N_near_behind ds, cs⟩ := by
  rintro ds cs Q hd hc ⟨b, g, near, f, t, c, rfl, b2, b12, g0, g1, f0, f1, t0, t1, c0, c2, q⟩
  rw [st_nb]
  unfold t_near_behind
  walk_at "w"
  refine oI_is ?_
  walk_at "w"
  refine v_itd (fun h => ?_) (fun h => ?_)
  · subst h
    walk_at "w"
    exact .inl q
  obtain ⟨n, rfl⟩ := Option.ne_none_iff_exists'.mp h
  dsimp only [oI]
  unfold nbF at q
  dsimp only at q
  have fin : ∀ (e : En), e = ⟨[some (.int b), some (.int g), some (.int n), some (.int f), some (.int t), some (.int c), some (.int (abv g : Nat)), some (.int (blw g : Nat)), none, none], cs⟩ → sSeq (sAsg (eBin qSub (eBin (qAdd false) (eV 2) (eBin qMul (eV 3) (eCall (sp_power K) (aCons (eV 0) (aCons (eV 6) aNil))))) (eBin qMul (eV 4) (eCall (sp_power K) (aCons (eV 0) (aCons (eV 7) aNil))))) 2) (sSeq (sAsg (eBin (qAdd false) (eV 7) (eC (.int 1))) 8) (sSeq (sIf (eTest (eBin qLt (eBin (qAdd false) (eV 6) (eV 5)) (eV 8))) (sAsg (eBin (qAdd false) (eV 6) (eV 5)) 8) sNext) (sSeq (sAsg (eCall (sp_power K) (aCons (eV 0) (aCons (eV 8) aNil))) 9) (sSeq (sIf (eTest (eBin qNe (eBin qMod (eV 2) (eV 9)) (eC (.int 0)))) (sRet (eC .non)) sNext) (sRet (eBin qFdiv (eV 2) (eV 9))))))) (Po.fn cs Q) e := by
    rintro e rfl
    have ha : abv g ≤ 900 := by unfold abv; split <;> omega
    have hb : blw g ≤ 900 := by unfold blw; split <;> omega
    have hab : (abv g : Int) = 0 ∨ blw g = 0 := by unfold abv blw; split <;> split <;> omega
    have hs : stF g c ≤ 3 ∧ (stF g c : Int) = if (abv g : Int) + c < (blw g : Int) + 1 then (abv g : Int) + c else (blw g : Int) + 1 := by
      unfold stF
      split <;> omega
    obtain ⟨hp, hp2⟩ := pow_small b2 b12 hs.1
    generalize abv g = A at ha hab hs q ⊢
    generalize blw g = B at hb hab hs q ⊢
    walk_at "w"
    refine ⟨b, A, rfl, b2, b12, by omega, ?_⟩
    walk_at "w"
    refine ⟨b, B, rfl, b2, b12, by omega, ?_⟩
    walk_at "w"
    obtain ⟨s, hsE⟩ : ∃ s, s = stF g c := ⟨_, rfl⟩
    rw [← hsE] at hs hp hp2 q
    refine v_itd (fun h => ?_) (fun h => ?_)
    · rw [if_pos h] at hs
      walk_at "w"
      rw [← hs.2]
      refine ⟨b, s, rfl, b2, b12, by omega, ?_⟩
      generalize hX : b ^ s = X at hp hp2 q ⊢
      generalize n + f * b ^ A - t * b ^ B = Y at q ⊢
      walk_at "w"
      refine v_itdn (fun h => ?_) (fun h => ?_)
      · rw [if_neg h] at q
        walk_at "w"
        exact .inl q
      · rw [if_pos h] at q
        walk_at "w"
        exact .inl q
    · rw [if_neg h] at hs
      walk_at "w"
      rw [← hs.2]
      refine ⟨b, s, rfl, b2, b12, by omega, ?_⟩
      generalize hX : b ^ s = X at hp hp2 q ⊢
      generalize n + f * b ^ A - t * b ^ B = Y at q ⊢
      walk_at "w"
      refine v_itdn (fun h => ?_) (fun h => ?_)
      · rw [if_neg h] at q
        walk_at "w"
        exact .inl q
      · rw [if_pos h] at q
        walk_at "w"
        exact .inl q
  generalize sSeq (sAsg (eBin qSub (eBin (qAdd false) (eV 2) (eBin qMul (eV 3) (eCall (sp_power K) (aCons (eV 0) (aCons (eV 6) aNil))))) (eBin qMul (eV 4) (eCall (sp_power K) (aCons (eV 0) (aCons (eV 7) aNil))))) 2) (sSeq (sAsg (eBin (qAdd false) (eV 7) (eC (.int 1))) 8) (sSeq (sIf (eTest (eBin qLt (eBin (qAdd false) (eV 6) (eV 5)) (eV 8))) (sAsg (eBin (qAdd false) (eV 6) (eV 5)) 8) sNext) (sSeq (sAsg (eCall (sp_power K) (aCons (eV 0) (aCons (eV 8) aNil))) 9) (sSeq (sIf (eTest (eBin qNe (eBin qMod (eV 2) (eV 9)) (eC (.int 0)))) (sRet (eC .non)) sNext) (sRet (eBin qFdiv (eV 2) (eV 9))))))) = T at fin ⊢
  walk_at "w"
  refine v_itd (fun h1 => ?_) (fun h1 => ?_)
  · walk_at "w"
    rw [decide_eq_false (by omega)]
    walk_at "w"
    exact fin _ (by unfold abv blw; rw [if_pos h1, if_neg (by omega), Int.toNat_of_nonneg (by omega)]; rfl)
  walk_at "w"
  refine v_itd (fun h2 => ?_) (fun h2 => ?_)
  · walk_at "w"
    exact fin _ (by unfold abv blw; rw [if_neg h1, if_pos h2, Int.toNat_of_nonneg (by omega)]; rfl)
  · walk_at "w"
    exact fin _ (by unfold abv blw; rw [if_neg h1, if_neg h2]; rfl)
theorem mul_bd {x b M : Int} (h0 : -M ≤ x) (h1 : x ≤ M) (b0 : 0 ≤ b) (b1 : b ≤ 12) (hM : 0 ≤ M) : -(12 * M) ≤ x * b ∧ x * b ≤ 12 * M := by
  have e1 := Int.mul_le_mul_of_nonneg_right h1 b0
  have e2 := Int.mul_le_mul_of_nonneg_right h0 b0
  have e3 := Int.mul_le_mul_of_nonneg_left b1 hM
  rw [Int.neg_mul] at e2
  omega
theorem getD_bd {xs : List Int} {j : Nat} (h : ∀ y ∈ xs, 0 ≤ y ∧ y ≤ 11) : 0 ≤ xs.getD j 0 ∧ xs.getD j 0 ≤ 11 := by
  rcases Nat.lt_or_ge j xs.length with hj | hj
  · exact h _ (List.mem_of_getElem? (getD_get hj))
  · rw [List.getD_eq_getElem?_getD, List.getElem?_eq_none hj]
    decide
theorem okC_el {b r : Int} {c : List Int} (h : okC b r c = true) (b12 : b ≤ 12) : ∀ y ∈ c, 0 ≤ y ∧ y ≤ 11 := fun y hy => by
  unfold okC at h
  simp only [Bool.and_eq_true, decide_eq_true_eq, List.all_eq_true] at h
  have := h.2 y hy
  omega
theorem out_bd {b r : Int} {cp : List Nat} {l : List Int} {s : Std} {col : List Int} {od : Option Dd} {o : Out} (g : Gc b r cp col od) (gs : Gs cp l s) (h : ouF b cp s col od = some o) : -1000000 ≤ o.1 ∧ o.1 ≤ 1000000 ∧ 0 ≤ o.2.1 ∧ o.2.1 ≤ 2 := by
  have hS := okC_bd g.c g.b12 g.r4
  have b2 := g.b2
  have b12 := g.b12
  have k0 := gs.k0
  have k1 := gs.k1
  have he := okC_el g.c b12
  have hm : ∀ x, 0 ≤ x % b ∧ x % b ≤ 11 := fun x => by
    have := Int.emod_nonneg x (by omega : b ≠ 0)
    have := Int.emod_lt_of_pos x (by omega : 0 < b)
    omega
  cases od with
  | none =>
    cases h
    show -1000000 ≤ (drF b s col).1 ∧ (drF b s col).1 ≤ 1000000 ∧ 0 ≤ (drF b s col).2.1 ∧ (drF b s col).2.1 ≤ 2
    unfold drF
    split
    · exact ⟨by show -1000000 ≤ col.sum; omega, by show col.sum ≤ 1000000; omega, by show (0 : Int) ≤ 1; decide, by show (1 : Int) ≤ 2; decide⟩
    · rename_i w hw
      have hx := gs.w w hw
      have h1 := hm (col.sum + s.k)
      generalize (col.sum + s.k) % b = f at h1
      have m1 := mul_bd (x := f - w) (M := 11) (b := b) (by omega) (by omega) (by omega) b12 (by decide)
      have m2 := mul_bd (x := col.sum) (M := 44) (b := b) (by omega) (by omega) (by omega) b12 (by decide)
      have e : (f - w) * (1 - b) = (f - w) - (f - w) * b := by rw [Int.mul_sub, Int.mul_one]
      show -1000000 ≤ (f - w) * (1 - b) + col.sum * b ∧ (f - w) * (1 - b) + col.sum * b ≤ 1000000 ∧ (0 : Int) ≤ 2 ∧ (2 : Int) ≤ 2
      rw [e]
      refine ⟨by omega, by omega, by decide, by decide⟩
  | some t =>
    have h : dwF b cp s col t = some o := h
    unfold dwF at h
    split at h
    · cases h
      have ht : -100 ≤ tkF b cp (s.bf.getD []) col t ∧ tkF b cp (s.bf.getD []) col t ≤ 100 := by
        have h1 := getD_bd (j := jx t) he
        have h2 := hm (col.getD (jx t) 0 + dx t)
        have h3 : 0 ≤ (s.bf.getD []).getD (cp.idxOf (jx t)) 0 ∧ (s.bf.getD []).getD (cp.idxOf (jx t)) 0 ≤ 11 := by
          refine getD_bd fun y hy => ?_
          cases hb : s.bf with
          | none => rw [hb] at hy; cases hy
          | some xs => rw [hb] at hy; exact gs.bb xs hb y hy
        unfold tkF
        split <;> omega
      generalize tkF b cp (s.bf.getD []) col t = T at ht
      have h1 := hm (T + s.k)
      have e1 := Int.emod_add_mul_ediv (T + s.k) b
      rw [Int.mul_comm] at e1
      have m2 := mul_bd (x := T) (M := 100) (b := b) (by omega) (by omega) (by omega) b12 (by decide)
      have h4 := hm ((T + s.k) % b + ax t)
      unfold dwO
      split <;> dsimp only <;> omega
    · cases h
theorem st_ns {a b c d e f : D} : startD N_next_standing [a, b, c, d, e, f] = [some a, some b, some c, some d, some e, some f, none, none, none, none, none, none, none, none, none, none, none, none, none, none, none, none, none, none] := rfl
theorem lo_oI {k : Nat} (i : Option Int) : loD k (oI i) = true := by cases i <;> rfl
theorem lo_oT {k : Nat} (i : Option (List Int)) : loD k (oT i) = true := by
  cases i with
  | none => rfl
  | some xs => exact los_map (fun _ => rfl) xs
theorem lo_st {k : Nat} (s : Std) : loD k (encSt s) = true := by
  show (true && (loD k (oI s.wt) && (loD k (oT s.bf) && (true && (true && (loD k (oI s.near) && (los k (s.rs.map encR) && true))))))) = true
  rw [lo_oI, lo_oT, lo_oI, los_map (fun _ => rfl) s.rs]
  rfl
theorem rsF_len {b : Int} {l : List Int} {rs : List (Int × Int × Int)} {f t : Int} {c : Nat} (h : rs.length = l.length) : (rsF b l rs f t c).length = l.length := by
  unfold rsF
  rw [List.length_zipWith]
  omega
theorem rsF_get {b : Int} {l : List Int} {rs : List (Int × Int × Int)} {f t : Int} {c i : Nat} (h1 : i < rs.length) (h2 : i < l.length) : (rsF b l rs f t c)[i]? = some ((rs[i].1 + f * rs[i].2.2 - t * rs[i].2.1) % l[i], rs[i].2.1 * b % l[i], rs[i].2.2 * b ^ c % l[i]) := by
  unfold rsF
  rw [List.getElem?_zipWith, List.getElem?_eq_getElem h1, List.getElem?_eq_getElem h2]
theorem len_next_standing : ∀ ds cs Q, sp_next_standing K ds cs Q → ds.length = 6 := by rintro ds cs Q ⟨_, _, _, _, _, _, _, _, _, rfl, _⟩; rfl
theorem vc_next_standing : ∀ ds cs Q, Lo ds cs → LoC cs → sp_next_standing K ds cs Q → t_next_standing K (Po.fn cs Q) ⟨startD N_next_standing ds, cs⟩ := by
  rintro ds cs Q hd hc ⟨b, r, cp, d, l, s, col, od, s', rfl, hl, hf, gl, g, gs, hn, q⟩
  have hcl := (okC_bd g.c g.b12 g.r4)
  have b2 := g.b2
  have b12 := g.b12
  have g8 := gl.len
  have hss := gs.rs
  have hz := g.cl
  have r4 := g.r4
  unfold nsF at hn
  obtain ⟨o, ho, rfl⟩ := Option.map_eq_some_iff.mp hn
  obtain ⟨o0, o1, o2, o3⟩ := out_bd g gs ho
  obtain ⟨left, wt, bf, k, gap, near, rs⟩ := s
  dsimp only at hss
  rw [st_ns]
  unfold t_next_standing
  rw [show encSt ⟨left, wt, bf, k, gap, near, rs⟩ = .tup [.int left, oI wt, oT bf, .int k, .int gap, oI near, .tup (rs.map encR)] from rfl]
  walk_at "w"
  dsimp only [setAll, List.set]
  have fin : ∀ (left' : Int), left' = left - dn od → (sSeq (sIf (eTest (eBin qIs (eV 13) (eC .non))) (sRet (eC .non)) sNext) (sSeq (sAsgT (eV 13) (.tup [14, 15, 9, 7])) (sSeq (sAsg (eCB qSum (aCons (eV 4) aNil)) 16) (sSeq (sAsg (eCall (sp_near_behind K) (aCons (eV 0) (aCons (eV 10) (aCons (eV 11) (aCons (eV 14) (aCons (eV 16) (aCons (eV 15) aNil))))))) 11) (sSeq (sAsg (eLst true aNil) 17) (sSeq (sFor (iR1 (aCons (eCB qLen (aCons (eV 2) aNil)) aNil)) (.one 18) (sSeq (sAsg (eBin qIx (eV 2) (eV 18)) 19) (sSeq (sAsgT (eBin qIx (eV 12) (eV 18)) (.tup [20, 21, 22])) (sSeq (sAsg (eBin (qMod) (eBin (qSub) (eBin (qAdd false) (eV 20) (eBin (qMul) (eV 14) (eV 22))) (eBin (qMul) (eV 16) (eV 21))) (eV 19)) 20) (sDrop (eBM qApp (eV 17) (aCons (eTup (aCons (eV 20) (aCons (eBin (qMod) (eBin (qMul) (eV 21) (eV 0)) (eV 19)) (aCons (eBin (qMod) (eBin (qMul) (eV 22) (eCall (sp_power K) (aCons (eV 0) (aCons (eV 15) aNil)))) (eV 19)) aNil)))) aNil))))))) (sSeq (sAsg (eCB qTuple (aCons (eLc false (iS (eV 1)) (.one 23) dYes (eBin qIx (eV 4) (eV 23)) [23]) aNil)) 8) (sRet (eTup (aCons (eV 6) (aCons (eV 7) (aCons (eV 8) (aCons (eV 9) (aCons (eBin (qSub) (eBin (qAdd false) (eV 10) (eV 15)) (eC (.int 1))) (aCons (eV 11) (aCons (eCB qTuple (aCons (eV 17) aNil)) aNil)))))))))))))))) (Po.fn cs Q) ⟨[some (.int b), some (.lst (cpD cp)), some d, some (.tup [.int left, oI wt, oT bf, .int k, .int gap, oI near, .tup (rs.map encR)]), some (encC col), some (oD od), some (.int left'), some (oI wt), some (oT bf), some (.int k), some (.int gap), some (oI near), some (.tup (rs.map encR)), some (encOut (some o)), none, none, none, none, none, none, none, none, none, none], cs⟩ := by
    rintro left' rfl
    obtain ⟨f, c, k', wt'⟩ := o
    dsimp only at o0 o1 o2 o3
    obtain ⟨c, rfl⟩ : ∃ n : Nat, c = (n : Int) := ⟨c.toNat, by omega⟩
    rw [show encOut (some (f, ((c : Nat) : Int), k', wt')) = .tup [.int f, .int (c : Nat), .int k', oI wt'] from rfl]
    walk_at "w"
    dsimp only [setAll, List.set]
    refine v_sumL (ns := col) rfl ?_
    walk_at "w"
    refine ⟨b, gap, near, f, col.sum, c, rfl, b2, b12, gs.g0, gs.g1, o0, o1, by omega, by omega, by omega, o3, ?_⟩
    walk_at "w"
    refine v_lenK (lk_app hl) ?_
    rw [List.length_map]
    walk_at "w"
    refine ⟨fun i e => ∃ x18 x19 x20 x21 x22, e = ⟨[some (.int b), some (.lst (cpD cp)), some d, some (.tup [.int left, oI wt, oT bf, .int k, .int gap, oI near, .tup (rs.map encR)]), some (encC col), some (oD od), some (.int (left - dn od)), some (oI wt'), some (oT bf), some (.int k'), some (.int gap), some (oI (nbF b gap near f col.sum c)), some (.tup (rs.map encR)), some (.tup [.int f, .int (c : Nat), .int k', oI wt']), some (.int f), some (.int (c : Nat)), some (.int col.sum), some (.cell cs.length), x18, x19, x20, x21, x22, none], cs ++ [.lst (((rsF b l rs f col.sum c).take i).map encR)]⟩, ⟨_, _, _, _, _, rfl⟩, ?_, ?_⟩
    · rintro i y e2 hi ⟨x18, x19, x20, x21, x22, rfl⟩
      obtain ⟨hi1, rfl⟩ := intsD_get hi
      have hi3 : i < l.length := by omega
      have hi4 : i < rs.length := by omega
      have hge := gl.ge _ (List.getElem_mem hi3)
      have htk := take_snoc (rsF_get (b := b) (f := f) (t := col.sum) (c := c) hi4 hi3)
      refine ⟨trivial, _, rfl, ?_⟩
      rw [Int.zero_add]
      walk_at "w"
      refine v_ixK (lk_app hl) (atI_map (List.getElem?_eq_getElem hi3)) ?_
      generalize l[i] = dv at hge htk
      walk_at "w"
      refine v_ixTX ⟨_, atI_map (f := encR) (List.getElem?_eq_getElem hi4), ?_⟩
      generalize rs[i] = tr at htk
      obtain ⟨ta, tb, tc⟩ := tr
      dsimp only at htk
      rw [show encR (ta, tb, tc) = .tup [.int ta, .int tb, .int tc] from rfl]
      walk_at "w"
      dsimp only [setAll, List.set]
      walk_at "w"
      refine ⟨⟨_, lk_cell app_get⟩, ?_⟩
      walk_at "w"
      refine ⟨b, c, rfl, b2, b12, by omega, ?_⟩
      have hpw := pow_small (k := c) b2 b12 (by omega)
      generalize b ^ c = pw at hpw htk ⊢
      walk_at "w"
      refine ⟨_, _, _, rfl, rfl, app_get, sz_lt (by rw [List.length_map, List.length_take]; omega), ?_⟩
      dsimp only
      rw [app_set, show ((rsF b l rs f col.sum c).take i).map encR ++ [D.tup [.int ((ta + f * tc - col.sum * tb) % dv), .int (tb * b % dv), .int (tc * pw % dv)]] = ((rsF b l rs f col.sum c).take (i + 1)).map encR by
        rw [htk, List.map_append]
        rfl]
      walk_at "w"
      exact ⟨_, _, _, _, _, rfl⟩
    · rintro e2 ⟨x18, x19, x20, x21, x22, rfl⟩
      rw [intsD_len, Int.toNat_natCast, List.take_of_length_le (by rw [rsF_len hss]; exact Nat.le_refl _)]
      refine ⟨trivial, ?_⟩
      walk_at "w"
      refine v_lcY (e1 := ⟨_, _⟩) cp (fun (j : Nat) => .int (0 + (j : Int))) (fun (j : Nat) => .int (col.getD j 0)) rfl (by omega) ?_ ?_
      · intro Q' i x hx q'
        refine ⟨_, rfl, ?_⟩
        have hj := g.cb x (List.mem_of_getElem? hx)
        rw [Int.zero_add]
        walk_at "w"
        refine v_ixTX ⟨_, atI_map (getD_get (by omega)), ?_⟩
        exact q'
      walk_at "w"
      refine v_tupK rfl ?_
      walk_at "w"
      refine v_tupK (lk_cell app_get) ?_
      walk_at "w"
      have eA : D.tup [.int (left - dn od), oI wt', .tup (cp.map fun (j : Nat) => .int (col.getD j 0)), .int k', .int (gap + (c : Nat) - 1), oI (nbF b gap near f col.sum c), .tup ((rsF b l rs f col.sum c).map encR)] = encSt (adv b cp l ⟨left, wt, bf, k, gap, near, rs⟩ col od (f, ((c : Nat) : Int), k', wt')) := by
        unfold adv encSt oT
        dsimp only
        rw [List.map_map, Int.toNat_natCast]
        rfl
      rw [eA]
      exact trim_back (by simp) (lo_st _) q
  generalize (sSeq (sIf (eTest (eBin qIs (eV 13) (eC .non))) (sRet (eC .non)) sNext) (sSeq (sAsgT (eV 13) (.tup [14, 15, 9, 7])) (sSeq (sAsg (eCB qSum (aCons (eV 4) aNil)) 16) (sSeq (sAsg (eCall (sp_near_behind K) (aCons (eV 0) (aCons (eV 10) (aCons (eV 11) (aCons (eV 14) (aCons (eV 16) (aCons (eV 15) aNil))))))) 11) (sSeq (sAsg (eLst true aNil) 17) (sSeq (sFor (iR1 (aCons (eCB qLen (aCons (eV 2) aNil)) aNil)) (.one 18) (sSeq (sAsg (eBin qIx (eV 2) (eV 18)) 19) (sSeq (sAsgT (eBin qIx (eV 12) (eV 18)) (.tup [20, 21, 22])) (sSeq (sAsg (eBin (qMod) (eBin (qSub) (eBin (qAdd false) (eV 20) (eBin (qMul) (eV 14) (eV 22))) (eBin (qMul) (eV 16) (eV 21))) (eV 19)) 20) (sDrop (eBM qApp (eV 17) (aCons (eTup (aCons (eV 20) (aCons (eBin (qMod) (eBin (qMul) (eV 21) (eV 0)) (eV 19)) (aCons (eBin (qMod) (eBin (qMul) (eV 22) (eCall (sp_power K) (aCons (eV 0) (aCons (eV 15) aNil)))) (eV 19)) aNil)))) aNil))))))) (sSeq (sAsg (eCB qTuple (aCons (eLc false (iS (eV 1)) (.one 23) dYes (eBin qIx (eV 4) (eV 23)) [23]) aNil)) 8) (sRet (eTup (aCons (eV 6) (aCons (eV 7) (aCons (eV 8) (aCons (eV 9) (aCons (eBin (qSub) (eBin (qAdd false) (eV 10) (eV 15)) (eC (.int 1))) (aCons (eV 11) (aCons (eCB qTuple (aCons (eV 17) aNil)) aNil)))))))))))))))) = T at fin ⊢
  cases od with
  | none =>
    refine v_isN0 ?_
    walk_at "w"
    refine ⟨b, r, cp, l, ⟨left, wt, bf, k, gap, near, rs⟩, col, rfl, g, gs, ?_⟩
    cases ho
    walk_at "w"
    exact fin _ (by show left = left - 0; omega)
  | some t =>
    refine v_isN1 ⟨rfl, rfl, ?_⟩
    walk_at "w"
    refine ⟨b, r, cp, l, ⟨left, wt, bf, k, gap, near, rs⟩, col, t, rfl, g, gs, ?_⟩
    rw [show dwF b cp ⟨left, wt, bf, k, gap, near, rs⟩ col t = some o from ho]
    walk_at "w"
    exact fin _ rfl
theorem len_Kind_contains : ∀ ds cs Q, sp_Kind_contains K ds cs Q → ds.length = 2 := by rintro ds cs Q ⟨_, _, _, _, _, rfl, _⟩; rfl
theorem vc_Kind_contains : ∀ ds cs Q, Lo ds cs → LoC cs → sp_Kind_contains K ds cs Q → t_Kind_contains K (Po.fn cs Q) ⟨startD N_Kind_contains ds, cs⟩ := by
  rintro ds cs Q hd hc ⟨b, r, m, es, t, rfl, ht, q⟩
  have hi : insD cs (kiD K b r es m) = some (He.ga K "Kind", kiN, [.int b, .int r, .lst (es.map encD), .int m]) := rfl
  unfold t_Kind_contains
  walk_at "v"
  refine ⟨t, b, r, rfl, ht, ?_⟩
  walk_at "v"
  refine v_inE encDE (a := t) (xs := es) rfl rfl ?_
  walk_at "v"
  exact .inl q
end
section
variable {K : PySem.W.Frag}
theorem s3a {cs : List Cel} {n : Nat} {c0 c A B : Cel} (h : cs[n]? = some c0) : ((cs ++ [A]) ++ [B]).set n c = (cs.set n c ++ [A]) ++ [B] := by
  have := (List.getElem?_eq_some_iff.mp h).1
  rw [List.set_append_left _ _ (by simp; omega), List.set_append_left _ _ this]
theorem s3b {cs : List Cel} {c A B : Cel} : ((cs ++ [A]) ++ [B]).set cs.length c = (cs ++ [c]) ++ [B] := by
  rw [List.set_append_left _ _ (by simp)]
  simp
theorem s3c {cs : List Cel} {c A B : Cel} : ((cs ++ [A]) ++ [B]).set (cs.length + 1) c = (cs ++ [A]) ++ [c] := by
  rw [List.set_append_right _ _ (by simp)]
  simp
theorem g3a {cs : List Cel} {n : Nat} {c0 A B : Cel} (h : cs[n]? = some c0) : ((cs ++ [A]) ++ [B])[n]? = some c0 := app_get_lt (app_get_lt h)
theorem g3b {cs : List Cel} {A B : Cel} : ((cs ++ [A]) ++ [B])[cs.length]? = some A := app_get_lt app_get
theorem g3c {cs : List Cel} {A B : Cel} : ((cs ++ [A]) ++ [B])[cs.length + 1]? = some B := by simp
theorem eqv_nil (xs : List D) : PyData.eqv (toP (.lst xs)) (toP (.lst [])) = xs.isEmpty := by cases xs <;> rfl
theorem shp_str {w : Str} (h : (PyData.str w).canLay0 = true) : shp (.str w) = true := (Sh.str h).shp
theorem v_eqS2 {a c : Str} {e : En} {P : D → En → Prop} (ha : (PyData.str a).canLay0 = true) (hc : (PyData.str c).canLay0 = true) (p : P (.bl (a == c)) e) : qEq (.str a) (.str c) e P := ⟨shp_str ha, shp_str hc, p⟩
theorem lkP_cell {cs : List Cel} {n : Nat} {xs : List D} (h : cs[n]? = some (.lst xs)) : lkP cs (.cell n) = some xs := by
  show (match cs[n]? with
    | some (.lst xs) => some xs
    | _ => none) = some xs
  rw [h]
theorem st_lpool {a b : D} : startD N_law_pool [a, b] = [some a, some b, none, none, none] := rfl
theorem len_law_pool : ∀ ds cs Q, sp_law_pool K ds cs Q → ds.length = 2 := by rintro ds cs Q ⟨_, _, rfl, _⟩; rfl
theorem vc_law_pool : ∀ ds cs Q, Lo ds cs → LoC cs → sp_law_pool K ds cs Q → t_law_pool K (Po.fn cs Q) ⟨startD N_law_pool ds, cs⟩ := by
  rintro ds cs Q hd hc ⟨c, s, rfl, hs, q⟩
  rw [st_lpool]
  unfold t_law_pool
  walk_at "w"
  refine v_itd (fun h => ?_) (fun h => ?_)
  · walk_at "w"
    exact .inl (q _)
  · walk_at "w"
    have m0 : 0 ≤ c % 1000003 := Int.emod_nonneg _ (by decide)
    have m1 : c % 1000003 < 1000003 := Int.emod_lt_of_pos _ (by decide)
    refine ⟨fun i e => ∃ (x y : Int) (z : Option D), 0 ≤ x ∧ x < 2147483700 ∧ e = ⟨[some (.int c), some (.int (s : Nat)), some (.int x), some (.int y), z], cs⟩, ⟨_, _, none, by omega, by omega, rfl⟩, ?_, ?_⟩
    · rintro i d e2 hi ⟨x, y, z, h1, h2, rfl⟩
      obtain ⟨hi1, rfl⟩ := intsD_get hi
      refine ⟨trivial, _, rfl, ?_⟩
      walk_at "w"
      exact ⟨_, _, _, Int.emod_nonneg _ (by decide), Int.lt_trans (Int.emod_lt_of_pos _ (by decide)) (by decide), rfl⟩
    · rintro e2 ⟨x, y, z, _, _, rfl⟩
      refine ⟨trivial, ?_⟩
      walk_at "w"
      exact .inl (q _)
theorem st_ldraw {a b : D} : startD N_law_draw [a, b] = [some a, some b, none] := rfl
theorem len_law_draw : ∀ ds cs Q, sp_law_draw K ds cs Q → ds.length = 2 := by rintro ds cs Q ⟨_, _, _, rfl, _⟩; rfl
theorem vc_law_draw : ∀ ds cs Q, Lo ds cs → LoC cs → sp_law_draw K ds cs Q → t_law_draw K (Po.fn cs Q) ⟨startD N_law_draw ds, cs⟩ := by
  rintro ds cs Q hd hc ⟨n, m, a, rfl, hn, h0, hm, q⟩
  rw [st_ldraw]
  unfold t_law_draw
  walk_at "v"
  refine v_fdivX ⟨fdiv_ok h0 (by omega), ?_⟩
  walk_at "v"
  exact .inl (q _ _ (Int.emod_nonneg _ (by omega)) (Int.emod_lt_of_pos _ h0))
theorem st_lall {a b : D} : startD N_law_all_deeds [a, b] = [some a, some b, none, none, none] := rfl
theorem len_law_all_deeds : ∀ ds cs Q, sp_law_all_deeds K ds cs Q → ds.length = 2 := by rintro ds cs Q ⟨_, _, rfl, _⟩; rfl
theorem vc_law_all_deeds : ∀ ds cs Q, Lo ds cs → LoC cs → sp_law_all_deeds K ds cs Q → t_law_all_deeds K (Po.fn cs Q) ⟨startD N_law_all_deeds ds, cs⟩ := by
  rintro ds cs Q hd hc ⟨b, r, rfl, b2, b12, r1, r4, q⟩
  have lo := offs_len b
  have lc := copies_len r
  have lr := readsA_len b r.toNat
  have l44 := mul_44 b12 (show r.toNat ≤ 4 by omega)
  rw [← lr] at l44
  rw [st_lall]
  unfold t_law_all_deeds
  walk_at "v"
  refine v_lcY (List.range (b - 1).toNat) (fun (i : Nat) => .int (1 + (i : Int))) (fun (i : Nat) => encD (.off, [1 + (i : Int)])) rfl (by simp; omega) (fun Q' i x hx q' => ⟨_, rfl, by walk_at "v"; exact q'⟩) ?_
  rw [offs_map]
  walk_at "v"
  refine v_addL ⟨by simp; omega, ?_⟩
  rw [show [D.tup [D.str "forget"], D.tup [D.str "again"]] = [((.forget, []) : Dd), (.again, [])].map encD from rfl, ← List.map_append]
  walk_at "v"
  refine ⟨fun i e => ∃ x, e = ⟨[some (.int b), some (.int r), some (.cell cs.length), x, none], cs ++ [.lst (([((.forget, []) : Dd), (.again, [])] ++ offs b ++ readsA b i).map encD)]⟩, ⟨none, by simp [readsA]⟩, ?_, ?_⟩
  · rintro i d e2 hi ⟨x, rfl⟩
    obtain ⟨hi1, rfl⟩ := intsD_get hi
    refine ⟨trivial, _, rfl, ?_⟩
    have h1 := readsA_len b i
    have h2 := mul_44 b12 (show i ≤ 4 by omega)
    walk_at "v"
    refine ⟨⟨_, lk_cell app_get⟩, ?_⟩
    walk_at "v"
    refine v_lcY (List.range (b - 1).toNat) (fun (i : Nat) => .int (1 + (i : Int))) (fun (k : Nat) => encD (.read, [0 + (i : Int), 1 + (k : Int)])) rfl (by simp; omega) (fun Q' i x hx q' => ⟨_, rfl, by walk_at "v"; exact q'⟩) ?_
    rw [reads_map]
    walk_at "v"
    refine ⟨_, _, _, _, rfl, rfl, app_get, rfl, by simp [reads_len]; omega, ?_⟩
    rw [app_set, ← List.map_append]
    walk_at "v"
    refine ⟨some (.int (0 + (i : Int))), ?_⟩
    rw [readsA_succ, ← List.append_assoc]
    rfl
  · rintro e2 ⟨x, rfl⟩
    rw [intsD_len]
    refine ⟨trivial, ?_⟩
    walk_at "v"
    refine v_lcY (List.range r.toNat) (fun (i : Nat) => .int (0 + (i : Int))) (fun (i : Nat) => encD (.copy, [0 + (i : Int)])) rfl (by simp; omega) (fun Q' i x hx q' => ⟨_, rfl, by walk_at "v"; exact q'⟩) ?_
    rw [copies_map]
    walk_at "v"
    refine v_addK (lkP_cell app_get) rfl (by simp; omega) ?_
    rw [← List.map_append]
    walk_at "v"
    refine v_addL ⟨by simp; omega, ?_⟩
    rw [show [D.tup [D.str "swap"], D.tup [D.str "out"], D.tup [D.str "twice"]] = [((.swap, []) : Dd), (.out, []), (.twice, [])].map encD from rfl, ← List.map_append]
    walk_at "v"
    have et : ((cs ++ [Cel.lst (([((.forget, []) : Dd), (.again, [])] ++ offs b ++ readsA b r.toNat).map encD)]) ++ [Cel.lst ((allD b r).map encD)]).take cs.length = cs := by simp
    refine .inr (.inr ⟨_, (allD b r).map encD, rfl, by simp, app_get, los_D _, fun c h => .inl ?_, ?_⟩)
    · have h : c ∈ ((cs ++ [Cel.lst (([((.forget, []) : Dd), (.again, [])] ++ offs b ++ readsA b r.toNat).map encD)]) ++ [Cel.lst ((allD b r).map encD)]).take cs.length := h
      rw [et] at h
      exact h
    · show Q (.lst ((allD b r).map encD)) (((cs ++ [Cel.lst (([((.forget, []) : Dd), (.again, [])] ++ offs b ++ readsA b r.toNat).map encD)]) ++ [Cel.lst ((allD b r).map encD)]).take cs.length) ∨ Q (.cell cs.length) (((cs ++ [Cel.lst (([((.forget, []) : Dd), (.again, [])] ++ offs b ++ readsA b r.toNat).map encD)]) ++ [Cel.lst ((allD b r).map encD)]).take cs.length ++ [.lst ((allD b r).map encD)])
      rw [et]
      exact q
theorem sl_cons : ∀ (p : List Pl) (n : Nat) (y : Nat × Dd) (rest : List (Nat × Dd)), slF n p = y :: rest → ∃ (cols : List (List Int)) (x : List Int) (q : List Pl), p = nod cols ++ (x, some y.2) :: q ∧ y.1 = n + cols.length ∧ rest = slF (y.1 + 1) q
  | [], _, _, _, h => nomatch h
  | (c, some t) :: p, n, y, rest, h => by
    cases h
    exact ⟨[], c, p, rfl, rfl, rfl⟩
  | (c, none) :: p, n, y, rest, h => by
    obtain ⟨cols, x, q, rfl, e1, e2⟩ := sl_cons p (n + 1) y rest h
    exact ⟨c :: cols, x, q, rfl, by rw [e1, List.length_cons]; omega, e2⟩
theorem sl_nil : ∀ (p : List Pl) (n : Nat), slF n p = [] → p = nod (p.map (·.1))
  | [], _, _ => rfl
  | (c, some t) :: p, n, h => nomatch h
  | (c, none) :: p, n, h => by
    have := sl_nil p (n + 1) h
    show (c, none) :: p = (c, none) :: nod (p.map (·.1))
    rw [← this]
theorem sl_len : ∀ (p : List Pl) (n : Nat), (slF n p).length ≤ p.length
  | [], _ => Nat.le_refl _
  | (c, some t) :: p, n => by
    have := sl_len p (n + 1)
    show (slF (n + 1) p).length + 1 ≤ p.length + 1
    omega
  | (c, none) :: p, n => by
    have := sl_len p (n + 1)
    show (slF (n + 1) p).length ≤ p.length + 1
    omega
theorem drop_cons {α : Type} {xs : List α} {i : Nat} {x : α} (h : xs[i]? = some x) : xs.drop i = x :: xs.drop (i + 1) := by
  obtain ⟨h1, h2⟩ := List.getElem?_eq_some_iff.mp h
  rw [List.drop_eq_getElem_cons h1, h2]
theorem perm_at {α : Type} : ∀ {l : List α} {k : Nat} {y : α}, l[k]? = some y → (y :: l.eraseIdx k).Perm l
  | [], _, _, h => by simp at h
  | x :: xs, 0, y, h => by
    simp at h
    subst h
    exact .refl _
  | x :: xs, k + 1, y, h => by
    simp at h
    exact (List.Perm.swap x y _).trans ((perm_at h).cons x)
theorem map_erase {α β : Type} (f : α → β) : ∀ (l : List α) (k : Nat), (l.map f).eraseIdx k = (l.eraseIdx k).map f
  | [], _ => rfl
  | x :: xs, 0 => rfl
  | x :: xs, k + 1 => congrArg (f x :: ·) (map_erase f xs k)
theorem perm_move {α : Type} {left ys es : List α} {k : Nat} {y : α} (h : (left ++ ys).Perm es) (hk : left[k]? = some y) : (left.eraseIdx k ++ (ys ++ [y])).Perm es := by
  refine List.Perm.trans ?_ h
  have h1 := perm_at hk
  refine List.Perm.trans ?_ (h1.append_right ys)
  rw [← List.append_assoc]
  refine List.Perm.trans List.perm_append_comm ?_
  simp
theorem kF_congr {b r : Int} {p q : Dd → Bool} (h : ∀ t ∈ allD b r, p t = q t) : kF b r p = kF b r q := List.filter_congr h
theorem kF_mem {b r : Int} {p : Dd → Bool} {t : Dd} : t ∈ kF b r p ↔ t ∈ allD b r ∧ p t = true := List.mem_filter
theorem keep_kF (b r : Int) (s : List Dd) : keep b r s = kF b r fun t => isIn t s := rfl
theorem kF_nd {b r : Int} (n : Gn b r) (p : Dd → Bool) : (kF b r p).Nodup := (allD_nd n.b2 n.b12 n.r1 n.r4).filter _
theorem isIn_kF {b r : Int} {p : Dd → Bool} {t : Dd} (h : t ∈ allD b r) : isIn t (kF b r p) = p t := by
  rw [Bool.eq_iff_iff, isIn_iff, kF_mem]
  exact ⟨fun z => z.2, fun z => ⟨h, z⟩⟩
theorem kF_len {b r m : Int} {pl : List Dd} {p : Dd → Bool} (P : Pl' b r pl) (R : Pr pl p m) : 1 ≤ (kF b r p).length ∧ (kF b r p).length ≤ 8 := by
  have e : kF b r p = (allD b r).filter fun t => isIn t (pl.filter p) := by
    apply List.filter_congr
    intro t ht
    rw [Bool.eq_iff_iff, isIn_iff, List.mem_filter]
    exact ⟨fun h => ⟨R.sub t h, h⟩, fun h => h.2⟩
  have l := filter_len (allD_nd P.n.b2 P.n.b12 P.n.r1 P.n.r4) (P.nd.filter p) fun t ht => P.sub t (List.mem_filter.mp ht).1
  obtain ⟨x, hx, px⟩ := R.hd
  have hm : x ∈ pl.filter p := List.mem_filter.mpr ⟨List.mem_of_mem_head? hx, px⟩
  have := List.length_pos_of_mem hm
  have := List.length_filter_le p pl
  have := P.l8
  rw [e, l]
  omega
theorem Pr.or {pl : List Dd} {p q : Dd → Bool} {m m' : Int} (R : Pr pl p m) (S : Pr pl q m') : Pr pl (fun t => p t || q t) (mx m m') := by
  obtain ⟨x, hx, px⟩ := R.hd
  refine ⟨⟨x, hx, by simp [px]⟩, fun t h => ?_, ?_, ?_⟩
  · rcases Bool.or_eq_true_iff.mp h with h | h
    · exact R.sub t h
    · exact S.sub t h
  · have := R.m1; have := S.m1; unfold mx; split <;> assumption
  · have := R.m3; have := S.m3; unfold mx; split <;> assumption
theorem Pr.and {pl : List Dd} {p q : Dd → Bool} {m m' : Int} (R : Pr pl p m) (S : Pr pl q m') : Pr pl (fun t => p t && q t) (mn m m') := by
  obtain ⟨x, hx, px⟩ := R.hd
  obtain ⟨y, hy, py⟩ := S.hd
  rw [hx] at hy
  cases hy
  refine ⟨⟨x, hx, by simp [px, py]⟩, fun t h => R.sub t (Bool.and_eq_true_iff.mp h).1, ?_, ?_⟩
  · have := R.m1; have := S.m1; unfold mn; split <;> assumption
  · have := R.m3; have := S.m3; unfold mn; split <;> assumption
theorem gkOf {b r m : Int} {pl s : List Dd} {p : Dd → Bool} (P : Pl' b r pl) (R : Pr pl p m) (nd : s.Nodup) (h : ∀ t, t ∈ s ↔ t ∈ allD b r ∧ p t = true) : Gk b r s m ∧ keep b r s = kF b r p := by
  have e : keep b r s = kF b r p := by
    rw [keep_kF]
    apply kF_congr
    intro t ht
    rw [Bool.eq_iff_iff, isIn_iff, h]
    exact ⟨fun z => z.2, fun z => ⟨ht, z⟩⟩
  have l := filter_len (allD_nd P.n.b2 P.n.b12 P.n.r1 P.n.r4) nd fun t ht => ((h t).mp ht).1
  have l2 := kF_len P R
  have e2 : ((allD b r).filter fun t => isIn t s).length = (kF b r p).length := congrArg List.length e
  rw [e2] at l
  exact ⟨⟨P.n, fun t ht => ((h t).mp ht).1, nd, by omega, by omega, R.m1, R.m3⟩, e⟩
theorem len_Kind_alike : ∀ ds cs Q, sp_Kind_alike K ds cs Q → ds.length = 2 := by rintro ds cs Q ⟨_, _, _, _, _, _, rfl, _⟩; rfl
theorem vc_Kind_alike : ∀ ds cs Q, Lo ds cs → LoC cs → sp_Kind_alike K ds cs Q → t_Kind_alike K (Po.fn cs Q) ⟨startD N_Kind_alike ds, cs⟩ := by
  rintro ds cs Q hd hc ⟨b, r, m, m', es, es', rfl, q⟩
  have hi : insD cs (kiD K b r es m) = some (He.ga K "Kind", kiN, [.int b, .int r, .lst (es.map encD), .int m]) := rfl
  have hi2 : insD cs (kiD K b r es' m') = some (He.ga K "Kind", kiN, [.int b, .int r, .lst (es'.map encD), .int m']) := rfl
  unfold t_Kind_alike
  walk_at "v"
  rw [decide_eq_true rfl]
  walk_at "v"
  rw [decide_eq_true rfl]
  exact .inl q
theorem st_or {a b : D} : startD N_Kind_or [a, b] = [some a, some b, none, none, none] := rfl
theorem len_Kind_or : ∀ ds cs Q, sp_Kind_or K ds cs Q → ds.length = 2 := by rintro ds cs Q ⟨_, _, _, _, _, _, _, rfl, _⟩; rfl
theorem v_ninE {α : Type} [DecidableEq α] {enc : α → D} {n : Nat} (h : EqE enc n) {a : α} {xs : List α} {e : En} {P : D → En → Prop} {x y : D} (hx : drf e.cs x = enc a) (hy : drf e.cs y = .lst (xs.map enc)) (p : P (.bl (!isIn a xs)) e) (hn : n + 1 ≤ 64 := by decide) : qIn true x y e P := by
  refine .inr ⟨_, hy, ?_, h.lst.shp hn xs, ?_⟩
  · rw [hx]
    exact h.shp (by omega) a
  · rw [hx, any_mem h]
    exact p
theorem vc_Kind_or : ∀ ds cs Q, Lo ds cs → LoC cs → sp_Kind_or K ds cs Q → t_Kind_or K (Po.fn cs Q) ⟨startD N_Kind_or ds, cs⟩ := by
  rintro ds cs Q hd hc ⟨b, r, m, m', pl, p, q, rfl, PL, R, S, k⟩
  have hi : insD cs (kd K b r p m) = some (He.ga K "Kind", kiN, [.int b, .int r, .lst ((kF b r p).map encD), .int m]) := rfl
  have hi2 : insD cs (kd K b r q m') = some (He.ga K "Kind", kiN, [.int b, .int r, .lst ((kF b r q).map encD), .int m']) := rfl
  obtain ⟨p1, p8⟩ := kF_len PL R
  obtain ⟨q1, q8⟩ := kF_len PL S
  have hmem : ∀ t, t ∈ kF b r p ++ (kF b r q).filter (fun t => !isIn t (kF b r p)) ↔ t ∈ allD b r ∧ (p t || q t) = true := by
    intro t
    rw [List.mem_append, List.mem_filter, kF_mem, kF_mem, Bool.not_eq_true', Bool.or_eq_true]
    constructor
    · rintro (⟨h1, h2⟩ | ⟨⟨h1, h2⟩, _⟩)
      · exact ⟨h1, .inl h2⟩
      · exact ⟨h1, .inr h2⟩
    · rintro ⟨h1, h2⟩
      cases hp : p t
      · rw [hp] at h2
        rcases h2 with h2 | h2
        · cases h2
        · exact .inr ⟨⟨h1, h2⟩, by rw [isIn_kF h1, hp]⟩
      · exact .inl ⟨h1, rfl⟩
  have hnd : (kF b r p ++ (kF b r q).filter (fun t => !isIn t (kF b r p))).Nodup := by
    rw [List.nodup_append]
    refine ⟨kF_nd PL.n p, (kF_nd PL.n q).filter _, ?_⟩
    rintro a ha c hc2 rfl
    have := (List.mem_filter.mp hc2).2
    rw [isIn_iff.mpr ha] at this
    cases this
  obtain ⟨G, ek⟩ := gkOf PL (R.or S) hnd hmem
  have G8 := G.l8
  have fin : ∀ z, z = mx m m' → (sRet (eMake (He.ga K "Kind") (sp_Kind_init K) (aCons (eFld (He.ga K "Kind") "held_base" (eV 0)) (aCons (eFld (He.ga K "Kind") "held_rows" (eV 0)) (aCons (eV 2) (aCons (eV 3) aNil)))))) (Po.fn cs Q)
      ⟨[some (kd K b r p m), some (kd K b r q m'), some (.lst ((kF b r p ++ (kF b r q).filter (fun t => !isIn t (kF b r p))).map encD)), some (.int z), none], cs⟩ := by
    rintro _ rfl
    walk_at "v"
    refine ⟨_, b, r, _, _, _, rfl, rfl, (fun _ z => nomatch z), app_get, G, ?_⟩
    rw [app_set, ek]
    refine ⟨rfl, .inr ⟨_, _, _, _, rfl, rfl, los_ki, fun c hc => .inl hc, ?_⟩⟩
    exact .inl k
  rw [st_or]
  unfold t_Kind_or
  generalize (sRet (eMake (He.ga K "Kind") (sp_Kind_init K) (aCons (eFld (He.ga K "Kind") "held_base" (eV 0)) (aCons (eFld (He.ga K "Kind") "held_rows" (eV 0)) (aCons (eV 2) (aCons (eV 3) aNil)))))) = T at fin ⊢
  walk_at "v"
  refine ⟨b, r, m, m', _, _, rfl, ?_⟩
  walk_at "v"
  refine v_lcF (kF b r q) encD encD (fun t => !isIn t (kF b r p)) rfl (by omega) (fun Q' Q2 i x hx k1 k2 => ⟨_, rfl, ?_⟩) ?_
  · walk_at "v"
    refine v_ninE encDE (a := x) (xs := kF b r p) rfl rfl ?_
    walk_at "v"
    cases h : isIn x (kF b r p)
    · refine iteT ?_
      walk_at "v"
      exact k2 (by rw [h]; rfl)
    · refine iteF ?_
      exact k1 (by rw [h]; rfl)
  walk_at "w"
  have lf := List.length_filter_le (fun t => !isIn t (kF b r p)) (kF b r q)
  refine v_addL ⟨by rw [List.length_map, List.length_map]; omega, ?_⟩
  rw [← List.map_append]
  walk_at "w"
  refine v_lenK rfl ?_
  rw [List.length_map]
  walk_at "w"
  rw [decide_eq_false (by omega)]
  walk_at "w"
  refine v_itd (fun h => ?_) (fun h => ?_)
  · walk_at "w"
    exact fin _ (by unfold mx; rw [if_pos h])
  · walk_at "w"
    exact fin _ (by unfold mx; rw [if_neg h])
theorem st_and {a b : D} : startD N_Kind_and [a, b] = [some a, some b, none, none, none] := rfl
theorem len_Kind_and : ∀ ds cs Q, sp_Kind_and K ds cs Q → ds.length = 2 := by rintro ds cs Q ⟨_, _, _, _, _, _, _, rfl, _⟩; rfl
theorem vc_Kind_and : ∀ ds cs Q, Lo ds cs → LoC cs → sp_Kind_and K ds cs Q → t_Kind_and K (Po.fn cs Q) ⟨startD N_Kind_and ds, cs⟩ := by
  rintro ds cs Q hd hc ⟨b, r, m, m', pl, p, q, rfl, PL, R, S, k⟩
  have hi : insD cs (kd K b r p m) = some (He.ga K "Kind", kiN, [.int b, .int r, .lst ((kF b r p).map encD), .int m]) := rfl
  have hi2 : insD cs (kd K b r q m') = some (He.ga K "Kind", kiN, [.int b, .int r, .lst ((kF b r q).map encD), .int m']) := rfl
  obtain ⟨p1, p8⟩ := kF_len PL R
  have hmem : ∀ t, t ∈ (kF b r p).filter (fun t => isIn t (kF b r q)) ↔ t ∈ allD b r ∧ (p t && q t) = true := by
    intro t
    rw [List.mem_filter, kF_mem, isIn_iff, kF_mem, Bool.and_eq_true]
    exact ⟨fun ⟨⟨h1, h2⟩, h3⟩ => ⟨h1, h2, h3.2⟩, fun ⟨h1, h2, h3⟩ => ⟨⟨h1, h2⟩, h1, h3⟩⟩
  have hnd : ((kF b r p).filter (fun t => isIn t (kF b r q))).Nodup := (kF_nd PL.n p).filter _
  obtain ⟨G, ek⟩ := gkOf PL (R.and S) hnd hmem
  have G1 := G.l1
  have fin : ∀ z, z = mn m m' → (sRet (eMake (He.ga K "Kind") (sp_Kind_init K) (aCons (eFld (He.ga K "Kind") "held_base" (eV 0)) (aCons (eFld (He.ga K "Kind") "held_rows" (eV 0)) (aCons (eV 2) (aCons (eV 3) aNil)))))) (Po.fn cs Q)
      ⟨[some (kd K b r p m), some (kd K b r q m'), some (.lst (((kF b r p).filter (fun t => isIn t (kF b r q))).map encD)), some (.int z), none], cs⟩ := by
    rintro _ rfl
    walk_at "v"
    refine ⟨_, b, r, _, _, _, rfl, rfl, (fun _ z => nomatch z), app_get, G, ?_⟩
    rw [app_set, ek]
    refine ⟨rfl, .inr ⟨_, _, _, _, rfl, rfl, los_ki, fun c hc => .inl hc, ?_⟩⟩
    exact .inl k
  rw [st_and]
  unfold t_Kind_and
  generalize (sRet (eMake (He.ga K "Kind") (sp_Kind_init K) (aCons (eFld (He.ga K "Kind") "held_base" (eV 0)) (aCons (eFld (He.ga K "Kind") "held_rows" (eV 0)) (aCons (eV 2) (aCons (eV 3) aNil)))))) = T at fin ⊢
  walk_at "v"
  refine ⟨b, r, m, m', _, _, rfl, ?_⟩
  walk_at "v"
  refine v_lcF (kF b r p) encD encD (fun t => isIn t (kF b r q)) rfl (by omega) (fun Q' Q2 i x hx k1 k2 => ⟨_, rfl, ?_⟩) ?_
  · walk_at "v"
    refine v_inE encDE (a := x) (xs := kF b r q) rfl rfl ?_
    walk_at "v"
    cases h : isIn x (kF b r q)
    · refine iteF ?_
      exact k1 h
    · refine iteT ?_
      walk_at "v"
      exact k2 h
  walk_at "w"
  refine v_lenK rfl ?_
  rw [List.length_map]
  walk_at "w"
  rw [decide_eq_false (by omega)]
  walk_at "w"
  refine v_itd (fun h => ?_) (fun h => ?_)
  · walk_at "w"
    exact fin _ (by unfold mn; rw [if_pos h])
  · walk_at "w"
    exact fin _ (by unfold mn; rw [if_neg h])
theorem Gk.part {b r m : Int} {s : List Dd} (g : Gk b r s m) {k : Nat} (hk : 1 ≤ k) : Gk b r (s.take k) 1 := by
  have h1 := g.l1
  have h8 := g.l8
  exact ⟨g.n, fun t ht => g.sub t (List.mem_of_mem_take ht), g.nd.take, by rw [List.length_take]; omega, by rw [List.length_take]; omega, by decide, by decide⟩
theorem Gk.most {b r m : Int} {s : List Dd} (g : Gk b r s m) {m' : Int} (h1 : 1 ≤ m') (h3 : m' ≤ 3) : Gk b r s m' := ⟨g.n, g.sub, g.nd, g.l1, g.l8, h1, h3⟩
theorem st_setitem {a b c : D} : startD N_Sheet_setitem [a, b, c] = [some a, some b, some c] := rfl
theorem len_Sheet_setitem : ∀ ds cs Q, sp_Sheet_setitem K ds cs Q → ds.length = 3 := by rintro ds cs Q ⟨_, _, _, _, _, _, _, rfl, _⟩; rfl
theorem vc_Sheet_setitem : ∀ ds cs Q, Lo ds cs → LoC cs → sp_Sheet_setitem K ds cs Q → t_Sheet_setitem K (Po.fn cs Q) ⟨startD N_Sheet_setitem ds, cs⟩ := by
  rintro ds cs Q hd hc ⟨n, m, b, r, cols, i, c, rfl, hn, hm, hi, ho, hz, q⟩
  rw [st_setitem]
  unfold t_Sheet_setitem
  walk_at "v"
  refine ⟨c, b, r, rfl, hz, ?_⟩
  walk_at "v"
  rw [ho]
  walk_at "v"
  refine ⟨m, _, (i : Nat), i, rfl, hm, rfl, ?_, ?_⟩
  · exact Evl.ixN_nat (by simpa using hi)
  walk_at "v"
  rw [← List.map_set]
  exact .inl q
theorem isSh_cell {cs : List Cel} {n k : Nat} {b r : Int} {cols : List (List Int)} (h1 : cs[n]? = some (.ins (He.ga K "Sheet") shN [.int b, .int r, .cell k, .int cols.length])) (h2 : cs[k]? = some (.lst (cols.map encC))) : isSh K cs (.cell n) b r cols :=
  ⟨_, ins_cell h1, lk_cell h2, fun _ z => nomatch z⟩
theorem isSh_d {cs : List Cel} {b r : Int} {cols : List (List Int)} : isSh K cs (shD K b r cols) b r cols := ⟨.lst (cols.map encC), rfl, rfl, fun _ z => nomatch z⟩
theorem len_Sheet_len : ∀ ds cs Q, sp_Sheet_len K ds cs Q → ds.length = 1 := by rintro ds cs Q ⟨_, _, _, _, rfl, _⟩; rfl
theorem vc_Sheet_len : ∀ ds cs Q, Lo ds cs → LoC cs → sp_Sheet_len K ds cs Q → t_Sheet_len K (Po.fn cs Q) ⟨startD N_Sheet_len ds, cs⟩ := by
  rintro ds cs Q hd hc ⟨d, b, r, cols, rfl, ⟨hc1, hi, hl, _⟩, q⟩
  unfold t_Sheet_len
  walk_at "v"
  refine v_lenK hl ?_
  walk_at "v"
  rw [List.length_map]
  exact .inl q
end
section
variable {K : PySem.W.Frag}
def Wos : List Wo := [.forget, .again, .off, .read, .copy, .swap, .out, .twice]
theorem wo_beq (a c : Wo) : (a.s == c.s) = decide (a = c) := by cases a <;> cases c <;> first | rfl | decide +kernel
theorem fst_at {xs : List Dd} {y : Dd} {j : Nat} (h : xs[j]? = some y) (hn : xs.Nodup) : FstAt (xs.map encD) (encD y) j := by
  refine ⟨⟨encD y, by rw [List.getElem?_map, h] <;> rfl, by rw [eqv_D]; exact decide_eq_true rfl⟩, fun m z hm hz => ?_⟩
  rw [List.getElem?_map] at hz
  obtain ⟨t, ht, rfl⟩ := Option.map_eq_some_iff.mp hz
  rw [eqv_D]
  refine decide_eq_false fun e => ?_
  subst e
  obtain ⟨h1, e1⟩ := List.getElem?_eq_some_iff.mp h
  obtain ⟨h2, e2⟩ := List.getElem?_eq_some_iff.mp ht
  have := (List.getElem_inj hn).mp (e1.trans e2.symm)
  omega
theorem sh_Ds (ts : List Dd) : Sh 2 (.lst (ts.map encD)) := .lst (.all fun d hd => by
  obtain ⟨t, _, rfl⟩ := List.mem_map.mp hd
  exact sh_D t)
theorem v_eqE0 {x : D} {xs : List D} {n : Nat} {e : En} {P : D → En → Prop} (hx : drf e.cs x = .lst xs) (hs : Sh n (.lst xs)) (p : P (.bl xs.isEmpty) e) (hn : n ≤ 64 := by decide) : qEq x (.lst []) e P :=
  v_eqP ⟨by cases x <;> rfl, by rw [hx]; exact hs.shp hn, rfl, by rw [hx]; exact eqv_nil xs, p⟩
theorem st_lsome {a b c d : D} : startD N_law_some_deeds [a, b, c, d] = [some a, some b, some c, some d, none, none, none, none, none, none, none] := rfl
theorem len_law_some_deeds : ∀ ds cs Q, sp_law_some_deeds K ds cs Q → ds.length = 4 := by rintro ds cs Q ⟨_, _, _, _, _, rfl, _⟩; rfl
theorem vc_law_some_deeds : ∀ ds cs Q, Lo ds cs → LoC cs → sp_law_some_deeds K ds cs Q → t_law_some_deeds K (Po.fn cs Q) ⟨startD N_law_some_deeds ds, cs⟩ := by
  rintro ds cs Q hd hc ⟨n, a, b, r, m, rfl, hn, b2, b12, r1, r4, m0, m8, q⟩
  have hnd := allD_nd b2 b12 r1 r4
  have hlen8 := allD_len b2 b12 r1 r4
  rw [st_lsome]
  unfold t_law_some_deeds
  walk_at "w"
  refine ⟨b, r, rfl, b2, b12, r1, r4, .inr ?_⟩
  walk_at "w"
  have el : (cs ++ [Cel.lst ((allD b r).map encD)]).length = cs.length + 1 := by simp
  rw [el]
  rw [show [D.str "forget", D.str "again", D.str "off", D.str "read", D.str "copy", D.str "swap", D.str "out", D.str "twice"] = Wos.map (fun a => D.str a.s) from rfl]
  refine ⟨fun i e => ∃ (left ys : List Dd) (cs0 : List Cel) (a' : Int) (x7 x8 x9 x10 : Option D), (left ++ ys).Perm (allD b r) ∧ ys.length = i ∧ cs0.length = cs.length ∧ cs0 = cs.set n (plC a') ∧
    e = ⟨[some (.cell n), some (.int b), some (.int r), some (.int m), some (.cell cs0.length), some (.lst (Wos.map fun a => D.str a.s)), some (.cell (cs0.length + 1)), x7, x8, x9, x10], (cs0 ++ [.lst (left.map encD)]) ++ [.lst (ys.map encD)]⟩, ⟨allD b r, [], cs, a, none, none, none, none, by simp, rfl, rfl, (set_self hn).symm, rfl⟩, ?_, ?_⟩
  · rintro i d e2 hi ⟨left, ys, cs0, a', x7, x8, x9, x10, hp, hl, hl0, he, rfl⟩
    obtain ⟨hi1, rfl⟩ := intsD_get hi
    have hplen := hp.length_eq
    rw [List.length_append] at hplen
    have hd0 : cs0[n]? = some (plC a') := by rw [he]; exact set_get hn
    have hleft : left ≠ [] := by
      rintro rfl
      simp at hplen
      omega
    have hpn := hp.nodup_iff.mpr hnd
    have hln := (List.nodup_append.mp hpn).1
    refine ⟨trivial, _, rfl, ?_⟩
    walk_at "w"
    refine ⟨n, 8, a', rfl, g3a hd0, by decide, by decide, fun w a2 w0 w1 => ?_⟩
    rw [s3a hd0]
    have e1 : (cs0.set n (plC a2)).length = cs0.length := List.length_set ..
    rw [show cs0.set n (plC a2) = cs.set n (plC a2) by rw [he, List.set_set]] at e1 ⊢
    generalize hcs1 : cs.set n (plC a2) = cs1 at e1
    rw [← e1]
    have hd1 : cs1[n]? = some (plC a2) := by rw [← hcs1]; exact set_get hn
    obtain ⟨k, rfl⟩ : ∃ k : Nat, w = (k : Int) := ⟨w.toNat, by omega⟩
    have hk : k < Wos.length := by show k < 8; omega
    refine v_ixK (xs := Wos.map fun a => D.str a.s) rfl (atI_map (List.getElem?_eq_getElem hk)) ?_
    generalize Wos[k] = c
    walk_at "w"
    refine v_lcF (e1 := ⟨_, _⟩) left encD encD (fun t => decide (t.1 = c)) rfl (by omega) (fun Q1 Q2 i2 t ht h1 h2 => ?_) ?_ g3b
    · refine ⟨_, rfl, ?_⟩
      rw [show encD t = .tup (.str t.1.s :: t.2.map .int) from rfl] at h2 ⊢
      walk_at "w"
      refine v_ixTX ⟨_, atI_nat (j := 0) rfl, ?_⟩
      walk_at "w"
      refine v_eqS2 (Wo.lay _) (Wo.lay _) ?_
      rw [wo_beq]
      refine ⟨_, rfl, ?_⟩
      by_cases hh : t.1 = c
      · rw [if_pos (decide_eq_true hh)]
        walk_at "w"
        exact h2 (decide_eq_true hh)
      · rw [if_neg (by rw [decide_eq_false hh]; exact Bool.false_ne_true)]
        exact h1 (decide_eq_false hh)
    · have fin : ∀ G : List Dd, G ≠ [] → G.length ≤ 100 → (∀ t ∈ G, t ∈ left) → (sSeq (sAsg (eBin qIx (eV 9) (eCall (sp_law_draw K) (aCons (eV 0) (aCons (eCB qLen (aCons (eV 9) aNil)) aNil)))) 10) (sSeq (sDrop (eBM qRem (eV 4) (aCons (eV 10) aNil))) (sDrop (eBM qApp (eV 6) (aCons (eV 10) aNil))))) (((Po.fn cs Q).thn (sRet (eV 6))).lp fun e => ∃ (left ys : List Dd) (cs0 : List Cel) (a' : Int) (x7 x8 x9 x10 : Option D), (left ++ ys).Perm (allD b r) ∧ ys.length = i + 1 ∧ cs0.length = cs.length ∧ cs0 = cs.set n (plC a') ∧
          e = ⟨[some (.cell n), some (.int b), some (.int r), some (.int m), some (.cell cs0.length), some (.lst (Wos.map fun a => D.str a.s)), some (.cell (cs0.length + 1)), x7, x8, x9, x10], (cs0 ++ [.lst (left.map encD)]) ++ [.lst (ys.map encD)]⟩)
          ⟨[some (.cell n), some (.int b), some (.int r), some (.int m), some (.cell cs1.length), some (.lst (Wos.map fun a => D.str a.s)), some (.cell (cs1.length + 1)), some (.int (0 + (i : Int))), some (.str c.s), some (.lst (G.map encD)), x10], (cs1 ++ [.lst (left.map encD)]) ++ [.lst (ys.map encD)]⟩ := by
        intro G hG hG1 hGl
        have hGlen : 0 < G.length := List.length_pos_iff.mpr hG
        walk_at "w"
        refine v_lenK (xs := G.map encD) rfl ?_
        rw [List.length_map]
        walk_at "w"
        refine ⟨n, (G.length : Int), a2, rfl, g3a hd1, by omega, by omega, fun w2 a3 w20 w21 => ?_⟩
        rw [s3a hd1]
        have e2 : (cs1.set n (plC a3)).length = cs1.length := List.length_set ..
        rw [show cs1.set n (plC a3) = cs.set n (plC a3) by rw [← hcs1, List.set_set]] at e2 ⊢
        generalize hcs2 : cs.set n (plC a3) = cs2 at e2
        rw [← e2]
        obtain ⟨k2, rfl⟩ : ∃ k : Nat, w2 = (k : Int) := ⟨w2.toNat, by omega⟩
        have hk2 : k2 < G.length := by omega
        have hg : G[k2]? = some G[k2] := List.getElem?_eq_getElem hk2
        generalize G[k2] = y at hg
        obtain ⟨j, hj⟩ := List.mem_iff_getElem?.mp (hGl y (List.mem_of_getElem? hg))
        refine v_ixK (xs := G.map encD) rfl (atI_map hg) ?_
        walk_at "w"
        refine ⟨⟨_, lk_cell g3b⟩, ?_⟩
        walk_at "w"
        refine ⟨_, _, encD y, j, rfl, rfl, g3b, (sh_Ds left).shp, (sh_D y).shp, fst_at hj hln, ?_⟩
        rw [s3b]
        walk_at "w"
        refine ⟨⟨_, lk_cell g3c⟩, ?_⟩
        walk_at "w"
        refine ⟨_, _, _, rfl, rfl, g3c, Nat.lt_of_le_of_lt (show _ ≤ 1000 by rw [List.length_map]; omega) (by decide), ?_⟩
        rw [s3c]
        walk_at "w"
        refine ⟨left.eraseIdx j, ys ++ [y], cs2, a3, some (.int (0 + (i : Int))), some (.str c.s), some (.lst (G.map encD)), some (encD y), perm_move hp hj, by simp [hl], by omega, hcs2.symm, ?_⟩
        rw [List.map_append, ← map_erase]
        rfl
      generalize (sSeq (sAsg (eBin qIx (eV 9) (eCall (sp_law_draw K) (aCons (eV 0) (aCons (eCB qLen (aCons (eV 9) aNil)) aNil)))) 10) (sSeq (sDrop (eBM qRem (eV 4) (aCons (eV 10) aNil))) (sDrop (eBM qApp (eV 6) (aCons (eV 10) aNil))))) = T at fin ⊢
      walk_at "w"
      refine v_eqE0 (xs := (left.filter fun t => decide (t.1 = c)).map encD) rfl (sh_Ds _) ?_
      refine ⟨_, rfl, ?_⟩
      by_cases hF : (left.filter fun t => decide (t.1 = c)) = []
      · rw [hF]
        rw [if_pos (show (([] : List Dd).map encD).isEmpty = true from rfl)]
        walk_at "w"
        refine v_listL (xs := left.map encD) (by show lk _ (.cell _) = _; exact lk_cell g3b) ?_
        walk_at "w"
        exact fin left hleft (by omega) (fun _ h => h)
      · rw [if_neg (by simpa using hF)]
        walk_at "w"
        exact fin _ hF (Nat.le_trans (List.length_filter_le _ _) (by omega)) (fun t ht => (List.mem_filter.mp ht).1)
  · rintro e2 ⟨left, ys, cs0, a', x7, x8, x9, x10, hp, hl, hl0, he, rfl⟩
    rw [intsD_len] at hl
    refine ⟨trivial, ?_⟩
    walk_at "w"
    have et : ((cs0 ++ [Cel.lst (left.map encD)]) ++ [Cel.lst (ys.map encD)]).take cs.length = cs0 := by rw [← hl0]; simp
    have hnp := hp.nodup_iff.mpr hnd
    refine .inr (.inr ⟨_, _, rfl, by omega, g3c, los_D ys, fun c h => ?_, .inl ?_⟩)
    · have h : c ∈ ((cs0 ++ [Cel.lst (left.map encD)]) ++ [Cel.lst (ys.map encD)]).take cs.length := h
      rw [et, he] at h
      exact set_lo rfl c h
    · show Q _ (((cs0 ++ [Cel.lst (left.map encD)]) ++ [Cel.lst (ys.map encD)]).take cs.length)
      rw [et, he]
      exact q ys a' (List.nodup_append.mp hnp).2.1 (fun t ht => hp.mem_iff.mp (List.mem_append_right _ ht)) (by omega)
end
section
variable {K : PySem.W.Frag}
theorem v_isi2 {d : D} {T U a : String} {e : En} {P : D → En → Prop} (h1 : tyKnown T = true) (h2 : tyKnown U = true) (h : tyN e.cs d = some a) (p : P (.bl (isTy a T || isTy a U)) e) : qIsi2 [d, .tup [.raw (.ty T), .raw (.ty U)]] e P := ⟨h1, h2, a, h, p⟩
theorem st_al0 {a b : D} : startD N_law_alike_0 [a, b] = [some a, some b, none] := rfl
theorem len_law_alike_0 : ∀ ds cs Q, sp_law_alike_0 K ds cs Q → ds.length = 2 := by rintro ds cs Q ⟨_, _, rfl, _⟩; rfl
theorem vc_law_alike_0 : ∀ ds cs Q, Lo ds cs → LoC cs → sp_law_alike_0 K ds cs Q → t_law_alike_0 K (Po.fn cs Q) ⟨startD N_law_alike_0 ds, cs⟩ := by
  rintro ds cs Q hd hc ⟨d, d2, rfl, h, q⟩
  clear hd
  rw [st_al0]
  unfold t_law_alike_0
  obtain ⟨rfl, rfl | ⟨b, rfl⟩ | ⟨i, rfl⟩ | ⟨s, rfl, hs⟩⟩ := h
  · walk_at "w"
    refine v_isi2 (a := "NoneType") (by decide) (by decide) rfl ?_
    rw [show (isTy "NoneType" "list" || isTy "NoneType" "tuple") = false by decide]
    walk_at "w"
    exact .inl q
  · walk_at "w"
    refine v_isi2 (a := "bool") (by decide) (by decide) rfl ?_
    rw [show (isTy "bool" "list" || isTy "bool" "tuple") = false by decide]
    walk_at "w"
    refine v_eqE encB (a := b) (b := b) rfl rfl ?_
    rw [decide_eq_true rfl]
    walk_at "w"
    exact .inl q
  · walk_at "w"
    refine v_isi2 (a := "int") (by decide) (by decide) rfl ?_
    rw [show (isTy "int" "list" || isTy "int" "tuple") = false by decide]
    walk_at "w"
    rw [decide_eq_true rfl]
    exact .inl q
  · walk_at "w"
    refine v_isi2 (a := "str") (by decide) (by decide) rfl ?_
    rw [show (isTy "str" "list" || isTy "str" "tuple") = false by decide]
    walk_at "w"
    refine v_eqS (n := 0) rfl rfl (Sh.str hs) ?_
    walk_at "w"
    exact .inl q
theorem st_al1 {a b : D} : startD N_law_alike_1 [a, b] = [some a, some b, none] := rfl
theorem len_law_alike_1 : ∀ ds cs Q, sp_law_alike_1 K ds cs Q → ds.length = 2 := by rintro ds cs Q ⟨_, _, rfl, _⟩; rfl
theorem vc_law_alike_1 : ∀ ds cs Q, Lo ds cs → LoC cs → sp_law_alike_1 K ds cs Q → t_law_alike_1 K (Po.fn cs Q) ⟨startD N_law_alike_1 ds, cs⟩ := by
  rintro ds cs Q hd hc ⟨d, d2, rfl, h, q⟩
  clear hd
  rw [st_al1]
  unfold t_law_alike_1
  rcases h with ⟨rfl, rfl | ⟨b, rfl⟩ | ⟨i, rfl⟩ | ⟨s, rfl, hs⟩⟩ | ⟨xs, rfl, rfl, hz, hx⟩ | ⟨xs, h1, h2, hf1, hf2, hz, hx⟩
  · walk_at "w"
    refine v_isi2 (a := "NoneType") (by decide) (by decide) rfl ?_
    rw [show (isTy "NoneType" "list" || isTy "NoneType" "tuple") = false by decide]
    walk_at "w"
    exact .inl q
  · walk_at "w"
    refine v_isi2 (a := "bool") (by decide) (by decide) rfl ?_
    rw [show (isTy "bool" "list" || isTy "bool" "tuple") = false by decide]
    walk_at "w"
    refine v_eqE encB (a := b) (b := b) rfl rfl ?_
    rw [decide_eq_true rfl]
    walk_at "w"
    exact .inl q
  · walk_at "w"
    refine v_isi2 (a := "int") (by decide) (by decide) rfl ?_
    rw [show (isTy "int" "list" || isTy "int" "tuple") = false by decide]
    walk_at "w"
    rw [decide_eq_true rfl]
    exact .inl q
  · walk_at "w"
    refine v_isi2 (a := "str") (by decide) (by decide) rfl ?_
    rw [show (isTy "str" "list" || isTy "str" "tuple") = false by decide]
    walk_at "w"
    refine v_eqS (n := 0) rfl rfl (Sh.str hs) ?_
    walk_at "w"
    exact .inl q
  · walk_at "w"
    refine v_isi2 (a := "tuple") (by decide) (by decide) rfl ?_
    rw [show (isTy "tuple" "list" || isTy "tuple" "tuple") = true by decide]
    walk_at "w"
    refine v_lenL (e := ⟨_, _⟩) (xs := xs) rfl (fun _ z => nomatch z) ?_
    walk_at "w"
    refine v_lenL (e := ⟨_, _⟩) (xs := xs) rfl (fun _ z => nomatch z) ?_
    walk_at "w"
    rw [decide_eq_true rfl]
    walk_at "w"
    refine v_lenL (e := ⟨_, _⟩) (xs := xs) rfl (fun _ z => nomatch z) ?_
    walk_at "w"
    refine ⟨_, rfl, by omega, by omega, fun i e => ∃ x2, e = ⟨[some (D.tup xs), some (D.tup xs), x2], cs⟩, ⟨_, rfl⟩, ?_, ?_⟩
    · rintro i y e2 hi ⟨x2, rfl⟩
      obtain ⟨hi1, rfl⟩ := intsD_get hi
      have hi3 : i < xs.length := by omega
      have hg : atI xs ((i : Nat) : Int) = some xs[i] := atI_nat (List.getElem?_eq_getElem hi3)
      refine ⟨trivial, _, rfl, ?_⟩
      rw [Int.zero_add]
      walk_at "w"
      refine v_ixTX ⟨_, hg, ?_⟩
      walk_at "w"
      refine v_ixTX ⟨_, hg, ?_⟩
      walk_at "w"
      refine ⟨_, _, rfl, hx _ (List.getElem_mem hi3), ?_⟩
      walk_at "w"
      exact ⟨_, rfl⟩
    · rintro e2 ⟨x2, rfl⟩
      refine ⟨trivial, ?_⟩
      walk_at "w"
      exact .inl q
  · walk_at "w"
    refine v_isi2 (a := "list") (by decide) (by decide) (ty_lk h2 hf2) ?_
    rw [show (isTy "list" "list" || isTy "list" "tuple") = true by decide]
    walk_at "w"
    refine v_isi (c := "list") (by decide) (ty_lk h1 hf1) ?_
    walk_at "w"
    refine v_isi (c := "list") (by decide) (ty_lk h2 hf2) ?_
    rw [show isTy "list" "list" = true by decide]
    walk_at "w"
    refine v_isi (c := "list") (by decide) (ty_lk h1 hf1) ?_
    walk_at "w"
    refine v_isi (c := "list") (by decide) (ty_lk h2 hf2) ?_
    rw [show isTy "list" "tuple" = false by decide]
    walk_at "w"
    refine v_lenK (xs := xs) h1 ?_
    walk_at "w"
    refine v_lenK (xs := xs) h2 ?_
    walk_at "w"
    rw [decide_eq_true rfl]
    walk_at "w"
    refine v_lenK (xs := xs) h2 ?_
    walk_at "w"
    refine ⟨_, rfl, by omega, by omega, fun i e => ∃ x2, e = ⟨[some (d), some (d2), x2], cs⟩, ⟨_, rfl⟩, ?_, ?_⟩
    · rintro i y e2 hi ⟨x2, rfl⟩
      obtain ⟨hi1, rfl⟩ := intsD_get hi
      have hi3 : i < xs.length := by omega
      have hg : atI xs ((i : Nat) : Int) = some xs[i] := atI_nat (List.getElem?_eq_getElem hi3)
      refine ⟨trivial, _, rfl, ?_⟩
      rw [Int.zero_add]
      walk_at "w"
      refine v_ixK h1 hg ?_
      walk_at "w"
      refine v_ixK h2 hg ?_
      walk_at "w"
      refine ⟨_, _, rfl, hx _ (List.getElem_mem hi3), ?_⟩
      walk_at "w"
      exact ⟨_, rfl⟩
    · rintro e2 ⟨x2, rfl⟩
      refine ⟨trivial, ?_⟩
      walk_at "w"
      exact .inl q
theorem st_al2 {a b : D} : startD N_law_alike_2 [a, b] = [some a, some b, none] := rfl
theorem len_law_alike_2 : ∀ ds cs Q, sp_law_alike_2 K ds cs Q → ds.length = 2 := by rintro ds cs Q ⟨_, _, rfl, _⟩; rfl
theorem vc_law_alike_2 : ∀ ds cs Q, Lo ds cs → LoC cs → sp_law_alike_2 K ds cs Q → t_law_alike_2 K (Po.fn cs Q) ⟨startD N_law_alike_2 ds, cs⟩ := by
  rintro ds cs Q hd hc ⟨d, d2, rfl, h, q⟩
  clear hd
  rw [st_al2]
  unfold t_law_alike_2
  rcases h with ⟨rfl, rfl | ⟨b, rfl⟩ | ⟨i, rfl⟩ | ⟨s, rfl, hs⟩⟩ | ⟨xs, rfl, rfl, hz, hx⟩ | ⟨xs, h1, h2, hf1, hf2, hz, hx⟩
  · walk_at "w"
    refine v_isi2 (a := "NoneType") (by decide) (by decide) rfl ?_
    rw [show (isTy "NoneType" "list" || isTy "NoneType" "tuple") = false by decide]
    walk_at "w"
    exact .inl q
  · walk_at "w"
    refine v_isi2 (a := "bool") (by decide) (by decide) rfl ?_
    rw [show (isTy "bool" "list" || isTy "bool" "tuple") = false by decide]
    walk_at "w"
    refine v_eqE encB (a := b) (b := b) rfl rfl ?_
    rw [decide_eq_true rfl]
    walk_at "w"
    exact .inl q
  · walk_at "w"
    refine v_isi2 (a := "int") (by decide) (by decide) rfl ?_
    rw [show (isTy "int" "list" || isTy "int" "tuple") = false by decide]
    walk_at "w"
    rw [decide_eq_true rfl]
    exact .inl q
  · walk_at "w"
    refine v_isi2 (a := "str") (by decide) (by decide) rfl ?_
    rw [show (isTy "str" "list" || isTy "str" "tuple") = false by decide]
    walk_at "w"
    refine v_eqS (n := 0) rfl rfl (Sh.str hs) ?_
    walk_at "w"
    exact .inl q
  · walk_at "w"
    refine v_isi2 (a := "tuple") (by decide) (by decide) rfl ?_
    rw [show (isTy "tuple" "list" || isTy "tuple" "tuple") = true by decide]
    walk_at "w"
    refine v_lenL (e := ⟨_, _⟩) (xs := xs) rfl (fun _ z => nomatch z) ?_
    walk_at "w"
    refine v_lenL (e := ⟨_, _⟩) (xs := xs) rfl (fun _ z => nomatch z) ?_
    walk_at "w"
    rw [decide_eq_true rfl]
    walk_at "w"
    refine v_lenL (e := ⟨_, _⟩) (xs := xs) rfl (fun _ z => nomatch z) ?_
    walk_at "w"
    refine ⟨_, rfl, by omega, by omega, fun i e => ∃ x2, e = ⟨[some (D.tup xs), some (D.tup xs), x2], cs⟩, ⟨_, rfl⟩, ?_, ?_⟩
    · rintro i y e2 hi ⟨x2, rfl⟩
      obtain ⟨hi1, rfl⟩ := intsD_get hi
      have hi3 : i < xs.length := by omega
      have hg : atI xs ((i : Nat) : Int) = some xs[i] := atI_nat (List.getElem?_eq_getElem hi3)
      refine ⟨trivial, _, rfl, ?_⟩
      rw [Int.zero_add]
      walk_at "w"
      refine v_ixTX ⟨_, hg, ?_⟩
      walk_at "w"
      refine v_ixTX ⟨_, hg, ?_⟩
      walk_at "w"
      refine ⟨_, _, rfl, hx _ (List.getElem_mem hi3), ?_⟩
      walk_at "w"
      exact ⟨_, rfl⟩
    · rintro e2 ⟨x2, rfl⟩
      refine ⟨trivial, ?_⟩
      walk_at "w"
      exact .inl q
  · walk_at "w"
    refine v_isi2 (a := "list") (by decide) (by decide) (ty_lk h2 hf2) ?_
    rw [show (isTy "list" "list" || isTy "list" "tuple") = true by decide]
    walk_at "w"
    refine v_isi (c := "list") (by decide) (ty_lk h1 hf1) ?_
    walk_at "w"
    refine v_isi (c := "list") (by decide) (ty_lk h2 hf2) ?_
    rw [show isTy "list" "list" = true by decide]
    walk_at "w"
    refine v_isi (c := "list") (by decide) (ty_lk h1 hf1) ?_
    walk_at "w"
    refine v_isi (c := "list") (by decide) (ty_lk h2 hf2) ?_
    rw [show isTy "list" "tuple" = false by decide]
    walk_at "w"
    refine v_lenK (xs := xs) h1 ?_
    walk_at "w"
    refine v_lenK (xs := xs) h2 ?_
    walk_at "w"
    rw [decide_eq_true rfl]
    walk_at "w"
    refine v_lenK (xs := xs) h2 ?_
    walk_at "w"
    refine ⟨_, rfl, by omega, by omega, fun i e => ∃ x2, e = ⟨[some (d), some (d2), x2], cs⟩, ⟨_, rfl⟩, ?_, ?_⟩
    · rintro i y e2 hi ⟨x2, rfl⟩
      obtain ⟨hi1, rfl⟩ := intsD_get hi
      have hi3 : i < xs.length := by omega
      have hg : atI xs ((i : Nat) : Int) = some xs[i] := atI_nat (List.getElem?_eq_getElem hi3)
      refine ⟨trivial, _, rfl, ?_⟩
      rw [Int.zero_add]
      walk_at "w"
      refine v_ixK h1 hg ?_
      walk_at "w"
      refine v_ixK h2 hg ?_
      walk_at "w"
      refine ⟨_, _, rfl, hx _ (List.getElem_mem hi3), ?_⟩
      walk_at "w"
      exact ⟨_, rfl⟩
    · rintro e2 ⟨x2, rfl⟩
      refine ⟨trivial, ?_⟩
      walk_at "w"
      exact .inl q
theorem st_al3 {a b : D} : startD N_law_alike_3 [a, b] = [some a, some b, none] := rfl
theorem len_law_alike_3 : ∀ ds cs Q, sp_law_alike_3 K ds cs Q → ds.length = 2 := by rintro ds cs Q ⟨_, _, rfl, _⟩; rfl
theorem vc_law_alike_3 : ∀ ds cs Q, Lo ds cs → LoC cs → sp_law_alike_3 K ds cs Q → t_law_alike_3 K (Po.fn cs Q) ⟨startD N_law_alike_3 ds, cs⟩ := by
  rintro ds cs Q hd hc ⟨d, d2, rfl, h, q⟩
  clear hd
  rw [st_al3]
  unfold t_law_alike_3
  rcases h with ⟨rfl, rfl | ⟨b, rfl⟩ | ⟨i, rfl⟩ | ⟨s, rfl, hs⟩⟩ | ⟨xs, rfl, rfl, hz, hx⟩ | ⟨xs, h1, h2, hf1, hf2, hz, hx⟩
  · walk_at "w"
    refine v_isi2 (a := "NoneType") (by decide) (by decide) rfl ?_
    rw [show (isTy "NoneType" "list" || isTy "NoneType" "tuple") = false by decide]
    walk_at "w"
    exact .inl q
  · walk_at "w"
    refine v_isi2 (a := "bool") (by decide) (by decide) rfl ?_
    rw [show (isTy "bool" "list" || isTy "bool" "tuple") = false by decide]
    walk_at "w"
    refine v_eqE encB (a := b) (b := b) rfl rfl ?_
    rw [decide_eq_true rfl]
    walk_at "w"
    exact .inl q
  · walk_at "w"
    refine v_isi2 (a := "int") (by decide) (by decide) rfl ?_
    rw [show (isTy "int" "list" || isTy "int" "tuple") = false by decide]
    walk_at "w"
    rw [decide_eq_true rfl]
    exact .inl q
  · walk_at "w"
    refine v_isi2 (a := "str") (by decide) (by decide) rfl ?_
    rw [show (isTy "str" "list" || isTy "str" "tuple") = false by decide]
    walk_at "w"
    refine v_eqS (n := 0) rfl rfl (Sh.str hs) ?_
    walk_at "w"
    exact .inl q
  · walk_at "w"
    refine v_isi2 (a := "tuple") (by decide) (by decide) rfl ?_
    rw [show (isTy "tuple" "list" || isTy "tuple" "tuple") = true by decide]
    walk_at "w"
    refine v_lenL (e := ⟨_, _⟩) (xs := xs) rfl (fun _ z => nomatch z) ?_
    walk_at "w"
    refine v_lenL (e := ⟨_, _⟩) (xs := xs) rfl (fun _ z => nomatch z) ?_
    walk_at "w"
    rw [decide_eq_true rfl]
    walk_at "w"
    refine v_lenL (e := ⟨_, _⟩) (xs := xs) rfl (fun _ z => nomatch z) ?_
    walk_at "w"
    refine ⟨_, rfl, by omega, by omega, fun i e => ∃ x2, e = ⟨[some (D.tup xs), some (D.tup xs), x2], cs⟩, ⟨_, rfl⟩, ?_, ?_⟩
    · rintro i y e2 hi ⟨x2, rfl⟩
      obtain ⟨hi1, rfl⟩ := intsD_get hi
      have hi3 : i < xs.length := by omega
      have hg : atI xs ((i : Nat) : Int) = some xs[i] := atI_nat (List.getElem?_eq_getElem hi3)
      refine ⟨trivial, _, rfl, ?_⟩
      rw [Int.zero_add]
      walk_at "w"
      refine v_ixTX ⟨_, hg, ?_⟩
      walk_at "w"
      refine v_ixTX ⟨_, hg, ?_⟩
      walk_at "w"
      refine ⟨_, _, rfl, hx _ (List.getElem_mem hi3), ?_⟩
      walk_at "w"
      exact ⟨_, rfl⟩
    · rintro e2 ⟨x2, rfl⟩
      refine ⟨trivial, ?_⟩
      walk_at "w"
      exact .inl q
  · walk_at "w"
    refine v_isi2 (a := "list") (by decide) (by decide) (ty_lk h2 hf2) ?_
    rw [show (isTy "list" "list" || isTy "list" "tuple") = true by decide]
    walk_at "w"
    refine v_isi (c := "list") (by decide) (ty_lk h1 hf1) ?_
    walk_at "w"
    refine v_isi (c := "list") (by decide) (ty_lk h2 hf2) ?_
    rw [show isTy "list" "list" = true by decide]
    walk_at "w"
    refine v_isi (c := "list") (by decide) (ty_lk h1 hf1) ?_
    walk_at "w"
    refine v_isi (c := "list") (by decide) (ty_lk h2 hf2) ?_
    rw [show isTy "list" "tuple" = false by decide]
    walk_at "w"
    refine v_lenK (xs := xs) h1 ?_
    walk_at "w"
    refine v_lenK (xs := xs) h2 ?_
    walk_at "w"
    rw [decide_eq_true rfl]
    walk_at "w"
    refine v_lenK (xs := xs) h2 ?_
    walk_at "w"
    refine ⟨_, rfl, by omega, by omega, fun i e => ∃ x2, e = ⟨[some (d), some (d2), x2], cs⟩, ⟨_, rfl⟩, ?_, ?_⟩
    · rintro i y e2 hi ⟨x2, rfl⟩
      obtain ⟨hi1, rfl⟩ := intsD_get hi
      have hi3 : i < xs.length := by omega
      have hg : atI xs ((i : Nat) : Int) = some xs[i] := atI_nat (List.getElem?_eq_getElem hi3)
      refine ⟨trivial, _, rfl, ?_⟩
      rw [Int.zero_add]
      walk_at "w"
      refine v_ixK h1 hg ?_
      walk_at "w"
      refine v_ixK h2 hg ?_
      walk_at "w"
      refine ⟨_, _, rfl, hx _ (List.getElem_mem hi3), ?_⟩
      walk_at "w"
      exact ⟨_, rfl⟩
    · rintro e2 ⟨x2, rfl⟩
      refine ⟨trivial, ?_⟩
      walk_at "w"
      exact .inl q
end
section
inductive Op where
  | right | forget | again | off (d : Int) | read (j : Nat) (d : Int) | copy (j : Nat) | swap | out | twice
deriving DecidableEq
def encO : Op → D
  | .right => .tup [.str "right"]
  | .forget => .tup [.str "forget"]
  | .again => .tup [.str "again"]
  | .off d => .tup [.str "off", .int d]
  | .read j d => .tup [.str "read", .int (j : Nat), .int d]
  | .copy j => .tup [.str "copy", .int (j : Nat)]
  | .swap => .tup [.str "swap"]
  | .out => .tup [.str "out"]
  | .twice => .tup [.str "twice"]
def okO (b r : Int) : Op → Prop
  | .off d => 1 ≤ d ∧ d < b
  | .read j d => (j : Int) < r ∧ 1 ≤ d ∧ d < b
  | .copy j => (j : Int) < r
  | _ => True
def takeF (b : Int) (c bf : List Int) : Op → List Int
  | .read j d => c.set j ((c.getD j 0 + d) % b)
  | .copy j => c.set j (bf.getD j 0)
  | _ => c
def tot (b : Int) (c bf : List Int) (o : Op) (k : Int) : Int := (takeF b c bf o).sum + k
def colAt (cols : List (List Int)) (i : Nat) : List Int := cols.getD i []
theorem set_other {cs : List Cel} {m n : Nat} {c c0 : Cel} (h : cs[n]? = some c0) (hne : m ≠ n) : (cs.set m c)[n]? = some c0 := by
  rw [List.getElem?_set_ne hne]
  exact h
theorem set_self {cs : List Cel} {n : Nat} {c : Cel} (h : cs[n]? = some c) : cs.set n c = cs := by
  obtain ⟨hl, rfl⟩ := List.getElem?_eq_some_iff.mp h
  exact List.set_getElem_self hl
theorem colAt_get {cols : List (List Int)} {i : Nat} (h : i < cols.length) : cols[i]? = some (colAt cols i) := by
  unfold colAt
  rw [List.getD_eq_getElem?_getD, List.getElem?_eq_getElem h]
  rfl
theorem colAt_mem {cols : List (List Int)} {i : Nat} (h : i < cols.length) : colAt cols i ∈ cols := List.mem_of_getElem? (colAt_get h)
theorem Gd.clen {b r : Int} {cols : List (List Int)} (g : Gd b r cols) {i : Nat} (h : i < cols.length) : ((colAt cols i).length : Int) = r := by
  have h1 := g.c _ (colAt_mem h)
  unfold okC at h1
  simp only [Bool.and_eq_true, decide_eq_true_eq] at h1
  exact h1.1
def actD : Op → D
  | .right => .tup [.str "rightly"]
  | o => encO o
theorem actD_ne {o : Op} (h : o ≠ .right) : actD o = encO o := by cases o <;> first | exact absurd rfl h | rfl
end
section
variable {K : PySem.W.Frag} {Po' : Po} {x0 x1 x2 x3 x4 x9 x11 x12 : Option D} {f m : Nat} {b k : Int} {o : Op} {ws c : List Int} {cs1 : List Cel}
/-- the carry and the figures behind a column -/
def k3 (b : Int) (c : List Int) (o : Op) (k : Int) : Int := match o with
  | .forget => 0
  | .again => k + 1
  | .twice => (c.sum + k) / b
  | _ => k
def w3 (b : Int) (c : List Int) (o : Op) (k : Int) : List Int := match o with
  | .twice => [(c.sum + k) % b]
  | _ => []
theorem w_run_3 {W : D} (b2 : 2 ≤ b) (b12 : b ≤ 12) (hf : cs1[f]? = some (.lst (ws.map .int))) (hm : cs1[m]? = some (.lst (c.map .int))) (hl : ws.length ≤ 10000) (hcl : c.length ≤ 1000)
    (h0 : o = .forget → k = 0 → Po'.rt .non cs1)
    (h1 : (o = .forget → k ≠ 0) → ∀ x11' : Option D, Po'.nx ⟨[some (.int b), x1, x2, x3, x4, some (actD o), some (.cell f), some W, some (.int (k3 b c o k)), x9, some (.cell m), x11', x12], cs1.set f (.lst ((ws ++ w3 b c o k).map .int))⟩) :
    u_law_run_3 K Po' ⟨[some (.int b), x1, x2, x3, x4, some (actD o), some (.cell f), some W, some (.int k), x9, some (.cell m), x11, x12], cs1⟩ := by
  have keep : cs1.set f (.lst ((ws ++ ([] : List Int)).map .int)) = cs1 := by rw [List.append_nil]; exact set_self hf
  unfold u_law_run_3
  cases o
  case forget =>
    dsimp only [actD, encO] at h1 ⊢
    walk_at "w"
    refine v_itd (fun h => ?_) (fun h => ?_)
    · walk_at "w"
      exact h0 rfl h
    · walk_at "w"
      have z := h1 (fun _ => h) x11
      rw [show w3 b c .forget k = [] from rfl, keep] at z
      exact z
  case twice =>
    dsimp only [actD, encO] at h1 ⊢
    walk_at "w"
    refine v_sumL (ns := c) (by show lk cs1 (.cell m) = _; exact lk_cell hm) ?_
    walk_at "w"
    refine ⟨⟨_, lk_cell hf⟩, ?_⟩
    walk_at "w"
    refine ⟨_, _, _, rfl, rfl, hf, Nat.lt_of_le_of_lt (show _ ≤ 20000 by rw [List.length_map]; omega) (by decide), ?_⟩
    walk_at "w"
    have e : ws.map D.int ++ [D.int ((c.sum + k) % b)] = (ws ++ [(c.sum + k) % b]).map .int := by rw [List.map_append]; rfl
    rw [e]
    exact h1 (fun z => nomatch z) _
  all_goals
    dsimp only [actD, encO] at h1 ⊢
    walk_at "w"
    have z := h1 (fun z => nomatch z) x11
    rw [← keep]
    exact z
def oW : Option Int → List Int
  | none => []
  | some w => [w]
theorem w_run_2 {w : Option Int} {fg : Int} (b2 : 2 ≤ b) (b12 : b ≤ 12) (hfm : f ≠ m) (hf : cs1[f]? = some (.lst (ws.map .int))) (hm : cs1[m]? = some (.lst (c.map .int))) (hl : ws.length ≤ 9000) (hcl : c.length ≤ 1000)
    (h0 : o = .forget → k = 0 → ∀ xs, Po'.rt .non (cs1.set f (.lst xs)))
    (h1 : (o = .forget → k ≠ 0) → ∀ x11' : Option D, Po'.nx ⟨[some (.int b), x1, x2, x3, x4, some (actD o), some (.cell f), some .non, some (.int (k3 b c o k)), x9, some (.cell m), x11', some (.int fg)], cs1.set f (.lst ((ws ++ [fg] ++ oW w ++ w3 b c o k).map .int))⟩) :
    u_law_run_2 K Po' ⟨[some (.int b), x1, x2, x3, x4, some (actD o), some (.cell f), some (oI w), some (.int k), x9, some (.cell m), x11, some (.int fg)], cs1⟩ := by
  unfold u_law_run_2
  walk_at "w"
  refine ⟨⟨_, lk_cell hf⟩, ?_⟩
  walk_at "w"
  refine ⟨_, _, _, rfl, rfl, hf, Nat.lt_of_le_of_lt (show _ ≤ 20000 by rw [List.length_map]; omega) (by decide), ?_⟩
  have e1 : ws.map D.int ++ [D.int fg] = (ws ++ [fg]).map .int := by rw [List.map_append]; rfl
  rw [e1]
  have hf1 : (cs1.set f (.lst ((ws ++ [fg]).map .int)))[f]? = some (.lst ((ws ++ [fg]).map .int)) := set_get hf
  cases w with
  | none =>
    dsimp only [oI]
    walk_at "w"
    refine w_run_3 b2 b12 hf1 (set_other hm hfm) (by rw [List.length_append, List.length_singleton]; omega) hcl (fun z1 z2 => h0 z1 z2 _) fun hk x11' => ?_
    have z := h1 hk x11'
    rw [List.set_set]
    rw [show ws ++ [fg] ++ oW none = ws ++ [fg] from List.append_nil _] at z
    exact z
  | some v =>
    dsimp only [oI]
    walk_at "w"
    refine ⟨⟨_, lk_cell hf1⟩, ?_⟩
    walk_at "w"
    refine ⟨_, _, _, rfl, rfl, hf1, Nat.lt_of_le_of_lt (show _ ≤ 20000 by rw [List.length_map, List.length_append, List.length_singleton]; omega) (by decide), ?_⟩
    have e2 : (ws ++ [fg]).map D.int ++ [D.int v] = (ws ++ [fg] ++ [v]).map .int := by rw [List.map_append (l₂ := [v])]; rfl
    rw [e2, List.set_set]
    walk_at "w"
    have hf2 : (cs1.set f (.lst ((ws ++ [fg] ++ [v]).map .int)))[f]? = some (.lst ((ws ++ [fg] ++ [v]).map .int)) := set_get hf
    refine w_run_3 b2 b12 hf2 (set_other hm hfm) (by rw [List.length_append, List.length_append, List.length_singleton, List.length_singleton]; omega) hcl (fun z1 z2 => h0 z1 z2 _) fun hk x11' => ?_
    have z := h1 hk x11'
    rw [List.set_set]
    exact z
def f1 (b tt : Int) : Op → Int
  | .off d => (tt % b + d) % b
  | _ => tt % b
theorem w_run_1 {w : Option Int} {tt : Int} (b2 : 2 ≤ b) (b12 : b ≤ 12) (hfm : f ≠ m) (hf : cs1[f]? = some (.lst (ws.map .int))) (hm : cs1[m]? = some (.lst (c.map .int))) (hl : ws.length ≤ 9000) (hcl : c.length ≤ 1000)
    (hs : o = .swap → Po'.ct ⟨[some (.int b), x1, x2, x3, x4, some (actD o), some (.cell f), some (.int (tt % b)), some (.int (tt / b)), x9, some (.cell m), some (.int tt), some (.int (tt % b))], cs1⟩)
    (h0 : o = .forget → tt / b = 0 → ∀ xs, Po'.rt .non (cs1.set f (.lst xs)))
    (h1 : o ≠ .swap → (o = .forget → tt / b ≠ 0) → ∀ x11' : Option D, Po'.nx ⟨[some (.int b), x1, x2, x3, x4, some (actD o), some (.cell f), some .non, some (.int (k3 b c o (tt / b))), x9, some (.cell m), x11', some (.int (f1 b tt o))], cs1.set f (.lst ((ws ++ [f1 b tt o] ++ oW w ++ w3 b c o (tt / b)).map .int))⟩) :
    u_law_run_1 K Po' ⟨[some (.int b), x1, x2, x3, x4, some (actD o), some (.cell f), some (oI w), some (.int k), x9, some (.cell m), some (.int tt), x12], cs1⟩ := by
  unfold u_law_run_1
  cases o
  case swap =>
    dsimp only [actD, encO] at hs ⊢
    walk_at "w"
    refine ⟨_, _, rfl, ?_⟩
    walk_at "w"
    exact hs rfl
  case off d =>
    have e : actD (.off d) = .tup [.str "off", .int d] := rfl
    rw [e]
    walk_at "w"
    refine ⟨_, _, rfl, ?_⟩
    walk_at "w"
    rw [← e]
    exact w_run_2 b2 b12 hfm hf hm hl hcl h0 (h1 (fun z => nomatch z))
  all_goals
    dsimp only [actD, encO]
    walk_at "w"
    refine ⟨_, _, rfl, ?_⟩
    walk_at "w"
    first
      | exact w_run_2 (o := .right) b2 b12 hfm hf hm hl hcl h0 (h1 (fun z => nomatch z))
      | exact w_run_2 (o := .forget) b2 b12 hfm hf hm hl hcl h0 (h1 (fun z => nomatch z))
      | exact w_run_2 (o := .again) b2 b12 hfm hf hm hl hcl h0 (h1 (fun z => nomatch z))
      | exact w_run_2 (o := .out) b2 b12 hfm hf hm hl hcl h0 (h1 (fun z => nomatch z))
      | exact w_run_2 (o := .twice) b2 b12 hfm hf hm hl hcl h0 (h1 (fun z => nomatch z))
      | exact w_run_2 (o := .read _ _) b2 b12 hfm hf hm hl hcl h0 (h1 (fun z => nomatch z))
      | exact w_run_2 (o := .copy _) b2 b12 hfm hf hm hl hcl h0 (h1 (fun z => nomatch z))
end
section
variable {K : PySem.W.Frag} {Po' : Po} {x2 x3 x4 x10 x11 x12 : Option D} {f i : Nat} {b r k : Int} {o : Op} {ws : List Int} {cols : List (List Int)} {cs1 : List Cel}
theorem takeF_len (b : Int) (c bf : List Int) (o : Op) : (takeF b c bf o).length = c.length := by cases o <;> simp [takeF]
theorem w_run_0 {w : Option Int} {dc : D} (hk : lk cs1 dc = some (cols.map encC)) (g : Gd b r cols) (hi : i < cols.length) (ho : okO b r o) (hcp : (∃ j, o = .copy j) → i ≠ 0) (hf : cs1[f]? = some (.lst (ws.map .int))) (hl : ws.length ≤ 9000)
    (hout : o = .out → Po'.ct ⟨[some (.int b), some dc, x2, x3, x4, some (actD o), some (.cell f), some (oI w), some (.int k), some (.int (i : Int)), x10, x11, x12], cs1⟩)
    (hs : o = .swap → ∀ y10 y11 y12, Po'.ct ⟨[some (.int b), some dc, x2, x3, x4, some (actD o), some (.cell f), some (.int (tot b (colAt cols i) (colAt cols (i - 1)) o k % b)), some (.int (tot b (colAt cols i) (colAt cols (i - 1)) o k / b)), some (.int (i : Int)), y10, y11, y12], cs1 ++ [.lst ((takeF b (colAt cols i) (colAt cols (i - 1)) o).map .int)]⟩)
    (h0 : o = .forget → tot b (colAt cols i) (colAt cols (i - 1)) o k / b = 0 → ∀ xs y, Po'.rt .non ((cs1 ++ [y]).set f (.lst xs)))
    (h1 : o ≠ .out → o ≠ .swap → (o = .forget → tot b (colAt cols i) (colAt cols (i - 1)) o k / b ≠ 0) → ∀ y y10 y11 y12, Po'.nx ⟨[some (.int b), some dc, x2, x3, x4, some (actD o), some (.cell f), some .non, some (.int (k3 b (takeF b (colAt cols i) (colAt cols (i - 1)) o) o (tot b (colAt cols i) (colAt cols (i - 1)) o k / b))), some (.int (i : Int)), y10, y11, y12],
      (cs1 ++ [y]).set f (.lst ((ws ++ [f1 b (tot b (colAt cols i) (colAt cols (i - 1)) o k) o] ++ oW w ++ w3 b (takeF b (colAt cols i) (colAt cols (i - 1)) o) o (tot b (colAt cols i) (colAt cols (i - 1)) o k / b)).map .int))⟩) :
    u_law_run_0 K Po' ⟨[some (.int b), some dc, x2, x3, x4, some (actD o), some (.cell f), some (oI w), some (.int k), some (.int (i : Int)), x10, x11, x12], cs1⟩ := by
  have b2 := g.b2
  have b12 := g.b12
  have hfl := (List.getElem?_eq_some_iff.mp hf).1
  have hcl : (takeF b (colAt cols i) (colAt cols (i - 1)) o).length ≤ 1000 := by
    rw [takeF_len]
    have := g.clen hi
    have := g.r4
    omega
  have fin : ∀ y11 y12 : Option D, u_law_run_1 K Po' ⟨[some (.int b), some dc, x2, x3, x4, some (actD o), some (.cell f), some (oI w), some (.int k), some (.int (i : Int)), some (.cell cs1.length), some (.int (tot b (colAt cols i) (colAt cols (i - 1)) o k)), y12], cs1 ++ [.lst ((takeF b (colAt cols i) (colAt cols (i - 1)) o).map .int)]⟩ ∨ o = .out := by
    intro y11 y12
    by_cases hno : o = .out
    · exact .inr hno
    exact .inl (w_run_1 b2 b12 (Nat.ne_of_lt hfl) (app_get_lt hf) app_get hl hcl (fun z => hs z _ _ _) (fun z1 z2 xs => h0 z1 z2 xs _) fun z1 z2 x11' => h1 hno z1 z2 _ _ _ _)
  unfold u_law_run_0
  generalize u_law_run_1 K = T at fin ⊢
  cases o
  case out =>
    dsimp only [actD, encO] at hout ⊢
    walk_at "w"
    exact hout rfl
  case copy j =>
    have e : actD (.copy j) = .tup [.str "copy", .int (j : Nat)] := rfl
    have j2 : (j : Int) < r := ho
    have i0 := hcp ⟨j, rfl⟩
    have hl := g.clen hi
    have hj : j < (colAt cols i).length := by omega
    have hi1 : i - 1 < cols.length := by omega
    have hl1 := g.clen hi1
    have hj2 : j < (colAt cols (i - 1)).length := by omega
    have e1 : (i : Int) - 1 = ((i - 1 : Nat) : Int) := by omega
    rw [e] at fin ⊢
    walk_at "w"
    refine v_ixK (xs := cols.map encC) hk (atI_map (colAt_get hi)) ?_
    walk_at "w"
    refine v_listL (xs := (colAt cols i).map .int) rfl ?_
    walk_at "w"
    rw [e1]
    refine v_ixK (xs := cols.map encC) (lk_app hk) (atI_map (colAt_get hi1)) ?_
    walk_at "w"
    refine v_ixTX ⟨_, atI_map (getD_get hj2), ?_⟩
    walk_at "w"
    refine ⟨_, _, (j : Nat), j, rfl, app_get, rfl, Evl.ixN_nat (by simpa using hj), ?_⟩
    rw [app_set, ← List.map_set]
    walk_at "w"
    refine v_sumL (ns := takeF b (colAt cols i) (colAt cols (i - 1)) (.copy j)) (by show lk (cs1 ++ _) (.cell _) = _; exact lk_cell app_get) ?_
    walk_at "w"
    exact (fin x11 x12).resolve_right (fun z => nomatch z)
  case read j d =>
    have e : actD (.read j d) = .tup [.str "read", .int (j : Nat), .int d] := rfl
    obtain ⟨j2, d1, d2⟩ := ho
    have hl := g.clen hi
    have hj : j < (colAt cols i).length := by omega
    rw [e] at fin ⊢
    walk_at "w"
    refine v_ixK (xs := cols.map encC) hk (atI_map (colAt_get hi)) ?_
    walk_at "w"
    refine v_listL (xs := (colAt cols i).map .int) rfl ?_
    walk_at "w"
    refine v_ixK (lk_cell app_get) (atI_map (getD_get hj)) ?_
    walk_at "w"
    refine ⟨_, _, (j : Nat), j, rfl, app_get, rfl, Evl.ixN_nat (by simpa using hj), ?_⟩
    rw [app_set, ← List.map_set]
    walk_at "w"
    refine v_sumL (ns := takeF b (colAt cols i) (colAt cols (i - 1)) (.read j d)) (by show lk (cs1 ++ _) (.cell _) = _; exact lk_cell app_get) ?_
    walk_at "w"
    exact (fin x11 x12).resolve_right (fun z => nomatch z)
  all_goals
    dsimp only [actD, encO] at fin ⊢
    walk_at "w"
    refine v_ixK (xs := cols.map encC) hk (atI_map (colAt_get hi)) ?_
    walk_at "w"
    refine v_listL (xs := (colAt cols i).map .int) rfl ?_
    walk_at "w"
    refine v_sumL (ns := colAt cols i) (by show lk (cs1 ++ _) (.cell _) = _; exact lk_cell app_get) ?_
    walk_at "w"
    exact (fin x11 x12).resolve_right (fun z => nomatch z)
end
section
variable {b r : Int}
def toOp : Option Dd → Op
  | none => .right
  | some t => match t.1 with
    | .forget => .forget
    | .again => .again
    | .off => .off (ax t)
    | .read => .read (jx t) (dx t)
    | .copy => .copy (jx t)
    | .swap => .swap
    | .out => .out
    | .twice => .twice
theorem toOp_enc {t : Dd} (h : t ∈ allD b r) : encO (toOp (some t)) = encD t := by
  have h := isD_of h
  obtain ⟨w, l⟩ := t
  cases w <;> simp only [isD] at h
  case off => obtain ⟨d, rfl, _⟩ := h; rfl
  case read =>
    obtain ⟨j, d, rfl, h1, _⟩ := h
    show D.tup [.str "read", .int ((j.toNat : Nat) : Int), .int d] = D.tup [.str "read", .int j, .int d]
    rw [Int.toNat_of_nonneg h1]
  case copy =>
    obtain ⟨j, rfl, h1, _⟩ := h
    show D.tup [.str "copy", .int ((j.toNat : Nat) : Int)] = D.tup [.str "copy", .int j]
    rw [Int.toNat_of_nonneg h1]
  all_goals subst h; rfl
theorem toOp_ok {od : Option Dd} (h : ∀ t, od = some t → t ∈ allD b r) : okO b r (toOp od) := by
  cases od with
  | none => trivial
  | some t =>
    have h := isD_of (h t rfl)
    obtain ⟨w, l⟩ := t
    cases w <;> simp only [isD] at h
    case off => obtain ⟨d, rfl, h1, h2⟩ := h; exact ⟨h1, h2⟩
    case read =>
      obtain ⟨j, d, rfl, h1, h2, h3, h4⟩ := h
      show ((j.toNat : Nat) : Int) < r ∧ 1 ≤ d ∧ d < b
      exact ⟨by omega, h3, h4⟩
    case copy =>
      obtain ⟨j, rfl, h1, h2⟩ := h
      show ((j.toNat : Nat) : Int) < r
      omega
    all_goals trivial
theorem toOp_right {od : Option Dd} : toOp od = .right ↔ od = none := by
  cases od with
  | none => exact ⟨fun _ => rfl, fun _ => rfl⟩
  | some t =>
    obtain ⟨w, l⟩ := t
    cases w <;> exact ⟨(fun z => nomatch z), (fun z => nomatch z)⟩
theorem toOp_ne {t : Dd} : toOp (some t) ≠ .right := fun z => by cases toOp_right.mp z
theorem take_ad (c pv : List Int) (od : Option Dd) : takeF b c pv (toOp od) = adF b pv c od := by
  cases od with
  | none => rfl
  | some t =>
    obtain ⟨w, l⟩ := t
    cases w <;> rfl
theorem wd_forget {od : Option Dd} : toOp od = .forget ↔ wdOf od = some .forget := by
  cases od with
  | none => exact ⟨(fun z => nomatch z), (fun z => nomatch z)⟩
  | some t =>
    obtain ⟨w, l⟩ := t
    cases w <;> first | exact ⟨fun _ => rfl, fun _ => rfl⟩ | exact ⟨(fun z => nomatch z), (fun z => nomatch z)⟩
theorem wd_copy {od : Option Dd} : (∃ j, toOp od = .copy j) ↔ wdOf od = some .copy := by
  cases od with
  | none => exact ⟨(fun ⟨_, z⟩ => nomatch z), (fun z => nomatch z)⟩
  | some t =>
    obtain ⟨w, l⟩ := t
    cases w <;> first | exact ⟨fun _ => rfl, fun _ => ⟨_, rfl⟩⟩ | exact ⟨(fun ⟨_, z⟩ => nomatch z), (fun z => nomatch z)⟩
/-- one column, by cases -/
theorem rn_go {i : Nat} {pv : List Int} {w : Wr} {y : Pl} (hw : w.wt ≠ none → y.2 = none) (hc : wdOf y.2 = some .copy → i ≠ 0) (hf : wdOf y.2 = some .forget → (y.1.sum + w.k) / b ≠ 0) :
    rnS b i pv w y = some (w2F b (w1F b w (adF b pv y.1 y.2).sum y.2) (adF b pv y.1 y.2).sum y.2) := by
  unfold rnS
  refine if_neg ?_
  rintro (⟨h1, h2⟩ | ⟨h1, h2⟩ | ⟨h1, h2⟩)
  · exact h1 (hw h2)
  · exact hc h1 h2
  · exact hf h1 h2
theorem rn_wait {i : Nat} {pv : List Int} {w : Wr} {y : Pl} (h1 : y.2 ≠ none) (h2 : w.wt ≠ none) : rnS b i pv w y = none := if_pos (.inl ⟨h1, h2⟩)
theorem rn_copy {pv : List Int} {w : Wr} {y : Pl} (h1 : wdOf y.2 = some .copy) : rnS b 0 pv w y = none := if_pos (.inr (.inl ⟨h1, rfl⟩))
theorem rn_forget {i : Nat} {pv : List Int} {w : Wr} {y : Pl} (h1 : wdOf y.2 = some .forget) (h2 : (y.1.sum + w.k) / b = 0) : rnS b i pv w y = none := if_pos (.inr (.inr ⟨h1, h2⟩))
theorem wr_out {s : Int} {w : Wr} {od : Option Dd} (h : toOp od = .out) : w2F b (w1F b w s od) s od = w := by
  cases od with
  | none => cases h
  | some t =>
    obtain ⟨x, l⟩ := t
    cases x <;> first | rfl | cases h
theorem wr_swap {s : Int} {w : Wr} {od : Option Dd} (hw : w.wt = none) (h : toOp od = .swap) : w2F b (w1F b w s od) s od = ⟨w.figs, some ((s + w.k) % b), (s + w.k) / b⟩ := by
  cases od with
  | none => cases h
  | some t =>
    obtain ⟨x, l⟩ := t
    obtain ⟨f, wt, k⟩ := w
    dsimp only at hw
    subst hw
    cases x <;> first | rfl | cases h
theorem wr_else {s : Int} {w : Wr} {od : Option Dd} {c : List Int} (hs : c.sum = s) (hw : w.wt ≠ none → od = none) (h1 : toOp od ≠ .out) (h2 : toOp od ≠ .swap) :
    w2F b (w1F b w s od) s od = ⟨w.figs ++ [f1 b (s + w.k) (toOp od)] ++ oW w.wt ++ w3 b c (toOp od) ((s + w.k) / b), none, k3 b c (toOp od) ((s + w.k) / b)⟩ := by
  obtain ⟨f, wt, k⟩ := w
  dsimp only at hw ⊢
  cases wt with
  | some v =>
    cases hw (fun z => nomatch z)
    simp [w2F, w1F, wdOf, toOp, f1, oW, w3, k3]
  | none =>
    cases od with
    | none => simp [w2F, w1F, wdOf, toOp, f1, oW, w3, k3]
    | some t =>
      obtain ⟨x, l⟩ := t
      subst hs
      cases x <;> first | exact absurd rfl h1 | exact absurd rfl h2 | simp [w2F, w1F, wdOf, toOp, f1, oW, w3, k3]
theorem rnI_none {pl : List Pl} {i : Nat} (h : rnI b pl i = none) : ∀ k, i ≤ k → rnI b pl k = none := by
  intro k hk
  induction k with
  | zero => rw [show (0 : Nat) = i by omega]; exact h
  | succ k ih =>
    by_cases e : i = k + 1
    · rw [← e]; exact h
    · show (rnI b pl k).bind _ = none
      rw [ih (by omega)]
      rfl
/-- the dict of deeds -/
def dicF (S : List (Nat × Dd)) : List (Int × D) := S.map fun x => ((x.1 : Int), encD x.2)
theorem getI_lo : ∀ (pl : List Pl) (n k : Nat), k < n → getI (dicF (slF n pl)) (k : Int) = none
  | [], _, _, _ => rfl
  | (_, none) :: pl, n, k, h => getI_lo pl (n + 1) k (by omega)
  | (_, some t) :: pl, n, k, h => by
    show (if ((n : Nat) : Int) = (k : Int) then some (encD t) else getI (dicF (slF (n + 1) pl)) k) = none
    rw [if_neg (by omega)]
    exact getI_lo pl (n + 1) k (by omega)
theorem getI_F : ∀ (pl : List Pl) (n i : Nat), i < pl.length → getI (dicF (slF n pl)) ((n + i : Nat) : Int) = (pl.getD i ([], none)).2.map encD
  | [], _, _, h => absurd h (Nat.not_lt_zero _)
  | (c, none) :: pl, n, 0, _ => getI_lo pl (n + 1) n (by omega)
  | (c, some t) :: pl, n, 0, _ => by
    show (if ((n : Nat) : Int) = ((n + 0 : Nat) : Int) then some (encD t) else getI (dicF (slF (n + 1) pl)) _) = _
    rw [if_pos (by omega)]
    rfl
  | (c, none) :: pl, n, i + 1, h => by
    have := getI_F pl (n + 1) i (by simpa using h)
    rw [show n + 1 + i = n + (i + 1) by omega] at this
    exact this
  | (c, some t) :: pl, n, i + 1, h => by
    have := getI_F pl (n + 1) i (by simpa using h)
    rw [show n + 1 + i = n + (i + 1) by omega] at this
    show (if ((n : Nat) : Int) = ((n + (i + 1) : Nat) : Int) then some (encD t) else getI (dicF (slF (n + 1) pl)) _) = _
    rw [if_neg (by omega)]
    exact this
theorem sl_ge : ∀ (pl : List Pl) (n : Nat), ∀ x ∈ slF n pl, n ≤ x.1
  | [], _, _, h => by cases h
  | (_, none) :: pl, n, x, h => Nat.le_of_succ_le (sl_ge pl (n + 1) x h)
  | (_, some t) :: pl, n, x, h => by
    rcases List.mem_cons.mp h with rfl | h
    · exact Nat.le_refl _
    · exact Nat.le_of_succ_le (sl_ge pl (n + 1) x h)
theorem sl_asc : ∀ (pl : List Pl) (n : Nat), (slF n pl).Pairwise fun x y => x.1 < y.1
  | [], _ => .nil
  | (_, none) :: pl, n => sl_asc pl (n + 1)
  | (_, some t) :: pl, n => .cons (fun y hy => sl_ge pl (n + 1) y hy) (sl_asc pl (n + 1))
theorem putI_F {S : List (Nat × Dd)} (asc : S.Pairwise fun x y => x.1 < y.1) {k : Nat} {x : Nat × Dd} (h : S[k]? = some x) : putI (dicF (S.take k)) (x.1 : Int) (encD x.2) = dicF (S.take (k + 1)) := by
  have hk := (List.getElem?_eq_some_iff.mp h).1
  have e : ((dicF (S.take k)).any fun p => decide (p.1 = (x.1 : Int))) = false := by
    rw [List.any_eq_false]
    intro p hp
    obtain ⟨y, hy, rfl⟩ := List.mem_map.mp hp
    have hpw := asc
    have e0 : S = S.take k ++ x :: S.drop (k + 1) := by
      have e2 := List.drop_eq_getElem_cons hk
      rw [List.getElem?_eq_getElem hk, Option.some_inj] at h
      rw [h] at e2
      rw [← e2, List.take_append_drop]
    rw [e0] at hpw
    have := (List.pairwise_append.mp hpw).2.2 y hy x List.mem_cons_self
    rw [decide_eq_true_eq]
    show ¬ ((y.1 : Nat) : Int) = (x.1 : Int)
    omega
  unfold putI
  rw [e, if_neg Bool.false_ne_true, List.take_add_one, h]
  unfold dicF
  rw [List.map_append]
  rfl
theorem lk_apps {d : D} {xs : List D} : ∀ (l cs : List Cel), lk cs d = some xs → lk (cs ++ l) d = some xs
  | [], cs, h => by rw [List.append_nil]; exact h
  | c :: l, cs, h => by
    have := lk_apps l (cs ++ [c]) (lk_app h)
    rw [List.append_assoc] at this
    exact this
theorem lk_tk {cs cs1 : List Cel} {d : D} {xs : List D} (h : cs1.take cs.length = cs) (hk : lk cs d = some xs) : lk cs1 d = some xs := by
  have e := List.take_append_drop cs.length cs1
  rw [h] at e
  rw [← e]
  exact lk_apps _ _ hk
theorem v_itSK {d : D} {xs : List D} {e : En} {P : List D → (List Cel → Prop) → En → Prop} (h : lk e.cs d = some xs) (p : ∀ G : List Cel → Prop, (∀ cs', lk cs' d = some xs → G cs') → P xs G e) : itS d e P := by
  cases d with
  | lst ys => cases h; exact .inl ⟨_, rfl, p _ fun _ _ => trivial⟩
  | fro ys => cases h; exact .inl ⟨_, rfl, p _ fun _ _ => trivial⟩
  | cell n => exact .inr ⟨n, xs, rfl, lk_cell_iff h, p _ fun _ h => lk_cell_iff h⟩
  | _ => cases h
theorem rn_len {pl : List Pl} : ∀ (i : Nat) (w : Wr), rnI b pl i = some w → w.figs.length ≤ 3 * i
  | 0, w, h => by cases h; exact Nat.zero_le _
  | i + 1, w, h => by
    obtain ⟨w0, h0, h⟩ := Option.bind_eq_some_iff.mp h
    have ih := rn_len i w0 h0
    unfold rnS at h
    split at h
    · cases h
    · cases h
      have e1 : ∀ (s : Int) (od : Option Dd), (w1F b w0 s od).figs.length ≤ w0.figs.length + 2 := by
        intro s od
        unfold w1F
        split
        · omega
        · split
          · simp
          · split
            · simp
            · split <;> simp
      have e2 : ∀ (w : Wr) (s : Int) (od : Option Dd), (w2F b w s od).figs.length ≤ w.figs.length + 1 := by
        intro w s od
        unfold w2F
        split <;> simp
      have := e1 (adF b (pl.getD (i - 1) ([], none)).1 (pl.getD i ([], none)).1 (pl.getD i ([], none)).2).sum (pl.getD i ([], none)).2
      have := e2 (w1F b w0 (adF b (pl.getD (i - 1) ([], none)).1 (pl.getD i ([], none)).1 (pl.getD i ([], none)).2).sum (pl.getD i ([], none)).2) (adF b (pl.getD (i - 1) ([], none)).1 (pl.getD i ([], none)).1 (pl.getD i ([], none)).2).sum (pl.getD i ([], none)).2
      omega
end
section
variable {K : PySem.W.Frag}
theorem st_lrun {a b c : D} : startD N_law_run [a, b, c] = [some a, some b, some c, none, none, none, none, none, none, none, none, none, none] := rfl
theorem len_law_run : ∀ ds cs Q, sp_law_run K ds cs Q → ds.length = 3 := by rintro ds cs Q ⟨_, _, _, _, _, rfl, _⟩; rfl
theorem col_at {pl : List Pl} {i : Nat} (h : i < pl.length) : colAt (pl.map (·.1)) i = (pl.getD i ([], none)).1 := by
  unfold colAt
  rw [List.getD_eq_getElem?_getD, List.getD_eq_getElem?_getD, List.getElem?_map, List.getElem?_eq_getElem h]
  rfl
theorem vc_law_run : ∀ ds cs Q, Lo ds cs → LoC cs → sp_law_run K ds cs Q → t_law_run K (Po.fn cs Q) ⟨startD N_law_run ds, cs⟩ := by
  rintro ds cs Q hd hc ⟨b, r, d, d2, pl, rfl, hl, hl2, g, q⟩
  have b2 := g.b2
  have b12 := g.b12
  have gn := g.n
  have gd : Gd b r (pl.map (·.1)) := ⟨g.b2, g.b12, g.r1, g.r4, fun c hc => by
    obtain ⟨x, hx, rfl⟩ := List.mem_map.mp hc
    exact g.c x hx, by rw [List.length_map]; omega⟩
  have hsl : (slF 0 pl).length ≤ pl.length := sl_len pl 0
  rw [st_lrun]
  unfold t_law_run
  walk_at "w"
  refine v_itSK (lk_app hl2) fun G hG => ?_
  refine ⟨fun k e => ∃ y z, e = ⟨[some (.int b), some d, some d2, some (.cell cs.length), y, z, none, none, none, none, none, none, none], cs ++ [.dic (dicF ((slF 0 pl).take k))]⟩, ⟨none, none, rfl⟩, ?_, ?_⟩
  · rintro k x e1 hx ⟨y, z, rfl⟩
    rw [List.getElem?_map, Option.map_eq_some_iff] at hx
    obtain ⟨s, hs, rfl⟩ := hx
    refine ⟨hG _ (lk_app hl2), _, rfl, ?_⟩
    walk_at "w"
    refine ⟨_, _, _, rfl, rfl, app_get, Nat.lt_of_le_of_lt (show _ ≤ 1000 by unfold dicF; rw [List.length_map, List.length_take]; omega) (by decide), ?_⟩
    rw [app_set, putI_F (sl_asc pl 0) hs]
    walk_at "w"
    exact ⟨_, _, rfl⟩
  · rintro e1 ⟨y, z, rfl⟩
    rw [List.length_map, List.take_length]
    refine ⟨hG _ (lk_app hl2), ?_⟩
    walk_at "w"
    refine ⟨_, _, _, rfl, ?_⟩
    have el : (cs ++ [Cel.dic (dicF (slF 0 pl))]).length = cs.length + 1 := by simp
    rw [el]
    walk_at "w"
    refine v_lenK (e := ⟨_, _⟩) (xs := (pl.map (·.1)).map encC) (lk_app (lk_app hl)) ?_
    rw [List.length_map, List.length_map]
    walk_at "w"
    refine ⟨fun i e => ∃ (w : Wr) (x4 x5 x9 x10 x11 x12 : Option D) (cs1 : List Cel), rnI b pl i = some w ∧ cs1.take cs.length = cs ∧ cs1[cs.length]? = some (.dic (dicF (slF 0 pl))) ∧ cs1[cs.length + 1]? = some (.lst (w.figs.map .int)) ∧
      e = ⟨[some (.int b), some d, some d2, some (.cell cs.length), x4, x5, some (.cell (cs.length + 1)), some (oI w.wt), some (.int w.k), x9, x10, x11, x12], cs1⟩, ?_, ?_, ?_⟩
    · exact ⟨⟨[], none, 0⟩, y, z, none, none, none, none, (cs ++ [.dic (dicF (slF 0 pl))]) ++ [.lst []], rfl, by simp, g3b, g3c, rfl⟩
    · rintro i dd e1 hi ⟨w, x4, x5, x9, x10, x11, x12, cs1, F, ht, hD, hf, rfl⟩
      obtain ⟨hi1, rfl⟩ := intsD_get hi
      rw [show (((pl.length : Nat) : Int)).toNat = pl.length from rfl] at hi1
      refine ⟨trivial, _, rfl, ?_⟩
      rw [Int.zero_add]
      walk_at "w"
      refine ⟨⟨_, _, rfl, hD⟩, ?_⟩
      walk_at "w"
      refine ⟨_, _, _, rfl, rfl, hD, ?_⟩
      have hget := getI_F pl 0 i hi1
      rw [Nat.zero_add] at hget
      rw [hget]
      have hlen := rn_len i w F
      have hstep : rnI b pl (i + 1) = rnS b i (pl.getD (i - 1) ([], none)).1 w (pl.getD i ([], none)) := by
        show (rnI b pl i).bind _ = _
        rw [F]
        rfl
      have hbad : rnI b pl (i + 1) = none → Q .non cs := fun z => by
        have := rnI_none z pl.length (by omega)
        have q := q
        unfold rnF at q
        rw [this] at q
        exact q
      have hok : ∀ t, (pl.getD i ([], none)).2 = some t → t ∈ allD b r := by
        intro t ht
        refine g.d (pl.getD i ([], none)) ?_ t ht
        rw [List.getD_eq_getElem?_getD, List.getElem?_eq_getElem hi1]
        exact List.getElem_mem hi1
      have hcol : colAt (pl.map (·.1)) i = (pl.getD i ([], none)).1 := col_at hi1
      have hpv : colAt (pl.map (·.1)) (i - 1) = (pl.getD (i - 1) ([], none)).1 := col_at (by omega)
      generalize hy : pl.getD i ([], none) = yy at hget hstep hok hcol
      obtain ⟨c, od⟩ := yy
      generalize hpvv : (pl.getD (i - 1) ([], none)).1 = pv at hstep hpv
      dsimp only at hget hstep hok hcol hbad
      have hact : (Option.map encD od).getD (.tup [.str "rightly"]) = actD (toOp od) := by
        cases od with
        | none => rfl
        | some t => exact ((actD_ne toOp_ne).trans (toOp_enc (hok t rfl))).symm
      have hso : (Option.map encD od).isSome = !decide (toOp od = .right) := by
        cases od with
        | none => rfl
        | some t => rw [decide_eq_false toOp_ne]; rfl
      dsimp only
      rw [hact]
      have hcl := (List.getElem?_eq_some_iff.mp hf).1
      have hkc : lk cs1 d = some ((pl.map (·.1)).map encC) := lk_tk ht hl
      have hgo := toOp_ok hok
      have htk : tot b c pv (toOp od) w.k = (adF b pv c od).sum + w.k := by unfold tot; rw [take_ad]
      have hfs : toOp od = .forget → adF b pv c od = c := fun z => by rw [← take_ad, z]; rfl
      -- the column itself
      have main : (w.wt ≠ none → od = none) → (wdOf od = some .copy → i ≠ 0) → u_law_run_0 K (((Po.fn cs Q).thn (sRet (eFz (eTup (aCons (eV 6) (aCons (eV 7) (aCons (eV 8) aNil))))))).lp fun e => ∃ (w : Wr) (x4 x5 x9 x10 x11 x12 : Option D) (cs1 : List Cel), rnI b pl (i + 1) = some w ∧ cs1.take cs.length = cs ∧ cs1[cs.length]? = some (.dic (dicF (slF 0 pl))) ∧ cs1[cs.length + 1]? = some (.lst (w.figs.map .int)) ∧
          e = ⟨[some (.int b), some d, some d2, some (.cell cs.length), x4, x5, some (.cell (cs.length + 1)), some (oI w.wt), some (.int w.k), x9, x10, x11, x12], cs1⟩)
          ⟨[some (.int b), some d, some d2, some (.cell cs.length), x4, some (actD (toOp od)), some (.cell (cs.length + 1)), some (oI w.wt), some (.int w.k), some (.int (i : Int)), x10, x11, x12], cs1⟩ := by
        intro z1 z2
        rw [hstep]
        have et : ∀ y c, ((cs1 ++ [y]).set (cs.length + 1) c).take cs.length = cs := fun y c => by
          rw [List.set_append_left _ _ hcl, List.take_append_of_le_length (by rw [List.length_set]; omega), List.take_set, ht]
          exact List.set_eq_of_length_le (by omega)
        have z1' : w.wt ≠ none → od = none := z1
        refine w_run_0 (r := r) hkc gd (by rw [List.length_map]; exact hi1) hgo (fun h => z2 (wd_copy.mp h)) hf (by omega) ?_ ?_ ?_ ?_
        · intro ho
          have e : rnS b i pv w (c, od) = some w := by
            rw [rn_go z1 z2 (fun z => by have := wd_forget.mpr z; rw [ho] at this; cases this)]
            exact congrArg some (wr_out ho)
          rw [e]
          walk_at "w"
          exact ⟨_, _, _, _, _, _, _, cs1, rfl, ht, hD, hf, rfl⟩
        · intro ho y10 y11 y12
          have hw : w.wt = none := by
            cases h : w.wt with
            | none => rfl
            | some v =>
              have := z1 (by rw [h]; exact fun z => nomatch z)
              subst this
              cases ho
          have e : rnS b i pv w (c, od) = some ⟨w.figs, some (((adF b pv c od).sum + w.k) % b), ((adF b pv c od).sum + w.k) / b⟩ := by
            rw [rn_go z1 z2 (fun z => by have := wd_forget.mpr z; rw [ho] at this; cases this)]
            exact congrArg some (wr_swap hw ho)
          rw [e, hcol, hpv, htk]
          walk_at "w"
          exact ⟨_, _, _, _, _, _, _, cs1 ++ [_], rfl, by rw [List.take_append_of_le_length (by omega)]; exact ht, app_get_lt hD, app_get_lt hf, rfl⟩
        · intro ho hk xs y
          rw [hcol, hpv, htk, hfs ho] at hk
          walk_at "w"
          exact trim_back (et _ _) rfl (hbad (hstep.trans (rn_forget (wd_forget.mp ho) hk)))
        · intro n1 n2 n3 y y10 y11 y12
          rw [hcol, hpv] at n3 ⊢
          have e : rnS b i pv w (c, od) = some ⟨w.figs ++ [f1 b (tot b c pv (toOp od) w.k) (toOp od)] ++ oW w.wt ++ w3 b (takeF b c pv (toOp od)) (toOp od) (tot b c pv (toOp od) w.k / b), none, k3 b (takeF b c pv (toOp od)) (toOp od) (tot b c pv (toOp od) w.k / b)⟩ := by
            rw [rn_go z1 z2 (fun z => by
              have ho := wd_forget.mpr z
              have := n3 ho
              rw [htk, hfs ho] at this
              exact this), htk]
            exact congrArg some (wr_else (by rw [take_ad]) z1 n1 n2)
          rw [e]
          walk_at "w"
          refine ⟨_, _, _, _, _, _, _, _, rfl, et _ _, ?_, set_get (app_get_lt hf), rfl⟩
          exact set_other (app_get_lt hD) (by omega)
      generalize u_law_run_0 K = T at main ⊢
      walk_at "w"
      refine ⟨_, _, _, rfl, rfl, hD, _, rfl, ?_⟩
      rw [hget, hso]
      by_cases hr : od = none
      · subst hr
        rw [show (!decide (toOp none = Op.right)) = false from rfl]
        have main := main (fun _ => rfl) (fun z => nomatch z)
        dsimp only [toOp, actD] at main ⊢
        walk_at "w"
        exact main
      · rw [decide_eq_false (fun z => hr (toOp_right.mp z))]
        rw [show (!false) = true from rfl]
        obtain ⟨figs, wt, k⟩ := w
        cases wt with
        | some v =>
          dsimp only [oI]
          walk_at "w"
          exact trim_back ht rfl (hbad (hstep.trans (rn_wait hr (fun z => nomatch z))))
        | none =>
          cases ho : toOp od
          case copy j =>
            rw [ho] at main
            have e : actD (.copy j) = .tup [.str "copy", .int (j : Nat)] := rfl
            rw [e] at main ⊢
            dsimp only [oI] at main ⊢
            walk_at "w"
            refine v_itd (fun h => ?_) (fun h => ?_)
            · walk_at "w"
              have hi0 : i = 0 := by omega
              subst hi0
              exact trim_back ht rfl (hbad (hstep.trans (rn_copy (wd_copy.mp ⟨j, ho⟩))))
            · walk_at "w"
              exact main (fun z => absurd rfl z) (fun _ z => h (by rw [z]; rfl))
          case right => exact absurd (toOp_right.mp ho) hr
          all_goals
            rw [ho] at main
            have main := main (fun z => absurd rfl z) (fun z => by
              obtain ⟨_, z⟩ := wd_copy.mpr z
              rw [ho] at z
              cases z)
            dsimp only [oI, actD, encO] at main ⊢
            walk_at "w"
            exact main
    · rintro e1 ⟨w, x4, x5, x9, x10, x11, x12, cs1, F, ht, hD, hf, rfl⟩
      rw [intsD_len, show (((pl.length : Nat) : Int)).toNat = pl.length from rfl] at F
      refine ⟨trivial, ?_⟩
      walk_at "w"
      have et : (cs1.set (cs.length + 1) .dead).take cs.length = cs := by
        rw [List.take_set, ht]
        exact List.set_eq_of_length_le (by omega)
      have q3 : Q (.tup [.lst (w.figs.map .int), oI w.wt, .int w.k]) cs := by
        unfold rnF at q
        rw [F] at q
        exact q
      obtain ⟨ws, wt, k⟩ := w
      dsimp only at hf q3 ⊢
      refine ⟨.tup [.lst (ws.map .int), oI wt, .int k], _, Fzs.one hf (by
        have e : subC (cs.length + 1) (ws.map .int) (.tup [.cell (cs.length + 1), oI wt, .int k]) = .tup [.lst (ws.map .int), oI wt, .int k] := by cases wt <;> simp [subC, subCs, oI]
        rw [e]
        exact .nil), ?_⟩
      refine trim_back et ?_ q3
      show (los _ (ws.map .int) && (loD _ (oI wt) && true)) = true
      rw [los_int]
      cases wt <;> rfl
end
section
variable {b : Int}
theorem rnI_front {p q : List Pl} : ∀ i, i ≤ p.length → rnI b (p ++ q) i = rnI b p i
  | 0, _ => rfl
  | i + 1, h => by
    show (rnI b (p ++ q) i).bind _ = (rnI b p i).bind _
    rw [rnI_front i (by omega)]
    have e1 : (p ++ q).getD i ([], none) = p.getD i ([], none) := by
      rw [List.getD_eq_getElem?_getD, List.getD_eq_getElem?_getD, List.getElem?_append_left (by omega)]
    have e2 : (p ++ q).getD (i - 1) ([], none) = p.getD (i - 1) ([], none) := by
      rw [List.getD_eq_getElem?_getD, List.getD_eq_getElem?_getD, List.getElem?_append_left (by omega)]
    rw [e1, e2]
theorem rnS_pv {i : Nat} {pv pv' : List Int} {w : Wr} {x : Pl} (h : i = 0 ∨ pv = pv') : rnS b i pv w x = rnS b i pv' w x := by
  rcases h with rfl | rfl
  · by_cases hc : wdOf x.2 = some .copy
    · rw [rn_copy hc, rn_copy hc]
    · have e : adF b pv x.1 x.2 = adF b pv' x.1 x.2 := by
        obtain ⟨c, od⟩ := x
        cases od with
        | none => rfl
        | some t =>
          obtain ⟨wd, ns⟩ := t
          cases wd <;> first | rfl | exact absurd rfl hc
      unfold rnS
      rw [e]
  · rfl
theorem rnF_snoc (p : List Pl) (x : Pl) : rnF b (p ++ [x]) = (rnF b p).bind fun w => rnS b p.length (lcF b p) w x := by
  unfold rnF
  rw [List.length_append, List.length_singleton]
  show (rnI b (p ++ [x]) p.length).bind _ = _
  rw [rnI_front p.length (Nat.le_refl _)]
  congr 1
  funext w
  have e1 : (p ++ [x]).getD p.length ([], none) = x := by
    rw [List.getD_eq_getElem?_getD, List.getElem?_append_right (Nat.le_refl _), Nat.sub_self]
    rfl
  rw [e1]
  refine rnS_pv ?_
  rcases List.eq_nil_or_concat p with rfl | ⟨q, y, rfl⟩
  · exact .inl rfl
  · refine .inr ?_
    rw [List.concat_eq_append, lcF_snoc, List.length_append, List.length_singleton, Nat.add_sub_cancel, List.getD_eq_getElem?_getD, List.append_assoc, List.getElem?_append_right (Nat.le_refl _), Nat.sub_self]
    rfl
theorem rnF_nil : rnF b [] = some ⟨[], none, 0⟩ := rfl
theorem div_zero {s k : Int} (b2 : 2 ≤ b) (h0 : 0 ≤ s + k) : (s + k) / b = 0 ↔ ¬ (s + k ≥ b) := by
  constructor
  · intro h z
    have : 1 ≤ (s + k) / b := Int.le_ediv_of_mul_le (by omega) (by omega)
    omega
  · intro h
    exact Int.ediv_eq_zero_of_lt h0 (by omega)
/-- where a plan can be gone, the next column's deed is possible just if the run says so -/
theorem rn_step {r m : Int} {s : List Dd} {p : List Pl} {x : Pl} (po : Po1 b r s m p) (hc : okC b r x.1 = true) (hw : x.2 ≠ none → (wrF b p).wt = none) (hm : ((slF 0 p).length : Int) < m) :
    rnS b p.length (lcF b p) (wrF b p) x = if (∀ t, x.2 = some t → psL b m p x.1 t = true) then some (wrF b (p ++ [x])) else none := by
  have b2 := po.k.n.b2
  have hs := okC_bd hc po.k.n.b12 po.k.n.r4
  have hk := (wr_bd p po).k0
  have h0 : 0 ≤ x.1.sum + (wrF b p).k := by omega
  rw [wrF_snoc]
  obtain ⟨c, od⟩ := x
  cases od with
  | none =>
    rw [if_pos (fun _ z => nomatch z)]
    exact rn_go (fun _ => rfl) (fun z => nomatch z) (fun z => nomatch z)
  | some t =>
    have hw1 : (wrF b p).wt = none := hw (fun z => nomatch z)
    have hps : psL b m p c t = match t.1 with
        | .copy => decide (0 < p.length)
        | .forget => decide (c.sum + (wrF b p).k ≥ b)
        | _ => true := by
      have e0 : ¬ ((wrF b p).wt ≠ none ∨ ((slF 0 p).length : Int) ≥ m) := by
        rw [hw1]
        rintro (z | z)
        · exact z rfl
        · omega
      unfold psL
      obtain ⟨wd, ns⟩ := t
      cases wd <;> exact if_neg e0
    have all : (∀ t', some t = some t' → psL b m p c t' = true) ↔ psL b m p c t = true := ⟨fun z => z t rfl, fun z t' e => by cases e; exact z⟩
    dsimp only
    simp only [all]
    rw [hps]
    obtain ⟨wd, ns⟩ := t
    cases wd
    case copy =>
      dsimp only
      by_cases hp : p.length = 0
      · rw [if_neg (by rw [decide_eq_true_eq]; omega)]
        rw [hp]
        exact rn_copy rfl
      · rw [if_pos (by rw [decide_eq_true_eq]; omega)]
        exact rn_go (fun z => absurd hw1 z) (fun _ => hp) (fun z => nomatch z)
    case forget =>
      dsimp only
      by_cases hf : c.sum + (wrF b p).k ≥ b
      · rw [if_pos (decide_eq_true hf)]
        exact rn_go (fun z => absurd hw1 z) (fun z => nomatch z) (fun _ z => (div_zero b2 h0).mp z hf)
      · rw [if_neg (by rw [decide_eq_true_eq]; exact hf)]
        exact rn_forget rfl ((div_zero b2 h0).mpr hf)
    all_goals
      dsimp only
      rw [if_pos rfl]
      exact rn_go (fun z => absurd hw1 z) (fun z => nomatch z) (fun z => nomatch z)
theorem ps_lt {m : Int} {p : List Pl} {col : List Int} {t : Dd} (h : psL b m p col t = true) : (wrF b p).wt = none ∧ ((slF 0 p).length : Int) < m := by
  unfold psL at h
  split at h
  · cases h
  · rename_i z
    exact ⟨Classical.byContradiction fun q => z (.inl q), by
      refine Classical.byContradiction fun q => z (.inr ?_)
      omega⟩
theorem rn_po {r m : Int} {s : List Dd} : ∀ pl, Po1 b r s m pl → rnF b pl = some (wrF b pl) := by
  apply snoc_ind
  · exact fun _ => rfl
  · intro p x ih h
    rw [rnF_snoc, ih h.front]
    show rnS b p.length (lcF b p) (wrF b p) x = _
    obtain ⟨c, od⟩ := x
    cases od with
    | none =>
      rw [wrF_snoc]
      exact rn_go (fun _ => rfl) (fun z => nomatch z) (fun z => nomatch z)
    | some t =>
      have hp := (h.last.2 t rfl).2
      have hl := ps_lt hp
      rw [rn_step h.front h.last.1 (fun _ => hl.1) hl.2, if_pos (fun t' e => by cases e; exact hp)]
theorem Po1.gr {r m : Int} {s : List Dd} {pl : List Pl} (h : Po1 b r s m pl) (hn : pl.length ≤ 300) : Gr b r pl :=
  ⟨h.k.n.b2, h.k.n.b12, h.k.n.r1, h.k.n.r4, h.c, fun x hx t ht => by
    obtain ⟨i, hi⟩ := List.getElem?_of_mem hx
    exact h.k.sub _ (h.d i x t hi ht).1, hn⟩
end
section
variable {K : PySem.W.Frag}
theorem st_ldi {a b c : D} : startD N_Ledger_init [a, b, c] = [some a, some b, some c] := rfl
theorem len_Ledger_init : ∀ ds cs Q, sp_Ledger_init K ds cs Q → ds.length = 3 := by rintro ds cs Q ⟨_, _, _, _, _, _, _, rfl, _⟩; rfl
theorem vc_Ledger_init : ∀ ds cs Q, Lo ds cs → LoC cs → sp_Ledger_init K ds cs Q → t_Ledger_init K (Po.fn cs Q) ⟨startD N_Ledger_init ds, cs⟩ := by
  rintro ds cs Q hd hc ⟨n, b, r, m, es, d, l, rfl, hn, hl, hf, gl, q⟩
  have hll := gl.len
  rw [st_ldi]
  unfold t_Ledger_init
  walk_at "w"
  refine ⟨d, l, rfl, hl, hf, gl, ?_⟩
  walk_at "w"
  refine v_listL (seq_lk (lk_set hl hn fun _ z => nomatch z)) ?_
  walk_at "w"
  have hnl := (List.getElem?_eq_some_iff.mp hn).1
  simp only [List.set_append, List.length_set, hnl, if_true, List.set_set]
  exact .inl q
theorem hs_len {b r m : Int} {es : List Dd} {l : List Int} {pl : List Pl} : (hsF b r es m l pl).length = pl.length := by
  unfold hsF
  rw [List.length_map, List.length_range]
theorem Ld.ins {cs : List Cel} {n h : Nat} {b r m : Int} {es : List Dd} {l : List Int} {pl : List Pl} (L : Ld K cs n h b r es m l pl) : insD cs (.cell n) = some (He.ga K "Ledger", ldN, [kiD K b r es m, .lst (l.map .int), .cell h]) := ins_cell L.at_
theorem len_Ledger_len : ∀ ds cs Q, sp_Ledger_len K ds cs Q → ds.length = 1 := by rintro ds cs Q ⟨_, _, _, _, _, _, _, _, rfl, _⟩; rfl
theorem vc_Ledger_len : ∀ ds cs Q, Lo ds cs → LoC cs → sp_Ledger_len K ds cs Q → t_Ledger_len K (Po.fn cs Q) ⟨startD N_Ledger_len ds, cs⟩ := by
  rintro ds cs Q hd hc ⟨n, h, b, r, m, es, l, pl, rfl, L, q⟩
  have hi := L.ins
  unfold t_Ledger_len
  walk_at "w"
  refine v_lenK (lk_cell L.hs) ?_
  walk_at "w"
  rw [hs_len]
  exact .inl q
theorem len_Ledger_standing : ∀ ds cs Q, sp_Ledger_standing K ds cs Q → ds.length = 1 := by rintro ds cs Q ⟨_, _, _, _, _, _, _, _, rfl, _⟩; rfl
theorem vc_Ledger_standing : ∀ ds cs Q, Lo ds cs → LoC cs → sp_Ledger_standing K ds cs Q → t_Ledger_standing K (Po.fn cs Q) ⟨startD N_Ledger_standing ds, cs⟩ := by
  rintro ds cs Q hd hc ⟨n, h, b, r, m, es, l, pl, rfl, L, q⟩
  have hi := L.ins
  have hlk := lk_cell L.hs
  have hl2 := L.n2
  unfold t_Ledger_standing
  walk_at "w"
  refine v_lenK hlk ?_
  walk_at "w"
  rw [hs_len]
  walk_at "w"
  rcases List.eq_nil_or_concat pl with rfl | ⟨p, x, rfl⟩
  · rw [decide_eq_true (show ((([] : List Pl).length : Nat) : Int) = 0 from rfl)]
    walk_at "w"
    refine ⟨b, r, m, es, _, l, rfl, rfl, (fun _ z => nomatch z), L.l, ?_⟩
    rw [doc_nil L.l] at q
    walk_at "w"
    exact .inl q
  · rw [List.concat_eq_append] at *
    rw [decide_eq_false (by rw [List.length_append, List.length_singleton]; omega)]
    walk_at "w"
    have hat : atI (hsF b r es m l (p ++ [x])) (-1) = some (hsE b r es m l (p ++ [x]) p.length) := by
      unfold hsF
      exact atI_end (by rw [List.length_append, List.length_singleton, List.length_range, Nat.add_sub_cancel, List.getElem?_range (by omega)])
    refine v_ixK hlk hat ?_
    unfold hsE
    walk_at "w"
    rw [show (p ++ [x]).take (p.length + 1) = p ++ [x] from List.take_of_length_le (by rw [List.length_append, List.length_singleton]; omega)]
    exact .inl q
theorem len_Ledger_waits : ∀ ds cs Q, sp_Ledger_waits K ds cs Q → ds.length = 1 := by rintro ds cs Q ⟨_, _, _, _, _, _, _, _, rfl, _⟩; rfl
theorem vc_Ledger_waits : ∀ ds cs Q, Lo ds cs → LoC cs → sp_Ledger_waits K ds cs Q → t_Ledger_waits K (Po.fn cs Q) ⟨startD N_Ledger_waits ds, cs⟩ := by
  rintro ds cs Q hd hc ⟨n, h, b, r, m, es, l, pl, rfl, L, q⟩
  have hi := L.ins
  unfold t_Ledger_waits
  walk_at "w"
  refine ⟨n, h, b, r, m, es, l, pl, rfl, L, ?_⟩
  unfold encSt
  rw [show (docF b r es m l pl).wt = (wrF b pl).wt from rfl]
  walk_at "w"
  refine oI_isnot ?_
  walk_at "w"
  rw [show decide ((wrF b pl).wt ≠ none) = (wrF b pl).wt.isSome by cases (wrF b pl).wt <;> rfl]
  exact .inl q
end
section
variable {K : PySem.W.Frag}
theorem hs_at {b r m : Int} {es : List Dd} {l : List Int} {pl : List Pl} {i : Nat} (h : i < pl.length) : (hsF b r es m l pl)[i]? = some (hsE b r es m l pl i) := by
  unfold hsF
  rw [List.getElem?_map, List.getElem?_range h]
  rfl
theorem cols_hs {b r m : Int} {es : List Dd} {l : List Int} {pl : List Pl} : (pl.map (·.1)).map encC = (List.range pl.length).map fun i => encC (pl.getD i ([], none)).1 := by
  apply List.ext_getElem?
  intro i
  rw [List.getElem?_map, List.getElem?_map, List.getElem?_map]
  rcases Nat.lt_or_ge i pl.length with h | h
  · rw [List.getElem?_range h, List.getElem?_eq_getElem h]
    show some (encC pl[i].1) = some (encC (pl.getD i ([], none)).1)
    rw [List.getD_eq_getElem?_getD, List.getElem?_eq_getElem h]
    rfl
  · rw [List.getElem?_eq_none h, List.getElem?_eq_none (by rw [List.length_range]; exact h)]
    rfl
theorem len_Ledger_sheet : ∀ ds cs Q, sp_Ledger_sheet K ds cs Q → ds.length = 1 := by rintro ds cs Q ⟨_, _, _, _, _, _, _, _, rfl, _⟩; rfl
theorem vc_Ledger_sheet : ∀ ds cs Q, Lo ds cs → LoC cs → sp_Ledger_sheet K ds cs Q → t_Ledger_sheet K (Po.fn cs Q) ⟨startD N_Ledger_sheet ds, cs⟩ := by
  rintro ds cs Q hd hc ⟨n, h, b, r, m, es, l, pl, rfl, L, q⟩
  have hi := L.ins
  have hlk := lk_cell L.hs
  have hn2 := L.n2
  have gd : Gd b r (pl.map (·.1)) := ⟨L.e.k.n.b2, L.e.k.n.b12, L.e.k.n.r1, L.e.k.n.r4, fun c hc => by
    obtain ⟨x, hx, rfl⟩ := List.mem_map.mp hc
    exact L.p.c x hx, by rw [List.length_map]; omega⟩
  unfold t_Ledger_sheet
  walk_at "w"
  refine ⟨⟨_, _, rfl⟩, b, r, m, es, rfl, ?_⟩
  walk_at "w"
  refine ⟨⟨_, _, rfl⟩, b, r, m, es, rfl, ?_⟩
  walk_at "w"
  refine v_itK hlk fun G hG => ?_
  unfold hsF
  refine v_lcY (List.range pl.length) (hsE b r es m l pl) (fun i => encC (pl.getD i ([], none)).1) rfl (by rw [List.length_range]; omega) (fun Q' i x hx q' => ⟨_, rfl, ?_⟩) ?_ hG
  · unfold hsE
    walk_at "w"
    exact q'
  rw [← cols_hs (b := b) (r := r) (m := m) (es := es) (l := l)]
  walk_at "w"
  rcases q with q | q
  · refine ⟨_, .lst ((pl.map (·.1)).map encC), pl.map (·.1), b, r, rfl, app_get, rfl, (fun _ z => nomatch z), gd, .inl ?_⟩
    rw [app_set]
    walk_at "w"
    rw [List.length_map]
    refine ⟨rfl, .inr ⟨_, _, _, _, rfl, rfl, ?_, fun c hc => .inl hc, ?_⟩⟩
    · show (true && (true && (los _ ((pl.map (·.1)).map encC) && (true && true)))) = true
      rw [los_encC] <;> rfl
    · rw [show (D.ins (He.ga K "Sheet") shN [.int b, .int r, .lst ((pl.map (·.1)).map encC), .int pl.length]) = shD K b r (pl.map (·.1)) by unfold shD; rw [List.length_map]]
      exact .inl q
  · refine ⟨_, .lst ((pl.map (·.1)).map encC), pl.map (·.1), b, r, rfl, app_get, rfl, (fun _ z => nomatch z), gd, .inr ?_⟩
    rw [app_set]
    walk_at "w"
    rw [List.length_map, List.length_append, List.length_singleton, List.append_assoc]
    exact ⟨rfl, .inl (.inl q)⟩
theorem sl_hs : ∀ (pl : List Pl) (n : Nat), slF n pl = ((List.range pl.length).filter fun i => (pl.getD i ([], none)).2.isSome).map fun i => (n + i, ((pl.getD i ([], none)).2.getD (.swap, [])))
  | [], _ => rfl
  | x :: pl, n => by
    have ih := sl_hs pl (n + 1)
    rw [List.length_cons, List.range_succ_eq_map, List.filter_cons]
    have e : (List.map Nat.succ (List.range pl.length)).filter (fun i => ((x :: pl).getD i ([], none)).2.isSome) = ((List.range pl.length).filter fun i => (pl.getD i ([], none)).2.isSome).map Nat.succ := by
      rw [List.filter_map]
      rfl
    have e2 : ∀ L : List Nat, (L.map Nat.succ).map (fun i => (n + i, (((x :: pl).getD i ([], none)).2.getD (.swap, [])))) = L.map fun i => (n + 1 + i, ((pl.getD i ([], none)).2.getD (.swap, []))) := by
      intro L
      rw [List.map_map]
      apply List.map_congr_left
      intro i _
      show (n + (i + 1), _) = (n + 1 + i, _)
      rw [show n + (i + 1) = n + 1 + i by omega]
      rfl
    obtain ⟨c, od⟩ := x
    cases od with
    | none =>
      show slF (n + 1) pl = _
      rw [e, show ((((c, none) :: pl : List Pl).getD 0 ([], none)).2.isSome) = false from rfl, if_neg Bool.false_ne_true, e2, ih]
    | some t =>
      show (n, t) :: slF (n + 1) pl = _
      rw [e, show ((((c, some t) :: pl : List Pl).getD 0 ([], none)).2.isSome) = true from rfl, if_pos rfl, List.map_cons, e2, ih]
      rfl
end
section
variable {K : PySem.W.Frag}
theorem v_itLK {d : D} {xs : List D} {e : En} {P : List D → (List Cel → Prop) → En → Prop} (h : lk e.cs d = some xs) (p : ∀ G : List Cel → Prop, (∀ cs', lk cs' d = some xs → G cs') → P xs G e) : itL d e P := by
  cases d with
  | lst ys => cases h; exact .inl ⟨_, rfl, p _ fun _ _ => trivial⟩
  | fro ys => cases h; exact .inl ⟨_, rfl, p _ fun _ _ => trivial⟩
  | cell n => exact .inr ⟨n, xs, rfl, lk_cell_iff h, p _ fun _ h => lk_cell_iff h⟩
  | _ => cases h
theorem enumD_map {α : Type} (f : α → D) : ∀ (xs : List α) (n : Nat), enumD n (xs.map f) = (List.range xs.length).map fun i => D.tup [.int ((n + i : Nat) : Int), ((xs.map f).getD i .non)]
  | [], _ => rfl
  | x :: xs, n => by
    rw [List.length_cons, List.range_succ_eq_map, List.map_cons, List.map_cons, List.map_map]
    show D.tup [.int (n : Int), f x] :: enumD (n + 1) (xs.map f) = _
    rw [enumD_map f xs (n + 1)]
    congr 1
    apply List.map_congr_left
    intro i _
    show D.tup [.int ((n + 1 + i : Nat) : Int), _] = D.tup [.int ((n + (i + 1) : Nat) : Int), _]
    rw [show n + 1 + i = n + (i + 1) by omega]
    rfl
theorem oD_isnot {od : Option Dd} {e : En} {P : D → En → Prop} (p : P (.bl od.isSome) e) : qIsNot (oD od) .non e P := by
  cases od with
  | none => exact v_isnN0 p
  | some x => exact v_isnN1 ⟨rfl, rfl, p⟩
theorem len_Ledger_slips : ∀ ds cs Q, sp_Ledger_slips K ds cs Q → ds.length = 1 := by rintro ds cs Q ⟨_, _, _, _, _, _, _, _, rfl, _⟩; rfl
theorem vc_Ledger_slips : ∀ ds cs Q, Lo ds cs → LoC cs → sp_Ledger_slips K ds cs Q → t_Ledger_slips K (Po.fn cs Q) ⟨startD N_Ledger_slips ds, cs⟩ := by
  rintro ds cs Q hd hc ⟨n, h, b, r, m, es, l, pl, rfl, L, q⟩
  have hi := L.ins
  have hlk := lk_cell L.hs
  have hn2 := L.n2
  unfold t_Ledger_slips
  walk_at "w"
  refine v_itLK hlk fun G hG => ?_
  have e : enumD 0 (hsF b r es m l pl) = (List.range pl.length).map fun i => D.tup [.int (i : Nat), hsE b r es m l pl i] := by
    unfold hsF
    rw [enumD_map, List.length_range]
    apply List.map_congr_left
    intro i hi
    rw [Nat.zero_add, List.getD_eq_getElem?_getD, List.getElem?_map, List.getElem?_range (List.mem_range.mp hi)]
    rfl
  rw [e]
  refine v_lcF (List.range pl.length) (fun i => D.tup [.int (i : Nat), hsE b r es m l pl i]) (fun i => encS (i, (pl.getD i ([], none)).2.getD (.swap, []))) (fun i => (pl.getD i ([], none)).2.isSome) rfl (by rw [List.length_range]; omega) (fun Q' Q2 i x hx k1 k2 => ⟨_, rfl, ?_⟩) ?_ (hG _ hlk)
  · unfold hsE
    walk_at "w"
    refine oD_isnot ?_
    generalize pl.getD x ([], none) = y at k1 k2 ⊢
    obtain ⟨c, od⟩ := y
    cases od with
    | none =>
      walk_at "w"
      exact k1 rfl
    | some t =>
      refine ⟨true, rfl, ?_⟩
      rw [if_pos rfl]
      walk_at "w"
      exact k2 rfl
  rw [show ((List.range pl.length).filter fun i => (pl.getD i ([], none)).2.isSome).map (fun i => encS (i, (pl.getD i ([], none)).2.getD (.swap, []))) = (slF 0 pl).map encS by
    rw [sl_hs pl 0, List.map_map]
    apply List.map_congr_left
    intro i _
    show encS (i, _) = encS (0 + i, _)
    rw [Nat.zero_add]]
  walk_at "w"
  exact own_back (los_map (fun t => by show (true && (loD _ (encD t.2) && true)) = true; rw [lo_D]; rfl) _) q
end
section
variable {K : PySem.W.Frag}
theorem hs_snoc {b r m : Int} {es : List Dd} {l : List Int} {pl : List Pl} {x : Pl} : hsF b r es m l (pl ++ [x]) = hsF b r es m l pl ++ [.tup [encC x.1, oD x.2, encSt (docF b r es m l (pl ++ [x]))]] := by
  unfold hsF
  rw [List.length_append, List.length_singleton, List.range_succ, List.map_append, List.map_singleton]
  congr 1
  · apply List.map_congr_left
    intro i hi
    have hi := List.mem_range.mp hi
    unfold hsE
    rw [List.take_append_of_le_length (by omega), List.getD_eq_getElem?_getD, List.getD_eq_getElem?_getD, List.getElem?_append_left hi]
  · unfold hsE
    rw [List.take_of_length_le (by rw [List.length_append, List.length_singleton]; omega), List.getD_eq_getElem?_getD, List.getElem?_append_right (Nat.le_refl _), Nat.sub_self]
    rfl
theorem oD_is {od : Option Dd} {e : En} {P : D → En → Prop} (p : P (.bl od.isSome) e) : qIsNot (oD od) .non e P := oD_isnot p
theorem st_put {a b c : D} : startD N_Ledger_put [a, b, c] = [some a, some b, some c, none, none] := rfl
theorem len_Ledger_put : ∀ ds cs Q QX, sp_Ledger_put K ds cs Q QX → ds.length = 3 := by rintro ds cs Q QX ⟨_, _, _, _, _, _, _, _, _, _, rfl, _⟩; rfl
theorem vc_Ledger_put : ∀ ds cs Q QX, Lo ds cs → LoC cs → sp_Ledger_put K ds cs Q QX → t_Ledger_put K (FinX cs QX) (Po.fn cs Q) ⟨startD N_Ledger_put ds, cs⟩ := by
  rintro ds cs Q QX hd hc ⟨n, h, b, r, m, es, l, pl, col, od, rfl, L, po, q⟩
  have hi := L.ins
  have hlk := lk_cell L.hs
  have hn2 := L.n2
  have hki : insD cs (kiD K b r es m) = some (He.ga K "Kind", kiN, [.int b, .int r, .lst (es.map encD), .int m]) := rfl
  have hcol : okC b r col = true := po.last.1
  have hcl := (okC_bd hcol L.e.k.n.b12 L.e.k.n.r4).2.2
  have hr4 := L.e.k.n.r4
  have hgc : Gc b r (cpF r es) col od := gc_of L.e.k hcol fun t ht => (po.last.2 t ht).1
  have hgs := doc_gs L.p (l := l) (by omega)
  have hns := step_doc (l := l) (p := pl) (x := (col, od)) L.e.k hcol po.last.2
  have hke := L.e.ke
  rw [st_put]
  unfold t_Ledger_put
  walk_at "w"
  refine ⟨b, r, m, es, rfl, ?_⟩
  walk_at "w"
  refine ⟨b, r, m, es, rfl, ?_⟩
  walk_at "w"
  refine ⟨col, b, r, rfl, by omega, ?_⟩
  walk_at "w"
  rw [hcol]
  walk_at "w"
  refine oD_isnot ?_
  have fin : (sSeq (sAsg (eCall (sp_next_standing K) (aCons (eProp (He.ga K "Kind") (sp_Kind_base K) (eV 3)) (aCons (eCall (sp_copy_rows K) (aCons (eV 3) aNil)) (aCons (eFld (He.ga K "Ledger") "own_lot" (eV 0)) (aCons (eProp (He.ga K "Ledger") (sp_Ledger_standing K) (eV 0)) (aCons (eV 1) (aCons (eV 2) aNil))))))) 4) (sSeq (sIf (eTest (eBin qIs (eV 4) (eC .non))) sNever sNext) (sDrop (eBM qApp (eFld (He.ga K "Ledger") "history" (eV 0)) (aCons (eTup (aCons (eV 1) (aCons (eV 2) (aCons (eV 4) aNil)))) aNil))))) (Po.fn cs Q) ⟨[some (.cell n), some (encC col), some (oD od), some (kiD K b r es m), none], cs⟩ := by
    walk_at "w"
    refine ⟨b, r, m, es, rfl, ?_⟩
    walk_at "w"
    refine ⟨b, r, m, es, by rw [hke], L.e.k, ?_⟩
    walk_at "w"
    refine ⟨n, h, b, r, m, es, l, pl, rfl, L, ?_⟩
    walk_at "w"
    refine ⟨b, r, cpF r es, .lst (l.map .int), l, docF b r es m l pl, col, od, _, rfl, rfl, (fun _ z => nomatch z), L.l, hgc, hgs, hns, ?_⟩
    walk_at "w"
    refine ⟨⟨_, hlk⟩, ?_⟩
    walk_at "w"
    refine ⟨_, _, _, rfl, rfl, L.hs, Nat.lt_of_le_of_lt (show _ ≤ 1000 by rw [hs_len]; omega) (by decide), ?_⟩
    rw [← hs_snoc (x := (col, od))]
    walk_at "w"
    exact .inl q
  generalize (sSeq (sAsg (eCall (sp_next_standing K) (aCons (eProp (He.ga K "Kind") (sp_Kind_base K) (eV 3)) (aCons (eCall (sp_copy_rows K) (aCons (eV 3) aNil)) (aCons (eFld (He.ga K "Ledger") "own_lot" (eV 0)) (aCons (eProp (He.ga K "Ledger") (sp_Ledger_standing K) (eV 0)) (aCons (eV 1) (aCons (eV 2) aNil))))))) 4) (sSeq (sIf (eTest (eBin qIs (eV 4) (eC .non))) sNever sNext) (sDrop (eBM qApp (eFld (He.ga K "Ledger") "history" (eV 0)) (aCons (eTup (aCons (eV 1) (aCons (eV 2) (aCons (eV 4) aNil)))) aNil))))) = T at fin ⊢
  cases od with
  | none =>
    walk_at "w"
    exact fin
  | some t =>
    have ht := (po.last.2 t rfl).1
    refine ⟨true, rfl, ?_⟩
    rw [if_pos rfl]
    walk_at "w"
    refine ⟨⟨_, _, hki⟩, b, r, m, es, t, rfl, L.e.k.sub _ ht, ⟨_, rfl⟩, _, rfl, ?_⟩
    rw [show isIn t es = true from isIn_iff.mpr ht]
    walk_at "w"
    exact fin
end
section
variable {K : PySem.W.Frag}
theorem st_lv {a b c : D} : startD N_law_value [a, b, c] = [some a, some b, some c, none, none] := rfl
theorem len_law_value : ∀ ds cs Q, sp_law_value K ds cs Q → ds.length = 3 := by rintro ds cs Q ⟨_, _, _, _, rfl, _⟩; rfl
theorem vc_law_value : ∀ ds cs Q, Lo ds cs → LoC cs → sp_law_value K ds cs Q → t_law_value K (Po.fn cs Q) ⟨startD N_law_value ds, cs⟩ := by
  rintro ds cs Q hd hc ⟨b, d, xs, last, rfl, hl, b2, b12, q⟩
  rw [st_lv]
  unfold t_law_value
  walk_at "w"
  refine ⟨fun i e => ∃ x4, e = ⟨[some (.int b), some d, some (.int last), some (.int (vlF b last (xs.drop (xs.length - i)))), x4], cs⟩, ⟨none, by rw [Nat.sub_zero, List.drop_length]; rfl⟩, ?_, ?_⟩
  · rintro i y e2 hy ⟨x4, rfl⟩
    rw [← List.map_reverse, List.getElem?_map] at hy
    obtain ⟨y, hy2, rfl⟩ := Option.map_eq_some_iff.mp hy
    have hi : i < xs.length := by
      have := (List.getElem?_eq_some_iff.mp hy2).1
      rw [List.length_reverse] at this
      exact this
    rw [List.getElem?_reverse hi] at hy2
    refine ⟨trivial, _, rfl, ?_⟩
    walk_at "w"
    refine ⟨some (.int y), ?_⟩
    have e : xs.drop (xs.length - (i + 1)) = y :: xs.drop (xs.length - i) := by
      rw [show xs.length - (i + 1) = xs.length - 1 - i by omega, drop_cons hy2]
      congr 2
      omega
    rw [e]
    rfl
  · rintro e2 ⟨x4, rfl⟩
    rw [List.length_reverse, List.length_map, Nat.sub_self, List.drop_zero]
    refine ⟨trivial, ?_⟩
    walk_at "w"
    exact .inl q
theorem st_lcol {a b c : D} : startD N_law_column [a, b, c] = [some a, some b, some c, none] := rfl
theorem len_law_column : ∀ ds cs Q, sp_law_column K ds cs Q → ds.length = 3 := by rintro ds cs Q ⟨_, _, _, _, rfl, _⟩; rfl
theorem vc_law_column : ∀ ds cs Q, Lo ds cs → LoC cs → sp_law_column K ds cs Q → t_law_column K (Po.fn cs Q) ⟨startD N_law_column ds, cs⟩ := by
  rintro ds cs Q hd hc ⟨n, a, b, r, rfl, hn, g, q⟩
  have b2 := g.b2
  have b12 := g.b12
  have r1 := g.r1
  have r4 := g.r4
  rw [st_lcol]
  unfold t_law_column
  walk_at "w"
  refine ⟨n, 4, a, rfl, hn, by decide, by decide, fun k a' k0 k1 => ?_⟩
  walk_at "w"
  refine v_itd (fun h => ?_) (fun h => ?_)
  · walk_at "w"
    refine v_rep (fun z => nomatch z) r1 (by omega) (by show 1 ≤ 1000; decide) ?_
    have e : (List.replicate r.toNat [D.int (b - 1)]).flatten = (List.replicate r.toNat (b - 1)).map .int := by
      generalize r.toNat = k
      induction k with
      | zero => rfl
      | succ k ih =>
        rw [List.replicate_succ, List.flatten_cons, ih, List.replicate_succ]
        rfl
    rw [e]
    have ho : okC b r (List.replicate r.toNat (b - 1)) = true := okC_of (by rw [List.length_replicate]; omega) fun y hy => by
      rw [(List.mem_replicate.mp hy).2]
      omega
    walk_at "w"
    exact .inl (q _ _ ho)
  · walk_at "w"
    refine ⟨sz_le (by rw [intsD_len]; omega), fun k acc cs' => ∃ (ys : List Int) (a' : Int), acc = ys.map .int ∧ ys.length = k ∧ (∀ y ∈ ys, 0 ≤ y ∧ y < b) ∧ cs' = cs.set n (plC a'), ⟨[], _, rfl, rfl, (fun _ h => nomatch h), rfl⟩, ?_, ?_⟩
    · rintro k y acc cs' hk ⟨ys, a', rfl, yl, yb, rfl⟩
      obtain ⟨hk1, rfl⟩ := intsD_get hk
      refine ⟨trivial, _, rfl, ?_⟩
      unfold dYes
      walk_at "w"
      refine ⟨n, b, a', rfl, set_get hn, by omega, by omega, fun z a'' z0 z1 => ?_⟩
      refine ⟨ys ++ [z], a'', by rw [List.map_append]; rfl, by rw [List.length_append, yl]; rfl, ?_, List.set_set ..⟩
      intro t ht
      rcases List.mem_append.mp ht with h | h
      · exact yb t h
      · cases List.mem_singleton.mp h
        exact ⟨z0, z1⟩
    · rintro acc cs2 hz ⟨ys, a', rfl, yl, yb, rfl⟩
      rw [intsD_len] at yl
      have ho : okC b r ys = true := okC_of (by omega) yb
      refine ⟨trivial, ?_⟩
      walk_at "w"
      refine v_tupK rfl ?_
      rw [show D.tup (ys.map .int) = encC ys from rfl]
      walk_at "w"
      exact .inl (q ys a' ho)
end
section
variable {K : PySem.W.Frag}
theorem cut_12 (xs : List D) : cutD xs (some 1) (some 2) = (xs.drop 1).take 1 := by
  rcases xs with _ | ⟨x, _ | ⟨y, zs⟩⟩
  · rfl
  · rfl
  · have e : cutD ((x :: y :: zs).map id) (some ((1 : Nat) : Int)) (some ((2 : Nat) : Int)) = (((x :: y :: zs).drop 1).take (2 - 1)).map id := cut_mid id (x :: y :: zs) 1 2 (by decide) (by simp)
    rw [List.map_id, List.map_id] at e
    exact e
/-- kinds made of deeds that are alike but in their order -/
theorem kd_keep {b r m : Int} {es : List Dd} {p : Dd → Bool} (ke : keep b r es = es) (h : ∀ t ∈ allD b r, p t = isIn t es) : kd K b r p m = kiD K b r es m := by
  unfold kd
  rw [kF_congr h, ← keep_kF, ke]
theorem nd_app {xs ys : List Dd} (h1 : xs.Nodup) (h2 : ys.Nodup) (h : ∀ t ∈ ys, t ∉ xs) : (xs ++ ys).Nodup := by
  rw [List.nodup_append]
  exact ⟨h1, h2, fun a ha c hc e => h c hc (e ▸ ha)⟩
theorem st_lmade {a b c d e : D} : startD N_law_made [a, b, c, d, e] = [some a, some b, some c, some d, some e, none, none, none, none] := rfl
theorem len_law_made : ∀ ds cs Q, sp_law_made K ds cs Q → ds.length = 5 := by rintro ds cs Q ⟨_, _, _, _, _, _, rfl, _⟩; rfl
theorem vc_law_made : ∀ ds cs Q, Lo ds cs → LoC cs → sp_law_made K ds cs Q → t_law_made K (Po.fn cs Q) ⟨startD N_law_made ds, cs⟩ := by
  rintro ds cs Q hd hc ⟨n, a, b, r, m, es, rfl, hn, g, l5, q⟩
  have gk := g.k
  have s1 := gk.l1
  have m1 := gk.m1
  have m3 := gk.m3
  have gn := gk.n
  rw [st_lmade]
  unfold t_law_made
  walk_at "w"
  refine ⟨n, 3, a, rfl, hn, by decide, by decide, fun w a1 w0 w1 => ?_⟩
  walk_at "w"
  refine v_lenK (e := ⟨_, _⟩) (xs := es.map encD) rfl ?_
  rw [List.length_map]
  walk_at "w"
  refine ⟨n, _, a1, rfl, set_get hn, by omega, by omega, fun k a2 k0 k1 => ?_⟩
  obtain ⟨k, rfl⟩ : ∃ j : Nat, k = (j : Int) := ⟨k.toNat, by omega⟩
  rw [List.set_set]
  have q1 := q a2
  have hki : kiD K b r es m = kiD K b r (keep b r es) m := by rw [g.ke]
  generalize cs.set n (plC a2) = cs1 at q1 ⊢
  walk_at "w"
  refine v_itd (fun h => ?_) (fun h => ?_)
  · walk_at "w"
    have hk : k < es.length := by omega
    have hx := List.getElem?_eq_getElem hk
    generalize es[k] = x at hx
    have hp := perm_at hx
    refine v_slL (xs := es.map encD) rfl (fun _ z => nomatch z) (fun _ z => nomatch z) ?_
    rw [show (1 : Int) + (k : Int) = ((1 + k : Nat) : Int) by omega, cut_to]
    have gp := gk.part (k := 1 + k) (by omega)
    have ex : x ∈ es.take (1 + k) := List.mem_of_getElem? (i := k) (by rw [List.getElem?_take_of_lt (by omega)]; exact hx)
    have ed : x ∈ es.drop k := List.mem_of_getElem? (i := 0) (by rw [List.getElem?_drop, Nat.add_zero]; exact hx)
    have PL : Pl' b r (x :: es.eraseIdx k) := ⟨gn, fun t ht => gk.sub t (hp.mem_iff.mp ht), hp.nodup_iff.mpr gk.nd, by rw [hp.length_eq]; omega⟩
    have R : Pr (x :: es.eraseIdx k) (fun t => isIn t (es.take (1 + k))) 1 := ⟨⟨x, rfl, isIn_iff.mpr ex⟩, fun t h => hp.mem_iff.mpr (List.mem_of_mem_take (isIn_iff.mp h)), by decide, by decide⟩
    have S : Pr (x :: es.eraseIdx k) (fun t => isIn t (es.drop k)) m := ⟨⟨x, rfl, isIn_iff.mpr ed⟩, fun t h => hp.mem_iff.mpr (List.mem_of_mem_drop (isIn_iff.mp h)), m1, m3⟩
    have gd : Gk b r (es.drop k) m := ⟨gn, fun t ht => gk.sub t (List.mem_of_mem_drop ht), gk.nd.drop, by rw [List.length_drop]; omega, by rw [List.length_drop]; omega, m1, m3⟩
    have eor : kd K b r (fun t => isIn t (es.take (1 + k)) || isIn t (es.drop k)) (mx 1 m) = kiD K b r es m := by
      rw [show mx 1 m = m by unfold mx; split <;> omega]
      refine kd_keep g.ke fun t ht => ?_
      rw [Bool.eq_iff_iff, Bool.or_eq_true, isIn_iff, isIn_iff, isIn_iff]
      constructor
      · rintro (h | h)
        · exact List.mem_of_mem_take h
        · exact List.mem_of_mem_drop h
      · intro h
        have e := List.take_append_drop (1 + k) es
        rw [← e] at h
        rcases List.mem_append.mp h with h | h
        · exact .inl h
        · refine .inr ?_
          have e2 : es.drop (1 + k) = (es.drop k).drop 1 := by rw [List.drop_drop]; congr 1; omega
          rw [e2] at h
          exact List.mem_of_mem_drop h
    walk_at "w"
    refine ⟨_, b, r, 1, _, es.take (1 + k), rfl, rfl, (fun _ z => nomatch z), app_get, gp, ?_⟩
    rw [app_set]
    refine ⟨rfl, .inr ⟨_, _, _, _, rfl, rfl, los_ki, fun c hc => .inl hc, ?_⟩⟩
    walk_at "w"
    refine v_slL (xs := es.map encD) rfl (fun _ z => nomatch z) (fun _ z => nomatch z) ?_
    rw [show ((1 + k : Nat) : Int) - 1 = ((k : Nat) : Int) by omega, cut_from]
    walk_at "w"
    refine ⟨_, b, r, m, _, es.drop k, rfl, rfl, (fun _ z => nomatch z), app_get, gd, ?_⟩
    rw [app_set]
    refine ⟨rfl, .inr ⟨_, _, _, _, rfl, rfl, los_ki, fun c hc => .inl hc, ?_⟩⟩
    refine ⟨⟨_, _, rfl⟩, ⟨_, _, rfl⟩, b, r, 1, m, x :: es.eraseIdx k, _, _, rfl, PL, R, S, ?_⟩
    rw [eor]
    exact .inl q1
  walk_at "w"
  refine v_itd (fun h2 => ?_) (fun h2 => ?_)
  · walk_at "w"
    refine v_lenK (e := ⟨_, _⟩) (xs := es.map encD) rfl ?_
    rw [List.length_map]
    walk_at "w"
    rw [decide_eq_true (show (es.length : Int) < 8 by omega)]
    walk_at "w"
    refine ⟨b, r, rfl, gn.b2, gn.b12, gn.r1, gn.r4, .inl ?_⟩
    walk_at "w"
    have hal := allD_len gn.b2 gn.b12 gn.r1 gn.r4
    refine v_lcF (e1 := ⟨_, _⟩) (allD b r) encD encD (fun t => !isIn t es) rfl (by omega) (fun Q' Q2 i x hx k1 k2 => ⟨_, rfl, ?_⟩) ?_
    · walk_at "w"
      refine v_ninE encDE (a := x) (xs := es) rfl rfl ?_
      walk_at "w"
      cases h : isIn x es
      · refine iteT ?_
        walk_at "w"
        exact k2 (by rw [h]; rfl)
      · refine iteF ?_
        exact k1 (by rw [h]; rfl)
    have hall : ∀ t ∈ (allD b r).filter (fun t => !isIn t es), t ∈ allD b r ∧ t ∉ es := fun t ht => by
      obtain ⟨h1, h2⟩ := List.mem_filter.mp ht
      refine ⟨h1, fun h3 => ?_⟩
      rw [isIn_iff.mpr h3] at h2
      cases h2
    have hnd : ((allD b r).filter (fun t => !isIn t es)).Nodup := (allD_nd gn.b2 gn.b12 gn.r1 gn.r4).filter _
    generalize (allD b r).filter (fun t => !isIn t es) = left at hall hnd
    have e1 : cutD (left.map encD) none (some 1) = (left.take 1).map encD := cut_to encD left 1
    have e2 : cutD (left.map encD) (some 1) (some 2) = ((left.drop 1).take 1).map encD := by rw [cut_12, List.map_take, List.map_drop]
    have l1 : (left.take 1).length ≤ 1 := List.length_take_le ..
    have l2 : ((left.drop 1).take 1).length ≤ 1 := List.length_take_le ..
    have m1' : ∀ t ∈ left.take 1, t ∈ allD b r ∧ t ∉ es := fun t ht => hall t (List.mem_of_mem_take ht)
    have m2' : ∀ t ∈ (left.drop 1).take 1, t ∈ allD b r ∧ t ∉ es := fun t ht => hall t (List.mem_of_mem_drop (List.mem_of_mem_take ht))
    have nd1 : (left.take 1).Nodup := hnd.take
    have nd2 : ((left.drop 1).take 1).Nodup := hnd.drop.take
    have dis : ∀ t ∈ (left.drop 1).take 1, t ∉ left.take 1 := by
      intro t h2 h1
      have e := List.take_append_drop 1 left
      rw [← e, List.nodup_append] at hnd
      exact hnd.2.2 t h1 t (List.mem_of_mem_take h2) rfl
    generalize left.take 1 = la at *
    generalize (left.drop 1).take 1 = lb at *
    obtain ⟨t0, ht0⟩ : ∃ t, es.head? = some t := by
      cases es with
      | nil => exact absurd s1 (by decide)
      | cons t _ => exact ⟨t, rfl⟩
    have hm0 : t0 ∈ es := List.mem_of_mem_head? ht0
    have hh : ((es ++ la) ++ lb).head? = some t0 := by
      cases es with
      | nil => cases ht0
      | cons t _ => exact ht0
    have ga : Gk b r (es ++ la) 3 := ⟨gn, fun t ht => (List.mem_append.mp ht).elim (gk.sub t) fun z => (m1' t z).1, nd_app gk.nd nd1 fun t ht => (m1' t ht).2, by rw [List.length_append]; omega, by rw [List.length_append]; omega, by decide, by decide⟩
    have gb : Gk b r (lb ++ es) m := ⟨gn, fun t ht => (List.mem_append.mp ht).elim (fun z => (m2' t z).1) (gk.sub t), nd_app nd2 gk.nd fun t ht z => (m2' t z).2 ht, by rw [List.length_append]; omega, by rw [List.length_append]; omega, m1, m3⟩
    have PL : Pl' b r ((es ++ la) ++ lb) := ⟨gn, fun t ht => (List.mem_append.mp ht).elim (ga.sub t) fun z => (m2' t z).1, nd_app ga.nd nd2 fun t ht z => (List.mem_append.mp z).elim (m2' t ht).2 (dis t ht), by rw [List.length_append, List.length_append]; omega⟩
    have R : Pr ((es ++ la) ++ lb) (fun t => isIn t (es ++ la)) 3 := ⟨⟨t0, hh, isIn_iff.mpr (List.mem_append_left _ hm0)⟩, fun t h => List.mem_append_left _ (isIn_iff.mp h), by decide, by decide⟩
    have S : Pr ((es ++ la) ++ lb) (fun t => isIn t (lb ++ es)) m := ⟨⟨t0, hh, isIn_iff.mpr (List.mem_append_right _ hm0)⟩, fun t h => (List.mem_append.mp (isIn_iff.mp h)).elim (fun z => List.mem_append_right _ z) (fun z => List.mem_append_left _ (List.mem_append_left _ z)), m1, m3⟩
    have eand : kd K b r (fun t => isIn t (es ++ la) && isIn t (lb ++ es)) (mn 3 m) = kiD K b r es m := by
      rw [show mn 3 m = m by unfold mn; split <;> omega]
      refine kd_keep g.ke fun t ht => ?_
      rw [Bool.eq_iff_iff, Bool.and_eq_true, isIn_iff, isIn_iff, isIn_iff]
      constructor
      · rintro ⟨h1, h2⟩
        rcases List.mem_append.mp h2 with z | z
        · rcases List.mem_append.mp h1 with y | y
          · exact y
          · exact absurd y (dis t z)
        · exact z
      · intro h
        exact ⟨List.mem_append_left _ h, List.mem_append_right _ h⟩
    walk_at "w"
    refine v_slL (xs := left.map encD) rfl (fun _ z => nomatch z) (fun _ z => nomatch z) ?_
    rw [e1]
    walk_at "w"
    refine v_addL ⟨by rw [List.length_map, List.length_map]; omega, ?_⟩
    rw [← List.map_append]
    walk_at "w"
    refine ⟨_, b, r, 3, _, es ++ la, rfl, rfl, (fun _ z => nomatch z), app_get, ga, ?_⟩
    rw [app_set]
    refine ⟨rfl, .inr ⟨_, _, _, _, rfl, rfl, los_ki, fun c hc => .inl hc, ?_⟩⟩
    walk_at "w"
    refine v_slL (xs := left.map encD) rfl (fun _ z => nomatch z) (fun _ z => nomatch z) ?_
    rw [e2]
    walk_at "w"
    refine v_addL ⟨by rw [List.length_map, List.length_map]; omega, ?_⟩
    rw [← List.map_append]
    walk_at "w"
    refine ⟨_, b, r, m, _, lb ++ es, rfl, rfl, (fun _ z => nomatch z), app_get, gb, ?_⟩
    rw [app_set]
    refine ⟨rfl, .inr ⟨_, _, _, _, rfl, rfl, los_ki, fun c hc => .inl hc, ?_⟩⟩
    refine ⟨⟨_, _, rfl⟩, ⟨_, _, rfl⟩, b, r, 3, m, (es ++ la) ++ lb, _, _, rfl, PL, R, S, ?_⟩
    rw [eand]
    exact .inl q1
  walk_at "w"
  refine v_listL rfl ?_
  walk_at "w"
  refine ⟨_, b, r, m, _, es, rfl, rfl, (fun _ z => nomatch z), app_get, gk, ?_⟩
  rw [app_set]
  refine ⟨rfl, .inr ⟨_, _, _, _, rfl, rfl, los_ki, fun c hc => .inl hc, ?_⟩⟩
  rw [g.ke]
  exact .inl q1
end
section
variable {K : PySem.W.Frag}
theorem sub_ints (n : Nat) (ys : List D) : ∀ ns : List Int, subCs n ys (ns.map .int) = ns.map .int
  | [] => rfl
  | x :: ns => congrArg (D.int x :: ·) (sub_ints n ys ns)
theorem sub_D (n : Nat) (ys : List D) (t : Dd) : subC n ys (encD t) = encD t := by
  show D.tup (D.str t.1.s :: subCs n ys (t.2.map .int)) = _
  rw [sub_ints]
  rfl
theorem sub_Ds (n : Nat) (ys : List D) : ∀ ts : List Dd, subCs n ys (ts.map encD) = ts.map encD
  | [] => rfl
  | t :: ts => by
    show subC n ys (encD t) :: subCs n ys (ts.map encD) = _
    rw [sub_D, sub_Ds n ys ts]
    rfl
theorem keep_keep (b r : Int) (s : List Dd) : keep b r (keep b r s) = keep b r s := by
  unfold keep
  apply List.filter_congr
  intro t ht
  rw [Bool.eq_iff_iff, isIn_iff, isIn_iff, List.mem_filter, isIn_iff]
  exact ⟨fun z => z.2, fun z => ⟨ht, z⟩⟩
theorem keep_ge {b r m : Int} {s : List Dd} (g : Gk b r s m) : Ge b r (keep b r s) m := by
  have e := keep_len g
  refine ⟨⟨g.n, fun t ht => (List.mem_filter.mp ht).1, (allD_nd g.n.b2 g.n.b12 g.n.r1 g.n.r4).filter _, ?_, ?_, g.m1, g.m3⟩, keep_keep b r s⟩
  · rw [e]; exact g.l1
  · rw [e]; exact g.l8
theorem st_lset {a : D} : startD N_law_setting [a] = [some a, none, none, none, none, none, none, none, none, none] := rfl
theorem len_law_setting : ∀ ds cs Q, sp_law_setting K ds cs Q → ds.length = 1 := by rintro ds cs Q ⟨_, _, rfl, _⟩; rfl
theorem vc_law_setting : ∀ ds cs Q, Lo ds cs → LoC cs → sp_law_setting K ds cs Q → t_law_setting K (Po.fn cs Q) ⟨startD N_law_setting ds, cs⟩ := by
  rintro ds cs Q hd hc ⟨n, a, rfl, hn, q⟩
  rw [st_lset]
  unfold t_law_setting
  walk_at "w"
  refine ⟨n, 11, a, rfl, hn, by decide, by decide, fun b0 a1 b00 b01 => ?_⟩
  walk_at "w"
  refine ⟨n, 4, a1, rfl, set_get hn, by decide, by decide, fun r0 a2 r00 r01 => ?_⟩
  rw [List.set_set]
  walk_at "w"
  obtain ⟨b, hb⟩ : ∃ b : Int, b = 2 + b0 := ⟨_, rfl⟩
  rw [← hb]
  have b2 : 2 ≤ b := by omega
  have b12 : b ≤ 12 := by omega
  refine ⟨fun k e => ∃ r : Int, 1 ≤ r ∧ r ≤ 4 ∧ k = r.toNat ∧ e = ⟨[some (.cell n), some (.int b), some (.int r), none, none, none, none, none, none, none], cs.set n (plC a2)⟩, ⟨_, 1 + r0, by omega, by omega, rfl, rfl⟩, ?_⟩
  rintro k e1 ⟨r, r1, r4, rfl, rfl⟩
  walk_at "w"
  refine ⟨b, r, rfl, b2, b12, by omega, by omega, ?_⟩
  walk_at "w"
  refine v_itd (fun h => ?_) (fun h => ?_)
  · walk_at "w"
    have hr : r ≠ 1 := by
      rintro rfl
      have : b ^ (1 : Int).toNat = b := Int.pow_succ b 0 |>.trans (by simp)
      omega
    exact ⟨_, by omega, r - 1, by omega, by omega, rfl, rfl⟩
  walk_at "w"
  have gn : Gn b r := ⟨b2, b12, r1, r4, by omega⟩
  refine ⟨n, 5, a2, rfl, set_get hn, by decide, by decide, fun w3 a3 w30 w31 => ?_⟩
  rw [List.set_set]
  walk_at "w"
  refine ⟨n, a3, b, r, 1 + w3, rfl, set_get hn, b2, b12, r1, r4, by omega, by omega, fun ys a4 ynd ysub ylen => ?_⟩
  rw [List.set_set]
  walk_at "w"
  refine ⟨b, r, rfl, b2, b12, r1, r4, .inl ?_⟩
  walk_at "w"
  have hal := allD_len b2 b12 r1 r4
  refine v_lcF (e1 := ⟨_, _⟩) (allD b r) encD encD (fun t => isIn t ys) rfl (by omega) (fun Q' Q2 i x hx k1 k2 => ⟨_, rfl, ?_⟩) ?_
  · walk_at "w"
    refine v_inE encDE (a := x) (xs := ys) rfl rfl ?_
    walk_at "w"
    cases h : isIn x ys
    · refine iteF ?_
      exact k1 h
    · refine iteT ?_
      walk_at "w"
      exact k2 h
  rw [show (allD b r).filter (fun t => isIn t ys) = keep b r ys from rfl]
  walk_at "w"
  refine ⟨n, 3, a4, rfl, set_get hn, by decide, by decide, fun w4 a5 w40 w41 => ?_⟩
  rw [List.set_set]
  walk_at "w"
  have gk : Gk b r ys (1 + w4) := ⟨gn, ysub, ynd, by omega, by omega, by omega, by omega⟩
  have ge := keep_ge gk
  have hkl := keep_len gk
  have hn5 : (cs.set n (plC a5))[n]? = some (plC a5) := set_get hn
  refine ⟨n, 5, a5, rfl, app_get_lt hn5, by decide, by decide, fun w5 a6 w50 w51 => ?_⟩
  have hln := (List.getElem?_eq_some_iff.mp hn).1
  rw [List.set_append_left _ _ (by rw [List.length_set]; exact hln), List.set_set]
  have hl6 : ∀ x : Int, (cs.set n (plC x)).length = cs.length := fun x => List.length_set
  rw [hl6]
  walk_at "w"
  refine ⟨fun i e => ∃ (l : List Int) (a' : Int) (x7 x8 : Option D), Gl0 l ∧ l.length ≤ i ∧
    e = ⟨[some (.cell n), some (.int b), some (.int r), some (.lst (ys.map encD)), some (.lst ((keep b r ys).map encD)), some (.int (1 + w4)), some (.cell cs.length), x7, x8, none], cs.set n (plC a') ++ [.lst (l.map .int)]⟩,
    ⟨[], a6, none, none, ⟨List.nodup_nil, (fun _ h => nomatch h), by decide⟩, Nat.le_refl _, rfl⟩, ?_, ?_⟩
  · rintro i d e1 hi ⟨l, a', x7, x8, gl, hli, rfl⟩
    obtain ⟨hi1, rfl⟩ := intsD_get hi
    have hn' : (cs.set n (plC a'))[n]? = some (plC a') := set_get hn
    refine ⟨trivial, _, rfl, ?_⟩
    walk_at "w"
    refine ⟨n, 59, a', rfl, app_get_lt hn', by decide, by decide, fun z a'' z0 z1 => ?_⟩
    rw [List.set_append_left _ _ (by rw [List.length_set]; exact hln), List.set_set]
    have hcl : (cs.set n (plC a'') ++ [Cel.lst (l.map .int)])[cs.length]? = some (.lst (l.map .int)) := by
      have := app_get (cs := cs.set n (plC a'')) (c := Cel.lst (l.map .int))
      rw [List.length_set] at this
      exact this
    have hset : ∀ c, (cs.set n (plC a'') ++ [Cel.lst (l.map .int)]).set cs.length c = cs.set n (plC a'') ++ [c] := fun c => by
      have := app_set (cs := cs.set n (plC a'')) (c0 := Cel.lst (l.map .int)) (c := c)
      rw [List.length_set] at this
      exact this
    walk_at "w"
    refine v_ninE encI (a := 2 + z) (xs := l) rfl (drf_cell hcl) ?_
    walk_at "w"
    cases hin : isIn (2 + z) l
    · refine iteT ?_
      walk_at "w"
      refine ⟨⟨_, lk_cell hcl⟩, ?_⟩
      walk_at "w"
      refine ⟨_, _, _, rfl, rfl, hcl, Nat.lt_of_le_of_lt (show _ ≤ 1000 by rw [List.length_map]; omega) (by decide), ?_⟩
      rw [hset]
      walk_at "w"
      have hni : 2 + z ∉ l := fun h => by rw [isIn_iff.mpr h] at hin; cases hin
      refine ⟨l ++ [2 + z], a'', _, _, ⟨?_, ?_, ?_⟩, ?_, by rw [List.map_append]; rfl⟩
      · rw [List.nodup_append]
        exact ⟨gl.nd, List.pairwise_singleton .., fun t ht u hu e => by cases List.mem_singleton.mp hu; exact hni (e ▸ ht)⟩
      · intro t ht
        rcases List.mem_append.mp ht with h | h
        · exact gl.ge t h
        · cases List.mem_singleton.mp h
          omega
      · rw [List.length_append, List.length_singleton]
        omega
      · rw [List.length_append, List.length_singleton]
        omega
    · refine iteF ?_
      walk_at "w"
      exact ⟨l, a'', _, _, gl, by omega, rfl⟩
  · rintro e1 ⟨l, a', x7, x8, gl, hli, rfl⟩
    refine ⟨trivial, ?_⟩
    have hcl : (cs.set n (plC a') ++ [Cel.lst (l.map .int)])[cs.length]? = some (.lst (l.map .int)) := by
      have := app_get (cs := cs.set n (plC a')) (c := Cel.lst (l.map .int))
      rw [List.length_set] at this
      exact this
    have q1 := q b r (1 + w4) a' (keep b r ys) l ge (by omega) gl
    walk_at "w"
    refine ⟨.tup [.int b, .int r, .lst ((keep b r ys).map encD), .int (1 + w4), .lst (l.map .int)], _, Fzs.one (n := cs.length) (xs := l.map .int) hcl (by
      have e : subC cs.length (l.map .int) (.tup [.int b, .int r, .lst ((keep b r ys).map encD), .int (1 + w4), .cell cs.length]) = .tup [.int b, .int r, .lst ((keep b r ys).map encD), .int (1 + w4), .lst (l.map .int)] := by simp [subC, subCs, sub_Ds]
      rw [e]
      exact .nil), ?_⟩
    have et : ((cs.set n (plC a') ++ [Cel.lst (l.map .int)]).set cs.length .dead).take cs.length = cs.set n (plC a') := by
      have e := app_set (cs := cs.set n (plC a')) (c0 := Cel.lst (l.map .int)) (c := .dead)
      rw [List.length_set] at e
      rw [e]
      have e2 := List.take_left (l₁ := cs.set n (plC a')) (l₂ := [Cel.dead])
      rw [List.length_set] at e2
      exact e2
    refine .inr (.inl ⟨?_, fun c h => ?_, ?_⟩)
    · show (true && (true && (los _ ((keep b r ys).map encD) && (true && (los _ (l.map .int) && true))))) = true
      rw [los_D, los_int]
      rfl
    · rw [et] at h
      exact set_lo rfl c h
    · rw [et]
      exact q1
end
section
def r_ls_9 (K : PySem.W.Frag) : DS := (sSeq (sAsg (eLst false (aCons (eCall (sp_law_power K) (aCons (eV 0) (aCons (eCB qLen (aCons (eV 4) aNil)) aNil))) (aCons (eCall (sp_law_power K) (aCons (eV 0) (aCons (eCB qLen (aCons (eV 6) aNil)) aNil))) aNil))) 14) (sSeq (sAsg (eCB qTuple (aCons (eLc false (iS (eV 2)) (.one 18) dYes (eTup (aCons (eBin (qMod) (eCB qInt (aCons (eV 11) aNil)) (eV 18)) (aCons (eBin (qMod) (eCB qInt (aCons (eBin qIx (eV 14) (eC (.int 0))) aNil)) (eV 18)) (aCons (eBin (qMod) (eCB qInt (aCons (eBin qIx (eV 14) (eC (.int 1))) aNil)) (eV 18)) aNil)))) [18]) aNil)) 15) (sRet (eTup (aCons (eBin (qSub) (eV 3) (eCB qLen (aCons (eV 5) aNil))) (aCons (eV 7) (aCons (eV 10) (aCons (eV 8) (aCons (eBin (qSub) (eCB qLen (aCons (eV 6) aNil)) (eCB qLen (aCons (eV 4) aNil))) (aCons (eV 13) (aCons (eV 15) aNil)))))))))))
def r_ls_5 (K : PySem.W.Frag) : DS := (sSeq (sAsg (eBin (qSub) (eCall (sp_law_value K) (aCons (eV 0) (aCons (eV 9) (aCons (eV 8) aNil)))) (eCall (sp_law_value K) (aCons (eV 0) (aCons (eLc false (iS (eV 4)) (.one 17) dYes (eCB qSum (aCons (eV 17) aNil)) [17]) (aCons (eC (.int 0)) aNil))))) 11) (sSeq (sAsg (eCall (sp_law_power K) (aCons (eV 0) (aCons (eCB qMin2 (aCons (eCB qLen (aCons (eV 4) aNil)) (aCons (eCB qLen (aCons (eV 6) aNil)) aNil))) aNil))) 12) (sSeq (sAsg (eC .non) 13) (sSeq (sIf (eTest (eBin qEq (eBin (qMod) (eCB qInt (aCons (eV 11) aNil)) (eV 12)) (eC (.int 0)))) (sAsg (eBin (qFdiv) (eV 11) (eV 12)) 13) sNext) (r_ls_9 K)))))
def r_ls (K : PySem.W.Frag) : DS := (sSeq (sAsgT (eCall (sp_law_run K) (aCons (eV 0) (aCons (eV 4) (aCons (eV 5) aNil)))) (.tup [6, 7, 8])) (sSeq (sAsg (eCB (qList true) (aCons (eV 6) aNil)) 9) (sSeq (sAsg (eC .non) 10) (sSeq (sIf (eTest (eBin qIsNot (eV 7) (eC .non))) (sDrop (eBM qApp (eV 9) (aCons (eV 7) aNil))) sNext) (sSeq (sIf (eTest (eBin qNe (eV 4) (eLst false aNil))) (sAsg (eCB qTuple (aCons (eLc false (iS (eV 1)) (.one 16) (eTest (eBin qEq (eBin qIx (eV 16) (eC (.int 0))) (eC (.str "copy")))) (eBin qIx (eBin qIx (eV 4) (eNeg (eC (.int 1)))) (eBin qIx (eV 16) (eC (.int 1)))) [16]) aNil)) 10) sNext) (r_ls_5 K))))))
variable {K : PySem.W.Frag}
theorem pow_fdiv {a b : Int} {n : Nat} (b2 : 2 ≤ b) (b12 : b ≤ 12) (hn : n ≤ 1000) : FdivOk a (b ^ n) := by
  refine .inr ⟨Int.pow_pos (by omega), ?_⟩
  obtain ⟨c, rfl⟩ : ∃ c : Nat, b = (c : Int) := ⟨b.toNat, by omega⟩
  rw [← Int.natCast_pow, Int.natAbs_natCast]
  have h1 : c ^ n ≤ 16 ^ n := Nat.pow_le_pow_left (by omega) n
  have h2 : (16 : Nat) ^ n = 2 ^ (4 * n) := by rw [show (16 : Nat) = 2 ^ 4 from rfl, ← Nat.pow_mul]
  have h3 : (2 : Nat) ^ (4 * n) < 2 ^ (4 * n + 1) := Nat.pow_lt_pow_right (by decide) (by omega)
  have h4 := log_lt (n := c ^ n) (k := 4 * n + 1) (by omega) (by omega)
  omega
/-- the rows of the copy deeds of a kind -/
theorem cp_es {b r : Int} {es : List Dd} (ke : keep b r es = es) (b2 : 2 ≤ b) (r1 : 1 ≤ r) (f : Nat → Int) : (es.filter fun t => decide (t.1 = .copy)).map (fun t => f (jx t)) = (cpF r es).map f := by
  have e0 : es.filter (fun t => decide (t.1 = Wo.copy)) = ((allD b r).filter fun t => decide (t.1 = Wo.copy)).filter fun t => isIn t es := by
    conv => lhs; rw [← ke]
    unfold keep
    rw [List.filter_filter, List.filter_filter]
    apply List.filter_congr
    intro t _
    exact Bool.and_comm _ _
  have e1 : (allD b r).filter (fun t => decide (t.1 = Wo.copy)) = copies r := by
    unfold allD
    rw [List.filter_append, List.filter_append, List.filter_append, List.filter_append]
    have a1 : (offs b).filter (fun t => decide (t.1 = Wo.copy)) = [] := by
      rw [List.filter_eq_nil_iff]
      intro t ht
      obtain ⟨i, _, rfl⟩ := List.mem_map.mp ht
      exact Bool.false_ne_true
    have a2 : (readsA b r.toNat).filter (fun t => decide (t.1 = Wo.copy)) = [] := by
      rw [List.filter_eq_nil_iff]
      intro t ht
      obtain ⟨j, _, ht⟩ := List.mem_flatMap.mp ht
      obtain ⟨i, _, rfl⟩ := List.mem_map.mp ht
      exact Bool.false_ne_true
    have a3 : (copies r).filter (fun t => decide (t.1 = Wo.copy)) = copies r := by
      rw [List.filter_eq_self]
      intro t ht
      obtain ⟨i, _, rfl⟩ := List.mem_map.mp ht
      rfl
    rw [a1, a2, a3]
    simp
  rw [e0, e1]
  unfold copies cpF
  rw [List.filter_map, List.map_map]
  apply List.map_congr_left
  intro j _
  show f (jx (.copy, [0 + (j : Int)])) = f j
  congr 1
  show (0 + (j : Int)).toNat = j
  omega
theorem st_ls {a b c d e f : D} : startD N_law_standing [a, b, c, d, e, f] = [some a, some b, some c, some d, some e, some f, none, none, none, none, none, none, none, none, none, none, none, none, none] := rfl
theorem len_law_standing : ∀ ds cs Q, sp_law_standing K ds cs Q → ds.length = 6 := by rintro ds cs Q ⟨_, _, _, _, _, _, _, _, rfl, _⟩; rfl
theorem vc_law_standing : ∀ ds cs Q, Lo ds cs → LoC cs → sp_law_standing K ds cs Q → t_law_standing K (Po.fn cs Q) ⟨startD N_law_standing ds, cs⟩ := by
  rintro ds cs Q hd hc ⟨b, r, m, es, l, d, d2, pl, rfl, hl, hl2, ge, po, hn2, gl, q⟩
  have b2 := ge.k.n.b2
  have b12 := ge.k.n.b12
  have r1 := ge.k.n.r1
  have r4 := ge.k.n.r4
  have e8 := ge.k.l8
  have gn := po.gr (by omega)
  have g8 := gl.len
  have hwl := (wr_bd pl po).n
  have hn0 : ((pl.length : Nat) : Int).toNat = pl.length := Int.toNat_natCast _
  have hw0 : (((wrF b pl).figs.length : Nat) : Int).toNat = (wrF b pl).figs.length := Int.toNat_natCast _
  have tk : (cs ++ [Cel.lst (((wrF b pl).figs ++ oL (wrF b pl).wt).map .int)]).take cs.length = cs := by simp
  have f9 : ∀ (x10 x13 : D) (u : Int) (x16 x17 : Option D), x10 = oT (if pl = [] then none else some ((cpF r es).map fun j => ((pl.getLast?.map (·.1)).getD []).getD j 0)) → x13 = oI (if erF b pl % b ^ min pl.length (wrF b pl).figs.length = 0 then some (erF b pl / b ^ min pl.length (wrF b pl).figs.length) else none) → r_ls_9 K (Po.fn cs Q)
      ⟨[some (.int b), some (.lst (es.map encD)), some (.lst (l.map .int)), some (.int m), some d, some d2, some (.lst ((wrF b pl).figs.map .int)), some (oI (wrF b pl).wt), some (.int (wrF b pl).k), some (.cell cs.length), some x10, some (.int (erF b pl)), some (.int u), some x13, none, none, x16, x17, none], cs ++ [Cel.lst (((wrF b pl).figs ++ oL (wrF b pl).wt).map .int)]⟩ := by
    intro x10 x13 u x16 x17 h10 h13
    unfold r_ls_9
    walk_at "w"
    refine v_lenK (lk_app hl) ?_
    rw [List.length_map, List.length_map]
    walk_at "w"
    refine ⟨b, _, rfl, b2, b12, by omega, by omega, ?_⟩
    rw [hn0]
    walk_at "w"
    refine v_lenK (e := ⟨_, _⟩) (xs := (wrF b pl).figs.map .int) rfl ?_
    rw [List.length_map]
    walk_at "w"
    refine ⟨b, _, rfl, b2, b12, by omega, by omega, ?_⟩
    rw [hw0]
    walk_at "w"
    refine v_lcY (e1 := ⟨_, _⟩) l D.int (fun v => .tup [.int (erF b pl % v), .int (b ^ pl.length % v), .int (b ^ (wrF b pl).figs.length % v)]) rfl (by omega) ?_ ?_
    · intro Q' i x hx q'
      have hge := gl.ge _ (List.mem_of_getElem? hx)
      refine ⟨_, rfl, ?_⟩
      walk_at "w"
      refine v_ixK (xs := [D.int (b ^ pl.length), D.int (b ^ (wrF b pl).figs.length)]) rfl rfl ?_
      walk_at "w"
      refine v_ixK (xs := [D.int (b ^ pl.length), D.int (b ^ (wrF b pl).figs.length)]) rfl rfl ?_
      walk_at "w"
      exact q'
    walk_at "w"
    refine v_tupK rfl ?_
    walk_at "w"
    refine v_lenK (lk_app hl2) ?_
    rw [List.length_map]
    walk_at "w"
    refine v_lenK (e := ⟨_, _⟩) (xs := (wrF b pl).figs.map .int) rfl ?_
    rw [List.length_map]
    walk_at "w"
    refine v_lenK (lk_app hl) ?_
    rw [List.length_map, List.length_map]
    walk_at "w"
    refine trim_back tk ?_ ?_
    · rw [h10, h13]
      show (true && (loD _ (oI _) && (loD _ (oT _) && (true && (true && (loD _ (oI _) && (los _ (l.map _) && true))))))) = true
      rw [lo_oI, lo_oT, lo_oI, los_map (fun _ => rfl) l]
      rfl
    · rw [h10, h13]
      unfold docF encSt at q
      dsimp only at q
      rw [List.map_map] at q
      exact q
  have f5 : ∀ (x10 : D) (x16 : Option D), x10 = oT (if pl = [] then none else some ((cpF r es).map fun j => ((pl.getLast?.map (·.1)).getD []).getD j 0)) → r_ls_5 K (Po.fn cs Q) ⟨[some (.int b), some (.lst (es.map encD)), some (.lst (l.map .int)), some (.int m), some d, some d2, some (.lst ((wrF b pl).figs.map .int)), some (oI (wrF b pl).wt), some (.int (wrF b pl).k), some (.cell cs.length), some x10, none, none, none, none, none, x16, none, none], cs ++ [Cel.lst (((wrF b pl).figs ++ oL (wrF b pl).wt).map .int)]⟩ := by
    intro x10 x16 h10
    have f9 := fun u x13 x17 h => f9 x10 x13 u x16 x17 h10 h
    unfold r_ls_5
    generalize r_ls_9 K = T at f9 ⊢
    walk_at "w"
    refine ⟨b, .cell cs.length, (wrF b pl).figs ++ oL (wrF b pl).wt, _, rfl, lk_cell app_get, b2, b12, ?_⟩
    walk_at "w"
    refine v_itK (lk_app hl) fun G gg => ?_
    refine v_lcY (e1 := ⟨_, _⟩) (pl.map (·.1)) encC (fun c => .int c.sum) rfl (by rw [List.length_map]; omega) ?_ ?_ gg
    · intro Q' i c hc2 q'
      refine ⟨_, rfl, ?_⟩
      walk_at "w"
      refine v_sumL (ns := c) rfl ?_
      exact q'
    walk_at "w"
    refine ⟨b, _, pl.map (·.1.sum), 0, rfl, by rw [List.map_map, List.map_map]; rfl, b2, b12, ?_⟩
    walk_at "w"
    refine v_lenK (lk_app hl) ?_
    rw [List.length_map, List.length_map]
    walk_at "w"
    refine v_lenK (e := ⟨_, _⟩) (xs := (wrF b pl).figs.map .int) rfl ?_
    rw [List.length_map]
    walk_at "w"
    refine ⟨_, _, rfl, ?_⟩
    rw [show (if ((wrF b pl).figs.length : Int) < (pl.length : Int) then ((wrF b pl).figs.length : Int) else (pl.length : Int)) = ((min pl.length (wrF b pl).figs.length : Nat) : Int) by split <;> omega]
    refine ⟨b2, b12, by omega, by omega, ?_⟩
    rw [Int.toNat_natCast, show vlF b (wrF b pl).k ((wrF b pl).figs ++ oL (wrF b pl).wt) - vlF b 0 (pl.map (·.1.sum)) = erF b pl from rfl]
    have hp : 0 < b ^ (min pl.length (wrF b pl).figs.length) := Int.pow_pos (by omega)
    have hf : FdivOk (erF b pl) (b ^ (min pl.length (wrF b pl).figs.length)) := pow_fdiv b2 b12 (by omega)
    generalize b ^ (min pl.length (wrF b pl).figs.length) = U at hp hf f9 ⊢
    walk_at "w"
    refine v_itd (fun h => ?_) (fun h => ?_)
    · rw [if_pos h] at f9
      walk_at "w"
      refine ⟨hf, ?_⟩
      walk_at "w"
      exact f9 _ _ _ rfl
    · rw [if_neg h] at f9
      walk_at "w"
      exact f9 _ _ _ rfl
  have hrun : rnF b pl = some (wrF b pl) := rn_po pl po
  rw [show t_law_standing K = r_ls K from rfl, st_ls]
  unfold r_ls
  have f5 := fun x10 x16 => f5 x10 x16
  generalize r_ls_5 K = T at f5 ⊢
  walk_at "w"
  refine ⟨b, r, d, d2, pl, rfl, hl, hl2, gn, ?_⟩
  rw [hrun]
  unfold encRn
  walk_at "w"
  dsimp only [setAll, List.set]
  refine v_listL (xs := (wrF b pl).figs.map .int) rfl ?_
  walk_at "w"
  refine oI_isnot ?_
  have g4 : (sSeq (sIf (eTest (eBin qNe (eV 4) (eLst false aNil))) (sAsg (eCB qTuple (aCons (eLc false (iS (eV 1)) (.one 16) (eTest (eBin qEq (eBin qIx (eV 16) (eC (.int 0))) (eC (.str "copy")))) (eBin qIx (eBin qIx (eV 4) (eNeg (eC (.int 1)))) (eBin qIx (eV 16) (eC (.int 1)))) [16]) aNil)) 10) sNext) T) (Po.fn cs Q) ⟨[some (.int b), some (.lst (es.map encD)), some (.lst (l.map .int)), some (.int m), some d, some d2, some (.lst ((wrF b pl).figs.map .int)), some (oI (wrF b pl).wt), some (.int (wrF b pl).k), some (.cell cs.length), some .non, none, none, none, none, none, none, none, none], cs ++ [Cel.lst (((wrF b pl).figs ++ oL (wrF b pl).wt).map .int)]⟩ := by
    walk_at "w"
    refine v_neE encCE.lst (a := pl.map (·.1)) (b := []) (drf_lk (lk_app hl)) rfl ?_ (by decide) (.inr (fun _ z => nomatch z))
    by_cases hne : pl = []
    · rw [decide_eq_true (show pl.map (·.1) = [] by rw [hne]; rfl)]
      walk_at "w"
      exact f5 _ _ (by rw [if_pos hne]; rfl)
    · rw [decide_eq_false (show ¬ pl.map (·.1) = [] by rw [List.map_eq_nil_iff]; exact hne)]
      walk_at "w"
      have hn1 : pl.length - 1 < pl.length := by have := List.length_pos_iff.mpr hne; omega
      have hx := List.getElem?_eq_getElem hn1
      have hlast : pl.getLast? = some pl[pl.length - 1] := by rw [List.getLast?_eq_getElem?, hx]
      have hxm := List.getElem_mem hn1
      generalize pl[pl.length - 1] = x at hx hlast hxm
      have hcl := (okC_bd (po.c x hxm) b12 r4).2.2
      have hat : atI ((pl.map (·.1)).map encC) (-1) = some (encC x.1) := atI_end (by rw [List.length_map, List.getElem?_map, hx]; rfl)
      refine v_lcF (e1 := ⟨_, _⟩) es encD (fun t => .int (x.1.getD (jx t) 0)) (fun t => decide (t.1 = .copy)) rfl (by omega) (fun Q' Q2 i t ht k1 k2 => ⟨_, rfl, ?_⟩) ?_
      · have htm := isD_of (ge.k.sub t (List.mem_of_getElem? ht))
        obtain ⟨w, ns⟩ := t
        walk_at "w"
        refine v_ixT (xs := .str w.s :: ns.map .int) (show atI (D.str w.s :: ns.map .int) ((0 : Nat) : Int) = some (.str w.s) from atI_nat rfl) ?_
        walk_at "w"
        refine v_wd (w := w) (w2 := .copy) ?_
        cases hw : decide (w = Wo.copy)
        · walk_at "w"
          exact k1 hw
        · cases of_decide_eq_true hw
          obtain ⟨j, rfl, j0, j1⟩ := htm
          walk_at "w"
          refine v_ixK (lk_app hl) hat ?_
          walk_at "w"
          have hj : j = ((j.toNat : Nat) : Int) := by omega
          have hat2 : atI (x.1.map D.int) j = some (.int (x.1.getD j.toNat 0)) := by
            rw [hj]
            exact atI_map (getD_get (by omega))
          refine v_ixTX ⟨.int j, (show atI (D.str Wo.copy.s :: [j].map .int) ((1 : Nat) : Int) = some (.int j) from atI_nat rfl), ?_⟩
          walk_at "w"
          refine v_ixTX ⟨_, hat2, ?_⟩
          exact k2 hw
      walk_at "w"
      refine v_tupK rfl ?_
      walk_at "w"
      refine f5 _ _ ?_
      rw [if_neg hne, hlast]
      show _ = D.tup (((cpF r es).map fun j => x.1.getD j 0).map .int)
      rw [← cp_es ge.ke b2 r1, List.map_map]
      rfl
  generalize (sSeq (sIf (eTest (eBin qNe (eV 4) (eLst false aNil))) (sAsg (eCB qTuple (aCons (eLc false (iS (eV 1)) (.one 16) (eTest (eBin qEq (eBin qIx (eV 16) (eC (.int 0))) (eC (.str "copy")))) (eBin qIx (eBin qIx (eV 4) (eNeg (eC (.int 1)))) (eBin qIx (eV 16) (eC (.int 1)))) [16]) aNil)) 10) sNext) T) = T4 at g4 ⊢
  walk_at "w"
  refine v_itd (fun h => ?_) (fun h => ?_)
  · obtain ⟨x, hx⟩ := Option.ne_none_iff_exists'.mp h
    rw [hx] at g4 ⊢
    dsimp only [oI] at g4 ⊢
    walk_at "w"
    refine ⟨⟨_, lk_cell app_get⟩, ?_⟩
    walk_at "w"
    refine ⟨_, _, _, rfl, rfl, app_get, Nat.lt_of_le_of_lt (show _ ≤ 1000 by rw [List.length_map]; omega) (by decide), ?_⟩
    rw [app_set, show (wrF b pl).figs.map D.int ++ [D.int x] = ((wrF b pl).figs ++ oL (some x)).map .int by rw [List.map_append]; rfl]
    exact g4
  · have h := Classical.not_not.mp h
    rw [h] at g4 ⊢
    walk_at "w"
    rw [show oL none = [] from rfl, List.append_nil] at g4
    exact g4
end
section
def r_lp_1 (K : PySem.W.Frag) : DS := (sSeq (sAsg (eCB qLen (aCons (eV 3) aNil)) 6) (sRet (eBin (qAdd false) (eLst false (aCons (eC .non) aNil)) (eLc false (iS (eV 1)) (.one 7) (eTest (eBin qIsNot (eCall (sp_law_run K) (aCons (eV 0) (aCons (eBin (qAdd false) (eV 3) (eLst false (aCons (eV 5) aNil))) (aCons (eBin (qAdd false) (eV 4) (eLst false (aCons (eTup (aCons (eV 6) (aCons (eV 7) aNil))) aNil))) aNil)))) (eC .non))) (eV 7) [7]))))
def r_lp (K : PySem.W.Frag) : DS := (sSeq (sIf (dOr (eTest (eBin qEq (eCB qLen (aCons (eV 4) aNil)) (eV 2))) (eTest (eBin qIsNot (eBin qIx (eCall (sp_law_run K) (aCons (eV 0) (aCons (eV 3) (aCons (eV 4) aNil)))) (eC (.int 1))) (eC .non)))) (sRet (eLst false (aCons (eC .non) aNil))) sNext) (r_lp_1 K))
variable {K : PySem.W.Frag}
theorem wrD_at {w : Wr} {e : En} {P : D → En → Prop} (p : P (oI w.wt) e) : qIx (encRn (some w)) (.int 1) e P := v_ixT (xs := [.lst (w.figs.map .int), oI w.wt, .int w.k]) rfl p
theorem rn_isnot {o : Option Wr} {e : En} {P : D → En → Prop} (p : P (.bl o.isSome) e) : qIsNot (encRn o) .non e P := by
  cases o with
  | none => exact v_isnN0 p
  | some x => exact v_isnN1 ⟨rfl, rfl, p⟩
theorem po_le {b r m : Int} {s : List Dd} : ∀ pl, Po1 b r s m pl → ((slF 0 pl).length : Int) ≤ m := by
  apply snoc_ind
  · intro h
    have := h.k.m1
    show ((0 : Nat) : Int) ≤ m
    omega
  · intro p x ih h
    have ih := ih h.front
    obtain ⟨c, od⟩ := x
    rw [slF_app, List.length_append]
    cases od with
    | none =>
      show (((slF 0 p).length + 0 : Nat) : Int) ≤ m
      omega
    | some t =>
      have := (ps_lt (h.last.2 t rfl).2).2
      show (((slF 0 p).length + 1 : Nat) : Int) ≤ m
      omega
theorem st_lp {a b c d e f : D} : startD N_law_possible [a, b, c, d, e, f] = [some a, some b, some c, some d, some e, some f, none, none] := rfl
theorem len_law_possible : ∀ ds cs Q, sp_law_possible K ds cs Q → ds.length = 6 := by rintro ds cs Q ⟨_, _, _, _, _, _, _, _, rfl, _⟩; rfl
theorem vc_law_possible : ∀ ds cs Q, Lo ds cs → LoC cs → sp_law_possible K ds cs Q → t_law_possible K (Po.fn cs Q) ⟨startD N_law_possible ds, cs⟩ := by
  rintro ds cs Q hd hc ⟨b, r, m, es, d, d2, pl, col, rfl, hl, hl2, ge, po, hn2, hcol, hf1, hf2, q⟩
  have gn := po.gr (by omega)
  have hrun : rnF b pl = some (wrF b pl) := rn_po pl po
  have e8 := ge.k.l8
  have hsl := sl_len pl 0
  have hnone : ((slF 0 pl).length = m ∨ (wrF b pl).wt ≠ none) → Q (.lst [.non]) cs := by
    intro h
    have e : es.filter (fun t => psL b m pl col t) = [] := by
      rw [List.filter_eq_nil_iff]
      intro t _ hp
      have := ps_lt hp
      rcases h with h | h
      · omega
      · exact h this.1
    rw [e] at q
    exact q
  rw [show t_law_possible K = r_lp K from rfl, st_lp]
  have f1 : ((slF 0 pl).length : Int) ≠ m → (wrF b pl).wt = none → r_lp_1 K (Po.fn cs Q) ⟨[some (.int b), some (.lst (es.map encD)), some (.int m), some d, some d2, some (encC col), none, none], cs⟩ := by
    intro hm hw
    have hlt : ((slF 0 pl).length : Int) < m := by have := po_le pl po; omega
    have hs : ∀ t, (rnF b (pl ++ [(col, some t)])).isSome = psL b m pl col t := by
      intro t
      rw [rnF_snoc, hrun]
      show (rnS b pl.length (lcF b pl) (wrF b pl) (col, some t)).isSome = _
      rw [rn_step po hcol (fun _ => hw) hlt]
      by_cases hp : psL b m pl col t = true
      · rw [if_pos (fun t' e => by cases e; exact hp), hp]
        rfl
      · rw [if_neg (fun z => hp (z t rfl)), Bool.eq_false_iff.mpr hp]
        rfl
    unfold r_lp_1
    walk_at "w"
    refine v_lenK hl ?_
    rw [List.length_map, List.length_map]
    walk_at "w"
    refine v_lcF (e1 := ⟨_, _⟩) es encD encD (fun t => psL b m pl col t) rfl (by omega) (fun Q' Q2 i t ht k1 k2 => ⟨_, rfl, ?_⟩) ?_
    · walk_at "w"
      refine v_addK (lkP_lk hl hf1) rfl (by rw [List.length_map, List.length_map]; show _ + 1 ≤ 100000; omega) ?_
      walk_at "w"
      refine v_addK (lkP_lk hl2 hf2) rfl (by rw [List.length_map]; show _ + 1 ≤ 100000; omega) ?_
      walk_at "w"
      have htm := ge.k.sub t (List.mem_of_getElem? ht)
      refine ⟨b, r, _, _, pl ++ [(col, some t)], rfl, by rw [List.map_append, List.map_append]; rfl, by rw [slF_app, List.map_append, Nat.zero_add]; rfl, ⟨gn.b2, gn.b12, gn.r1, gn.r4, ?_, ?_, by rw [List.length_append, List.length_singleton]; omega⟩, ?_⟩
      · intro x hx
        rcases List.mem_append.mp hx with z | z
        · exact gn.c x z
        · cases List.mem_singleton.mp z
          exact hcol
      · intro x hx t' ht'
        rcases List.mem_append.mp hx with z | z
        · exact gn.d x z t' ht'
        · cases List.mem_singleton.mp z
          cases ht'
          exact htm
      walk_at "w"
      refine rn_isnot ?_
      rw [hs t]
      cases hp : psL b m pl col t
      · walk_at "w"
        exact k1 hp
      · walk_at "w"
        exact k2 hp
    · walk_at "w"
      refine v_addL ⟨by rw [List.length_map]; have := List.length_filter_le (fun t => psL b m pl col t) es; show 1 + _ ≤ _; omega, ?_⟩
      walk_at "w"
      exact .inl q
  unfold r_lp
  generalize r_lp_1 K = T at f1 ⊢
  walk_at "w"
  refine v_lenK hl2 ?_
  rw [List.length_map]
  walk_at "w"
  refine v_itd (fun h => ?_) (fun h => ?_)
  · walk_at "w"
    exact .inl (hnone (.inl h))
  · walk_at "w"
    refine ⟨b, r, d, d2, pl, rfl, hl, hl2, gn, ?_⟩
    rw [hrun]
    unfold encRn
    walk_at "w"
    refine oI_isnot ?_
    walk_at "w"
    refine v_itd (fun h2 => ?_) (fun h2 => ?_)
    · walk_at "w"
      exact .inl (hnone (.inr h2))
    · walk_at "w"
      exact f1 h (Classical.not_not.mp h2)
end
section
variable {K : PySem.W.Frag}
theorem sl_fwd : ∀ (p : List Pl) (k i : Nat) (y : Nat × Dd), (slF k p)[i]? = some y → k ≤ y.1 ∧ ∃ x, p[y.1 - k]? = some x ∧ x.2 = some y.2
  | [], _, _, _, h => nomatch h
  | (c, some t) :: p, k, 0, y, h => by
    cases h
    exact ⟨Nat.le_refl _, (c, some t), by rw [Nat.sub_self]; rfl, rfl⟩
  | (c, some t) :: p, k, i + 1, y, h => by
    obtain ⟨h1, x, h2, h3⟩ := sl_fwd p (k + 1) i y h
    exact ⟨by omega, x, by rw [show y.1 - k = (y.1 - (k + 1)) + 1 by omega]; exact h2, h3⟩
  | (c, none) :: p, k, i, y, h => by
    obtain ⟨h1, x, h2, h3⟩ := sl_fwd p (k + 1) i y h
    exact ⟨by omega, x, by rw [show y.1 - k = (y.1 - (k + 1)) + 1 by omega]; exact h2, h3⟩
theorem v_isC {C : Addr} {d : D} {e : En} {P : D → En → Prop} (h : ∃ ns xs, insD e.cs d = some (C, ns, xs)) (p : P (.bl true) e) : qIsiC C [d, .raw (.ref C)] e P := ⟨rfl, h, p⟩
theorem alk_int (n : Nat) (cs : List Cel) (i : Int) : alk n cs (.int i) (.int i) := by
  cases n
  · exact ⟨rfl, .inr (.inr (.inl ⟨i, rfl⟩))⟩
  · exact .inl ⟨rfl, .inr (.inr (.inl ⟨i, rfl⟩))⟩
theorem alk_oI (n : Nat) (cs : List Cel) (o : Option Int) : alk n cs (oI o) (oI o) := by
  cases o with
  | some i => exact alk_int n cs i
  | none =>
    cases n
    · exact ⟨rfl, .inl rfl⟩
    · exact .inl ⟨rfl, .inl rfl⟩
theorem alk_bl (n : Nat) (cs : List Cel) (b : Bool) : alk n cs (.bl b) (.bl b) := by
  cases n
  · exact ⟨rfl, .inr (.inl ⟨b, rfl⟩)⟩
  · exact .inl ⟨rfl, .inr (.inl ⟨b, rfl⟩)⟩
theorem alk_ints (n : Nat) (cs : List Cel) (xs : List Int) (h : xs.length ≤ 30000) : alk (n + 1) cs (.tup (xs.map .int)) (.tup (xs.map .int)) := .inr (.inl ⟨_, rfl, rfl, by rw [List.length_map]; exact h, fun x hx => by
  obtain ⟨i, _, rfl⟩ := List.mem_map.mp hx
  exact alk_int n cs i⟩)
theorem alk_D (n : Nat) (cs : List Cel) {t : Dd} (h : t.2.length ≤ 2) : alk (n + 1) cs (encD t) (encD t) := .inr (.inl ⟨_, rfl, rfl, by rw [List.length_cons, List.length_map]; omega, fun x hx => by
  rcases List.mem_cons.mp hx with rfl | hx
  · cases n
    · exact ⟨rfl, .inr (.inr (.inr ⟨_, rfl, Wo.lay _⟩))⟩
    · exact .inl ⟨rfl, .inr (.inr (.inr ⟨_, rfl, Wo.lay _⟩))⟩
  · obtain ⟨i, _, rfl⟩ := List.mem_map.mp hx
    exact alk_int n cs i⟩)
theorem alk_lst {n : Nat} {cs : List Cel} {d d' : D} {xs : List D} (h1 : lk cs d = some xs) (h2 : lk cs d' = some xs) (f1 : ∀ ys, d ≠ .fro ys) (f2 : ∀ ys, d' ≠ .fro ys) (hz : xs.length ≤ 30000) (h : ∀ x ∈ xs, alk n cs x x) : alk (n + 1) cs d d' := .inr (.inr ⟨xs, h1, h2, f1, f2, hz, h⟩)
theorem alk_std {cs : List Cel} {cp : List Nat} {l : List Int} {s : Std} (g : Gs cp l s) (hl : l.length ≤ 8) (hc : cp.length ≤ 4) : alk 3 cs (encSt s) (encSt s) := by
  refine .inr (.inl ⟨_, rfl, rfl, by simp, fun x hx => ?_⟩)
  simp only [List.mem_cons, List.not_mem_nil, or_false] at hx
  rcases hx with rfl | rfl | rfl | rfl | rfl | rfl | rfl
  · exact alk_int 2 _ _
  · exact alk_oI 2 _ _
  · cases hb : s.bf with
    | none => exact .inl ⟨rfl, .inl rfl⟩
    | some xs =>
      have := g.b xs hb
      exact alk_ints 1 _ _ (by omega)
  · exact alk_int 2 _ _
  · exact alk_int 2 _ _
  · exact alk_oI 2 _ _
  · have := g.rs
    refine .inr (.inl ⟨_, rfl, rfl, by rw [List.length_map]; omega, fun y hy => ?_⟩)
    obtain ⟨t, _, rfl⟩ := List.mem_map.mp hy
    exact alk_ints 0 _ [t.1, t.2.1, t.2.2] (by simp)
theorem st_look {a b c d e : D} : startD N_law_look [a, b, c, d, e] = [some a, some b, some c, some d, some e, none, none, none, none] := rfl
theorem len_law_look : ∀ ds cs Q, sp_law_look K ds cs Q → ds.length = 5 := by rintro ds cs Q ⟨_, _, _, _, _, _, _, _, _, _, _, rfl, _⟩; rfl
theorem vc_law_look : ∀ ds cs Q, Lo ds cs → LoC cs → sp_law_look K ds cs Q → t_law_look K (Po.fn cs Q) ⟨startD N_law_look ds, cs⟩ := by
  rintro ds cs Q hd hc ⟨n, h, b, r, m, es, l, pl, x, y, turn, rfl, L, hx, hy, fx, fy, q⟩
  have hi := L.ins
  have hn2 := L.n2
  have hsl := sl_len pl 0
  have a0 : alk 3 cs (.lst ((pl.map (·.1)).map encC)) x := alk_lst rfl hx (fun _ z => nomatch z) fx (by rw [List.length_map, List.length_map]; omega) fun z hz => by
    obtain ⟨c, hc, rfl⟩ := List.mem_map.mp hz
    obtain ⟨p, hp, rfl⟩ := List.mem_map.mp hc
    have := (okC_bd (L.p.c p hp) L.e.k.n.b12 L.e.k.n.r4).2.2
    have := L.e.k.n.r4
    exact alk_ints 1 _ _ (by omega)
  have a1 : alk 3 cs (.lst ((slF 0 pl).map encS)) y := alk_lst rfl hy (fun _ z => nomatch z) fy (by rw [List.length_map]; omega) fun z hz => by
    obtain ⟨t, ht, rfl⟩ := List.mem_map.mp hz
    obtain ⟨j, hj⟩ := List.getElem?_of_mem ht
    obtain ⟨_, x', hp, hx'⟩ := sl_fwd pl 0 j t hj
    have htm := (isD_of (L.e.k.sub _ (L.p.d _ x' t.2 hp hx').1)).len
    refine .inr (.inl ⟨_, rfl, rfl, by simp, fun z hz => ?_⟩)
    simp only [List.mem_cons, List.not_mem_nil, or_false] at hz
    rcases hz with rfl | rfl
    · exact alk_int 1 _ _
    · exact alk_D 0 _ htm
  rw [st_look]
  unfold t_law_look
  walk_at "w"
  refine ⟨fun i e => ∃ x6 x7 x8 : Option D, e = ⟨[some (.cell n), some (.int b), some (.int r), some (.lst [x, y, encSt (docF b r es m l pl)]), some (.int turn), some (.bl true), x6, x7, x8], cs⟩, ⟨none, none, none, rfl⟩, ?_, ?_⟩
  · rintro i d e1 hi1 ⟨x6, x7, x8, rfl⟩
    obtain ⟨hi2, rfl⟩ := intsD_get hi1
    refine ⟨trivial, _, rfl, ?_⟩
    walk_at "w"
    refine v_itd (fun h0 => ?_) (fun h0 => ?_)
    · walk_at "w"
      refine ⟨n, h, b, r, m, es, l, pl, rfl, L, .inl ?_⟩
      walk_at "w"
      refine v_isC ⟨_, _, rfl⟩ ?_
      walk_at "w"
      refine ⟨⟨_, _, rfl⟩, _, b, r, pl.map (·.1), rfl, isSh_d, ?_⟩
      walk_at "w"
      rw [decide_eq_true (rfl : b = b)]
      walk_at "w"
      refine ⟨⟨_, _, rfl⟩, _, b, r, pl.map (·.1), rfl, isSh_d, ?_⟩
      walk_at "w"
      rw [decide_eq_true (rfl : r = r)]
      walk_at "w"
      refine ⟨⟨_, _, rfl⟩, _, b, r, pl.map (·.1), rfl, isSh_d, .inl ?_⟩
      walk_at "w"
      refine v_ixK (xs := [x, y, encSt (docF b r es m l pl)]) rfl rfl ?_
      walk_at "w"
      refine ⟨_, _, rfl, a0, ?_⟩
      walk_at "w"
      exact ⟨_, _, _, rfl⟩
    walk_at "w"
    refine v_itd (fun h1 => ?_) (fun h1 => ?_)
    · walk_at "w"
      refine ⟨n, h, b, r, m, es, l, pl, rfl, L, .inl ?_⟩
      walk_at "w"
      refine v_ixK (xs := [x, y, encSt (docF b r es m l pl)]) rfl rfl ?_
      walk_at "w"
      refine ⟨_, _, rfl, a1, ?_⟩
      walk_at "w"
      exact ⟨_, _, _, rfl⟩
    walk_at "w"
    refine v_itd (fun h2 => ?_) (fun h2 => ?_)
    · walk_at "w"
      refine ⟨n, h, b, r, m, es, l, pl, rfl, L, ?_⟩
      walk_at "w"
      refine v_ixK (xs := [x, y, encSt (docF b r es m l pl)]) rfl rfl ?_
      walk_at "w"
      refine ⟨_, _, rfl, alk_std (doc_gs L.p (by omega)) L.l.len (cp_l4 L.e.k.n.r4), ?_⟩
      walk_at "w"
      exact ⟨_, _, _, rfl⟩
    walk_at "w"
    refine v_itd (fun h3 => ?_) (fun h3 => ?_)
    · walk_at "w"
      refine ⟨n, h, b, r, m, es, l, pl, rfl, L, ?_⟩
      walk_at "w"
      refine v_ixK (xs := [x, y, encSt (docF b r es m l pl)]) rfl rfl ?_
      unfold encSt
      walk_at "w"
      refine oI_isnot ?_
      rw [show decide ((docF b r es m l pl).wt ≠ none) = (wrF b pl).wt.isSome by show decide ((wrF b pl).wt ≠ none) = _; cases (wrF b pl).wt <;> rfl]
      walk_at "w"
      refine ⟨_, _, rfl, alk_bl _ _ _, ?_⟩
      walk_at "w"
      exact ⟨_, _, _, rfl⟩
    walk_at "w"
    refine ⟨⟨_, _, hi⟩, n, h, b, r, m, es, l, pl, rfl, L, ?_⟩
    walk_at "w"
    refine ⟨⟨_, rfl, by omega⟩, ?_⟩
    walk_at "w"
    refine v_ixK (xs := [x, y, encSt (docF b r es m l pl)]) rfl rfl ?_
    walk_at "w"
    refine v_lenK hx ?_
    rw [List.length_map, List.length_map]
    walk_at "w"
    rw [decide_eq_true rfl]
    exact ⟨_, _, _, rfl⟩
  · rintro e1 ⟨x6, x7, x8, rfl⟩
    refine ⟨trivial, ?_⟩
    walk_at "w"
    exact .inl q
end
section
variable {K : PySem.W.Frag}
theorem Ld.app {cs : List Cel} {n h : Nat} {b r m : Int} {es : List Dd} {l : List Int} {pl : List Pl} {c : Cel} (L : Ld K cs n h b r es m l pl) : Ld K (cs ++ [c]) n h b r es m l pl := ⟨app_get_lt L.at_, app_get_lt L.hs, L.e, L.p, L.n2, L.l⟩
theorem Ld.set {cs : List Cel} {n h k : Nat} {b r m : Int} {es : List Dd} {l : List Int} {pl : List Pl} {c : Cel} (L : Ld K cs n h b r es m l pl) (h1 : k ≠ n) (h2 : k ≠ h) : Ld K (cs.set k c) n h b r es m l pl := ⟨set_other L.at_ h1, set_other L.hs h2, L.e, L.p, L.n2, L.l⟩
theorem st_spoil {a : D} : startD N_law_spoil [a] = [some a, none, none, none] := rfl
theorem len_law_spoil : ∀ ds cs Q, sp_law_spoil K ds cs Q → ds.length = 1 := by rintro ds cs Q ⟨_, _, _, _, _, _, _, _, rfl, _⟩; rfl
theorem vc_law_spoil : ∀ ds cs Q, Lo ds cs → LoC cs → sp_law_spoil K ds cs Q → t_law_spoil K (Po.fn cs Q) ⟨startD N_law_spoil ds, cs⟩ := by
  rintro ds cs Q hd hc ⟨n, h, b, r, m, es, l, pl, rfl, L, q⟩
  have hi := L.ins
  have hn2 := L.n2
  have hsl := sl_len pl 0
  rw [st_spoil]
  unfold t_law_spoil
  walk_at "w"
  refine ⟨n, h, b, r, m, es, l, pl, rfl, L, .inr ?_⟩
  walk_at "w"
  refine ⟨⟨_, lk_cell app_get⟩, ?_⟩
  walk_at "w"
  refine ⟨_, _, _, rfl, rfl, app_get, Nat.lt_of_le_of_lt (show _ ≤ 1000 by rw [List.length_map]; omega) (by decide), ?_⟩
  rw [app_set]
  have L1 := L.app (c := Cel.lst ((slF 0 pl).map encS ++ [D.tup [.int 0, .tup [.str "out"]]]))
  have t1 : (cs ++ [Cel.lst ((slF 0 pl).map encS ++ [D.tup [.int 0, .tup [.str "out"]]])]).take cs.length = cs := by simp
  have l1 : (cs ++ [Cel.lst ((slF 0 pl).map encS ++ [D.tup [.int 0, .tup [.str "out"]]])]).length = cs.length + 1 := by simp
  generalize cs ++ [Cel.lst ((slF 0 pl).map encS ++ [D.tup [.int 0, .tup [.str "out"]]])] = cs1 at L1 t1 l1 ⊢
  have hi1 := L1.ins
  walk_at "w"
  refine ⟨n, h, b, r, m, es, l, pl, rfl, L1, .inr ?_⟩
  walk_at "w"
  have eA : cs1 ++ [Cel.ins (He.ga K "Sheet") shN [D.int b, D.int r, D.cell (cs1.length + 1), D.int pl.length], Cel.lst ((pl.map (·.1)).map encC)] = (cs1 ++ [Cel.ins (He.ga K "Sheet") shN [D.int b, D.int r, D.cell (cs1.length + 1), D.int pl.length]]) ++ [Cel.lst ((pl.map (·.1)).map encC)] := by rw [List.append_assoc]; rfl
  rw [eA]
  have n1 : ((cs1 ++ [Cel.ins (He.ga K "Sheet") shN [D.int b, D.int r, D.cell (cs1.length + 1), D.int pl.length]]) ++ [Cel.lst ((pl.map (·.1)).map encC)])[cs1.length]? = some (Cel.ins (He.ga K "Sheet") shN [D.int b, D.int r, D.cell (cs1.length + 1), D.int (pl.map (·.1)).length]) := by
    rw [List.length_map]
    exact g3b
  have n2 : ((cs1 ++ [Cel.ins (He.ga K "Sheet") shN [D.int b, D.int r, D.cell (cs1.length + 1), D.int pl.length]]) ++ [Cel.lst ((pl.map (·.1)).map encC)])[cs1.length + 1]? = some (Cel.lst ((pl.map (·.1)).map encC)) := g3c
  have t2 : ((cs1 ++ [Cel.ins (He.ga K "Sheet") shN [D.int b, D.int r, D.cell (cs1.length + 1), D.int pl.length]]) ++ [Cel.lst ((pl.map (·.1)).map encC)]).take cs.length = cs := by
    rw [List.append_assoc, List.take_append_of_le_length (by omega)]
    exact t1
  have l2 : ((cs1 ++ [Cel.ins (He.ga K "Sheet") shN [D.int b, D.int r, D.cell (cs1.length + 1), D.int pl.length]]) ++ [Cel.lst ((pl.map (·.1)).map encC)]).length = cs1.length + 2 := by simp
  generalize (cs1 ++ [Cel.ins (He.ga K "Sheet") shN [D.int b, D.int r, D.cell (cs1.length + 1), D.int pl.length]]) ++ [Cel.lst ((pl.map (·.1)).map encC)] = cs2 at n1 n2 t2 l2 ⊢
  refine ⟨⟨_, _, ins_cell n1⟩, _, b, r, pl.map (·.1), rfl, isSh_cell n1 n2, .inr ?_⟩
  walk_at "w"
  refine ⟨⟨_, lk_cell app_get⟩, ?_⟩
  walk_at "w"
  refine ⟨_, _, _, rfl, rfl, app_get, Nat.lt_of_le_of_lt (show _ ≤ 1000 by rw [List.length_map, List.length_map]; omega) (by decide), ?_⟩
  rw [app_set]
  have n1' := fun c => app_get_lt (c := c) n1
  have n2' := fun c => app_get_lt (c := c) n2
  walk_at "w"
  refine ⟨⟨_, _, ins_cell (n1' _)⟩, _, b, r, pl.map (·.1), rfl, isSh_cell (n1' _) (n2' _), ?_⟩
  walk_at "w"
  refine ⟨⟨_, rfl, by rw [List.length_map]; omega⟩, ?_⟩
  have tE : ∀ c, (cs2 ++ [c]).take cs.length = cs := fun c => by rw [List.take_append_of_le_length (by omega)]; exact t2
  have tF : ∀ c c2, ((cs2 ++ [c]).set (cs1.length + 1) c2).take cs.length = cs := fun c c2 => by
    rw [List.take_set, tE]
    exact List.set_eq_of_length_le (by omega)
  walk_at "w"
  refine v_itd (fun h => ?_) (fun h => ?_)
  · walk_at "w"
    refine ⟨_, b, r, pl.map (·.1), rfl, isSh_cell (n1' _) (n2' _), ?_⟩
    have r1 := L.e.k.n.r1
    have r4 := L.e.k.n.r4
    have b2 := L.e.k.n.b2
    refine v_rep (fun z => nomatch z) r1 (by omega) (by show 1 ≤ 1000; decide) ?_
    have e : (List.replicate r.toNat [D.int 1]).flatten = (List.replicate r.toNat (1 : Int)).map .int := by
      generalize r.toNat = k
      induction k with
      | zero => rfl
      | succ k ih =>
        rw [List.replicate_succ, List.flatten_cons, ih, List.replicate_succ]
        rfl
    rw [e]
    have ho : okC b r (List.replicate r.toNat 1) = true := okC_of (by rw [List.length_replicate]; omega) fun y hy => by
      rw [(List.mem_replicate.mp hy).2]
      omega
    walk_at "w"
    rw [List.length_map] at h
    refine ⟨cs1.length, cs1.length + 1, b, r, pl.map (·.1), 0, List.replicate r.toNat 1, rfl, n1' _, n2' _, by rw [List.length_map]; omega, ho, by rw [List.length_replicate]; omega, ?_⟩
    exact trim_back (tF _ _) rfl q
  · walk_at "w"
    exact trim_back (tE _) rfl q
end
section
def r_lb_7 (K : PySem.W.Frag) : DS := (sSeq (sDrop (eBM qApp (eV 9) (aCons (eV 13) aNil))) (sSeq (sAsg (eLst false (aCons (eV 9) (aCons (eV 10) (aCons (eCall (sp_law_standing K) (aCons (eV 2) (aCons (eV 4) (aCons (eV 6) (aCons (eV 5) (aCons (eV 9) (aCons (eV 10) aNil))))))) aNil)))) 17) (sSeq (sIf (dOr (eTest (eBin qIsNot (eV 16) (eC .non))) (dNot (eTru (eCall (sp_law_look K) (aCons (eV 8) (aCons (eV 2) (aCons (eV 3) (aCons (eV 17) (aCons (eV 12) aNil))))))))) (sRet (eC (.bl false))) sNext) (sDrop (eCall (sp_law_spoil K) (aCons (eV 8) aNil))))))
def r_lb_6 (K : PySem.W.Frag) : DS := (sSeq (sIf (eTest (eBin qIsNot (eV 14) (eC .non))) (sDrop (eBM qApp (eV 10) (aCons (eTup (aCons (eCB qLen (aCons (eV 9) aNil)) (aCons (eV 14) aNil))) aNil))) sNext) (r_lb_7 K))
def r_lb_5 (K : PySem.W.Frag) : DS := (sSeq (sIf (dAnd (eTest (eBin qIs (eV 14) (eC .non))) (eTest (eBin qLt (eV 12) (eC (.int 2))))) (sAsg (eMethX (He.ga K "Ledger") "put" (fun _ _ => False) (sp_Ledger_put K) [.non] (eV 8) (aCons (eV 13) aNil)) 16) (sAsg (eMethK (He.ga K "Ledger") "put" (fun _ _ => False) (sp_Ledger_put K) 2 (eV 8) (aCons (eV 13) aNil) (aCons (eV 14) aNil)) 16)) (r_lb_6 K))
def r_law_7 (K : PySem.W.Frag) : DS := (sSeq (sFor (iS (eSl false (eBin (qAdd false) (eSl false (eV 0) (oSome (eC (.int 1))) oNone) (eLst false (aCons (eC (.int 4)) (aCons (eC (.int 9)) (aCons (eC (.int 2)) aNil))))) oNone (oSome (eC (.int 60))))) (.one 11) (sSeq (sAsg (eCall (sp_law_pool K) (aCons (eV 11) (aCons (eC (.int 51)) aNil))) 1) (sSeq (sAsg (eCall (sp_law_draw K) (aCons (eV 1) (aCons (eC (.int 5)) aNil))) 12) (sSeq (sAsg (eCall (sp_law_column K) (aCons (eV 1) (aCons (eV 2) (aCons (eV 3) aNil)))) 13) (sSeq (sAsg (eC .non) 14) (sSeq (sIf (eTest (eBin qEq (eCall (sp_law_draw K) (aCons (eV 1) (aCons (eC (.int 2)) aNil))) (eC (.int 1)))) (sSeq (sAsg (eCall (sp_law_possible K) (aCons (eV 2) (aCons (eV 4) (aCons (eV 5) (aCons (eV 9) (aCons (eV 10) (aCons (eV 13) aNil))))))) 15) (sAsg (eBin qIx (eV 15) (eCall (sp_law_draw K) (aCons (eV 1) (aCons (eCB qLen (aCons (eV 15) aNil)) aNil)))) 14)) sNext) (r_lb_5 K))))))) (sRet (eCall (sp_law_look K) (aCons (eV 8) (aCons (eV 2) (aCons (eV 3) (aCons (eLst false (aCons (eV 9) (aCons (eV 10) (aCons (eCall (sp_law_standing K) (aCons (eV 2) (aCons (eV 4) (aCons (eV 6) (aCons (eV 5) (aCons (eV 9) (aCons (eV 10) aNil))))))) aNil)))) (aCons (eC (.int 1)) aNil))))))))
def r_law (K : PySem.W.Frag) : DS := (sSeq (sAsg (eCall (sp_law_pool K) (aCons (eBin qIx (eBin (qCatF false) (eV 0) (eLst false (aCons (eC (.int 5)) aNil))) (eC (.int 0))) (aCons (eC (.int 50)) aNil))) 1) (sSeq (sAsgT (eCall (sp_law_setting K) (aCons (eV 1) aNil)) (.tup [2, 3, 4, 5, 6])) (sSeq (sAsg (eCB (qList true) (aCons (eV 6) aNil)) 7) (sSeq (sAsg (eMake (He.ga K "Ledger") (sp_Ledger_init K) (aCons (eCall (sp_law_made K) (aCons (eV 1) (aCons (eV 2) (aCons (eV 3) (aCons (eV 4) (aCons (eV 5) aNil)))))) (aCons (eV 7) aNil))) 8) (sSeq (sDrop (eBM qApp (eV 7) (aCons (eC (.int 1)) aNil))) (sSeq (sPar 9 10 (aCons (eLst true aNil) (aCons (eLst true aNil) aNil))) (sSeq (sIf (dNot (eTru (eCall (sp_law_look K) (aCons (eV 8) (aCons (eV 2) (aCons (eV 3) (aCons (eLst false (aCons (eLst false aNil) (aCons (eLst false aNil) (aCons (eCall (sp_law_standing K) (aCons (eV 2) (aCons (eV 4) (aCons (eV 6) (aCons (eV 5) (aCons (eLst false aNil) (aCons (eLst false aNil) aNil))))))) aNil)))) (aCons (eC (.int 0)) aNil)))))))) (sRet (eC (.bl false))) sNext) (r_law_7 K))))))))
variable {K : PySem.W.Frag}
theorem po_nil {b r m : Int} {s : List Dd} (g : Gk b r s m) : Po1 b r s m [] := ⟨g, (fun _ h => nomatch h), fun _ _ _ h => nomatch h⟩
theorem st_law {a : D} : startD N_law [a] = [some a, none, none, none, none, none, none, none, none, none, none, none, none, none, none, none, none, none] := rfl
theorem len_law : ∀ ds cs Q, sp_law K ds cs Q → ds.length = 1 := by rintro ds cs Q ⟨_, rfl, _⟩; rfl
theorem vc_law : ∀ ds cs Q, Lo ds cs → LoC cs → sp_law K ds cs Q → t_law K (Po.fn cs Q) ⟨startD N_law ds, cs⟩ := by
  rintro ds cs Q hd hc ⟨ns, rfl, hl, rfl, q⟩
  have f7 : ∀ (b r m : Int) (es : List Dd) (l : List Int) (cs0 : List Cel), Ge b r es m → Ld K cs0 2 3 b r es m l [] → cs0[4]? = some (.lst []) → cs0[5]? = some (.lst []) →
      r_law_7 K (Po.fn [] Q) ⟨[some (.fro (ns.map .int)), some (.cell 0), some (.int b), some (.int r), some (.lst (es.map encD)), some (.int m), some (.lst (l.map .int)), some (.cell 1), some (.cell 2), some (.cell 4), some (.cell 5), none, none, none, none, none, none, none], cs0⟩ := by
    intro b r m es l cs0 ge L h4 h5
    unfold r_law_7
    walk_at "w"
    refine v_slL (xs := ns.map .int) rfl (fun _ z => nomatch z) (fun _ z => nomatch z) ?_
    rw [show (some (1 : Int)) = some ((1 : Nat) : Int) from rfl, cut_from]
    walk_at "w"
    refine v_addL ⟨by rw [List.length_map, List.length_drop]; show _ + 3 ≤ _; omega, ?_⟩
    rw [show [D.int 4, D.int 9, D.int 2] = [4, 9, 2].map D.int from rfl, ← List.map_append]
    walk_at "w"
    refine v_slL (xs := (ns.drop 1 ++ [4, 9, 2]).map .int) rfl (fun _ z => nomatch z) (fun _ z => nomatch z) ?_
    rw [show (some (60 : Int)) = some ((60 : Nat) : Int) from rfl, cut_to]
    have hk : ((ns.drop 1 ++ [4, 9, 2]).take 60).length ≤ 60 := List.length_take_le ..
    generalize (ns.drop 1 ++ [4, 9, 2]).take 60 = ks at hk ⊢
    walk_at "w"
    refine ⟨fun i e => ∃ (pl : List Pl) (cs1 : List Cel) (x1 x11 x12 x13 x14 x15 x16 x17 : Option D), pl.length = i ∧ Ld K cs1 2 3 b r es m l pl ∧ cs1[4]? = some (.lst ((pl.map (·.1)).map encC)) ∧ cs1[5]? = some (.lst ((slF 0 pl).map encS)) ∧
      e = ⟨[some (.fro (ns.map .int)), x1, some (.int b), some (.int r), some (.lst (es.map encD)), some (.int m), some (.lst (l.map .int)), some (.cell 1), some (.cell 2), some (.cell 4), some (.cell 5), x11, x12, x13, x14, x15, x16, x17], cs1⟩,
      ⟨[], cs0, _, none, none, none, none, none, none, none, rfl, L, h4, h5, rfl⟩, ?_, ?_⟩
    · rintro i d e1 hi ⟨pl, cs1, x1, x11, x12, x13, x14, x15, x16, x17, hpl, L, h4, h5, rfl⟩
      rw [List.getElem?_map, Option.map_eq_some_iff] at hi
      obtain ⟨c, hi, rfl⟩ := hi
      have hik := (List.getElem?_eq_some_iff.mp hi).1
      refine ⟨trivial, _, rfl, ?_⟩
      walk_at "w"
      refine ⟨c, 51, rfl, by decide, fun a0 => ?_⟩
      walk_at "w"
      refine ⟨cs1.length, 5, a0, rfl, app_get, by decide, by decide, fun tn a1 tn0 tn1 => ?_⟩
      rw [app_set]
      walk_at "w"
      refine ⟨cs1.length, a1, b, r, rfl, app_get, ge.k.n, fun col a2 hcol => ?_⟩
      rw [app_set]
      walk_at "w"
      refine ⟨cs1.length, 2, a2, rfl, app_get, by decide, by decide, fun w a3 w0 w1 => ?_⟩
      rw [app_set]
      have fin : ∀ (od : Option Dd) (x : Int) (y15 : Option D), (∀ t, od = some t → t ∈ es ∧ psL b m pl col t = true) → r_lb_5 K (((Po.fn [] Q).thn (sRet (eCall (sp_law_look K) (aCons (eV 8) (aCons (eV 2) (aCons (eV 3) (aCons (eLst false (aCons (eV 9) (aCons (eV 10) (aCons (eCall (sp_law_standing K) (aCons (eV 2) (aCons (eV 4) (aCons (eV 6) (aCons (eV 5) (aCons (eV 9) (aCons (eV 10) aNil))))))) aNil)))) (aCons (eC (.int 1)) aNil)))))))).lp fun e => ∃ (pl : List Pl) (cs1 : List Cel) (x1 x11 x12 x13 x14 x15 x16 x17 : Option D), pl.length = i + 1 ∧ Ld K cs1 2 3 b r es m l pl ∧ cs1[4]? = some (.lst ((pl.map (·.1)).map encC)) ∧ cs1[5]? = some (.lst ((slF 0 pl).map encS)) ∧
          e = ⟨[some (.fro (ns.map .int)), x1, some (.int b), some (.int r), some (.lst (es.map encD)), some (.int m), some (.lst (l.map .int)), some (.cell 1), some (.cell 2), some (.cell 4), some (.cell 5), x11, x12, x13, x14, x15, x16, x17], cs1⟩)
          ⟨[some (.fro (ns.map .int)), some (.cell cs1.length), some (.int b), some (.int r), some (.lst (es.map encD)), some (.int m), some (.lst (l.map .int)), some (.cell 1), some (.cell 2), some (.cell 4), some (.cell 5), some (.int c), some (.int tn), some (encC col), some (oD od), y15, x16, x17], cs1 ++ [plC x]⟩ := by
        intro od x y15 hod
        have po : Po1 b r es m (pl ++ [(col, od)]) := L.p.snoc hcol hod
        have La := L.app (c := plC x)
        have h4a := app_get_lt (c := plC x) h4
        have h5a := app_get_lt (c := plC x) h5
        generalize cs1 ++ [plC x] = csA at La h4a h5a ⊢
        have hp1 : (pl ++ [(col, od)]).length = i + 1 := by rw [List.length_append, hpl]; rfl
        have Lb : Ld K (csA.set 3 (.lst (hsF b r es m l (pl ++ [(col, od)])))) 2 3 b r es m l (pl ++ [(col, od)]) := ⟨set_other La.at_ (by decide), set_get La.hs, ge, po, by rw [hp1]; omega, La.l⟩
        have h4b := set_other (m := 3) (c := .lst (hsF b r es m l (pl ++ [(col, od)]))) h4a (by decide)
        have h5b := set_other (m := 3) (c := .lst (hsF b r es m l (pl ++ [(col, od)]))) h5a (by decide)
        have hput : ∀ P : D → List Cel → Prop, P .non (csA.set 3 (.lst (hsF b r es m l (pl ++ [(col, od)])))) → sp_Ledger_put K [.cell 2, encC col, oD od] csA P (fun _ _ => False) := fun P p => ⟨2, 3, b, r, m, es, l, pl, col, od, rfl, La, po, p⟩
        generalize csA.set 3 (.lst (hsF b r es m l (pl ++ [(col, od)]))) = csB at Lb h4b h5b hput
        have g6 : r_lb_6 K (((Po.fn [] Q).thn (sRet (eCall (sp_law_look K) (aCons (eV 8) (aCons (eV 2) (aCons (eV 3) (aCons (eLst false (aCons (eV 9) (aCons (eV 10) (aCons (eCall (sp_law_standing K) (aCons (eV 2) (aCons (eV 4) (aCons (eV 6) (aCons (eV 5) (aCons (eV 9) (aCons (eV 10) aNil))))))) aNil)))) (aCons (eC (.int 1)) aNil)))))))).lp fun e => ∃ (pl : List Pl) (cs1 : List Cel) (x1 x11 x12 x13 x14 x15 x16 x17 : Option D), pl.length = i + 1 ∧ Ld K cs1 2 3 b r es m l pl ∧ cs1[4]? = some (.lst ((pl.map (·.1)).map encC)) ∧ cs1[5]? = some (.lst ((slF 0 pl).map encS)) ∧
          e = ⟨[some (.fro (ns.map .int)), x1, some (.int b), some (.int r), some (.lst (es.map encD)), some (.int m), some (.lst (l.map .int)), some (.cell 1), some (.cell 2), some (.cell 4), some (.cell 5), x11, x12, x13, x14, x15, x16, x17], cs1⟩)
          ⟨[some (.fro (ns.map .int)), some (.cell cs1.length), some (.int b), some (.int r), some (.lst (es.map encD)), some (.int m), some (.lst (l.map .int)), some (.cell 1), some (.cell 2), some (.cell 4), some (.cell 5), some (.int c), some (.int tn), some (encC col), some (oD od), y15, some .non, x17], csB⟩ := by
          unfold r_lb_6
          have g7 : ∀ csC : List Cel, Ld K csC 2 3 b r es m l (pl ++ [(col, od)]) → csC[4]? = some (.lst ((pl.map (·.1)).map encC)) → csC[5]? = some (.lst ((slF 0 (pl ++ [(col, od)])).map encS)) → r_lb_7 K (((Po.fn [] Q).thn (sRet (eCall (sp_law_look K) (aCons (eV 8) (aCons (eV 2) (aCons (eV 3) (aCons (eLst false (aCons (eV 9) (aCons (eV 10) (aCons (eCall (sp_law_standing K) (aCons (eV 2) (aCons (eV 4) (aCons (eV 6) (aCons (eV 5) (aCons (eV 9) (aCons (eV 10) aNil))))))) aNil)))) (aCons (eC (.int 1)) aNil)))))))).lp fun e => ∃ (pl : List Pl) (cs1 : List Cel) (x1 x11 x12 x13 x14 x15 x16 x17 : Option D), pl.length = i + 1 ∧ Ld K cs1 2 3 b r es m l pl ∧ cs1[4]? = some (.lst ((pl.map (·.1)).map encC)) ∧ cs1[5]? = some (.lst ((slF 0 pl).map encS)) ∧
            e = ⟨[some (.fro (ns.map .int)), x1, some (.int b), some (.int r), some (.lst (es.map encD)), some (.int m), some (.lst (l.map .int)), some (.cell 1), some (.cell 2), some (.cell 4), some (.cell 5), x11, x12, x13, x14, x15, x16, x17], cs1⟩)
            ⟨[some (.fro (ns.map .int)), some (.cell cs1.length), some (.int b), some (.int r), some (.lst (es.map encD)), some (.int m), some (.lst (l.map .int)), some (.cell 1), some (.cell 2), some (.cell 4), some (.cell 5), some (.int c), some (.int tn), some (encC col), some (oD od), y15, some .non, x17], csC⟩ := by
            intro csC Lc h4c h5c
            unfold r_lb_7
            walk_at "w"
            refine ⟨⟨_, lk_cell h4c⟩, ?_⟩
            walk_at "w"
            refine ⟨_, _, _, rfl, rfl, h4c, Nat.lt_of_le_of_lt (show _ ≤ 1000 by rw [List.length_map, List.length_map]; omega) (by decide), ?_⟩
            have hset : ((pl.map (·.1)).map encC) ++ [encC col] = ((pl ++ [(col, od)]).map (·.1)).map encC := by rw [List.map_append, List.map_append]; rfl
            rw [hset]
            have Ld' := Lc.set (k := 4) (c := .lst (((pl ++ [(col, od)]).map (·.1)).map encC)) (by decide) (by decide)
            have h4d := set_get (c := .lst (((pl ++ [(col, od)]).map (·.1)).map encC)) h4c
            have h5d := set_other (m := 4) (c := .lst (((pl ++ [(col, od)]).map (·.1)).map encC)) h5c (by decide)
            generalize csC.set 4 (.lst (((pl ++ [(col, od)]).map (·.1)).map encC)) = csD at Ld' h4d h5d ⊢
            walk_at "w"
            refine ⟨b, r, m, es, l, _, _, pl ++ [(col, od)], rfl, lk_cell h4d, lk_cell h5d, ge, po, by rw [hp1]; omega, Ld'.l, ?_⟩
            walk_at "w"
            refine ⟨2, 3, b, r, m, es, l, pl ++ [(col, od)], _, _, tn, rfl, Ld', lk_cell h4d, lk_cell h5d, (fun _ z => nomatch z), (fun _ z => nomatch z), ?_⟩
            walk_at "w"
            refine ⟨2, 3, b, r, m, es, l, pl ++ [(col, od)], rfl, Ld', ?_⟩
            walk_at "w"
            exact ⟨pl ++ [(col, od)], csD, _, _, _, _, _, _, _, _, hp1, Ld', h4d, h5d, rfl⟩
          generalize r_lb_7 K = T7 at g7 ⊢
          cases od with
          | none =>
            dsimp only [oD] at g7 ⊢
            walk_at "w"
            refine g7 csB Lb h4b ?_
            rw [slF_app, show slF (0 + pl.length) [(col, none)] = [] from rfl, List.append_nil]
            exact h5b
          | some t =>
            dsimp only [oD] at g7 ⊢
            walk_at "w"
            refine ⟨⟨_, lk_cell h5b⟩, ?_⟩
            walk_at "w"
            refine v_lenK (lk_cell h4b) ?_
            rw [List.length_map, List.length_map]
            walk_at "w"
            have hsl := sl_len pl 0
            refine ⟨_, _, _, rfl, rfl, h5b, Nat.lt_of_le_of_lt (show _ ≤ 1000 by rw [List.length_map]; omega) (by decide), ?_⟩
            refine g7 _ (Lb.set (by decide) (by decide)) (set_other h4b (by decide)) ?_
            have e : (slF 0 (pl ++ [(col, some t)])).map encS = (slF 0 pl).map encS ++ [D.tup [.int pl.length, encD t]] := by
              rw [slF_app, List.map_append, Nat.zero_add]
              rfl
            rw [e]
            exact set_get h5b
        unfold r_lb_5
        generalize r_lb_6 K = T6 at g6 ⊢
        cases od with
        | none =>
          dsimp only [oD] at hput g6 ⊢
          walk_at "w"
          refine v_itd (fun hw => ?_) (fun hw => ?_)
          · walk_at "w"
            unfold eMethX
            walk_at "w"
            refine ⟨⟨_, _, ins_cell La.at_, by decide⟩, ?_⟩
            walk_at "w"
            refine hput _ ?_
            exact g6
          · walk_at "w"
            unfold eMethK
            walk_at "w"
            refine ⟨⟨_, _, ins_cell La.at_, by decide⟩, ?_⟩
            walk_at "w"
            refine ⟨rfl, rfl, ?_⟩
            refine hput _ ?_
            exact g6
        | some t =>
          dsimp only [oD] at hput g6 ⊢
          walk_at "w"
          unfold eMethK
          walk_at "w"
          refine ⟨⟨_, _, ins_cell La.at_, by decide⟩, ?_⟩
          walk_at "w"
          refine ⟨rfl, rfl, ?_⟩
          refine hput _ ?_
          exact g6
      generalize r_lb_5 K = T at fin ⊢
      walk_at "w"
      refine v_itd (fun hw => ?_) (fun hw => ?_)
      · walk_at "w"
        refine ⟨b, r, m, es, _, _, pl, col, rfl, lk_cell (app_get_lt h4), lk_cell (app_get_lt h5), ge, L.p, L.n2, hcol, (fun _ z => nomatch z), (fun _ z => nomatch z), ?_⟩
        have hfl := List.length_filter_le (fun t => psL b m pl col t) es
        have e8 := ge.k.l8
        walk_at "w"
        refine v_lenK (e := ⟨_, _⟩) (xs := .non :: ((es.filter fun t => psL b m pl col t).map encD)) rfl ?_
        rw [List.length_cons, List.length_map]
        walk_at "w"
        refine ⟨cs1.length, _, a3, rfl, app_get, by omega, by omega, fun k a4 k0 k1 => ?_⟩
        rw [app_set]
        obtain ⟨k, rfl⟩ : ∃ j : Nat, k = (j : Int) := ⟨k.toNat, by omega⟩
        obtain ⟨od, hod, hat⟩ : ∃ od : Option Dd, (∀ t, od = some t → t ∈ es ∧ psL b m pl col t = true) ∧ (D.non :: ((es.filter fun t => psL b m pl col t).map encD))[k]? = some (oD od) := by
          cases k with
          | zero => exact ⟨none, (fun _ z => nomatch z), rfl⟩
          | succ k =>
            have hk2 : k < (es.filter fun t => psL b m pl col t).length := by omega
            have hg := List.getElem?_eq_getElem hk2
            have hm := List.getElem_mem hk2
            generalize (es.filter fun t => psL b m pl col t)[k] = t at hg hm
            refine ⟨some t, fun t' e => by cases e; exact List.mem_filter.mp hm, ?_⟩
            rw [List.getElem?_cons_succ, List.getElem?_map, hg]
            rfl
        refine v_ixK (xs := .non :: ((es.filter fun t => psL b m pl col t).map encD)) rfl (atI_nat hat) ?_
        walk_at "w"
        exact fin od a4 _ hod
      · walk_at "w"
        exact fin none a3 _ (fun _ z => nomatch z)
    · rintro e1 ⟨pl, cs1, x1, x11, x12, x13, x14, x15, x16, x17, hpl, L, h4, h5, rfl⟩
      refine ⟨trivial, ?_⟩
      rw [List.length_map] at hpl
      walk_at "w"
      refine ⟨b, r, m, es, l, _, _, pl, rfl, lk_cell h4, lk_cell h5, ge, L.p, L.n2, L.l, ?_⟩
      walk_at "w"
      refine ⟨2, 3, b, r, m, es, l, pl, _, _, 1, rfl, L, lk_cell h4, lk_cell h5, (fun _ z => nomatch z), (fun _ z => nomatch z), ?_⟩
      walk_at "w"
      exact .inl (q _)
  rw [show t_law K = r_law K from rfl, st_law]
  unfold r_law
  generalize r_law_7 K = T at f7 ⊢
  walk_at "w"
  refine v_catF (xs := ns.map .int) (ys := [5].map .int) rfl rfl (by rw [List.length_map, List.length_map]; show _ + 1 ≤ _; omega) ?_
  rw [← List.map_append]
  obtain ⟨c, hc0⟩ : ∃ c, (ns ++ [5])[0]? = some c := by cases ns <;> exact ⟨_, rfl⟩
  walk_at "w"
  refine v_ixK (xs := (ns ++ [5]).map .int) rfl (show atI _ ((0 : Nat) : Int) = _ from atI_map hc0) ?_
  walk_at "w"
  refine ⟨c, 50, rfl, by decide, fun a0 => ?_⟩
  walk_at "w"
  refine ⟨0, a0, rfl, rfl, fun b r m a1 es l ge e5 gl => ?_⟩
  walk_at "w"
  dsimp only [setAll, List.set]
  refine v_listL (xs := l.map .int) rfl ?_
  walk_at "w"
  refine ⟨0, a1, b, r, m, es, rfl, rfl, ge, e5, fun a2 => ?_⟩
  walk_at "w"
  refine (show sp_Ledger_init K [D.cell 2, kiD K b r es m, D.cell 1] [plC a2, .lst (l.map .int), .ins (He.ga K "Ledger") [] []] _ from ?_)
  refine ⟨2, b, r, m, es, _, l, rfl, rfl, rfl, (fun _ z => nomatch z), gl, rfl, .inl ?_⟩
  walk_at "w"
  refine ⟨⟨_, rfl⟩, ?_⟩
  walk_at "w"
  refine ⟨_, _, _, rfl, rfl, rfl, Nat.lt_of_le_of_lt (show _ ≤ 1000 by have := gl.len; rw [List.length_map]; omega) (by decide), ?_⟩
  walk_at "w"
  refine ⟨_, _, rfl, ?_⟩
  walk_at "w"
  refine ⟨b, r, m, es, l, .lst [], .lst [], [], rfl, rfl, rfl, ge, po_nil ge.k, by decide, gl, ?_⟩
  walk_at "w"
  refine ⟨2, 3, b, r, m, es, l, [], .lst [], .lst [], 0, rfl, ⟨rfl, rfl, ge, po_nil ge.k, (by decide), gl⟩, rfl, rfl, (fun _ z => nomatch z), (fun _ z => nomatch z), ?_⟩
  walk_at "w"
  exact f7 b r m es l _ ge ⟨rfl, rfl, ge, po_nil ge.k, (by decide), gl⟩ rfl rfl
end
section
variable {P : Program} {w : World} {K : PySem.W.Frag} {mg : Str → Option Value} {base : Heap}
theorem ok_law_pool (T : Txt K mg) : Good P w K mg base 2 (He.ga K "_law_pool") ["cell", "salt"] (sp_law_pool K) :=
  good_of T.F_law_pool sc_law_pool len_law_pool (fun _ _ _ _ _ _ us hl => match us, hl with | [_, _], _ => rfl) (d_law_pool T ) vc_law_pool
theorem ok_law_draw (T : Txt K mg) : Good P w K mg base 2 (He.ga K "_law_draw") ["pool", "many"] (sp_law_draw K) :=
  good_of T.F_law_draw sc_law_draw len_law_draw (fun _ _ _ _ _ _ us hl => match us, hl with | [_, _], _ => rfl) (d_law_draw T ) vc_law_draw
theorem ok_law_power (T : Txt K mg) : Good P w K mg base 2 (He.ga K "_law_power") ["base", "many"] (sp_law_power K) :=
  good_of T.F_law_power sc_law_power len_law_power (fun _ _ _ _ _ _ us hl => match us, hl with | [_, _], _ => rfl) (d_law_power T ) vc_law_power
theorem ok_law_all_deeds (T : Txt K mg) : Good P w K mg base 2 (He.ga K "_law_all_deeds") ["base", "rows"] (sp_law_all_deeds K) :=
  good_of T.F_law_all_deeds sc_law_all_deeds len_law_all_deeds (fun _ _ _ _ _ _ us hl => match us, hl with | [_, _], _ => rfl) (d_law_all_deeds T ) vc_law_all_deeds
theorem ok_law_some_deeds (T : Txt K mg) : Good P w K mg base 5 (He.ga K "_law_some_deeds") ["pool", "base", "rows", "many"] (sp_law_some_deeds K) :=
  good_of T.F_law_some_deeds sc_law_some_deeds len_law_some_deeds (fun _ _ _ _ _ _ us hl => match us, hl with | [_, _, _, _], _ => rfl) (d_law_some_deeds T (ok_law_all_deeds T) (ok_law_draw T)) vc_law_some_deeds
theorem ok_law_setting (T : Txt K mg) : Good P w K mg base 8 (He.ga K "_law_setting") ["pool"] (sp_law_setting K) :=
  good_of T.F_law_setting sc_law_setting len_law_setting (fun _ _ _ _ _ _ us hl => match us, hl with | [_], _ => rfl) (d_law_setting T (ok_law_draw T) (ok_law_power T) (ok_law_some_deeds T) (ok_law_all_deeds T)) vc_law_setting
theorem ok_check_lot (T : Txt K mg) : Good P w K mg base 2 (He.ga K "check_lot") ["lot"] (sp_check_lot K) :=
  good_of T.F_check_lot sc_check_lot len_check_lot (fun _ _ _ _ _ _ us hl => match us, hl with | [_], _ => rfl) (d_check_lot T ) vc_check_lot
theorem ok_Ledger_init (T : Txt K mg) : Good P w K mg base 5 (He.ma K (He.ga K "Ledger") "__init__") ["self", "kind", "lot"] (sp_Ledger_init K) :=
  good_of T.F_Ledger_init sc_Ledger_init len_Ledger_init (fun _ _ _ _ _ _ us hl => match us, hl with | [_, _, _], _ => rfl) (d_Ledger_init T (ok_check_lot T)) vc_Ledger_init
theorem ok_is_integer (T : Txt K mg) : Good P w K mg base 2 (He.ga K "is_integer") ["value"] (sp_is_integer K) :=
  good_of T.F_is_integer sc_is_integer len_is_integer (fun _ _ _ _ _ _ us hl => match us, hl with | [_], _ => rfl) (d_is_integer T ) vc_is_integer
theorem ok_number_of_columns (T : Txt K mg) : Good P w K mg base 2 (He.ga K "number_of_columns") ["base", "rows"] (sp_number_of_columns K) :=
  good_of T.F_number_of_columns sc_number_of_columns len_number_of_columns (fun _ _ _ _ _ _ us hl => match us, hl with | [_, _], _ => rfl) (d_number_of_columns T ) vc_number_of_columns
theorem ok_is_deed (T : Txt K mg) : Good P w K mg base 5 (He.ga K "is_deed") ["value", "base", "rows"] (sp_is_deed K) :=
  good_of T.F_is_deed sc_is_deed len_is_deed (fun _ _ _ _ _ _ us hl => match us, hl with | [_, _, _], _ => rfl) (d_is_deed T (ok_is_integer T)) vc_is_deed
theorem ok_all_deeds (T : Txt K mg) : Good P w K mg base 2 (He.ga K "all_deeds") ["base", "rows"] (sp_all_deeds K) :=
  good_of T.F_all_deeds sc_all_deeds len_all_deeds (fun _ _ _ _ _ _ us hl => match us, hl with | [_, _], _ => rfl) (d_all_deeds T ) vc_all_deeds
theorem ok_Kind_init (T : Txt K mg) : Good P w K mg base 8 (He.ma K (He.ga K "Kind") "__init__") ["self", "base", "rows", "deeds", "most"] (sp_Kind_init K) :=
  good_of T.F_Kind_init sc_Kind_init len_Kind_init (fun _ _ _ _ _ _ us hl => match us, hl with | [_, _, _, _, _], _ => rfl) (d_Kind_init T (ok_is_integer T) (ok_number_of_columns T) (ok_is_deed T) (ok_all_deeds T)) vc_Kind_init
theorem ok_Kind_alike (T : Txt K mg) : Good P w K mg base 2 (He.ma K (He.ga K "Kind") "alike") ["self", "other"] (sp_Kind_alike K) :=
  good_of T.F_Kind_alike sc_Kind_alike len_Kind_alike (fun _ _ _ _ _ _ us hl => match us, hl with | [_, _], _ => rfl) (d_Kind_alike T ) vc_Kind_alike
theorem ok_Kind_or (T : Txt K mg) : Good P w K mg base 11 (He.ma K (He.ga K "Kind") "__or__") ["self", "other"] (sp_Kind_or K) :=
  good_of T.F_Kind_or sc_Kind_or len_Kind_or (fun _ _ _ _ _ _ us hl => match us, hl with | [_, _], _ => rfl) (d_Kind_or T (ok_Kind_alike T) (ok_Kind_init T)) vc_Kind_or
theorem ok_Kind_and (T : Txt K mg) : Good P w K mg base 11 (He.ma K (He.ga K "Kind") "__and__") ["self", "other"] (sp_Kind_and K) :=
  good_of T.F_Kind_and sc_Kind_and len_Kind_and (fun _ _ _ _ _ _ us hl => match us, hl with | [_, _], _ => rfl) (d_Kind_and T (ok_Kind_alike T) (ok_Kind_init T)) vc_Kind_and
theorem ok_law_made (T : Txt K mg) : Good P w K mg base 14 (He.ga K "_law_made") ["pool", "base", "rows", "deeds", "most"] (sp_law_made K) :=
  good_of T.F_law_made sc_law_made len_law_made (fun _ _ _ _ _ _ us hl => match us, hl with | [_, _, _, _, _], _ => rfl) (d_law_made T (ok_law_draw T) (ok_Kind_init T) (ok_Kind_or T) (ok_law_all_deeds T) (ok_Kind_and T)) vc_law_made
theorem ok_is_column (T : Txt K mg) : Good P w K mg base 5 (He.ga K "is_column") ["value", "base", "rows"] (sp_is_column K) :=
  good_of T.F_is_column sc_is_column len_is_column (fun _ _ _ _ _ _ us hl => match us, hl with | [_, _, _], _ => rfl) (d_is_column T (ok_is_integer T)) vc_is_column
theorem ok_Sheet_init (T : Txt K mg) : Good P w K mg base 8 (He.ma K (He.ga K "Sheet") "__init__") ["self", "base", "rows", "columns"] (sp_Sheet_init K) :=
  good_of T.F_Sheet_init sc_Sheet_init len_Sheet_init (fun _ _ _ _ _ _ us hl => match us, hl with | [_, _, _, _], _ => rfl) (d_Sheet_init T (ok_is_integer T) (ok_is_column T)) vc_Sheet_init
theorem ok_Kind_rows (T : Txt K mg) : Good P w K mg base 2 (pga K (He.ga K "Kind") "rows") ["self"] (sp_Kind_rows K) :=
  good_of T.F_Kind_rows sc_Kind_rows len_Kind_rows (fun _ _ _ _ _ _ us hl => match us, hl with | [_], _ => rfl) (d_Kind_rows T ) vc_Kind_rows
theorem ok_Kind_base (T : Txt K mg) : Good P w K mg base 2 (pga K (He.ga K "Kind") "base") ["self"] (sp_Kind_base K) :=
  good_of T.F_Kind_base sc_Kind_base len_Kind_base (fun _ _ _ _ _ _ us hl => match us, hl with | [_], _ => rfl) (d_Kind_base T ) vc_Kind_base
theorem ok_Ledger_sheet (T : Txt K mg) : Good P w K mg base 11 (pga K (He.ga K "Ledger") "sheet") ["self"] (sp_Ledger_sheet K) :=
  good_of T.F_Ledger_sheet sc_Ledger_sheet len_Ledger_sheet (fun _ _ _ _ _ _ us hl => match us, hl with | [_], _ => rfl) (d_Ledger_sheet T (ok_Sheet_init T) (ok_Kind_rows T) (ok_Kind_base T)) vc_Ledger_sheet
theorem ok_Sheet_base (T : Txt K mg) : Good P w K mg base 2 (pga K (He.ga K "Sheet") "base") ["self"] (sp_Sheet_base K) :=
  good_of T.F_Sheet_base sc_Sheet_base len_Sheet_base (fun _ _ _ _ _ _ us hl => match us, hl with | [_], _ => rfl) (d_Sheet_base T ) vc_Sheet_base
theorem ok_Sheet_rows (T : Txt K mg) : Good P w K mg base 2 (pga K (He.ga K "Sheet") "rows") ["self"] (sp_Sheet_rows K) :=
  good_of T.F_Sheet_rows sc_Sheet_rows len_Sheet_rows (fun _ _ _ _ _ _ us hl => match us, hl with | [_], _ => rfl) (d_Sheet_rows T ) vc_Sheet_rows
theorem ok_law_alike_0 (T : Txt K mg) : Good P w K mg base 2 (He.ga K "_law_alike") ["told", "due"] (sp_law_alike_0 K) :=
  good_of T.F_law_alike_0 sc_law_alike_0 len_law_alike_0 (fun _ _ _ _ _ _ us hl => match us, hl with | [_, _], _ => rfl) (d_law_alike_0 T ) vc_law_alike_0
theorem ok_law_alike_1 (T : Txt K mg) : Good P w K mg base 5 (He.ga K "_law_alike") ["told", "due"] (sp_law_alike_1 K) :=
  good_of T.F_law_alike_1 sc_law_alike_1 len_law_alike_1 (fun _ _ _ _ _ _ us hl => match us, hl with | [_, _], _ => rfl) (d_law_alike_1 T (ok_law_alike_0 T)) vc_law_alike_1
theorem ok_law_alike_2 (T : Txt K mg) : Good P w K mg base 8 (He.ga K "_law_alike") ["told", "due"] (sp_law_alike_2 K) :=
  good_of T.F_law_alike_2 sc_law_alike_2 len_law_alike_2 (fun _ _ _ _ _ _ us hl => match us, hl with | [_, _], _ => rfl) (d_law_alike_2 T (ok_law_alike_1 T)) vc_law_alike_2
theorem ok_law_alike_3 (T : Txt K mg) : Good P w K mg base 11 (He.ga K "_law_alike") ["told", "due"] (sp_law_alike_3 K) :=
  good_of T.F_law_alike_3 sc_law_alike_3 len_law_alike_3 (fun _ _ _ _ _ _ us hl => match us, hl with | [_, _], _ => rfl) (d_law_alike_3 T (ok_law_alike_2 T)) vc_law_alike_3
theorem ok_Sheet_columns (T : Txt K mg) : Good P w K mg base 2 (pga K (He.ga K "Sheet") "columns") ["self"] (sp_Sheet_columns K) :=
  good_of T.F_Sheet_columns sc_Sheet_columns len_Sheet_columns (fun _ _ _ _ _ _ us hl => match us, hl with | [_], _ => rfl) (d_Sheet_columns T ) vc_Sheet_columns
theorem ok_Ledger_slips (T : Txt K mg) : Good P w K mg base 2 (pga K (He.ga K "Ledger") "slips") ["self"] (sp_Ledger_slips K) :=
  good_of T.F_Ledger_slips sc_Ledger_slips len_Ledger_slips (fun _ _ _ _ _ _ us hl => match us, hl with | [_], _ => rfl) (d_Ledger_slips T ) vc_Ledger_slips
theorem ok_Kind_most (T : Txt K mg) : Good P w K mg base 2 (pga K (He.ga K "Kind") "most") ["self"] (sp_Kind_most K) :=
  good_of T.F_Kind_most sc_Kind_most len_Kind_most (fun _ _ _ _ _ _ us hl => match us, hl with | [_], _ => rfl) (d_Kind_most T ) vc_Kind_most
theorem ok_beginning (T : Txt K mg) : Good P w K mg base 5 (He.ga K "beginning") ["kind", "lot"] (sp_beginning K) :=
  good_of T.F_beginning sc_beginning len_beginning (fun _ _ _ _ _ _ us hl => match us, hl with | [_, _], _ => rfl) (d_beginning T (ok_check_lot T) (ok_Kind_most T)) vc_beginning
theorem ok_Ledger_standing (T : Txt K mg) : Good P w K mg base 8 (pga K (He.ga K "Ledger") "standing") ["self"] (sp_Ledger_standing K) :=
  good_of T.F_Ledger_standing sc_Ledger_standing len_Ledger_standing (fun _ _ _ _ _ _ us hl => match us, hl with | [_], _ => rfl) (d_Ledger_standing T (ok_beginning T)) vc_Ledger_standing
theorem ok_Ledger_waits (T : Txt K mg) : Good P w K mg base 11 (pga K (He.ga K "Ledger") "waits") ["self"] (sp_Ledger_waits K) :=
  good_of T.F_Ledger_waits sc_Ledger_waits len_Ledger_waits (fun _ _ _ _ _ _ us hl => match us, hl with | [_], _ => rfl) (d_Ledger_waits T (ok_Ledger_standing T)) vc_Ledger_waits
theorem ok_Ledger_len (T : Txt K mg) : Good P w K mg base 2 (He.ma K (He.ga K "Ledger") "__len__") ["self"] (sp_Ledger_len K) :=
  good_of T.F_Ledger_len sc_Ledger_len len_Ledger_len (fun _ _ _ _ _ _ us hl => match us, hl with | [_], _ => rfl) (d_Ledger_len T ) vc_Ledger_len
theorem ok_law_look (T : Txt K mg) : Good P w K mg base 14 (He.ga K "_law_look") ["ledger", "base", "rows", "due", "turn"] (sp_law_look K) :=
  good_of T.F_law_look sc_law_look len_law_look (fun _ _ _ _ _ _ us hl => match us, hl with | [_, _, _, _, _], _ => rfl) (d_law_look T (ok_Ledger_sheet T) (ok_Sheet_base T) (ok_Sheet_rows T) (ok_law_alike_3 T) (ok_Sheet_columns T) (ok_Ledger_slips T) (ok_Ledger_standing T) (ok_Ledger_waits T) (ok_Ledger_len T)) vc_law_look
theorem ok_law_run (T : Txt K mg) : Good P w K mg base 2 (He.ga K "_law_run") ["base", "cols", "slips"] (sp_law_run K) :=
  good_of T.F_law_run sc_law_run len_law_run (fun _ _ _ _ _ _ us hl => match us, hl with | [_, _, _], _ => rfl) (d_law_run T ) vc_law_run
theorem ok_law_value (T : Txt K mg) : Good P w K mg base 2 (He.ga K "_law_value") ["base", "figures", "last"] (sp_law_value K) :=
  good_of T.F_law_value sc_law_value len_law_value (fun _ _ _ _ _ _ us hl => match us, hl with | [_, _, _], _ => rfl) (d_law_value T ) vc_law_value
theorem ok_law_standing (T : Txt K mg) : Good P w K mg base 5 (He.ga K "_law_standing") ["base", "deeds", "lot", "most", "cols", "slips"] (sp_law_standing K) :=
  good_of T.F_law_standing sc_law_standing len_law_standing (fun _ _ _ _ _ _ us hl => match us, hl with | [_, _, _, _, _, _], _ => rfl) (d_law_standing T (ok_law_run T) (ok_law_value T) (ok_law_power T)) vc_law_standing
theorem ok_law_column (T : Txt K mg) : Good P w K mg base 5 (He.ga K "_law_column") ["pool", "base", "rows"] (sp_law_column K) :=
  good_of T.F_law_column sc_law_column len_law_column (fun _ _ _ _ _ _ us hl => match us, hl with | [_, _, _], _ => rfl) (d_law_column T (ok_law_draw T)) vc_law_column
theorem ok_law_possible (T : Txt K mg) : Good P w K mg base 5 (He.ga K "_law_possible") ["base", "deeds", "most", "cols", "slips", "column"] (sp_law_possible K) :=
  good_of T.F_law_possible sc_law_possible len_law_possible (fun _ _ _ _ _ _ us hl => match us, hl with | [_, _, _, _, _, _], _ => rfl) (d_law_possible T (ok_law_run T)) vc_law_possible
theorem ok_Kind_contains (T : Txt K mg) : Good P w K mg base 8 (He.ma K (He.ga K "Kind") "__contains__") ["self", "deed"] (sp_Kind_contains K) :=
  good_of T.F_Kind_contains sc_Kind_contains len_Kind_contains (fun _ _ _ _ _ _ us hl => match us, hl with | [_, _], _ => rfl) (d_Kind_contains T (ok_is_deed T)) vc_Kind_contains
theorem ok_done_rightly (T : Txt K mg) : Good P w K mg base 2 (He.ga K "done_rightly") ["base", "standing", "column"] (sp_done_rightly K) :=
  good_of T.F_done_rightly sc_done_rightly len_done_rightly (fun _ _ _ _ _ _ us hl => match us, hl with | [_, _, _], _ => rfl) (d_done_rightly T ) vc_done_rightly
theorem ok_is_possible (T : Txt K mg) : Good P w K mg base 2 (He.ga K "is_possible") ["standing", "deed", "carry"] (sp_is_possible K) :=
  good_of T.F_is_possible sc_is_possible len_is_possible (fun _ _ _ _ _ _ us hl => match us, hl with | [_, _, _], _ => rfl) (d_is_possible T ) vc_is_possible
theorem ok_taken_sum (T : Txt K mg) : Good P w K mg base 2 (He.ga K "taken_sum") ["base", "copies", "before", "column", "deed"] (sp_taken_sum K) :=
  good_of T.F_taken_sum sc_taken_sum len_taken_sum (fun _ _ _ _ _ _ us hl => match us, hl with | [_, _, _, _, _], _ => rfl) (d_taken_sum T ) vc_taken_sum
theorem ok_done_with (T : Txt K mg) : Good P w K mg base 5 (He.ga K "done_with") ["base", "copies", "standing", "column", "deed"] (sp_done_with K) :=
  good_of T.F_done_with sc_done_with len_done_with (fun _ _ _ _ _ _ us hl => match us, hl with | [_, _, _, _, _], _ => rfl) (d_done_with T (ok_is_possible T) (ok_taken_sum T)) vc_done_with
theorem ok_power (T : Txt K mg) : Good P w K mg base 2 (He.ga K "power") ["base", "count"] (sp_power K) :=
  good_of T.F_power sc_power len_power (fun _ _ _ _ _ _ us hl => match us, hl with | [_, _], _ => rfl) (d_power T ) vc_power
theorem ok_near_behind (T : Txt K mg) : Good P w K mg base 5 (He.ga K "near_behind") ["base", "gap", "near", "factor", "total", "count"] (sp_near_behind K) :=
  good_of T.F_near_behind sc_near_behind len_near_behind (fun _ _ _ _ _ _ us hl => match us, hl with | [_, _, _, _, _, _], _ => rfl) (d_near_behind T (ok_power T)) vc_near_behind
theorem ok_next_standing (T : Txt K mg) : Good P w K mg base 8 (He.ga K "next_standing") ["base", "copies", "lot", "standing", "column", "deed"] (sp_next_standing K) :=
  good_of T.F_next_standing sc_next_standing len_next_standing (fun _ _ _ _ _ _ us hl => match us, hl with | [_, _, _, _, _, _], _ => rfl) (d_next_standing T (ok_done_rightly T) (ok_done_with T) (ok_near_behind T) (ok_power T)) vc_next_standing
theorem ok_Kind_deeds (T : Txt K mg) : Good P w K mg base 2 (pga K (He.ga K "Kind") "deeds") ["self"] (sp_Kind_deeds K) :=
  good_of T.F_Kind_deeds sc_Kind_deeds len_Kind_deeds (fun _ _ _ _ _ _ us hl => match us, hl with | [_], _ => rfl) (d_Kind_deeds T ) vc_Kind_deeds
theorem ok_copy_rows (T : Txt K mg) : Good P w K mg base 5 (He.ga K "copy_rows") ["kind"] (sp_copy_rows K) :=
  good_of T.F_copy_rows sc_copy_rows len_copy_rows (fun _ _ _ _ _ _ us hl => match us, hl with | [_], _ => rfl) (d_copy_rows T (ok_Kind_deeds T)) vc_copy_rows
theorem ok_Ledger_put (T : Txt K mg) : GoodK P w K mg base 11 (He.ma K (He.ga K "Ledger") "put") ["self", "column", "deed"] 2 "deed" (.non) (sp_Ledger_put K) :=
  goodK_of T.F_Ledger_put sc_Ledger_put len_Ledger_put rfl (fun _ => .non) (fun _ _ _ _ _ _ us ks h1 h2 => match us, ks, h1, h2 with | [_, _], [_], _, _ => ⟨_, _, _, _, _, _, rfl, rfl, rfl⟩) (fun _ _ _ _ _ _ us ks h1 h2 => match us, ks, h1, h2 with | [_, _], [_], _, _ => rfl) (d_Ledger_put T (ok_is_column T) (ok_Kind_rows T) (ok_Kind_base T) (ok_Kind_contains T) (ok_next_standing T) (ok_Ledger_standing T) (ok_copy_rows T)) vc_Ledger_put
theorem ok_Sheet_len (T : Txt K mg) : Good P w K mg base 2 (He.ma K (He.ga K "Sheet") "__len__") ["self"] (sp_Sheet_len K) :=
  good_of T.F_Sheet_len sc_Sheet_len len_Sheet_len (fun _ _ _ _ _ _ us hl => match us, hl with | [_], _ => rfl) (d_Sheet_len T ) vc_Sheet_len
theorem ok_Sheet_setitem (T : Txt K mg) : Good P w K mg base 8 (He.ma K (He.ga K "Sheet") "__setitem__") ["self", "at", "worth"] (sp_Sheet_setitem K) :=
  good_of T.F_Sheet_setitem sc_Sheet_setitem len_Sheet_setitem (fun _ _ _ _ _ _ us hl => match us, hl with | [_, _, _], _ => rfl) (d_Sheet_setitem T (ok_is_column T)) vc_Sheet_setitem
theorem ok_law_spoil (T : Txt K mg) : Good P w K mg base 14 (He.ga K "_law_spoil") ["ledger"] (sp_law_spoil K) :=
  good_of T.F_law_spoil sc_law_spoil len_law_spoil (fun _ _ _ _ _ _ us hl => match us, hl with | [_], _ => rfl) (d_law_spoil T (ok_Ledger_slips T) (ok_Ledger_sheet T) (ok_Sheet_columns T) (ok_Sheet_len T) (ok_Sheet_rows T) (ok_Sheet_setitem T)) vc_law_spoil
theorem okf_law (T : Txt K mg) {fd : FuncData} (F : FunD K "law" "law" (defArgs s_law) (defBody s_law) (defScope s_law) [] [] (He.ga K "law") fd) : FnOk P w K mg base CX0 17 (He.ga K "law") fd ["script"] (spD K spLaw) :=
  fn_d F sc_law (len_law (K := K)) (d_law T (ok_law_pool T) (ok_law_setting T) (ok_Ledger_init T) (ok_law_made T) (ok_law_look T) (ok_law_standing T) (ok_law_draw T) (ok_law_column T) (ok_law_possible T) (ok_Ledger_put T) (ok_law_spoil T)) vc_law
end
theorem txt {K : PySem.W.Frag} {h : Heap} {mg : Str → Option Value} (X : K.In h) (G : h.Ns mainGlobals mg) (c : SaysY fxs fns K) : Txt K mg where
  g_law_pool := He.glo_ok X G (c.fact 0 (f := .fa (.glo "_law_pool")) rfl)
  g_law_setting := He.glo_ok X G (c.fact 1 (f := .fa (.glo "_law_setting")) rfl)
  g_Ledger := He.glo_ok X G (c.fact 2 (f := .fa (.glo "Ledger")) rfl)
  g_law_made := He.glo_ok X G (c.fact 3 (f := .fa (.glo "_law_made")) rfl)
  g_law_look := He.glo_ok X G (c.fact 4 (f := .fa (.glo "_law_look")) rfl)
  g_law_standing := He.glo_ok X G (c.fact 5 (f := .fa (.glo "_law_standing")) rfl)
  g_law_draw := He.glo_ok X G (c.fact 6 (f := .fa (.glo "_law_draw")) rfl)
  g_law_column := He.glo_ok X G (c.fact 7 (f := .fa (.glo "_law_column")) rfl)
  g_law_possible := He.glo_ok X G (c.fact 8 (f := .fa (.glo "_law_possible")) rfl)
  g_law_spoil := He.glo_ok X G (c.fact 9 (f := .fa (.glo "_law_spoil")) rfl)
  g_law_power := He.glo_ok X G (c.fact 10 (f := .fa (.glo "_law_power")) rfl)
  g_law_some_deeds := He.glo_ok X G (c.fact 11 (f := .fa (.glo "_law_some_deeds")) rfl)
  g_law_all_deeds := He.glo_ok X G (c.fact 12 (f := .fa (.glo "_law_all_deeds")) rfl)
  g_check_lot := He.glo_ok X G (c.fact 13 (f := .fa (.glo "check_lot")) rfl)
  g_Kind := He.glo_ok X G (c.fact 14 (f := .fa (.glo "Kind")) rfl)
  g_is_integer := He.glo_ok X G (c.fact 15 (f := .fa (.glo "is_integer")) rfl)
  g_number_of_columns := He.glo_ok X G (c.fact 16 (f := .fa (.glo "number_of_columns")) rfl)
  g_is_deed := He.glo_ok X G (c.fact 17 (f := .fa (.glo "is_deed")) rfl)
  g_all_deeds := He.glo_ok X G (c.fact 18 (f := .fa (.glo "all_deeds")) rfl)
  g_PLAIN := He.glo_ok X G (c.fact 19 (f := .fa (.glo "PLAIN")) rfl)
  g_Sheet := He.glo_ok X G (c.fact 20 (f := .fa (.glo "Sheet")) rfl)
  g_law_alike := He.glo_ok X G (c.fact 21 (f := .fa (.glo "_law_alike")) rfl)
  g_is_column := He.glo_ok X G (c.fact 22 (f := .fa (.glo "is_column")) rfl)
  g_beginning := He.glo_ok X G (c.fact 23 (f := .fa (.glo "beginning")) rfl)
  g_law_run := He.glo_ok X G (c.fact 24 (f := .fa (.glo "_law_run")) rfl)
  g_law_value := He.glo_ok X G (c.fact 25 (f := .fa (.glo "_law_value")) rfl)
  g_next_standing := He.glo_ok X G (c.fact 26 (f := .fa (.glo "next_standing")) rfl)
  g_copy_rows := He.glo_ok X G (c.fact 27 (f := .fa (.glo "copy_rows")) rfl)
  g_done_rightly := He.glo_ok X G (c.fact 28 (f := .fa (.glo "done_rightly")) rfl)
  g_done_with := He.glo_ok X G (c.fact 29 (f := .fa (.glo "done_with")) rfl)
  g_near_behind := He.glo_ok X G (c.fact 30 (f := .fa (.glo "near_behind")) rfl)
  g_power := He.glo_ok X G (c.fact 31 (f := .fa (.glo "power")) rfl)
  g_is_possible := He.glo_ok X G (c.fact 32 (f := .fa (.glo "is_possible")) rfl)
  g_taken_sum := He.glo_ok X G (c.fact 33 (f := .fa (.glo "taken_sum")) rfl)
  g_law := He.glo_ok X G (c.fact 34 (f := .fa (.glo "law")) rfl)
  n_list := He.free_ok X G (c.fact 35 (f := .fa (.free "list")) rfl)
  c_Ledger := He.cls_ok (c.fact 36 (f := .fa (.cls "Ledger")) rfl)
  mk_Ledger := He.mkr_ok (c.fact 37 (f := .fa (.mkr "Ledger")) rfl)
  n_len := He.free_ok X G (c.fact 38 (f := .fa (.free "len")) rfl)
  m_Ledger_put := He.meth_ok (c.fact 39 (f := .fa (.meth "Ledger" "put")) rfl)
  n_int := He.free_ok X G (c.fact 40 (f := .fa (.free "int")) rfl)
  n_range := He.free_ok X G (c.fact 41 (f := .fa (.free "range")) rfl)
  na_Ledger_own_kind := He.noat_ok (c.fact 42 (f := .fa (.noat "Ledger" "own_kind")) rfl)
  na_Ledger_own_lot := He.noat_ok (c.fact 43 (f := .fa (.noat "Ledger" "own_lot")) rfl)
  na_Ledger_history := He.noat_ok (c.fact 44 (f := .fa (.noat "Ledger" "history")) rfl)
  n_isinstance := He.free_ok X G (c.fact 45 (f := .fa (.free "isinstance")) rfl)
  n_bool := He.free_ok X G (c.fact 46 (f := .fa (.free "bool")) rfl)
  c_Kind := He.cls_ok (c.fact 47 (f := .fa (.cls "Kind")) rfl)
  mk_Kind := He.mkr_ok (c.fact 48 (f := .fa (.mkr "Kind")) rfl)
  sm_Kind_or := sm_ok (c.fact 49 (f := .sm "Kind" "__or__") rfl)
  sf_Kind := c.fact 50 (f := .selff "Kind") rfl
  sm_Kind_and := sm_ok (c.fact 51 (f := .sm "Kind" "__and__") rfl)
  ig_MOST_COLUMNS := He.int_ok X G (c.fact 52 (f := .fa (.int "MOST_COLUMNS" 1000)) rfl)
  n_all := He.free_ok X G (c.fact 53 (f := .fa (.free "all")) rfl)
  ig_MOST_DEEDS := He.int_ok X G (c.fact 54 (f := .fa (.int "MOST_DEEDS" 8)) rfl)
  na_Kind_held_base := He.noat_ok (c.fact 55 (f := .fa (.noat "Kind" "held_base")) rfl)
  na_Kind_held_rows := He.noat_ok (c.fact 56 (f := .fa (.noat "Kind" "held_rows")) rfl)
  na_Kind_held_deeds := He.noat_ok (c.fact 57 (f := .fa (.noat "Kind" "held_deeds")) rfl)
  na_Kind_held_most := He.noat_ok (c.fact 58 (f := .fa (.noat "Kind" "held_most")) rfl)
  n_tuple := He.free_ok X G (c.fact 59 (f := .fa (.free "tuple")) rfl)
  n_str := He.free_ok X G (c.fact 60 (f := .fa (.free "str")) rfl)
  tg_PLAIN := He.tupB_ok (c.fact 61 (f := .tup "PLAIN" [.str "forget", .str "again", .str "swap", .str "out", .str "twice"]) rfl)
  m_Kind_alike := He.meth_ok (c.fact 62 (f := .fa (.meth "Kind" "alike")) rfl)
  p_Ledger_sheet := prop_ok (c.fact 63 (f := .prop "Ledger" "sheet") rfl)
  ic_Sheet := insc_ok (c.fact 64 (f := .insc "Sheet") rfl)
  c_Sheet := He.cls_ok (c.fact 65 (f := .fa (.cls "Sheet")) rfl)
  p_Sheet_base := prop_ok (c.fact 66 (f := .prop "Sheet" "base") rfl)
  p_Sheet_rows := prop_ok (c.fact 67 (f := .prop "Sheet" "rows") rfl)
  p_Sheet_columns := prop_ok (c.fact 68 (f := .prop "Sheet" "columns") rfl)
  p_Ledger_slips := prop_ok (c.fact 69 (f := .prop "Ledger" "slips") rfl)
  p_Ledger_standing := prop_ok (c.fact 70 (f := .prop "Ledger" "standing") rfl)
  p_Ledger_waits := prop_ok (c.fact 71 (f := .prop "Ledger" "waits") rfl)
  sm_Ledger_len := sm_ok (c.fact 72 (f := .sm "Ledger" "__len__") rfl)
  mk_Sheet := He.mkr_ok (c.fact 73 (f := .fa (.mkr "Sheet")) rfl)
  p_Kind_rows := prop_ok (c.fact 74 (f := .prop "Kind" "rows") rfl)
  p_Kind_base := prop_ok (c.fact 75 (f := .prop "Kind" "base") rfl)
  na_Sheet_held_base := He.noat_ok (c.fact 76 (f := .fa (.noat "Sheet" "held_base")) rfl)
  na_Sheet_held_rows := He.noat_ok (c.fact 77 (f := .fa (.noat "Sheet" "held_rows")) rfl)
  na_Sheet_held_columns := He.noat_ok (c.fact 78 (f := .fa (.noat "Sheet" "held_columns")) rfl)
  na_Sheet_size := He.noat_ok (c.fact 79 (f := .fa (.noat "Sheet" "size")) rfl)
  n_enumerate := He.free_ok X G (c.fact 80 (f := .fa (.free "enumerate")) rfl)
  p_Kind_most := prop_ok (c.fact 81 (f := .prop "Kind" "most") rfl)
  n_sum := He.free_ok X G (c.fact 82 (f := .fa (.free "sum")) rfl)
  n_min := He.free_ok X G (c.fact 83 (f := .fa (.free "min")) rfl)
  sm_Kind_contains := sm_ok (c.fact 84 (f := .sm "Kind" "__contains__") rfl)
  p_Kind_deeds := prop_ok (c.fact 85 (f := .prop "Kind" "deeds") rfl)
  sm_Sheet_len := sm_ok (c.fact 86 (f := .sm "Sheet" "__len__") rfl)
  sm_Sheet_setitem := sm_ok (c.fact 87 (f := .sm "Sheet" "__setitem__") rfl)
  nq_Sheet := c.fact 88 (f := .noseq "Sheet") rfl
  F_law_pool := c.def_ 0 (d := df_law_pool) rfl
  F_law_draw := c.def_ 1 (d := df_law_draw) rfl
  F_law_power := c.def_ 2 (d := df_law_power) rfl
  F_law_all_deeds := c.def_ 3 (d := df_law_all_deeds) rfl
  F_law_some_deeds := c.def_ 4 (d := df_law_some_deeds) rfl
  F_law_setting := c.def_ 5 (d := df_law_setting) rfl
  F_check_lot := c.def_ 6 (d := df_check_lot) rfl
  F_Ledger_init := c.def_ 7 (d := df_Ledger_init) rfl
  F_is_integer := c.def_ 8 (d := df_is_integer) rfl
  F_number_of_columns := c.def_ 9 (d := df_number_of_columns) rfl
  F_is_deed := c.def_ 10 (d := df_is_deed) rfl
  F_all_deeds := c.def_ 11 (d := df_all_deeds) rfl
  F_Kind_init := c.def_ 12 (d := df_Kind_init) rfl
  F_Kind_alike := c.def_ 13 (d := df_Kind_alike) rfl
  F_Kind_or := c.def_ 14 (d := df_Kind_or) rfl
  F_Kind_and := c.def_ 15 (d := df_Kind_and) rfl
  F_law_made := c.def_ 16 (d := df_law_made) rfl
  F_is_column := c.def_ 17 (d := df_is_column) rfl
  F_Sheet_init := c.def_ 18 (d := df_Sheet_init) rfl
  F_Kind_rows := c.def_ 19 (d := df_Kind_rows) rfl
  F_Kind_base := c.def_ 20 (d := df_Kind_base) rfl
  F_Ledger_sheet := c.def_ 21 (d := df_Ledger_sheet) rfl
  F_Sheet_base := c.def_ 22 (d := df_Sheet_base) rfl
  F_Sheet_rows := c.def_ 23 (d := df_Sheet_rows) rfl
  F_law_alike_0 := c.def_ 24 (d := df_law_alike_0) rfl
  F_law_alike_1 := c.def_ 25 (d := df_law_alike_1) rfl
  F_law_alike_2 := c.def_ 26 (d := df_law_alike_2) rfl
  F_law_alike_3 := c.def_ 27 (d := df_law_alike_3) rfl
  F_Sheet_columns := c.def_ 28 (d := df_Sheet_columns) rfl
  F_Ledger_slips := c.def_ 29 (d := df_Ledger_slips) rfl
  F_Kind_most := c.def_ 30 (d := df_Kind_most) rfl
  F_beginning := c.def_ 31 (d := df_beginning) rfl
  F_Ledger_standing := c.def_ 32 (d := df_Ledger_standing) rfl
  F_Ledger_waits := c.def_ 33 (d := df_Ledger_waits) rfl
  F_Ledger_len := c.def_ 34 (d := df_Ledger_len) rfl
  F_law_look := c.def_ 35 (d := df_law_look) rfl
  F_law_run := c.def_ 36 (d := df_law_run) rfl
  F_law_value := c.def_ 37 (d := df_law_value) rfl
  F_law_standing := c.def_ 38 (d := df_law_standing) rfl
  F_law_column := c.def_ 39 (d := df_law_column) rfl
  F_law_possible := c.def_ 40 (d := df_law_possible) rfl
  F_Kind_contains := c.def_ 41 (d := df_Kind_contains) rfl
  F_done_rightly := c.def_ 42 (d := df_done_rightly) rfl
  F_is_possible := c.def_ 43 (d := df_is_possible) rfl
  F_taken_sum := c.def_ 44 (d := df_taken_sum) rfl
  F_done_with := c.def_ 45 (d := df_done_with) rfl
  F_power := c.def_ 46 (d := df_power) rfl
  F_near_behind := c.def_ 47 (d := df_near_behind) rfl
  F_next_standing := c.def_ 48 (d := df_next_standing) rfl
  F_Kind_deeds := c.def_ 49 (d := df_Kind_deeds) rfl
  F_copy_rows := c.def_ 50 (d := df_copy_rows) rfl
  F_Ledger_put := c.def_ 51 (d := df_Ledger_put) rfl
  F_Sheet_len := c.def_ 52 (d := df_Sheet_len) rfl
  F_Sheet_setitem := c.def_ 53 (d := df_Sheet_setitem) rfl
  F_law_spoil := c.def_ 54 (d := df_law_spoil) rfl
  F_law := c.def_ 55 (d := df_law) rfl
end LW
open PySem PySem.W PySem.Calls PyProof.Rows
set_option maxRecDepth 100000 in
set_option maxHeartbeats 8000000 in
theorem PySem.Challenge.cw_sumslips_k50_ledgers_follow_holds : PySem.Challenge.rw_sumslips_k50_ledgers_follow.Holds := by
  refine LW.headE ?hc
  case hc =>
    refine L2.walk_ofE (l := PySem.Challenge.rw_sumslips_k50_ledgers_follow) (n := 63) (k := 17) (x := "script") (CX := L2.CX0) rfl (by decide) (by kernel_rfl) ⟨rfl, by decide, by decide⟩ ?F (fun _ _ _ _ z => z)
    intro w mg fa h Y G hmg0
    obtain ⟨K, KX, c⟩ := Y
    have hmg : mg ("law" : PySem.Str) = some (.ref fa) := by
      have e : (HandSHeadRun.topDef (OpenLaw.row PySem.Challenge.rw_sumslips_k50_ledgers_follow).prog 60).name = ("law" : PySem.Str) := by kernel_rfl
      rw [← e]
      exact hmg0
    have T := LW.txt KX G c
    have e := hmg.symm.trans T.g_law
    cases e
    obtain ⟨fd, F⟩ := T.F_law
    have b := L2.FunD.bindsA (ps := ["script"]) F fun _ _ _ _ _ _ us hl => match us, hl with | [_], _ => rfl
    exact ⟨K, fd, DL.spD K DL.spLaw, KX, fun s v => b s [v] rfl, fun H a ns hl _ hS => DL.law_says H a ns hl hS, fun base _ _ => LW.okf_law T F⟩
