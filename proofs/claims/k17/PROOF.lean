import PyProof.Rows.All
import Wide.All
import OpenK.AllK
import Wide.FinOn
import HandS.ForMost
import HandS.Evl
import HandS.IsInst
import HandS.Wide
import HandS.Property
import HandS.Deep
import HandS.Style
import HandS.Defaults
import HandS.More
import HandS.Head0
import HandS.Head1
import HandS.Head2
import HandS.HeadEnd
import HandS.HeadHook1
import HandS.HeadHook2
import HandS.Codes
import HandS.ExcInit
import HandS.Zip
import HandS.ExcCtx
import HandS.ExcIs
import HandS.Conv
import KE.DataCmp
import PyProof.EqKinds
import PyProof.NeKinds
import KE.KEqDict
import PySem.Challenge.RW_sumslips_k17_what_is_in_a_kind
set_option Elab.async false
set_option linter.all false
set_option maxRecDepth 100000
set_option maxHeartbeats 8000000
/-! a data layer over the hand layer: values as data, lists that change as numbered cells -/
namespace DL
open PySem PySem.Spec PyProof.Rows L2
open Evl (Ex)

inductive D where
  | non
  | bl (b : Bool)
  | int (i : Int)
  | str (s : Str)
  | tup (xs : List D)
  | lst (xs : List D)
  | fro (xs : List D)
  | ins (C : Addr) (ns : List Str) (xs : List D)
  | cell (n : Nat)
  | dct
  | raw (v : V)

/-- what never changes any more, and where the cells stand -/
structure Wd where
  F : Hp
  m : List Addr
  h : List (Addr × List V)
def Wd.le (W W' : Wd) : Prop := Ex W.F W'.F ∧ (∃ more, W'.m = W.m ++ more) ∧ W'.h = W.h
theorem Wd.le_refl (W : Wd) : W.le W := ⟨Ex.refl _, ⟨[], (List.append_nil _).symm⟩, rfl⟩
theorem Wd.le.tr {W W1 W2 : Wd} (a : W.le W1) (b : W1.le W2) : W.le W2 := by
  obtain ⟨e1, ⟨m1, h1⟩, g1⟩ := a
  obtain ⟨e2, ⟨m2, h2⟩, g2⟩ := b
  exact ⟨e1.trans e2, ⟨m1 ++ m2, by rw [h2, h1, List.append_assoc]⟩, g2.trans g1⟩
theorem Wd.get_more {W W' : Wd} (l : ∃ more, W'.m = W.m ++ more) {n : Nat} {a : Addr} (h : W.m[n]? = some a) : W'.m[n]? = some a := by
  obtain ⟨more, e⟩ := l
  rw [e, List.getElem?_append_left (List.getElem?_eq_some_iff.mp h).1]
  exact h
theorem Wd.le_get {W W' : Wd} (l : W.le W') {n : Nat} {a : Addr} (h : W.m[n]? = some a) : W'.m[n]? = some a := by
  obtain ⟨_, ⟨more, e⟩, _⟩ := l
  rw [e, List.getElem?_append_left (List.getElem?_eq_some_iff.mp h).1]
  exact h

mutual
inductive R (K : PySem.W.Frag) (W : Wd) : V → D → Prop
  | non : R K W .non .non
  | bl (b : Bool) : R K W (.bl b) (.bl b)
  | int (i : Int) : R K W (.int i) (.int i)
  | str (s : Str) : R K W (.str s) (.str s)
  | tup {a : Addr} {vs : List V} {xs : List D} : SqT K W.F a vs → RAll K W vs xs → R K W (.ref a) (.tup xs)
  | lst {a : Addr} {vs : List V} {xs : List D} : W.F a = some (.lst vs) → RAll K W vs xs → R K W (.ref a) (.lst xs)
  | fro {a : Addr} {vs : List V} {xs : List D} : SqL K W.F a vs → RAll K W vs xs → R K W (.ref a) (.fro xs)
  | ins {a C dx : Addr} {gs : List (Str × V)} {xs : List D} : W.F a = some (.ins C dx gs) → RAll K W (gs.map (·.2)) xs → R K W (.ref a) (.ins C (gs.map (·.1)) xs)
  | cell {n : Nat} {a : Addr} : W.m[n]? = some a → R K W (.ref a) (.cell n)
  | dct {a : Addr} {kvs : List (Key × V)} : W.F a = some (.dK kvs) → R K W (.ref a) .dct
  | raw (v : V) : R K W v (.raw v)
inductive RAll (K : PySem.W.Frag) (W : Wd) : List V → List D → Prop
  | nil : RAll K W [] []
  | cons {v : V} {vs : List V} {d : D} {ds : List D} : R K W v d → RAll K W vs ds → RAll K W (v :: vs) (d :: ds)
end
section
variable {K : PySem.W.Frag} {W W' : Wd}
mutual
theorem R.mono' (l : Ex W.F W'.F ∧ ∃ more, W'.m = W.m ++ more) : ∀ (d : D) (v : V), R K W v d → R K W' v d
  | .non, _, h => by cases h; exact .non
  | .bl b, _, h => by cases h; exact .bl b
  | .int i, _, h => by cases h; exact .int i
  | .str s, _, h => by cases h; exact .str s
  | .tup xs, _, h => by
    cases h with
    | tup hs ha => exact .tup (Evl.ex_t l.1 hs) (RAll.mono' l xs _ ha)
  | .lst xs, _, h => by
    cases h with
    | lst hs ha => exact .lst (l.1 _ _ hs) (RAll.mono' l xs _ ha)
  | .fro xs, _, h => by
    cases h with
    | fro hs ha => exact .fro (Evl.ex_l l.1 hs) (RAll.mono' l xs _ ha)
  | .ins C ns xs, _, h => by
    cases h with
    | ins hs ha => exact .ins (l.1 _ _ hs) (RAll.mono' l xs _ ha)
  | .cell n, _, h => by
    cases h with
    | cell hs => exact .cell (Wd.get_more l.2 hs)
  | .dct, _, h => by
    cases h with
    | dct hs => exact .dct (l.1 _ _ hs)
  | .raw v, _, h => by cases h; exact .raw v
theorem RAll.mono' (l : Ex W.F W'.F ∧ ∃ more, W'.m = W.m ++ more) : ∀ (ds : List D) (vs : List V), RAll K W vs ds → RAll K W' vs ds
  | [], _, h => by cases h; exact .nil
  | d :: ds, _, h => by
    cases h with
    | cons h1 h2 => exact .cons (R.mono' l d _ h1) (RAll.mono' l ds _ h2)
end
theorem R.mono (l : W.le W') (d : D) (v : V) (h : R K W v d) : R K W' v d := R.mono' ⟨l.1, l.2.1⟩ d v h
theorem RAll.mono (l : W.le W') (ds : List D) (vs : List V) (h : RAll K W vs ds) : RAll K W' vs ds := RAll.mono' ⟨l.1, l.2.1⟩ ds vs h
/-- what the relation leans on -/
theorem R.world {d : D} {v : V} (h : R K W v d) (hF : W'.F = W.F) (hm : W'.m = W.m) : R K W' v d := R.mono' (W := W) ⟨by rw [hF]; exact Ex.refl _, [], by rw [hm, List.append_nil]⟩ d v h
theorem RAll.world {ds : List D} {vs : List V} (h : RAll K W vs ds) (hF : W'.F = W.F) (hm : W'.m = W.m) : RAll K W' vs ds := RAll.mono' (W := W) ⟨by rw [hF]; exact Ex.refl _, [], by rw [hm, List.append_nil]⟩ ds vs h
theorem RAll.length : ∀ {vs : List V} {ds : List D}, RAll K W vs ds → vs.length = ds.length
  | _, _, .nil => rfl
  | _, _, .cons _ t => by rw [List.length_cons, List.length_cons, RAll.length t]
theorem RAll.get : ∀ {vs : List V} {ds : List D} {i : Nat} {d : D}, RAll K W vs ds → ds[i]? = some d → ∃ v, vs[i]? = some v ∧ R K W v d
  | _, _, _, _, .nil, e => by simp at e
  | _, _, 0, _, .cons r _, e => by simp at e; subst e; exact ⟨_, rfl, r⟩
  | _, _, i + 1, d, .cons _ t, e => by
    obtain ⟨v, h1, h2⟩ := RAll.get (i := i) (d := d) t (by simpa using e)
    exact ⟨v, by simpa using h1, h2⟩
theorem RAll.get' : ∀ {vs : List V} {ds : List D} {i : Nat} {v : V}, RAll K W vs ds → vs[i]? = some v → ∃ d, ds[i]? = some d ∧ R K W v d
  | _, _, _, _, .nil, e => by simp at e
  | _, _, 0, _, .cons r _, e => by simp at e; subst e; exact ⟨_, rfl, r⟩
  | _, _, i + 1, v, .cons _ t, e => by
    obtain ⟨d, h1, h2⟩ := RAll.get' (i := i) (v := v) t (by simpa using e)
    exact ⟨d, by simpa using h1, h2⟩
theorem RAll.set {v : V} {d : D} (r : R K W v d) : ∀ {vs : List V} {ds : List D} (i : Nat), RAll K W vs ds → RAll K W (vs.set i v) (ds.set i d)
  | _, _, _, .nil => .nil
  | _, _, 0, .cons _ t => .cons r t
  | _, _, i + 1, .cons q t => .cons q (RAll.set r i t)
theorem RAll.append : ∀ {vs ws : List V} {ds es : List D}, RAll K W vs ds → RAll K W ws es → RAll K W (vs ++ ws) (ds ++ es)
  | _, _, _, _, .nil, s => s
  | _, _, _, _, .cons r t, s => .cons r (RAll.append t s)
theorem RAll.take : ∀ {vs : List V} {ds : List D} (n : Nat), RAll K W vs ds → RAll K W (vs.take n) (ds.take n)
  | _, _, 0, _ => .nil
  | _, _, _ + 1, .nil => .nil
  | _, _, n + 1, .cons r t => .cons r (RAll.take n t)
theorem RAll.drop : ∀ {vs : List V} {ds : List D} (n : Nat), RAll K W vs ds → RAll K W (vs.drop n) (ds.drop n)
  | _, _, 0, r => r
  | _, _, _ + 1, .nil => .nil
  | _, _, n + 1, .cons _ t => RAll.drop n t
theorem RAll.reverse : ∀ {vs : List V} {ds : List D}, RAll K W vs ds → RAll K W vs.reverse ds.reverse
  | _, _, .nil => .nil
  | _, _, .cons r t => by
    rw [List.reverse_cons, List.reverse_cons]
    exact (RAll.reverse t).append (.cons r .nil)
theorem RAll.dropLast : ∀ {vs : List V} {ds : List D}, RAll K W vs ds → RAll K W vs.dropLast ds.dropLast
  | _, _, .nil => .nil
  | _, _, .cons _ .nil => .nil
  | _, _, .cons r (.cons q t) => .cons r (RAll.dropLast (.cons q t))
theorem RAll.app1 {vs : List V} {ds : List D} {v : V} {d : D} (h : RAll K W vs ds) (r : R K W v d) : RAll K W (vs ++ [v]) (ds ++ [d]) := h.append (.cons r .nil)
theorem RAll.snoc_inv : ∀ {vs : List V} {ds : List D} {d : D}, RAll K W vs (ds ++ [d]) → ∃ ws v, vs = ws ++ [v] ∧ RAll K W ws ds ∧ R K W v d
  | _, [], _, h => by
    cases h with
    | cons r t => cases t; exact ⟨[], _, rfl, .nil, r⟩
  | _, x :: ds, _, h => by
    cases h with
    | cons r t =>
      obtain ⟨ws, v, e, h1, h2⟩ := RAll.snoc_inv t
      subst e
      exact ⟨_ :: ws, v, rfl, .cons r h1, h2⟩
theorem RAll.ints : ∀ (ns : List Int), RAll K W (ns.map V.int) (ns.map D.int)
  | [] => .nil
  | n :: ns => .cons (.int n) (RAll.ints ns)
theorem RAll.ints_inv : ∀ {ns : List Int} {vs : List V}, RAll K W vs (ns.map D.int) → vs = ns.map V.int
  | [], _, h => by cases h; rfl
  | n :: ns, _, h => by
    cases h with
    | cons r t => cases r; rw [RAll.ints_inv t]; rfl
theorem RAll.bls_inv : ∀ {ns : List Bool} {vs : List V}, RAll K W vs (ns.map D.bl) → vs = ns.map V.bl
  | [], _, h => by cases h; rfl
  | n :: ns, _, h => by
    cases h with
    | cons r t => cases r; rw [RAll.bls_inv t]; rfl
theorem RAll.strs_inv : ∀ {ns : List Str} {vs : List V}, RAll K W vs (ns.map D.str) → vs = ns.map V.str
  | [], _, h => by cases h; rfl
  | n :: ns, _, h => by
    cases h with
    | cons r t => cases r; rw [RAll.strs_inv t]; rfl
end

/-- a cell: a list or an instance that changes; a dead one is known no more -/
inductive Cel where
  | dead
  | lst (xs : List D)
  | ins (C : Addr) (ns : List Str) (xs : List D)

def ClOk (K : PySem.W.Frag) (W : Wd) (H : Hp) (a : Addr) : Cel → Prop
  | .dead => True
  | .lst xs => ∃ vs, H a = some (.lst vs) ∧ RAll K W vs xs
  | .ins C ns xs => ∃ dx gs, H a = some (.ins C dx gs) ∧ gs.map (·.1) = ns ∧ RAll K W (gs.map (·.2)) xs

structure Ok (K : PySem.W.Frag) (W : Wd) (H : Hp) (cs : List Cel) : Prop where
  ex : Ex W.F H
  len : W.m.length = cs.length
  nd : W.m.Nodup
  here : ∀ a ∈ W.m, ∃ o, H a = some o
  fr : ∀ (n : Nat) (a : Addr) (c : Cel), W.m[n]? = some a → cs[n]? = some c → c = .dead ∨ W.F a = none
  cl : ∀ (n : Nat) (a : Addr) (c : Cel), W.m[n]? = some a → cs[n]? = some c → ClOk K W H a c
  hd : ∀ p ∈ W.h, H p.1 = some (.lst p.2) ∧ W.F p.1 = none ∧ p.1 ∉ W.m
  hn : (W.h.map (·.1)).Nodup

def SlO (K : PySem.W.Frag) (W : Wd) (σ : L2.St) (sl : List (Option D)) : Prop :=
  σ.length = sl.length ∧ ∀ (i : Nat) (d : D), sl[i]? = some (some d) → ∃ v, σ[i]? = some (some v) ∧ R K W v d

structure En where
  sl : List (Option D)
  cs : List Cel
structure Sd (K : PySem.W.Frag) (W : Wd) (H : Hp) (σ : L2.St) (e : En) : Prop where
  ok : Ok K W H e.cs
  sl : SlO K W σ e.sl

section
variable {K : PySem.W.Frag} {W W' : Wd} {H H' : Hp} {cs cs' : List Cel} {σ : L2.St} {sl : List (Option D)} {e : En}
theorem ClOk.mono (l : W.le W') {a : Addr} : ∀ {c : Cel}, ClOk K W H a c → ClOk K W' H a c
  | .dead, _ => trivial
  | .lst _, ⟨vs, h, r⟩ => ⟨vs, h, RAll.mono l _ _ r⟩
  | .ins _ _ _, ⟨dx, gs, h, e, r⟩ => ⟨dx, gs, h, e, RAll.mono l _ _ r⟩
theorem ClOk.world {a : Addr} (hF : W'.F = W.F) (hm : W'.m = W.m) : ∀ {c : Cel}, ClOk K W H a c → ClOk K W' H a c
  | .dead, _ => trivial
  | .lst _, ⟨vs, h, r⟩ => ⟨vs, h, r.world hF hm⟩
  | .ins _ _ _, ⟨dx, gs, h, e, r⟩ => ⟨dx, gs, h, e, r.world hF hm⟩
theorem ClOk.to {a : Addr} {c : Cel} (x : ClOk K W H a c) (hF : W'.F = W.F) (hm : W'.m = W.m) : ClOk K W' H a c := ClOk.world hF hm x
theorem ClOk.heap {a : Addr} (e : H' a = H a) : ∀ {c : Cel}, ClOk K W H a c → ClOk K W H' a c
  | .dead, _ => trivial
  | .lst _, ⟨vs, h, r⟩ => ⟨vs, e.trans h, r⟩
  | .ins _ _ _, ⟨dx, gs, h, e', r⟩ => ⟨dx, gs, e.trans h, e', r⟩
theorem SlO.mono (l : W.le W') (h : SlO K W σ sl) : SlO K W' σ sl :=
  ⟨h.1, fun i d e => let ⟨v, a, b⟩ := h.2 i d e; ⟨v, a, R.mono l _ _ b⟩⟩
theorem SlO.set {i : Nat} {v : V} {d : D} (h : SlO K W σ sl) (r : R K W v d) : SlO K W (σ.set i (some v)) (sl.set i (some d)) := by
  refine ⟨by simp [h.1], fun j d' e => ?_⟩
  rw [List.getElem?_set] at e
  by_cases hij : i = j
  · subst hij
    rw [if_pos rfl] at e
    split at e
    · rename_i hl
      cases e
      exact ⟨v, by rw [List.getElem?_set_self (h.1 ▸ hl)], r⟩
    · cases e
  · rw [if_neg hij] at e
    obtain ⟨v', a, b⟩ := h.2 j d' e
    exact ⟨v', by rw [List.getElem?_set_ne hij]; exact a, b⟩
theorem Ok.fresh (h : Ok K W H cs) {p : Addr} (hp : H p = none) : p ∉ W.m := fun hm => by
  obtain ⟨o, e⟩ := h.here p hm
  rw [hp] at e; cases e
/-- a new object that never changes -/
theorem Ok.newF (h : Ok K W H cs) {p : Addr} {o : HO} (hp : H p = none) : Ok K ⟨upd W.F p o, W.m, W.h⟩ (upd H p o) cs ∧ W.le ⟨upd W.F p o, W.m, W.h⟩ := by
  have hF : W.F p = none := Evl.fresh_back h.ex hp
  have l : W.le ⟨upd W.F p o, W.m, W.h⟩ := ⟨Ex.new hF, ⟨[], (List.append_nil _).symm⟩, rfl⟩
  have ne : ∀ a ∈ W.m, a ≠ p := fun a ha e => h.fresh hp (e ▸ ha)
  have nem : ∀ {n : Nat} {a : Addr}, W.m[n]? = some a → a ≠ p := fun e => ne _ (List.mem_of_getElem? e)
  have neh : ∀ q ∈ W.h, q.1 ≠ p := fun q hq e => by
    have := (h.hd q hq).1
    rw [e, hp] at this; cases this
  refine ⟨⟨fun a u e => ?_, h.len, h.nd, fun a ha => ?_, fun n a c e1 e2 => ?_, fun n a c e1 e2 => ?_, fun q hq => ?_, h.hn⟩, l⟩
  · have e : upd W.F p o a = some u := e
    by_cases q : a = p
    · subst q; rw [upd_same] at e ⊢; exact e
    · rw [upd_ne q] at e ⊢; exact h.ex a u e
  · rw [upd_ne (ne a ha)]; exact h.here a ha
  · rcases h.fr n a c e1 e2 with q | q
    · exact .inl q
    · exact .inr (by show upd W.F p o a = none; rw [upd_ne (nem e1)]; exact q)
  · exact ((h.cl n a c e1 e2).heap (upd_ne (nem e1))).mono l
  · obtain ⟨h1, h2, h3⟩ := h.hd q hq
    exact ⟨by rw [upd_ne (neh q hq)]; exact h1, by show upd W.F p o q.1 = none; rw [upd_ne (neh q hq)]; exact h2, h3⟩
/-- a new cell -/
theorem Ok.newC (h : Ok K W H cs) {p : Addr} {o : HO} {c : Cel} (hp : H p = none) (hc : ∀ W', W.le W' → ClOk K W' (upd H p o) p c) : Ok K ⟨W.F, W.m ++ [p], W.h⟩ (upd H p o) (cs ++ [c]) ∧ W.le ⟨W.F, W.m ++ [p], W.h⟩ := by
  have hF : W.F p = none := Evl.fresh_back h.ex hp
  have l : W.le ⟨W.F, W.m ++ [p], W.h⟩ := ⟨Ex.refl _, ⟨[p], rfl⟩, rfl⟩
  have ne : ∀ a ∈ W.m, a ≠ p := fun a ha e => h.fresh hp (e ▸ ha)
  have cases' : ∀ {n : Nat} {a : Addr} {c' : Cel}, (W.m ++ [p])[n]? = some a → (cs ++ [c])[n]? = some c' → (W.m[n]? = some a ∧ cs[n]? = some c') ∨ (a = p ∧ c' = c) := fun {n a c'} e1 e2 => by
    by_cases hn : n < W.m.length
    · rw [List.getElem?_append_left hn] at e1
      rw [List.getElem?_append_left (h.len ▸ hn)] at e2
      exact .inl ⟨e1, e2⟩
    · have hn' : W.m.length ≤ n := Nat.le_of_not_lt hn
      rw [List.getElem?_append_right hn'] at e1
      rw [List.getElem?_append_right (h.len ▸ hn')] at e2
      rw [← h.len] at e2
      cases hk : n - W.m.length with
      | zero => rw [hk] at e1 e2; simp at e1 e2; exact .inr ⟨e1.symm, e2.symm⟩
      | succ k => rw [hk] at e1; simp at e1
  have neh : ∀ q ∈ W.h, q.1 ≠ p := fun q hq e => by
    have := (h.hd q hq).1
    rw [e, hp] at this; cases this
  refine ⟨⟨h.ex.trans (Ex.new hp), by simp [h.len], ?_, fun a ha => ?_, fun n a c' e1 e2 => ?_, fun n a c' e1 e2 => ?_, fun q hq => ?_, h.hn⟩, l⟩
  · show (W.m ++ [p]).Nodup
    rw [List.nodup_append]
    exact ⟨h.nd, by simp, fun a ha b hb => by rw [List.mem_singleton.mp hb]; exact ne a ha⟩
  · rcases List.mem_append.mp ha with ha | ha
    · rw [upd_ne (ne a ha)]; exact h.here a ha
    · rw [List.mem_singleton.mp ha]; exact ⟨o, upd_same⟩
  · rcases cases' e1 e2 with ⟨q1, q2⟩ | ⟨rfl, rfl⟩
    · exact h.fr n a c' q1 q2
    · exact .inr hF
  · rcases cases' e1 e2 with ⟨q1, q2⟩ | ⟨rfl, rfl⟩
    · exact ((h.cl n a c' q1 q2).heap (upd_ne (ne a (List.mem_of_getElem? q1)))).mono l
    · exact hc _ l
  · obtain ⟨h1, h2, h3⟩ := h.hd q hq
    exact ⟨by rw [upd_ne (neh q hq)]; exact h1, h2, fun hm => (List.mem_append.mp hm).elim h3 fun z => neh q hq (List.mem_singleton.mp z)⟩
/-- a cell is written -/
theorem Ok.setC (h : Ok K W H cs) {n : Nat} {a : Addr} {c c' : Cel} {o : HO} (hm : W.m[n]? = some a) (hc : cs[n]? = some c) (nd : c ≠ .dead) (hc' : ClOk K W (upd H a o) a c') : Ok K W (upd H a o) (cs.set n c') := by
  have hF : W.F a = none := (h.fr n a c hm hc).resolve_left nd
  have inj : ∀ {k : Nat} {b : Addr}, W.m[k]? = some b → k ≠ n → b ≠ a := fun {k b} e hk z => by
    subst z
    obtain ⟨h1, e1⟩ := List.getElem?_eq_some_iff.mp e
    obtain ⟨h2, e2⟩ := List.getElem?_eq_some_iff.mp hm
    exact hk ((List.getElem_inj h.nd).mp (e1.trans e2.symm))
  have neh : ∀ q ∈ W.h, q.1 ≠ a := fun q hq e => (h.hd q hq).2.2 (e ▸ List.mem_of_getElem? hm)
  refine ⟨h.ex.mut hF, by simp [h.len], h.nd, fun b hb => ?_, fun k b c2 e1 e2 => ?_, fun k b c2 e1 e2 => ?_, fun q hq => ?_, h.hn⟩
  · by_cases q : b = a
    · subst q; exact ⟨o, upd_same⟩
    · rw [upd_ne q]; exact h.here b hb
  · by_cases hk : k = n
    · subst hk
      rw [hm] at e1; cases e1
      exact .inr hF
    · rw [List.getElem?_set_ne (Ne.symm hk)] at e2
      exact h.fr k b c2 e1 e2
  · by_cases hk : k = n
    · subst hk
      rw [hm] at e1; cases e1
      have hl : k < cs.length := (List.getElem?_eq_some_iff.mp hc).1
      rw [List.getElem?_set_self hl] at e2; cases e2
      exact hc'
    · rw [List.getElem?_set_ne (Ne.symm hk)] at e2
      exact (h.cl k b c2 e1 e2).heap (upd_ne (inj e1 hk))
  · obtain ⟨h1, h2, h3⟩ := h.hd q hq
    exact ⟨by rw [upd_ne (neh q hq)]; exact h1, h2, h3⟩
/-- a list's cell changes no more -/
theorem Ok.freeze (h : Ok K W H cs) {n : Nat} {a : Addr} {vs : List V} {xs : List D} (hm : W.m[n]? = some a) (hc : cs[n]? = some (.lst xs)) (hv : H a = some (.lst vs)) :
    Ok K ⟨upd W.F a (.lst vs), W.m, W.h⟩ H (cs.set n .dead) ∧ W.le ⟨upd W.F a (.lst vs), W.m, W.h⟩ := by
  have hF : W.F a = none := (h.fr n a _ hm hc).resolve_left (fun z => nomatch z)
  have l : W.le ⟨upd W.F a (.lst vs), W.m, W.h⟩ := ⟨Ex.new hF, ⟨[], (List.append_nil _).symm⟩, rfl⟩
  have inj : ∀ {k : Nat} {b : Addr}, W.m[k]? = some b → k ≠ n → b ≠ a := fun {k b} e hk z => by
    subst z
    obtain ⟨h1, e1⟩ := List.getElem?_eq_some_iff.mp e
    obtain ⟨h2, e2⟩ := List.getElem?_eq_some_iff.mp hm
    exact hk ((List.getElem_inj h.nd).mp (e1.trans e2.symm))
  have neh : ∀ q ∈ W.h, q.1 ≠ a := fun q hq e => (h.hd q hq).2.2 (e ▸ List.mem_of_getElem? hm)
  refine ⟨⟨fun b u e => ?_, by simp [h.len], h.nd, h.here, fun k b c2 e1 e2 => ?_, fun k b c2 e1 e2 => ?_, fun q hq => ?_, h.hn⟩, l⟩
  · have e : upd W.F a (.lst vs) b = some u := e
    by_cases q : b = a
    · subst q; rw [upd_same] at e; rw [hv]; exact e
    · rw [upd_ne q] at e; exact h.ex b u e
  · by_cases hk : k = n
    · subst hk
      have hl : k < cs.length := (List.getElem?_eq_some_iff.mp hc).1
      rw [List.getElem?_set_self hl] at e2; cases e2
      exact .inl rfl
    · rw [List.getElem?_set_ne (Ne.symm hk)] at e2
      rcases h.fr k b c2 e1 e2 with q | q
      · exact .inl q
      · exact .inr (by show upd W.F a _ b = none; rw [upd_ne (inj e1 hk)]; exact q)
  · by_cases hk : k = n
    · subst hk
      have hl : k < cs.length := (List.getElem?_eq_some_iff.mp hc).1
      rw [List.getElem?_set_self hl] at e2; cases e2
      trivial
    · rw [List.getElem?_set_ne (Ne.symm hk)] at e2
      exact (h.cl k b c2 e1 e2).mono l
  · obtain ⟨h1, h2, h3⟩ := h.hd q hq
    exact ⟨h1, by show upd W.F a _ q.1 = none; rw [upd_ne (neh q hq)]; exact h2, h3⟩
/-- a hidden list: laid, grown, given up -/
theorem Ok.hide (h : Ok K W H cs) {p : Addr} (hp : H p = none) {vs : List V} : Ok K ⟨W.F, W.m, (p, vs) :: W.h⟩ (upd H p (.lst vs)) cs := by
  have hF : W.F p = none := Evl.fresh_back h.ex hp
  have ne : ∀ a ∈ W.m, a ≠ p := fun a ha e => h.fresh hp (e ▸ ha)
  have neh : ∀ q ∈ W.h, q.1 ≠ p := fun q hq e => by
    have := (h.hd q hq).1
    rw [e, hp] at this; cases this
  refine ⟨h.ex.trans (Ex.new hp), h.len, h.nd, fun a ha => by rw [upd_ne (ne a ha)]; exact h.here a ha, h.fr, fun n a c e1 e2 => ?_, fun q hq => ?_, ?_⟩
  · have := (h.cl n a c e1 e2).heap (H' := upd H p (.lst vs)) (upd_ne (ne a (List.mem_of_getElem? e1)))
    exact ClOk.to this rfl rfl
  · rcases List.mem_cons.mp hq with rfl | hq
    · exact ⟨upd_same, hF, h.fresh hp⟩
    · obtain ⟨h1, h2, h3⟩ := h.hd q hq
      exact ⟨by rw [upd_ne (neh q hq)]; exact h1, h2, h3⟩
  · show ((p :: W.h.map (·.1))).Nodup
    refine List.nodup_cons.mpr ⟨fun hm => ?_, h.hn⟩
    obtain ⟨q, hq, e⟩ := List.mem_map.mp hm
    exact neh q hq e
theorem Ok.grow {F : Hp} {m : List Addr} {hh : List (Addr × List V)} {p : Addr} {vs vs' : List V} (h : Ok K ⟨F, m, (p, vs) :: hh⟩ H cs) : Ok K ⟨F, m, (p, vs') :: hh⟩ (upd H p (.lst vs')) cs := by
  obtain ⟨h1, h2, h3⟩ := h.hd (p, vs) List.mem_cons_self
  have ne : ∀ a ∈ m, a ≠ p := fun a ha e => h3 (e ▸ ha)
  have hn : (p :: hh.map (·.1)).Nodup := h.hn
  have neh : ∀ q ∈ hh, q.1 ≠ p := fun q hq e => (List.nodup_cons.mp hn).1 (List.mem_map.mpr ⟨q, hq, e⟩)
  refine ⟨h.ex.mut h2, h.len, h.nd, fun a ha => by rw [upd_ne (ne a ha)]; exact h.here a ha, h.fr, fun n a c e1 e2 => ?_, fun q hq => ?_, h.hn⟩
  · have := (h.cl n a c e1 e2).heap (H' := upd H p (.lst vs')) (upd_ne (ne a (List.mem_of_getElem? e1)))
    exact ClOk.to this rfl rfl
  · rcases List.mem_cons.mp hq with rfl | hq
    · exact ⟨upd_same, h2, h3⟩
    · obtain ⟨g1, g2, g3⟩ := h.hd q (List.mem_cons_of_mem _ hq)
      exact ⟨by rw [upd_ne (neh q hq)]; exact g1, g2, g3⟩
/-- .. it changes no more -/
theorem Ok.showF {F : Hp} {m : List Addr} {hh : List (Addr × List V)} {p : Addr} {vs : List V} (h : Ok K ⟨F, m, (p, vs) :: hh⟩ H cs) : Ok K ⟨upd F p (.lst vs), m, hh⟩ H cs ∧ (⟨F, m, hh⟩ : Wd).le ⟨upd F p (.lst vs), m, hh⟩ := by
  obtain ⟨h1, h2, h3⟩ := h.hd (p, vs) List.mem_cons_self
  have ne : ∀ a ∈ m, a ≠ p := fun a ha e => h3 (e ▸ ha)
  have hn : (p :: hh.map (·.1)).Nodup := h.hn
  have neh : ∀ q ∈ hh, q.1 ≠ p := fun q hq e => (List.nodup_cons.mp hn).1 (List.mem_map.mpr ⟨q, hq, e⟩)
  have l : (⟨F, m, hh⟩ : Wd).le ⟨upd F p (.lst vs), m, hh⟩ := ⟨Ex.new h2, ⟨[], (List.append_nil _).symm⟩, rfl⟩
  refine ⟨⟨fun a u e => ?_, h.len, h.nd, h.here, fun n a c e1 e2 => ?_, fun n a c e1 e2 => ?_, fun q hq => ?_, (List.nodup_cons.mp hn).2⟩, l⟩
  · have e : upd F p (.lst vs) a = some u := e
    by_cases q : a = p
    · subst q; rw [upd_same] at e; rw [h1]; exact e
    · rw [upd_ne q] at e; exact h.ex a u e
  · rcases h.fr n a c e1 e2 with q | q
    · exact .inl q
    · exact .inr (by show upd F p _ a = none; rw [upd_ne (ne a (List.mem_of_getElem? e1))]; exact q)
  · exact (ClOk.to (W' := ⟨F, m, hh⟩) (h.cl n a c e1 e2) rfl rfl).mono l
  · obtain ⟨g1, g2, g3⟩ := h.hd q (List.mem_cons_of_mem _ hq)
    exact ⟨g1, by show upd F p _ q.1 = none; rw [upd_ne (neh q hq)]; exact g2, g3⟩
/-- .. it is a cell -/
theorem Ok.showC {F : Hp} {m : List Addr} {hh : List (Addr × List V)} {p : Addr} {vs : List V} {xs : List D} (h : Ok K ⟨F, m, (p, vs) :: hh⟩ H cs) (r : RAll K ⟨F, m, hh⟩ vs xs) : Ok K ⟨F, m ++ [p], hh⟩ H (cs ++ [.lst xs]) ∧ (⟨F, m, hh⟩ : Wd).le ⟨F, m ++ [p], hh⟩ := by
  obtain ⟨h1, h2, h3⟩ := h.hd (p, vs) List.mem_cons_self
  have hn : (p :: hh.map (·.1)).Nodup := h.hn
  have neh : ∀ q ∈ hh, q.1 ≠ p := fun q hq e => (List.nodup_cons.mp hn).1 (List.mem_map.mpr ⟨q, hq, e⟩)
  have l : (⟨F, m, hh⟩ : Wd).le ⟨F, m ++ [p], hh⟩ := ⟨Ex.refl _, ⟨[p], rfl⟩, rfl⟩
  have hl : m.length = cs.length := h.len
  have cases' : ∀ {n : Nat} {a : Addr} {c' : Cel}, (m ++ [p])[n]? = some a → (cs ++ [.lst xs])[n]? = some c' → (m[n]? = some a ∧ cs[n]? = some c') ∨ (a = p ∧ c' = .lst xs) := fun {n a c'} e1 e2 => by
    by_cases hn : n < m.length
    · rw [List.getElem?_append_left hn] at e1
      rw [List.getElem?_append_left (hl ▸ hn)] at e2
      exact .inl ⟨e1, e2⟩
    · have hn' : m.length ≤ n := Nat.le_of_not_lt hn
      rw [List.getElem?_append_right hn'] at e1
      rw [List.getElem?_append_right (hl ▸ hn')] at e2
      rw [← hl] at e2
      cases hk : n - m.length with
      | zero => rw [hk] at e1 e2; simp at e1 e2; exact .inr ⟨e1.symm, e2.symm⟩
      | succ k => rw [hk] at e1; simp at e1
  refine ⟨⟨h.ex, by simp [hl], ?_, fun a ha => ?_, fun n a c e1 e2 => ?_, fun n a c e1 e2 => ?_, fun q hq => ?_, (List.nodup_cons.mp hn).2⟩, l⟩
  · show (m ++ [p]).Nodup
    rw [List.nodup_append]
    exact ⟨h.nd, by simp, fun a ha b hb e => by rw [List.mem_singleton.mp hb] at e; exact h3 (e ▸ ha)⟩
  · rcases List.mem_append.mp ha with ha | ha
    · exact h.here a ha
    · rw [List.mem_singleton.mp ha]; exact ⟨_, h1⟩
  · rcases cases' e1 e2 with ⟨q1, q2⟩ | ⟨rfl, rfl⟩
    · exact h.fr n a c q1 q2
    · exact .inr h2
  · rcases cases' e1 e2 with ⟨q1, q2⟩ | ⟨rfl, rfl⟩
    · exact (ClOk.to (W' := ⟨F, m, hh⟩) (h.cl n a c q1 q2) rfl rfl).mono l
    · exact ⟨vs, h1, RAll.mono l _ _ r⟩
  · obtain ⟨g1, g2, g3⟩ := h.hd q (List.mem_cons_of_mem _ hq)
    exact ⟨g1, g2, fun hm => (List.mem_append.mp hm).elim g3 fun z => neh q hq (List.mem_singleton.mp z)⟩
theorem Sd.mono (h : Sd K W H σ e) (l : W.le W') (ok : Ok K W' H' cs) : Sd K W' H' σ { e with cs := cs } := ⟨ok, h.sl.mono l⟩
end

/-! ### looking at lists -/
def lk (cs : List Cel) : D → Option (List D)
  | .lst xs => some xs
  | .fro xs => some xs
  | .cell n => match cs[n]? with
    | some (.lst xs) => some xs
    | _ => none
  | _ => none
/-- not a locked one -/
def lkP (cs : List Cel) : D → Option (List D)
  | .lst xs => some xs
  | .cell n => match cs[n]? with
    | some (.lst xs) => some xs
    | _ => none
  | _ => none
section
variable {K : PySem.W.Frag} {W : Wd} {H : Hp} {cs : List Cel}
theorem Ok.cellL (h : Ok K W H cs) {n : Nat} {a : Addr} {xs : List D} (hm : W.m[n]? = some a) (hc : cs[n]? = some (.lst xs)) : ∃ vs, H a = some (.lst vs) ∧ RAll K W vs xs := h.cl n a _ hm hc
theorem Ok.lkP (h : Ok K W H cs) {d : D} {v : V} {xs : List D} (r : R K W v d) (e : lkP cs d = some xs) : ∃ a vs, v = .ref a ∧ H a = some (.lst vs) ∧ RAll K W vs xs := by
  cases r <;> simp only [DL.lkP] at e <;> try cases e
  · rename_i a vs hs ha
    exact ⟨a, vs, rfl, h.ex _ _ hs, ha⟩
  · rename_i n a hm
    split at e
    · rename_i xs' hc
      cases e
      obtain ⟨vs, h1, h2⟩ := h.cellL hm hc
      exact ⟨a, vs, rfl, h1, h2⟩
    · cases e
theorem Ok.lk (h : Ok K W H cs) {d : D} {v : V} {xs : List D} (r : R K W v d) (e : lk cs d = some xs) : ∃ a vs, v = .ref a ∧ SqL K H a vs ∧ RAll K W vs xs := by
  cases r <;> simp only [DL.lk] at e <;> try cases e
  · rename_i a vs hs ha
    exact ⟨a, vs, rfl, SqL.of (h.ex _ _ hs), ha⟩
  · rename_i a vs hs ha
    exact ⟨a, vs, rfl, Evl.ex_l h.ex hs, ha⟩
  · rename_i n a hm
    split at e
    · rename_i xs' hc
      cases e
      obtain ⟨vs, h1, h2⟩ := h.cellL hm hc
      exact ⟨a, vs, rfl, SqL.of h1, h2⟩
    · cases e
end

/-! ### lifting -/
/-- what is known of the world all along -/
structure Bs where
  p : Wd → Prop
  up : ∀ {W W' : Wd}, p W → W.le W' → p W'
def Bs.any : Bs := ⟨fun _ => True, fun _ _ => trivial⟩
def Bs.of (W0 : Wd) : Bs := ⟨fun W => W0.le W, fun a b => a.tr b⟩
abbrev DE := En → (D → En → Prop) → Prop
abbrev DT := En → (Bool → En → Prop) → Prop
abbrev DA := En → (List D → En → Prop) → Prop
structure Po where
  nx : En → Prop
  rt : D → List Cel → Prop
  bk : En → Prop := fun _ => False
  ct : En → Prop := fun _ => False
abbrev DS := Po → En → Prop
def lE (K : PySem.W.Frag) (B : Bs) (t : DE) : TE := fun σ H Q => ∃ W e P, B.p W ∧ Sd K W H σ e ∧ t e P ∧
  ∀ d e' W' H' v, P d e' → W.le W' → Sd K W' H' σ e' → R K W' v d → Q v H'
def lT (K : PySem.W.Frag) (B : Bs) (t : DT) : TT := fun σ H Q => ∃ W e P, B.p W ∧ Sd K W H σ e ∧ t e P ∧
  ∀ b e' W' H', P b e' → W.le W' → Sd K W' H' σ e' → Q b H'
def lA (K : PySem.W.Frag) (B : Bs) (t : DA) : TA := fun σ H Q => ∃ W e P, B.p W ∧ Sd K W H σ e ∧ t e P ∧
  ∀ ds e' W' H' vs, P ds e' → W.le W' → Sd K W' H' σ e' → RAll K W' vs ds → Q vs H'
def lS (K : PySem.W.Frag) (B : Bs) (t : DS) : TS := fun D σ H => ∃ W e P, B.p W ∧ Sd K W H σ e ∧ t P e ∧
  (∀ e' W' H' σ', P.nx e' → W.le W' → Sd K W' H' σ' e' → D.nx σ' H') ∧
  (∀ d cs W' H' v, P.rt d cs → W.le W' → Ok K W' H' cs → R K W' v d → D.rt v H') ∧
  (∀ e' W' H' σ', P.bk e' → W.le W' → Sd K W' H' σ' e' → D.bk σ' H') ∧
  (∀ e' W' H' σ', P.ct e' → W.le W' → Sd K W' H' σ' e' → D.ct σ' H')

section
variable {X : Cx} {ex : Expr}
theorem PE.imp {t t' : TE} (h : PE X ex t) (i : ∀ σ H Q, t' σ H Q → t σ H Q) : PE X ex t' := ⟨fun pins s σ H Q I w => h.run pins s σ H Q I (i σ H Q w)⟩
theorem PT.imp {t t' : TT} (h : PT X ex t) (i : ∀ σ H Q, t' σ H Q → t σ H Q) : PT X ex t' := ⟨fun pins s σ H Q I w => h.run pins s σ H Q I (i σ H Q w)⟩
theorem PW.imp {t t' : TT} (h : PW X ex t) (i : ∀ σ H Q, t' σ H Q → t σ H Q) : PW X ex t' := ⟨fun wh pins s σ H Q I w => h.run wh pins s σ H Q I (i σ H Q w)⟩
theorem PA.imp {es : List Expr} {t t' : TA} (h : PA X es t) (i : ∀ σ H Q, t' σ H Q → t σ H Q) : PA X es t' := ⟨fun pos pins s σ H Q I w => h.run pos pins s σ H Q I (i σ H Q w)⟩
theorem PS.imp {st : Stmt} {t t' : TS} (h : PS X st t) (i : ∀ D σ H, t' D σ H → t D σ H) : PS X st t' := ⟨fun pins s σ H D I w => h.run pins s σ H D I (i D σ H w)⟩
theorem PSs.imp {st : List Stmt} {t t' : TS} (h : PSs X st t) (i : ∀ D σ H, t' D σ H → t D σ H) : PSs X st t' := ⟨fun pins s σ H D I w => h.run pins s σ H D I (i D σ H w)⟩
end
end DL
namespace DL
open PySem PySem.Spec PyProof.Rows L2
open Evl (Ex)

/-! ### new objects -/
def newL (o : Bool) (xs : List D) : DE := fun e P => match o with
  | false => P (.lst xs) e
  | true => P (.cell e.cs.length) { e with cs := e.cs ++ [.lst xs] }
section
variable {K : PySem.W.Frag} {W : Wd} {H : Hp} {σ : L2.St} {e : En} {Q : VK} {P : D → En → Prop}
theorem newL_ok {o : Bool} {xs : List D} {vs : List V} (S : Sd K W H σ e) (r : RAll K W vs xs) (t : newL o xs e P)
    (k : ∀ d e' W' H' v, P d e' → W.le W' → Sd K W' H' σ e' → R K W' v d → Q v H') : ∀ p, H p = none → Q (.ref p) (upd H p (.lst vs)) := by
  intro p hp
  cases o with
  | false =>
    obtain ⟨ok, l⟩ := S.ok.newF (o := .lst vs) hp
    exact k _ _ _ _ _ t l ⟨ok, S.sl.mono l⟩ (.lst upd_same (RAll.mono l _ _ r))
  | true =>
    obtain ⟨ok, l⟩ := S.ok.newC (o := .lst vs) (c := .lst xs) hp fun W' l => ⟨vs, upd_same, RAll.mono l _ _ r⟩
    refine k _ _ _ _ _ t l ⟨ok, S.sl.mono l⟩ (.cell ?_)
    show (W.m ++ [p])[e.cs.length]? = some p
    rw [← S.ok.len, List.getElem?_append_right (Nat.le_refl _)]
    simp
theorem newT_ok {xs : List D} {vs : List V} (S : Sd K W H σ e) (r : RAll K W vs xs) (t : P (.tup xs) e)
    (k : ∀ d e' W' H' v, P d e' → W.le W' → Sd K W' H' σ e' → R K W' v d → Q v H') : ∀ p, H p = none → Q (.ref p) (upd H p (.tup vs)) := by
  intro p hp
  obtain ⟨ok, l⟩ := S.ok.newF (o := .tup vs) hp
  exact k _ _ _ _ _ t l ⟨ok, S.sl.mono l⟩ (.tup (SqT.of upd_same) (RAll.mono l _ _ r))
end

/-! ### names and constants -/
def eV (i : Nat) : DE := fun e P => ∃ d, e.sl[i]? = some (some d) ∧ P d e
def eC (d : D) : DE := fun e P => P d e
section
variable {X : Cx} {B : Bs} {a b c ex : Expr} {pos : Pos} {ta tb tc te : DE}
theorem de_var {i : Nat} (h : PE X ex (tVar i)) : PE X ex (lE X.K B (eV i)) := PE.imp h fun σ H Q ⟨W, e, P, _, S, ⟨d, hd, p⟩, k⟩ => by
  obtain ⟨v, hv, r⟩ := S.sl.2 i d hd
  exact ⟨v, hv, k d e W H v p W.le_refl S r⟩
theorem dv (i : Nat) {x : Str} (hN : X.N[i]? = some x := by rfl) (hv : Vis X.env.scope x := by first | exact Or.inl rfl | exact Or.inr (Or.inl rfl) | exact Or.inr (Or.inr rfl)) (hd : (x == ("__debug__" : Str)) = false := by decide)
    (hcd : (x == ("__classdict__" : Str)) = false := by decide) : PE X (.Name x pos) (lE X.K B (eV i)) := de_var (pe_var hN hv hd hcd)
theorem de_c {v : V} {d : D} (h : PE X ex (tC v)) (hr : ∀ W, R X.K W v d) : PE X ex (lE X.K B (eC d)) := PE.imp h fun σ H Q ⟨W, e, P, _, S, p, k⟩ => k d e W H v p W.le_refl S (hr W)
theorem de_int {i j} : PE X (.Constant (.int i) j pos) (lE X.K B (eC (.int i))) := de_c pe_int fun _ => .int i
theorem de_bl {i j} : PE X (.Constant (.bool i) j pos) (lE X.K B (eC (.bl i))) := de_c pe_bl fun _ => .bl i
theorem de_non {j} : PE X (.Constant .none j pos) (lE X.K B (eC .non)) := de_c pe_non fun _ => .non
theorem de_str {s j} : PE X (.Constant (.str s) j pos) (lE X.K B (eC (.str s))) := de_c pe_str fun _ => .str s
/-- a name of the module -/
theorem de_glob {x : Str} {v : V} {u : Value} {d : D} (hg : Gl X x) (hm : X.mg x = some u) (r : RelV v u) (hr : ∀ W, R X.K W v d) (hd : (x == ("__debug__" : Str)) = false := by decide) : PE X (.Name x pos) (lE X.K B (eC d)) := de_c (pe_glob hg hm r hd) hr
theorem de_ty {x : Str} {T : String} (hg : Gl X x) (hm : X.mg x = none) (hv : bootBuiltins x = some (.type T)) (hn : x ≠ "__name__" := by decide) (hd : (x == ("__debug__" : Str)) = false := by decide) : PE X (.Name x pos) (lE X.K B (eC (.raw (.ty T)))) :=
  de_c (pe_bltn (v := .ty T) hg hm hv rfl hn hd) fun _ => .raw _

/-! ### operators -/
/-- an operation by data -/
def OpD (K : PySem.W.Frag) (r : R2) (q : D → D → DE) : Prop := ∀ (W : Wd) (H : Hp) (σ : L2.St) (e : En) (x y : V) (d1 d2 : D) (P : D → En → Prop) (Q : VK), Sd K W H σ e → R K W x d1 → R K W y d2 → q d1 d2 e P →
  (∀ d e' W' H' v, P d e' → W.le W' → Sd K W' H' σ e' → R K W' v d → Q v H') → r x y H Q
def eBin (q : D → D → DE) (ta tb : DE) : DE := fun e P => ta e fun x e1 => tb e1 fun y e2 => q x y e2 P
theorem bin_ok {r : R2} {q : D → D → DE} (hq : OpD X.K r q) : ∀ σ H Q, lE X.K B (eBin q ta tb) σ H Q → tOp r (lE X.K B ta) (lE X.K B tb) σ H Q :=
  fun σ H Q ⟨W, e, P, bl, S, t, k⟩ => ⟨W, e, _, bl, S, t, fun x e1 W1 H1 v1 t1 l1 S1 r1 => ⟨W1, e1, _, (B.up bl l1), S1, t1, fun y e2 W2 H2 v2 t2 l2 S2 r2 =>
    hq W2 H2 σ e2 v1 v2 x y P Q S2 (R.mono l2 _ _ r1) r2 t2 fun d e3 W3 H3 v3 p l3 S3 r3 => k d e3 W3 H3 v3 p ((l1.tr l2).tr l3) S3 r3⟩⟩
theorem de_bin {op : Operator} {r : R2} {q : D → D → DE} (ho : OpR X (binaryOp op) r) (hq : OpD X.K r q) (ha : PE X a (lE X.K B ta)) (hb : PE X b (lE X.K B tb)) : PE X (.BinOp a op b pos) (lE X.K B (eBin q ta tb)) :=
  PE.imp (pe_op ho ha hb) (bin_ok hq)
theorem de_cmp {op : CmpOp} {r : R2} {q : D → D → DE} (ho : OpR X (compareOp op) r) (hq : OpD X.K r q) (ha : PE X a (lE X.K B ta)) (hb : PE X b (lE X.K B tb)) (hm : behindInMarks op b = false) : PE X (.Compare a [op] [b] pos) (lE X.K B (eBin q ta tb)) :=
  PE.imp (pe_cmpR ho ha hb hm) (bin_ok hq)
/-- a value that is a bool, as a test -/
def eTest (t : DE) : DT := fun e P => t e fun d e1 => ∃ k, d = .bl k ∧ P k e1
theorem R.bl_inv {K : PySem.W.Frag} {W : Wd} {v : V} {k : Bool} (r : R K W v (.bl k)) : v = .bl k := by cases r; rfl
theorem test_ok {t : TE} (h : ∀ σ H Q, lE X.K B te σ H Q → t σ H Q) : ∀ σ H Q, lT X.K B (eTest te) σ H Q → tTest t σ H Q :=
  fun σ H Q ⟨W, e, P, bl, S, t, k⟩ => h σ H _ ⟨W, e, _, bl, S, t, fun d e1 W1 H1 v ⟨kk, ed, p⟩ l1 S1 r1 => ⟨kk, by subst ed; exact r1.bl_inv, k kk e1 W1 H1 p l1 S1⟩⟩
theorem dt_cmp {op : CmpOp} {r : R2} {q : D → D → DE} (ho : OpR X (compareOp op) r) (hq : OpD X.K r q) (ha : PE X a (lE X.K B ta)) (hb : PE X b (lE X.K B tb)) (hm : behindInMarks op b = false) : PT X (.Compare a [op] [b] pos) (lT X.K B (eTest (eBin q ta tb))) :=
  PT.imp (pt_cmpR ho ha hb hm) (test_ok (bin_ok hq))
theorem dt_val {e : Expr} (h : PE X e (lE X.K B te)) (he : ∀ whole, isTrue e X.env whole = (do let v ← whole; standAt e.pos; holding [v] (truthy v)) := by intro _; rfl) : PT X e (lT X.K B (eTest te)) :=
  PT.imp (pt_val h he) (test_ok fun _ _ _ z => z)
/-- a op1 b op2 c -/
def eChain (q q' : D → D → DE) (ta tb tc : DE) : DE := fun e P => ta e fun x e1 => tb e1 fun y e2 => q x y e2 fun z e3 => ∃ k, z = .bl k ∧ if k = true then tc e3 fun w e4 => q' y w e4 P else P (.bl false) e3
theorem chain_ok {r r' : R2} {q q' : D → D → DE} (hq : OpD X.K r q) (hq' : OpD X.K r' q') : ∀ σ H Q, lE X.K B (eChain q q' ta tb tc) σ H Q → tChain r r' (lE X.K B ta) (lE X.K B tb) (lE X.K B tc) σ H Q :=
  fun σ H Q ⟨W, e, P, bl, S, t, k⟩ => ⟨W, e, _, bl, S, t, fun x e1 W1 H1 v1 t1 l1 S1 r1 => ⟨W1, e1, _, (B.up bl l1), S1, t1, fun y e2 W2 H2 v2 t2 l2 S2 r2 =>
    hq W2 H2 σ e2 v1 v2 x y _ _ S2 (R.mono l2 _ _ r1) r2 t2 fun z e3 W3 H3 v3 ⟨kk, ez, h3⟩ l3 S3 r3 => ⟨kk, by subst ez; exact r3.bl_inv, by
      have l13 := (l1.tr l2).tr l3
      cases kk with
      | false => exact iteF (k _ _ _ _ _ h3 l13 S3 (.bl false))
      | true => exact iteT ⟨W3, e3, _, (B.up bl l13), S3, h3, fun w e4 W4 H4 v4 t4 l4 S4 r4 => hq' W4 H4 σ e4 v2 v4 y w P Q S4 (R.mono (l3.tr l4) _ _ r2) r4 t4 fun d e5 W5 H5 v5 p l5 S5 r5 => k d e5 W5 H5 v5 p ((l13.tr l4).tr l5) S5 r5⟩⟩⟩⟩
theorem de_chain {op op' : CmpOp} {r r' : R2} {q q' : D → D → DE} (ho : OpR X (compareOp op) r) (ho' : OpR X (compareOp op') r') (hq : OpD X.K r q) (hq' : OpD X.K r' q') (ha : PE X a (lE X.K B ta)) (hb : PE X b (lE X.K B tb)) (hc : PE X c (lE X.K B tc))
    (hm : lastMarks [op, op'] [b, c] = false := by with_unfolding_all rfl) : PE X (.Compare a [op, op'] [b, c] pos) (lE X.K B (eChain q q' ta tb tc)) := PE.imp (pe_chain ho ho' ha hb hc hm) (chain_ok hq hq')
theorem dt_chain {op op' : CmpOp} {r r' : R2} {q q' : D → D → DE} (ho : OpR X (compareOp op) r) (ho' : OpR X (compareOp op') r') (hq : OpD X.K r q) (hq' : OpD X.K r' q') (ha : PE X a (lE X.K B ta)) (hb : PE X b (lE X.K B tb)) (hc : PE X c (lE X.K B tc))
    (hm : lastMarks [op, op'] [b, c] = false := by with_unfolding_all rfl) : PT X (.Compare a [op, op'] [b, c] pos) (lT X.K B (eTest (eChain q q' ta tb tc))) := PT.imp (pt_chain ho ho' ha hb hc hm) (test_ok (chain_ok hq hq'))

/-! the ops -/
def MulOk (i j : Int) : Prop := CMul i j ∨ CMulW i j
def FdivOk (i j : Int) : Prop := CDiv i j ∨ CDivW i j
theorem op_mulA : OpR X (binaryOp .Mult) (rI MulOk fun i j => .int (i * j)) := by
  intro pins s σ H x y v u Q I r1 r2 ⟨i, j, e1, e2, c, q⟩
  rcases c with c | c
  · exact op_mul pins s σ H x y v u Q I r1 r2 ⟨i, j, e1, e2, c, q⟩
  · exact op_mulW pins s σ H x y v u Q I r1 r2 ⟨i, j, e1, e2, c, q⟩
theorem op_fdivA : OpR X (binaryOp .FloorDiv) (rI FdivOk fun i j => .int (i / j)) := by
  intro pins s σ H x y v u Q I r1 r2 ⟨i, j, e1, e2, c, q⟩
  rcases c with c | c
  · exact op_fdiv pins s σ H x y v u Q I r1 r2 ⟨i, j, e1, e2, c, q⟩
  · exact op_fdivW pins s σ H x y v u Q I r1 r2 ⟨i, j, e1, e2, c, q⟩
def qSub : D → D → DE
  | .int i, .int j => fun e P => P (.int (i - j)) e
  | _, _ => fun _ _ => False
def qMul : D → D → DE
  | .int i, .int j => fun e P => MulOk i j ∧ P (.int (i * j)) e
  | _, _ => fun _ _ => False
def qFdiv : D → D → DE
  | .int i, .int j => fun e P => FdivOk i j ∧ P (.int (i / j)) e
  | _, _ => fun _ _ => False
def qMod : D → D → DE
  | .int i, .int j => fun e P => 0 < j ∧ P (.int (i % j)) e
  | _, _ => fun _ _ => False
def qPow : D → D → DE
  | .int i, .int j => fun e P => CPow i j ∧ P (.int (i ^ j.toNat)) e
  | _, _ => fun _ _ => False
def qAdd (o : Bool) : D → D → DE
  | .int i, .int j => fun e P => P (.int (i + j)) e
  | .str s, .str t => fun e P => s.length + t.length ≤ sizeLine ∧ P (.str (s ++ t)) e
  | .tup xs, .tup ys => fun e P => xs ≠ [] ∧ xs.length + ys.length ≤ sizeLine ∧ P (.tup (xs ++ ys)) e
  | x, y => fun e P => ∃ xs ys, lkP e.cs x = some xs ∧ lkP e.cs y = some ys ∧ xs.length + ys.length ≤ sizeLine ∧ newL o (xs ++ ys) e P
theorem R.int_inv {K : PySem.W.Frag} {W : Wd} {v : V} {k : Int} (r : R K W v (.int k)) : v = .int k := by cases r; rfl
theorem R.str_inv {K : PySem.W.Frag} {W : Wd} {v : V} {k : Str} (r : R K W v (.str k)) : v = .str k := by cases r; rfl
theorem R.non_inv {K : PySem.W.Frag} {W : Wd} {v : V} (r : R K W v .non) : v = .non := by cases r; rfl
theorem R.raw_inv {K : PySem.W.Frag} {W : Wd} {v u : V} (r : R K W v (.raw u)) : v = u := by cases r; rfl
theorem od_I0 {K : PySem.W.Frag} {f : Int → Int → D} {g : Int → Int → V} {q : D → D → DE} (hq : ∀ x y e P, q x y e P → ∃ i j, x = .int i ∧ y = .int j ∧ P (f i j) e) (hr : ∀ W i j, R K W (g i j) (f i j)) : OpD K (rI0 g) q := by
  intro W H σ e x y d1 d2 P Q S r1 r2 t k
  obtain ⟨i, j, rfl, rfl, t'⟩ := hq _ _ _ _ t
  exact ⟨i, j, r1.int_inv, r2.int_inv, k _ _ _ _ _ t' W.le_refl S (hr W i j)⟩
theorem od_I {K : PySem.W.Frag} {C : Int → Int → Prop} {f : Int → Int → D} {g : Int → Int → V} {q : D → D → DE} (hq : ∀ x y e P, q x y e P → ∃ i j, x = .int i ∧ y = .int j ∧ C i j ∧ P (f i j) e) (hr : ∀ W i j, R K W (g i j) (f i j)) : OpD K (rI C g) q := by
  intro W H σ e x y d1 d2 P Q S r1 r2 t k
  obtain ⟨i, j, rfl, rfl, c, t'⟩ := hq _ _ _ _ t
  exact ⟨i, j, r1.int_inv, r2.int_inv, c, k _ _ _ _ _ t' W.le_refl S (hr W i j)⟩
theorem od_sub {K : PySem.W.Frag} : OpD K (rI0 fun i j => .int (i - j)) qSub := od_I0 (f := fun i j => .int (i - j)) (fun x y e P h => by
  cases x <;> cases y <;> first | exact h.elim | exact ⟨_, _, rfl, rfl, h⟩) fun _ _ _ => .int _
theorem od_mul {K : PySem.W.Frag} : OpD K (rI MulOk fun i j => .int (i * j)) qMul := od_I (f := fun i j => .int (i * j)) (fun x y e P h => by
  cases x <;> cases y <;> first | exact h.elim | exact ⟨_, _, rfl, rfl, h⟩) fun _ _ _ => .int _
theorem od_fdiv {K : PySem.W.Frag} : OpD K (rI FdivOk fun i j => .int (i / j)) qFdiv := od_I (f := fun i j => .int (i / j)) (fun x y e P h => by
  cases x <;> cases y <;> first | exact h.elim | exact ⟨_, _, rfl, rfl, h⟩) fun _ _ _ => .int _
theorem od_mod {K : PySem.W.Frag} : OpD K (rI (fun _ j => 0 < j) fun i j => .int (i % j)) qMod := od_I (f := fun i j => .int (i % j)) (fun x y e P h => by
  cases x <;> cases y <;> first | exact h.elim | exact ⟨_, _, rfl, rfl, h⟩) fun _ _ _ => .int _
theorem od_pow {K : PySem.W.Frag} : OpD K (rI CPow fun i j => .int (i ^ j.toNat)) qPow := od_I (f := fun i j => .int (i ^ j.toNat)) (fun x y e P h => by
  cases x <;> cases y <;> first | exact h.elim | exact ⟨_, _, rfl, rfl, h⟩) fun _ _ _ => .int _
def rAddA (K : PySem.W.Frag) : R2 := fun x y H Q => (((rI0 fun i j => .int (i + j)) x y H Q ∨ (∃ i j, x = .str i ∧ y = .str j ∧ i.length + j.length ≤ sizeLine ∧ Q (.str (i ++ j)) H)) ∨ rCatT K x y H Q) ∨ rCat x y H Q
theorem op_addA : OpR X (binaryOp .Add) (rAddA X.K) := ((op_add.or op_add_str).or op_catT).or op_cat
theorem od_add {K : PySem.W.Frag} {o : Bool} : OpD K (rAddA K) (qAdd o) := by
  intro W H σ e x y d1 d2 P Q S r1 r2 t k
  have lists : (∃ xs ys, lkP e.cs d1 = some xs ∧ lkP e.cs d2 = some ys ∧ xs.length + ys.length ≤ sizeLine ∧ newL o (xs ++ ys) e P) → rAddA K x y H Q := fun ⟨xs, ys, e1, e2, hz, t⟩ => by
    obtain ⟨p1, vs, rfl, h1, q1⟩ := S.ok.lkP r1 e1
    obtain ⟨p2, ws, rfl, h2, q2⟩ := S.ok.lkP r2 e2
    exact .inr ⟨p1, p2, vs, ws, rfl, rfl, h1, h2, by rw [q1.length, q2.length]; exact hz, newL_ok S (q1.append q2) t k⟩
  unfold qAdd at t
  split at t
  · exact .inl (.inl (.inl ⟨_, _, r1.int_inv, r2.int_inv, k _ _ _ _ _ t W.le_refl S (.int _)⟩))
  · exact .inl (.inl (.inr ⟨_, _, r1.str_inv, r2.str_inv, t.1, k _ _ _ _ _ t.2 W.le_refl S (.str _)⟩))
  · obtain ⟨hne, hz, t⟩ := t
    cases r1 with
    | tup h1 q1 =>
      cases r2 with
      | tup h2 q2 =>
        refine .inl (.inr ⟨_, _, _, _, rfl, rfl, Evl.ex_t S.ok.ex h1, Evl.ex_t S.ok.ex h2, fun z => hne ?_, by rw [q1.length, q2.length]; exact hz, ?_⟩)
        · subst z; cases q1; rfl
        · exact ⟨fun z => k _ _ _ _ _ t W.le_refl S (by
            subst z; cases q2
            rw [List.append_nil]
            exact .tup h1 q1), fun _ => newT_ok S (q1.append q2) t k⟩
  · exact lists t
def qLt : D → D → DE
  | .int i, .int j => fun e P => P (.bl (decide (i < j))) e
  | _, _ => fun _ _ => False
def qLe : D → D → DE
  | .int i, .int j => fun e P => P (.bl (decide (i ≤ j))) e
  | _, _ => fun _ _ => False
def qGt : D → D → DE
  | .int i, .int j => fun e P => P (.bl (decide (j < i))) e
  | _, _ => fun _ _ => False
def qGe : D → D → DE
  | .int i, .int j => fun e P => P (.bl (decide (j ≤ i))) e
  | _, _ => fun _ _ => False
theorem od_lt {K : PySem.W.Frag} : OpD K (rI0 fun i j => .bl (decide (i < j))) qLt := od_I0 (f := fun i j => .bl (decide (i < j))) (fun x y e P h => by
  cases x <;> cases y <;> first | exact h.elim | exact ⟨_, _, rfl, rfl, h⟩) fun _ _ _ => .bl _
theorem od_le {K : PySem.W.Frag} : OpD K (rI0 fun i j => .bl (decide (i ≤ j))) qLe := od_I0 (f := fun i j => .bl (decide (i ≤ j))) (fun x y e P h => by
  cases x <;> cases y <;> first | exact h.elim | exact ⟨_, _, rfl, rfl, h⟩) fun _ _ _ => .bl _
theorem od_gt {K : PySem.W.Frag} : OpD K (rI0 fun i j => .bl (decide (j < i))) qGt := od_I0 (f := fun i j => .bl (decide (j < i))) (fun x y e P h => by
  cases x <;> cases y <;> first | exact h.elim | exact ⟨_, _, rfl, rfl, h⟩) fun _ _ _ => .bl _
theorem od_ge {K : PySem.W.Frag} : OpD K (rI0 fun i j => .bl (decide (j ≤ i))) qGe := od_I0 (f := fun i j => .bl (decide (j ≤ i))) (fun x y e P h => by
  cases x <;> cases y <;> first | exact h.elim | exact ⟨_, _, rfl, rfl, h⟩) fun _ _ _ => .bl _
end
end DL
namespace DL
open PySem PySem.Spec PyProof.Rows L2
open Evl (Ex)

/-! ### data that is compared -/
mutual
def toP : D → PyData
  | .non => .none
  | .bl b => .bool b
  | .int i => .int i
  | .str s => .str s
  | .tup xs => .tuple (toPs xs)
  | .lst xs => .list (toPs xs)
  | .fro xs => .list (toPs xs)
  | .ins _ _ _ => .none
  | .cell _ => .none
  | .dct => .none
  | .raw _ => .none
def toPs : List D → List PyData
  | [] => []
  | x :: xs => toP x :: toPs xs
end
mutual
def okD : D → Bool
  | .non => true
  | .bl _ => true
  | .int _ => true
  | .str _ => true
  | .tup xs => okDs xs
  | .lst xs => okDs xs
  | .fro xs => okDs xs
  | .ins _ _ _ => false
  | .cell _ => false
  | .dct => false
  | .raw _ => false
def okDs : List D → Bool
  | [] => true
  | x :: xs => okD x && okDs xs
end
def drf (cs : List Cel) : D → D
  | .cell n => match cs[n]? with
    | some (.lst xs) => .lst xs
    | _ => .cell n
  | .fro xs => .lst xs
  | d => d
def shp (d : D) : Bool := okD d && SeqAt.shaped (toP d)
section
variable {K : PySem.W.Frag} {W : Wd} {H : Hp} {cs : List Cel}
mutual
theorem R.dp (x : Ex W.F H) : ∀ (d : D) (v : V), R K W v d → okD d = true → Dp K H v (toP d)
  | .non, _, h, _ => by cases h; exact .non
  | .bl b, _, h, _ => by cases h; exact .bl b
  | .int i, _, h, _ => by cases h; exact .int i
  | .str s, _, h, _ => by cases h; exact .str s
  | .tup xs, _, h, o => by
    cases h with
    | tup hs ha => exact .tup (Evl.ex_t x hs) (RAll.dp x xs _ ha o)
  | .lst xs, _, h, o => by
    cases h with
    | lst hs ha => exact .lst (SqL.of (x _ _ hs)) (RAll.dp x xs _ ha o)
  | .fro xs, _, h, o => by
    cases h with
    | fro hs ha => exact .lst (Evl.ex_l x hs) (RAll.dp x xs _ ha o)
  | .ins _ _ _, _, _, o => by cases o
  | .cell _, _, _, o => by cases o
  | .dct, _, _, o => by cases o
  | .raw _, _, _, o => by cases o
theorem RAll.dp (x : Ex W.F H) : ∀ (ds : List D) (vs : List V), RAll K W vs ds → okDs ds = true → DpAll K H vs (toPs ds)
  | [], _, h, _ => by cases h; exact .nil
  | d :: ds, _, h, o => by
    cases h with
    | cons h1 h2 =>
      have o' : (okD d && okDs ds) = true := o
      rw [Bool.and_eq_true] at o'
      exact .cons (R.dp x d _ h1 o'.1) (RAll.dp x ds _ h2 o'.2)
end
theorem Ok.dp (h : Ok K W H cs) {d : D} {v : V} (r : R K W v d) (o : okD (drf cs d) = true) : Dp K H v (toP (drf cs d)) := by
  cases d with
  | cell n =>
    cases r with
    | cell hm =>
      unfold drf at o ⊢
      simp only at o ⊢
      split at o
      · rename_i xs hc
        obtain ⟨vs, h1, h2⟩ := h.cellL hm hc
        exact .lst (SqL.of h1) (RAll.dp' h2 o)
      · cases o
  | non => exact R.dp h.ex _ _ r o
  | bl b => exact R.dp h.ex _ _ r o
  | int i => exact R.dp h.ex _ _ r o
  | str s => exact R.dp h.ex _ _ r o
  | tup xs => exact R.dp h.ex _ _ r o
  | lst xs => exact R.dp h.ex _ _ r o
  | fro xs => exact R.dp h.ex (.fro xs) _ r o
  | dct => cases o
  | ins _ _ _ => exact R.dp h.ex _ _ r o
  | raw _ => exact R.dp h.ex _ _ r o
where
  RAll.dp' {vs : List V} {ds : List D} (h2 : RAll K W vs ds) (o : okDs ds = true) : DpAll K H vs (toPs ds) := RAll.dp h.ex ds vs h2 o
end
def qEq : D → D → DE
  | .int i, .int j => fun e P => P (.bl (decide (i = j))) e
  | x, y => fun e P => shp (drf e.cs x) = true ∧ shp (drf e.cs y) = true ∧ P (.bl (PyData.eqv (toP (drf e.cs x)) (toP (drf e.cs y)))) e
def qNe : D → D → DE
  | .int i, .int j => fun e P => P (.bl (!decide (i = j))) e
  | x, y => fun e P => shp (drf e.cs x) = true ∧ shp (drf e.cs y) = true ∧ P (.bl (!PyData.eqv (toP (drf e.cs x)) (toP (drf e.cs y)))) e
theorem shp_and {d : D} (h : shp d = true) : okD d = true ∧ SeqAt.shaped (toP d) = true := by
  have h' : (okD d && SeqAt.shaped (toP d)) = true := h
  rwa [Bool.and_eq_true] at h'
theorem od_eq {K : PySem.W.Frag} : OpD K (rEqD K) qEq := by
  intro W H σ e x y d1 d2 P Q S r1 r2 t k
  unfold qEq at t
  split at t
  · refine ⟨_, _, R.dp S.ok.ex _ _ r1 rfl, R.dp S.ok.ex _ _ r2 rfl, rfl, rfl, ?_⟩
    refine k _ _ _ _ _ t W.le_refl S ?_
    rename_i i j
    have e0 : PyData.eqv (toP (.int i)) (toP (.int j)) = decide (i = j) := Bool.beq_eq_decide_eq _ _
    rw [e0]
    exact .bl _
  · obtain ⟨h1, h2, t⟩ := t
    obtain ⟨o1, s1⟩ := shp_and h1
    obtain ⟨o2, s2⟩ := shp_and h2
    exact ⟨_, _, S.ok.dp r1 o1, S.ok.dp r2 o2, s1, s2, k _ _ _ _ _ t W.le_refl S (.bl _)⟩
theorem od_ne {K : PySem.W.Frag} : OpD K (rNeD K) qNe := by
  intro W H σ e x y d1 d2 P Q S r1 r2 t k
  unfold qNe at t
  split at t
  · refine ⟨_, _, R.dp S.ok.ex _ _ r1 rfl, R.dp S.ok.ex _ _ r2 rfl, rfl, rfl, ?_⟩
    refine k _ _ _ _ _ t W.le_refl S ?_
    rename_i i j
    have e0 : PyData.eqv (toP (.int i)) (toP (.int j)) = decide (i = j) := Bool.beq_eq_decide_eq _ _
    rw [e0]
    exact .bl _
  · obtain ⟨h1, h2, t⟩ := t
    obtain ⟨o1, s1⟩ := shp_and h1
    obtain ⟨o2, s2⟩ := shp_and h2
    exact ⟨_, _, S.ok.dp r1 o1, S.ok.dp r2 o2, s1, s2, k _ _ _ _ _ t W.le_refl S (.bl _)⟩

/-! is -/
def isN : D → Bool
  | .non => true
  | _ => false
def notRaw : D → Bool
  | .raw _ => false
  | _ => true
theorem R.isN {K : PySem.W.Frag} {W : Wd} {v : V} {d : D} (r : R K W v d) (n : notRaw d = true) : decide (v = .non) = isN d := by
  cases r <;> first | rfl | cases n
def qIs : D → D → DE
  | .bl a, .bl b => fun e P => P (.bl (decide (a = b))) e
  | x, y => fun e P => isN y = true ∧ notRaw x = true ∧ P (.bl (isN x)) e
def qIsNot : D → D → DE
  | .bl a, .bl b => fun e P => P (.bl (!decide (a = b))) e
  | x, y => fun e P => isN y = true ∧ notRaw x = true ∧ P (.bl (!isN x)) e
def rIsA : R2 := fun x y H Q => (y = .non ∧ Q (.bl (decide (x = .non))) H) ∨ L2.rIsB x y H Q
def rIsNotA : R2 := fun x y H Q => (y = .non ∧ Q (.bl (!decide (x = .non))) H) ∨ L2.rNotB x y H Q
theorem op_isA {X : Cx} : OpR X (compareOp .Is) rIsA := op_isN.or op_isBl
theorem op_isNotA {X : Cx} : OpR X (compareOp .IsNot) rIsNotA := op_notN.or op_notBl
theorem isN_of {d : D} (h : isN d = true) : d = .non := by cases d <;> first | rfl | cases h
theorem od_is {K : PySem.W.Frag} : OpD K rIsA qIs := by
  intro W H σ e x y d1 d2 P Q S r1 r2 t k
  unfold qIs at t
  split at t
  · exact .inr ⟨_, _, r1.bl_inv, r2.bl_inv, k _ _ _ _ _ t W.le_refl S (.bl _)⟩
  · obtain ⟨h1, h2, t⟩ := t
    cases isN_of h1
    refine .inl ⟨r2.non_inv, ?_⟩
    rw [r1.isN h2]
    exact k _ _ _ _ _ t W.le_refl S (.bl _)
theorem od_isNot {K : PySem.W.Frag} : OpD K rIsNotA qIsNot := by
  intro W H σ e x y d1 d2 P Q S r1 r2 t k
  unfold qIsNot at t
  split at t
  · exact .inr ⟨_, _, r1.bl_inv, r2.bl_inv, k _ _ _ _ _ t W.le_refl S (.bl _)⟩
  · obtain ⟨h1, h2, t⟩ := t
    cases isN_of h1
    refine .inl ⟨r2.non_inv, ?_⟩
    rw [r1.isN h2]
    exact k _ _ _ _ _ t W.le_refl S (.bl _)

/-! ### and, or, not, if -/
def dAnd (t u : DT) : DT := fun e P => t e fun c e1 => if c = true then u e1 P else P false e1
def dOr (t u : DT) : DT := fun e P => t e fun c e1 => if c = true then P true e1 else u e1 P
def dNot (t : DT) : DT := fun e P => t e fun c e1 => P (!c) e1
def eAnd (ta tb : DE) : DE := fun e P => ta e fun x e1 => ∃ c, x = .bl c ∧ if c = true then tb e1 P else P (.bl false) e1
def eOr (ta tb : DE) : DE := fun e P => ta e fun x e1 => ∃ c, x = .bl c ∧ if c = true then P (.bl true) e1 else tb e1 P
def eNot (ta : DE) : DE := fun e P => ta e fun x e1 => ∃ c, x = .bl c ∧ P (.bl (!c)) e1
def eIf (t : DT) (ta tb : DE) : DE := fun e P => t e fun c e1 => if c = true then ta e1 P else tb e1 P
section
variable {X : Cx} {B : Bs} {a b c ex : Expr} {pos : Pos} {ta tb te : DE} {t u : DT} {rest : List Expr}
theorem dw_and1 (ha : PT X a (lT X.K B t)) : PW X (.BoolOp .And [a] pos) (lT X.K B t) := pw_and1 ha
theorem dw_or1 (ha : PT X a (lT X.K B t)) : PW X (.BoolOp .Or [a] pos) (lT X.K B t) := pw_or1 ha
theorem dw_and (ha : PT X a (lT X.K B t)) (hb : PW X (.BoolOp .And (b :: rest) pos) (lT X.K B u)) : PW X (.BoolOp .And (a :: b :: rest) pos) (lT X.K B (dAnd t u)) :=
  PW.imp (pw_and ha hb) fun σ H Q ⟨W, e, P, bl, S, t, k⟩ => ⟨W, e, _, bl, S, t, fun c e1 W1 H1 h1 l1 S1 => by
    cases c with
    | true => exact iteT ⟨W1, e1, _, (B.up bl l1), S1, h1, fun c2 e2 W2 H2 p l2 S2 => k c2 e2 W2 H2 p (l1.tr l2) S2⟩
    | false => exact iteF (k _ _ _ _ h1 l1 S1)⟩
theorem dw_or (ha : PT X a (lT X.K B t)) (hb : PW X (.BoolOp .Or (b :: rest) pos) (lT X.K B u)) : PW X (.BoolOp .Or (a :: b :: rest) pos) (lT X.K B (dOr t u)) :=
  PW.imp (pw_or ha hb) fun σ H Q ⟨W, e, P, bl, S, t, k⟩ => ⟨W, e, _, bl, S, t, fun c e1 W1 H1 h1 l1 S1 => by
    cases c with
    | true => exact iteT (k _ _ _ _ h1 l1 S1)
    | false => exact iteF ⟨W1, e1, _, (B.up bl l1), S1, h1, fun c2 e2 W2 H2 p l2 S2 => k c2 e2 W2 H2 p (l1.tr l2) S2⟩⟩
theorem dt_not (ha : PT X a (lT X.K B t)) : PT X (.UnaryOp .Not a pos) (lT X.K B (dNot t)) :=
  PT.imp (pt_not ha) fun σ H Q ⟨W, e, P, bl, S, t, k⟩ => ⟨W, e, _, bl, S, t, fun c e1 W1 H1 h1 l1 S1 => k _ _ _ _ h1 l1 S1⟩
theorem de_one {op} (h : PE X a (lE X.K B te)) : PE X (.BoolOp op [a] pos) (lE X.K B te) := pe_one h
theorem de_and (ha : PE X a (lE X.K B ta)) (hb : PE X (.BoolOp .And (b :: rest) pos) (lE X.K B tb)) : PE X (.BoolOp .And (a :: b :: rest) pos) (lE X.K B (eAnd ta tb)) :=
  PE.imp (pe_and ha hb) fun σ H Q ⟨W, e, P, bl, S, t, k⟩ => ⟨W, e, _, bl, S, t, fun x e1 W1 H1 v ⟨c, ex, h1⟩ l1 S1 r1 => ⟨c, by subst ex; exact r1.bl_inv, by
    cases c with
    | true => exact iteT ⟨W1, e1, _, (B.up bl l1), S1, h1, fun d e2 W2 H2 v2 p l2 S2 r2 => k d e2 W2 H2 v2 p (l1.tr l2) S2 r2⟩
    | false => exact iteF (k _ _ _ _ _ h1 l1 S1 (.bl _))⟩⟩
theorem de_or (ha : PE X a (lE X.K B ta)) (hb : PE X (.BoolOp .Or (b :: rest) pos) (lE X.K B tb)) : PE X (.BoolOp .Or (a :: b :: rest) pos) (lE X.K B (eOr ta tb)) :=
  PE.imp (pe_or ha hb) fun σ H Q ⟨W, e, P, bl, S, t, k⟩ => ⟨W, e, _, bl, S, t, fun x e1 W1 H1 v ⟨c, ex, h1⟩ l1 S1 r1 => ⟨c, by subst ex; exact r1.bl_inv, by
    cases c with
    | true => exact iteT (k _ _ _ _ _ h1 l1 S1 (.bl _))
    | false => exact iteF ⟨W1, e1, _, (B.up bl l1), S1, h1, fun d e2 W2 H2 v2 p l2 S2 r2 => k d e2 W2 H2 v2 p (l1.tr l2) S2 r2⟩⟩⟩
theorem de_not (ha : PE X a (lE X.K B ta)) : PE X (.UnaryOp .Not a pos) (lE X.K B (eNot ta)) :=
  PE.imp (pe_not ha) fun σ H Q ⟨W, e, P, bl, S, t, k⟩ => ⟨W, e, _, bl, S, t, fun x e1 W1 H1 v ⟨c, ex, h1⟩ l1 S1 r1 => ⟨c, by subst ex; exact r1.bl_inv, k _ _ _ _ _ h1 l1 S1 (.bl _)⟩⟩
theorem de_if (hc : PT X c (lT X.K B t)) (ha : PE X a (lE X.K B ta)) (hb : PE X b (lE X.K B tb)) : PE X (.IfExp c a b pos) (lE X.K B (eIf t ta tb)) :=
  PE.imp (pe_ifExp hc ha hb) fun σ H Q ⟨W, e, P, bl, S, t, k⟩ => ⟨W, e, _, bl, S, t, fun c e1 W1 H1 h1 l1 S1 => by
    cases c with
    | true => exact iteT ⟨W1, e1, _, (B.up bl l1), S1, h1, fun d e2 W2 H2 v2 p l2 S2 r2 => k d e2 W2 H2 v2 p (l1.tr l2) S2 r2⟩
    | false => exact iteF ⟨W1, e1, _, (B.up bl l1), S1, h1, fun d e2 W2 H2 v2 p l2 S2 r2 => k d e2 W2 H2 v2 p (l1.tr l2) S2 r2⟩⟩
/-- a value of any kind, by its truth -/
def tru (cs : List Cel) : D → Option Bool
  | .non => some false
  | .bl b => some b
  | .int i => some (i != 0)
  | .str s => if s.length ≤ sizeLine then some ((s.length : Int) != 0) else none
  | .tup xs => some (!xs.isEmpty)
  | d => (lk cs d).map fun xs => !xs.isEmpty
def eTru (t : DE) : DT := fun e P => t e fun d e1 => ∃ k, tru e1.cs d = some k ∧ P k e1
theorem RAll.isEmpty {K : PySem.W.Frag} {W : Wd} {vs : List V} {ds : List D} (r : RAll K W vs ds) : vs.isEmpty = ds.isEmpty := by cases r <;> rfl
theorem tru_ok {K : PySem.W.Frag} {W : Wd} {H : Hp} {cs : List Cel} (h : Ok K W H cs) {d : D} {v : V} {k : Bool} (r : R K W v d) (e : tru cs d = some k) : TruV K v H k := by
  have lst : ∀ {xs}, lk cs d = some xs → k = (!xs.isEmpty) → TruV K v H k := fun {xs} e1 e2 => by
    obtain ⟨a, vs, rfl, h1, h2⟩ := h.lk r e1
    exact .inl ⟨vs, h1, by rw [e2, h2.isEmpty]⟩
  unfold tru at e
  split at e
  · cases e; cases r; rfl
  · cases e; cases r; rfl
  · cases e; cases r; rfl
  · cases r
    split at e
    · cases e; exact ⟨by assumption, rfl⟩
    · cases e
  · cases e
    cases r with
    | tup h1 h2 => exact .inr (.inl ⟨_, Evl.ex_t h.ex h1, by rw [h2.isEmpty]⟩)
  · obtain ⟨xs, e1, e2⟩ := Option.map_eq_some_iff.mp e
    exact lst e1 e2.symm
theorem dt_tru (ha : PE X a (lE X.K B ta)) (he : ∀ whole, isTrue a X.env whole = (do let v ← whole; standAt a.pos; holding [v] (truthy v)) := by intro _; rfl) : PT X a (lT X.K B (eTru ta)) :=
  PT.imp (pt_truth ha he) fun σ H Q ⟨W, e, P, bl, S, t, k⟩ => ⟨W, e, _, bl, S, t, fun d e1 W1 H1 v ⟨kk, et, p⟩ l1 S1 r1 => ⟨kk, tru_ok S1.ok r1 et, k _ _ _ _ p l1 S1⟩⟩

/-! ### arguments, displays -/
def aNil : DA := fun e P => P [] e
def aCons (te : DE) (tr : DA) : DA := fun e P => te e fun d e1 => tr e1 fun ds e2 => P (d :: ds) e2
variable {es : List Expr} {tr : DA}
theorem da_nil : PA X [] (lA X.K B aNil) := PA.imp pa_nil fun σ H Q ⟨W, e, P, bl, S, t, k⟩ => k [] e W H [] t W.le_refl S .nil
theorem da_cons (ha : PE X ex (lE X.K B te)) (hr : PA X es (lA X.K B tr)) (hs : starEach (ex :: es) X.env = (false, eval ex X.env) :: starEach es X.env := by rfl) : PA X (ex :: es) (lA X.K B (aCons te tr)) :=
  PA.imp (pa_cons ha hr hs) fun σ H Q ⟨W, e, P, bl, S, t, k⟩ => ⟨W, e, _, bl, S, t, fun d e1 W1 H1 v t1 l1 S1 r1 => ⟨W1, e1, _, (B.up bl l1), S1, t1, fun ds e2 W2 H2 vs p l2 S2 r2 => k _ _ _ _ _ p (l1.tr l2) S2 (.cons (R.mono l2 _ _ r1) r2)⟩⟩
def eTup (ta : DA) : DE := fun e P => ta e fun ds e1 => ds.length ≤ sizeLine ∧ P (.tup ds) e1
def eLst (o : Bool) (ta : DA) : DE := fun e P => ta e fun ds e1 => ds.length ≤ sizeLine ∧ newL o ds e1 P
theorem de_tup {x1} (h : PA X es (lA X.K B tr)) : PE X (.Tuple es x1 pos) (lE X.K B (eTup tr)) :=
  PE.imp (pe_tup h) fun σ H Q ⟨W, e, P, bl, S, t, k⟩ => ⟨W, e, _, bl, S, t, fun ds e1 W1 H1 vs ⟨hz, p⟩ l1 S1 r1 => ⟨by rw [r1.length]; exact hz, newT_ok S1 r1 p fun d e2 W2 H2 v p l2 S2 r2 => k d e2 W2 H2 v p (l1.tr l2) S2 r2⟩⟩
theorem de_lst {o : Bool} (h : PA X es (lA X.K B tr)) : PE X (.List es pos) (lE X.K B (eLst o tr)) :=
  PE.imp (pe_lst h) fun σ H Q ⟨W, e, P, bl, S, t, k⟩ => ⟨W, e, _, bl, S, t, fun ds e1 W1 H1 vs ⟨hz, p⟩ l1 S1 r1 => ⟨by rw [r1.length]; exact hz, newL_ok S1 r1 p fun d e2 W2 H2 v p l2 S2 r2 => k d e2 W2 H2 v p (l1.tr l2) S2 r2⟩⟩
end

/-! ### items and slices -/
def qIx : D → D → DE
  | .tup xs, .int i => fun e P => ∃ d, atI xs i = some d ∧ P d e
  | .str z, .int i => fun e P => z.length ≤ sizeLine ∧ ∃ c, atI z.cps.toList i = some c ∧ P (.str ⟨#[c]⟩) e
  | x, .int i => fun e P => ∃ xs, lk e.cs x = some xs ∧ ∃ d, atI xs i = some d ∧ P d e
  | _, _ => fun _ _ => False
theorem RAll.atI {K : PySem.W.Frag} {W : Wd} {vs : List V} {ds : List D} {i : Int} {d : D} (r : RAll K W vs ds) (h : L2.atI ds i = some d) : ∃ v, L2.atI vs i = some v ∧ R K W v d := by
  unfold L2.atI at h ⊢
  rw [r.length]
  cases e : ixN ds.length i with
  | none => rw [e] at h; cases h
  | some j =>
    rw [e] at h
    exact r.get h
theorem od_ix {K : PySem.W.Frag} : OpD K (rIx K) qIx := by
  intro W H σ e x y d1 d2 P Q S r1 r2 t k
  unfold qIx at t
  split at t
  · obtain ⟨d, h, p⟩ := t
    cases r1 with
    | tup h1 q1 =>
      obtain ⟨v, hv, rv⟩ := q1.atI h
      exact .inr (.inl ⟨_, _, _, v, rfl, r2.int_inv, Evl.ex_t S.ok.ex h1, hv, k _ _ _ _ _ p W.le_refl S rv⟩)
  · obtain ⟨hz, c, h, p⟩ := t
    exact .inr (.inr ⟨_, _, c, r1.str_inv, r2.int_inv, hz, h, k _ _ _ _ _ p W.le_refl S (.str _)⟩)
  · obtain ⟨xs, e1, d, h, p⟩ := t
    obtain ⟨a, vs, rfl, h1, q1⟩ := S.ok.lk r1 e1
    obtain ⟨v, hv, rv⟩ := q1.atI h
    exact .inl ⟨_, _, _, v, rfl, r2.int_inv, h1, hv, k _ _ _ _ _ p W.le_refl S rv⟩
  · exact t.elim
section
variable {X : Cx} {B : Bs} {a b ex : Expr} {pos : Pos} {ta tb te : DE}
theorem de_ix (ha : PE X a (lE X.K B ta)) (hb : PE X b (lE X.K B tb)) (hs : PlainIx b) : PE X (.Subscript a b pos) (lE X.K B (eBin qIx ta tb)) := PE.imp (pe_ix ix_seq ha hb hs) (bin_ok od_ix)
abbrev DO := En → (Option Int → En → Prop) → Prop
def lO (K : PySem.W.Frag) (B : Bs) (t : DO) : TO := fun σ H Q => ∃ W e P, B.p W ∧ Sd K W H σ e ∧ t e P ∧ ∀ o e' W' H', P o e' → W.le W' → Sd K W' H' σ e' → Q o H'
theorem PO.imp {e : Option Expr} {t t' : TO} (h : PO X e t) (i : ∀ σ H Q, t' σ H Q → t σ H Q) : PO X e t' := ⟨fun pins s σ H Q I w => h.run pins s σ H Q I (i σ H Q w)⟩
def oNone : DO := fun e P => P none e
def oSome (t : DE) : DO := fun e P => t e fun d e1 => ∃ i, d = .int i ∧ P (some i) e1
theorem do_none : PO X none (lO X.K B oNone) := PO.imp po_none fun σ H Q ⟨W, e, P, bl, S, t, k⟩ => k none e W H t W.le_refl S
theorem do_some (h : PE X ex (lE X.K B te)) : PO X (some ex) (lO X.K B (oSome te)) := PO.imp (po_some h) fun σ H Q ⟨W, e, P, bl, S, t, k⟩ =>
  ⟨W, e, _, bl, S, t, fun d e1 W1 H1 v ⟨i, ed, p⟩ l1 S1 r1 => ⟨i, by subst ed; exact r1.int_inv, k _ _ _ _ p l1 S1⟩⟩
def cutD (xs : List D) (loD hi : Option Int) : List D := (xs.drop (HT.sIx xs.length 0 loD)).take (HT.sIx xs.length xs.length hi - HT.sIx xs.length 0 loD)
theorem RAll.cut {K : PySem.W.Frag} {W : Wd} {vs : List V} {ds : List D} {loD hi : Option Int} (r : RAll K W vs ds) : RAll K W (cutV vs loD hi) (cutD ds loD hi) := by
  unfold cutV cutD
  rw [r.length]
  exact (r.drop _).take _
def qSl (o : Bool) : D → Option Int → Option Int → DE
  | .tup xs, loD, hi => fun e P => ¬ (HT.sIx xs.length 0 loD = 0 ∧ HT.sIx xs.length xs.length hi = xs.length) ∧ P (.tup (cutD xs loD hi)) e
  | .str z, loD, hi => fun e P => z.length ≤ sizeLine ∧ P (.str (cutS z loD hi)) e
  | x, loD, hi => fun e P => ∃ xs, lk e.cs x = some xs ∧ newL o (cutD xs loD hi) e P
def rSlA (K : PySem.W.Frag) : V → Option Int → Option Int → Hp → VK → Prop := fun x loD hi H Q => (rSlL K x loD hi H Q ∨ rSlT K x loD hi H Q) ∨ rSlS x loD hi H Q
theorem sl_A : SlR X (rSlA X.K) := (sl_list.or sl_tup).or sl_str
theorem qSl_ok {K : PySem.W.Frag} {W : Wd} {H : Hp} {σ : L2.St} {e : En} {o : Bool} {d : D} {v : V} {loD hi : Option Int} {P : D → En → Prop} {Q : VK} (S : Sd K W H σ e) (r : R K W v d) (t : qSl o d loD hi e P)
    (k : ∀ d e' W' H' v, P d e' → W.le W' → Sd K W' H' σ e' → R K W' v d → Q v H') : rSlA K v loD hi H Q := by
  unfold qSl at t
  split at t
  · cases r with
    | tup h1 q1 => exact .inl (.inr ⟨_, _, rfl, Evl.ex_t S.ok.ex h1, by rw [q1.length]; exact t.1, newT_ok S q1.cut t.2 k⟩)
  · cases r
    exact .inr ⟨_, rfl, t.1, k _ _ _ _ _ t.2 W.le_refl S (.str _)⟩
  · obtain ⟨xs, e1, t⟩ := t
    obtain ⟨a, vs, rfl, h1, q1⟩ := S.ok.lk r e1
    exact .inl (.inl ⟨_, _, rfl, h1, newL_ok S q1.cut t k⟩)
def eSl (o : Bool) (te : DE) (tl th : DO) : DE := fun e P => te e fun x e1 => tl e1 fun l e2 => th e2 fun h e3 => qSl o x l h e3 P
theorem de_slice {o : Bool} {loD hi : Option Expr} {tl th : DO} {p2} (he : PE X ex (lE X.K B te)) (hl : PO X loD (lO X.K B tl)) (hu : PO X hi (lO X.K B th)) : PE X (.Subscript ex (.Slice loD hi none p2) pos) (lE X.K B (eSl o te tl th)) :=
  PE.imp (pe_slice sl_A he hl hu) fun σ H Q ⟨W, e, P, bl, S, t, k⟩ => ⟨W, e, _, bl, S, t, fun x e1 W1 H1 v t1 l1 S1 r1 => ⟨W1, e1, _, (B.up bl l1), S1, t1, fun l e2 W2 H2 t2 l2 S2 => ⟨W2, e2, _, (B.up bl (l1.tr l2)), S2, t2, fun h e3 W3 H3 t3 l3 S3 =>
    qSl_ok S3 (R.mono (l2.tr l3) _ _ r1) t3 fun d e4 W4 H4 v4 p l4 S4 r4 => k d e4 W4 H4 v4 p (((l1.tr l2).tr l3).tr l4) S4 r4⟩⟩⟩
/-- xs[::-1] -/
def eRev (o : Bool) (te : DE) : DE := fun e P => te e fun x e1 => ∃ xs, lk e1.cs x = some xs ∧ newL o xs.reverse e1 P
theorem de_rev {o : Bool} {k : Nat} {p1 p2 p3 : Pos} (he : PE X ex (lE X.K B te)) : PE X (.Subscript ex (.Slice none none (some (.UnaryOp .USub (.Constant (.int 1) k p1) p2)) p3) pos) (lE X.K B (eRev o te)) :=
  PE.imp (pe_revL he) fun σ H Q ⟨W, e, P, bl, S, t, k⟩ => ⟨W, e, _, bl, S, t, fun x e1 W1 H1 v ⟨xs, e2, t1⟩ l1 S1 r1 => by
    obtain ⟨a, vs, rfl, h1, q1⟩ := S1.ok.lk r1 e2
    exact ⟨a, vs, rfl, h1, newL_ok S1 q1.reverse t1 fun d e4 W4 H4 v4 p l4 S4 r4 => k d e4 W4 H4 v4 p (l1.tr l4) S4 r4⟩⟩
end
end DL
namespace DL
open PySem PySem.Spec PyProof.Rows L2
open Evl (Ex)

/-! ### statements -/
/-- the wanted ends, by data and by values -/
structure Cv (K : PySem.W.Frag) (W : Wd) (P : Po) (E : Ends) : Prop where
  nx : ∀ e' W' H' σ', P.nx e' → W.le W' → Sd K W' H' σ' e' → E.nx σ' H'
  rt : ∀ d cs W' H' v, P.rt d cs → W.le W' → Ok K W' H' cs → R K W' v d → E.rt v H'
  bk : ∀ e' W' H' σ', P.bk e' → W.le W' → Sd K W' H' σ' e' → E.bk σ' H'
  ct : ∀ e' W' H' σ', P.ct e' → W.le W' → Sd K W' H' σ' e' → E.ct σ' H'
theorem Cv.up {K : PySem.W.Frag} {W W1 : Wd} {P : Po} {E : Ends} (c : Cv K W P E) (l : W.le W1) : Cv K W1 P E :=
  ⟨fun e' W' H' σ' p l' S => c.nx e' W' H' σ' p (l.tr l') S, fun d cs W' H' v p l' S r => c.rt d cs W' H' v p (l.tr l') S r, fun e' W' H' σ' p l' S => c.bk e' W' H' σ' p (l.tr l') S, fun e' W' H' σ' p l' S => c.ct e' W' H' σ' p (l.tr l') S⟩
theorem lS_mk {K : PySem.W.Frag} {B : Bs} {W : Wd} {t : DS} {E : Ends} {σ : L2.St} {H : Hp} {e : En} {P : Po} (bl : B.p W) (S : Sd K W H σ e) (h : t P e) (c : Cv K W P E) : lS K B t E σ H := ⟨W, e, P, bl, S, h, c.nx, c.rt, c.bk, c.ct⟩
theorem lS_un {K : PySem.W.Frag} {B : Bs} {t : DS} {E : Ends} {σ : L2.St} {H : Hp} (h : lS K B t E σ H) : ∃ W e P, B.p W ∧ Sd K W H σ e ∧ t P e ∧ Cv K W P E := by
  obtain ⟨W, e, P, bl, S, h, c1, c2, c3, c4⟩ := h
  exact ⟨W, e, P, bl, S, h, c1, c2, c3, c4⟩

/-- behind it u -/
def Po.thn (P : Po) (u : DS) : Po := { P with nx := u P }
/-- a loop's turn: from it N, a break to what follows -/
def Po.lp (P : Po) (N : En → Prop) : Po := { P with nx := N, ct := N, bk := P.nx }
def sNext : DS := fun P e => P.nx e
def sSeq (t u : DS) : DS := fun P e => t (P.thn u) e
def sDrop (t : DE) : DS := fun P e => t e fun _ e1 => P.nx e1
def sRet (t : DE) : DS := fun P e => t e fun d e1 => P.rt d e1.cs
def sRetN : DS := fun P e => P.rt .non e.cs
def sIf (c : DT) (t u : DS) : DS := fun P e => c e fun b e1 => if b = true then t P e1 else u P e1
def sBreak : DS := fun P e => P.bk e
def sCont : DS := fun P e => P.ct e
def sNever : DS := fun _ _ => False
def sAsg (t : DE) (i : Nat) : DS := fun P e => t e fun d e1 => P.nx { e1 with sl := e1.sl.set i (some d) }
/-- o[i] = v, o a list that changes -/
def sSub (tv to ti : DE) : DS := fun P e => tv e fun v e1 => to e1 fun o e2 => ti e2 fun i e3 => ∃ n xs k j, o = .cell n ∧ e3.cs[n]? = some (.lst xs) ∧ i = .int k ∧ ixN xs.length k = some j ∧ P.nx { e3 with cs := e3.cs.set n (.lst (xs.set j v)) }
def sAug (i : Nat) (t : DE) : DS := fun P e => ∃ a, e.sl[i]? = some (some (.int a)) ∧ t e fun d e1 => ∃ b, d = .int b ∧ P.nx { e1 with sl := e1.sl.set i (some (.int (a + b))) }
def sAugSub (i : Nat) (t : DE) : DS := fun P e => ∃ a, e.sl[i]? = some (some (.int a)) ∧ t e fun d e1 => ∃ b, d = .int b ∧ P.nx { e1 with sl := e1.sl.set i (some (.int (a - b))) }
section
variable {X : Cx} {B : Bs} {st : Stmt} {rest : List Stmt} {t u : DS} {ex a : Expr} {te ta tb tc : DE} {dt : DT} {pos : Pos} {K : PySem.W.Frag}
theorem dss_nil : PSs X [] (lS X.K B sNext) := PSs.imp pss_nil fun E σ H h => by
  obtain ⟨W, e, P, bl, S, h, c⟩ := lS_un h
  exact c.nx e W H σ h W.le_refl S
theorem dss_cons (h1 : PS X st (lS X.K B t)) (h2 : PSs X rest (lS X.K B u)) : PSs X (st :: rest) (lS X.K B (sSeq t u)) := PSs.imp (pss_cons h1 h2) fun E σ H h => by
  obtain ⟨W, e, P, bl, S, h, c⟩ := lS_un h
  exact lS_mk bl S h ⟨fun e' W' H' σ' p l S' => lS_mk ((B.up bl l)) S' p (c.up l), c.rt, c.bk, c.ct⟩
theorem dss_one (h1 : PS X st (lS X.K B t)) : PSs X [st] (lS X.K B t) := pss_one h1
theorem ds_pass : PS X (.Pass pos) (lS X.K B sNext) := PS.imp ps_pass fun E σ H h => by
  obtain ⟨W, e, P, bl, S, h, c⟩ := lS_un h
  exact c.nx e W H σ h W.le_refl S
theorem ds_break : PS X (.Break pos) (lS X.K B sBreak) := PS.imp ps_break fun E σ H h => by
  obtain ⟨W, e, P, bl, S, h, c⟩ := lS_un h
  exact c.bk e W H σ h W.le_refl S
theorem ds_continue : PS X (.Continue pos) (lS X.K B sCont) := PS.imp ps_continue fun E σ H h => by
  obtain ⟨W, e, P, bl, S, h, c⟩ := lS_un h
  exact c.ct e W H σ h W.le_refl S
theorem ds_never : PS X st (lS X.K B sNever) := PS.imp ps_never fun E σ H h => by
  obtain ⟨W, e, P, bl, S, h, c⟩ := lS_un h
  exact h
theorem dss_never : PSs X rest (lS X.K B sNever) := PSs.imp pss_never fun E σ H h => by
  obtain ⟨W, e, P, bl, S, h, c⟩ := lS_un h
  exact h
theorem ds_expr (he : PE X ex (lE X.K B te)) (hs : swapsWith ex none pos.line X.env = pure false := by rfl) : PS X (.Expr ex pos) (lS X.K B (sDrop te)) := PS.imp (ps_expr he hs) fun E σ H h => by
  obtain ⟨W, e, P, bl, S, h, c⟩ := lS_un h
  exact ⟨W, e, _, bl, S, h, fun d e1 W1 H1 v p l S1 r => c.nx _ _ _ _ p l S1⟩
theorem ds_ret (he : PE X ex (lE X.K B te)) : PS X (.Return (some ex) pos) (lS X.K B (sRet te)) := PS.imp (ps_ret he) fun E σ H h => by
  obtain ⟨W, e, P, bl, S, h, c⟩ := lS_un h
  exact ⟨W, e, _, bl, S, h, fun d e1 W1 H1 v p l S1 r => c.rt _ _ _ _ _ p l S1.ok r⟩
theorem ds_retN : PS X (.Return none pos) (lS X.K B sRetN) := PS.imp ps_retN fun E σ H h => by
  obtain ⟨W, e, P, bl, S, h, c⟩ := lS_un h
  exact c.rt _ _ _ _ _ h W.le_refl S.ok .non
theorem ds_if {c : Expr} {ss us : List Stmt} (hc : PT X c (lT X.K B dt)) (ha : PSs X ss (lS X.K B t)) (hb : PSs X us (lS X.K B u)) : PS X (.If c ss us pos) (lS X.K B (sIf dt t u)) := PS.imp (ps_if hc ha hb) fun E σ H h => by
  obtain ⟨W, e, P, bl, S, h, c⟩ := lS_un h
  refine ⟨W, e, _, bl, S, h, fun b e1 W1 H1 p l S1 => ?_⟩
  cases b with
  | true => exact iteT (lS_mk ((B.up bl l)) S1 p (c.up l))
  | false => exact iteF (lS_mk ((B.up bl l)) S1 p (c.up l))
theorem asg_ok {i : Nat} : ∀ E σ H, lS X.K B (sAsg te i) E σ H → tAsg (lE X.K B te) (gName i) E σ H := fun E σ H h => by
  obtain ⟨W, e, P, bl, S, h, c⟩ := lS_un h
  exact ⟨W, e, _, bl, S, h, fun d e1 W1 H1 v p l S1 r => c.nx _ _ _ _ p l ⟨S1.ok, S1.sl.set r⟩⟩
theorem ds_set {i : Nat} {x : Str} {pos' : Pos} (hN : X.N.Nodup) (hi : X.N[i]? = some x) (hx : Loc X.env.scope x) (he : PE X ex (lE X.K B te)) (hs : swapsWith ex (some (.Name x pos')) pos.line X.env = pure false := by rfl)
    (hf : X.fn x = true ∨ X.env.scope.names.lookup x = some .local := by first | exact .inl rfl | exact .inr rfl | assumption) : PS X (.Assign [.Name x pos'] ex pos) (lS X.K B (sAsg te i)) := PS.imp (ps_set hN hi hx he hs hf) asg_ok
theorem ds_aug {i : Nat} {x : Str} {pos' : Pos} (hN : X.N.Nodup) (hi : X.N[i]? = some x) (hx : Loc X.env.scope x) (he : PE X ex (lE X.K B te))
    (hf : X.fn x = true ∨ X.env.scope.names.lookup x = some .local := by first | exact .inl rfl | exact .inr rfl | assumption) : PS X (.AugAssign (.Name x pos') .Add ex pos) (lS X.K B (sAug i te)) := PS.imp (ps_aug hN hi hx he ip_add hf) fun E σ H h => by
  obtain ⟨W, e, P, bl, S, ⟨a, ha, h⟩, c⟩ := lS_un h
  obtain ⟨v, hv, r⟩ := S.sl.2 i _ ha
  exact ⟨v, hv, W, e, _, bl, S, h, fun d e1 W1 H1 v ⟨b, ed, p⟩ l S1 r1 => ⟨a, b, r.int_inv, by subst ed; exact r1.int_inv, c.nx _ _ _ _ p l ⟨S1.ok, S1.sl.set (.int _)⟩⟩⟩
theorem ds_sub {o i : Expr} {p2 : Pos} (hv : PE X ex (lE X.K B te)) (ho : PE X o (lE X.K B ta)) (hi : PE X i (lE X.K B tb))
    (ha : ∀ v, assign (.Subscript o i p2) X.env v = (do
      let ov ← holding [v] (eval o X.env)
      let iv ← holding [v, ov] (eval i X.env)
      standAt p2
      holding [v, ov, iv] (setItem ov iv v)
      release [v, ov, iv] []) := by intro _; rfl)
    (hs : swapsWithSole [.Subscript o i p2] ex pos.line X.env = pure false := by rfl) (hw : swappedStores [.Subscript o i p2] ex X.env = pure none := by rfl)
    (h1 : (assignEach [.Subscript o i p2] X.env).map (·.2) = [assign (.Subscript o i p2) X.env] := by rfl) : PS X (.Assign [.Subscript o i p2] ex pos) (lS X.K B (sSub te ta tb)) := PS.imp (ps_asg hv (pg_sub ho hi set_list ha) hs hw h1) fun E σ H h => by
  obtain ⟨W, e, P, bl, S, h, c⟩ := lS_un h
  refine ⟨W, e, _, bl, S, h, fun d e1 W1 H1 v t1 l1 S1 r1 => ⟨W1, e1, _, (B.up bl l1), S1, t1, fun o e2 W2 H2 w t2 l2 S2 r2 => ⟨W2, e2, _, (B.up bl (l1.tr l2)), S2, t2, fun i e3 W3 H3 x t3 l3 S3 r3 => ?_⟩⟩⟩
  obtain ⟨n, xs, k, j, rfl, hc, rfl, hk, p⟩ := t3
  cases r2 with
  | cell hm =>
    have hm3 := Wd.le_get l3 hm
    obtain ⟨vs, h1, h2⟩ := S3.ok.cellL hm3 hc
    refine ⟨_, vs, k, j, rfl, r3.int_inv, h1, by rw [h2.length]; exact hk, ?_⟩
    exact c.nx _ _ _ _ p ((l1.tr l2).tr l3) ⟨S3.ok.setC hm3 hc (fun z => nomatch z) ⟨_, upd_same, h2.set (R.mono (l2.tr l3) _ _ r1) j⟩, S3.sl⟩
end

/-! ### targets by slots -/
inductive Tg where
  | one (i : Nat)
  | tup (is : List Nat)
def setAll : List Nat → List D → List (Option D) → List (Option D)
  | i :: is, d :: ds, sl => setAll is ds (sl.set i (some d))
  | _, _, sl => sl
def setTg : Tg → D → List (Option D) → Option (List (Option D))
  | .one i, d, sl => some (sl.set i (some d))
  | .tup is, .tup xs, sl => if xs.length = is.length then some (setAll is xs sl) else none
  | _, _, _ => none
def gVs : List Nat → TGs
  | [] => gNil
  | i :: is => gCons (gName i) (gVs is)
def gV (K : PySem.W.Frag) : Tg → TG
  | .one i => gName i
  | .tup is => gTup K is.length (gVs is)
def Tg.on : Tg → List Nat
  | .one i => [i]
  | .tup is => is
section
variable {K : PySem.W.Frag} {W : Wd} {H : Hp} {σ : L2.St} {e : En}
def wipeD (sl : List (Option D)) : List Nat → List (Option D)
  | [] => sl
  | i :: is => (wipeD sl is).set i none
theorem SlO.wipe {σ : L2.St} {sl : List (Option D)} (h : SlO K W σ sl) : ∀ (vs : List Nat), SlO K W (L2.wipe σ vs) (wipeD sl vs)
  | [] => h
  | i :: is => by
    have h' := SlO.wipe h is
    refine ⟨by show ((L2.wipe σ is).set i none).length = ((wipeD sl is).set i none).length; simp [h'.1], fun j d e => ?_⟩
    have e : ((wipeD sl is).set i none)[j]? = some (some d) := e
    rw [List.getElem?_set] at e
    by_cases hij : i = j
    · subst hij
      rw [if_pos rfl] at e
      split at e <;> cases e
    · rw [if_neg hij] at e
      obtain ⟨v, a, b⟩ := h'.2 j d e
      exact ⟨v, by show ((L2.wipe σ is).set i none)[j]? = _; rw [List.getElem?_set_ne hij]; exact a, b⟩
theorem wipe_in {σ : L2.St} {k : Nat} : ∀ {vs : List Nat}, k ∈ vs → (wipe σ vs)[k]? = if k < σ.length then some none else none
  | [], h => by cases h
  | v :: vs, h => by
    show ((wipe σ vs).set v none)[k]? = _
    rw [List.getElem?_set]
    by_cases hv : v = k
    · subst hv
      rw [if_pos rfl, wipe_length]
    · rw [if_neg hv]
      exact wipe_in ((List.mem_cons.mp h).resolve_left fun e => hv e.symm)
theorem wipe_set {vs : List Nat} {σ : L2.St} {i : Nat} {x : Option V} (h : i ∈ vs) : wipe (σ.set i x) vs = wipe σ vs := by
  apply List.ext_getElem?
  intro k
  by_cases hk : k ∈ vs
  · rw [wipe_in hk, wipe_in hk, List.length_set]
  · rw [wipe_out hk, wipe_out hk, List.getElem?_set_ne (fun (e : i = k) => hk (e ▸ h))]
theorem wipe_wipe {vs : List Nat} {σ : L2.St} : wipe (wipe σ vs) vs = wipe σ vs := by
  apply List.ext_getElem?
  intro k
  by_cases hk : k ∈ vs
  · rw [wipe_in hk, wipe_in hk, wipe_length]
  · rw [wipe_out hk]
theorem gVs_ok {vs : List Nat} {Q : L2.St → Hp → Prop} : ∀ (is : List Nat) (xs : List V) (ds : List D) (σ : L2.St) (sl : List (Option D)), RAll K W xs ds → ds.length = is.length → SlO K W σ sl →
    (∀ σ', SlO K W σ' (setAll is ds sl) → ((∀ i ∈ is, i ∈ vs) → wipe σ' vs = wipe σ vs) → Q σ' H) → gVs is xs σ H Q
  | [], _, _, σ, sl, r, hl, S, k => by
    cases r with
    | nil => exact ⟨rfl, k σ S fun _ => rfl⟩
    | cons _ _ => cases hl
  | i :: is, _, _, σ, sl, r, hl, S, k => by
    cases r with
    | nil => cases hl
    | cons r1 r2 =>
      refine ⟨_, _, rfl, ?_⟩
      refine gVs_ok (vs := vs) is _ _ _ _ r2 (Nat.succ.inj hl) (S.set r1) fun σ' S' w => k σ' S' fun h => ?_
      rw [w fun j hj => h j (List.mem_cons_of_mem _ hj)]
      exact wipe_set (h i List.mem_cons_self)
theorem gV_ok {vs : List Nat} {tg : Tg} {v : V} {d : D} {sl' : List (Option D)} {Q : L2.St → Hp → Prop} (S : Sd K W H σ e) (r : R K W v d) (h : setTg tg d e.sl = some sl')
    (k : ∀ σ', Sd K W H σ' ⟨sl', e.cs⟩ → ((∀ i ∈ tg.on, i ∈ vs) → wipe σ' vs = wipe σ vs) → Q σ' H) : gV K tg v σ H Q := by
  cases tg with
  | one i =>
    have h' : some (e.sl.set i (some d)) = some sl' := h
    cases h'
    exact k _ ⟨S.ok, S.sl.set r⟩ fun hh => wipe_set (hh i (List.mem_singleton.mpr rfl))
  | tup is =>
    cases d with
    | tup xs =>
      have h' : (if xs.length = is.length then some (setAll is xs e.sl) else none) = some sl' := h
      split at h'
      · rename_i hl
        cases h'
        cases r with
        | tup h1 h2 =>
          refine ⟨_, _, rfl, Evl.ex_t S.ok.ex h1, by rw [h2.length]; exact hl, gVs_ok (vs := vs) is _ _ _ _ h2 hl S.sl fun σ' S' w => k σ' ⟨S.ok, S'⟩ w⟩
      · cases h'
    | _ => cases h
end
def sAsgT (t : DE) (tg : Tg) : DS := fun P e => t e fun d e1 => ∃ sl', setTg tg d e1.sl = some sl' ∧ P.nx ⟨sl', e1.cs⟩
theorem ds_asgT {X : Cx} {B : Bs} {tgE ex : Expr} {te : DE} {tg : Tg} {pos : Pos} (he : PE X ex (lE X.K B te)) (hg : PG X tgE (gV X.K tg)) (hs : swapsWithSole [tgE] ex pos.line X.env = pure false := by rfl) (hw : swappedStores [tgE] ex X.env = pure none := by rfl)
    (h1 : (assignEach [tgE] X.env).map (·.2) = [assign tgE X.env] := by rfl) : PS X (.Assign [tgE] ex pos) (lS X.K B (sAsgT te tg)) := PS.imp (ps_asg he hg hs hw h1) fun E σ H h => by
  obtain ⟨W, e, P, bl, S, h, c⟩ := lS_un h
  exact ⟨W, e, _, bl, S, h, fun d e1 W1 H1 v ⟨sl', hsl, p⟩ l S1 r => gV_ok (vs := []) S1 r hsl fun σ' S' _ => c.nx _ _ _ _ p l S'⟩

/-! ### what is walked -/
/-- .. whatever is hidden -/
def Wd.sub (W W' : Wd) : Prop := Ex W.F W'.F ∧ ∃ more, W'.m = W.m ++ more
theorem Wd.le.sub {W W' : Wd} (l : W.le W') : W.sub W' := ⟨l.1, l.2.1⟩
theorem Wd.sub.tr {W W1 W2 : Wd} (a : W.sub W1) (b : W1.sub W2) : W.sub W2 := by
  obtain ⟨e1, m1, h1⟩ := a
  obtain ⟨e2, m2, h2⟩ := b
  exact ⟨e1.trans e2, m1 ++ m2, by rw [h2, h1, List.append_assoc]⟩
/-- what is walked, and what holds while it is walked -/
abbrev DI := En → (List D → (List Cel → Prop) → En → Prop) → Prop
/-- J walks the items ds, as long as G -/
structure Wk (K : PySem.W.Frag) (W0 : Wd) (J : It) (G : List Cel → Prop) (ds : List D) : Prop where
  go : ∀ i W H σ e, W0.sub W → Sd K W H σ e → G e.cs → i < ds.length → J.go i H
  yld : ∀ i W H σ e x H' d, W0.sub W → Sd K W H σ e → G e.cs → ds[i]? = some d → J.yld i H x H' → ∃ W', W.le W' ∧ Sd K W' H' σ e ∧ R K W' x d
  stop : ∀ i W H σ e, W0.sub W → Sd K W H σ e → G e.cs → ds.length ≤ i → J.stop i H
/-- whatever the cells hold -/
def anyC : List Cel → Prop := fun _ => True
def lI (K : PySem.W.Frag) (B : Bs) (t : DI) : TI := fun σ H Q => ∃ W e P, B.p W ∧ Sd K W H σ e ∧ t e P ∧
  ∀ ds G e' W' H' J, P ds G e' → W.le W' → Sd K W' H' σ e' → Wk K W' J G ds → Q J H'
section
variable {X : Cx} {B : Bs} {tg ex a b : Expr} {te : DE} {ta : DA} {pos p : Pos} {K : PySem.W.Frag}
theorem PI.imp {t t' : TI} (h : PI X tg ex t) (i : ∀ σ H Q, t' σ H Q → t σ H Q) : PI X tg ex t' := ⟨fun pins s σ H Q I w => h.run pins s σ H Q I (i σ H Q w)⟩
theorem wk_list {W : Wd} {a : Addr} {vs : List V} {ds : List D} (h : SqL K W.F a vs) (r : RAll K W vs ds) : Wk K W (Itl K a) anyC ds where
  go := fun i W' H σ e l S _ hi => by
    have hi' : i < vs.length := by rw [r.length]; exact hi
    exact ⟨vs, vs[i], Evl.ex_l (l.1.trans S.ok.ex) h, by simp [hi']⟩
  yld := fun i W' H σ e x H' d l S _ hd y => by
    obtain ⟨rfl, y⟩ := y
    obtain ⟨v, hv, rv⟩ := r.get hd
    have e1 := y vs (Evl.ex_l (l.1.trans S.ok.ex) h)
    rw [hv] at e1
    cases e1
    exact ⟨W', W'.le_refl, S, R.mono' l _ _ rv⟩
  stop := fun i W' H σ e l S _ hi => ⟨vs, Evl.ex_l (l.1.trans S.ok.ex) h, by rw [r.length]; exact hi⟩
theorem wk_tup {W : Wd} {a : Addr} {vs : List V} {ds : List D} (h : SqT K W.F a vs) (r : RAll K W vs ds) : Wk K W (Itt K a) anyC ds where
  go := fun i W' H σ e l S _ hi => by
    have hi' : i < vs.length := by rw [r.length]; exact hi
    exact ⟨vs, vs[i], Evl.ex_t (l.1.trans S.ok.ex) h, by simp [hi']⟩
  yld := fun i W' H σ e x H' d l S _ hd y => by
    obtain ⟨rfl, y⟩ := y
    obtain ⟨v, hv, rv⟩ := r.get hd
    have e1 := y vs (Evl.ex_t (l.1.trans S.ok.ex) h)
    rw [hv] at e1
    cases e1
    exact ⟨W', W'.le_refl, S, R.mono' l _ _ rv⟩
  stop := fun i W' H σ e l S _ hi => ⟨vs, Evl.ex_t (l.1.trans S.ok.ex) h, by rw [r.length]; exact hi⟩
theorem wk_cell {W : Wd} {n : Nat} {a : Addr} {ds : List D} (hm : W.m[n]? = some a) : Wk K W (Itl K a) (fun cs => cs[n]? = some (.lst ds)) ds where
  go := fun i W' H σ e l S g hi => by
    have hm' : W'.m[n]? = some a := by
      obtain ⟨more, e2⟩ := l.2
      have := (List.getElem?_eq_some_iff.mp hm).1
      rw [e2, List.getElem?_append_left this]
      exact hm
    obtain ⟨vs, h1, h2⟩ := S.ok.cellL hm' g
    have hi' : i < vs.length := by rw [h2.length]; exact hi
    exact ⟨vs, vs[i], SqL.of h1, by simp [hi']⟩
  yld := fun i W' H σ e x H' d l S g hd y => by
    have hm' : W'.m[n]? = some a := by
      obtain ⟨more, e2⟩ := l.2
      have := (List.getElem?_eq_some_iff.mp hm).1
      rw [e2, List.getElem?_append_left this]
      exact hm
    obtain ⟨vs, h1, h2⟩ := S.ok.cellL hm' g
    obtain ⟨rfl, y⟩ := y
    obtain ⟨v, hv, rv⟩ := h2.get hd
    have e1 := y vs (SqL.of h1)
    rw [hv] at e1
    cases e1
    exact ⟨W', W'.le_refl, S, rv⟩
  stop := fun i W' H σ e l S g hi => by
    have hm' : W'.m[n]? = some a := by
      obtain ⟨more, e2⟩ := l.2
      have := (List.getElem?_eq_some_iff.mp hm).1
      rw [e2, List.getElem?_append_left this]
      exact hm
    obtain ⟨vs, h1, h2⟩ := S.ok.cellL hm' g
    exact ⟨vs, SqL.of h1, by rw [h2.length]; exact hi⟩
/-- the intsD loD, loD + 1, .. -/
def intsD (loD : Int) (n : Nat) : List D := (List.range n).map fun (i : Nat) => D.int (loD + (i : Int))
theorem intsD_len (loD : Int) (n : Nat) : (intsD loD n).length = n := by simp [intsD]
theorem intsD_get {loD : Int} {n i : Nat} {d : D} (h : (intsD loD n)[i]? = some d) : i < n ∧ d = .int (loD + i) := by
  have hl := (List.getElem?_eq_some_iff.mp h).1
  rw [intsD_len] at hl
  unfold intsD at h
  rw [List.getElem?_map, List.getElem?_range hl] at h
  exact ⟨hl, (Option.some.inj h).symm⟩
theorem wk_rng {W : Wd} {loD : Int} {n : Nat} : Wk K W (Itr loD n) anyC (intsD loD n) where
  go := fun i W' H σ e l S _ hi => by rw [intsD_len] at hi; exact hi
  yld := fun i W' H σ e x H' d l S _ hd y => by
    obtain ⟨rfl, rfl⟩ := y
    obtain ⟨_, rfl⟩ := intsD_get hd
    exact ⟨W', W'.le_refl, S, .int _⟩
  stop := fun i W' H σ e l S _ hi => by rw [intsD_len] at hi; exact hi
/-- a list (that changes no more) or a tuple -/
def fixL : D → Option (List D)
  | .lst xs => some xs
  | .fro xs => some xs
  | _ => none
def iL (t : DE) : DI := fun e P => t e fun d e1 => ∃ xs, fixL d = some xs ∧ P xs anyC e1
def iT (t : DE) : DI := fun e P => t e fun d e1 => ∃ xs, d = .tup xs ∧ P xs anyC e1
theorem di_list (h : PE X ex (lE X.K B te)) : PI X tg ex (lI X.K B (iL te)) := PI.imp (pi_list h) fun σ H Q ⟨W, e, P, bl, S, t, k⟩ => by
  refine ⟨W, e, _, bl, S, t, fun d e1 W1 H1 v ⟨xs, hx, p⟩ l S1 r => ?_⟩
  have : ∃ a vs, v = .ref a ∧ SqL X.K W1.F a vs ∧ RAll X.K W1 vs xs := by
    cases r <;> simp only [fixL] at hx <;> cases hx
    · exact ⟨_, _, rfl, SqL.of (by assumption), by assumption⟩
    · exact ⟨_, _, rfl, by assumption, by assumption⟩
  obtain ⟨a, vs, rfl, h1, h2⟩ := this
  exact ⟨a, rfl, ⟨vs, Evl.ex_l S1.ok.ex h1⟩, k _ _ _ _ _ _ p l S1 (wk_list h1 h2)⟩
theorem di_tup (h : PE X ex (lE X.K B te)) : PI X tg ex (lI X.K B (iT te)) := PI.imp (pi_tup h) fun σ H Q ⟨W, e, P, bl, S, t, k⟩ => by
  refine ⟨W, e, _, bl, S, t, fun d e1 W1 H1 v ⟨xs, hx, p⟩ l S1 r => ?_⟩
  subst hx
  cases r with
  | tup h1 h2 => exact ⟨_, rfl, ⟨_, Evl.ex_t S1.ok.ex h1⟩, k _ _ _ _ _ _ p l S1 (wk_tup h1 h2)⟩
def iR1 (t : DA) : DI := fun e P => t e fun ds e1 => ∃ j, ds = [.int j] ∧ -(2 ^ 62) ≤ j ∧ j < 2 ^ 62 ∧ P (intsD 0 j.toNat) anyC e1
def iR2 (t : DA) : DI := fun e P => t e fun ds e1 => ∃ i j, ds = [.int i, .int j] ∧ (-(2 ^ 62) ≤ i ∧ i < 2 ^ 62 ∧ -(2 ^ 62) ≤ j ∧ j < 2 ^ 62) ∧ P (intsD i (j - i).toNat) anyC e1
theorem RAll.one_int {W : Wd} {vs : List V} {j : Int} (r : RAll K W vs [.int j]) : vs = [.int j] := by
  cases r with
  | cons h t => cases h; cases t; rfl
theorem RAll.two_int {W : Wd} {vs : List V} {i j : Int} (r : RAll K W vs [.int i, .int j]) : vs = [.int i, .int j] := by
  cases r with
  | cons h t =>
    cases h
    cases t with
    | cons h t => cases h; cases t; rfl
theorem di_range1 (hg : Gl X "range") (hm : X.mg "range" = none) (ha : PA X [a] (lA X.K B ta)) (hs : starEach [a] X.env = [(false, eval a X.env)] := by rfl) : PI X tg (.Call (.Name "range" p) [a] [] pos) (lI X.K B (iR1 ta)) :=
  PI.imp (pi_range1 hg hm ha hs) fun σ H Q ⟨W, e, P, bl, S, t, k⟩ => ⟨W, e, _, bl, S, t, fun ds e1 W1 H1 vs ⟨j, ed, h1, h2, p⟩ l S1 r => by
    subst ed
    exact ⟨j, r.one_int, h1, h2, k _ _ _ _ _ _ p l S1 wk_rng⟩⟩
theorem di_range2 (hg : Gl X "range") (hm : X.mg "range" = none) (ha : PA X [a, b] (lA X.K B ta)) (hs : starEach [a, b] X.env = [(false, eval a X.env), (false, eval b X.env)] := by rfl) (hs2 : starEach [b] X.env = [(false, eval b X.env)] := by rfl) :
    PI X tg (.Call (.Name "range" p) [a, b] [] pos) (lI X.K B (iR2 ta)) :=
  PI.imp (pi_range2 hg hm ha hs hs2) fun σ H Q ⟨W, e, P, bl, S, t, k⟩ => ⟨W, e, _, bl, S, t, fun ds e1 W1 H1 vs ⟨i, j, ed, h, p⟩ l S1 r => by
    subst ed
    exact ⟨i, j, r.two_int, h, k _ _ _ _ _ _ p l S1 wk_rng⟩⟩
end

/-! ### loops -/
def sFor (it : DI) (tg : Tg) (tb : DS) : DS := fun P e => it e fun ds G e1 => ∃ I : Nat → En → Prop, I 0 e1 ∧
  (∀ i d e2, ds[i]? = some d → I i e2 → G e2.cs ∧ ∃ sl', setTg tg d e2.sl = some sl' ∧ tb (P.lp (I (i + 1))) ⟨sl', e2.cs⟩) ∧ ∀ e2, I ds.length e2 → G e2.cs ∧ P.nx e2
def sWhile (c : DT) (tb : DS) : DS := fun P e => ∃ I : Nat → En → Prop, (∃ m, I m e) ∧ ∀ m e1, I m e1 → c e1 fun b e2 => if b = true then tb (P.lp fun e3 => ∃ m', m' < m ∧ I m' e3) e2 else P.nx e2
section
variable {X : Cx} {B : Bs} {tgE iter c : Expr} {body : List Stmt} {it : DI} {dt : DT} {tb : DS} {tg : Tg} {pos : Pos}
theorem ds_for (hp : PassesOwn (model X.prog X.w) X.A X.env X.xe) (hc : X.calm = true) (hi : PI X tgE iter (lI X.K B it)) (hg : PG X tgE (gV X.K tg)) (hb : PSs X body (lS X.K B tb))
    (hs : ∀ x, foldedSetIterable iter X.env x = pure x := by intro _; rfl) : PS X (.For tgE iter body [] pos) (lS X.K B (sFor it tg tb)) := PS.imp (ps_for hp hc hi hg hb hs) fun E σ H h => by
  obtain ⟨W, e, P, bl, S, h, c⟩ := lS_un h
  refine ⟨W, e, _, bl, S, h, fun ds G e1 W1 H1 J ⟨I, i0, turn, done⟩ l1 S1 wk => ?_⟩
  refine ⟨fun i m σ H => m = ds.length - i ∧ i ≤ ds.length ∧ ∃ W2 e2, W1.le W2 ∧ Sd X.K W2 H σ e2 ∧ I i e2, ⟨_, rfl, Nat.zero_le _, W1, e1, W1.le_refl, S1, i0⟩, ?_⟩
  rintro i m σ2 H2 ⟨rfl, hi, W2, e2, l2, S2, p2⟩
  by_cases hlt : i < ds.length
  · have hd : ds[i]? = some ds[i] := by simp [hlt]
    obtain ⟨g2, sl', hsl, p3⟩ := turn i _ e2 hd p2
    refine .inr ⟨wk.go i W2 H2 σ2 e2 l2.sub S2 g2 hlt, fun σ H => ∃ W2 e2, W1.le W2 ∧ Sd X.K W2 H σ e2 ∧ I (i + 1) e2, fun σ' H' q => ⟨ds.length - (i + 1), by omega, rfl, hlt, q⟩, fun x H' y => ?_⟩
    obtain ⟨W3, l3, S3, r3⟩ := wk.yld i W2 H2 σ2 e2 x H' _ l2.sub S2 g2 hd y
    refine gV_ok (vs := []) S3 r3 hsl fun σ4 S4 _ => ?_
    have l13 := l2.tr l3
    have l03 := l1.tr l13
    exact lS_mk ((B.up bl l03)) S4 p3 ⟨fun e' W' H' σ' p l S' => ⟨W', e', l13.tr l, S', p⟩, fun d cs W' H' v p l S' r => c.rt d cs W' H' v p (l03.tr l) S' r, fun e' W' H' σ' p l S' => c.nx e' W' H' σ' p (l03.tr l) S', fun e' W' H' σ' p l S' => ⟨W', e', l13.tr l, S', p⟩⟩
  · have ei : i = ds.length := by omega
    subst ei
    obtain ⟨g2, q2⟩ := done e2 p2
    exact .inl ⟨wk.stop _ W2 H2 σ2 e2 l2.sub S2 g2 (Nat.le_refl _), c.nx _ _ _ _ q2 (l1.tr l2) S2⟩
theorem ds_while (hp : PassesOwn (model X.prog X.w) X.A X.env X.xe) (hc : PT X c (lT X.K B dt)) (hb : PSs X body (lS X.K B tb)) : PS X (.While c body [] pos) (lS X.K B (sWhile dt tb)) := PS.imp (ps_while hp hc hb) fun E σ H h => by
  obtain ⟨W, e, P, bl, S, ⟨I, ⟨m0, i0⟩, turn⟩, c⟩ := lS_un h
  refine ⟨fun m σ H => ∃ W2 e2, W.le W2 ∧ Sd X.K W2 H σ e2 ∧ I m e2, ⟨m0, W, e, W.le_refl, S, i0⟩, ?_⟩
  rintro m σ2 H2 ⟨W2, e2, l2, S2, p2⟩
  refine ⟨W2, e2, _, (B.up bl l2), S2, turn m e2 p2, fun b e3 W3 H3 p3 l3 S3 => ?_⟩
  have l03 := l2.tr l3
  cases b with
  | true =>
    refine iteT ⟨fun σ' H' => ∃ m', m' < m ∧ ∃ W2 e2, W.le W2 ∧ Sd X.K W2 H' σ' e2 ∧ I m' e2, fun _ _ q => q, lS_mk ((B.up bl l03)) S3 p3 ⟨?_, fun d cs W' H' v p l S' r => c.rt d cs W' H' v p (l03.tr l) S' r, fun e' W' H' σ' p l S' => c.nx e' W' H' σ' p (l03.tr l) S', ?_⟩⟩
    · rintro e' W' H' σ' ⟨m', hm, p⟩ l S'
      exact ⟨m', hm, W', e', l03.tr l, S', p⟩
    · rintro e' W' H' σ' ⟨m', hm, p⟩ l S'
      exact ⟨m', hm, W', e', l03.tr l, S', p⟩
  | false => exact iteF (c.nx _ _ _ _ p3 l03 S3)
end
end DL
namespace DL
open PySem PySem.Spec PyProof.Rows L2
open Evl (Ex)

/-! ### no name of a cell from k on -/
mutual
def loD (k : Nat) : D → Bool
  | .tup xs => los k xs
  | .lst xs => los k xs
  | .fro xs => los k xs
  | .ins _ _ xs => los k xs
  | .cell n => decide (n < k)
  | .non => true
  | .bl _ => true
  | .int _ => true
  | .str _ => true
  | .dct => true
  | .raw _ => true
def los (k : Nat) : List D → Bool
  | [] => true
  | x :: xs => loD k x && los k xs
end
section
variable {K : PySem.W.Frag} {W : Wd}
mutual
theorem R.low {k : Nat} : ∀ (d : D) (v : V), R K W v d → loD k d = true → R K ⟨W.F, W.m.take k, W.h⟩ v d
  | .non, _, h, _ => by cases h; exact .non
  | .bl b, _, h, _ => by cases h; exact .bl b
  | .int i, _, h, _ => by cases h; exact .int i
  | .str s, _, h, _ => by cases h; exact .str s
  | .tup xs, _, h, o => by
    cases h with
    | tup hs ha => exact .tup hs (RAll.low xs _ ha o)
  | .lst xs, _, h, o => by
    cases h with
    | lst hs ha => exact .lst hs (RAll.low xs _ ha o)
  | .fro xs, _, h, o => by
    cases h with
    | fro hs ha => exact .fro hs (RAll.low xs _ ha o)
  | .ins C ns xs, _, h, o => by
    cases h with
    | ins hs ha => exact .ins hs (RAll.low xs _ ha o)
  | .cell n, _, h, o => by
    cases h with
    | cell hs => exact .cell (by show (W.m.take k)[n]? = _; rw [List.getElem?_take_of_lt (of_decide_eq_true o)]; exact hs)
  | .dct, _, h, _ => by
    cases h with
    | dct hs => exact .dct hs
  | .raw v, _, h, _ => by cases h; exact .raw v
theorem RAll.low {k : Nat} : ∀ (ds : List D) (vs : List V), RAll K W vs ds → los k ds = true → RAll K ⟨W.F, W.m.take k, W.h⟩ vs ds
  | [], _, h, _ => by cases h; exact .nil
  | d :: ds, _, h, o => by
    cases h with
    | cons h1 h2 =>
      have o' : (loD k d && los k ds) = true := o
      rw [Bool.and_eq_true] at o'
      exact .cons (R.low d _ h1 o'.1) (RAll.low ds _ h2 o'.2)
end
end
def Cel.loD (k : Nat) : Cel → Bool
  | .dead => true
  | .lst xs => los k xs
  | .ins _ _ xs => los k xs
theorem ClOk.low {K : PySem.W.Frag} {W : Wd} {H : Hp} {a : Addr} {k : Nat} : ∀ {c : Cel}, ClOk K W H a c → c.loD k = true → ClOk K ⟨W.F, W.m.take k, W.h⟩ H a c
  | .dead, _, _ => trivial
  | .lst xs, ⟨vs, h, r⟩, o => ⟨vs, h, RAll.low xs _ r o⟩
  | .ins C ns xs, ⟨dx, gs, h, e, r⟩, o => ⟨dx, gs, h, e, RAll.low xs _ r o⟩
/-- the younger cells forgotten -/
theorem Ok.low {K : PySem.W.Frag} {W : Wd} {H : Hp} {cs : List Cel} {k : Nat} (h : Ok K W H cs) (o : (cs.take k).all (Cel.loD k) = true) : Ok K ⟨W.F, W.m.take k, W.h⟩ H (cs.take k) := by
  have get : ∀ {α : Type} {l : List α} {n : Nat} {x : α}, (l.take k)[n]? = some x → l[n]? = some x := fun {α l n x} e => by
    by_cases hn : n < k
    · rw [List.getElem?_take_of_lt hn] at e; exact e
    · rw [List.getElem?_eq_none (by rw [List.length_take]; omega)] at e; cases e
  refine ⟨h.ex, by simp [h.len], h.nd.sublist (List.take_sublist _ _), fun a ha => h.here a (List.mem_of_mem_take ha), fun n a c e1 e2 => h.fr n a c (get e1) (get e2), fun n a c e1 e2 => ?_, fun q hq => ?_, h.hn⟩
  · exact (h.cl n a c (get e1) (get e2)).low (List.all_eq_true.mp o c (List.mem_of_getElem? e2))
  · obtain ⟨h1, h2, h3⟩ := h.hd q hq
    exact ⟨h1, h2, fun hm => h3 (List.mem_of_mem_take hm)⟩

/-! ### comprehensions -/
def eLc (o : Bool) (it : DI) (tg : Tg) (tt : DT) (te : DE) (vs : List Nat) : DE := fun e P => it e fun ds G e1 => ds.length ≤ sizeLine ∧ ∃ I : Nat → List D → List Cel → Prop, I 0 [] e1.cs ∧
  (∀ i d acc cs, ds[i]? = some d → I i acc cs → G cs ∧ ∃ sl', setTg tg d (wipeD e1.sl vs) = some sl' ∧ tt ⟨sl', cs⟩ fun b e2 => if b = true then te e2 fun y e3 => I (i + 1) (acc ++ [y]) e3.cs else I (i + 1) acc e2.cs) ∧
  ∀ acc cs, acc.length ≤ ds.length → I ds.length acc cs → G cs ∧ newL o acc ⟨e1.sl, cs⟩ P
def dYes : DT := fun e P => P true e
section
variable {K : PySem.W.Frag} {X : Cx} {B : Bs} {elt tgE iter : Expr} {ifs : List Expr} {scope : Scope} {own : List (Str × Nat)} {pos : Pos} {it : DI} {tg : Tg} {tt : DT} {te : DE} {o : Bool}
theorem SlO.mono' {W W' : Wd} {σ : L2.St} {sl : List (Option D)} (l : W.sub W') (h : SlO K W σ sl) : SlO K W' σ sl :=
  ⟨h.1, fun i d e => let ⟨v, a, b⟩ := h.2 i d e; ⟨v, a, R.mono' l _ _ b⟩⟩
theorem lc_ok {vs : List Nat} (hv : ∀ i ∈ tg.on, i ∈ vs) : ∀ σ H Q, lE K B (eLc o it tg tt te vs) σ H Q → tLc (lI K B it) (gV K tg) (lT K Bs.any tt) (lE K Bs.any te) vs σ H Q := by
  rintro σ H Q ⟨W, e, P, bl, S, t, k⟩
  refine ⟨W, e, _, bl, S, t, fun ds G e1 W1 H1 J ⟨hz, I, i0, turn, done⟩ l1 S1 wk Dl hD => ?_⟩
  obtain ⟨F1, m1, h1⟩ := W1
  refine ⟨fun i m H => m = ds.length - i ∧ i ≤ ds.length ∧ ∃ (F : Hp) (mm : List Addr) (vs' : List V) (acc : List D) (cs : List Cel), Wd.sub ⟨F1, m1, h1⟩ ⟨F, mm, (Dl, vs') :: h1⟩ ∧ Ok K ⟨F, mm, (Dl, vs') :: h1⟩ H cs ∧ RAll K ⟨F, mm, (Dl, vs') :: h1⟩ vs' acc ∧ acc.length ≤ i ∧ I i acc cs,
    ⟨_, rfl, Nat.zero_le _, F1, m1, [], [], e1.cs, ⟨Ex.refl _, [], (List.append_nil _).symm⟩, S1.ok.hide hD, .nil, Nat.zero_le _, i0⟩, ?_⟩
  rintro i m H2 ⟨rfl, hi, F, mm, vs', acc, cs, sb, ok, ra, hacc, p⟩
  have Sx : Sd K ⟨F, mm, (Dl, vs') :: h1⟩ H2 σ ⟨e1.sl, cs⟩ := ⟨ok, S1.sl.mono' sb⟩
  by_cases hlt : i < ds.length
  · have hd : ds[i]? = some ds[i] := by simp [hlt]
    obtain ⟨g2, sl', hsl, p3⟩ := turn i _ acc cs hd p
    refine .inr ⟨wk.go i _ H2 σ _ sb Sx g2 hlt, _, fun H' q => ⟨ds.length - (i + 1), by omega, rfl, hlt, q⟩, fun x H' y => ?_⟩
    obtain ⟨W3, l3, S3, r3⟩ := wk.yld i _ H2 σ _ x H' _ sb Sx g2 hd y
    have S3w : Sd K W3 H' (wipe σ vs) ⟨wipeD e1.sl vs, cs⟩ := ⟨S3.ok, S3.sl.wipe vs⟩
    refine gV_ok (vs := vs) S3w r3 hsl fun σ4 S4 w4 => ⟨by rw [w4 hv, wipe_wipe], ?_⟩
    refine ⟨W3, _, _, trivial, S4, p3, fun b e5 W5 H5 p5 l5 S5 => ?_⟩
    have fin : ∀ (W6 : Wd) (H6 : Hp) (e6 : En) (acc' : List D) (vs6 : List V), W3.le W6 → Ok K W6 H6 e6.cs → RAll K W6 vs6 acc' → acc'.length ≤ i + 1 → I (i + 1) acc' e6.cs →
        ∀ (H7 : Hp), (H7 = upd H6 Dl (.lst vs6) ∨ (H7 = H6 ∧ vs6 = vs')) → ∃ (F : Hp) (mm : List Addr) (vs' : List V) (acc : List D) (cs : List Cel), Wd.sub ⟨F1, m1, h1⟩ ⟨F, mm, (Dl, vs') :: h1⟩ ∧ Ok K ⟨F, mm, (Dl, vs') :: h1⟩ H7 cs ∧ RAll K ⟨F, mm, (Dl, vs') :: h1⟩ vs' acc ∧ acc.length ≤ i + 1 ∧ I (i + 1) acc cs := by
      intro W6 H6 e6 acc' vs6 l6 ok6 ra6 hl6 p6 H7 hH
      have l36 := l3.tr l6
      obtain ⟨F6, m6, h6⟩ := W6
      obtain rfl : h6 = (Dl, vs') :: h1 := l36.2.2
      have sb6 : Wd.sub ⟨F1, m1, h1⟩ ⟨F6, m6, (Dl, vs6) :: h1⟩ := sb.tr (W2 := ⟨F6, m6, (Dl, vs6) :: h1⟩) ⟨l36.1, l36.2.1⟩
      refine ⟨F6, m6, vs6, acc', e6.cs, sb6, ?_, ra6.world rfl rfl, hl6, p6⟩
      rcases hH with rfl | ⟨rfl, rfl⟩
      · exact ok6.grow
      · exact ok6
    cases b with
    | false => exact iteF (fin W5 H5 e5 acc vs' l5 S5.ok (RAll.mono (l3.tr l5) _ _ ra) (by omega) p5 H5 (.inr ⟨rfl, rfl⟩))
    | true =>
      refine iteT ⟨W5, e5, _, trivial, S5, p5, fun y e6 W6 H6 v6 p6 l6 S6 r6 => ?_⟩
      have l56 := l5.tr l6
      have hD6 : H6 Dl = some (.lst vs') := (S6.ok.hd (Dl, vs') (by rw [(l3.tr l56).2.2]; exact List.mem_cons_self)).1
      have ra6 : RAll K W6 vs' acc := RAll.mono (l3.tr l56) _ _ ra
      exact ⟨vs', hD6, by rw [ra6.length]; omega, fin W6 H6 e6 (acc ++ [y]) (vs' ++ [v6]) l56 S6.ok (ra6.app1 r6) (by simp; omega) p6 _ (.inl rfl)⟩
  · have ei : i = ds.length := by omega
    subst ei
    obtain ⟨g2, q⟩ := done acc cs hacc p
    refine .inl ⟨wk.stop _ _ H2 σ _ sb Sx g2 (Nat.le_refl _), ?_⟩
    have ra' : RAll K ⟨F, mm, h1⟩ vs' acc := ra.world rfl rfl
    have lx : (⟨F1, m1, h1⟩ : Wd).le ⟨F, mm, h1⟩ := ⟨sb.1, sb.2, rfl⟩
    cases o with
    | false =>
      obtain ⟨ok', l'⟩ := ok.showF
      exact k _ _ _ _ _ q (l1.tr (lx.tr l')) ⟨ok', S1.sl.mono (lx.tr l')⟩ (.lst upd_same (RAll.mono l' _ _ ra'))
    | true =>
      obtain ⟨ok', l'⟩ := ok.showC ra'
      refine k _ _ _ _ _ q (l1.tr (lx.tr l')) ⟨ok', S1.sl.mono (lx.tr l')⟩ (.cell ?_)
      show (mm ++ [Dl])[cs.length]? = some Dl
      have hl : mm.length = cs.length := ok.len
      rw [← hl, List.getElem?_append_right (Nat.le_refl _)]
      simp
end
end DL
namespace DL
open PySem PySem.Spec PyProof.Rows L2
open Evl (Ex)

/-! ### comprehensions, as rules -/
section
variable {X : Cx} {B : Bs} {elt tgE iter : Expr} {ifs : List Expr} {scope : Scope} {own : List (Str × Nat)} {pos : Pos} {it : DI} {tg : Tg} {tt : DT} {te : DE}
theorem PTs.imp {X : Cx} {ifs : List Expr} {t t' : TT} (h : PTs X ifs t) (i : ∀ σ H Q, t' σ H Q → t σ H Q) : PTs X ifs t' := ⟨fun pins s σ H Q I w => h.run pins s σ H Q I (i σ H Q w)⟩
theorem dts_nil : PTs X [] (lT X.K B dYes) := PTs.imp pts_nil fun σ H Q ⟨W, e, P, _, S, p, k⟩ => k true e W H p W.le_refl S
theorem dts_one {c : Expr} (h : PT X c (lT X.K B tt)) : PTs X [c] (lT X.K B tt) := pts_one h
theorem de_lc {o : Bool} (hc : X.calm = true) (hN : X.N.Nodup) (hi : PI X tgE iter (lI X.K B it)) (ok : BlkOk X.N X.env.scope scope own) (hv : ∀ i ∈ tg.on, i ∈ own.map (·.2))
    (hg : ∀ (s : Shared) (H : Hp) (C : Addr) (cl : List (Str × Addr)) (fp : List Addr), PG (X.blk s H scope (compEnvC scope cl C X.env) fp) tgE (gV X.K tg)) (ht : ∀ (s : Shared) (H : Hp) (C : Addr) (cl : List (Str × Addr)) (fp : List Addr), PTs (X.blk s H scope (compEnvC scope cl C X.env) fp) ifs (lT X.K Bs.any tt))
    (he : ∀ (s : Shared) (H : Hp) (C : Addr) (cl : List (Str × Addr)) (fp : List Addr), PE (X.blk s H scope (compEnvC scope cl C X.env) fp) elt (lE X.K Bs.any te)) (hs : ∀ x, foldedSetIterable iter X.env x = pure x := by intro _; rfl) :
    PE X (.ListComp elt [⟨tgE, iter, ifs, 0⟩] scope pos) (lE X.K B (eLc o it tg tt te (own.map (·.2)))) := PE.imp (pe_lc hc hN hi ok hg ht he hs) (lc_ok hv)
theorem ds_setLc {o : Bool} {i : Nat} {y : Str} {py spos : Pos} (hc : X.calm = true) (hN : X.N.Nodup) (hy : X.N[i]? = some y) (hyl : X.env.scope.names.lookup y = some .local)
    (hsw : swapsWith (.ListComp elt [⟨tgE, iter, ifs, 0⟩] scope pos) (some (.Name y py)) spos.line X.env = pure true) (hi : PI X tgE iter (lI X.K B it)) (ok : BlkOk X.N X.env.scope scope own) (hv : ∀ i ∈ tg.on, i ∈ own.map (·.2))
    (hg : ∀ (s : Shared) (H : Hp) (C : Addr) (cl : List (Str × Addr)) (fp : List Addr), PG (X.blk s H scope (compEnvC scope cl C X.env) fp) tgE (gV X.K tg)) (ht : ∀ (s : Shared) (H : Hp) (C : Addr) (cl : List (Str × Addr)) (fp : List Addr), PTs (X.blk s H scope (compEnvC scope cl C X.env) fp) ifs (lT X.K Bs.any tt))
    (he : ∀ (s : Shared) (H : Hp) (C : Addr) (cl : List (Str × Addr)) (fp : List Addr), PE (X.blk s H scope (compEnvC scope cl C X.env) fp) elt (lE X.K Bs.any te)) (hs : ∀ x, foldedSetIterable iter X.env x = pure x := by intro _; rfl) :
    PS X (.Assign [.Name y py] (.ListComp elt [⟨tgE, iter, ifs, 0⟩] scope pos) spos) (lS X.K B (sAsg (eLc o it tg tt te (own.map (·.2))) i)) := PS.imp (ps_setLc hc hN hy hyl hsw hi ok hg ht he hs) fun E σ H h => by
  obtain ⟨W, e, P, bl, S, h, c⟩ := lS_un h
  exact lc_ok hv σ H _ ⟨W, e, _, bl, S, h, fun d e1 W1 H1 v p l S1 r => c.nx _ _ _ _ p l ⟨S1.ok, S1.sl.set r⟩⟩
end

/-! ### built-ins -/
def CallD (K : PySem.W.Frag) (r : List V → Hp → VK → Prop) (q : List D → DE) : Prop := ∀ (W : Wd) (H : Hp) (σ : L2.St) (e : En) (vs : List V) (ds : List D) (P : D → En → Prop) (Q : VK), Sd K W H σ e → RAll K W vs ds → q ds e P →
  (∀ d e' W' H' v, P d e' → W.le W' → Sd K W' H' σ e' → R K W' v d → Q v H') → r vs H Q
def eCB (q : List D → DE) (ta : DA) : DE := fun e P => ta e fun ds e1 => q ds e1 P
section
variable {K : PySem.W.Frag} {X : Cx} {B : Bs} {x : Str} {p pos : Pos} {ex : Expr} {es : List Expr} {ta : DA} {id T : String} {r : List V → Hp → VK → Prop} {q : List D → DE}
theorem cb_ok (hq : CallD K r q) : ∀ σ H Q, lE K B (eCB q ta) σ H Q → tCB r (lA K B ta) σ H Q := fun σ H Q ⟨W, e, P, bl, S, t, k⟩ =>
  ⟨W, e, _, bl, S, t, fun ds e1 W1 H1 vs t1 l1 S1 r1 => hq W1 H1 σ e1 vs ds P Q S1 r1 t1 fun d e2 W2 H2 v p l2 S2 r2 => k d e2 W2 H2 v p (l1.tr l2) S2 r2⟩
theorem de_callB (hc : CallR X (.builtin id) r) (hq : CallD X.K r q) (hg : Gl X x) (hm : X.mg x = none) (hv : bootBuiltins x = some (.builtin id)) (ha : PA X (ex :: es) (lA X.K B ta)) (hn : x ≠ "__name__" := by decide) (hdb : (x == ("__debug__" : Str)) = false := by decide)
    (he : starEach (ex :: es) X.env = (false, eval ex X.env) :: starEach es X.env := by rfl) (hpl : (backTo pos (starEach es X.env)).any (·.1) = false := by rfl) : PE X (.Call (.Name x p) (ex :: es) [] pos) (lE X.K B (eCB q ta)) := PE.imp (pe_callB hc hg hm hv ha hn hdb he hpl) (cb_ok hq)
theorem de_callTy (hc : CallR X (.type T) r) (hq : CallD X.K r q) (hg : Gl X x) (hm : X.mg x = none) (hv : bootBuiltins x = some (.type T)) (ha : PA X (ex :: es) (lA X.K B ta)) (hn : x ≠ "__name__" := by decide) (hdb : (x == ("__debug__" : Str)) = false := by decide)
    (he : starEach (ex :: es) X.env = (false, eval ex X.env) :: starEach es X.env := by rfl) (hpl : (backTo pos (starEach es X.env)).any (·.1) = false := by rfl) : PE X (.Call (.Name x p) (ex :: es) [] pos) (lE X.K B (eCB q ta)) := PE.imp (pe_callTy hc hg hm hv ha hn hdb he hpl) (cb_ok hq)
theorem RAll.one {W : Wd} {vs : List V} {d : D} (h : RAll K W vs [d]) : ∃ v, vs = [v] ∧ R K W v d := by
  cases h with
  | cons r t => cases t; exact ⟨_, rfl, r⟩
theorem RAll.two {W : Wd} {vs : List V} {d d2 : D} (h : RAll K W vs [d, d2]) : ∃ v v2, vs = [v, v2] ∧ R K W v d ∧ R K W v2 d2 := by
  cases h with
  | cons r t =>
    obtain ⟨v, rfl, r2⟩ := t.one
    exact ⟨_, v, rfl, r, r2⟩
/-- a list or a tuple -/
def seqD (cs : List Cel) : D → Option (List D)
  | .tup xs => some xs
  | d => lk cs d
theorem Ok.seq {W : Wd} {H : Hp} {cs : List Cel} (h : Ok K W H cs) {d : D} {v : V} {xs : List D} (r : R K W v d) (e : seqD cs d = some xs) : ∃ a vs, v = .ref a ∧ (SqL K H a vs ∨ SqT K H a vs) ∧ RAll K W vs xs := by
  unfold seqD at e
  split at e
  · cases e
    cases r with
    | tup h1 h2 => exact ⟨_, _, rfl, .inr (Evl.ex_t h.ex h1), h2⟩
  · obtain ⟨a, vs, rfl, h1, h2⟩ := h.lk r e
    exact ⟨a, vs, rfl, .inl h1, h2⟩
def qLen : List D → DE
  | [.str s] => fun e P => s.length ≤ sizeLine ∧ P (.int s.length) e
  | [d] => fun e P => ∃ xs, seqD e.cs d = some xs ∧ P (.int xs.length) e
  | _ => fun _ _ => False
def rLenA (K : PySem.W.Frag) : List V → Hp → VK → Prop := fun xs H Q => (∃ p ys, xs = [.ref p] ∧ (SqL K H p ys ∨ SqT K H p ys) ∧ Q (.int ys.length) H) ∨ ∃ z, xs = [.str z] ∧ z.length ≤ sizeLine ∧ Q (.int z.length) H
theorem call_lenA : CallR X (.builtin "len") (rLenA X.K) := call_len_seq.or call_len_str
theorem cd_len : CallD K (rLenA K) qLen := by
  intro W H σ e vs ds P Q S r t k
  unfold qLen at t
  split at t
  · obtain ⟨v, rfl, r1⟩ := r.one
    cases r1
    exact .inr ⟨_, rfl, t.1, k _ _ _ _ _ t.2 W.le_refl S (.int _)⟩
  · obtain ⟨v, rfl, r1⟩ := r.one
    obtain ⟨xs, e1, p⟩ := t
    obtain ⟨a, vs, rfl, h1, h2⟩ := S.ok.seq r1 e1
    exact .inl ⟨a, vs, rfl, h1, by rw [h2.length]; exact k _ _ _ _ _ p W.le_refl S (.int _)⟩
  · exact t.elim
def qList (o : Bool) : List D → DE
  | [d] => fun e P => ∃ xs, seqD e.cs d = some xs ∧ newL o xs e P
  | _ => fun _ _ => False
def rListA (K : PySem.W.Frag) : List V → Hp → VK → Prop := fun xs H Q => ∃ p ys, xs = [.ref p] ∧ (SqL K H p ys ∨ SqT K H p ys) ∧ ∀ l, H l = none → Q (.ref l) (upd H l (.lst ys))
theorem call_listA : CallR X (.type "list") (rListA X.K) := call_list_of
theorem cd_list {o : Bool} : CallD K (rListA K) (qList o) := by
  intro W H σ e vs ds P Q S r t k
  unfold qList at t
  split at t
  · obtain ⟨v, rfl, r1⟩ := r.one
    obtain ⟨xs, e1, p⟩ := t
    obtain ⟨a, vs, rfl, h1, h2⟩ := S.ok.seq r1 e1
    exact ⟨a, vs, rfl, h1, newL_ok S h2 p k⟩
  · exact t.elim
/-- either, as one likes -/
def qListE : List D → DE := fun ds e P => qList false ds e P ∨ qList true ds e P
theorem cd_listE : CallD K (rListA K) qListE := fun W H σ e vs ds P Q S r t k => t.elim (fun t => cd_list W H σ e vs ds P Q S r t k) fun t => cd_list W H σ e vs ds P Q S r t k
def qTuple : List D → DE
  | [.tup xs] => fun e P => P (.tup xs) e
  | [d] => fun e P => ∃ xs, lk e.cs d = some xs ∧ P (.tup xs) e
  | _ => fun _ _ => False
def rTupleA (K : PySem.W.Frag) : List V → Hp → VK → Prop := fun xs H Q => ∃ p ys, xs = [.ref p] ∧ ((SqL K H p ys ∧ ∀ l, H l = none → Q (.ref l) (upd H l (.tup ys))) ∨ (SqT K H p ys ∧ Q (.ref p) H))
theorem call_tupleA : CallR X (.type "tuple") (rTupleA X.K) := call_tuple_of
theorem cd_tuple : CallD K (rTupleA K) qTuple := by
  intro W H σ e vs ds P Q S r t k
  unfold qTuple at t
  split at t
  · obtain ⟨v, rfl, r1⟩ := r.one
    cases r1 with
    | tup h1 h2 => exact ⟨_, _, rfl, .inr ⟨Evl.ex_t S.ok.ex h1, k _ _ _ _ _ t W.le_refl S (.tup h1 h2)⟩⟩
  · obtain ⟨v, rfl, r1⟩ := r.one
    obtain ⟨xs, e1, p⟩ := t
    obtain ⟨a, vs, rfl, h1, h2⟩ := S.ok.lk r1 e1
    exact ⟨a, vs, rfl, .inl ⟨h1, newT_ok S h2 p k⟩⟩
  · exact t.elim
def qAll : List D → DE
  | [d] => fun e P => ∃ bs : List Bool, lk e.cs d = some (bs.map .bl) ∧ P (.bl (bs.all fun b => b)) e
  | _ => fun _ _ => False
theorem cd_all : CallD K (rAll K) qAll := by
  intro W H σ e vs ds P Q S r t k
  unfold qAll at t
  split at t
  · obtain ⟨v, rfl, r1⟩ := r.one
    obtain ⟨bs, e1, p⟩ := t
    obtain ⟨a, vs, rfl, h1, h2⟩ := S.ok.lk r1 e1
    rw [h2.bls_inv] at h1
    exact ⟨a, bs, rfl, h1, k _ _ _ _ _ p W.le_refl S (.bl _)⟩
  · exact t.elim
/-- sum of a list or a tuple of ints -/
def rSumA (K : PySem.W.Frag) : List V → Hp → VK → Prop := fun vs H Q => rSum K vs H Q ∨ ∃ (a : Addr) (ns : List Int), vs = [V.ref a] ∧ SqT K H a (ns.map V.int) ∧ Q (.int ns.sum) H
theorem call_sumT (hc : X.calm = true) : CallR X (.builtin "sum") (fun vs H Q => ∃ (a : Addr) (ns : List Int), vs = [V.ref a] ∧ SqT X.K H a (ns.map V.int) ∧ Q (.int ns.sum) H) := by
  intro pins s σ H xs us Q I r h
  obtain ⟨a, ns, rfl, hs, q⟩ := h
  obtain ⟨u, rfl, ru⟩ := vals1 r
  cases (show u = Value.ref a from ru)
  obtain ⟨its, rv, ht, hz⟩ := I.tuple hs
  have hi : IntsAre its ns := Vals.ints rv
  obtain ⟨xs, e⟩ := hi.allInts.items
  have hn : numsOf (intItems xs).toList = ns := by rw [← e]; exact hi.numsOf
  rw [nums_intItems] at hn
  rw [e] at ht
  refine PySem.W.ktm_sumG (I.ok.hd hc) ht fun h' tk t' hk => ?_
  have e2 : PySem.preSum (numAt xs) xs.size = ns.sum := by rw [preSum_eq, List.take_of_length_le (by simp), hn]
  rw [e2]
  exact ⟨.int ns.sum, H, I.kept (t' := tk) hk, ⟨_, rfl⟩, q⟩
theorem call_sumA (hc : X.calm = true) : CallR X (.builtin "sum") (rSumA X.K) := (cr_sum hc).or (call_sumT hc)
def qSum : List D → DE
  | [d] => fun e P => ∃ ns : List Int, seqD e.cs d = some (ns.map .int) ∧ P (.int ns.sum) e
  | _ => fun _ _ => False
theorem cd_sum : CallD K (rSumA K) qSum := by
  intro W H σ e vs ds P Q S r t k
  unfold qSum at t
  split at t
  · obtain ⟨v, rfl, r1⟩ := r.one
    obtain ⟨ns, e1, p⟩ := t
    obtain ⟨a, vs, rfl, h1, h2⟩ := S.ok.seq r1 e1
    rw [h2.ints_inv] at h1
    have q := k _ _ _ _ _ p W.le_refl S (.int _)
    rcases h1 with h1 | h1
    · exact .inl ⟨a, ns, rfl, h1, q⟩
    · exact .inr ⟨a, ns, rfl, h1, q⟩
  · exact t.elim
def qInt : List D → DE
  | [.int i] => fun e P => P (.int i) e
  | [.bl b] => fun e P => P (.int (if b then 1 else 0)) e
  | [.str s] => fun e P => s.length ≤ 640 ∧ ∃ n, PySem.intText? s = some n ∧ P (.int n) e
  | _ => fun _ _ => False
def rIntA : List V → Hp → VK → Prop := fun xs H Q => ((∃ i, xs = [.int i] ∧ Q (.int i) H) ∨ ∃ k, xs = [.bl k] ∧ Q (.int (if k then 1 else 0)) H) ∨ ∃ a n, xs = [.str a] ∧ PySem.intText? a = some n ∧ a.length ≤ 640 ∧ Q (.int n) H
theorem call_intA : CallR X (.type "int") rIntA := call_int1.or call_int_str
theorem cd_int : CallD K rIntA qInt := by
  intro W H σ e vs ds P Q S r t k
  unfold qInt at t
  split at t
  · obtain ⟨v, rfl, r1⟩ := r.one
    cases r1
    exact .inl (.inl ⟨_, rfl, k _ _ _ _ _ t W.le_refl S (.int _)⟩)
  · obtain ⟨v, rfl, r1⟩ := r.one
    cases r1
    exact .inl (.inr ⟨_, rfl, k _ _ _ _ _ t W.le_refl S (.int _)⟩)
  · obtain ⟨v, rfl, r1⟩ := r.one
    obtain ⟨hz, n, hn, t⟩ := t
    cases r1
    exact .inr ⟨_, n, rfl, hn, hz, k _ _ _ _ _ t W.le_refl S (.int _)⟩
  · exact t.elim
end
end DL
namespace DL
open PySem PySem.Spec PyProof.Rows L2
open Evl (Ex)

/-! ### isinstance with a built-in type -/
def tyN (cs : List Cel) : D → Option String
  | .non => some "NoneType"
  | .bl _ => some "bool"
  | .int _ => some "int"
  | .str _ => some "str"
  | .tup _ => some "tuple"
  | .lst _ => some "list"
  | .dct => some "dict"
  | .cell n => match cs[n]? with
    | some (.lst _) => some "list"
    | _ => none
  | _ => none
def isTy (a T : String) : Bool := a == T || (a == "bool" && T == "int")
def tyKnown (T : String) : Bool := ["int", "bool", "str", "tuple", "list"].contains T
theorem kit_all : (["NoneType", "bool", "int", "str", "tuple", "list", "dict"].all fun a => ["int", "bool", "str", "tuple", "list"].all fun T => decide (kitB a T = some (isTy a T))) = true := by decide +kernel
theorem kit_in {a T : String} (ha : a ∈ ["NoneType", "bool", "int", "str", "tuple", "list", "dict"]) (hT : tyKnown T = true) : kitB a T = some (isTy a T) :=
  of_decide_eq_true (List.all_eq_true.mp (List.all_eq_true.mp kit_all a ha) T (List.contains_iff_mem.mp hT))
section
variable {K : PySem.W.Frag} {W : Wd} {H : Hp} {cs : List Cel}
theorem SqT.ty {a : Addr} {vs : List V} (h : SqT K H a vs) : TyX K H (.ref a) (.type "tuple") := by
  rcases h with (h | ⟨o, h⟩) | ⟨o, its, n, h1, h2, _⟩
  · exact .base (.tup h)
  · exact .fTuple h
  · exact .kTuple h1 h2
theorem Ok.ty (h : Ok K W H cs) {d : D} {v : V} {a : String} (r : R K W v d) (e : tyN cs d = some a) : TyX K H v (.type a) ∧ a ∈ ["NoneType", "bool", "int", "str", "tuple", "list", "dict"] := by
  cases r <;> simp only [tyN] at e <;> try cases e
  · exact ⟨.base .non, by decide⟩
  · exact ⟨.base (.bl _), by decide⟩
  · exact ⟨.base (.int _), by decide⟩
  · exact ⟨.base (.str _), by decide⟩
  · rename_i a vs hs ha
    exact ⟨SqT.ty (Evl.ex_t h.ex hs), by decide⟩
  · rename_i a vs hs ha
    exact ⟨.base (.lst (h.ex _ _ hs)), by decide⟩
  · rename_i n a' hm
    split at e
    · rename_i xs hc
      cases e
      obtain ⟨vs, h1, h2⟩ := h.cellL hm hc
      exact ⟨.base (.lst h1), by decide⟩
    · cases e
  · exact ⟨.base (.dK (h.ex _ _ (by assumption))), by decide⟩
def qIsi : List D → DE
  | [d, .raw (.ty T)] => fun e P => tyKnown T = true ∧ ∃ a, tyN e.cs d = some a ∧ P (.bl (isTy a T)) e
  | _ => fun _ _ => False
theorem cd_isi : CallD K (rIsi K) qIsi := by
  intro W H σ e vs ds P Q S r t k
  unfold qIsi at t
  split at t
  · obtain ⟨v, v2, rfl, r1, r2⟩ := r.two
    obtain ⟨hT, a, ea, p⟩ := t
    obtain ⟨ty, mem⟩ := S.ok.ty r1 ea
    cases r2
    exact ⟨v, .ty _, _, _, _, rfl, .ty _, ty, kit_ty (kit_in mem hT), k _ _ _ _ _ p W.le_refl S (.bl _)⟩
  · exact t.elim
end

/-! ### instances -/
def insD (cs : List Cel) : D → Option (Addr × List Str × List D)
  | .ins C ns xs => some (C, ns, xs)
  | .cell n => match cs[n]? with
    | some (.ins C ns xs) => some (C, ns, xs)
    | _ => none
  | _ => none
def getF (f : Str) : List Str → List D → Option D
  | n :: ns, x :: xs => if f = n then some x else getF f ns xs
  | _, _ => none
section
variable {K : PySem.W.Frag} {W : Wd} {H : Hp} {cs : List Cel}
theorem RAll.fld {f : Str} : ∀ {gs : List (Str × V)} {ns : List Str} {xs : List D} {d : D}, gs.map (·.1) = ns → RAll K W (gs.map (·.2)) xs → getF f ns xs = some d → ∃ v, gs.lookup f = some v ∧ R K W v d
  | [], _, _, _, rfl, r, e => by cases r; cases e
  | (n, v) :: gs, _, _, d, rfl, r, e => by
    cases r with
    | cons r1 r2 =>
      have e : (if f = n then some _ else getF f (gs.map (·.1)) _) = some d := e
      by_cases h : f = n
      · rw [if_pos h] at e
        cases e
        exact ⟨v, by simp [List.lookup, h], r1⟩
      · rw [if_neg h] at e
        obtain ⟨w, h1, h2⟩ := RAll.fld rfl r2 e
        have hb : (f == n) = false := by simpa using h
        exact ⟨w, by simp only [List.lookup, hb]; exact h1, h2⟩
theorem lookup_none {f : Str} : ∀ {gs : List (Str × V)}, f ∉ gs.map (·.1) → gs.lookup f = none
  | [], _ => rfl
  | (n, v) :: gs, h => by
    have h1 : f ≠ n := fun e => h (by rw [e]; exact List.mem_cons_self)
    have hb : (f == n) = false := by simpa using h1
    simp only [List.lookup, hb]
    exact lookup_none fun m => h (List.mem_cons_of_mem _ m)
theorem Ok.ins (h : Ok K W H cs) {d : D} {v : V} {C : Addr} {ns : List Str} {xs : List D} (r : R K W v d) (e : insD cs d = some (C, ns, xs)) : ∃ a dx gs, v = .ref a ∧ H a = some (.ins C dx gs) ∧ gs.map (·.1) = ns ∧ RAll K W (gs.map (·.2)) xs := by
  cases r <;> simp only [insD] at e <;> try cases e
  · exact ⟨_, _, _, rfl, h.ex _ _ (by assumption), rfl, by assumption⟩
  · rename_i n a hm
    split at e
    · rename_i C' ns' xs' hc
      cases e
      obtain ⟨dx, gs, h1, h2, h3⟩ := h.cl n a _ hm hc
      exact ⟨a, dx, gs, rfl, h1, h2, h3⟩
    · cases e
end
def eFld (C : Addr) (f : Str) (t : DE) : DE := fun e P => t e fun d e1 => ∃ ns xs v, insD e1.cs d = some (C, ns, xs) ∧ getF f ns xs = some v ∧ P v e1
/-- self.f = v, self an instance that changes -/
def sFldD (C : Addr) (f : Str) (to tv : DE) : DS := fun P e => tv e fun v e1 => to e1 fun o e2 => ∃ n ns xs, o = .cell n ∧ e2.cs[n]? = some (.ins C ns xs) ∧ f ∉ ns ∧ ns.length < 900 ∧ P.nx { e2 with cs := e2.cs.set n (.ins C (ns ++ [f]) (xs ++ [v])) }
/-- a call's promise, by data -/
abbrev Spc := List D → List Cel → (D → List Cel → Prop) → Prop
def spD (K : PySem.W.Frag) (sp : Spc) : Sp := fun vs H Q _ => ∃ W cs ds P, Ok K W H cs ∧ RAll K W vs ds ∧ sp ds cs P ∧ ∀ d cs' W' H' v, P d cs' → W.le W' → Ok K W' H' cs' → R K W' v d → Q v H'
def eCall (sp : Spc) (ta : DA) : DE := fun e P => ta e fun ds e1 => sp ds e1.cs fun d cs' => P d { e1 with cs := cs' }
def eProp (C : Addr) (sp : Spc) (t : DE) : DE := fun e P => t e fun d e1 => (∃ ns xs, insD e1.cs d = some (C, ns, xs)) ∧ sp [d] e1.cs fun r cs' => P r { e1 with cs := cs' }
def eMeth (C : Addr) (m : Str) (sp : Spc) (t : DE) (ta : DA) : DE := fun e P => t e fun d e1 => (∃ ns xs, insD e1.cs d = some (C, ns, xs) ∧ m ∉ ns) ∧ ta e1 fun ds e2 => sp (d :: ds) e2.cs fun r cs' => P r { e2 with cs := cs' }
section
variable {X : Cx} {B : Bs} {ex o : Expr} {es : List Expr} {te tv : DE} {ta : DA} {C : Addr} {f m x : Str} {pos apos p : Pos} {CX : CXT} {k : Nat} {fn pp : Addr} {fd : FuncData} {ps : List Str} {sp : Spc} {dvs : List V} {ds : List Value}
theorem de_fld (c : Cls X.K C) (n : NoAttr X.K C f) (he : PE X ex (lE X.K B te)) (hb : attributeBase ex f X.env (eval ex X.env) = eval ex X.env := by rfl) : PE X (.Attribute ex f pos) (lE X.K B (eFld C f te)) :=
  PE.imp (pe_fld he hb) fun σ H Q ⟨W, e, P, bl, S, t, k⟩ => ⟨W, e, _, bl, S, t, fun d e1 W1 H1 v ⟨ns, xs, w, hi, hf, p⟩ l S1 r => by
    obtain ⟨a, dx, gs, rfl, h1, h2, h3⟩ := S1.ok.ins r hi
    obtain ⟨u, hu, ru⟩ := h3.fld h2 hf
    exact ⟨a, C, dx, gs, u, rfl, h1, c, n, hu, k _ _ _ _ _ p l S1 ru⟩⟩
theorem call_ok {E : XK} (hd : dvs = []) : ∀ σ H Q, lE X.K B (eCall sp ta) σ H Q → tCall (spD X.K sp) dvs E (lA X.K B ta) σ H Q := fun σ H Q ⟨W, e, P, bl, S, t, k⟩ =>
  ⟨W, e, _, bl, S, t, fun ds e1 W1 H1 vs h l S1 r => by
    subst hd
    rw [List.append_nil]
    exact ⟨W1, e1.cs, ds, _, S1.ok, r, h, fun d cs' W2 H2 v p l2 ok2 r2 => k _ _ _ _ _ p (l.tr l2) ⟨ok2, S1.sl.mono l2⟩ r2⟩⟩
theorem de_call (F : FnOk X.prog X.w X.K X.mg X.base CX0 k fn fd ps (spD X.K sp)) (hr : Room k X.A) (hg : Gl X x) (hm : X.mg x = some (.ref fn)) (hk : PySem.W.keepIn X.K (.ref fn) = true) (hb : Binds X.K fd ps [])
    (ha : PA X (ex :: es) (lA X.K B ta)) (hdb : (x == ("__debug__" : Str)) = false := by decide) (he : starEach (ex :: es) X.env = (false, eval ex X.env) :: starEach es X.env := by rfl) (hpl : (backTo pos (starEach es X.env)).any (·.1) = false := by rfl) :
    PE X (.Call (.Name x p) (ex :: es) [] pos) (lE X.K B (eCall sp ta)) := PE.imp (pe_call F hr hg hm hk hb .nil pass0 ha hdb he hpl) (call_ok rfl)
theorem de_prop (c : Cls X.K C) (hp : PropOf X.K C f pp fn) (F : FnOk X.prog X.w X.K X.mg X.base CX0 k fn fd ps (spD X.K sp)) (hr : Room (k + 1) X.A) (hb : Binds X.K fd ps []) (he : PE X ex (lE X.K B te))
    (hab : attributeBase ex f X.env (eval ex X.env) = eval ex X.env := by rfl) : PE X (.Attribute ex f pos) (lE X.K B (eProp C sp te)) :=
  PE.imp (pe_prop he c hp F hr hb .nil (E := E0) (fun _ _ _ _ _ _ _ h => h.elim) hab) fun σ H Q ⟨W, e, P, bl, S, t, k⟩ => ⟨W, e, _, bl, S, t, fun d e1 W1 H1 v ⟨⟨ns, xs, hi⟩, h⟩ l S1 r => by
    obtain ⟨a, dx, gs, rfl, h1, h2, h3⟩ := S1.ok.ins r hi
    exact ⟨a, dx, gs, rfl, h1, W1, e1.cs, [d], _, S1.ok, .cons r .nil, h, fun d cs' W2 H2 v p l2 ok2 r2 => k _ _ _ _ _ p (l.tr l2) ⟨ok2, S1.sl.mono l2⟩ r2⟩⟩
theorem de_meth {pl : Sem Bool} (c : Cls X.K C) (hm : Meth X.K C m fn) (F : FnOk X.prog X.w X.K X.mg X.base CX0 k fn fd ps (spD X.K sp)) (hr : Room k X.A) (hb : Binds X.K fd ps []) (ho : PE X o (lE X.K B te)) (ha : PA X (ex :: es) (lA X.K B ta))
    (hst : starEach (ex :: es) X.env = (false, eval ex X.env) :: starEach es X.env := by rfl) (hpl : (backTo pos (starEach es X.env)).any (·.1) = false := by rfl)
    (ht : eval (.Call (.Attribute o m apos) (ex :: es) [] pos) X.env = (do
      let ov ← eval o X.env
      standAt apos.atName
      let (f, first) ← holding [ov] (getMethod ov m pl)
      callWith pos f first (backTo pos (starEach (ex :: es) X.env)) (backToKw pos (keywordEach [] X.env))) := by rfl) :
    PE X (.Call (.Attribute o m apos) (ex :: es) [] pos) (lE X.K B (eMeth C m sp te ta)) :=
  PE.imp (pe_meth ho c hm F hr hb .nil pass0 ha hst hpl ht) fun σ H Q ⟨W, e, P, bl, S, t, k⟩ => ⟨W, e, _, bl, S, t, fun d e1 W1 H1 v ⟨⟨ns, xs, hi, hn⟩, h⟩ l S1 r => by
    obtain ⟨a, dx, gs, rfl, h1, h2, h3⟩ := S1.ok.ins r hi
    refine ⟨a, dx, gs, rfl, h1, lookup_none (by rw [h2]; exact hn), W1, e1, _, B.up bl l, S1, h, fun ds e2 W2 H2 vs h l2 S2 r2 => ?_⟩
    show spD X.K sp (V.ref a :: (vs ++ [])) H2 Q E0
    rw [List.append_nil]
    exact ⟨W2, e2.cs, d :: ds, _, S2.ok, .cons (R.mono l2 _ _ r) r2, h, fun d cs' W3 H3 v p l3 ok3 r3 => k _ _ _ _ _ p ((l.tr l2).tr l3) ⟨ok3, S2.sl.mono l3⟩ r3⟩⟩
theorem de_meth0 {pl : Sem Bool} (c : Cls X.K C) (hm : Meth X.K C m fn) (F : FnOk X.prog X.w X.K X.mg X.base CX0 k fn fd ps (spD X.K sp)) (hr : Room k X.A) (hb : Binds X.K fd ps []) (ho : PE X o (lE X.K B te))
    (ht : eval (.Call (.Attribute o m apos) [] [] pos) X.env = (do
      let ov ← eval o X.env
      standAt apos.atName
      let (f, first) ← holding [ov] (getMethod ov m pl)
      callWith pos f first (backTo pos (starEach [] X.env)) (backToKw pos (keywordEach [] X.env))) := by rfl) :
    PE X (.Call (.Attribute o m apos) [] [] pos) (lE X.K B (eMeth C m sp te aNil)) :=
  PE.imp (pe_meth0 ho c hm F hr hb .nil pass0 ht) fun σ H Q ⟨W, e, P, bl, S, t, k⟩ => ⟨W, e, _, bl, S, t, fun d e1 W1 H1 v ⟨⟨ns, xs, hi, hn⟩, h⟩ l S1 r => by
    obtain ⟨a, dx, gs, rfl, h1, h2, h3⟩ := S1.ok.ins r hi
    refine ⟨a, dx, gs, rfl, h1, lookup_none (by rw [h2]; exact hn), ?_⟩
    exact ⟨W1, e1.cs, [d], _, S1.ok, .cons r .nil, h, fun d cs' W3 H3 v p l3 ok3 r3 => k _ _ _ _ _ p (l.tr l3) ⟨ok3, S1.sl.mono l3⟩ r3⟩⟩
end
/-! ### a store to a field -/
section
variable {X : Cx} {B : Bs} {o ex : Expr} {te tv : DE} {C : Addr} {f : Str} {pos pos' : Pos} {K : PySem.W.Frag} {W : Wd}
theorem putF_new {f : Str} {v : V} : ∀ {gs : List (Str × V)}, f ∉ gs.map (·.1) → putF f v gs = gs ++ [(f, v)]
  | [], _ => rfl
  | (g, w) :: gs, h => by
    have h1 : f ≠ g := fun e => h (by rw [e]; exact List.mem_cons_self)
    have h2 : f ∉ gs.map (·.1) := fun m => h (List.mem_cons_of_mem _ m)
    have ih := putF_new (v := v) h2
    unfold putF
    first
      | (rw [if_neg h1, ih]; rfl)
      | (rw [if_neg (Ne.symm h1), ih]; rfl)
      | simp [h1, Ne.symm h1, ih]
theorem ds_fld (c : Cls X.K C) (n : NoAttr X.K C f) (ho : PE X o (lE X.K B te)) (hv : PE X ex (lE X.K B tv)) (hs : swapsWith ex (some (.Attribute o f pos')) pos.line X.env = pure false := by rfl) :
    PS X (.Assign [.Attribute o f pos'] ex pos) (lS X.K B (sFldD C f te tv)) := PS.imp (ps_fld ho hv hs) fun E σ H h => by
  obtain ⟨W, e, P, bl, S, h, cv⟩ := lS_un h
  refine ⟨W, e, _, bl, S, h, fun d e1 W1 H1 v t1 l1 S1 r1 => ⟨W1, e1, _, B.up bl l1, S1, t1, fun ob e2 W2 H2 w t2 l2 S2 r2 => ?_⟩⟩
  obtain ⟨n', ns, xs, rfl, hc, hf, hl, p⟩ := t2
  cases r2 with
  | cell hm =>
    obtain ⟨dx, gs, h1, h2, h3⟩ := S2.ok.cl _ _ _ hm hc
    have hgl : gs.length = ns.length := by rw [← h2, List.length_map]
    have hf' : f ∉ gs.map (·.1) := by rw [h2]; exact hf
    refine ⟨_, C, dx, gs, rfl, h1, c, n, by rw [hgl]; omega, ?_⟩
    have r1' := R.mono l2 _ _ r1
    have fin : ∀ gs', gs' = gs ++ [(f, v)] → E.nx σ (upd H2 _ (.ins C dx gs')) := fun gs' e => by
      subst e
      refine cv.nx _ _ _ _ p (l1.tr l2) ⟨S2.ok.setC hm hc (fun z => nomatch z) ⟨dx, _, upd_same, by rw [List.map_append, h2]; rfl, ?_⟩, S2.sl⟩
      rw [List.map_append]
      exact h3.append (.cons r1' .nil)
    exact fin _ (putF_new hf')
end

/-! ### a def keeps its promise -/
mutual
theorem R.lo_of {K : PySem.W.Frag} {W : Wd} : ∀ (d : D) (v : V), R K W v d → loD W.m.length d = true
  | .non, _, _ => rfl
  | .bl _, _, _ => rfl
  | .int _, _, _ => rfl
  | .str _, _, _ => rfl
  | .tup xs, _, h => by
    cases h with
    | tup hs ha => exact RAll.lo_of xs _ ha
  | .lst xs, _, h => by
    cases h with
    | lst hs ha => exact RAll.lo_of xs _ ha
  | .fro xs, _, h => by
    cases h with
    | fro hs ha => exact RAll.lo_of xs _ ha
  | .ins _ _ xs, _, h => by
    cases h with
    | ins hs ha => exact RAll.lo_of xs _ ha
  | .cell n, _, h => by
    cases h with
    | cell hs => exact decide_eq_true (List.getElem?_eq_some_iff.mp hs).1
  | .dct, _, _ => rfl
  | .raw _, _, _ => rfl
theorem RAll.lo_of {K : PySem.W.Frag} {W : Wd} : ∀ (ds : List D) (vs : List V), RAll K W vs ds → los W.m.length ds = true
  | [], _, _ => rfl
  | d :: ds, _, h => by
    cases h with
    | cons h1 h2 =>
      show (loD _ d && los _ ds) = true
      rw [R.lo_of d _ h1, RAll.lo_of ds _ h2] <;> rfl
end
theorem Ok.cl_lo {K : PySem.W.Frag} {W : Wd} {H : Hp} {cs : List Cel} (h : Ok K W H cs) : ∀ c ∈ cs, c.loD cs.length = true := fun c hc => by
  obtain ⟨n, hn, e⟩ := List.mem_iff_getElem.mp hc
  have hm : n < W.m.length := by rw [h.len]; exact hn
  have x := h.cl n W.m[n] c (by simp [hm]) (by simp [hn, e])
  rw [← h.len]
  cases c with
  | dead => rfl
  | lst xs => obtain ⟨vs, _, r⟩ := x; exact RAll.lo_of _ _ r
  | ins C ns xs => obtain ⟨dx, gs, _, _, r⟩ := x; exact RAll.lo_of _ _ r
/-- what the caller sees of a def's end: its own cells (from k on) are forgotten, a new list of its own is handed on -/
def FinD (cs0 : List Cel) (P : D → List Cel → Prop) (d : D) (cs : List Cel) : Prop :=
  P d cs ∨ (loD cs0.length d = true ∧ (∀ c ∈ cs.take cs0.length, c ∈ cs0 ∨ c.loD cs0.length = true) ∧ P d (cs.take cs0.length)) ∨
  ∃ n xs, d = .cell n ∧ cs0.length ≤ n ∧ cs[n]? = some (.lst xs) ∧ los cs0.length xs = true ∧ (∀ c ∈ cs.take cs0.length, c ∈ cs0 ∨ c.loD cs0.length = true) ∧
    (P (.lst xs) (cs.take cs0.length) ∨ P (.cell cs0.length) (cs.take cs0.length ++ [.lst xs]))
/-- a list that was just made: the caller takes it as one that changes no more, or as a cell -/
def fresh (xs : List D) (cs : List Cel) (P : D → List Cel → Prop) : Prop := P (.lst xs) cs ∨ P (.cell cs.length) (cs ++ [.lst xs])
section
variable {K : PySem.W.Frag} {W0 W : Wd} {H0 H : Hp} {cs0 cs : List Cel}
theorem Ok.trim (h0 : Ok K W0 H0 cs0) (h : Ok K W H cs) (l : W0.le W) (hc : ∀ c ∈ cs.take cs0.length, c ∈ cs0 ∨ c.loD cs0.length = true) :
    Ok K ⟨W.F, W.m.take cs0.length, W.h⟩ H (cs.take cs0.length) ∧ W0.le ⟨W.F, W.m.take cs0.length, W.h⟩ := by
  refine ⟨h.low (List.all_eq_true.mpr fun c hm => (hc c hm).elim (h0.cl_lo c) fun z => z), l.1, ⟨[], ?_⟩, l.2.2⟩
  obtain ⟨more, e⟩ := l.2.1
  show W.m.take cs0.length = W0.m ++ []
  rw [e, ← h0.len, List.take_left, List.append_nil]
theorem fin_ok {P : D → List Cel → Prop} {Q : VK} (h0 : Ok K W0 H0 cs0) (k : ∀ d cs' W' H' v, P d cs' → W0.le W' → Ok K W' H' cs' → R K W' v d → Q v H') :
    ∀ d cs' W' H' v, FinD cs0 P d cs' → W0.le W' → Ok K W' H' cs' → R K W' v d → Q v H' := by
  intro d cs' W' H' v f l ok r
  rcases f with p | ⟨hd, hc, p⟩ | ⟨n, xs, rfl, hn, hx, hl, hc, p⟩
  · exact k _ _ _ _ _ p l ok r
  · obtain ⟨ok2, l2⟩ := h0.trim ok l hc
    exact k _ _ _ _ _ p l2 ok2 (R.low _ _ r hd)
  · cases r with
    | @cell _ a hm =>
      obtain ⟨vs, h1, h2⟩ := ok.cellL hm hx
      obtain ⟨ok2, l2⟩ := h0.trim ok l hc
      have r2 : RAll K ⟨W'.F, W'.m.take cs0.length, W'.h⟩ vs xs := RAll.low _ _ h2 hl
      have na : a ∉ W'.m.take cs0.length := fun hm2 => by
        obtain ⟨j, hj, e⟩ := List.mem_iff_getElem.mp hm2
        have hj' : j < cs0.length := by rw [List.length_take] at hj; omega
        have e2 : W'.m[j]? = some a := by
          rw [← e]
          have : (W'.m.take cs0.length)[j]? = W'.m[j]? := List.getElem?_take_of_lt hj'
          rw [← this]; exact List.getElem?_eq_getElem hj
        obtain ⟨g1, e1⟩ := List.getElem?_eq_some_iff.mp e2
        obtain ⟨g2, e3⟩ := List.getElem?_eq_some_iff.mp hm
        have := (List.getElem_inj ok.nd).mp (e1.trans e3.symm)
        omega
      have hF : W'.F a = none := (ok.fr n a _ hm hx).resolve_left fun z => nomatch z
      have nh : ∀ q ∈ W'.h, q.1 ≠ a := fun q hq e => (ok.hd q hq).2.2 (e ▸ List.mem_of_getElem? hm)
      -- as a hidden list, then shown
      have okh : Ok K ⟨W'.F, W'.m.take cs0.length, (a, vs) :: W'.h⟩ H' (cs'.take cs0.length) := by
        refine ⟨ok2.ex, ok2.len, ok2.nd, ok2.here, ok2.fr, fun n a c e1 e2 => ClOk.to (ok2.cl n a c e1 e2) rfl rfl, fun q hq => ?_, ?_⟩
        · rcases List.mem_cons.mp hq with rfl | hq
          · exact ⟨h1, hF, na⟩
          · exact ok2.hd q hq
        · show (a :: W'.h.map (·.1)).Nodup
          refine List.nodup_cons.mpr ⟨fun hm => ?_, ok.hn⟩
          obtain ⟨q, hq, e⟩ := List.mem_map.mp hm
          exact nh q hq e
      rcases p with p | p
      · obtain ⟨ok3, l3⟩ := okh.showF
        exact k _ _ _ _ _ p (l2.tr l3) ok3 (.lst upd_same (RAll.mono l3 _ _ r2))
      · obtain ⟨ok3, l3⟩ := okh.showC r2
        refine k _ _ _ _ _ p (l2.tr l3) ok3 (.cell ?_)
        show (W'.m.take cs0.length ++ [a])[cs0.length]? = some a
        have hl : (W'.m.take cs0.length).length = cs0.length := by
          obtain ⟨more, e⟩ := l.2.1
          rw [List.length_take, e, List.length_append, h0.len]; omega
        rw [List.getElem?_append_right (by omega), hl]
        simp
end
/-- a new instance: a cell, or one that changes no more -/
def eMake (C : Addr) (sp : Spc) (ta : DA) : DE := fun e P => ta e fun ds e1 => sp (.cell e1.cs.length :: ds) (e1.cs ++ [.ins C [] []]) fun r cs' => r = .non ∧
  (P (.cell e1.cs.length) { e1 with cs := cs' } ∨ ∃ cs1 C' ns xs, cs' = cs1 ++ [.ins C' ns xs] ∧ cs1.length = e1.cs.length ∧ los e1.cs.length xs = true ∧ (∀ c ∈ cs1, c ∈ e1.cs ∨ c.loD e1.cs.length = true) ∧ P (.ins C' ns xs) { e1 with cs := cs1 })
section
variable {K : PySem.W.Frag} {W : Wd} {H : Hp} {cs : List Cel}
theorem Ok.addF (h : Ok K W H cs) {a : Addr} {o : HO} (ha : H a = some o) (hF : W.F a = none) (hm : a ∉ W.m) (hh : ∀ q ∈ W.h, q.1 ≠ a) : Ok K ⟨upd W.F a o, W.m, W.h⟩ H cs ∧ W.le ⟨upd W.F a o, W.m, W.h⟩ := by
  have l : W.le ⟨upd W.F a o, W.m, W.h⟩ := ⟨Ex.new hF, ⟨[], (List.append_nil _).symm⟩, rfl⟩
  have ne : ∀ b ∈ W.m, b ≠ a := fun b hb e => hm (e ▸ hb)
  refine ⟨⟨fun b u e => ?_, h.len, h.nd, h.here, fun n b c e1 e2 => ?_, fun n b c e1 e2 => (h.cl n b c e1 e2).mono l, fun q hq => ?_, h.hn⟩, l⟩
  · have e : upd W.F a o b = some u := e
    by_cases q : b = a
    · subst q; rw [upd_same] at e; rw [ha]; exact e
    · rw [upd_ne q] at e; exact h.ex b u e
  · rcases h.fr n b c e1 e2 with q | q
    · exact .inl q
    · exact .inr (by show upd W.F a o b = none; rw [upd_ne (ne b (List.mem_of_getElem? e1))]; exact q)
  · obtain ⟨g1, g2, g3⟩ := h.hd q hq
    exact ⟨g1, by show upd W.F a o q.1 = none; rw [upd_ne (hh q hq)]; exact g2, g3⟩
theorem Ok.old_out (h : Ok K W H cs) {n k : Nat} {a : Addr} (hm : W.m[n]? = some a) (hk : k ≤ n := by exact Nat.le_refl _) : a ∉ W.m.take k := fun hm2 => by
  obtain ⟨j, hj, e⟩ := List.mem_iff_getElem.mp hm2
  have hj' : j < k := by rw [List.length_take] at hj; omega
  have e2 : W.m[j]? = some a := by
    rw [← e]
    have : (W.m.take k)[j]? = W.m[j]? := List.getElem?_take_of_lt hj'
    rw [← this]; exact List.getElem?_eq_getElem hj
  obtain ⟨g1, e1⟩ := List.getElem?_eq_some_iff.mp e2
  obtain ⟨g2, e3⟩ := List.getElem?_eq_some_iff.mp hm
  have := (List.getElem_inj h.nd).mp (e1.trans e3.symm)
  omega
end
section
variable {X : Cx} {B : Bs} {ex o : Expr} {es : List Expr} {te tv : DE} {ta : DA} {C : Addr} {f m x : Str} {pos apos p : Pos} {CX : CXT} {k : Nat} {fn pp : Addr} {fd : FuncData} {ps : List Str} {sp : Spc} {dvs : List V} {ds : List Value}
theorem de_make (M : Mk X.K C fn) (F : FnOk X.prog X.w X.K X.mg X.base CX0 k fn fd ps (spD X.K sp)) (hr : Room (k + 1) X.A) (hg : Gl X x) (hm : X.mg x = some (.ref C)) (hb : Binds X.K fd ps [])
    (ha : PA X (ex :: es) (lA X.K B ta)) (hdb : (x == ("__debug__" : Str)) = false := by decide) (he : starEach (ex :: es) X.env = (false, eval ex X.env) :: starEach es X.env := by rfl) (hpl : (backTo pos (starEach es X.env)).any (·.1) = false := by rfl) :
    PE X (.Call (.Name x p) (ex :: es) [] pos) (lE X.K B (eMake C sp ta)) :=
  PE.imp (pe_make M F hr hg hm hb .nil pass0 ha hdb he hpl) fun σ H Q ⟨W, e, P, bl, S, t, k⟩ => ⟨W, e, _, bl, S, t, fun ds e1 W1 H1 vs h l S1 r => fun x dx hx hdx hne => by
    have hx2 : upd H1 dx (.own x) x = none := by rw [upd_ne (Ne.symm hne)]; exact hx
    have okd : Ok X.K W1 (upd H1 dx (.own x)) e1.cs := by
      have ne : ∀ a ∈ W1.m, a ≠ dx := fun a ha e => S1.ok.fresh hdx (e ▸ ha)
      have neh : ∀ q ∈ W1.h, q.1 ≠ dx := fun q hq e => by
        have := (S1.ok.hd q hq).1
        rw [e, hdx] at this; cases this
      refine ⟨S1.ok.ex.trans (Ex.new hdx), S1.ok.len, S1.ok.nd, fun a ha => by rw [upd_ne (ne a ha)]; exact S1.ok.here a ha, S1.ok.fr, fun n a c e1 e2 => (S1.ok.cl n a c e1 e2).heap (upd_ne (ne a (List.mem_of_getElem? e1))), fun q hq => ?_, S1.ok.hn⟩
      obtain ⟨g1, g2, g3⟩ := S1.ok.hd q hq
      exact ⟨by rw [upd_ne (neh q hq)]; exact g1, g2, g3⟩
    obtain ⟨ok, l2⟩ := okd.newC (o := .ins C dx []) (c := .ins C [] []) hx2 fun W' l => ⟨dx, [], upd_same, rfl, .nil⟩
    have rc : R X.K ⟨W1.F, W1.m ++ [x], W1.h⟩ (.ref x) (.cell e1.cs.length) := .cell (by
      show (W1.m ++ [x])[e1.cs.length]? = some x
      rw [← S1.ok.len, List.getElem?_append_right (Nat.le_refl _)]
      simp)
    rw [List.append_nil]
    refine ⟨_, _, _, _, ok, .cons rc (RAll.mono l2 _ _ r), h, fun d cs' W3 H3 v ⟨hd, p⟩ l3 ok3 r3 => ⟨by subst hd; exact r3.non_inv, ?_⟩⟩
    rcases p with p | ⟨cs1, C', ns, xs, rfl, hl, hx, hc, p⟩
    · exact k _ _ _ _ _ p ((l.tr l2).tr l3) ⟨ok3, S1.sl.mono (l2.tr l3)⟩ (R.mono l3 _ _ rc)
    · have l13 := l2.tr l3
      have tk : (cs1 ++ [Cel.ins C' ns xs]).take e1.cs.length = cs1 := by rw [← hl]; exact List.take_left
      obtain ⟨ok4, l4⟩ := S1.ok.trim ok3 l13 (by rw [tk]; exact hc)
      rw [tk] at ok4
      have rc3 := R.mono l3 _ _ rc
      cases rc3 with
      | cell hm =>
        have hcl : (cs1 ++ [Cel.ins C' ns xs])[e1.cs.length]? = some (Cel.ins C' ns xs) := by
          rw [← hl, List.getElem?_append_right (Nat.le_refl _)]; simp
        obtain ⟨dx', gs, g1, g2, g3⟩ := ok3.cl _ _ _ hm hcl
        have g4 : RAll X.K ⟨W3.F, W3.m.take e1.cs.length, W3.h⟩ (gs.map (·.2)) xs := RAll.low _ _ g3 hx
        have hF : W3.F x = none := (ok3.fr _ _ _ hm hcl).resolve_left fun z => nomatch z
        obtain ⟨ok5, l5⟩ := ok4.addF g1 hF (ok3.old_out hm) (fun q hq e => (ok3.hd q hq).2.2 (e ▸ List.mem_of_getElem? hm))
        subst g2
        exact k _ _ _ _ _ p (l.tr (l4.tr l5)) ⟨ok5, S1.sl.mono (l4.tr l5)⟩ (.ins upd_same (RAll.mono l5 _ _ g4))⟩
end
def startD (N : List Str) (ds : List D) : List (Option D) := ds.map some ++ List.replicate (N.length - ds.length) none
theorem start_ok {K : PySem.W.Frag} {W : Wd} {N : List Str} {vs : List V} {ds : List D} (r : RAll K W vs ds) : SlO K W (L2.start N vs) (startD N ds) := by
  refine ⟨by simp [L2.start, startD, r.length], fun i d e => ?_⟩
  unfold startD at e
  unfold L2.start
  by_cases hi : i < ds.length
  · rw [List.getElem?_append_left (by simpa using hi), List.getElem?_map] at e
    cases h : ds[i]? with
    | none => rw [h] at e; cases e
    | some d' =>
      rw [h] at e
      cases e
      obtain ⟨v, hv, rv⟩ := r.get h
      exact ⟨v, by rw [List.getElem?_append_left (by rw [List.length_map, r.length]; exact hi), List.getElem?_map, hv] <;> rfl, rv⟩
  · rw [List.getElem?_append_right (by simpa using hi), List.getElem?_replicate] at e
    split at e <;> cases e
abbrev cx0 (P : Program) (w : World) (K : PySem.W.Frag) (mg : Str → Option Value) (base : Heap) (N : List Str) (qual : Str) (scope : Scope) (f : Addr) (cd : Value) (A : Around) (outer : List Env) (s : Shared) (H : Hp) (E : XK) : Cx := (cxOf CX0 P w K mg base N qual scope f cd A outer s H E).nox
/-- a def's end -/
def Po.fn (cs : List Cel) (Q : D → List Cel → Prop) : Po := { nx := fun e => FinD cs Q .non e.cs, rt := FinD cs Q }
/-- THE RULE for a def that raises nothing -/
theorem fn_d {P : Program} {w : World} {K : PySem.W.Frag} {mg : Str → Option Value} {base : Heap} {x qual : Str} {params : Arguments} {body : List Stmt} {scope : Scope} {dvs : List V} {kws : List (Str × V)} {f : Addr} {fd : FuncData} {N ps : List Str} {k : Nat} {sp : Spc} {t : DS}
    (F : FunD K x qual params body scope dvs kws f fd) (S : FnScope N ps scope) (len : ∀ ds cs Q, sp ds cs Q → ds.length = ps.length)
    (der : ∀ (cdv : Value) (A : Around) (outer : List Env) (s : Shared) (H : Hp) (E : XK) (B : Bs), Room k (A.deeper (envOfC qual scope s.heap.objs.size f cdv)) → PSs (cx0 P w K mg base N qual scope f cdv A outer s H E) body (lS K B t))
    (vc : ∀ ds cs Q, (∀ d ∈ ds, loD cs.length d = true) → (∀ c ∈ cs, c.loD cs.length = true) → sp ds cs Q → t (Po.fn cs Q) ⟨startD N ds, cs⟩) : FnOk P w K mg base CX0 (k + 1) f fd ps (spD K sp) := by
  refine F.ok S (fun vs H Q E ⟨W, cs, ds, P', ok, r, h, _⟩ => by rw [r.length]; exact len _ _ _ h) fun cdv A outer s H vs Q E hr ⟨W, cs, ds, P', ok, r, h, kk⟩ => ?_
  refine ⟨_, PSs.nox (der cdv A outer s H E (Bs.of W) hr), W, ⟨startD N ds, cs⟩, _, W.le_refl, ⟨ok, start_ok r⟩, vc ds cs P' (fun d hd => ?_) ok.cl_lo h, ?_, fin_ok ok kk, fun _ _ _ _ z => z.elim, fun _ _ _ _ z => z.elim⟩
  · obtain ⟨i, hi, e⟩ := List.mem_iff_getElem.mp hd
    obtain ⟨v, hv, rv⟩ := r.get (i := i) (d := d) (by simp [hi, e])
    rw [← ok.len]
    exact R.lo_of _ _ rv
  · exact fun e' W' H' σ' p l S' => fin_ok ok kk .non e'.cs W' H' .non p l S'.ok .non
end DL
namespace DL
open PySem PySem.Spec PyProof.Rows L2
open Evl (Ex)

/-! ### a list's methods -/
def MtD (K : PySem.W.Frag) (r : V → List V → Hp → VK → Prop) (q : D → List D → DE) : Prop := ∀ (W : Wd) (H : Hp) (σ : L2.St) (e : En) (x : V) (vs : List V) (d : D) (ds : List D) (P : D → En → Prop) (Q : VK), Sd K W H σ e → R K W x d → RAll K W vs ds → q d ds e P →
  (∀ d e' W' H' v, P d e' → W.le W' → Sd K W' H' σ e' → R K W' v d → Q v H') → r x vs H Q
def eBM (q : D → List D → DE) (te : DE) (ta : DA) : DE := fun e P => te e fun d e1 => (∃ xs, lk e1.cs d = some xs) ∧ ta e1 fun ds e2 => q d ds e2 P
def eBM0 (q : D → List D → DE) (te : DE) : DE := fun e P => te e fun d e1 => (∃ xs, lk e1.cs d = some xs) ∧ q d [] e1 P
section
variable {K : PySem.W.Frag} {X : Cx} {B : Bs} {o ex : Expr} {es : List Expr} {te : DE} {ta : DA} {name : Str} {apos cpos : Pos} {id : String} {r : V → List V → Hp → VK → Prop} {q : D → List D → DE}
theorem Ok.tyL {W : Wd} {H : Hp} {cs : List Cel} (h : Ok K W H cs) {d : D} {v : V} {xs : List D} (r : R K W v d) (e : DL.lk cs d = some xs) : tyV K "list" v H := by
  obtain ⟨a, vs, rfl, h1, _⟩ := h.lk r e
  exact .inl ⟨rfl, vs, h1⟩
theorem de_bm (pa : PlainAttrs "list") (slot : Slot "list" name id) (hty : typeOf (.builtin id) = pure (.type "method_descriptor")) (hm : MtR X id r) (hq : MtD X.K r q) (ho : PE X o (lE X.K B te)) (ha : PA X (ex :: es) (lA X.K B ta))
    (hbase : attributeBase o name X.env (eval o X.env) = eval o X.env := by rfl)
    (hfew : ((backTo cpos (starEach (ex :: es) X.env)).all (fun x => !x.1) && (backToKw cpos (keywordEach [] X.env)).all (fun x => x.1.isSome)
      && decide ((ex :: es).length + ([] : List Keyword).length + (if ([] : List Keyword).isEmpty then 0 else 1) < 30)) = true := by rfl)
    (hline : (apos.endLine == cpos.line) = true := by rfl) (hs : starEach (ex :: es) X.env = (false, eval ex X.env) :: starEach es X.env := by rfl) (hplain : (backTo cpos (starEach es X.env)).any (·.1) = false := by rfl) :
    PE X (.Call (.Attribute o name apos) (ex :: es) [] cpos) (lE X.K B (eBM q te ta)) :=
  PE.imp (pe_bm pa slot hty hm ho ha hbase hfew hline hs hplain) fun σ H Q ⟨W, e, P, bl, S, t, k⟩ => ⟨W, e, _, bl, S, t, fun d e1 W1 H1 v ⟨⟨xs, hx⟩, t1⟩ l1 S1 r1 =>
    ⟨S1.ok.tyL r1 hx, W1, e1, _, B.up bl l1, S1, t1, fun ds e2 W2 H2 vs t2 l2 S2 r2 => hq W2 H2 σ e2 v vs d ds P Q S2 (R.mono l2 _ _ r1) r2 t2 fun d e3 W3 H3 v3 p l3 S3 r3 => k d e3 W3 H3 v3 p ((l1.tr l2).tr l3) S3 r3⟩⟩
theorem de_bm0 (pa : PlainAttrs "list") (slot : Slot "list" name id) (hty : typeOf (.builtin id) = pure (.type "method_descriptor")) (hm : MtR X id r) (hq : MtD X.K r q) (ho : PE X o (lE X.K B te))
    (hbase : attributeBase o name X.env (eval o X.env) = eval o X.env := by rfl) (hline : (apos.endLine == cpos.line) = true := by rfl) : PE X (.Call (.Attribute o name apos) [] [] cpos) (lE X.K B (eBM0 q te)) :=
  PE.imp (pe_bm0 pa slot hty hm ho hbase hline) fun σ H Q ⟨W, e, P, bl, S, t, k⟩ => ⟨W, e, _, bl, S, t, fun d e1 W1 H1 v ⟨⟨xs, hx⟩, t1⟩ l1 S1 r1 =>
    ⟨S1.ok.tyL r1 hx, hq W1 H1 σ e1 v [] d [] P Q S1 r1 .nil t1 fun d e3 W3 H3 v3 p l3 S3 r3 => k d e3 W3 H3 v3 p (l1.tr l3) S3 r3⟩⟩
def qApp : D → List D → DE := fun d ds e P => ∃ n xs y, d = .cell n ∧ ds = [y] ∧ e.cs[n]? = some (.lst xs) ∧ xs.length < sizeLine ∧ P .non { e with cs := e.cs.set n (.lst (xs ++ [y])) }
theorem md_app : MtD K rAppend qApp := by
  rintro W H σ e x vs d ds P Q S r rs ⟨n, xs, y, rfl, rfl, hc, hz, p⟩ k
  obtain ⟨v, rfl, rv⟩ := rs.one
  cases r with
  | @cell _ a hm =>
    obtain ⟨vs, h1, h2⟩ := S.ok.cellL hm hc
    refine ⟨a, vs, v, rfl, rfl, h1, by rw [h2.length]; exact hz, ?_⟩
    exact k _ _ _ _ _ p W.le_refl ⟨S.ok.setC hm hc (fun z => nomatch z) ⟨_, upd_same, h2.app1 rv⟩, S.sl⟩ .non
def qRevM : D → List D → DE := fun d ds e P => ∃ n xs, d = .cell n ∧ e.cs[n]? = some (.lst xs) ∧ P .non { e with cs := e.cs.set n (.lst xs.reverse) }
theorem md_rev : MtD K rReverse (fun d ds e P => ds = [] ∧ qRevM d ds e P) := by
  rintro W H σ e x vs d ds P Q S r rs ⟨rfl, n, xs, rfl, hc, p⟩ k
  cases rs
  cases r with
  | @cell _ a hm =>
    obtain ⟨vs, h1, h2⟩ := S.ok.cellL hm hc
    refine ⟨a, vs, rfl, rfl, h1, ?_⟩
    exact k _ _ _ _ _ p W.le_refl ⟨S.ok.setC hm hc (fun z => nomatch z) ⟨_, upd_same, h2.reverse⟩, S.sl⟩ .non
end

/-! ### what is left to show, step by step -/
section
variable {e : En} {P : D → En → Prop} {PB : Bool → En → Prop} {PA' : List D → En → Prop} {Po' : Po} {i : Nat} {d x y : D} {ta tb tc te tv to ti : DE} {t u : DT} {q q' : D → D → DE} {a b : Int} {k : Bool} {s : DS} {A C : Prop} {o : Bool} {tr : DA}
theorem v_var (h : e.sl[i]? = some (some d)) (p : P d e) : eV i e P := ⟨d, h, p⟩
theorem v_c (p : P d e) : eC d e P := p
theorem v_bin (h : ta e fun x e1 => tb e1 fun y e2 => q x y e2 P) : eBin q ta tb e P := h
theorem v_chain (h : ta e fun x e1 => tb e1 fun y e2 => q x y e2 fun z e3 => ∃ k, z = .bl k ∧ if k = true then tc e3 fun w e4 => q' y w e4 P else P (.bl false) e3) : eChain q q' ta tb tc e P := h
theorem v_test (h : te e fun d e1 => ∃ k, d = .bl k ∧ PB k e1) : eTest te e PB := h
theorem v_tru (h : te e fun d e1 => ∃ k, tru e1.cs d = some k ∧ PB k e1) : eTru te e PB := h
theorem v_dand (h : t e fun c e1 => if c = true then u e1 PB else PB false e1) : dAnd t u e PB := h
theorem v_dor (h : t e fun c e1 => if c = true then PB true e1 else u e1 PB) : dOr t u e PB := h
theorem v_dnot (h : t e fun c e1 => PB (!c) e1) : dNot t e PB := h
theorem v_dyes (h : PB true e) : dYes e PB := h
theorem v_eand (h : ta e fun x e1 => ∃ c, x = .bl c ∧ if c = true then tb e1 P else P (.bl false) e1) : eAnd ta tb e P := h
theorem v_eor (h : ta e fun x e1 => ∃ c, x = .bl c ∧ if c = true then P (.bl true) e1 else tb e1 P) : eOr ta tb e P := h
theorem v_enot (h : ta e fun x e1 => ∃ c, x = .bl c ∧ P (.bl (!c)) e1) : eNot ta e P := h
theorem v_eif (h : t e fun c e1 => if c = true then ta e1 P else tb e1 P) : eIf t ta tb e P := h
theorem v_anil (h : PA' [] e) : aNil e PA' := h
theorem v_acons (h : te e fun d e1 => tr e1 fun ds e2 => PA' (d :: ds) e2) : aCons te tr e PA' := h
theorem v_tup (h : tr e fun ds e1 => ds.length ≤ sizeLine ∧ P (.tup ds) e1) : eTup tr e P := h
theorem v_lst (h : tr e fun ds e1 => ds.length ≤ sizeLine ∧ newL o ds e1 P) : eLst o tr e P := h
theorem v_newF {xs : List D} (h : P (.lst xs) e) : newL false xs e P := h
theorem v_newC {xs : List D} (h : P (.cell e.cs.length) { e with cs := e.cs ++ [.lst xs] }) : newL true xs e P := h
theorem v_cb {qq : List D → DE} (h : tr e fun ds e1 => qq ds e1 P) : eCB qq tr e P := h
theorem v_call {sp : Spc} (h : tr e fun ds e1 => sp ds e1.cs fun d cs' => P d { e1 with cs := cs' }) : eCall sp tr e P := h
theorem v_sl {tl th : DO} (h : te e fun x e1 => tl e1 fun l e2 => th e2 fun h e3 => qSl o x l h e3 P) : eSl o te tl th e P := h
theorem v_onone {PO' : Option Int → En → Prop} (h : PO' none e) : oNone e PO' := h
theorem v_osome {PO' : Option Int → En → Prop} (h : te e fun d e1 => ∃ i, d = .int i ∧ PO' (some i) e1) : oSome te e PO' := h
theorem v_bm {qq : D → List D → DE} (h : te e fun d e1 => (∃ xs, lk e1.cs d = some xs) ∧ tr e1 fun ds e2 => qq d ds e2 P) : eBM qq te tr e P := h
theorem v_bm0 {qq : D → List D → DE} (h : te e fun d e1 => (∃ xs, lk e1.cs d = some xs) ∧ qq d [] e1 P) : eBM0 qq te e P := h
theorem v_prop {C : Addr} {sp : Spc} (h : te e fun d e1 => (∃ ns xs, insD e1.cs d = some (C, ns, xs)) ∧ sp [d] e1.cs fun r cs' => P r { e1 with cs := cs' }) : eProp C sp te e P := h
theorem v_fld {C : Addr} {f : Str} (h : te e fun d e1 => ∃ ns xs v, insD e1.cs d = some (C, ns, xs) ∧ getF f ns xs = some v ∧ P v e1) : eFld C f te e P := h
theorem v_meth {C : Addr} {m : Str} {sp : Spc} (h : te e fun d e1 => (∃ ns xs, insD e1.cs d = some (C, ns, xs) ∧ m ∉ ns) ∧ tr e1 fun ds e2 => sp (d :: ds) e2.cs fun r cs' => P r { e2 with cs := cs' }) : eMeth C m sp te tr e P := h
theorem v_make {C : Addr} {sp : Spc} (h : tr e fun ds e1 => sp (.cell e1.cs.length :: ds) (e1.cs ++ [.ins C [] []]) fun r cs' => r = .non ∧
  (P (.cell e1.cs.length) { e1 with cs := cs' } ∨ ∃ cs1 C' ns xs, cs' = cs1 ++ [.ins C' ns xs] ∧ cs1.length = e1.cs.length ∧ los e1.cs.length xs = true ∧ (∀ c ∈ cs1, c ∈ e1.cs ∨ c.loD e1.cs.length = true) ∧ P (.ins C' ns xs) { e1 with cs := cs1 })) : eMake C sp tr e P := h
-- statements
theorem v_nthn {u : DS} (h : u Po' e) : (Po'.thn u).nx e := h
theorem v_rthn {u : DS} {cs : List Cel} (h : Po'.rt d cs) : (Po'.thn u).rt d cs := h
theorem v_bthn {u : DS} (h : Po'.bk e) : (Po'.thn u).bk e := h
theorem v_cthn {u : DS} (h : Po'.ct e) : (Po'.thn u).ct e := h
theorem v_nlp {N : En → Prop} (h : N e) : (Po'.lp N).nx e := h
theorem v_rlp {N : En → Prop} {cs : List Cel} (h : Po'.rt d cs) : (Po'.lp N).rt d cs := h
theorem v_blp {N : En → Prop} (h : Po'.nx e) : (Po'.lp N).bk e := h
theorem v_clp {N : En → Prop} (h : N e) : (Po'.lp N).ct e := h
theorem v_nfn {cs : List Cel} {Q : D → List Cel → Prop} (h : FinD cs Q .non e.cs) : (Po.fn cs Q).nx e := h
theorem v_rfn {cs cs' : List Cel} {Q : D → List Cel → Prop} (h : FinD cs Q d cs') : (Po.fn cs Q).rt d cs' := h
theorem v_break (h : Po'.bk e) : sBreak Po' e := h
theorem v_cont (h : Po'.ct e) : sCont Po' e := h
theorem v_seq {s1 s2 : DS} (h : s1 (Po'.thn s2) e) : sSeq s1 s2 Po' e := h
theorem v_next (h : Po'.nx e) : sNext Po' e := h
theorem v_drop (h : te e fun _ e1 => Po'.nx e1) : sDrop te Po' e := h
theorem v_ret (h : te e fun d e1 => Po'.rt d e1.cs) : sRet te Po' e := h
theorem v_retN (h : Po'.rt .non e.cs) : sRetN Po' e := h
theorem v_if {s1 s2 : DS} (h : t e fun b e1 => if b = true then s1 Po' e1 else s2 Po' e1) : sIf t s1 s2 Po' e := h
theorem v_asg (h : te e fun d e1 => Po'.nx { e1 with sl := e1.sl.set i (some d) }) : sAsg te i Po' e := h
theorem v_asgT {tg : Tg} (h : te e fun d e1 => ∃ sl', setTg tg d e1.sl = some sl' ∧ Po'.nx ⟨sl', e1.cs⟩) : sAsgT te tg Po' e := h
theorem v_lenL {xs : List D} (h : seqD e.cs d = some xs) (hs : ∀ s, d ≠ .str s) (p : P (.int xs.length) e) : qLen [d] e P := by
  cases d <;> first | exact absurd rfl (hs _) | exact ⟨xs, h, p⟩
theorem v_listL {xs : List D} (h : seqD e.cs d = some xs) (p : newL o xs e P) : qList o [d] e P := ⟨xs, h, p⟩
theorem v_tupL {xs : List D} (h : lk e.cs d = some xs) (ht : ∀ s, d ≠ .tup s) (p : P (.tup xs) e) : qTuple [d] e P := by
  cases d <;> first | exact absurd rfl (ht _) | exact ⟨xs, h, p⟩
theorem v_tupT {xs : List D} (p : P (.tup xs) e) : qTuple [.tup xs] e P := p
theorem v_sumL {ns : List Int} (h : seqD e.cs d = some (ns.map .int)) (p : P (.int ns.sum) e) : qSum [d] e P := ⟨ns, h, p⟩
theorem v_allL {bs : List Bool} (h : lk e.cs d = some (bs.map .bl)) (p : P (.bl (bs.all fun b => b)) e) : qAll [d] e P := ⟨bs, h, p⟩
theorem v_slL {xs : List D} {l h : Option Int} (h1 : lk e.cs d = some xs) (ht : ∀ s, d ≠ .tup s) (hs : ∀ s, d ≠ .str s) (p : newL o (cutD xs l h) e P) : qSl o d l h e P := by
  unfold qSl
  split
  · exact absurd rfl (ht _)
  · exact absurd rfl (hs _)
  · exact ⟨xs, h1, p⟩
theorem v_sub {tv to ti : DE} (h : tv e fun v e1 => to e1 fun o e2 => ti e2 fun i e3 => ∃ n xs k j, o = .cell n ∧ e3.cs[n]? = some (.lst xs) ∧ i = .int k ∧ ixN xs.length k = some j ∧ Po'.nx { e3 with cs := e3.cs.set n (.lst (xs.set j v)) }) : sSub tv to ti Po' e := h
theorem v_rev (h : te e fun x e1 => ∃ xs, lk e1.cs x = some xs ∧ newL o xs.reverse e1 P) : eRev o te e P := h
theorem v_sz {xs : List D} {p : Prop} (h : decide (xs.length ≤ 1000) = true) (q : p) : xs.length ≤ sizeLine ∧ p := ⟨Nat.le_trans (of_decide_eq_true h) (by decide), q⟩
-- operators on known kinds
theorem v_addI (p : P (.int (a + b)) e) : qAdd o (.int a) (.int b) e P := p
theorem v_subI (p : P (.int (a - b)) e) : qSub (.int a) (.int b) e P := p
theorem v_mulI (c : MulOk a b) (p : P (.int (a * b)) e) : qMul (.int a) (.int b) e P := ⟨c, p⟩
theorem v_fdivI (c : FdivOk a b) (p : P (.int (a / b)) e) : qFdiv (.int a) (.int b) e P := ⟨c, p⟩
theorem v_modI (c : 0 < b) (p : P (.int (a % b)) e) : qMod (.int a) (.int b) e P := ⟨c, p⟩
theorem v_powI (c : CPow a b) (p : P (.int (a ^ b.toNat)) e) : qPow (.int a) (.int b) e P := ⟨c, p⟩
theorem v_ltI (p : P (.bl (decide (a < b))) e) : qLt (.int a) (.int b) e P := p
theorem v_leI (p : P (.bl (decide (a ≤ b))) e) : qLe (.int a) (.int b) e P := p
theorem v_gtI (p : P (.bl (decide (b < a))) e) : qGt (.int a) (.int b) e P := p
theorem v_geI (p : P (.bl (decide (b ≤ a))) e) : qGe (.int a) (.int b) e P := p
theorem v_eqI (p : P (.bl (decide (a = b))) e) : qEq (.int a) (.int b) e P := p
theorem v_neI (p : P (.bl (!decide (a = b))) e) : qNe (.int a) (.int b) e P := p
theorem v_intI (p : P (.int a) e) : qInt [.int a] e P := p
theorem v_intB (p : P (.int (if k then 1 else 0)) e) : qInt [.bl k] e P := p
theorem v_isi {T : String} {c : String} (h : tyKnown T = true) (h1 : tyN e.cs d = some c) (p : P (.bl (isTy c T)) e) : qIsi [d, .raw (.ty T)] e P := ⟨h, c, h1, p⟩
theorem v_isiT {T c : String} (h : tyKnown T = true) (h1 : tyN e.cs d = some c) (h2 : isTy c T = true) (p : P (.bl true) e) : qIsi [d, .raw (.ty T)] e P := ⟨h, c, h1, by rw [h2]; exact p⟩
theorem v_isiF {T c : String} (h : tyKnown T = true) (h1 : tyN e.cs d = some c) (h2 : isTy c T = false) (p : P (.bl false) e) : qIsi [d, .raw (.ty T)] e P := ⟨h, c, h1, by rw [h2]; exact p⟩
theorem v_ixT {xs : List D} (h : atI xs a = some d) (p : P d e) : qIx (.tup xs) (.int a) e P := ⟨d, h, p⟩
theorem v_ixL {xs : List D} (h : atI xs a = some d) (p : P d e) : qIx (.lst xs) (.int a) e P := ⟨xs, rfl, d, h, p⟩
theorem v_ixC {n : Nat} {xs : List D} (hc : e.cs[n]? = some (.lst xs)) (h : atI xs a = some d) (p : P d e) : qIx (.cell n) (.int a) e P := ⟨xs, by show (match e.cs[n]? with | some (.lst xs) => some xs | _ => none) = some xs; rw [hc], d, h, p⟩
theorem tyN_cell {cs : List Cel} {n : Nat} {a : String} (h : tyN cs (.cell n) = some a) : a = "list" := by
  simp only [tyN] at h
  split at h
  · cases h; rfl
  · cases h
theorem v_ixCx {n : Nat} (h : ∃ xs d, e.cs[n]? = some (.lst xs) ∧ atI xs a = some d ∧ P d e) : qIx (.cell n) (.int a) e P := by
  obtain ⟨xs, d, h1, h2, h3⟩ := h
  exact v_ixC h1 h2 h3
theorem v_bl {PK : Bool → Prop} (h : PK k) : ∃ k', D.bl k = .bl k' ∧ PK k' := ⟨k, rfl, h⟩
theorem v_in {PK : Int → Prop} (h : PK a) : ∃ k', D.int a = .int k' ∧ PK k' := ⟨a, rfl, h⟩
theorem v_T {A B : Prop} (h : A) : if true = true then A else B := iteT h
theorem v_F {A B : Prop} (h : B) : if false = true then A else B := iteF h
theorem v_ite {c : Bool} {A B : Prop} (h1 : c = true → A) (h2 : c = false → B) : if c = true then A else B := by
  cases c with
  | true => exact iteT (h1 rfl)
  | false => exact iteF (h2 rfl)
theorem v_itd {c : Prop} [Decidable c] {A B : Prop} (h1 : c → A) (h2 : ¬ c → B) : if decide c = true then A else B := by
  by_cases h : c
  · rw [decide_eq_true h]; exact iteT (h1 h)
  · rw [decide_eq_false h]; exact iteF (h2 h)
theorem v_itdn {c : Prop} [Decidable c] {A B : Prop} (h1 : ¬ c → A) (h2 : c → B) : if (!decide c) = true then A else B := by
  by_cases h : c
  · rw [decide_eq_true h]; exact iteF (h2 h)
  · rw [decide_eq_false h]; exact iteT (h1 h)
end
end DL
namespace DL
open PySem PySem.Spec PyProof.Rows L2
open Evl (Ex)

/-- the def at f keeps its promise, at most k deep -/
def Good (P : Program) (w : World) (K : PySem.W.Frag) (mg : Str → Option Value) (base : Heap) (k : Nat) (f : Addr) (ps : List Str) (sp : Spc) : Prop :=
  ∃ fd, FnOk P w K mg base CX0 k f fd ps (spD K sp) ∧ Binds K fd ps [] ∧ PySem.W.keepIn K (.ref f) = true
theorem Good.mono {P : Program} {w : World} {K : PySem.W.Frag} {mg : Str → Option Value} {base : Heap} {j k : Nat} {f : Addr} {ps : List Str} {sp : Spc} (g : Good P w K mg base j f ps sp) (h : j ≤ k) : Good P w K mg base k f ps sp := by
  obtain ⟨fd, F, b, kp⟩ := g
  exact ⟨fd, F.mono h, b, kp⟩
section
variable {X : Cx} {B : Bs} {ex o a b : Expr} {es : List Expr} {te tv ta' tb' : DE} {ta : DA} {C : Addr} {f m x : Str} {pos apos p : Pos} {k : Nat} {fn pp : Addr} {ps : List Str} {sp : Spc}
theorem de_callG (G : Good X.prog X.w X.K X.mg X.base k fn ps sp) (hr : Room k X.A) (hm : X.mg x = some (.ref fn)) (ha : PA X (ex :: es) (lA X.K B ta)) (hg : Gl X x := by rfl) (hdb : (x == ("__debug__" : Str)) = false := by decide)
    (he : starEach (ex :: es) X.env = (false, eval ex X.env) :: starEach es X.env := by rfl) (hpl : (backTo pos (starEach es X.env)).any (·.1) = false := by rfl) : PE X (.Call (.Name x p) (ex :: es) [] pos) (lE X.K B (eCall sp ta)) := by
  obtain ⟨fd, F, b, kp⟩ := G
  exact de_call F hr hg hm kp b ha hdb he hpl
theorem de_propG (G : Good X.prog X.w X.K X.mg X.base k fn ps sp) (hr : Room (k + 1) X.A) (c : Cls X.K C) (hp : PropOf X.K C f pp fn) (he : PE X ex (lE X.K B te)) (hab : attributeBase ex f X.env (eval ex X.env) = eval ex X.env := by rfl) :
    PE X (.Attribute ex f pos) (lE X.K B (eProp C sp te)) := by
  obtain ⟨fd, F, b, kp⟩ := G
  exact de_prop c hp F hr b he hab
theorem de_methG {pl : Sem Bool} (G : Good X.prog X.w X.K X.mg X.base k fn ps sp) (hr : Room k X.A) (c : Cls X.K C) (hm : Meth X.K C m fn) (ho : PE X o (lE X.K B te)) (ha : PA X (ex :: es) (lA X.K B ta))
    (hst : starEach (ex :: es) X.env = (false, eval ex X.env) :: starEach es X.env := by rfl) (hpl : (backTo pos (starEach es X.env)).any (·.1) = false := by rfl)
    (ht : eval (.Call (.Attribute o m apos) (ex :: es) [] pos) X.env = (do
      let ov ← eval o X.env
      standAt apos.atName
      let (f, first) ← holding [ov] (getMethod ov m pl)
      callWith pos f first (backTo pos (starEach (ex :: es) X.env)) (backToKw pos (keywordEach [] X.env))) := by rfl) :
    PE X (.Call (.Attribute o m apos) (ex :: es) [] pos) (lE X.K B (eMeth C m sp te ta)) := by
  obtain ⟨fd, F, b, kp⟩ := G
  exact de_meth (pl := pl) c hm F hr b ho ha hst hpl ht
theorem de_methG0 {pl : Sem Bool} (G : Good X.prog X.w X.K X.mg X.base k fn ps sp) (hr : Room k X.A) (c : Cls X.K C) (hm : Meth X.K C m fn) (ho : PE X o (lE X.K B te))
    (ht : eval (.Call (.Attribute o m apos) [] [] pos) X.env = (do
      let ov ← eval o X.env
      standAt apos.atName
      let (f, first) ← holding [ov] (getMethod ov m pl)
      callWith pos f first (backTo pos (starEach [] X.env)) (backToKw pos (keywordEach [] X.env))) := by rfl) :
    PE X (.Call (.Attribute o m apos) [] [] pos) (lE X.K B (eMeth C m sp te aNil)) := by
  obtain ⟨fd, F, b, kp⟩ := G
  exact de_meth0 (pl := pl) c hm F hr b ho ht
theorem de_makeG (G : Good X.prog X.w X.K X.mg X.base k fn ps sp) (hr : Room (k + 1) X.A) (M : Mk X.K C fn) (hm : X.mg x = some (.ref C)) (ha : PA X (ex :: es) (lA X.K B ta)) (hg : Gl X x := by rfl) (hdb : (x == ("__debug__" : Str)) = false := by decide)
    (he : starEach (ex :: es) X.env = (false, eval ex X.env) :: starEach es X.env := by rfl) (hpl : (backTo pos (starEach es X.env)).any (·.1) = false := by rfl) : PE X (.Call (.Name x p) (ex :: es) [] pos) (lE X.K B (eMake C sp ta)) := by
  obtain ⟨fd, F, b, kp⟩ := G
  exact de_make M F hr hg hm b ha hdb he hpl
end

/-! ### own special methods -/
/-- the class at C has the special method m, the def at f -/
structure Sm (K : PySem.W.Frag) (C : Addr) (m : Str) (f : Addr) : Prop where
  at_ : PySem.W.findIn K (.ref C) m = some (some (.ref f))
  fn : PySem.W.isFn K (.ref f) = true
theorem Inv.inst {X : Cx} {pins : List (Addr × Obj)} {σ : L2.St} {H : Hp} {s : Shared} {a C dx : Addr} {fs : List (Str × V)} (I : Inv X pins σ H s) (e : H a = some (.ins C dx fs)) : ∃ od, PySem.W.InstAt s.heap a (PySem.W.instObj C dx) C (some od) := by
  obtain ⟨mA, O, _, _, _, _⟩ := ins_get I.hok e
  obtain ⟨od, J, _⟩ := O.look
  exact ⟨od, J⟩
/-- the callee at any nearness -/
theorem run_in {X : Cx} {pins : List (Addr × Obj)} {σ : L2.St} {H : Hp} {s : Shared} {A : Around} {k : Nat} {fn : Addr} {fd : FuncData} {ps : List Str} {sp : Sp} {Q : VK} {us : List Value} {vs : List V} (F : FnOk X.prog X.w X.K X.mg X.base CX0 k fn fd ps sp) (hb : Binds X.K fd ps []) (hr : Room k A)
    (e0 : Env0 X.prog X.w X.K X.mg X.base A X.stack s H) (I : Inv X pins σ H s) (r : Vals vs us) (h : sp vs H Q E0) {E : Value → Shared → Prop} : wpAny (model X.prog X.w) A (call (.ref fn) us) (EP X pins σ Q) E s := by
  have hl : (us ++ []).length = ps.length := by rw [List.append_nil, ← r.length]; exact F.len _ _ _ _ h
  have hbt := hb s us I.kIn hl
  rw [List.append_nil] at hbt
  refine wpAny_call (codeAny_mono (F.run A X.stack s H ⟨us, []⟩ us vs Q E0 hr e0 hbt r h) fun r s' hq => ?_)
  cases r with
  | error e => exact False.elim hq
  | ok fl =>
    cases fl with
    | ret u => exact I.after hq
    | next => exact False.elim hq
    | brk => exact False.elim hq
    | cont => exact False.elim hq
/-- two values, a promise -/
def rOwn1 (K : PySem.W.Frag) (C : Addr) (sp : Spc) (T : V → Prop) : V → Hp → VK → Prop := fun x H Q => ∃ a dx gs, x = .ref a ∧ H a = some (.ins C dx gs) ∧ spD K sp [.ref a] H (fun v H' => T v ∧ Q v H') E0
def rOwn2 (K : PySem.W.Frag) (C : Addr) (sp : Spc) (T : V → Prop) : R2 := fun x y H Q => ∃ a dx gs, x = .ref a ∧ H a = some (.ins C dx gs) ∧ spD K sp [.ref a, y] H (fun v H' => T v ∧ Q v H') E0
section
variable {X : Cx} {B : Bs} {C fn : Addr} {k : Nat} {ps : List Str} {sp : Spc} {K : PySem.W.Frag}
theorem call_lenO (G : Good X.prog X.w X.K X.mg X.base k fn ps sp) (hr : Room (k + 1) X.A) (sm : Sm X.K C "__len__" fn) : CallR X (.builtin "len") (fun xs H Q => ∃ x, xs = [x] ∧ rOwn1 X.K C sp (fun v => ∃ n : Int, v = .int n ∧ 0 ≤ n ∧ n < 2 ^ 63) x H Q) := by
  intro pins s σ H xs us Q I r h
  obtain ⟨x, rfl, a, dx, gs, rfl, ha, h⟩ := h
  obtain ⟨fd, F, b, kp⟩ := G
  obtain ⟨u, rfl, ru⟩ := vals1 r
  cases (show u = Value.ref a from ru)
  obtain ⟨od, J⟩ := Inv.inst I ha
  obtain ⟨m, hF⟩ := I.fr
  refine PySem.W.len_K hF I.ok.mod.kin J sm.at_ sm.fn (wpAny_mono (run_in (us := [.ref a]) (vs := [V.ref a]) F b hr.in1 I.env0.in1 I (.cons rfl .nil) h) (fun v s' z => ?_) fun _ _ z => z)
  obtain ⟨v', H', I', rv, ⟨n, rfl, h0, h1⟩, q⟩ := z
  obtain ⟨t, rfl⟩ := rv
  exact ⟨⟨h0, h1⟩, .int n, H', I'.tok _, ⟨_, rfl⟩, q⟩
/-- what an own special method asks, by data -/
def qOwn1 (C : Addr) (sp : Spc) (T : D → Prop) : D → DE := fun d e P => (∃ ns xs, insD e.cs d = some (C, ns, xs)) ∧ sp [d] e.cs fun r cs' => T r ∧ P r { e with cs := cs' }
def qOwn2 (C : Addr) (sp : Spc) (T : D → Prop) : D → D → DE := fun d y e P => (∃ ns xs, insD e.cs d = some (C, ns, xs)) ∧ sp [d, y] e.cs fun r cs' => T r ∧ P r { e with cs := cs' }
theorem own1_ok {T : V → Prop} {T' : D → Prop} (hT : ∀ W v d, R K W v d → T' d → T v) {W : Wd} {H : Hp} {σ : L2.St} {e : En} {x : V} {d : D} {P : D → En → Prop} {Q : VK} (S : Sd K W H σ e) (r : R K W x d) (t : qOwn1 C sp T' d e P)
    (kk : ∀ d e' W' H' v, P d e' → W.le W' → Sd K W' H' σ e' → R K W' v d → Q v H') : rOwn1 K C sp T x H Q := by
  obtain ⟨⟨ns, xs, hi⟩, h⟩ := t
  obtain ⟨a, dx, gs, rfl, h1, h2, h3⟩ := S.ok.ins r hi
  exact ⟨a, dx, gs, rfl, h1, W, e.cs, [d], _, S.ok, .cons r .nil, h, fun d cs' W' H' v ⟨t, p⟩ l ok r' => ⟨hT _ _ _ r' t, kk _ _ _ _ _ p l ⟨ok, S.sl.mono l⟩ r'⟩⟩
theorem own2_ok {T : V → Prop} {T' : D → Prop} (hT : ∀ W v d, R K W v d → T' d → T v) {W : Wd} {H : Hp} {σ : L2.St} {e : En} {x y : V} {d d2 : D} {P : D → En → Prop} {Q : VK} (S : Sd K W H σ e) (r : R K W x d) (r2 : R K W y d2) (t : qOwn2 C sp T' d d2 e P)
    (kk : ∀ d e' W' H' v, P d e' → W.le W' → Sd K W' H' σ e' → R K W' v d → Q v H') : rOwn2 K C sp T x y H Q := by
  obtain ⟨⟨ns, xs, hi⟩, h⟩ := t
  obtain ⟨a, dx, gs, rfl, h1, h2, h3⟩ := S.ok.ins r hi
  exact ⟨a, dx, gs, rfl, h1, W, e.cs, [d, d2], _, S.ok, .cons r (.cons r2 .nil), h, fun d cs' W' H' v ⟨t, p⟩ l ok r' => ⟨hT _ _ _ r' t, kk _ _ _ _ _ p l ⟨ok, S.sl.mono l⟩ r'⟩⟩
def lenT (d : D) : Prop := ∃ n : Int, d = .int n ∧ 0 ≤ n ∧ n < 2 ^ 63
def qLenO (C : Addr) (sp : Spc) : List D → DE
  | [d] => qOwn1 C sp lenT d
  | _ => fun _ _ => False
theorem cd_lenO : CallD K (fun xs H Q => ∃ x, xs = [x] ∧ rOwn1 K C sp (fun v => ∃ n : Int, v = .int n ∧ 0 ≤ n ∧ n < 2 ^ 63) x H Q) (qLenO C sp) := by
  intro W H σ e vs ds P Q S r t k
  unfold qLenO at t
  split at t
  · obtain ⟨v, rfl, r1⟩ := r.one
    exact ⟨v, rfl, own1_ok (fun W v d r ⟨n, e, h⟩ => ⟨n, by subst e; exact r.int_inv, h⟩) S r1 t k⟩
  · exact t.elim
variable {a b : Expr} {ta tb : DE} {pos : Pos}
theorem od_own2 {K : PySem.W.Frag} {T : V → Prop} {T' : D → Prop} (hT : ∀ W v d, R K W v d → T' d → T v) : OpD K (rOwn2 K C sp T) (qOwn2 C sp T') := fun W H σ e x y d1 d2 P Q S r1 r2 t k => own2_ok hT S r1 r2 t k
/-- o[i] -/
theorem pe_ixO {ta tb : TE} {T : V → Prop} (G : Good X.prog X.w X.K X.mg X.base k fn ps sp) (hr : Room (k + 1) X.A) (sm : Sm X.K C "__getitem__" fn) (hf : PySem.W.fnIn X.K fn = true) (ha : PE X a ta) (hb : PE X b tb)
    (hsl : ∀ x i, subscripted b true (.ref x) i = runValue (.builtin "lifetime.subscript" ⟨[.ref x, i], []⟩)) : PE X (.Subscript a b pos) (tOp (rOwn2 X.K C sp T) ta tb) := by
  refine ⟨fun pins s σ H Q I h => ?_⟩
  obtain ⟨fd, F, bi, kp⟩ := G
  refine Subscript_ (binT ha hb I h fun v u s2 x y H2 I2 rx ry q => ?_)
  obtain ⟨a', dx, gs, rfl, h1, h⟩ := q
  cases (show v = Value.ref a' from rx)
  obtain ⟨od, J⟩ := Inv.inst I2 h1
  obtain ⟨m, hF⟩ := I2.fr
  refine PySem.W.sub_K hF I2.ok.mod.kin J sm.at_ hf sm.fn (wpAny_mono (run_in (us := [.ref a', u]) (vs := [V.ref a', y]) F bi hr.in1 I2.env0.in1 I2 (.cons rfl (.cons ry .nil)) h) (fun v s' z => ?_) fun _ _ z => z) (hsl _ _)
  obtain ⟨v', H', I', rv, _, q⟩ := z
  exact ⟨v', H', I', rv, q⟩
theorem de_ixO (G : Good X.prog X.w X.K X.mg X.base k fn ps sp) (hr : Room (k + 1) X.A) (sm : Sm X.K C "__getitem__" fn) (hf : PySem.W.fnIn X.K fn = true) (ha : PE X a (lE X.K B ta)) (hb : PE X b (lE X.K B tb))
    (hsl : ∀ x i, subscripted b true (.ref x) i = runValue (.builtin "lifetime.subscript" ⟨[.ref x, i], []⟩) := by intros; with_unfolding_all rfl) : PE X (.Subscript a b pos) (lE X.K B (eBin (qOwn2 C sp fun _ => True) ta tb)) :=
  PE.imp (pe_ixO (T := fun _ => True) G hr sm hf ha hb hsl) (bin_ok (od_own2 fun _ _ _ _ _ => trivial))
theorem RelV.cmp {P : Value → Shared → Prop} {z : V} {v : Value} {s' : Shared} (r : RelV z v) (h : P v s') : PySem.W.CmpBack P v s' := by
  cases z with
  | non => cases (show v = Value.none from r); exact h
  | bl b => cases (show v = Value.bool b from r); exact h
  | int i =>
    obtain ⟨t, e⟩ := (show ∃ t, v = Value.int i t from r)
    cases e
    exact h
  | str x =>
    obtain ⟨t, e⟩ := (show ∃ t, v = Value.str x t from r)
    cases e
    exact h
  | byt b =>
    obtain ⟨t, e⟩ := (show ∃ t, v = Value.bytes b t from r)
    cases e
    exact h
  | flt b =>
    obtain ⟨t, e⟩ := (show ∃ t, v = Value.float b t from r)
    cases e
    exact h
  | ref a => cases (show v = Value.ref a from r); exact h
  | ty n => cases (show v = Value.type n from r); exact h
end
end DL
namespace DL
open PySem PySem.Spec PyProof.Rows L2
open Evl (Ex)

/-! ### a list or a tuple walked -/
section
variable {X : Cx} {B : Bs} {tg l ex : Expr} {te : DE}
def iAny (K : PySem.W.Frag) (tl : TE) : TI := fun σ H R => tl σ H fun x H1 => (∃ a, x = .ref a ∧ (∃ xs, SqL K H1 a xs) ∧ R (Itl K a) H1) ∨ ∃ a, x = .ref a ∧ (∃ xs, SqT K H1 a xs) ∧ R (Itt K a) H1
theorem pi_any {tl : TE} (hl : PE X l tl) : PI X tg l (iAny X.K tl) := by
  refine ⟨fun pins s σ H R I h => ?_⟩
  refine thn (hl.run pins s σ H _ I h) fun v s1 ⟨x, H1, I1, r1, q1⟩ => ?_
  rcases q1 with ⟨a, e, ⟨xs, hq⟩, q⟩ | ⟨a, e, ⟨xs, hq⟩, q⟩
  · subst e
    cases r1
    obtain ⟨its, rv, p, hz⟩ := I1.list hq
    refine wpAny_pyIter_list p.isList ?_
    refine ⟨s1.heap.objs.size, [s1.heap.objs.size], _, _, H1, rfl, I1.kept (t' := s1.toks) fun b o e => Heap.get?_push_of_some _ e, turn_list a _, ⟨_, Heap.get?_push_size _ rfl, rfl, rfl⟩, fun b hb => ?_, q⟩
    have e : b = s1.heap.objs.size := by simpa using hb
    subst e
    exact I1.fpOk (Nat.le_refl _) (I1.hok.fresh (Nat.le_refl _))
  · subst e
    cases r1
    obtain ⟨its, rv, p, hz⟩ := I1.tuple hq
    refine wpAny_pyIter_tuple (show s1.heap.IsTuple a its.toArray from p) ?_
    refine ⟨s1.heap.objs.size, [s1.heap.objs.size], _, _, H1, rfl, I1.kept (t' := s1.toks) fun b o e => Heap.get?_push_of_some _ e, turn_tuple a _, ⟨_, Heap.get?_push_size _ rfl, rfl, rfl⟩, fun b hb => ?_, q⟩
    have e : b = s1.heap.objs.size := by simpa using hb
    subst e
    exact I1.fpOk (Nat.le_refl _) (I1.hok.fresh (Nat.le_refl _))
/-- a list that changes no more, or a tuple -/
def fixS : D → Option (List D)
  | .lst xs => some xs
  | .fro xs => some xs
  | .tup xs => some xs
  | _ => none
/-- what is walked, and how -/
def itS (d : D) (e : En) (P : List D → (List Cel → Prop) → En → Prop) : Prop :=
  (∃ xs, fixS d = some xs ∧ P xs anyC e) ∨ ∃ n xs, d = .cell n ∧ e.cs[n]? = some (.lst xs) ∧ P xs (fun cs => cs[n]? = some (.lst xs)) e
def iS (t : DE) : DI := fun e P => t e fun d e1 => itS d e1 P
theorem di_any (h : PE X ex (lE X.K B te)) : PI X tg ex (lI X.K B (iS te)) := PI.imp (pi_any h) fun σ H Q ⟨W, e, P, bl, S, t, k⟩ => by
  refine ⟨W, e, _, bl, S, t, fun d e1 W1 H1 v hp l S1 r => ?_⟩
  rcases hp with ⟨xs, hx, p⟩ | ⟨n, xs, rfl, hc, p⟩
  · cases r <;> simp only [fixS] at hx <;> cases hx
    · exact .inr ⟨_, rfl, ⟨_, Evl.ex_t S1.ok.ex (by assumption)⟩, k _ _ _ _ _ _ p l S1 (wk_tup (by assumption) (by assumption))⟩
    · exact .inl ⟨_, rfl, ⟨_, SqL.of (S1.ok.ex _ _ (by assumption))⟩, k _ _ _ _ _ _ p l S1 (wk_list (SqL.of (by assumption)) (by assumption))⟩
    · exact .inl ⟨_, rfl, ⟨_, Evl.ex_l S1.ok.ex (by assumption)⟩, k _ _ _ _ _ _ p l S1 (wk_list (by assumption) (by assumption))⟩
  · cases r with
    | cell hm =>
      obtain ⟨vs, h1, _⟩ := S1.ok.cellL hm hc
      exact .inl ⟨_, rfl, ⟨_, SqL.of h1⟩, k _ _ _ _ _ _ p l S1 (wk_cell hm)⟩
theorem v_iS {t : DE} {e : En} {P : List D → (List Cel → Prop) → En → Prop} (h : t e fun d e1 => itS d e1 P) : iS t e P := h
theorem v_itF {d : D} {e : En} {P : List D → (List Cel → Prop) → En → Prop} (h : ∃ xs, fixS d = some xs ∧ P xs anyC e) : itS d e P := .inl h
theorem v_itC {n : Nat} {e : En} {P : List D → (List Cel → Prop) → En → Prop} (h : ∃ xs, e.cs[n]? = some (.lst xs) ∧ P xs (fun cs => cs[n]? = some (.lst xs)) e) : itS (.cell n) e P := let ⟨xs, h1, h2⟩ := h; .inr ⟨n, xs, rfl, h1, h2⟩
theorem v_iR1 {t : DA} {e : En} {P : List D → (List Cel → Prop) → En → Prop} (h : t e fun ds e1 => ∃ j, ds = [.int j] ∧ -(2 ^ 62) ≤ j ∧ j < 2 ^ 62 ∧ P (intsD 0 j.toNat) anyC e1) : iR1 t e P := h
theorem v_iR2 {t : DA} {e : En} {P : List D → (List Cel → Prop) → En → Prop} (h : t e fun ds e1 => ∃ i j, ds = [.int i, .int j] ∧ (-(2 ^ 62) ≤ i ∧ i < 2 ^ 62 ∧ -(2 ^ 62) ≤ j ∧ j < 2 ^ 62) ∧ P (intsD i (j - i).toNat) anyC e1) : iR2 t e P := h
end

/-! ### what the head tells -/
inductive At where
  | glo (x : Str)
  | met (c m : Str)
  | prp (c m : Str)
def pga (K : PySem.W.Frag) (C : Addr) (m : Str) : Addr := match PySem.W.recIn K (He.ma K C m) "property" with
  | some (.ref g :: _) => g
  | _ => 0
def At.ad (K : PySem.W.Frag) : At → Addr
  | .glo x => He.ga K x
  | .met c m => He.ma K (He.ga K c) m
  | .prp c m => pga K (He.ga K c) m
structure DefX where
  at_ : At
  name : Str
  qual : Str
  params : Arguments
  body : List Stmt
  scope : Scope
  dfl : List He.Dv := []
  kwd : List (Str × He.Dv) := []
def fnY (K : PySem.W.Frag) (p : At) : He.FnW := match K.lookup (p.ad K) with
  | some ⟨_, _, .func fd, _⟩ => some (fd.name, fd.qualname, fd.params, fd.body, fd.scope, fd.globals, fd.closure, fd.builtins)
  | _ => none
def DefX.val (d : DefX) : He.FnW := some (d.name, d.qual, d.params, .stmts d.body, d.scope, mainGlobals, [], builtinsNs)
def DefX.dvs (K : PySem.W.Frag) (d : DefX) : List V := d.dfl.map (He.Dv.v K)
def DefX.kws (K : PySem.W.Frag) (d : DefX) : List (Str × V) := d.kwd.map fun q => (q.1, q.2.v K)
def DefX.ok (K : PySem.W.Frag) (d : DefX) : Bool := PySem.W.keepIn K (.ref (d.at_.ad K)) && (match K.lookup (d.at_.ad K) with
  | some ⟨_, _, .func fd, _⟩ => PySem.W.codeIn K fd.code d.qual && (He.dflB K fd.defaults (d.dvs K) && He.kwdB K fd.kwdefaults (d.kws K))
  | _ => false)
theorem DefX.funD {K : PySem.W.Frag} {d : DefX} (e : fnY K d.at_ = d.val) (c : d.ok K = true) : ∃ fd, FunD K d.name d.qual d.params d.body d.scope (d.dvs K) (d.kws K) (d.at_.ad K) fd := by
  obtain ⟨kp, c2⟩ := He.ba c
  unfold fnY at e
  cases q : K.lookup (d.at_.ad K) with
  | none =>
    rw [q] at c2
    cases c2
  | some o =>
    obtain ⟨oc, od, dt, osl⟩ := o
    rw [q] at c2 e
    cases dt with
    | func fd =>
      obtain ⟨n1, n2, n3, n4, n5, n6, n7, n8, n9, n10, n11, n12, n13, n14, n15⟩ := fd
      have e2 : (some (n1, n2, n3, n4, n5, n6, n7, n15) : He.FnW) = some (d.name, d.qual, d.params, .stmts d.body, d.scope, mainGlobals, [], builtinsNs) := e
      simp only [Option.some.injEq, Prod.mk.injEq] at e2
      obtain ⟨h1, h2, h3, h4, h5, h6, h7, h8⟩ := e2
      subst h1 h2 h3 h4 h5 h6 h7 h8
      have c3 : (PySem.W.codeIn K n13 d.qual && (He.dflB K n8 (d.dvs K) && He.kwdB K n9 (d.kws K))) = true := c2
      obtain ⟨k1, k2⟩ := He.ba c3
      obtain ⟨k3, k4⟩ := He.ba k2
      exact ⟨_, ⟨oc, od, n8, n9, n10, n11, n12, n13, n14, osl, rfl, q, k1, He.dflB_ok k3, He.kwdB_ok k4⟩, kp⟩
    | _ => cases c2
/-- no slot of this number operator in the class C -/
structure NoSl (K : PySem.W.Frag) (C : Addr) (nm : String) : Prop where
  cd : ∃ cd, PySem.W.clsIn K C = some cd ∧ cd.mro = [.ref C, .type "object"]
  a : PySem.W.findIn K (.ref C) (PySem.dunder nm) = some none
  b : PySem.W.findIn K (.ref C) (dunderR nm) = some none
  oa : PySem.W.findIn K (.type "object") (PySem.dunder nm) = some none
  ob : PySem.W.findIn K (.type "object") (dunderR nm) = some none
def tysB : List String := ["NoneType", "bool", "int", "str", "tuple", "list", "dict"]
/-- an own exception class with its own __init__, as its object says -/
def oexO (C : Addr) (o : Obj) : Bool := decide (o.cls = .type "type") && match o.data with
  | .cls cd => !cd.hasDel && (cd.hasDict && match cd.mro with
    | .ref C' :: bm => decide (C' = C) && (PySem.HandSPX.refsVE bm && match o.slots.toList with
      | [_, _, _, _, some (.builtin n), _] => decide (n = "ValueError.__new__")
      | _ => false)
    | _ => false)
  | _ => false
def oexB (K : PySem.W.Frag) (C : Addr) : Bool := match K.lookup C with
  | some o => oexO C o
  | none => false
inductive Fx where
  | fa (f : He.Fa)
  | prop (c f : Str)
  | sm (c m : Str)
  | fnin (c m : Str)
  | tup (x : Str) (vs : List He.Dv)
  | insc (c : Str)
  | selff (c : Str)
  | noseq (c : Str)
  | nosl (c : Str) (nm : String)
  | kto (c : Str)
  | excc (c : Str)
  | exm (c : Str) (l : List (Str × Bool))
  | kito (c : Str) (l : List (Str × Bool))
  | kitb (T : String) (l : List (Str × Bool))
  | kita (cs : List Str) (l : List (Str × Bool))
  | oex (c : Str)
  | noix (c : Str)
  | exci (c : Str)
def Fx.ok (K : PySem.W.Frag) : Fx → Bool
  | .fa f => f.ok K
  | .prop c f => He.eqO (PySem.W.findIn K (.ref (He.ga K c)) f) (some (some (.ref (He.ma K (He.ga K c) f)))) && (He.eqO (PySem.W.specialIn K (.ref (He.ma K (He.ga K c) f)) "__get__") (some (some (.builtin "property.__get__"))) &&
      (decide (PySem.W.takesIn K (.ref (He.ma K (He.ga K c) f)) = some true) && (match PySem.W.recIn K (He.ma K (He.ga K c) f) "property" with
        | some (.ref g :: _) => decide (g = pga K (He.ga K c) f)
        | _ => false)))
  | .sm c m => He.eqO (PySem.W.findIn K (.ref (He.ga K c)) m) (some (some (.ref (He.ma K (He.ga K c) m)))) && PySem.W.isFn K (.ref (He.ma K (He.ga K c) m))
  | .fnin c m => PySem.W.fnIn K (He.ma K (He.ga K c) m)
  | .tup x vs => He.tupB K x vs
  | .insc c => (He.Fa.cls c).ok K && (He.eqO (PySem.W.findIn K (.ref (He.ga K c)) "__class__") (some (some (.builtin "object.__class__"))) && (He.eqO (PySem.W.specialIn K (.builtin "object.__class__") "__get__") (some (some (.builtin "getset_descriptor.__get__"))) &&
      (decide (PySem.W.takesIn K (.builtin "object.__class__") = some true) && decide (PySem.W.mroIn K (He.ga K c) (.type "object") = some true))))
  | .selff c => PySem.W.selfFirst K (He.ga K c)
  | .noseq c => PySem.W.noSeq K (He.ga K c)
  | .nosl c nm => (match PySem.W.clsIn K (He.ga K c) with
      | some cd => decide (cd.mro = [.ref (He.ga K c), .type "object"])
      | none => false) && (He.eqO (PySem.W.findIn K (.ref (He.ga K c)) (PySem.dunder nm)) (some none) && (He.eqO (PySem.W.findIn K (.ref (He.ga K c)) (dunderR nm)) (some none) &&
      (He.eqO (PySem.W.findIn K (.type "object") (PySem.dunder nm)) (some none) && He.eqO (PySem.W.findIn K (.type "object") (dunderR nm)) (some none))))
  | .kto c => tysB.all fun a => decide (PySem.W.kitOne K (.type a) (.ref (He.ga K c)) = some false)
  | .excc c => (He.Fa.exc c).ok K && (He.eqO (PySem.W.findIn K (.ref (He.ga K c)) "__getattribute__") (some (some (.builtin "BaseException.__getattribute__"))) && (He.eqO (PySem.W.findIn K (.ref (He.ga K c)) "__getattr__") (some none) &&
      (PySem.W.hasDictIn K (He.ga K c) && (He.eqO (PySem.W.findIn K (.ref (He.ga K c)) "__class__") (some (some (.builtin "object.__class__"))) && (He.eqO (PySem.W.specialIn K (.builtin "object.__class__") "__get__") (some (some (.builtin "getset_descriptor.__get__"))) &&
      (decide (PySem.W.takesIn K (.builtin "object.__class__") = some true) && decide (PySem.W.mroIn K (He.ga K c) (.type "object") = some true)))))))
  | .exm c l => l.all fun p => decide (PySem.W.exmOne K (.ref (He.ga K p.1)) (.ref (He.ga K c)) = some p.2)
  | .kito c l => l.all fun p => decide (PySem.W.kitOne K (.ref (He.ga K p.1)) (.ref (He.ga K c)) = some p.2)
  | .kitb T l => l.all fun p => decide (PySem.W.kitOne K (.ref (He.ga K p.1)) (.type T) = some p.2)
  | .kita cs l => l.all fun p => decide (PySem.W.kitAny K (.ref (He.ga K p.1)) (cs.map fun x => .ref (He.ga K x)) = some p.2)
  | .oex c => oexB K (He.ga K c) && (He.eqO (PySem.W.findIn K (.ref (He.ga K c)) "__setattr__") (some (some (.builtin "object.__setattr__"))) && (decide (PySem.W.subIn K (.ref (He.ga K c)) (.type "BaseException") = some true) &&
      (decide (PySem.W.typeIn K (.ref (He.ga K c)) = some (.type "type")) && PySem.W.keepIn K (.ref (He.ga K c)))))
  | .exci c => decide (PySem.W.subIn K (.ref (He.ga K c)) (.type "BaseException") = some true) && (He.eqO (PySem.W.findIn K (.ref (He.ga K c)) "__getattribute__") (some (some (.builtin "BaseException.__getattribute__"))) && (He.eqO (PySem.W.findIn K (.ref (He.ga K c)) "__getattr__") (some none) &&
      (PySem.W.hasDictIn K (He.ga K c) && (He.eqO (PySem.W.findIn K (.ref (He.ga K c)) "__class__") (some (some (.builtin "object.__class__"))) && (He.eqO (PySem.W.specialIn K (.builtin "object.__class__") "__get__") (some (some (.builtin "getset_descriptor.__get__"))) &&
      (decide (PySem.W.takesIn K (.builtin "object.__class__") = some true) && decide (PySem.W.mroIn K (He.ga K c) (.type "object") = some true)))))))
  | .noix c => He.eqO (PySem.W.findIn K (.ref (He.ga K c)) "index") (some none)
theorem prop_ok {K : PySem.W.Frag} {c f : Str} (h : (Fx.prop c f).ok K = true) : PropOf K (He.ga K c) f (He.ma K (He.ga K c) f) (pga K (He.ga K c) f) := by
  obtain ⟨h1, h2⟩ := He.ba h
  obtain ⟨h3, h4⟩ := He.ba h2
  obtain ⟨h5, h6⟩ := He.ba h4
  refine ⟨He.eqO_ok h1, He.eqO_ok h3, of_decide_eq_true h5, ?_⟩
  split at h6
  · rename_i g rest e
    exact ⟨rest, by rw [e, ← of_decide_eq_true h6]⟩
  · cases h6
theorem sm_ok {K : PySem.W.Frag} {c m : Str} (h : (Fx.sm c m).ok K = true) : Sm K (He.ga K c) m (He.ma K (He.ga K c) m) := by
  obtain ⟨h1, h2⟩ := He.ba h
  exact ⟨He.eqO_ok h1, h2⟩
theorem insc_ok {K : PySem.W.Frag} {c : Str} (h : (Fx.insc c).ok K = true) : C8.InsC K (He.ga K c) := by
  obtain ⟨h1, h2⟩ := He.ba h
  obtain ⟨h3, h4⟩ := He.ba h2
  obtain ⟨h5, h6⟩ := He.ba h4
  obtain ⟨h7, h8⟩ := He.ba h6
  exact ⟨He.cls_ok h1, He.eqO_ok h3, He.eqO_ok h5, of_decide_eq_true h7, of_decide_eq_true h8, by unfold PySem.W.kitOne; simp⟩
theorem kto_ok {K : PySem.W.Frag} {c : Str} (h : (Fx.kto c).ok K = true) : ∀ a ∈ tysB, PySem.W.kitOne K (.type a) (.ref (He.ga K c)) = some false := fun a m => of_decide_eq_true (List.all_eq_true.mp h a m)
theorem nosl_ok {K : PySem.W.Frag} {c : Str} {nm : String} (h : (Fx.nosl c nm).ok K = true) : NoSl K (He.ga K c) nm := by
  obtain ⟨h1, h2⟩ := He.ba h
  obtain ⟨h3, h4⟩ := He.ba h2
  obtain ⟨h5, h6⟩ := He.ba h4
  obtain ⟨h7, h8⟩ := He.ba h6
  refine ⟨?_, He.eqO_ok h3, He.eqO_ok h5, He.eqO_ok h7, He.eqO_ok h8⟩
  split at h1
  · rename_i cd e
    exact ⟨cd, e, of_decide_eq_true h1⟩
  · cases h1
theorem oexO_ok {C : Addr} {o : Obj} (h : oexO C o = true) : ∃ nm q N bs bm sn sub ab col dd k0 k1 k2 k3 k5, o = excClassObj nm q C N bs bm true sn sub ab col dd k0 k1 k2 k3 k5 "ValueError.__new__" ∧ PySem.HandSPX.refsVE bm = true := by
  obtain ⟨oc, od, dt, sl⟩ := o
  obtain ⟨h1, h0⟩ := Bool.and_eq_true_iff.mp (show (decide (oc = .type "type") && _) = true from h)
  have h1 : oc = .type "type" := of_decide_eq_true h1
  subst h1
  clear h
  split at h0
  · rename_i cd e
    have e : dt = .cls cd := e
    subst e
    have h2 := (Bool.and_eq_true_iff.mp h0).1
    replace h0 := (Bool.and_eq_true_iff.mp h0).2
    have h3 := (Bool.and_eq_true_iff.mp h0).1
    replace h0 := (Bool.and_eq_true_iff.mp h0).2
    obtain ⟨nm, bs, mro, ns, qn, hd, sn, sub, ab, col, del⟩ := cd
    dsimp only at h2 h3 h0
    split at h0
    · rename_i C' bm
      have h4 := (Bool.and_eq_true_iff.mp h0).1
      replace h0 := (Bool.and_eq_true_iff.mp h0).2
      have h5 := (Bool.and_eq_true_iff.mp h0).1
      replace h0 := (Bool.and_eq_true_iff.mp h0).2
      have h4 := of_decide_eq_true h4
      split at h0
      · rename_i k0 k1 k2 k3 n k5 hs
        have hn := of_decide_eq_true h0
        have hsl : sl = #[k0, k1, k2, k3, some (.builtin n), k5] := by
          obtain ⟨l⟩ := sl
          exact congrArg Array.mk hs
        have hdel : del = false := by simpa using h2
        subst h4 hn hsl hdel h3
        exact ⟨nm, qn, ns, bs, bm, sn, sub, ab, col, od, k0, k1, k2, k3, k5, rfl, h5⟩
      · exact absurd h0 Bool.false_ne_true
    · exact absurd h0 Bool.false_ne_true
  · exact absurd h0 Bool.false_ne_true
theorem oex_ok {K : PySem.W.Frag} {c : Str} (h : (Fx.oex c).ok K = true) : OexC K (He.ga K c) := by
  obtain ⟨h1, h⟩ := He.ba h
  obtain ⟨h2, h⟩ := He.ba h
  obtain ⟨h3, h⟩ := He.ba h
  obtain ⟨h4, h5⟩ := He.ba h
  refine ⟨?_, He.eqO_ok h2, of_decide_eq_true h3, of_decide_eq_true h4, h5⟩
  unfold oexB at h1
  split at h1
  · rename_i o e
    obtain ⟨nm, q, N, bs, bm, sn, sub, ab, col, dd, k0, k1, k2, k3, k5, e2, e3⟩ := oexO_ok h1
    subst e2
    exact ⟨nm, q, N, bs, bm, sn, sub, ab, col, dd, k0, k1, k2, k3, k5, e, e3⟩
  · cases h1
theorem noix_ok {K : PySem.W.Frag} {c : Str} (h : (Fx.noix c).ok K = true) : PySem.W.findIn K (.ref (He.ga K c)) "index" = some none := He.eqO_ok h
abbrev AlY : Type := Bool × List He.FnW
def obsY (fa : List Fx) (fn : List DefX) (K : PySem.W.Frag) : AlY := ((fa.all fun f => f.ok K) && fn.all fun d => d.ok K, fn.map fun d => fnY K d.at_)
def valY (fn : List DefX) : AlY := (true, fn.map DefX.val)
def SaysY (fa : List Fx) (fn : List DefX) (K : PySem.W.Frag) : Prop := obsY fa fn K = valY fn
def obsYG (n : Nat) (fa : List Fx) (fn : List DefX) (g : Addr → Option Obj) : AlY := obsY fa fn (He.frG g (He.asD g n))
def hookY (n : Nat) (fa : List Fx) (fn : List DefX) : PySem.W.Hook where
  α := AlY
  obs := fun s => obsYG n fa fn s.heap.get?
  val := fun _ => valY fn
  says := fun _ h => ∃ K : PySem.W.Frag, K.In h ∧ SaysY fa fn K
  of := fun _ _ e => ⟨_, He.frG_in, e⟩
  keeps := fun _ _ _ ⟨K, hK, c⟩ k => ⟨K, PySem.W.Frag.In.keeps hK k, c⟩
theorem obsYG_eq {n : Nat} {fa : List Fx} {fn : List DefX} {g : Addr → Option Obj} {s : Shared} (h : ∀ a, g a = s.heap.get? a) : obsYG n fa fn g = (hookY n fa fn).obs s := by
  have e : g = s.heap.get? := funext h
  rw [e] <;> rfl
section
variable {fa : List Fx} {fn : List DefX} {K : PySem.W.Frag}
theorem SaysY.fact (c : SaysY fa fn K) (i : Nat) {f : Fx} (h : fa[i]? = some f := by rfl) : f.ok K = true := by
  have c1 := (He.ba (show ((fa.all fun f => f.ok K) && fn.all fun d => d.ok K) = true from congrArg (fun z : AlY => z.1) c)).1
  exact List.all_eq_true.mp c1 f (List.mem_of_getElem? h)
theorem SaysY.def_ (c : SaysY fa fn K) (i : Nat) {d : DefX} (h : fn[i]? = some d := by rfl) : ∃ fd, FunD K d.name d.qual d.params d.body d.scope (d.dvs K) (d.kws K) (d.at_.ad K) fd := by
  have c2 := (He.ba (show ((fa.all fun f => f.ok K) && fn.all fun d => d.ok K) = true from congrArg (fun z : AlY => z.1) c)).2
  have e : fn.map (fun d => fnY K d.at_) = fn.map DefX.val := congrArg (fun z : AlY => z.2) c
  have e2 : (fn.map fun d => fnY K d.at_)[i]? = (fn.map DefX.val)[i]? := by rw [e]
  rw [List.getElem?_map, List.getElem?_map, h] at e2
  exact DefX.funD (Option.some.inj e2) (List.all_eq_true.mp c2 d (List.mem_of_getElem? h))
end
/-- a def of no defaults -/
theorem good_of {P : Program} {w : World} {K : PySem.W.Frag} {mg : Str → Option Value} {base : Heap} {x qual : Str} {params : Arguments} {body : List Stmt} {scope : Scope} {f : Addr} {N ps : List Str} {k : Nat} {sp : Spc} {t : DS}
    (F : ∃ fd, FunD K x qual params body scope [] [] f fd) (S : FnScope N ps scope) (len : ∀ ds cs Q, sp ds cs Q → ds.length = ps.length)
    (bi : ∀ (kV doc pm : Value) (an : Option Addr) (cdv ct : Value) (us : List Value), us.length = ps.length → bindArgs (PySem.W.fnOf x qual params body scope .none kV doc pm an cdv ct) ⟨us, []⟩ = pure (ps.zip us))
    (der : ∀ (cdv : Value) (A : Around) (outer : List Env) (s : Shared) (H : Hp) (E : XK) (B : Bs), Room k (A.deeper (envOfC qual scope s.heap.objs.size f cdv)) → PSs (cx0 P w K mg base N qual scope f cdv A outer s H E) body (lS K B t))
    (vc : ∀ ds cs Q, (∀ d ∈ ds, loD cs.length d = true) → (∀ c ∈ cs, c.loD cs.length = true) → sp ds cs Q → t (Po.fn cs Q) ⟨startD N ds, cs⟩) : Good P w K mg base (k + 1) f ps sp := by
  obtain ⟨fd, F⟩ := F
  exact ⟨fd, fn_d F S len der vc, F.bindsN bi, F.kp⟩
/-- what a law asks: the script, at most 63 ints; True -/
def spLaw : Spc := fun ds cs P => ∃ ns : List Int, ds = [.fro (ns.map .int)] ∧ ns.length ≤ 63 ∧ cs = [] ∧ ∀ cs', P (.bl true) cs'
theorem law_says {K : PySem.W.Frag} (H : Hp) (a : Addr) (ns : List Int) (hl : ns.length ≤ 63) (hS : SqL K H a (ns.map V.int)) : spD K spLaw [.ref a] H (fun v _ => v = .bl true) fun _ _ _ => False :=
  ⟨⟨H, [], []⟩, [], [.fro (ns.map .int)], fun d _ => d = .bl true, ⟨Ex.refl _, rfl, List.nodup_nil, fun _ h => (by cases h), fun n a c h => (by simp at h), fun n a c h => (by simp at h), fun _ h => (by cases h), List.nodup_nil⟩, .cons (.fro hS (RAll.ints ns)) .nil,
    ⟨ns, rfl, hl, rfl, fun _ => rfl⟩, fun d cs' W' H' v e _ _ r => by subst e; exact r.bl_inv⟩
theorem bt_len : bootBuiltins "len" = some (.builtin "len") := boot_len
theorem bt_all : bootBuiltins "all" = some (.builtin "all") := by decide +kernel
theorem bt_sum : bootBuiltins "sum" = some (.builtin "sum") := by decide +kernel
theorem bt_isinstance : bootBuiltins "isinstance" = some (.builtin "isinstance") := by decide +kernel
theorem bt_int : bootBuiltins "int" = some (.type "int") := by decide +kernel
theorem bt_bool : bootBuiltins "bool" = some (.type "bool") := by decide +kernel
theorem bt_tuple : bootBuiltins "tuple" = some (.type "tuple") := by decide +kernel
theorem bt_list : bootBuiltins "list" = some (.type "list") := by decide +kernel
theorem bt_str : bootBuiltins "str" = some (.type "str") := by decide +kernel
end DL
namespace DL
open PySem PySem.Spec PyProof.Rows L2
open Evl (Ex)

/-! ### data that stands for values of Lean -/
structure EqE {α : Type} [DecidableEq α] (enc : α → D) (n : Nat) : Prop where
  ok : ∀ a, okD (enc a) = true
  lay : ∀ a, (toP (enc a)).canLay0 = true
  dep : ∀ a, (toP (enc a)).depth ≤ n
  eqv : ∀ a b, PyData.eqv (toP (enc a)) (toP (enc b)) = decide (a = b)
section
variable {α : Type} [DecidableEq α] {enc : α → D} {n : Nat}
theorem EqE.shp (h : EqE enc n) (hn : n ≤ 64) (a : α) : shp (enc a) = true := by
  unfold DL.shp SeqAt.shaped
  rw [h.ok a, h.lay a, decide_eq_true (Nat.le_trans (h.dep a) hn)] <;> rfl
theorem EqE.oks (h : EqE enc n) : ∀ xs : List α, okDs (xs.map enc) = true
  | [] => rfl
  | x :: xs => by
    show (okD (enc x) && okDs (xs.map enc)) = true
    rw [h.ok x, h.oks xs] <;> rfl
theorem EqE.lays (h : EqE enc n) : ∀ xs : List α, PyData.canLayAll0 (toPs (xs.map enc)) = true
  | [] => rfl
  | x :: xs => by
    show ((toP (enc x)).canLay0 && PyData.canLayAll0 (toPs (xs.map enc))) = true
    rw [h.lay x, h.lays xs] <;> rfl
theorem EqE.deps (h : EqE enc n) : ∀ xs : List α, PyData.depthAll (toPs (xs.map enc)) ≤ n
  | [] => Nat.zero_le _
  | x :: xs => by
    have h1 := h.dep x
    have h2 := h.deps xs
    show PyData.depthAll (toP (enc x) :: toPs (xs.map enc)) ≤ n
    simp only [PyData.depthAll]
    omega
theorem EqE.eqvs (h : EqE enc n) : ∀ xs ys : List α, PyData.eqvAll (toPs (xs.map enc)) (toPs (ys.map enc)) = decide (xs = ys)
  | [], [] => rfl
  | [], y :: ys => rfl
  | x :: xs, [] => rfl
  | x :: xs, y :: ys => by
    show (PyData.eqv (toP (enc x)) (toP (enc y)) && PyData.eqvAll (toPs (xs.map enc)) (toPs (ys.map enc))) = decide (x :: xs = y :: ys)
    rw [h.eqv x y, h.eqvs xs ys]
    simp
theorem EqE.tup (h : EqE enc n) : EqE (fun xs : List α => D.tup (xs.map enc)) (n + 1) where
  ok := h.oks
  lay := fun xs => by
    show (PyData.tuple (toPs (xs.map enc))).canLay0 = true
    simp only [PyData.canLay0]
    exact h.lays xs
  dep := fun xs => by
    show (PyData.tuple (toPs (xs.map enc))).depth ≤ n + 1
    have := h.deps xs
    simp only [PyData.depth]
    omega
  eqv := fun xs ys => by
    show PyData.eqv (.tuple (toPs (xs.map enc))) (.tuple (toPs (ys.map enc))) = _
    simp only [PyData.eqv]
    exact h.eqvs xs ys
theorem EqE.lst (h : EqE enc n) : EqE (fun xs : List α => D.lst (xs.map enc)) (n + 1) where
  ok := h.oks
  lay := fun xs => by
    show (PyData.list (toPs (xs.map enc))).canLay0 = true
    simp only [PyData.canLay0]
    exact h.lays xs
  dep := fun xs => by
    show (PyData.list (toPs (xs.map enc))).depth ≤ n + 1
    have := h.deps xs
    simp only [PyData.depth]
    omega
  eqv := fun xs ys => by
    show PyData.eqv (.list (toPs (xs.map enc))) (.list (toPs (ys.map enc))) = _
    simp only [PyData.eqv]
    exact h.eqvs xs ys
end
theorem encI : EqE D.int 0 where
  ok := fun _ => rfl
  lay := fun _ => rfl
  dep := fun _ => by
    show (PyData.int _).depth ≤ 0
    simp [PyData.depth]
  eqv := fun a b => Bool.beq_eq_decide_eq a b
/-- a column of figures -/
def encC (c : List Int) : D := .tup (c.map .int)
theorem encCE : EqE encC 1 := encI.tup
/-- == of two lists or tuples, by Lean's -/
theorem v_eqE {α : Type} [DecidableEq α] {enc : α → D} {n : Nat} (h : EqE enc n) {a b : α} {e : En} {P : D → En → Prop} {x y : D} (hx : drf e.cs x = enc a) (hy : drf e.cs y = enc b) (p : P (.bl (decide (a = b))) e)
    (hn : n ≤ 64 := by decide) (hni : (∀ i, x ≠ .int i) ∨ (∀ i, y ≠ .int i) := by first | exact .inl (fun _ z => nomatch z) | exact .inr (fun _ z => nomatch z)) : qEq x y e P := by
  have q : shp (drf e.cs x) = true ∧ shp (drf e.cs y) = true ∧ P (.bl (PyData.eqv (toP (drf e.cs x)) (toP (drf e.cs y)))) e := by
    rw [hx, hy, h.eqv]
    exact ⟨h.shp hn a, h.shp hn b, p⟩
  unfold qEq
  split
  · rcases hni with z | z
    · exact absurd rfl (z _)
    · exact absurd rfl (z _)
  · exact q
theorem v_neE {α : Type} [DecidableEq α] {enc : α → D} {n : Nat} (h : EqE enc n) {a b : α} {e : En} {P : D → En → Prop} {x y : D} (hx : drf e.cs x = enc a) (hy : drf e.cs y = enc b) (p : P (.bl (!decide (a = b))) e)
    (hn : n ≤ 64 := by decide) (hni : (∀ i, x ≠ .int i) ∨ (∀ i, y ≠ .int i) := by first | exact .inl (fun _ z => nomatch z) | exact .inr (fun _ z => nomatch z)) : qNe x y e P := by
  have q : shp (drf e.cs x) = true ∧ shp (drf e.cs y) = true ∧ P (.bl (!PyData.eqv (toP (drf e.cs x)) (toP (drf e.cs y)))) e := by
    rw [hx, hy, h.eqv]
    exact ⟨h.shp hn a, h.shp hn b, p⟩
  unfold qNe
  split
  · rcases hni with z | z
    · exact absurd rfl (z _)
    · exact absurd rfl (z _)
  · exact q
/-! a list of cells' own data -/
theorem los_map {α : Type} {enc : α → D} {k : Nat} (h : ∀ a, loD k (enc a) = true) : ∀ xs : List α, los k (xs.map enc) = true
  | [] => rfl
  | x :: xs => by
    show (loD k (enc x) && los k (xs.map enc)) = true
    rw [h x, los_map h xs] <;> rfl
theorem los_int {k : Nat} (xs : List Int) : los k (xs.map .int) = true := los_map (fun _ => rfl) xs
theorem lo_encC {k : Nat} (c : List Int) : loD k (encC c) = true := los_int c
theorem los_encC {k : Nat} (cs : List (List Int)) : los k (cs.map encC) = true := los_map lo_encC cs
theorem los_bl {k : Nat} (xs : List Bool) : los k (xs.map .bl) = true := los_map (fun _ => rfl) xs
/-! looking -/
theorem lk_cell {cs : List Cel} {n : Nat} {xs : List D} (h : cs[n]? = some (.lst xs)) : lk cs (.cell n) = some xs := by
  show (match cs[n]? with | some (.lst xs) => some xs | _ => none) = some xs
  rw [h]
theorem drf_cell {cs : List Cel} {n : Nat} {xs : List D} (h : cs[n]? = some (.lst xs)) : drf cs (.cell n) = .lst xs := by
  show (match cs[n]? with | some (.lst xs) => .lst xs | _ => .cell n) = D.lst xs
  rw [h]
theorem atI_map {α : Type} {f : α → D} {xs : List α} {i : Nat} {x : α} (h : xs[i]? = some x) : atI (xs.map f) (i : Int) = some (f x) := atI_nat (by rw [List.getElem?_map, h] <;> rfl)
end DL
namespace DL
open PySem PySem.Spec PyProof.Rows L2
open Evl (Ex)

/-! ### more steps -/
theorem set_get {cs : List Cel} {n : Nat} {c0 c : Cel} (h : cs[n]? = some c0) : (cs.set n c)[n]? = some c := by
  have := (List.getElem?_eq_some_iff.mp h).1
  simp [this]
theorem app_get {cs : List Cel} {c : Cel} : (cs ++ [c])[cs.length]? = some c := by simp
theorem app_get_lt {cs : List Cel} {n : Nat} {c0 c : Cel} (h : cs[n]? = some c0) : (cs ++ [c])[n]? = some c0 := by
  have := (List.getElem?_eq_some_iff.mp h).1
  rw [List.getElem?_append_left this]; exact h
theorem cut63 (xs : List D) : cutD xs none (some 63) = xs.take 63 := by
  unfold cutD
  rw [HT.sIx_none, show (63 : Int) = ((63 : Nat) : Int) from rfl, HT.sIx_nat]
  simp
section
variable {e : En} {P : D → En → Prop} {tg : Tg} {tt : DT} {te : DE} {vs : List Nat} {o : Bool} {it : DI} {a b : Int} {G : List Cel → Prop}
theorem v_lc (h : it e fun ds G e1 => ds.length ≤ sizeLine ∧ ∃ I : Nat → List D → List Cel → Prop, I 0 [] e1.cs ∧
  (∀ i d acc cs, ds[i]? = some d → I i acc cs → G cs ∧ ∃ sl', setTg tg d (wipeD e1.sl vs) = some sl' ∧ tt ⟨sl', cs⟩ fun b e2 => if b = true then te e2 fun y e3 => I (i + 1) (acc ++ [y]) e3.cs else I (i + 1) acc e2.cs) ∧
  ∀ acc cs, acc.length ≤ ds.length → I ds.length acc cs → G cs ∧ newL o acc ⟨e1.sl, cs⟩ P) : eLc o it tg tt te vs e P := h
theorem v_for {Po' : Po} {tb : DS} (h : it e fun ds G e1 => ∃ I : Nat → En → Prop, I 0 e1 ∧
  (∀ i d e2, ds[i]? = some d → I i e2 → G e2.cs ∧ ∃ sl', setTg tg d e2.sl = some sl' ∧ tb (Po'.lp (I (i + 1))) ⟨sl', e2.cs⟩) ∧ ∀ e2, I ds.length e2 → G e2.cs ∧ Po'.nx e2) : sFor it tg tb Po' e := h
theorem v_j1 {PQ : List D → Prop} {n : Nat} (hn : n ≤ 1000) (h : PQ (intsD 0 n)) : ∃ j, [D.int n] = [.int j] ∧ -(2 ^ 62) ≤ j ∧ j < 2 ^ 62 ∧ PQ (intsD 0 j.toNat) :=
  ⟨n, rfl, by omega, by omega, h⟩
theorem v_j1i {PQ : List D → Prop} (h0 : -1000 ≤ a) (h1 : a ≤ 1000) (h : PQ (intsD 0 a.toNat)) : ∃ j, [D.int a] = [.int j] ∧ -(2 ^ 62) ≤ j ∧ j < 2 ^ 62 ∧ PQ (intsD 0 j.toNat) :=
  ⟨a, rfl, by omega, by omega, h⟩
theorem v_j2i {PQ : List D → Prop} (h0 : -1000 ≤ a) (h1 : a ≤ 1000) (h2 : -1000 ≤ b) (h3 : b ≤ 1000) (h : PQ (intsD a (b - a).toNat)) : ∃ i j, [D.int a, D.int b] = [.int i, .int j] ∧ (-(2 ^ 62) ≤ i ∧ i < 2 ^ 62 ∧ -(2 ^ 62) ≤ j ∧ j < 2 ^ 62) ∧ PQ (intsD i (j - i).toNat) :=
  ⟨a, b, rfl, ⟨by omega, by omega, by omega, by omega⟩, h⟩
theorem v_varX {i : Nat} (h : ∃ d, e.sl[i]? = some (some d) ∧ P d e) : eV i e P := h
theorem v_isXT {T : String} {d : D} (h : ∃ c, tyN e.cs d = some c ∧ isTy c T = true ∧ tyKnown T = true ∧ P (.bl true) e) : qIsi [d, .raw (.ty T)] e P := let ⟨_, h1, h2, h3, p⟩ := h; v_isiT h3 h1 h2 p
theorem v_isXF {T : String} {d : D} (h : ∃ c, tyN e.cs d = some c ∧ isTy c T = false ∧ tyKnown T = true ∧ P (.bl false) e) : qIsi [d, .raw (.ty T)] e P := let ⟨_, h1, h2, h3, p⟩ := h; v_isiF h3 h1 h2 p
theorem v_ixTX {xs : List D} (h : ∃ d, atI xs a = some d ∧ P d e) : qIx (.tup xs) (.int a) e P := h
theorem v_ixLX {xs : List D} (h : ∃ d, atI xs a = some d ∧ P d e) : qIx (.lst xs) (.int a) e P := let ⟨_, h1, p⟩ := h; v_ixL h1 p
theorem v_szX {xs : List D} {p : Prop} (h : decide (xs.length ≤ 1000) = true ∧ p) : xs.length ≤ sizeLine ∧ p := v_sz h.1 h.2
theorem v_fdivX (h : FdivOk a b ∧ P (.int (a / b)) e) : qFdiv (.int a) (.int b) e P := h
theorem v_mulX (h : MulOk a b ∧ P (.int (a * b)) e) : qMul (.int a) (.int b) e P := h
theorem v_modX (h : 0 < b ∧ P (.int (a % b)) e) : qMod (.int a) (.int b) e P := h
theorem v_powX (h : CPow a b ∧ P (.int (a ^ b.toNat)) e) : qPow (.int a) (.int b) e P := h
theorem v_j1X {PQ : Int → Prop} (h : (-1000 ≤ a ∧ a ≤ 1000) ∧ PQ a) : ∃ j, [D.int a] = [.int j] ∧ -(2 ^ 62) ≤ j ∧ j < 2 ^ 62 ∧ PQ j := ⟨a, rfl, by omega, by omega, h.2⟩
theorem v_j2X {PQ : Int → Int → Prop} (h : (-1000 ≤ a ∧ a ≤ 1000 ∧ -1000 ≤ b ∧ b ≤ 1000) ∧ PQ a b) : ∃ i j, [D.int a, D.int b] = [.int i, .int j] ∧ (-(2 ^ 62) ≤ i ∧ i < 2 ^ 62 ∧ -(2 ^ 62) ≤ j ∧ j < 2 ^ 62) ∧ PQ i j := ⟨a, b, rfl, ⟨by omega, by omega, by omega, by omega⟩, h.2⟩
theorem v_truB {b : Bool} {PK : Bool → Prop} (h : PK b) : ∃ k', tru e.cs (.bl b) = some k' ∧ PK k' := ⟨b, rfl, h⟩
theorem v_truB' {cs : List Cel} {b : Bool} {PK : Bool → Prop} (h : PK b) : ∃ k', tru cs (.bl b) = some k' ∧ PK k' := ⟨b, rfl, h⟩
theorem v_nT {A B : Prop} (h : B) : if (!true) = true then A else B := iteF h
theorem v_nF {A B : Prop} (h : A) : if (!false) = true then A else B := iteT h
theorem v_fix {d : D} {PQ : List D → Prop} (h : ∃ xs, fixS d = some xs ∧ PQ xs) : ∃ xs, fixS d = some xs ∧ PQ xs := h
theorem v_insX {cs : List Cel} {d : D} {C : Addr} {f : Str} {PQ : D → Prop} (h : ∃ ns xs v, insD cs d = some (C, ns, xs) ∧ getF f ns xs = some v ∧ PQ v) : ∃ ns xs v, insD cs d = some (C, ns, xs) ∧ getF f ns xs = some v ∧ PQ v := h
theorem v_insP {cs : List Cel} {d : D} {C : Addr} {R : Prop} (h : (∃ ns xs, insD cs d = some (C, ns, xs)) ∧ R) : (∃ ns xs, insD cs d = some (C, ns, xs)) ∧ R := h
theorem v_lkX {cs : List Cel} {d : D} {PQ : List D → Prop} (h : ∃ xs, lk cs d = some xs ∧ PQ xs) : ∃ xs, lk cs d = some xs ∧ PQ xs := h
theorem v_fldS {C : Addr} {f : Str} {to tv : DE} {Po' : Po} (h : tv e fun v e1 => to e1 fun o e2 => ∃ n ns xs, o = .cell n ∧ e2.cs[n]? = some (.ins C ns xs) ∧ f ∉ ns ∧ ns.length < 900 ∧ Po'.nx { e2 with cs := e2.cs.set n (.ins C (ns ++ [f]) (xs ++ [v])) }) : sFldD C f to tv Po' e := h
theorem v_lenK {d : D} {xs : List D} (h : lk e.cs d = some xs) (p : P (.int xs.length) e) : qLen [d] e P := by
  cases d <;> first | exact ⟨xs, h, p⟩ | cases h
theorem v_ixK {d y : D} {xs : List D} (h : lk e.cs d = some xs) (h2 : atI xs a = some y) (p : P y e) : qIx d (.int a) e P := by
  cases d <;> first | exact ⟨xs, h, y, h2, p⟩ | cases h
theorem seq_lk {cs : List Cel} {d : D} {xs : List D} (h : lk cs d = some xs) : seqD cs d = some xs := by
  cases d <;> first | exact h | cases h
theorem rep_map (k : Nat) (z : Int) : (List.range k).map (fun _ => D.int z) = (List.replicate k z).map D.int := by
  rw [List.map_replicate, List.map_const', List.length_range]
theorem v_tupK {d : D} {xs : List D} (h : lk e.cs d = some xs) (p : P (.tup xs) e) : qTuple [d] e P := by
  cases d <;> first | exact ⟨xs, h, p⟩ | cases h
theorem v_subX {cs : List Cel} {o i : D} {PQ : Nat → List D → Nat → Prop} (h : ∃ n xs k j, o = .cell n ∧ cs[n]? = some (.lst xs) ∧ i = .int k ∧ ixN xs.length k = some j ∧ PQ n xs j) : ∃ n xs k j, o = .cell n ∧ cs[n]? = some (.lst xs) ∧ i = .int k ∧ ixN xs.length k = some j ∧ PQ n xs j := h
theorem v_fldX {cs : List Cel} {o : D} {C : Addr} {f : Str} {PQ : Nat → List Str → List D → Prop} (h : ∃ n ns xs, o = .cell n ∧ cs[n]? = some (.ins C ns xs) ∧ f ∉ ns ∧ ns.length < 900 ∧ PQ n ns xs) : ∃ n ns xs, o = .cell n ∧ cs[n]? = some (.ins C ns xs) ∧ f ∉ ns ∧ ns.length < 900 ∧ PQ n ns xs := h
theorem lk_cell_iff {cs : List Cel} {n : Nat} {xs : List D} (h : lk cs (.cell n) = some xs) : cs[n]? = some (.lst xs) := by
  have h' : (match cs[n]? with | some (.lst xs) => some xs | _ => none) = some xs := h
  split at h'
  · rename_i e
    cases h'
    exact e
  · cases h'
theorem v_itK {d : D} {xs : List D} {P : List D → (List Cel → Prop) → En → Prop} (h : lk e.cs d = some xs) (p : ∀ G : List Cel → Prop, G e.cs → P xs G e) : itS d e P := by
  cases d with
  | lst ys => cases h; exact .inl ⟨_, rfl, p _ trivial⟩
  | fro ys => cases h; exact .inl ⟨_, rfl, p _ trivial⟩
  | cell n => exact .inr ⟨n, xs, rfl, lk_cell_iff h, p _ (lk_cell_iff h)⟩
  | _ => cases h
theorem lk_set {cs : List Cel} {n : Nat} {c c0 : Cel} {d : D} {xs : List D} (h : lk cs d = some xs) (hn : cs[n]? = some c0) (hc : ∀ ys, c0 ≠ .lst ys) : lk (cs.set n c) d = some xs := by
  cases d with
  | cell m =>
    have hm := lk_cell_iff h
    have hne : n ≠ m := by
      rintro rfl
      rw [hn] at hm
      cases hm
      exact hc _ rfl
    exact lk_cell (by rw [List.getElem?_set_ne hne]; exact hm)
  | _ => exact h
theorem lk_app {cs : List Cel} {c : Cel} {d : D} {xs : List D} (h : lk cs d = some xs) : lk (cs ++ [c]) d = some xs := by
  cases d with
  | cell m => exact lk_cell (app_get_lt (lk_cell_iff h))
  | _ => exact h
theorem ty_lk {cs : List Cel} {d : D} {xs : List D} (h : lk cs d = some xs) (hf : ∀ ys, d ≠ .fro ys) : tyN cs d = some "list" := by
  cases d with
  | cell m =>
    have := lk_cell_iff h
    show (match cs[m]? with | some (.lst _) => some "list" | _ => none) = some "list"
    rw [this]
  | lst ys => rfl
  | fro ys => exact absurd rfl (hf _)
  | _ => cases h
theorem trim_back {cs cs' : List Cel} {Q : D → List Cel → Prop} {d : D} (h : cs'.take cs.length = cs) (hl : loD cs.length d = true) (q : Q d cs) : FinD cs Q d cs' :=
  .inr (.inl ⟨hl, fun c hc => .inl (by rw [h] at hc; exact hc), by rw [h]; exact q⟩)
theorem sz_le {α : Type} {xs : List α} (h : xs.length ≤ 100000) : xs.length ≤ sizeLine := Nat.le_trans h (by decide)
/-- a comprehension that maps, and leaves the cells as they are -/
theorem v_lcT {α : Type} {ds : List D} {e1 : En} (xs : List α) (enc f : α → D) (hd : ds = xs.map enc) (hz : xs.length ≤ 100000)
  (turn : ∀ (Q : D → List Cel → Prop) (i : Nat) (x : α), xs[i]? = some x → Q (f x) e1.cs → ∃ sl', setTg tg (enc x) (wipeD e1.sl vs) = some sl' ∧ tt ⟨sl', e1.cs⟩ fun b e2 => b = true ∧ te e2 fun y e3 => Q y e3.cs) (hm : ∀ e (P P' : Bool → En → Prop), (∀ b e, P b e → P' b e) → tt e P → tt e P')
  (done : newL o (xs.map f) ⟨e1.sl, e1.cs⟩ P) (g : G e1.cs := by first | trivial | assumption) : ds.length ≤ sizeLine ∧ ∃ I : Nat → List D → List Cel → Prop, I 0 [] e1.cs ∧
  (∀ i d acc cs, ds[i]? = some d → I i acc cs → G cs ∧ ∃ sl', setTg tg d (wipeD e1.sl vs) = some sl' ∧ tt ⟨sl', cs⟩ fun b e2 => if b = true then te e2 fun y e3 => I (i + 1) (acc ++ [y]) e3.cs else I (i + 1) acc e2.cs) ∧
  ∀ acc cs, acc.length ≤ ds.length → I ds.length acc cs → G cs ∧ newL o acc ⟨e1.sl, cs⟩ P := by
  subst hd
  refine ⟨sz_le (by simpa using hz), fun i acc cs => acc = (xs.take i).map f ∧ cs = e1.cs, ⟨rfl, rfl⟩, ?_, ?_⟩
  · rintro i d acc cs hi ⟨rfl, rfl⟩
    simp only [List.getElem?_map, Option.map_eq_some_iff] at hi
    obtain ⟨x, hx, rfl⟩ := hi
    obtain ⟨sl', h1, h2⟩ := turn (fun y cs => (xs.take i).map f ++ [y] = (xs.take (i + 1)).map f ∧ cs = e1.cs) i x hx ⟨by rw [List.take_add_one, hx]; simp, rfl⟩
    refine ⟨g, sl', h1, hm _ _ _ ?_ h2⟩
    rintro b e2 ⟨rfl, h3⟩
    exact v_T h3
  · rintro acc cs _ ⟨rfl, rfl⟩
    exact ⟨g, by simpa using done⟩
/-- with no filter -/
theorem v_lcY {α : Type} {ds : List D} {e1 : En} (xs : List α) (enc f : α → D) (hd : ds = xs.map enc) (hz : xs.length ≤ 100000)
  (turn : ∀ (Q : D → List Cel → Prop) (i : Nat) (x : α), xs[i]? = some x → Q (f x) e1.cs → ∃ sl', setTg tg (enc x) (wipeD e1.sl vs) = some sl' ∧ te ⟨sl', e1.cs⟩ fun y e3 => Q y e3.cs)
  (done : newL o (xs.map f) ⟨e1.sl, e1.cs⟩ P) (g : G e1.cs := by first | trivial | assumption) : ds.length ≤ sizeLine ∧ ∃ I : Nat → List D → List Cel → Prop, I 0 [] e1.cs ∧
  (∀ i d acc cs, ds[i]? = some d → I i acc cs → G cs ∧ ∃ sl', setTg tg d (wipeD e1.sl vs) = some sl' ∧ dYes ⟨sl', cs⟩ fun b e2 => if b = true then te e2 fun y e3 => I (i + 1) (acc ++ [y]) e3.cs else I (i + 1) acc e2.cs) ∧
  ∀ acc cs, acc.length ≤ ds.length → I ds.length acc cs → G cs ∧ newL o acc ⟨e1.sl, cs⟩ P :=
  v_lcT xs enc f hd hz (fun Q i x hx q => let ⟨sl', h1, h2⟩ := turn Q i x hx q; ⟨sl', h1, rfl, h2⟩) (fun _ _ _ k h => k _ _ h) done g
/-- a def hands back the list it just made -/
theorem own_back {cs : List Cel} {Q : D → List Cel → Prop} {xs : List D} (h : los cs.length xs = true) (q : fresh xs cs Q) : FinD cs Q (.cell cs.length) (cs ++ [.lst xs]) := by
  have e : (cs ++ [Cel.lst xs]).take cs.length = cs := by simp
  refine .inr (.inr ⟨_, xs, rfl, Nat.le_refl _, app_get, h, ?_, ?_⟩)
  · rw [e]
    exact fun c hc => .inl hc
  · rw [e]
    exact q
theorem own_back2 {cs cs1 : List Cel} {Q : D → List Cel → Prop} {xs : List D} (hl : cs1.length = cs.length) (hc : ∀ c ∈ cs1, c ∈ cs ∨ c.loD cs.length = true) (h : los cs.length xs = true) (q : fresh xs cs1 Q) : FinD cs Q (.cell cs1.length) (cs1 ++ [.lst xs]) := by
  have e : (cs1 ++ [Cel.lst xs]).take cs.length = cs1 := by rw [← hl]; simp
  refine .inr (.inr ⟨_, xs, rfl, by rw [hl]; exact Nat.le_refl _, app_get, h, ?_, ?_⟩)
  · rw [e]
    exact hc
  · rw [e, ← hl]
    exact q
theorem set_lo {cs : List Cel} {n : Nat} {c : Cel} (h : c.loD cs.length = true) : ∀ x ∈ cs.set n c, x ∈ cs ∨ x.loD cs.length = true := fun x hx => by
  rcases List.mem_or_eq_of_mem_set hx with h1 | rfl
  · exact .inl h1
  · exact .inr h
theorem trim_back2 {cs cs' : List Cel} {Q : D → List Cel → Prop} {d : D} (hc : ∀ c ∈ cs'.take cs.length, c ∈ cs ∨ c.loD cs.length = true) (hl : loD cs.length d = true) (q : Q d (cs'.take cs.length)) : FinD cs Q d cs' := .inr (.inl ⟨hl, hc, q⟩)
end
end DL
namespace DL
open PySem PySem.Spec PyProof.Rows L2
open Evl (Ex)

/-! ### a field that is there already -/
def ixF (f : Str) : List Str → Option Nat
  | [] => none
  | n :: ns => if n = f then some 0 else (ixF f ns).map (· + 1)
theorem putF_upd {f : Str} {v : V} : ∀ {gs : List (Str × V)} {i : Nat}, ixF f (gs.map (·.1)) = some i → (putF f v gs).map (·.1) = gs.map (·.1) ∧ (putF f v gs).map (·.2) = (gs.map (·.2)).set i v
  | [], _, h => by cases h
  | (g, w) :: gs, i, h => by
    have h' : (if g = f then some 0 else (ixF f (gs.map (·.1))).map (· + 1)) = some i := h
    have e : putF f v ((g, w) :: gs) = if g = f then (g, v) :: gs else (g, w) :: putF f v gs := rfl
    rw [e]
    by_cases q : g = f
    · rw [if_pos q] at h' ⊢
      cases h'
      exact ⟨rfl, rfl⟩
    · rw [if_neg q] at h' ⊢
      rw [Option.map_eq_some_iff] at h'
      obtain ⟨j, hj, rfl⟩ := h'
      obtain ⟨h1, h2⟩ := putF_upd (v := v) hj
      exact ⟨by rw [List.map_cons, h1]; rfl, by rw [List.map_cons, h2]; rfl⟩
theorem RAll.setAt {K : PySem.W.Frag} {W : Wd} {vs : List V} {ds : List D} {v : V} {d : D} (r : RAll K W vs ds) (r1 : R K W v d) (i : Nat) : RAll K W (vs.set i v) (ds.set i d) := RAll.set r1 i r
/-- a store to a field: what is left to show -/
def updF (C : Addr) (f : Str) (o v : D) (e : En) (P : En → Prop) : Prop := ∃ n ns xs i, o = .cell n ∧ e.cs[n]? = some (.ins C ns xs) ∧ ns.length < 900 ∧ ixF f ns = some i ∧ P { e with cs := e.cs.set n (.ins C ns (xs.set i v)) }
section
variable {K : PySem.W.Frag} {W W0 : Wd} {H : Hp} {σ : L2.St} {e : En} {C : Addr} {f : Str} {o d : D} {P : En → Prop} {w v : V}
theorem updF_ok (S : Sd K W H σ e) (ro : R K W w o) (rv : R K W v d) (h : updF C f o d e P) : ∃ a dx gs, w = .ref a ∧ H a = some (.ins C dx gs) ∧ gs.length < 1000 ∧ ∃ e', P e' ∧ Sd K W (upd H a (.ins C dx (putF f v gs))) σ e' := by
  obtain ⟨n, ns, xs, i, rfl, hc, hl, hi, p⟩ := h
  cases ro with
  | cell hm =>
    obtain ⟨dx, gs, h1, h2, h3⟩ := S.ok.cl _ _ _ hm hc
    have hgl : gs.length = ns.length := by rw [← h2, List.length_map]
    have hi' : ixF f (gs.map (·.1)) = some i := by rw [h2]; exact hi
    obtain ⟨k1, k2⟩ := putF_upd (v := v) hi'
    refine ⟨_, dx, gs, rfl, h1, by omega, _, p, S.ok.setC hm hc (fun z => nomatch z) ⟨dx, _, upd_same, by rw [k1, h2], ?_⟩, S.sl⟩
    rw [k2]
    exact h3.setAt rv i
end
def sFldU (C : Addr) (f : Str) (to tv : DE) : DS := fun P e => tv e fun v e1 => to e1 fun o e2 => updF C f o v e2 P.nx
def sFldA (C : Addr) (f : Str) (q : D → D → DE) (to tv : DE) : DS := fun P e => to e fun o e1 => ∃ ns xs x, insD e1.cs o = some (C, ns, xs) ∧ getF f ns xs = some x ∧ tv e1 fun y e2 => q x y e2 fun z e3 => updF C f o z e3 P.nx
/-- a target, by data -/
abbrev DG := D → En → (En → Prop) → Prop
def lG (K : PySem.W.Frag) (B : Bs) (t : DG) : TG := fun v σ H Q => ∃ W e d P, B.p W ∧ Sd K W H σ e ∧ R K W v d ∧ t d e P ∧ ∀ e' W' H' σ', P e' → W.le W' → Sd K W' H' σ' e' → Q σ' H'
abbrev DGs := List D → En → (En → Prop) → Prop
def lGs (K : PySem.W.Frag) (B : Bs) (t : DGs) : TGs := fun vs σ H Q => ∃ W e ds P, B.p W ∧ Sd K W H σ e ∧ RAll K W vs ds ∧ t ds e P ∧ ∀ e' W' H' σ', P e' → W.le W' → Sd K W' H' σ' e' → Q σ' H'
theorem PG.imp {X : Cx} {tg : Expr} {t t' : TG} (h : PG X tg t) (i : ∀ v σ H Q, t' v σ H Q → t v σ H Q) : PG X tg t' := ⟨fun pins s σ H v u Q I r w => h.run pins s σ H v u Q I r (i v σ H Q w)⟩
theorem PGs.imp {X : Cx} {tg : List Expr} {t t' : TGs} (h : PGs X tg t) (i : ∀ v σ H Q, t' v σ H Q → t v σ H Q) : PGs X tg t' := ⟨fun pins s σ H v u Q I r w => h.run pins s σ H v u Q I r (i v σ H Q w)⟩
def gN (i : Nat) : DG := fun d e P => P { e with sl := e.sl.set i (some d) }
def gF (C : Addr) (f : Str) (to : DE) : DG := fun d e P => to e fun o e1 => updF C f o d e1 P
def gZ : DGs := fun ds e P => ds = [] ∧ P e
def gC (t : DG) (u : DGs) : DGs := fun ds e P => ∃ x xs, ds = x :: xs ∧ t x e fun e1 => u xs e1 P
def gT (n : Nat) (u : DGs) : DG := fun d e P => ∃ xs, d = .tup xs ∧ xs.length = n ∧ u xs e P
def sAsgG (t : DE) (g : DG) : DS := fun P e => t e fun d e1 => g d e1 P.nx
/-- two ints added in place -/
def qAddI : D → D → DE := fun x y e P => ∃ i j, x = .int i ∧ y = .int j ∧ P (.int (i + j)) e
section
variable {X : Cx} {B : Bs} {o ex tg : Expr} {te tv to : DE} {C : Addr} {f : Str} {pos pos' tpos : Pos} {ta : TE}
theorem ds_fldU (c : Cls X.K C) (n : NoAttr X.K C f) (ho : PE X o (lE X.K B te)) (hv : PE X ex (lE X.K B tv)) (hs : swapsWith ex (some (.Attribute o f pos')) pos.line X.env = pure false := by rfl) :
    PS X (.Assign [.Attribute o f pos'] ex pos) (lS X.K B (sFldU C f te tv)) := PS.imp (ps_fld ho hv hs) fun E σ H h => by
  obtain ⟨W, e, P, bl, S, h, cv⟩ := lS_un h
  refine ⟨W, e, _, bl, S, h, fun d e1 W1 H1 v t1 l1 S1 r1 => ⟨W1, e1, _, B.up bl l1, S1, t1, fun ob e2 W2 H2 w t2 l2 S2 r2 => ?_⟩⟩
  obtain ⟨a, dx, gs, rfl, h1, h2, e', p, S'⟩ := updF_ok S2 r2 (R.mono l2 _ _ r1) t2
  exact ⟨a, C, dx, gs, rfl, h1, c, n, h2, cv.nx _ _ _ _ p (l1.tr l2) S'⟩
theorem ds_fldA {op : Operator} {rd : V → V → Hp → VK → Prop} {q : D → D → DE} (c : Cls X.K C) (n : NoAttr X.K C f) (ho : PE X o (lE X.K B te)) (hv : PE X ex (lE X.K B tv)) (hop : InOp X op rd) (hq : OpD X.K rd q) :
    PS X (.AugAssign (.Attribute o f tpos) op ex pos) (lS X.K B (sFldA C f q te tv)) := PS.imp (ps_fldaug ho hv hop) fun E σ H h => by
  obtain ⟨W, e, P, bl, S, h, cv⟩ := lS_un h
  refine ⟨W, e, _, bl, S, h, fun ob e1 W1 H1 w t1 l1 S1 r1 => ?_⟩
  obtain ⟨ns, xs, x, hi, hx, t1⟩ := t1
  obtain ⟨a, dx, gs, rfl, h1, h2, h3⟩ := S1.ok.ins r1 hi
  obtain ⟨v, hv', rv⟩ := RAll.fld h2 h3 hx
  refine ⟨a, C, dx, gs, v, rfl, h1, c, n, hv', W1, e1, _, B.up bl l1, S1, t1, fun y e2 W2 H2 u t2 l2 S2 r2 => ?_⟩
  refine hq W2 H2 σ e2 v u x y _ _ S2 (R.mono l2 _ _ rv) r2 t2 fun z e3 W3 H3 zv t3 l3 S3 r3 => ?_
  obtain ⟨a', dx', gs', ea, h1', h2', e', p, S'⟩ := updF_ok S3 (R.mono (l2.tr l3) _ _ r1) r3 t3
  cases ea
  exact ⟨dx', gs', h1', h2', cv.nx _ _ _ _ p ((l1.tr l2).tr l3) S'⟩
theorem dg_name {i : Nat} {x : Str} (hN : X.N.Nodup) (hi : X.N[i]? = some x) (hx : Loc X.env.scope x) (hf : X.fn x = true ∨ X.env.scope.names.lookup x = some .local := by first | exact .inl rfl | exact .inr rfl | assumption) : PG X (.Name x pos) (lG X.K B (gN i)) :=
  PG.imp (pg_name hN hi hx hf) fun v σ H Q ⟨W, e, d, P, bl, S, r, p, k⟩ => k _ W H _ p W.le_refl ⟨S.ok, S.sl.set r⟩
/-- the field of an instance, a target -/
def gFldV (K : PySem.W.Frag) (ta : TE) (f : Str) : TG := fun y σ H Q => ta σ H fun x H2 => ∃ a C dx fs, x = .ref a ∧ H2 a = some (.ins C dx fs) ∧ Cls K C ∧ NoAttr K C f ∧ fs.length < 1000 ∧ Q σ (upd H2 a (.ins C dx (putF f y fs)))
theorem pg_fld (ha : PE X o ta) (hs : ∀ v, assign (.Attribute o f pos) X.env v = (do
      let ov ← holding [v] (eval o X.env)
      standAt pos.atName
      holding [v, ov] (setAttr ov f v)
      release [v, ov] []) := by intro _; rfl) : PG X (.Attribute o f pos) (gFldV X.K ta f) := by
  refine ⟨fun pins s σ H v u Q I r h => ?_⟩
  rw [hs]
  refine wpAny_bind (wpAny_holding (thn (ha.run pins s σ H _ I h) fun ov s1 ⟨x, H1, I1, r1, q1⟩ => ?_))
  obtain ⟨a, C, dx, fs, rfl, ea, c, n, l, q⟩ := q1
  obtain rfl : ov = Value.ref a := r1
  refine wpAny_bind (wpAny_standAt (wpAny_bind (wpAny_holding ?_)))
  exact setattr_ok I1 ea c n l r fun s3 I3 => wpAny_release ⟨σ, _, I3, q⟩
theorem dg_fld (c : Cls X.K C) (n : NoAttr X.K C f) (ho : PE X o (lE X.K B to)) (hs : ∀ v, assign (.Attribute o f pos) X.env v = (do
      let ov ← holding [v] (eval o X.env)
      standAt pos.atName
      holding [v, ov] (setAttr ov f v)
      release [v, ov] []) := by intro _; rfl) : PG X (.Attribute o f pos) (lG X.K B (gF C f to)) :=
  PG.imp (pg_fld ho hs) fun v σ H Q ⟨W, e, d, P, bl, S, r, t, k⟩ => ⟨W, e, _, bl, S, t, fun ob e1 W1 H1 w t1 l1 S1 r1 => by
    obtain ⟨a, dx, gs, rfl, h1, h2, e', p, S'⟩ := updF_ok S1 r1 (R.mono l1 _ _ r) t1
    exact ⟨a, C, dx, gs, rfl, h1, c, n, h2, k _ _ _ _ p l1 S'⟩⟩
theorem dg_nil : PGs X [] (lGs X.K B gZ) := PGs.imp pgs_nil fun vs σ H Q ⟨W, e, ds, P, bl, S, r, ⟨hd, p⟩, k⟩ => by
  subst hd
  cases r
  exact ⟨rfl, k _ _ _ _ p W.le_refl S⟩
theorem dg_cons {e0 : Expr} {es : List Expr} {t : DG} {u : DGs} (h1 : PG X e0 (lG X.K B t)) (h2 : PGs X es (lGs X.K B u))
    (hs : (assignEach (e0 :: es) X.env).map (·.2) = assign e0 X.env :: (assignEach es X.env).map (·.2) := by rfl) : PGs X (e0 :: es) (lGs X.K B (gC t u)) :=
  PGs.imp (pgs_cons h1 h2 hs) fun vs σ H Q ⟨W, e, ds, P, bl, S, r, ⟨x, xs, hd, p⟩, k⟩ => by
    subst hd
    cases r with
    | cons r1 r2 => exact ⟨_, _, rfl, W, e, _, _, bl, S, r1, p, fun e' W' H' σ' p' l' S' => ⟨W', e', _, _, B.up bl l', S', RAll.mono l' _ _ r2, p', fun e2 W2 H2 σ2 p2 l2 S2 => k _ _ _ _ p2 (l'.tr l2) S2⟩⟩
theorem dg_tup {es : List Expr} {k : Nat} {u : DGs} {n : Nat} (hc : X.calm = true) (h : PGs X es (lGs X.K B u))
    (hn : (assignEach es X.env).length = n := by rfl) (hst : (assignEach es X.env).findIdx? (·.1) = none := by rfl) : PG X (.Tuple es k pos) (lG X.K B (gT n u)) :=
  PG.imp (pg_tup hc h hn hst) fun v σ H Q ⟨W, e, d, P, bl, S, r, ⟨xs, hd, hl, p⟩, kk⟩ => by
    subst hd
    cases r with
    | tup h1 h2 => exact ⟨_, _, rfl, Evl.ex_t S.ok.ex h1, by rw [h2.length]; exact hl, W, e, _, _, bl, S, h2, p, kk⟩
theorem ds_asgG {g : DG} (he : PE X ex (lE X.K B te)) (hg : PG X tg (lG X.K B g)) (hs : swapsWithSole [tg] ex pos.line X.env = pure false := by rfl) (hw : swappedStores [tg] ex X.env = pure none := by rfl)
    (h1 : (assignEach [tg] X.env).map (·.2) = [assign tg X.env] := by rfl) : PS X (.Assign [tg] ex pos) (lS X.K B (sAsgG te g)) := PS.imp (ps_asg he hg hs hw h1) fun E σ H h => by
  obtain ⟨W, e, P, bl, S, h, c⟩ := lS_un h
  exact ⟨W, e, _, bl, S, h, fun d e1 W1 H1 v t1 l1 S1 r1 => ⟨W1, e1, d, _, B.up bl l1, S1, r1, t1, fun e' W' H' σ' p l S' => c.nx _ _ _ _ p (l1.tr l) S'⟩⟩
theorem od_inadd {K : PySem.W.Frag} : OpD K rAdd qAddI := fun W H σ e x y d1 d2 P Q S r1 r2 t k => by
  obtain ⟨i, j, rfl, rfl, p⟩ := t
  exact ⟨i, j, r1.int_inv, r2.int_inv, k _ _ _ _ _ p W.le_refl S (.int _)⟩
end
end DL
namespace DL
open PySem PySem.Spec PyProof.Rows L2
open Evl (Ex)

/-! ### operators of own classes -/
section
variable {K : PySem.W.Frag} {C C2 : Addr} {nm : String}
theorem NoSl.looks {M : Model} {h : Heap} (n : NoSl K C nm) (X : K.In h) : PySem.W.Looks M h (fillsNumberSlot (.ref C) nm) false := by
  intro A Q E s k q
  obtain ⟨cd, hc, hm⟩ := n.cd
  unfold fillsNumberSlot
  refine wpAny_bind ((PySem.W.looks_clsIn X hc).andThen (f := fun cd => pure cd.mro) .now A _ E s k ?_)
  rw [hm, List.anyM_cons]
  refine wpAny_bind ?_
  show wpAny M A (List.anyM _ [PySem.dunder nm, dunderR nm]) _ _ _
  rw [List.anyM_cons]
  refine wpAny_bind (wpAny_bind (PySem.W.looks_findIn X n.a A _ E s k ?_))
  dsimp only
  refine wpAny_pure ?_
  rw [if_neg (show ¬ (false = true) by simp), List.anyM_cons]
  refine wpAny_bind (wpAny_bind (PySem.W.looks_findIn X n.b A _ E s k ?_))
  dsimp only
  refine wpAny_pure ?_
  rw [if_neg (show ¬ (false = true) by simp)]
  refine wpAny_pure ?_
  rw [if_neg (show ¬ (false = true) by simp), List.anyM_cons]
  refine wpAny_bind (wpAny_bind (PySem.W.looks_findIn X n.oa A _ E s k (wpAny_bind (PySem.W.looks_findIn X n.ob A _ E s k ?_))))
  refine wpAny_pure ?_
  simp only [Option.isSome_none, Bool.false_and, Bool.or_self]
  rw [if_neg (show ¬ (false = true) by simp)]
  exact wpAny_pure q
end
section
variable {prog : Program} {w : World} {A : Around} {E : Value → Shared → Prop} {s : Shared} {K : PySem.W.Frag} {x C C2 L f : Addr} {h₀ : Heap} {m : Str → Option Value} {ox : Obj} {od : Option Obj}
open PySem.W in
/-- an operator of an own class, the other one of a class that has none -/
theorem binop_two {op : Operator} {b : Value} {Q : Value → Shared → Prop} (F : Fr h₀ L s.heap m) (X₀ : K.In h₀) (I : InstAt s.heap x ox C od) (hb : Looks (model prog w) s.heap (typeOf b) (.ref C2)) (n2 : NoSl K C2 op.info.2) (hc : selfFirst K C = true)
    (hs : findIn K (.ref C) (PySem.dunder op.info.2) = some (some (.ref f))) (hf : isFn K (.ref f) = true)
    (h : wpAny (model prog w) A (call (.ref f) [.ref x, b]) (PySem.W.CmpBack Q) E s) : wpAny (model prog w) A (binaryOp op (.ref x) b) Q E s := by
  have X := X₀.keeps F.keep
  obtain ⟨cd, hcd, hm⟩ := any_some hc
  obtain ⟨rest, hm⟩ : ∃ rest, cd.mro = .ref C :: rest := by
    cases q : cd.mro with
    | nil => rw [q] at hm; cases hm
    | cons a r => rw [q] at hm; exact ⟨r, by rw [List.head?_cons] at hm; cases (beq_iff_eq.mp hm); rfl⟩
  by_cases hcc : C = C2
  · subst hcc
    exact binop_K F X₀ I hb hc hs hf h
  have hne : (Value.ref C == Value.ref C2) = false := beq_eq_false_iff_ne.mpr fun e => hcc (by cases e; rfl)
  unfold binaryOp
  refine wpAny_holding (wpAny_bind ?_)
  unfold binaryOp1
  refine wpAny_bind (I.type.here (wpAny_bind (hb.here (wpAny_bind ((fills_K X hcd hm hs).here ?_)))))
  simp only [hne, Bool.false_eq_true, if_false]
  refine wpAny_bind ((n2.looks X).here ?_)
  simp only [Bool.and_false, Bool.false_eq_true, if_false, Bool.false_and]
  refine wpAny_bind (wpAny_pure ?_)
  simp only [Bool.and_false, Bool.false_eq_true, if_false, Bool.false_and]
  refine wpAny_bind (m := tryMethod (.ref x) _ b) ?_
  unfold tryMethod
  refine wpAny_bind (special_fn X I hs (beq_iff_eq.mp hf) (wpAny_mono h (fun v s' hv => ?_) fun _ _ e => e))
  cases v <;> first | exact hv.elim | exact wpAny_pure (wpAny_pure (wpAny_pure hv))
end
/-- a call of two values, the second one an instance of C2 -/
def rTwo (K : PySem.W.Frag) (C C2 : Addr) (sp : Spc) : R2 := fun x y H Q => ∃ a dx gs b dy gt, x = .ref a ∧ H a = some (.ins C dx gs) ∧ y = .ref b ∧ H b = some (.ins C2 dy gt) ∧ spD K sp [.ref a, .ref b] H Q E0
def qTwo (C C2 : Addr) (sp : Spc) : D → D → DE := fun d y e P => (∃ ns xs, insD e.cs d = some (C, ns, xs)) ∧ (∃ ns xs, insD e.cs y = some (C2, ns, xs)) ∧ sp [d, y] e.cs fun r cs' => P r { e with cs := cs' }
theorem od_two {K : PySem.W.Frag} {C C2 : Addr} {sp : Spc} : OpD K (rTwo K C C2 sp) (qTwo C C2 sp) := fun W H σ e x y d1 d2 P Q S r1 r2 ⟨⟨n1, x1, i1⟩, ⟨n2, x2, i2⟩, t⟩ k => by
  obtain ⟨a, dx, gs, rfl, h1, h2, h3⟩ := S.ok.ins r1 i1
  obtain ⟨b, dy, gt, rfl, h1', h2', h3'⟩ := S.ok.ins r2 i2
  exact ⟨a, dx, gs, b, dy, gt, rfl, h1, rfl, h1', W, e.cs, [d1, d2], _, S.ok, .cons r1 (.cons r2 .nil), t, fun d cs' W' H' v p l ok r' => k _ _ _ _ _ p l ⟨ok, S.sl.mono l⟩ r'⟩
section
variable {X : Cx} {C C2 fn : Addr} {k : Nat} {ps : List Str} {sp : Spc}
theorem cmp_eq {op : CmpOp} (h1 : op ≠ .Is) (h2 : op ≠ .IsNot) (h3 : op ≠ .In) (h4 : op ≠ .NotIn) (a b : Value) : compareOp op a b = richCompare op a b := by
  cases op <;> first | rfl | exact absurd rfl ‹_›
theorem op_cmpO {op : CmpOp} (G : Good X.prog X.w X.K X.mg X.base k fn ps sp) (hr : Room k X.A) (hu : X.A.units < cLine) (sm : Sm X.K C (cmpInfo op).2.1 fn) (hop : ∀ a b, compareOp op a b = richCompare op a b := by intros; rfl) : OpR X (compareOp op) (rTwo X.K C C sp) := by
  rintro pins s σ H x y v u Q I rx ry ⟨a, dx, gs, b, dy, gt, rfl, ha, rfl, hb, h⟩
  obtain ⟨fd, F, bi, kp⟩ := G
  cases (show v = Value.ref a from rx)
  cases (show u = Value.ref b from ry)
  obtain ⟨od, J⟩ := Inv.inst I ha
  obtain ⟨od2, J2⟩ := Inv.inst I hb
  obtain ⟨m, hF⟩ := I.fr
  rw [hop]
  refine PySem.W.cmp_K hu hF I.ok.mod.kin J J2.type (by unfold PySem.W.notFirst; simp) sm.at_ sm.fn (wpAny_mono (run_in (us := [.ref a, .ref b]) (vs := [V.ref a, V.ref b]) F bi hr I.env0 I (.cons rfl (.cons rfl .nil)) h) (fun v s' z => ?_) fun _ _ z => z)
  obtain ⟨v', H', I', rv, q⟩ := z
  exact RelV.cmp rv (P := EP X pins σ Q) ⟨v', H', I', rv, q⟩
theorem op_binO {op : Operator} (G : Good X.prog X.w X.K X.mg X.base k fn ps sp) (hr : Room k X.A) (sm : Sm X.K C (PySem.dunder op.info.2) fn) (hc : PySem.W.selfFirst X.K C = true) : OpR X (binaryOp op) (rTwo X.K C C sp) := by
  rintro pins s σ H x y v u Q I rx ry ⟨a, dx, gs, b, dy, gt, rfl, ha, rfl, hb, h⟩
  obtain ⟨fd, F, bi, kp⟩ := G
  cases (show v = Value.ref a from rx)
  cases (show u = Value.ref b from ry)
  obtain ⟨od, J⟩ := Inv.inst I ha
  obtain ⟨od2, J2⟩ := Inv.inst I hb
  obtain ⟨m, hF⟩ := I.fr
  refine PySem.W.binop_K hF I.ok.mod.kin J J2.type hc sm.at_ sm.fn (wpAny_mono (run_in (us := [.ref a, .ref b]) (vs := [V.ref a, V.ref b]) F bi hr I.env0 I (.cons rfl (.cons rfl .nil)) h) (fun v s' z => ?_) fun _ _ z => z)
  obtain ⟨v', H', I', rv, q⟩ := z
  exact RelV.cmp rv (P := EP X pins σ Q) ⟨v', H', I', rv, q⟩
theorem op_binT {op : Operator} (G : Good X.prog X.w X.K X.mg X.base k fn ps sp) (hr : Room k X.A) (sm : Sm X.K C (PySem.dunder op.info.2) fn) (hc : PySem.W.selfFirst X.K C = true) (n2 : NoSl X.K C2 op.info.2) : OpR X (binaryOp op) (rTwo X.K C C2 sp) := by
  rintro pins s σ H x y v u Q I rx ry ⟨a, dx, gs, b, dy, gt, rfl, ha, rfl, hb, h⟩
  obtain ⟨fd, F, bi, kp⟩ := G
  cases (show v = Value.ref a from rx)
  cases (show u = Value.ref b from ry)
  obtain ⟨od, J⟩ := Inv.inst I ha
  obtain ⟨od2, J2⟩ := Inv.inst I hb
  obtain ⟨m, hF⟩ := I.fr
  refine binop_two hF I.ok.mod.kin J J2.type n2 hc sm.at_ sm.fn (wpAny_mono (run_in (us := [.ref a, .ref b]) (vs := [V.ref a, V.ref b]) F bi hr I.env0 I (.cons rfl (.cons rfl .nil)) h) (fun v s' z => ?_) fun _ _ z => z)
  obtain ⟨v', H', I', rv, q⟩ := z
  exact RelV.cmp rv (P := EP X pins σ Q) ⟨v', H', I', rv, q⟩
end

/-! ### o[i] = v of an own class -/
section
variable {X : Cx} {B : Bs} {C fn : Addr} {k : Nat} {ps : List Str} {sp : Spc} {o i ex : Expr} {to ti tv : DE} {pos p2 : Pos}
def rSetO (K : PySem.W.Frag) (C : Addr) (sp : Spc) : TSet := fun x i v H Q => ∃ a dx gs, x = .ref a ∧ H a = some (.ins C dx gs) ∧ spD K sp [.ref a, i, v] H (fun _ H' => Q H') E0
theorem set_own (G : Good X.prog X.w X.K X.mg X.base k fn ps sp) (hr : Room k X.A) (sm : Sm X.K C "__setitem__" fn) (hq : PySem.W.noSeq X.K C = true) : PSet X (rSetO X.K C sp) := by
  rintro pins s σ H x i v ov iv u Q I rx ri rv ⟨a, dx, gs, rfl, ha, h⟩
  obtain ⟨fd, F, bi, kp⟩ := G
  cases (show ov = Value.ref a from rx)
  obtain ⟨od, J⟩ := Inv.inst I ha
  obtain ⟨m, hF⟩ := I.fr
  have KX := I.kIn
  unfold setItem sequenceKey callSpecial?
  refine wpAny_holding (wpAny_bind (wpAny_bind (J.type.here ?_)))
  refine wpAny_bind ((PySem.W.anyM_none KX hq).here ?_)
  rw [if_pos (show (!false) = true from rfl)]
  refine wpAny_pure (wpAny_bind ?_)
  refine wpAny_mono (PySem.W.special_fn (Q := fun r s' => r ≠ none ∧ ∃ H', Inv X pins σ H' s' ∧ Q H') KX J sm.at_ (beq_iff_eq.mp sm.fn) (wpAny_mono (run_in (us := [.ref a, iv, u]) (vs := [V.ref a, i, v]) F bi hr I.env0 I (.cons rfl (.cons ri (.cons rv .nil))) h) (fun v s' z => ?_) fun _ _ z => z)) (fun r s' z => ?_) fun _ _ z => z
  · obtain ⟨v', H', I', rv, q⟩ := z
    exact ⟨(fun z => nomatch z), H', I', q⟩
  · obtain ⟨h1, H', I', q⟩ := z
    cases r with
    | none => exact absurd rfl h1
    | some _ => exact wpAny_pure ⟨H', I', q⟩
def sSetO (C : Addr) (sp : Spc) (tv to ti : DE) : DS := fun P e => tv e fun v e1 => to e1 fun o e2 => ti e2 fun i e3 => (∃ ns xs, insD e3.cs o = some (C, ns, xs)) ∧ sp [o, i, v] e3.cs fun _ cs' => P.nx { e3 with cs := cs' }
theorem ds_setO (G : Good X.prog X.w X.K X.mg X.base k fn ps sp) (hr : Room k X.A) (sm : Sm X.K C "__setitem__" fn) (hq : PySem.W.noSeq X.K C = true) (hv : PE X ex (lE X.K B tv)) (ho : PE X o (lE X.K B to)) (hi : PE X i (lE X.K B ti))
    (ha : ∀ v, assign (.Subscript o i p2) X.env v = (do
      let ov ← holding [v] (eval o X.env)
      let iv ← holding [v, ov] (eval i X.env)
      standAt p2
      holding [v, ov, iv] (setItem ov iv v)
      release [v, ov, iv] []) := by intro _; rfl)
    (hs : swapsWithSole [.Subscript o i p2] ex pos.line X.env = pure false := by rfl) (hw : swappedStores [.Subscript o i p2] ex X.env = pure none := by rfl)
    (h1 : (assignEach [.Subscript o i p2] X.env).map (·.2) = [assign (.Subscript o i p2) X.env] := by rfl) : PS X (.Assign [.Subscript o i p2] ex pos) (lS X.K B (sSetO C sp tv to ti)) := PS.imp (ps_asg hv (pg_sub ho hi (set_own G hr sm hq) ha) hs hw h1) fun E σ H h => by
  obtain ⟨W, e, P, bl, S, h, c⟩ := lS_un h
  refine ⟨W, e, _, bl, S, h, fun d e1 W1 H1 v t1 l1 S1 r1 => ⟨W1, e1, _, B.up bl l1, S1, t1, fun ob e2 W2 H2 w t2 l2 S2 r2 => ⟨W2, e2, _, B.up bl (l1.tr l2), S2, t2, fun ix e3 W3 H3 x t3 l3 S3 r3 => ?_⟩⟩⟩
  obtain ⟨⟨ns, xs, hi⟩, t3⟩ := t3
  have r23 := R.mono l3 _ _ r2
  obtain ⟨a, dx, gs, rfl, h1', h2', h3'⟩ := S3.ok.ins r23 hi
  exact ⟨a, dx, gs, rfl, h1', W3, e3.cs, [ob, ix, d], _, S3.ok, .cons r23 (.cons r3 (.cons (R.mono (l2.tr l3) _ _ r1) .nil)), t3, fun d' cs' W' H' v' p l ok r' => c.nx _ _ _ _ p (((l1.tr l2).tr l3).tr l) ⟨ok, S3.sl.mono l⟩⟩
end

/-! ### isinstance with an own class -/
def qIsiC (C : Addr) : List D → DE
  | [d, .raw (.ref C')] => fun e P => C' = C ∧ (∃ ns xs, insD e.cs d = some (C, ns, xs)) ∧ P (.bl true) e
  | _ => fun _ _ => False
theorem cd_isiC {K : PySem.W.Frag} {C : Addr} : CallD K (fun xs H Q => ∃ a dx fs, xs = [.ref a, .ref C] ∧ H a = some (.ins C dx fs) ∧ Q (.bl true) H) (qIsiC C) := by
  intro W H σ e vs ds P Q S r t k
  unfold qIsiC at t
  split at t
  · obtain ⟨v, v2, rfl, r1, r2⟩ := r.two
    obtain ⟨rfl, ⟨ns, xs, hi⟩, p⟩ := t
    obtain ⟨a, dx, gs, rfl, h1, _⟩ := S.ok.ins r1 hi
    cases r2
    exact ⟨a, dx, gs, rfl, h1, k _ _ _ _ _ p W.le_refl S (.bl _)⟩
  · exact t.elim
theorem de_cls {X : Cx} {B : Bs} {x : Str} {C : Addr} {pos : Pos} (hg : Gl X x) (hm : X.mg x = some (.ref C)) (hd : (x == ("__debug__" : Str)) = false := by decide) : PE X (.Name x pos) (lE X.K B (eC (.raw (.ref C)))) :=
  de_glob hg hm (show RelV (.ref C) (.ref C) from rfl) (fun _ => .raw _) hd
end DL
namespace DL
open PySem PySem.Spec PyProof.Rows L2
open Evl (Ex)

/-! ### in, not in -/
def flD : D → Bool
  | .non => true
  | .bl _ => true
  | .int _ => true
  | .str _ => true
  | _ => false
def eqF : D → D → Bool
  | .non, .non => true
  | .bl a, .bl b => a == b
  | .bl a, .int b => (if a then 1 else 0) == b
  | .int a, .bl b => a == (if b then 1 else 0)
  | .int a, .int b => a == b
  | .str a, .str b => a == b
  | _, _ => false
def inF (x : D) (xs : List D) : Bool := xs.any fun y => eqF y x
section
variable {K : PySem.W.Frag} {W : Wd}
theorem R.flat {v : V} {d : D} (r : R K W v d) (h : flD d = true) : flatV v = true := by
  cases d <;> first | (cases h; done) | (cases r; rfl)
theorem R.eqv {v w : V} {d d' : D} (r : R K W v d) (r' : R K W w d') (h : flD d = true) (h' : flD d' = true) : eqV v w = eqF d d' := by
  cases d <;> first | (cases h; done) | (cases d' <;> first | (cases h'; done) | (cases r; cases r'; rfl))
theorem RAll.flat : ∀ {vs : List V} {ds : List D}, RAll K W vs ds → ds.all flD = true → vs.all flatV = true
  | _, _, .nil, _ => rfl
  | _, _, .cons r t, h => by
    rw [List.all_cons, Bool.and_eq_true] at h
    rw [List.all_cons, r.flat h.1, RAll.flat t h.2] <;> rfl
theorem RAll.inv {x : V} {d : D} (r : R K W x d) (h : flD d = true) : ∀ {vs : List V} {ds : List D}, RAll K W vs ds → ds.all flD = true → inV x vs = inF d ds
  | _, _, .nil, _ => rfl
  | _, _, .cons r1 t, h1 => by
    rw [List.all_cons, Bool.and_eq_true] at h1
    have ih := RAll.inv r h t h1.2
    unfold inV inF at ih ⊢
    rw [List.any_cons, List.any_cons, R.eqv r1 r h1.1 h, ih]
end
def qIn (neg : Bool) : D → D → DE := fun x y e P => (flD x = true ∧ ∃ xs, seqD e.cs y = some xs ∧ xs.all flD = true ∧ P (.bl (if neg then !inF x xs else inF x xs)) e) ∨
  ∃ ys, drf e.cs y = .lst ys ∧ shp (drf e.cs x) = true ∧ shp (.lst ys) = true ∧ P (.bl (if neg then !((toPs ys).any fun z => PyData.eqv z (toP (drf e.cs x))) else (toPs ys).any fun z => PyData.eqv z (toP (drf e.cs x)))) e
def rInA (K : PySem.W.Frag) (neg : Bool) : R2 := fun x y H Q => rIn K neg x y H Q ∨ (if neg then rNotInD K else rInD K) x y H Q
section
variable {X : Cx} {K : PySem.W.Frag}
theorem op_inA (hu : X.A.units + 65 < cLine) : OpR X (compareOp .In) (rInA X.K false) := op_in_seq.or (op_inD hu)
theorem op_notInA (hu : X.A.units + 65 < cLine) : OpR X (compareOp .NotIn) (rInA X.K true) := op_notIn_seq.or (op_notInD hu)
theorem od_in {neg : Bool} : OpD K (rInA K neg) (qIn neg) := by
  intro W H σ e x y d1 d2 P Q S r1 r2 t k
  rcases t with ⟨h1, xs, h2, h3, t⟩ | ⟨ys, h1, h2, h3, t⟩
  · obtain ⟨a, vs, rfl, h4, h5⟩ := S.ok.seq r2 h2
    refine .inl ⟨a, vs, rfl, h4, r1.flat h1, h5.flat h3, ?_⟩
    have := k _ _ _ _ (.bl (if neg then !inF d1 xs else inF d1 xs)) t W.le_refl S (.bl _)
    rw [RAll.inv r1 h1 h5 h3]
    exact this
  · obtain ⟨o1, s1⟩ := shp_and h2
    obtain ⟨o2, s2⟩ := shp_and h3
    have hx := S.ok.dp r1 o1
    have hy := S.ok.dp r2 (by rw [h1]; exact o2)
    rw [h1] at hy
    cases neg with
    | false => exact .inr ⟨_, _, hx, hy, s1, s2, k _ _ _ _ _ t W.le_refl S (.bl _)⟩
    | true => exact .inr ⟨_, _, hx, hy, s1, s2, k _ _ _ _ _ t W.le_refl S (.bl _)⟩
end
theorem units5 {k : Nat} {A : Around} (r : Room k A) : A.units + 65 < cLine := by have := r.un; omega
end DL
namespace DL
open PySem PySem.Spec PyProof.Rows L2
open Evl (Ex)

/-! ### enumerate, zip -/
/-- the list at a stays ds as long as G -/
def Stay (K : PySem.W.Frag) (W : Wd) (a : Addr) (G : List Cel → Prop) (ds : List D) : Prop := ∀ W' H σ e, W.sub W' → Sd K W' H σ e → G e.cs → ∃ vs, SqL K H a vs ∧ RAll K W' vs ds
def itL (d : D) (e : En) (P : List D → (List Cel → Prop) → En → Prop) : Prop :=
  (∃ xs, fixL d = some xs ∧ P xs anyC e) ∨ ∃ n xs, d = .cell n ∧ e.cs[n]? = some (.lst xs) ∧ P xs (fun cs => cs[n]? = some (.lst xs)) e
theorem v_itLF {d : D} {e : En} {P : List D → (List Cel → Prop) → En → Prop} (h : ∃ xs, fixL d = some xs ∧ P xs anyC e) : itL d e P := .inl h
theorem v_itLC {n : Nat} {e : En} {P : List D → (List Cel → Prop) → En → Prop} (h : ∃ xs, e.cs[n]? = some (.lst xs) ∧ P xs (fun cs => cs[n]? = some (.lst xs)) e) : itL (.cell n) e P := let ⟨xs, h1, h2⟩ := h; .inr ⟨n, xs, rfl, h1, h2⟩
section
variable {K : PySem.W.Frag} {W : Wd} {H : Hp} {σ : L2.St} {e : En}
theorem itL_stay {d : D} {v : V} {P : List D → (List Cel → Prop) → En → Prop} (S : Sd K W H σ e) (r : R K W v d) (h : itL d e P) : ∃ a xs G, v = .ref a ∧ (∃ vs, SqL K H a vs ∧ RAll K W vs xs) ∧ Stay K W a G xs ∧ P xs G e := by
  rcases h with ⟨xs, hx, p⟩ | ⟨n, xs, rfl, hc, p⟩
  · cases r <;> simp only [fixL] at hx <;> cases hx
    · rename_i a vs h1 h2
      exact ⟨a, _, _, rfl, ⟨vs, SqL.of (S.ok.ex _ _ h1), h2⟩, fun W' H' σ' e' l S' _ => ⟨vs, SqL.of (S'.ok.ex _ _ (l.1 _ _ h1)), RAll.mono' l _ _ h2⟩, p⟩
    · rename_i a vs h1 h2
      exact ⟨a, _, _, rfl, ⟨vs, Evl.ex_l S.ok.ex h1, h2⟩, fun W' H' σ' e' l S' _ => ⟨vs, Evl.ex_l (l.1.trans S'.ok.ex) h1, RAll.mono' l _ _ h2⟩, p⟩
  · cases r with
    | cell hm =>
      obtain ⟨vs, h1, h2⟩ := S.ok.cellL hm hc
      refine ⟨_, xs, _, rfl, ⟨vs, SqL.of h1, h2⟩, fun W' H' σ' e' l S' g => ?_, p⟩
      obtain ⟨more, e2⟩ := l.2
      have := (List.getElem?_eq_some_iff.mp hm).1
      obtain ⟨vs', h1', h2'⟩ := S'.ok.cellL (show W'.m[n]? = some _ by rw [e2, List.getElem?_append_left this]; exact hm) g
      exact ⟨vs', SqL.of h1', h2'⟩
def enumD : Nat → List D → List D
  | _, [] => []
  | k, x :: xs => .tup [.int (k : Int), x] :: enumD (k + 1) xs
theorem enumD_len : ∀ (k : Nat) (xs : List D), (enumD k xs).length = xs.length
  | _, [] => rfl
  | k, x :: xs => congrArg (· + 1) (enumD_len (k + 1) xs)
theorem enumD_get {d : D} : ∀ {k : Nat} {xs : List D} {i : Nat}, (enumD k xs)[i]? = some d → ∃ x, xs[i]? = some x ∧ d = .tup [.int ((k + i : Nat) : Int), x]
  | _, [], _, h => by simp [enumD] at h
  | k, x :: xs, 0, h => by
    simp [enumD] at h
    exact ⟨x, by simp, h.symm⟩
  | k, x :: xs, i + 1, h => by
    have h' : (enumD (k + 1) xs)[i]? = some d := by simpa [enumD] using h
    obtain ⟨y, h1, h2⟩ := enumD_get h'
    exact ⟨y, by simpa using h1, by rw [h2, show k + 1 + i = k + (i + 1) by omega]⟩
def zipD : List D → List D → List D
  | x :: xs, y :: ys => .tup [x, y] :: zipD xs ys
  | _, _ => []
theorem zipD_len : ∀ xs ys : List D, (zipD xs ys).length = min xs.length ys.length
  | [], _ => by simp [zipD]
  | _ :: _, [] => by simp [zipD]
  | x :: xs, y :: ys => by
    have := zipD_len xs ys
    simp only [zipD, List.length_cons]
    omega
theorem zipD_get {d : D} : ∀ {xs ys : List D} {i : Nat}, (zipD xs ys)[i]? = some d → ∃ x y, xs[i]? = some x ∧ ys[i]? = some y ∧ d = .tup [x, y]
  | [], _, _, h => by simp [zipD] at h
  | _ :: _, [], _, h => by simp [zipD] at h
  | x :: xs, y :: ys, 0, h => by
    simp [zipD] at h
    exact ⟨x, y, by simp, by simp, h.symm⟩
  | x :: xs, y :: ys, i + 1, h => by
    have h' : (zipD xs ys)[i]? = some d := by simpa [zipD] using h
    obtain ⟨a, b, h1, h2, h3⟩ := zipD_get h'
    exact ⟨a, b, by simpa using h1, by simpa using h2, h3⟩
theorem new2 (S : Sd K W H σ e) {T : Addr} {x y : V} {a b : D} (hT : H T = none) (r1 : R K W x a) (r2 : R K W y b) : ∃ W', W.le W' ∧ Sd K W' (upd H T (.tup [x, y])) σ e ∧ R K W' (.ref T) (.tup [a, b]) := by
  obtain ⟨ok, l⟩ := S.ok.newF (o := .tup [x, y]) hT
  exact ⟨_, l, ⟨ok, S.sl.mono l⟩, .tup (SqT.of upd_same) (.cons (R.mono l _ _ r1) (.cons (R.mono l _ _ r2) .nil))⟩
theorem wk_enum {a : Addr} {G : List Cel → Prop} {ds : List D} (s : Stay K W a G ds) : Wk K W (Ite K a) G (enumD 0 ds) where
  go := fun i W' H σ e l S g hi => by
    obtain ⟨vs, h1, h2⟩ := s W' H σ e l S g
    rw [enumD_len] at hi
    have hi' : i < vs.length := by rw [h2.length]; exact hi
    exact ⟨vs, vs[i], h1, by simp [hi']⟩
  yld := fun i W' H σ e x H' d l S g hd y => by
    obtain ⟨vs, h1, h2⟩ := s W' H σ e l S g
    obtain ⟨T, x', rfl, hT, rfl, y⟩ := y
    obtain ⟨z, hz, rfl⟩ := enumD_get hd
    obtain ⟨v, hv, rv⟩ := h2.get hz
    have e1 := y vs h1
    rw [hv] at e1
    cases e1
    rw [Nat.zero_add]
    exact new2 S hT (.int _) rv
  stop := fun i W' H σ e l S g hi => by
    obtain ⟨vs, h1, h2⟩ := s W' H σ e l S g
    rw [enumD_len] at hi
    exact ⟨vs, h1, by rw [h2.length]; exact hi⟩
theorem wk_zip {a b : Addr} {G G' : List Cel → Prop} {ds ds' : List D} (s : Stay K W a G ds) (s' : Stay K W b G' ds') : Wk K W (Itz K a b) (fun cs => G cs ∧ G' cs) (zipD ds ds') where
  go := fun i W' H σ e l S g hi => by
    obtain ⟨vs, h1, h2⟩ := s W' H σ e l S g.1
    obtain ⟨us, h3, h4⟩ := s' W' H σ e l S g.2
    rw [zipD_len] at hi
    have hi1 : i < vs.length := by rw [h2.length]; omega
    have hi2 : i < us.length := by rw [h4.length]; omega
    exact ⟨vs, us, vs[i], us[i], h1, h3, by simp [hi1], by simp [hi2]⟩
  yld := fun i W' H σ e x H' d l S g hd y => by
    obtain ⟨vs, h1, h2⟩ := s W' H σ e l S g.1
    obtain ⟨us, h3, h4⟩ := s' W' H σ e l S g.2
    obtain ⟨T, x', y', rfl, hT, rfl, q1, q2⟩ := y
    obtain ⟨z, z', hz, hz', rfl⟩ := zipD_get hd
    obtain ⟨v, hv, rv⟩ := h2.get hz
    obtain ⟨u, hu, ru⟩ := h4.get hz'
    have e1 := q1 vs h1
    rw [hv] at e1
    cases e1
    have e2 := q2 us h3
    rw [hu] at e2
    cases e2
    exact new2 S hT rv ru
  stop := fun i W' H σ e l S g hi => by
    obtain ⟨vs, h1, h2⟩ := s W' H σ e l S g.1
    obtain ⟨us, h3, h4⟩ := s' W' H σ e l S g.2
    rw [zipD_len] at hi
    exact ⟨vs, us, h1, h3, by rw [h2.length, h4.length]; omega⟩
theorem wk_zipT {a b : Addr} {vs us : List V} {ds ds' : List D} (h1 : SqT K W.F a vs) (h2 : RAll K W vs ds) (h3 : SqT K W.F b us) (h4 : RAll K W us ds') : Wk K W (RZ.ItzT K a b) anyC (zipD ds ds') where
  go := fun i W' H σ e l S g hi => by
    rw [zipD_len] at hi
    have hi1 : i < vs.length := by rw [h2.length]; omega
    have hi2 : i < us.length := by rw [h4.length]; omega
    exact ⟨vs, us, vs[i], us[i], Evl.ex_t (l.1.trans S.ok.ex) h1, Evl.ex_t (l.1.trans S.ok.ex) h3, by simp [hi1], by simp [hi2]⟩
  yld := fun i W' H σ e x H' d l S g hd y => by
    obtain ⟨T, x', y', rfl, hT, rfl, q1, q2⟩ := y
    obtain ⟨z, z', hz, hz', rfl⟩ := zipD_get hd
    obtain ⟨v, hv, rv⟩ := h2.get hz
    obtain ⟨u, hu, ru⟩ := h4.get hz'
    have e1 := q1 vs (Evl.ex_t (l.1.trans S.ok.ex) h1)
    rw [hv] at e1
    cases e1
    have e2 := q2 us (Evl.ex_t (l.1.trans S.ok.ex) h3)
    rw [hu] at e2
    cases e2
    exact new2 S hT (R.mono' l _ _ rv) (R.mono' l _ _ ru)
  stop := fun i W' H σ e l S g hi => by
    rw [zipD_len] at hi
    exact ⟨vs, us, Evl.ex_t (l.1.trans S.ok.ex) h1, Evl.ex_t (l.1.trans S.ok.ex) h3, by rw [h2.length, h4.length]; omega⟩
end
def iEn (t : DA) : DI := fun e P => t e fun ds e1 => ∃ d, ds = [d] ∧ itL d e1 fun xs G e2 => P (enumD 0 xs) G e2
def iZp (t : DA) : DI := fun e P => t e fun ds e1 => ∃ x y, ds = [x, y] ∧ ((itL x e1 fun xs G _ => itL y e1 fun ys G' _ => P (zipD xs ys) (fun cs => G cs ∧ G' cs) e1) ∨ ∃ xs ys, x = .tup xs ∧ y = .tup ys ∧ P (zipD xs ys) anyC e1)
section
variable {X : Cx} {B : Bs} {ex e2 : Expr} {ta : DA} {p pos tpos : Pos} {elts : List Expr} {kk : Nat}
theorem di_enum (hg : Gl X "enumerate") (hm : X.mg "enumerate" = none) (ha : PA X [ex] (lA X.K B ta)) (hs : starEach [ex] X.env = [(false, eval ex X.env)] := by rfl) : PI X (.Tuple elts kk tpos) (.Call (.Name "enumerate" p) [ex] [] pos) (lI X.K B (iEn ta)) :=
  PI.imp (pi_enum hg hm ha hs) fun σ H Q ⟨W, e, P, bl, S, t, k⟩ => ⟨W, e, _, bl, S, t, fun ds e1 W1 H1 vs ⟨d, hd, p⟩ l S1 r => by
    subst hd
    obtain ⟨v, rfl, r1⟩ := r.one
    obtain ⟨a, xs, G, rfl, ⟨us, h1, h2⟩, st, q⟩ := itL_stay S1 r1 p
    exact ⟨a, us, rfl, h1, k _ _ _ _ _ _ q l S1 (wk_enum st)⟩⟩
theorem di_zip (hg : Gl X "zip") (hm : X.mg "zip" = none) (ha : PA X [ex, e2] (lA X.K B ta)) (hs : starEach [ex, e2] X.env = (false, eval ex X.env) :: starEach [e2] X.env := by rfl) (hpl : (backTo pos (starEach [e2] X.env)).any (·.1) = false := by rfl) :
    PI X (.Tuple elts kk tpos) (.Call (.Name "zip" p) [ex, e2] [] pos) (lI X.K B (iZp ta)) :=
  PI.imp (RZ.pi_zipA hg hm ha hs hpl) fun σ H Q ⟨W, e, P, bl, S, t, k⟩ => ⟨W, e, _, bl, S, t, fun ds e1 W1 H1 vs ⟨x, y, hd, p⟩ l S1 r => by
    subst hd
    obtain ⟨v, v2, rfl, r1, r2⟩ := r.two
    rcases p with p | ⟨xs, ys, rfl, rfl, p⟩
    · obtain ⟨a, xs, G, rfl, ⟨us, h1, h2⟩, st, q⟩ := itL_stay S1 r1 p
      obtain ⟨b, ys, G', rfl, ⟨ws, h3, h4⟩, st', q'⟩ := itL_stay S1 r2 q
      exact ⟨a, b, us, ws, rfl, .inl ⟨h1, h3, k _ _ _ _ _ _ q' l S1 (wk_zip st st')⟩⟩
    · cases r1 with
      | tup h1 h2 =>
        cases r2 with
        | tup h3 h4 => exact ⟨_, _, _, _, rfl, .inr ⟨Evl.ex_t S1.ok.ex h1, Evl.ex_t S1.ok.ex h3, k _ _ _ _ _ _ p l S1 (wk_zipT h1 h2 h3 h4)⟩⟩⟩
end
/-- a tuple of the module -/
theorem de_tupG {X : Cx} {B : Bs} {x : Str} {a : Addr} {vs : List V} {ds : List D} {pos : Pos} (hg : Gl X x) (hm : X.mg x = some (.ref a)) (h : ∀ H, SqT X.K H a vs) (r : ∀ W, RAll X.K W vs ds) (hd : (x == ("__debug__" : Str)) = false := by decide) :
    PE X (.Name x pos) (lE X.K B (eC (.tup ds))) := de_glob hg hm (show RelV (.ref a) (.ref a) from rfl) (fun W => .tup (h W.F) (r W)) hd
end DL
namespace DL
open PySem PySem.Spec PyProof.Rows L2
open Evl (Ex)

/-! ### more steps -/
section
variable {e : En} {P : D → En → Prop} {x y d : D} {a b : Int} {te tv to : DE} {Po' : Po} {C : Addr} {f : Str} {PE' : En → Prop} {k : Bool}
theorem v_isN0 (p : P (.bl true) e) : qIs .non .non e P := ⟨rfl, rfl, p⟩
theorem v_isN1 (h : isN x = false ∧ notRaw x = true ∧ P (.bl false) e) : qIs x .non e P := by
  obtain ⟨h1, h2, p⟩ := h
  rw [← h1] at p
  cases x <;> first | (cases h1; done) | (cases h2; done) | exact ⟨rfl, rfl, p⟩
theorem v_isnN0 (p : P (.bl false) e) : qIsNot .non .non e P := ⟨rfl, rfl, p⟩
theorem v_isnN1 (h : isN x = false ∧ notRaw x = true ∧ P (.bl true) e) : qIsNot x .non e P := by
  obtain ⟨h1, h2, p⟩ := h
  cases x <;> first | (cases h1; done) | (cases h2; done) | exact ⟨rfl, rfl, p⟩
def noInt : D → Bool
  | .int _ => false
  | _ => true
theorem v_eqP (h : (noInt x || noInt y) = true ∧ shp (drf e.cs x) = true ∧ shp (drf e.cs y) = true ∧ PyData.eqv (toP (drf e.cs x)) (toP (drf e.cs y)) = k ∧ P (.bl k) e) : qEq x y e P := by
  obtain ⟨h0, h1, h2, h3, p⟩ := h
  have q : shp (drf e.cs x) = true ∧ shp (drf e.cs y) = true ∧ P (.bl (PyData.eqv (toP (drf e.cs x)) (toP (drf e.cs y)))) e := ⟨h1, h2, by rw [h3]; exact p⟩
  unfold qEq
  split
  · exact nomatch (show false = true from h0)
  · exact q
theorem v_neP (h : (noInt x || noInt y) = true ∧ shp (drf e.cs x) = true ∧ shp (drf e.cs y) = true ∧ PyData.eqv (toP (drf e.cs x)) (toP (drf e.cs y)) = k ∧ P (.bl (!k)) e) : qNe x y e P := by
  obtain ⟨h0, h1, h2, h3, p⟩ := h
  have q : shp (drf e.cs x) = true ∧ shp (drf e.cs y) = true ∧ P (.bl (!PyData.eqv (toP (drf e.cs x)) (toP (drf e.cs y)))) e := ⟨h1, h2, by rw [h3]; exact p⟩
  unfold qNe
  split
  · exact nomatch (show false = true from h0)
  · exact q
theorem v_eqPT (h : (noInt x || noInt y) = true ∧ shp (drf e.cs x) = true ∧ shp (drf e.cs y) = true ∧ PyData.eqv (toP (drf e.cs x)) (toP (drf e.cs y)) = true ∧ P (.bl true) e) : qEq x y e P := v_eqP h
theorem v_eqPF (h : (noInt x || noInt y) = true ∧ shp (drf e.cs x) = true ∧ shp (drf e.cs y) = true ∧ PyData.eqv (toP (drf e.cs x)) (toP (drf e.cs y)) = false ∧ P (.bl false) e) : qEq x y e P := v_eqP h
theorem v_nePT (h : (noInt x || noInt y) = true ∧ shp (drf e.cs x) = true ∧ shp (drf e.cs y) = true ∧ PyData.eqv (toP (drf e.cs x)) (toP (drf e.cs y)) = true ∧ P (.bl false) e) : qNe x y e P := v_neP h
theorem v_nePF (h : (noInt x || noInt y) = true ∧ shp (drf e.cs x) = true ∧ shp (drf e.cs y) = true ∧ PyData.eqv (toP (drf e.cs x)) (toP (drf e.cs y)) = false ∧ P (.bl true) e) : qNe x y e P := v_neP h
def nd : D → Bool
  | .cell _ => false
  | .fro _ => false
  | _ => true
theorem nd_drf {cs : List Cel} {d : D} (h : nd d = true) : drf cs d = d := by cases d <;> first | rfl | cases h
theorem v_eqN (h : (nd x = true ∧ nd y = true ∧ (noInt x || noInt y) = true) ∧ shp x = true ∧ shp y = true ∧ PyData.eqv (toP x) (toP y) = k ∧ P (.bl k) e) : qEq x y e P := by
  obtain ⟨⟨h1, h2, h3⟩, h4, h5, h6, p⟩ := h
  exact v_eqP ⟨h3, by rw [nd_drf h1]; exact h4, by rw [nd_drf h2]; exact h5, by rw [nd_drf h1, nd_drf h2]; exact h6, p⟩
theorem v_neN (h : (nd x = true ∧ nd y = true ∧ (noInt x || noInt y) = true) ∧ shp x = true ∧ shp y = true ∧ PyData.eqv (toP x) (toP y) = k ∧ P (.bl (!k)) e) : qNe x y e P := by
  obtain ⟨⟨h1, h2, h3⟩, h4, h5, h6, p⟩ := h
  exact v_neP ⟨h3, by rw [nd_drf h1]; exact h4, by rw [nd_drf h2]; exact h5, by rw [nd_drf h1, nd_drf h2]; exact h6, p⟩
theorem v_eqNT (h : (nd x = true ∧ nd y = true ∧ (noInt x || noInt y) = true) ∧ shp x = true ∧ shp y = true ∧ PyData.eqv (toP x) (toP y) = true ∧ P (.bl true) e) : qEq x y e P := v_eqN h
theorem v_eqNF (h : (nd x = true ∧ nd y = true ∧ (noInt x || noInt y) = true) ∧ shp x = true ∧ shp y = true ∧ PyData.eqv (toP x) (toP y) = false ∧ P (.bl false) e) : qEq x y e P := v_eqN h
theorem v_neNT (h : (nd x = true ∧ nd y = true ∧ (noInt x || noInt y) = true) ∧ shp x = true ∧ shp y = true ∧ PyData.eqv (toP x) (toP y) = true ∧ P (.bl false) e) : qNe x y e P := v_neN h
theorem v_neNF (h : (nd x = true ∧ nd y = true ∧ (noInt x || noInt y) = true) ∧ shp x = true ∧ shp y = true ∧ PyData.eqv (toP x) (toP y) = false ∧ P (.bl true) e) : qNe x y e P := v_neN h
theorem ins_cell {cs : List Cel} {n : Nat} {ns : List Str} {xs : List D} (h : cs[n]? = some (.ins C ns xs)) : insD cs (.cell n) = some (C, ns, xs) := by
  show (match cs[n]? with | some (.ins C ns xs) => some (C, ns, xs) | _ => none) = some (C, ns, xs)
  rw [h]
theorem v_asgG {g : DG} (h : te e fun d e1 => g d e1 Po'.nx) : sAsgG te g Po' e := h
theorem v_gN {i : Nat} (h : PE' { e with sl := e.sl.set i (some d) }) : gN i d e PE' := h
theorem v_gF (h : to e fun o e1 => updF C f o d e1 PE') : gF C f to d e PE' := h
theorem v_gZ (h : PE' e) : gZ [] e PE' := ⟨rfl, h⟩
theorem v_gC {t : DG} {u : DGs} {xs : List D} (h : t x e fun e1 => u xs e1 PE') : gC t u (x :: xs) e PE' := ⟨_, _, rfl, h⟩
theorem v_gT {n : Nat} {u : DGs} {xs : List D} (h : xs.length = n ∧ u xs e PE') : gT n u (.tup xs) e PE' := ⟨_, rfl, h⟩
theorem v_updF (h : ∃ n ns xs i, x = .cell n ∧ e.cs[n]? = some (.ins C ns xs) ∧ ns.length < 900 ∧ ixF f ns = some i ∧ PE' { e with cs := e.cs.set n (.ins C ns (xs.set i d)) }) : updF C f x d e PE' := h
theorem v_fldU (h : tv e fun v e1 => to e1 fun o e2 => updF C f o v e2 Po'.nx) : sFldU C f to tv Po' e := h
theorem v_fldA {q : D → D → DE} (h : to e fun o e1 => ∃ ns xs x, insD e1.cs o = some (C, ns, xs) ∧ getF f ns xs = some x ∧ tv e1 fun y e2 => q x y e2 fun z e3 => updF C f o z e3 Po'.nx) : sFldA C f q to tv Po' e := h
theorem v_addII (p : P (.int (a + b)) e) : qAddI (.int a) (.int b) e P := ⟨a, b, rfl, rfl, p⟩
theorem v_methX {cs : List Cel} {m : Str} {R : Prop} (h : (∃ ns xs, insD cs d = some (C, ns, xs) ∧ m ∉ ns) ∧ R) : (∃ ns xs, insD cs d = some (C, ns, xs) ∧ m ∉ ns) ∧ R := h
theorem v_while {c : DT} {tb : DS} (h : ∃ I : Nat → En → Prop, (∃ m, I m e) ∧ ∀ m e1, I m e1 → c e1 fun b e2 => if b = true then tb (Po'.lp fun e3 => ∃ m', m' < m ∧ I m' e3) e2 else Po'.nx e2) : sWhile c tb Po' e := h
theorem v_setO {ti : DE} {sp : Spc} (h : tv e fun v e1 => to e1 fun o e2 => ti e2 fun i e3 => (∃ ns xs, insD e3.cs o = some (C, ns, xs)) ∧ sp [o, i, v] e3.cs fun _ cs' => Po'.nx { e3 with cs := cs' }) : sSetO C sp tv to ti Po' e := h
theorem v_en {t : DA} {Q : List D → (List Cel → Prop) → En → Prop} (h : t e fun ds e1 => ∃ d, ds = [d] ∧ itL d e1 fun xs G e2 => Q (enumD 0 xs) G e2) : iEn t e Q := h
theorem v_oneD {PQ : D → Prop} (h : PQ d) : ∃ d', [d] = [d'] ∧ PQ d' := ⟨d, rfl, h⟩
theorem v_addL {o : Bool} {xs ys : List D} (h : xs.length + ys.length ≤ 100000 ∧ newL o (xs ++ ys) e P) : qAdd o (.lst xs) (.lst ys) e P := ⟨xs, ys, rfl, rfl, Nat.le_trans h.1 (by decide), h.2⟩
end
end DL
namespace DL
open PySem PySem.Spec PyProof.Rows L2
open Evl (Ex)

/-! ### data that may be compared -/
structure Sh (n : Nat) (d : D) : Prop where
  ok : okD d = true
  lay : (toP d).canLay0 = true
  dep : (toP d).depth ≤ n
structure Shs (n : Nat) (ds : List D) : Prop where
  ok : okDs ds = true
  lay : PyData.canLayAll0 (toPs ds) = true
  dep : PyData.depthAll (toPs ds) ≤ n
theorem Sh.shp {n : Nat} {d : D} (h : Sh n d) (hn : n ≤ 64 := by decide) : shp d = true := by
  unfold DL.shp SeqAt.shaped
  rw [h.ok, h.lay, decide_eq_true (Nat.le_trans h.dep hn)] <;> rfl
theorem Sh.mono {n m : Nat} {d : D} (h : Sh n d) (hn : n ≤ m) : Sh m d := ⟨h.ok, h.lay, Nat.le_trans h.dep hn⟩
theorem Sh.int (i : Int) : Sh 0 (.int i) := ⟨rfl, rfl, by show (PyData.int _).depth ≤ 0; simp [PyData.depth]⟩
theorem Sh.bl (b : Bool) : Sh 0 (.bl b) := ⟨rfl, rfl, by show (PyData.bool _).depth ≤ 0; simp [PyData.depth]⟩
theorem Sh.non : Sh 0 .non := ⟨rfl, rfl, by show (PyData.none).depth ≤ 0; simp [PyData.depth]⟩
theorem Sh.str {s : Str} (h : (PyData.str s).canLay0 = true) : Sh 0 (.str s) := ⟨rfl, h, by show (PyData.str _).depth ≤ 0; simp [PyData.depth]⟩
theorem Sh.ofE {α : Type} [DecidableEq α] {enc : α → D} {n : Nat} (h : EqE enc n) (a : α) : Sh n (enc a) := ⟨h.ok a, h.lay a, h.dep a⟩
theorem Shs.nil {n : Nat} : Shs n [] := ⟨rfl, rfl, Nat.zero_le _⟩
theorem Shs.cons {n : Nat} {d : D} {ds : List D} (h : Sh n d) (t : Shs n ds) : Shs n (d :: ds) := by
  refine ⟨?_, ?_, ?_⟩
  · show (okD d && okDs ds) = true
    rw [h.ok, t.ok] <;> rfl
  · show ((toP d).canLay0 && PyData.canLayAll0 (toPs ds)) = true
    rw [h.lay, t.lay] <;> rfl
  · have h1 := h.dep
    have h2 := t.dep
    show PyData.depthAll (toP d :: toPs ds) ≤ n
    simp only [PyData.depthAll]
    omega
theorem Shs.all {n : Nat} : ∀ {ds : List D}, (∀ d ∈ ds, Sh n d) → Shs n ds
  | [], _ => .nil
  | d :: ds, h => .cons (h d (List.mem_cons_self ..)) (Shs.all fun x hx => h x (List.mem_cons_of_mem _ hx))
theorem Sh.tup {n : Nat} {ds : List D} (h : Shs n ds) : Sh (n + 1) (.tup ds) := ⟨h.ok, by show (PyData.tuple (toPs ds)).canLay0 = true; simp only [PyData.canLay0]; exact h.lay, by have := h.dep; show (PyData.tuple (toPs ds)).depth ≤ n + 1; simp only [PyData.depth]; omega⟩
theorem Sh.lst {n : Nat} {ds : List D} (h : Shs n ds) : Sh (n + 1) (.lst ds) := ⟨h.ok, by show (PyData.list (toPs ds)).canLay0 = true; simp only [PyData.canLay0]; exact h.lay, by have := h.dep; show (PyData.list (toPs ds)).depth ≤ n + 1; simp only [PyData.depth]; omega⟩
mutual
theorem eqv_refl : ∀ d : PyData, d.canLay0 = true → PyData.eqv d d = true
  | .none, _ => by simp only [PyData.eqv]
  | .bool b, _ => by simp only [PyData.eqv, beq_self_eq_true]
  | .int i, _ => by simp only [PyData.eqv, beq_self_eq_true]
  | .str s, _ => by simp only [PyData.eqv, beq_self_eq_true]
  | .list xs, h => by
    simp only [PyData.canLay0] at h
    simp only [PyData.eqv]
    exact eqvs_refl xs h
  | .tuple xs, h => by
    simp only [PyData.canLay0] at h
    simp only [PyData.eqv]
    exact eqvs_refl xs h
  | .dict _, h => by simp only [PyData.canLay0] at h; cases h
theorem eqvs_refl : ∀ ds : List PyData, PyData.canLayAll0 ds = true → PyData.eqvAll ds ds = true
  | [], _ => by simp only [PyData.eqvAll]
  | d :: ds, h => by
    simp only [PyData.canLayAll0, Bool.and_eq_true] at h
    simp only [PyData.eqvAll, eqv_refl d h.1, eqvs_refl ds h.2, Bool.and_self]
end
section
variable {e : En} {P : D → En → Prop} {x y d : D} {n : Nat}
theorem drf_lk {cs : List Cel} {d : D} {xs : List D} (h : lk cs d = some xs) : drf cs d = .lst xs := by
  cases d with
  | cell n => exact drf_cell (lk_cell_iff h)
  | lst ys => cases h; rfl
  | fro ys => cases h; rfl
  | _ => cases h
theorem v_tgX {tg : Tg} {d : D} {sl : List (Option D)} {PQ : List (Option D) → Prop} (h : ∃ sl', setTg tg d sl = some sl' ∧ PQ sl') : ∃ sl', setTg tg d sl = some sl' ∧ PQ sl' := h
theorem app_set' {cs : List Cel} {c0 c : Cel} : (cs ++ [c0]).set cs.length c = cs ++ [c] := by simp
/-- the same data on both sides -/
theorem v_eqS (hx : drf e.cs x = d) (hy : drf e.cs y = d) (h : Sh n d) (p : P (.bl true) e) (hni : (noInt x || noInt y) = true := by rfl) (hn : n ≤ 64 := by decide) : qEq x y e P :=
  v_eqP ⟨hni, by rw [hx]; exact h.shp hn, by rw [hy]; exact h.shp hn, by rw [hx, hy]; exact eqv_refl _ h.lay, p⟩
theorem v_neS (hx : drf e.cs x = d) (hy : drf e.cs y = d) (h : Sh n d) (p : P (.bl false) e) (hni : (noInt x || noInt y) = true := by rfl) (hn : n ≤ 64 := by decide) : qNe x y e P :=
  v_nePT ⟨hni, by rw [hx]; exact h.shp hn, by rw [hy]; exact h.shp hn, by rw [hx, hy]; exact eqv_refl _ h.lay, p⟩
end
end DL
namespace DL
open PySem PySem.Spec PyProof.Rows L2
open Evl (Ex)

/-! ### an own class beside what is none of it -/
theorem mro_ty : ∀ a ∈ tysB, (PySem.fastBuiltinMro a).isSome = true := by decide +kernel
theorem subIn_ty {K : PySem.W.Frag} {C : Addr} {a : String} (h : a ∈ tysB) : PySem.W.subIn K (.type a) (.ref C) = some false := by
  have q := mro_ty a h
  show (PySem.fastBuiltinMro a).map (·.contains (Value.ref C)) = some false
  unfold PySem.fastBuiltinMro at q ⊢
  cases e : PySem.fastFind? a with
  | none => rw [e] at q; cases q
  | some m =>
    show some ((m.mro.map Value.type).contains (Value.ref C)) = some false
    rw [Option.some.injEq, Bool.eq_false_iff]
    intro z
    obtain ⟨n, _, e⟩ := List.mem_map.mp (List.contains_iff_mem.mp z)
    cases e
theorem nf_ty {K : PySem.W.Frag} {C : Addr} {a : String} (h : a ∈ tysB) : PySem.W.notFirst K C (.type a) = true := by
  unfold PySem.W.notFirst
  rw [subIn_ty h]
  simp
def rCmpA (K : PySem.W.Frag) (C : Addr) (sp : Spc) : R2 := fun x y H Q => ∃ a dx gs t, x = .ref a ∧ H a = some (.ins C dx gs) ∧ TyX K H y (.type t) ∧ t ∈ tysB ∧ spD K sp [.ref a, y] H Q E0
def qCmpA (C : Addr) (sp : Spc) : D → D → DE := fun d y e P => (∃ ns xs, insD e.cs d = some (C, ns, xs)) ∧ ((∃ ns xs, insD e.cs y = some (C, ns, xs)) ∨ ∃ t, tyN e.cs y = some t) ∧ sp [d, y] e.cs fun r cs' => P r { e with cs := cs' }
theorem od_cmpA {K : PySem.W.Frag} {C : Addr} {sp : Spc} : OpD K (fun x y H Q => rTwo K C C sp x y H Q ∨ rCmpA K C sp x y H Q) (qCmpA C sp) := fun W H σ e x y d1 d2 P Q S r1 r2 ⟨⟨n1, x1, i1⟩, h2, t⟩ k => by
  rcases h2 with h2 | ⟨t', h2⟩
  · exact .inl (od_two W H σ e x y d1 d2 P Q S r1 r2 ⟨⟨n1, x1, i1⟩, h2, t⟩ k)
  · obtain ⟨a, dx, gs, rfl, h1, h2', h3⟩ := S.ok.ins r1 i1
    obtain ⟨ty, mem⟩ := S.ok.ty r2 h2
    exact .inr ⟨a, dx, gs, t', rfl, h1, ty, mem, W, e.cs, [d1, d2], _, S.ok, .cons r1 (.cons r2 .nil), t, fun d cs' W' H' v p l ok r' => k _ _ _ _ _ p l ⟨ok, S.sl.mono l⟩ r'⟩
section
variable {X : Cx} {C fn : Addr} {k : Nat} {ps : List Str} {sp : Spc}
theorem op_cmpT {op : CmpOp} (G : Good X.prog X.w X.K X.mg X.base k fn ps sp) (hr : Room k X.A) (hu : X.A.units < cLine) (sm : Sm X.K C (cmpInfo op).2.1 fn) (hop : ∀ a b, compareOp op a b = richCompare op a b := by intros; rfl) : OpR X (compareOp op) (rCmpA X.K C sp) := by
  rintro pins s σ H x y v u Q I rx ry ⟨a, dx, gs, t, rfl, ha, ty, mem, h⟩
  obtain ⟨fd, F, bi, kp⟩ := G
  cases (show v = Value.ref a from rx)
  obtain ⟨od, J⟩ := Inv.inst I ha
  obtain ⟨m, hF⟩ := I.fr
  obtain ⟨Ph, Z, hz, _⟩ := kit_of I ry ty
  rw [hop]
  refine PySem.W.cmp_K hu hF I.ok.mod.kin J (Z.ty _ _ I.kIn hz) (nf_ty mem) sm.at_ sm.fn (wpAny_mono (run_in (us := [.ref a, u]) (vs := [V.ref a, y]) F bi hr I.env0 I (.cons rfl (.cons ry .nil)) h) (fun v s' z => ?_) fun _ _ z => z)
  obtain ⟨v', H', I', rv, q⟩ := z
  exact RelV.cmp rv (P := EP X pins σ Q) ⟨v', H', I', rv, q⟩
theorem op_cmpA {op : CmpOp} (G : Good X.prog X.w X.K X.mg X.base k fn ps sp) (hr : Room k X.A) (hu : X.A.units < cLine) (sm : Sm X.K C (cmpInfo op).2.1 fn) (hop : ∀ a b, compareOp op a b = richCompare op a b := by intros; rfl) :
    OpR X (compareOp op) (fun x y H Q => rTwo X.K C C sp x y H Q ∨ rCmpA X.K C sp x y H Q) := (op_cmpO G hr hu sm hop).or (op_cmpT G hr hu sm hop)
end
def qIsiA (C : Addr) : List D → DE
  | [d, .raw (.ref C')] => fun e P => C' = C ∧ (((∃ ns xs, insD e.cs d = some (C, ns, xs)) ∧ P (.bl true) e) ∨ ((∃ t, tyN e.cs d = some t) ∧ P (.bl false) e))
  | _ => fun _ _ => False
theorem cd_isiA {K : PySem.W.Frag} {C : Addr} (kt : ∀ a ∈ tysB, PySem.W.kitOne K (.type a) (.ref C) = some false) : CallD K (fun xs H Q => (∃ a dx fs, xs = [.ref a, .ref C] ∧ H a = some (.ins C dx fs) ∧ Q (.bl true) H) ∨ rIsi K xs H Q) (qIsiA C) := by
  intro W H σ e vs ds P Q S r t k
  unfold qIsiA at t
  split at t
  · obtain ⟨v, v2, rfl, r1, r2⟩ := r.two
    obtain ⟨rfl, t⟩ := t
    rcases t with ⟨⟨ns, xs, hi⟩, p⟩ | ⟨⟨a, ea⟩, p⟩
    · obtain ⟨a, dx, gs, rfl, h1, _⟩ := S.ok.ins r1 hi
      cases r2
      exact .inl ⟨a, dx, gs, rfl, h1, k _ _ _ _ _ p W.le_refl S (.bl _)⟩
    · obtain ⟨ty, mem⟩ := S.ok.ty r1 ea
      cases r2
      exact .inr ⟨v, .ref _, _, _, _, rfl, .own _, ty, kt _ mem, k _ _ _ _ _ p W.le_refl S (.bl _)⟩
  · exact t.elim
theorem v_isAT {C : Addr} {d : D} {e : En} {P : D → En → Prop} (h : ∃ ns xs, insD e.cs d = some (C, ns, xs)) (p : P (.bl true) e) : qIsiA C [d, .raw (.ref C)] e P := ⟨rfl, .inl ⟨h, p⟩⟩
theorem v_isAF {C : Addr} {d : D} {e : En} {P : D → En → Prop} (h : ∃ t, tyN e.cs d = some t) (p : P (.bl false) e) : qIsiA C [d, .raw (.ref C)] e P := ⟨rfl, .inr ⟨h, p⟩⟩

/-! ### minus -/
def eNeg (ta : DE) : DE := fun e P => ta e fun x e1 => ∃ i, x = .int i ∧ P (.int (-i)) e1
section
variable {X : Cx} {B : Bs} {a : Expr} {pos : Pos} {ta : DE}
theorem de_neg (ha : PE X a (lE X.K B ta)) : PE X (.UnaryOp .USub a pos) (lE X.K B (eNeg ta)) :=
  PE.imp (pe_un un_neg ha) fun σ H Q ⟨W, e, P, bl, S, t, k⟩ => ⟨W, e, _, bl, S, t, fun x e1 W1 H1 v ⟨c, ex, h1⟩ l1 S1 r1 => ⟨c, by subst ex; exact r1.int_inv, k _ _ _ _ _ h1 l1 S1 (.int _)⟩⟩
end
theorem v_neg {ta : DE} {e : En} {P : D → En → Prop} (h : ta e fun x e1 => ∃ i, x = .int i ∧ P (.int (-i)) e1) : eNeg ta e P := h
theorem v_oneI {i : Int} {PQ : Int → Prop} (h : PQ i) : ∃ j, D.int i = .int j ∧ PQ j := ⟨i, rfl, h⟩
section
variable {e : En} {P : D → En → Prop}
theorem v_isnB {a b : Bool} (p : P (.bl (!decide (a = b))) e) : qIsNot (.bl a) (.bl b) e P := p
theorem v_isB {a b : Bool} (p : P (.bl (decide (a = b))) e) : qIs (.bl a) (.bl b) e P := p
end
theorem cut_last {α : Type} (f : α → D) (fs : List α) : cutD (fs.map f) none (some (-1)) = (fs.take (fs.length - 1)).map f := by
  unfold cutD
  have h := HT.clip_eq (-1) fs.length fs.length
  rw [if_pos (by decide)] at h
  have h2 : HT.sIx fs.length fs.length (some (-1)) = fs.length - 1 := by omega
  rw [HT.sIx_none, List.length_map, List.drop_zero, h2, ← List.map_take, Nat.sub_zero]
theorem cut_from {α : Type} (f : α → D) (fs : List α) (k : Nat) : cutD (fs.map f) (some (k : Int)) none = (fs.drop k).map f := by
  unfold cutD
  rw [HT.sIx_none, HT.sIx_nat, List.length_map, ← List.map_drop, ← List.map_take]
  congr 1
  rcases Nat.le_total k fs.length with h | h
  · rw [Nat.min_eq_left h, List.take_of_length_le (by simp)]
  · rw [Nat.min_eq_right h, List.drop_eq_nil_of_le (Nat.le_refl _), List.drop_eq_nil_of_le h]
    simp
theorem cut_mid {α : Type} (f : α → D) (fs : List α) (i j : Nat) (h : i ≤ j) (h2 : j ≤ fs.length) : cutD (fs.map f) (some (i : Int)) (some (j : Int)) = ((fs.drop i).take (j - i)).map f := by
  unfold cutD
  rw [HT.sIx_nat, HT.sIx_nat, List.length_map, ← List.map_drop, ← List.map_take, Nat.min_eq_left h2, Nat.min_eq_left (Nat.le_trans h h2)]
theorem atI_end {α : Type} {f : α → D} {xs : List α} {x : α} (h : xs[xs.length - 1]? = some x) : atI (xs.map f) (-1) = some (f x) := by
  have hl := (List.getElem?_eq_some_iff.mp h).1
  have e : ixN (xs.map f).length (-1) = some (xs.length - 1) := by
    unfold ixN
    rw [List.length_map, if_neg (by decide), if_pos (by omega)]
    congr 1
    omega
  unfold atI
  rw [e]
  show (xs.map f)[xs.length - 1]? = some (f x)
  rw [List.getElem?_map, h]
  rfl
end DL
namespace DL
open PySem PySem.Spec PyProof.Rows L2
open Evl (Ex)

/-! ### in, of an own class -/
section
variable {prog : Program} {w : World} {A : Around} {E : Value → Shared → Prop} {s : Shared} {K : PySem.W.Frag} {x C f : Addr} {ox : Obj} {od : Option Obj} {y : Value} {Q : Bool → Shared → Prop}
open PySem.W in
theorem contains_own {M : Model} (X : K.In s.heap) (I : InstAt s.heap x ox C od) (hs : findIn K (.ref C) "__contains__" = some (some (.ref f))) (hf : typeIn K (.ref f) = some (.type "function"))
    (h : wpAny M A (call (.ref f) [.ref x, y]) (fun v s' => ∃ b, v = .bool b ∧ Q b s') E s) : wpAny M A (contains (.ref x) y) Q E s := by
  unfold contains specialOf
  refine wpAny_holding ?_
  refine wpAny_bind (wpAny_bind (I.type.here ((looks_findIn X hs).here ?_)))
  rw [if_neg (show ¬ ((some (Value.ref f) == some Value.none) = true) by simp)]
  unfold callSpecialUnlessNone? specialOf
  refine wpAny_bind (wpAny_bind (wpAny_bind (I.type.here ((looks_findIn X hs).here ?_))))
  refine wpAny_holding (wpAny_bind ((bind_fn X _ hf).here ?_))
  dsimp only
  rw [if_neg (show ¬ ((Value.ref f == Value.none) = true) by simp)]
  refine wpAny_bind (wpAny_mono h (fun v s' hv => ?_) fun _ _ z => z)
  obtain ⟨b, rfl, q⟩ := hv
  exact wpAny_pure (wpAny_truthy_bool q)
end
def isB : D → Prop := fun d => ∃ b, d = .bl b
def rInO (K : PySem.W.Frag) (C : Addr) (sp : Spc) : R2 := fun y x H Q => ∃ a dx gs, x = .ref a ∧ H a = some (.ins C dx gs) ∧ spD K sp [.ref a, y] H (fun v H' => (∃ b, v = .bl b) ∧ Q v H') E0
def qInO (C : Addr) (sp : Spc) : D → D → DE := fun y d e P => (∃ ns xs, insD e.cs d = some (C, ns, xs)) ∧ sp [d, y] e.cs fun r cs' => isB r ∧ P r { e with cs := cs' }
theorem od_inO {K : PySem.W.Frag} {C : Addr} {sp : Spc} : OpD K (rInO K C sp) (qInO C sp) := fun W H σ e x y d1 d2 P Q S r1 r2 ⟨⟨n1, x1, i1⟩, t⟩ k => by
  obtain ⟨a, dx, gs, rfl, h1, h2, h3⟩ := S.ok.ins r2 i1
  exact ⟨a, dx, gs, rfl, h1, W, e.cs, [d2, d1], _, S.ok, .cons r2 (.cons r1 .nil), t, fun d cs' W' H' v ⟨⟨b, hb⟩, p⟩ l ok r' => ⟨⟨b, by subst hb; exact r'.bl_inv⟩, k _ _ _ _ _ p l ⟨ok, S.sl.mono l⟩ r'⟩⟩
theorem op_inO {X : Cx} {C fn : Addr} {k : Nat} {ps : List Str} {sp : Spc} (G : Good X.prog X.w X.K X.mg X.base k fn ps sp) (hr : Room k X.A) (sm : Sm X.K C "__contains__" fn) : OpR X (compareOp .In) (rInO X.K C sp) := by
  rintro pins s σ H y x v u Q I ry rx ⟨a, dx, gs, rfl, ha, h⟩
  obtain ⟨fd, F, bi, kp⟩ := G
  cases (show u = Value.ref a from rx)
  obtain ⟨od, J⟩ := Inv.inst I ha
  show wpAny (model X.prog X.w) X.A ((contains (.ref a) v) >>= fun b => pure (Value.bool b)) _ _ s
  have c : wpAny (model X.prog X.w) X.A (contains (.ref a) v) (fun b s' => EP X pins σ Q (Value.bool b) s') X.xe s := by
    refine contains_own I.kIn J sm.at_ (beq_iff_eq.mp sm.fn) (wpAny_mono (run_in (us := [.ref a, v]) (vs := [V.ref a, y]) F bi hr I.env0 I (.cons rfl (.cons ry .nil)) h) (fun v s' z => ?_) fun _ _ z => z)
    obtain ⟨v', H', I', rv, ⟨b, rfl⟩, q⟩ := z
    cases rv
    exact ⟨b, rfl, .bl b, H', I', rfl, q⟩
  exact wpAny_bind (wpAny_mono c (fun b s' q => wpAny_pure q) fun _ _ z => z)

/-! ### more list methods -/
section
variable {K : PySem.W.Frag}
theorem RAll.eraseIdx {W : Wd} : ∀ {vs : List V} {ds : List D} (k : Nat), RAll K W vs ds → RAll K W (vs.eraseIdx k) (ds.eraseIdx k)
  | _, _, _, .nil => .nil
  | _, _, 0, .cons _ t => t
  | _, _, k + 1, .cons r t => .cons r (RAll.eraseIdx k t)
def qClr : D → List D → DE := fun d ds e P => ∃ n xs, d = .cell n ∧ ds = [] ∧ e.cs[n]? = some (.lst xs) ∧ P .non { e with cs := e.cs.set n (.lst []) }
theorem md_clr : MtD K rClear qClr := by
  rintro W H σ e x vs d ds P Q S r rs ⟨n, xs, rfl, rfl, hc, p⟩ k
  cases rs
  cases r with
  | @cell _ a hm =>
    obtain ⟨vs, h1, h2⟩ := S.ok.cellL hm hc
    refine ⟨a, vs, rfl, rfl, h1, ?_⟩
    exact k _ _ _ _ _ p W.le_refl ⟨S.ok.setC hm hc (fun z => nomatch z) ⟨_, upd_same, .nil⟩, S.sl⟩ .non
/-- xs.pop(i), i from the front -/
def qPopI : D → List D → DE := fun d ds e P => ∃ (n : Nat) (xs : List D) (i : Nat) (y : D), d = .cell n ∧ ds = [.int (i : Nat)] ∧ e.cs[n]? = some (.lst xs) ∧ xs[i]? = some y ∧ i < 1000000 ∧ P y { e with cs := e.cs.set n (.lst (xs.eraseIdx i)) }
theorem md_popI : MtD K rPopAt qPopI := by
  rintro W H σ e x vs d ds P Q S r rs ⟨n, xs, i, y, rfl, rfl, hc, hy, hi, p⟩ k
  obtain ⟨v, rfl, rv⟩ := rs.one
  cases rv
  cases r with
  | @cell _ a hm =>
    obtain ⟨vs, h1, h2⟩ := S.ok.cellL hm hc
    obtain ⟨z, hz, rz⟩ := h2.get hy
    have hl := (List.getElem?_eq_some_iff.mp hz).1
    refine ⟨a, vs, _, i, z, rfl, rfl, h1, by omega, by omega, ?_, hz, ?_⟩
    · exact (ixN_seq (Evl.ixN_nat hl)).1
    · exact k _ _ _ _ _ p W.le_refl ⟨S.ok.setC hm hc (fun z => nomatch z) ⟨_, upd_same, h2.eraseIdx i⟩, S.sl⟩ rz
end
/-! ### whole numbers of the module -/
theorem de_intG {X : Cx} {B : Bs} {x : Str} {i : Int} {pos : Pos} (hg : Gl X x) (hm : ∃ t, X.mg x = some (.int i t)) (hd : (x == ("__debug__" : Str)) = false := by decide) : PE X (.Name x pos) (lE X.K B (eC (.int i))) := by
  obtain ⟨t, hm⟩ := hm
  exact de_glob hg hm (show RelV (.int i) (.int i t) from ⟨t, rfl⟩) (fun _ => .int i) hd
end DL
namespace DL
open PySem PySem.Spec PyProof.Rows L2
open Evl (Ex)

/-! ### comprehensions of two clauses -/
def eLc2 (o : Bool) (it : DI) (tg : Tg) (tt : DT) (it1 : DI) (tg1 : Tg) (tt1 : DT) (te : DE) (vs vs1 : List Nat) : DE := fun e P => it e fun ds G e1 => ∃ I : Nat → List D → List Cel → Prop, I 0 [] e1.cs ∧
  (∀ i d acc cs, ds[i]? = some d → I i acc cs → G cs ∧ ∃ sl', setTg tg d (wipeD e1.sl vs) = some sl' ∧ tt ⟨sl', cs⟩ fun b e2 => if b = true then
    it1 e2 fun ds1 G1 e3 => ∃ I1 : Nat → List D → List Cel → Prop, I1 0 acc e3.cs ∧
      (∀ j d1 acc1 cs1, ds1[j]? = some d1 → I1 j acc1 cs1 → G1 cs1 ∧ ∃ sl2, setTg tg1 d1 (wipeD e3.sl vs1) = some sl2 ∧ tt1 ⟨sl2, cs1⟩ fun b1 e4 => if b1 = true then te e4 fun y e5 => acc1.length < sizeLine ∧ I1 (j + 1) (acc1 ++ [y]) e5.cs else I1 (j + 1) acc1 e4.cs) ∧
      ∀ acc1 cs1, I1 ds1.length acc1 cs1 → G1 cs1 ∧ I (i + 1) acc1 cs1
    else I (i + 1) acc e2.cs) ∧
  ∀ acc cs, I ds.length acc cs → G cs ∧ newL o acc ⟨e1.sl, cs⟩ P
section
variable {K : PySem.W.Frag} {X : Cx} {B : Bs} {elt tgE iter tgE1 iter1 : Expr} {ifs ifs1 : List Expr} {scope : Scope} {own : List (Str × Nat)} {pos : Pos} {it it1 : DI} {tg tg1 : Tg} {tt tt1 : DT} {te : DE} {o : Bool}
/-- the list that grows, hidden -/
def HidS (K : PySem.W.Frag) (F1 : Hp) (m1 : List Addr) (h1 : List (Addr × List V)) (Dl : Addr) (H : Hp) (acc : List D) (cs : List Cel) : Prop :=
  ∃ (F : Hp) (mm : List Addr) (vs' : List V), Wd.sub ⟨F1, m1, h1⟩ ⟨F, mm, (Dl, vs') :: h1⟩ ∧ Ok K ⟨F, mm, (Dl, vs') :: h1⟩ H cs ∧ RAll K ⟨F, mm, (Dl, vs') :: h1⟩ vs' acc
theorem lc2_ok {vs vs1 : List Nat} (hv : ∀ i ∈ tg.on, i ∈ vs) (hv1 : ∀ i ∈ tg1.on, i ∈ vs1) : ∀ σ H Q, lE K B (eLc2 o it tg tt it1 tg1 tt1 te vs vs1) σ H Q →
    tLc2 (lI K B it) (gV K tg) (lT K Bs.any tt) (lI K Bs.any it1) (gV K tg1) (lT K Bs.any tt1) (lE K Bs.any te) vs vs1 σ H Q := by
  rintro σ H Q ⟨W, e, P, bl, S, t, k⟩
  refine ⟨W, e, _, bl, S, t, fun ds G e1 W1 H1 J ⟨I, i0, turn, done⟩ l1 S1 wk Dl hD => ?_⟩
  obtain ⟨F1, m1, h1⟩ := W1
  refine ⟨fun i m H => m = ds.length - i ∧ i ≤ ds.length ∧ ∃ (acc : List D) (cs : List Cel), HidS K F1 m1 h1 Dl H acc cs ∧ I i acc cs,
    ⟨_, rfl, Nat.zero_le _, [], e1.cs, ⟨F1, m1, [], ⟨Ex.refl _, [], (List.append_nil _).symm⟩, S1.ok.hide hD, .nil⟩, i0⟩, ?_⟩
  rintro i m H2 ⟨rfl, hi, acc, cs, ⟨F, mm, vs', sb, ok, ra⟩, p⟩
  have Sx : Sd K ⟨F, mm, (Dl, vs') :: h1⟩ H2 σ ⟨e1.sl, cs⟩ := ⟨ok, S1.sl.mono' sb⟩
  by_cases hlt : i < ds.length
  · have hd : ds[i]? = some ds[i] := by simp [hlt]
    obtain ⟨g2, sl', hsl, p3⟩ := turn i _ acc cs hd p
    refine .inr ⟨wk.go i _ H2 σ _ sb Sx g2 hlt, fun H => ∃ (acc : List D) (cs : List Cel), HidS K F1 m1 h1 Dl H acc cs ∧ I (i + 1) acc cs, fun H' q => ⟨ds.length - (i + 1), by omega, rfl, hlt, q⟩, fun x H' y => ?_⟩
    obtain ⟨W3, l3, S3, r3⟩ := wk.yld i _ H2 σ _ x H' _ sb Sx g2 hd y
    have S3w : Sd K W3 H' (wipe σ vs) ⟨wipeD e1.sl vs, cs⟩ := ⟨S3.ok, S3.sl.wipe vs⟩
    refine gV_ok (vs := vs) S3w r3 hsl fun σ4 S4 w4 => ⟨by rw [w4 hv, wipe_wipe], ?_⟩
    refine ⟨W3, _, _, trivial, S4, p3, fun b e5 W5 H5 p5 l5 S5 => ?_⟩
    have l35 := l3.tr l5
    cases b with
    | false =>
      refine iteF ⟨acc, e5.cs, ?_, p5⟩
      have ra5 := RAll.mono l35 _ _ ra
      obtain ⟨F5, m5, h5⟩ := W5
      obtain rfl : h5 = (Dl, vs') :: h1 := l35.2.2
      exact ⟨F5, m5, vs', sb.tr (W2 := ⟨F5, m5, (Dl, vs') :: h1⟩) ⟨l35.1, l35.2.1⟩, S5.ok, ra5⟩
    | true =>
      refine iteT ⟨W5, e5, _, trivial, S5, p5, fun ds1 G1 e6 W6 H6 J1 ⟨I1, i10, turn1, done1⟩ l6 S6 wk1 => ?_⟩
      have l36 := l35.tr l6
      have ra6 := RAll.mono l36 _ _ ra
      obtain ⟨F6, m6, h6⟩ := W6
      obtain rfl : h6 = (Dl, vs') :: h1 := l36.2.2
      have sb6 : Wd.sub ⟨F1, m1, h1⟩ ⟨F6, m6, (Dl, vs') :: h1⟩ := sb.tr (W2 := ⟨F6, m6, (Dl, vs') :: h1⟩) ⟨l36.1, l36.2.1⟩
      refine ⟨fun j k H => k = ds1.length - j ∧ j ≤ ds1.length ∧ ∃ (acc1 : List D) (cs1 : List Cel), HidS K F6 m6 h1 Dl H acc1 cs1 ∧ I1 j acc1 cs1,
        ⟨_, rfl, Nat.zero_le _, acc, e6.cs, ⟨F6, m6, vs', ⟨Ex.refl _, [], (List.append_nil _).symm⟩, S6.ok, ra6⟩, i10⟩, ?_⟩
      rintro j k1 H7 ⟨rfl, hj, acc1, cs1, ⟨F7, mm7, vs7, sb7, ok7, ra7⟩, q1⟩
      have sb7' : Wd.sub ⟨F6, m6, (Dl, vs') :: h1⟩ ⟨F7, mm7, (Dl, vs7) :: h1⟩ := ⟨sb7.1, sb7.2⟩
      have Sx7 : Sd K ⟨F7, mm7, (Dl, vs7) :: h1⟩ H7 σ4 ⟨e6.sl, cs1⟩ := ⟨ok7, S6.sl.mono' sb7'⟩
      by_cases hlt1 : j < ds1.length
      · have hd1 : ds1[j]? = some ds1[j] := by simp [hlt1]
        obtain ⟨g7, sl7, hsl7, p7⟩ := turn1 j _ acc1 cs1 hd1 q1
        refine .inr ⟨wk1.go j _ H7 σ4 _ sb7' Sx7 g7 hlt1, fun H => ∃ (acc1 : List D) (cs1 : List Cel), HidS K F6 m6 h1 Dl H acc1 cs1 ∧ I1 (j + 1) acc1 cs1, fun H' q => ⟨ds1.length - (j + 1), by omega, rfl, hlt1, q⟩, fun x1 H8 y1 => ?_⟩
        obtain ⟨W8, l8, S8, r8⟩ := wk1.yld j _ H7 σ4 _ x1 H8 _ sb7' Sx7 g7 hd1 y1
        have S8w : Sd K W8 H8 (wipe σ4 vs1) ⟨wipeD e6.sl vs1, cs1⟩ := ⟨S8.ok, S8.sl.wipe vs1⟩
        refine gV_ok (vs := vs1) S8w r8 hsl7 fun σ9 S9 w9 => ⟨by rw [w9 hv1, wipe_wipe], ?_⟩
        refine ⟨W8, _, _, trivial, S9, p7, fun b1 e10 W10 H10 p10 l10 S10 => ?_⟩
        have l810 := l8.tr l10
        cases b1 with
        | false =>
          refine iteF ⟨acc1, e10.cs, ?_, p10⟩
          have ra10 := RAll.mono l810 _ _ ra7
          obtain ⟨F10, m10, h10⟩ := W10
          obtain rfl : h10 = (Dl, vs7) :: h1 := l810.2.2
          exact ⟨F10, m10, vs7, sb7.tr (W2 := ⟨F10, m10, (Dl, vs7) :: h1⟩) ⟨l810.1, l810.2.1⟩, S10.ok, ra10⟩
        | true =>
          refine iteT ⟨W10, e10, _, trivial, S10, p10, fun y e11 W11 H11 v11 ⟨hz, p11⟩ l11 S11 r11 => ?_⟩
          have l811 := l810.tr l11
          have hD11 : H11 Dl = some (.lst vs7) := (S11.ok.hd (Dl, vs7) (by rw [l811.2.2]; exact List.mem_cons_self)).1
          have ra11 := RAll.mono l811 _ _ ra7
          refine ⟨vs7, hD11, by rw [ra11.length]; exact hz, acc1 ++ [y], e11.cs, ?_, p11⟩
          have ok11 := S11.ok
          have ra12 := ra11.app1 r11
          obtain ⟨F11, m11, h11⟩ := W11
          obtain rfl : h11 = (Dl, vs7) :: h1 := l811.2.2
          exact ⟨F11, m11, vs7 ++ [v11], sb7.tr (W2 := ⟨F11, m11, (Dl, vs7 ++ [v11]) :: h1⟩) ⟨l811.1, l811.2.1⟩, ok11.grow, ra12.world rfl rfl⟩
      · have ei : j = ds1.length := by omega
        subst ei
        obtain ⟨g7, q7⟩ := done1 acc1 cs1 q1
        exact .inl ⟨wk1.stop _ _ H7 σ4 _ sb7' Sx7 g7 (Nat.le_refl _), acc1, cs1, ⟨F7, mm7, vs7, sb6.tr (W2 := ⟨F7, mm7, (Dl, vs7) :: h1⟩) sb7', ok7, ra7⟩, q7⟩
  · have ei : i = ds.length := by omega
    subst ei
    obtain ⟨g2, q⟩ := done acc cs p
    refine .inl ⟨wk.stop _ _ H2 σ _ sb Sx g2 (Nat.le_refl _), ?_⟩
    have ra' : RAll K ⟨F, mm, h1⟩ vs' acc := ra.world rfl rfl
    have lx : (⟨F1, m1, h1⟩ : Wd).le ⟨F, mm, h1⟩ := ⟨sb.1, sb.2, rfl⟩
    cases o with
    | false =>
      obtain ⟨ok', l'⟩ := ok.showF
      exact k _ _ _ _ _ q (l1.tr (lx.tr l')) ⟨ok', S1.sl.mono (lx.tr l')⟩ (.lst upd_same (RAll.mono l' _ _ ra'))
    | true =>
      obtain ⟨ok', l'⟩ := ok.showC ra'
      refine k _ _ _ _ _ q (l1.tr (lx.tr l')) ⟨ok', S1.sl.mono (lx.tr l')⟩ (.cell ?_)
      show (mm ++ [Dl])[cs.length]? = some Dl
      have hl : mm.length = cs.length := ok.len
      rw [← hl, List.getElem?_append_right (Nat.le_refl _)]
      simp
theorem de_lc2 {vs1 : List Nat} (hc : X.calm = true) (hN : X.N.Nodup) (hi : PI X tgE iter (lI X.K B it)) (ok : BlkOk X.N X.env.scope scope own) (hv : ∀ i ∈ tg.on, i ∈ own.map (·.2)) (hv1 : ∀ i ∈ tg1.on, i ∈ vs1) (hv2 : ∀ i ∈ vs1, i ∈ own.map (·.2))
    (hg : ∀ (s : Shared) (H : Hp) (C : Addr) (cl : List (Str × Addr)) (fp : List Addr), PG (X.blk s H scope (compEnvC scope cl C X.env) fp) tgE (gV X.K tg)) (ht : ∀ (s : Shared) (H : Hp) (C : Addr) (cl : List (Str × Addr)) (fp : List Addr), PTs (X.blk s H scope (compEnvC scope cl C X.env) fp) ifs (lT X.K Bs.any tt))
    (hi1 : ∀ (s : Shared) (H : Hp) (C : Addr) (cl : List (Str × Addr)) (fp : List Addr), PI (X.blk s H scope (compEnvC scope cl C X.env) fp) tgE1 iter1 (lI X.K Bs.any it1))
    (hg1 : ∀ (s : Shared) (H : Hp) (C : Addr) (cl : List (Str × Addr)) (fp : List Addr), PG (X.blk s H scope (compEnvC scope cl C X.env) fp) tgE1 (gV X.K tg1)) (ht1 : ∀ (s : Shared) (H : Hp) (C : Addr) (cl : List (Str × Addr)) (fp : List Addr), PTs (X.blk s H scope (compEnvC scope cl C X.env) fp) ifs1 (lT X.K Bs.any tt1))
    (he : ∀ (s : Shared) (H : Hp) (C : Addr) (cl : List (Str × Addr)) (fp : List Addr), PE (X.blk s H scope (compEnvC scope cl C X.env) fp) elt (lE X.K Bs.any te)) (hs : ∀ x, foldedSetIterable iter X.env x = pure x := by intro _; rfl) (hs1 : ∀ env x, foldedSetIterable iter1 env x = pure x := by intro _ _; rfl) :
    PE X (.ListComp elt [⟨tgE, iter, ifs, 0⟩, ⟨tgE1, iter1, ifs1, 0⟩] scope pos) (lE X.K B (eLc2 o it tg tt it1 tg1 tt1 te (own.map (·.2)) vs1)) := PE.imp (pe_lc2 hc hN hi ok hv2 hg ht hi1 hg1 ht1 he hs hs1) (lc2_ok hv hv1)
end
theorem v_lc2 {e : En} {P : D → En → Prop} {tg tg1 : Tg} {tt tt1 : DT} {te : DE} {vs vs1 : List Nat} {o : Bool} {it it1 : DI} (h : it e fun ds G e1 => ∃ I : Nat → List D → List Cel → Prop, I 0 [] e1.cs ∧
  (∀ i d acc cs, ds[i]? = some d → I i acc cs → G cs ∧ ∃ sl', setTg tg d (wipeD e1.sl vs) = some sl' ∧ tt ⟨sl', cs⟩ fun b e2 => if b = true then
    it1 e2 fun ds1 G1 e3 => ∃ I1 : Nat → List D → List Cel → Prop, I1 0 acc e3.cs ∧
      (∀ j d1 acc1 cs1, ds1[j]? = some d1 → I1 j acc1 cs1 → G1 cs1 ∧ ∃ sl2, setTg tg1 d1 (wipeD e3.sl vs1) = some sl2 ∧ tt1 ⟨sl2, cs1⟩ fun b1 e4 => if b1 = true then te e4 fun y e5 => acc1.length < sizeLine ∧ I1 (j + 1) (acc1 ++ [y]) e5.cs else I1 (j + 1) acc1 e4.cs) ∧
      ∀ acc1 cs1, I1 ds1.length acc1 cs1 → G1 cs1 ∧ I (i + 1) acc1 cs1
    else I (i + 1) acc e2.cs) ∧
  ∀ acc cs, I ds.length acc cs → G cs ∧ newL o acc ⟨e1.sl, cs⟩ P) : eLc2 o it tg tt it1 tg1 tt1 te vs vs1 e P := h
end DL
namespace DL
open PySem PySem.Spec PyProof.Rows L2
open Evl (Ex)

/-! ### max, min of two -/
section
variable {K : PySem.W.Frag}
def qMax2 : List D → DE
  | [.int i, .int j] => fun e P => P (.int (if j > i then j else i)) e
  | _ => fun _ _ => False
def qMin2 : List D → DE
  | [.int i, .int j] => fun e P => P (.int (if j < i then j else i)) e
  | _ => fun _ _ => False
theorem cd_max2 : CallD K (fun xs H Q => ∃ i j, xs = [.int i, .int j] ∧ Q (.int (if j > i then j else i)) H) qMax2 := by
  intro W H σ e vs ds P Q S r t k
  unfold qMax2 at t
  split at t
  · exact ⟨_, _, r.two_int, k _ _ _ _ _ t W.le_refl S (.int _)⟩
  · exact t.elim
theorem cd_min2 : CallD K (fun xs H Q => ∃ i j, xs = [.int i, .int j] ∧ Q (.int (if j < i then j else i)) H) qMin2 := by
  intro W H σ e vs ds P Q S r t k
  unfold qMin2 at t
  split at t
  · exact ⟨_, _, r.two_int, k _ _ _ _ _ t W.le_refl S (.int _)⟩
  · exact t.elim
end
section
variable {e : En} {P : D → En → Prop} {a b : Int}
theorem v_max2 (p : P (.int (if b > a then b else a)) e) : qMax2 [.int a, .int b] e P := p
theorem v_min2 (p : P (.int (if b < a then b else a)) e) : qMin2 [.int a, .int b] e P := p
end
theorem bt_max : bootBuiltins "max" = some (.builtin "max") := by rfl
theorem bt_min : bootBuiltins "min" = some (.builtin "min") := by rfl
/-! ### extend; what is never reached -/
def qExt : D → List D → DE := fun d ds e P => ∃ n xs y ys, d = .cell n ∧ ds = [y] ∧ e.cs[n]? = some (.lst xs) ∧ lkP e.cs y = some ys ∧ xs.length + ys.length ≤ 100000 ∧ P .non { e with cs := e.cs.set n (.lst (xs ++ ys)) }
theorem RAll.app {K : PySem.W.Frag} {W : Wd} : ∀ {vs ws : List V} {xs ys : List D}, RAll K W vs xs → RAll K W ws ys → RAll K W (vs ++ ws) (xs ++ ys)
  | _, _, _, _, .nil, h => h
  | _, _, _, _, .cons r t, h => .cons r (RAll.app t h)
theorem md_ext {K : PySem.W.Frag} : MtD K rExtend qExt := by
  rintro W H σ e x vs d ds P Q S r rs ⟨n, xs, y, ys, rfl, rfl, hc, hy, hz, p⟩ k
  obtain ⟨v, rfl, rv⟩ := rs.one
  cases r with
  | @cell _ a hm =>
    obtain ⟨vs, h1, h2⟩ := S.ok.cellL hm hc
    obtain ⟨b, ws, rfl, h3, h4⟩ := S.ok.lkP rv hy
    refine ⟨a, b, vs, ws, rfl, rfl, h1, h3, ?_, ?_⟩
    · rw [h2.length, h4.length]
      exact Nat.le_trans hz (by decide)
    exact k _ _ _ _ _ p W.le_refl ⟨S.ok.setC hm hc (fun z => nomatch z) ⟨_, upd_same, h2.app h4⟩, S.sl⟩ .non
def eNever : DE := fun _ _ => False
theorem de_never {X : Cx} {B : Bs} {ex : Expr} : PE X ex (lE X.K B eNever) := ⟨fun _ _ _ _ _ _ ⟨_, _, _, _, _, t, _⟩ => t.elim⟩
/-! ### a, b = x, y -/
def sPar (i j : Nat) (ta : DA) : DS := fun P e => ta e fun ds e1 => ∃ x y, ds = [x, y] ∧ P.nx { e1 with sl := (e1.sl.set i (some x)).set j (some y) }
theorem ds_par {X : Cx} {B : Bs} {i j : Nat} {x y : Str} {a b : Expr} {ta : DA} {px py pt k2p pos : Pos} {kt k2} (hc : X.calm = true) (hN : X.N.Nodup) (hi : X.N[i]? = some x) (hj : X.N[j]? = some y) (hij : i ≠ j)
    (hx : X.env.scope.names.lookup x = some .local) (hy : X.env.scope.names.lookup y = some .local) (ha : PA X [a, b] (lA X.K B ta))
    (hw : swappedStores [.Tuple [.Name x px, .Name y py] kt pt] (.Tuple [a, b] k2 k2p) X.env = pure (some [x, y]) := by rfl)
    (hs : swapsWithSole [.Tuple [.Name x px, .Name y py] kt pt] (.Tuple [a, b] k2 k2p) pos.line X.env = pure false := by rfl) :
    PS X (.Assign [.Tuple [.Name x px, .Name y py] kt pt] (.Tuple [a, b] k2 k2p) pos) (lS X.K B (sPar i j ta)) :=
  PS.imp (ps_par hc hN hi hj hij hx hy ha hw hs) fun E σ H h => by
    obtain ⟨W, e, P, bl, S, h, c⟩ := lS_un h
    refine ⟨W, e, _, bl, S, h, fun ds e1 W1 H1 vs ⟨x, y, hd, p⟩ l S1 r => ?_⟩
    subst hd
    cases r with
    | cons r1 r2 =>
      cases r2 with
      | cons r2 r3 =>
        cases r3
        exact ⟨_, _, rfl, c.nx _ _ _ _ p l ⟨S1.ok, (S1.sl.set r1).set r2⟩⟩
theorem v_par {i j : Nat} {ta : DA} {P : Po} {e : En} (h : ta e fun ds e1 => ∃ x y, ds = [x, y] ∧ P.nx { e1 with sl := (e1.sl.set i (some x)).set j (some y) }) : sPar i j ta P e := h
/-! ### xs.index(k), whole numbers -/
def qIdx : D → List D → DE := fun d ds e P => ∃ (ns : List Int) (k : Int) (j : Nat), lk e.cs d = some (ns.map .int) ∧ ds = [.int k] ∧ ns[j]? = some k ∧ (∀ (m : Nat) (z : Int), m < j → ns[m]? = some z → z ≠ k) ∧ P (.int (j : Nat)) e
theorem md_idx {K : PySem.W.Frag} : MtD K (rIndex K) qIdx := by
  rintro W H σ e x vs d ds P Q S r rs ⟨ns, k, j, hl, rfl, h1, h2, p⟩ kk
  obtain ⟨v, rfl, rv⟩ := rs.one
  cases rv
  obtain ⟨a, ws, rfl, h3, h4⟩ := S.ok.lk r hl
  cases RAll.ints_inv h4
  refine ⟨a, ns.map V.int, _, j, .int k, rfl, rfl, h3, rfl, ?_, ?_, ?_, ?_, kk _ _ _ _ _ p W.le_refl S (.int _)⟩
  · rw [List.all_map]
    exact List.all_eq_true.mpr fun _ _ => rfl
  · rw [List.getElem?_map, h1]
    rfl
  · exact beq_self_eq_true k
  · intro m z' hm hz
    rw [List.getElem?_map] at hz
    obtain ⟨z, hz1, rfl⟩ := Option.map_eq_some_iff.mp hz
    exact beq_eq_false_iff_ne.mpr (h2 m z hm hz1)
theorem v_idx {ns : List Int} {d : D} {e : En} {P : D → En → Prop} {k : Int} {j : Nat} (hl : lk e.cs d = some (ns.map .int)) (h1 : ns[j]? = some k) (h2 : ∀ (m : Nat) (z : Int), m < j → ns[m]? = some z → z ≠ k) (p : P (.int (j : Nat)) e) : qIdx d [.int k] e P := ⟨ns, k, j, hl, rfl, h1, h2, p⟩
/-! ### a dict that is only handed on: none of its keys is looked at -/
def eDct : DE := fun e P => P .dct e
theorem de_dct0 {X : Cx} {B : Bs} {pos : Pos} : PE X (.Dict [] [] pos) (lE X.K B eDct) := PE.imp pe_dnewK fun σ H Q ⟨W, e, P, _, S, t, k⟩ p hp => by
  obtain ⟨ok, l⟩ := S.ok.newF (o := .dK []) hp
  exact k .dct e _ _ _ t l ⟨ok, S.sl.mono l⟩ (.dct upd_same)
theorem de_dctI {X : Cx} {B : Bs} {pos p1 p2 : Pos} {i j : Int} {j1 j2} : PE X (.Dict [some (.Constant (.int i) j1 p1)] [.Constant (.int j) j2 p2] pos) (lE X.K B eDct) :=
  PE.imp (pe_disp (pps_cons (pe_int (i := i)) (pe_int (i := j)) pps_nil) rfl rfl (fun z => nomatch z) (by simp)) fun σ H Q ⟨W, e, P, _, S, t, k⟩ p hp => by
    obtain ⟨ok, l⟩ := S.ok.newF (o := .dK (mergeK [] [(.inl i, .int j)])) hp
    refine ⟨upd_same, [(.inl i, .int j)], rfl, by simp, ?_⟩
    rw [upd_upd]
    exact k .dct e _ _ _ t l ⟨ok, S.sl.mono l⟩ (.dct upd_same)
theorem v_dct {e : En} {P : D → En → Prop} (p : P .dct e) : eDct e P := p
end DL
/-! exceptions: what leaves a def, by class and cells -/
namespace DL
open PySem PySem.Spec PyProof.Rows L2
open Evl (Ex)

/-- a promise with what may be raised -/
abbrev SpX := List D → List Cel → (D → List Cel → Prop) → (Str → List Cel → Prop) → Prop
def spDX (K : PySem.W.Frag) (sp : SpX) : Sp := fun vs H Q E => ∃ W cs ds P PX, Ok K W H cs ∧ RAll K W vs ds ∧ sp ds cs P PX ∧ (∀ d cs' W' H' v, P d cs' → W.le W' → Ok K W' H' cs' → R K W' v d → Q v H') ∧
  ∀ c cs' W' H', PX c cs' → W.le W' → Ok K W' H' cs' → E (.ref (He.ga K c)) none H'
def GoodX (P : Program) (w : World) (K : PySem.W.Frag) (mg : Str → Option Value) (base : Heap) (k : Nat) (f : Addr) (ps : List Str) (sp : SpX) : Prop :=
  ∃ fd, FnOk P w K mg base (L2N.CX P w) k f fd ps (spDX K sp) ∧ Binds K fd ps [] ∧ PySem.W.keepIn K (.ref f) = true
theorem GoodX.mono {P : Program} {w : World} {K : PySem.W.Frag} {mg : Str → Option Value} {base : Heap} {j k : Nat} {f : Addr} {ps : List Str} {sp : SpX} (g : GoodX P w K mg base j f ps sp) (h : j ≤ k) : GoodX P w K mg base k f ps sp := by
  obtain ⟨fd, F, b, kp⟩ := g
  exact ⟨fd, F.mono h, b, kp⟩
/-- what is wished of an exception -/
def wE (K : PySem.W.Frag) (B : Bs) (XX : Str → List Cel → Prop) : XK := fun cls d H => ∃ c W cs, cls = .ref (He.ga K c) ∧ d = none ∧ B.p W ∧ Ok K W H cs ∧ XX c cs
def XT (X : Cx) (B : Bs) (XX : Str → List Cel → Prop) : Prop := L2N.Takes X (fun cls d _ H => wE X.K B XX cls d H)
theorem XT.passes {X : Cx} {B : Bs} {XX : Str → List Cel → Prop} (tk : XT X B XX) : Passes (L2N.CX X.prog X.w) X (wE X.K B XX) :=
  fun pins σ H s e s' I c => L2N.passes_call tk (fun _ _ _ _ h => h) pins σ H s e s' I c
/-- with the slots' number -/
theorem XT.of {X : Cx} {B : Bs} {XX : Str → List Cel → Prop} {W : WX} (t : L2N.Takes X W) (h : ∀ cls d σ H, σ.length = X.N.length → wE X.K B XX cls d H → W cls d σ H) : XT X B XX :=
  fun u s' ⟨a, B', sI, pins, σ, H, cls, d, e, I, nb, up, sky, na, os, ag, w⟩ => t u s' ⟨a, B', sI, pins, σ, H, cls, d, e, I, nb, up, sky, na, os, ag, h _ _ _ _ I.len w⟩

/-! ### raise -/
section
variable {X : Cx} {B : Bs} {XX : Str → List Cel → Prop} {ex a b o ix : Expr} {es : List Expr} {te tv to ti ta' tb' : DE} {ta : DA} {C : Addr} {f m x : Str} {pos apos p p2 : Pos} {k : Nat} {fn : Addr} {ps : List Str} {sp : SpX}
def sRaise (XX : Str → List Cel → Prop) (c : Str) : DS := fun _ e => XX c e.cs
theorem ds_raise {c : Str} {j : Nat} (hc : X.calm = true) (tk : XT X B XX) (xo : PySem.W.excIn X.K (He.ga X.K c) He.veBase "ValueError.__new__" = true ∧ PySem.W.keepIn X.K (.ref (He.ga X.K c)) = true ∧ PySem.W.subIn X.K (.ref (He.ga X.K c)) (.type "BaseException") = some true ∧ PySem.W.typeIn X.K (.ref (He.ga X.K c)) = some (.type "type"))
    (gC : X.mg c = some (.ref (He.ga X.K c))) (hg : Gl X c) (hdb : (c == ("__debug__" : Str)) = false := by decide) : PS X (.Raise (some (.Call (.Name c p) [.Constant (.str m) j p2] [] pos)) none apos) (lS X.K B (sRaise XX c)) :=
  PS.imp (L2N.ps_raise hc tk (L2N.pmk_own F.excBase_ValueError xo.1 gC xo.2.1 (raises_own xo.2.2.1 xo.2.2.2) hg hdb)) fun E σ H h => by
    obtain ⟨W, e, P, bl, S, h, c⟩ := lS_un h
    exact ⟨_, W, e.cs, rfl, rfl, bl, S.ok, h⟩

/-! ### calls that may raise -/
def eCallX (XX : Str → List Cel → Prop) (sp : SpX) (ta : DA) : DE := fun e P => ta e fun ds e1 => sp ds e1.cs (fun d cs' => P d { e1 with cs := cs' }) XX
theorem de_callX (G : GoodX X.prog X.w X.K X.mg X.base k fn ps sp) (tk : XT X B XX) (hr : Room k X.A) (hm : X.mg x = some (.ref fn)) (ha : PA X (ex :: es) (lA X.K B ta)) (hg : Gl X x := by rfl) (hdb : (x == ("__debug__" : Str)) = false := by decide)
    (he : starEach (ex :: es) X.env = (false, eval ex X.env) :: starEach es X.env := by rfl) (hpl : (backTo pos (starEach es X.env)).any (·.1) = false := by rfl) : PE X (.Call (.Name x p) (ex :: es) [] pos) (lE X.K B (eCallX XX sp ta)) := by
  obtain ⟨fd, F, b, kp⟩ := G
  refine PE.imp (pe_call F hr hg hm kp b .nil tk.passes ha hdb he hpl) fun σ H Q ⟨W, e, P, bl, S, t, k⟩ => ⟨W, e, _, bl, S, t, fun ds e1 W1 H1 vs h l S1 r => ?_⟩
  show spDX X.K sp (vs ++ []) H1 Q (wE X.K B XX)
  rw [List.append_nil]
  exact ⟨W1, e1.cs, ds, _, XX, S1.ok, r, h, fun d cs' W2 H2 v p l2 ok2 r2 => k _ _ _ _ _ p (l.tr l2) ⟨ok2, S1.sl.mono l2⟩ r2, fun c cs' W2 H2 px l2 ok2 => ⟨c, W2, cs', rfl, rfl, B.up bl (l.tr l2), ok2, px⟩⟩
/-- what the caller sees: its own cells -/
def FinX (cs0 : List Cel) (PX : Str → List Cel → Prop) (c : Str) (cs : List Cel) : Prop := PX c cs ∨ ((∀ c ∈ cs.take cs0.length, c ∈ cs0 ∨ c.loD cs0.length = true) ∧ PX c (cs.take cs0.length))
def eMakeX (C : Addr) (XX : Str → List Cel → Prop) (sp : SpX) (ta : DA) : DE := fun e P => ta e fun ds e1 => sp (.cell e1.cs.length :: ds) (e1.cs ++ [.ins C [] []])
  (fun d cs' => d = .non ∧ (P (.cell e1.cs.length) { e1 with cs := cs' } ∨ ∃ cs1 C' ns xs, cs' = cs1 ++ [.ins C' ns xs] ∧ cs1.length = e1.cs.length ∧ los e1.cs.length xs = true ∧ (∀ c ∈ cs1, c ∈ e1.cs ∨ c.loD e1.cs.length = true) ∧ P (.ins C' ns xs) { e1 with cs := cs1 }))
  (FinX e1.cs XX)
theorem de_makeX (G : GoodX X.prog X.w X.K X.mg X.base k fn ps sp) (tk : XT X B XX) (hr : Room (k + 1) X.A) (M : Mk X.K C fn) (hm : X.mg x = some (.ref C)) (ha : PA X (ex :: es) (lA X.K B ta)) (hg : Gl X x := by rfl) (hdb : (x == ("__debug__" : Str)) = false := by decide)
    (he : starEach (ex :: es) X.env = (false, eval ex X.env) :: starEach es X.env := by rfl) (hpl : (backTo pos (starEach es X.env)).any (·.1) = false := by rfl) : PE X (.Call (.Name x p) (ex :: es) [] pos) (lE X.K B (eMakeX C XX sp ta)) := by
  obtain ⟨fd, F, bb, kp⟩ := G
  refine PE.imp (pe_make M F hr hg hm bb .nil tk.passes ha hdb he hpl) fun σ H Q ⟨W, e, P, bl, S, t, k⟩ => ⟨W, e, _, bl, S, t, fun ds e1 W1 H1 vs h l S1 r => fun x dx hx hdx hne => ?_⟩
  have hx2 : upd H1 dx (.own x) x = none := by rw [upd_ne (Ne.symm hne)]; exact hx
  have okd : Ok X.K W1 (upd H1 dx (.own x)) e1.cs := by
    have ne : ∀ a ∈ W1.m, a ≠ dx := fun a ha e => S1.ok.fresh hdx (e ▸ ha)
    have neh : ∀ q ∈ W1.h, q.1 ≠ dx := fun q hq e => by
      have := (S1.ok.hd q hq).1
      rw [e, hdx] at this; cases this
    refine ⟨S1.ok.ex.trans (Ex.new hdx), S1.ok.len, S1.ok.nd, fun a ha => by rw [upd_ne (ne a ha)]; exact S1.ok.here a ha, S1.ok.fr, fun n a c e1 e2 => (S1.ok.cl n a c e1 e2).heap (upd_ne (ne a (List.mem_of_getElem? e1))), fun q hq => ?_, S1.ok.hn⟩
    obtain ⟨g1, g2, g3⟩ := S1.ok.hd q hq
    exact ⟨by rw [upd_ne (neh q hq)]; exact g1, g2, g3⟩
  obtain ⟨ok, l2⟩ := okd.newC (o := .ins C dx []) (c := .ins C [] []) hx2 fun W' l => ⟨dx, [], upd_same, rfl, .nil⟩
  have rc : R X.K ⟨W1.F, W1.m ++ [x], W1.h⟩ (.ref x) (.cell e1.cs.length) := .cell (by
    show (W1.m ++ [x])[e1.cs.length]? = some x
    rw [← S1.ok.len, List.getElem?_append_right (Nat.le_refl _)]
    simp)
  rw [List.append_nil]
  refine ⟨_, _, _, _, FinX e1.cs XX, ok, .cons rc (RAll.mono l2 _ _ r), h, fun d cs' W3 H3 v ⟨hd, p⟩ l3 ok3 r3 => ⟨by subst hd; exact r3.non_inv, ?_⟩, fun c cs' W3 H3 px l3 ok3 => ?_⟩
  · rcases p with p | ⟨cs1, C', ns, xs, rfl, hl, hx, hc, p⟩
    · exact k _ _ _ _ _ p ((l.tr l2).tr l3) ⟨ok3, S1.sl.mono (l2.tr l3)⟩ (R.mono l3 _ _ rc)
    · have l13 := l2.tr l3
      have tk : (cs1 ++ [Cel.ins C' ns xs]).take e1.cs.length = cs1 := by rw [← hl]; exact List.take_left
      obtain ⟨ok4, l4⟩ := S1.ok.trim ok3 l13 (by rw [tk]; exact hc)
      rw [tk] at ok4
      have rc3 := R.mono l3 _ _ rc
      cases rc3 with
      | cell hm =>
        have hcl : (cs1 ++ [Cel.ins C' ns xs])[e1.cs.length]? = some (Cel.ins C' ns xs) := by
          rw [← hl, List.getElem?_append_right (Nat.le_refl _)]; simp
        obtain ⟨dx', gs, g1, g2, g3⟩ := ok3.cl _ _ _ hm hcl
        have g4 : RAll X.K ⟨W3.F, W3.m.take e1.cs.length, W3.h⟩ (gs.map (·.2)) xs := RAll.low _ _ g3 hx
        have hF : W3.F x = none := (ok3.fr _ _ _ hm hcl).resolve_left fun z => nomatch z
        obtain ⟨ok5, l5⟩ := ok4.addF g1 hF (ok3.old_out hm) (fun q hq e => (ok3.hd q hq).2.2 (e ▸ List.mem_of_getElem? hm))
        subst g2
        exact k _ _ _ _ _ p (l.tr (l4.tr l5)) ⟨ok5, S1.sl.mono (l4.tr l5)⟩ (.ins upd_same (RAll.mono l5 _ _ g4))
  · have l13 := l2.tr l3
    rcases px with px | ⟨hc, px⟩
    · exact ⟨c, W3, cs', rfl, rfl, B.up bl (l.tr l13), ok3, px⟩
    · obtain ⟨ok4, l4⟩ := S1.ok.trim ok3 l13 hc
      exact ⟨c, _, _, rfl, rfl, B.up bl (l.tr l4), ok4, px⟩
/-- the callee at any nearness -/
theorem run_inX {pins : List (Addr × Obj)} {σ : L2.St} {H : Hp} {s : Shared} {A : Around} {fd : FuncData} {sp : Sp} {E : XK} {Q : VK} {us : List Value} {vs : List V} (F : FnOk X.prog X.w X.K X.mg X.base (L2N.CX X.prog X.w) k fn fd ps sp) (hb : Binds X.K fd ps []) (hr : Room k A)
    (e0 : Env0 X.prog X.w X.K X.mg X.base A X.stack s H) (hx : Passes (L2N.CX X.prog X.w) X E) (I : Inv X pins σ H s) (r : Vals vs us) (h : sp vs H Q E) : wpAny (model X.prog X.w) A (call (.ref fn) us) (EP X pins σ Q) X.xe s := by
  have hl : (us ++ []).length = ps.length := by rw [List.append_nil, ← r.length]; exact F.len _ _ _ _ h
  have hbt := hb s us I.kIn hl
  rw [List.append_nil] at hbt
  refine wpAny_call (codeAny_mono (F.run A X.stack s H ⟨us, []⟩ us vs Q E hr e0 hbt r h) fun r s' hq => ?_)
  cases r with
  | error e => exact hx _ _ _ _ _ _ I hq
  | ok fl =>
    cases fl with
    | ret u => exact I.after hq
    | next => exact False.elim hq
    | brk => exact False.elim hq
    | cont => exact False.elim hq
def rTwoX (K : PySem.W.Frag) (B : Bs) (XX : Str → List Cel → Prop) (C C2 : Addr) (sp : SpX) : R2 := fun x y H Q => ∃ a dx gs b dy gt, x = .ref a ∧ H a = some (.ins C dx gs) ∧ y = .ref b ∧ H b = some (.ins C2 dy gt) ∧ spDX K sp [.ref a, .ref b] H Q (wE K B XX)
def qTwoX (C C2 : Addr) (XX : Str → List Cel → Prop) (sp : SpX) : D → D → DE := fun d y e P => (∃ ns xs, insD e.cs d = some (C, ns, xs)) ∧ (∃ ns xs, insD e.cs y = some (C2, ns, xs)) ∧ sp [d, y] e.cs (fun r cs' => P r { e with cs := cs' }) XX
theorem op_binX {C : Addr} {op : Operator} (G : GoodX X.prog X.w X.K X.mg X.base k fn ps sp) (tk : XT X B XX) (hr : Room k X.A) (sm : Sm X.K C (PySem.dunder op.info.2) fn) (hc : PySem.W.selfFirst X.K C = true) : OpR X (binaryOp op) (rTwoX X.K B XX C C sp) := by
  rintro pins s σ H x y v u Q I rx ry ⟨a, dx, gs, b, dy, gt, rfl, ha, rfl, hb, h⟩
  obtain ⟨fd, F, bi, kp⟩ := G
  cases (show v = Value.ref a from rx)
  cases (show u = Value.ref b from ry)
  obtain ⟨od, J⟩ := Inv.inst I ha
  obtain ⟨od2, J2⟩ := Inv.inst I hb
  obtain ⟨m, hF⟩ := I.fr
  refine PySem.W.binop_K hF I.ok.mod.kin J J2.type hc sm.at_ sm.fn (wpAny_mono (run_inX (us := [.ref a, .ref b]) (vs := [V.ref a, V.ref b]) F bi hr I.env0 tk.passes I (.cons rfl (.cons rfl .nil)) h) (fun v s' z => ?_) fun _ _ z => z)
  obtain ⟨v', H', I', rv, q⟩ := z
  exact RelV.cmp rv (P := EP X pins σ Q) ⟨v', H', I', rv, q⟩
/-- such an operation: the world is known all along -/
def OpDX (K : PySem.W.Frag) (B : Bs) (r : R2) (q : D → D → DE) : Prop := ∀ (W : Wd) (H : Hp) (σ : L2.St) (e : En) (x y : V) (d1 d2 : D) (P : D → En → Prop) (Q : VK), B.p W → Sd K W H σ e → R K W x d1 → R K W y d2 → q d1 d2 e P →
  (∀ d e' W' H' v, P d e' → W.le W' → Sd K W' H' σ e' → R K W' v d → Q v H') → r x y H Q
theorem od_twoX {K : PySem.W.Frag} {C C2 : Addr} : OpDX K B (rTwoX K B XX C C2 sp) (qTwoX C C2 XX sp) := fun W H σ e x y d1 d2 P Q bl S r1 r2 ⟨⟨n1, x1, i1⟩, ⟨n2, x2, i2⟩, t⟩ k => by
  obtain ⟨a, dx, gs, rfl, h1, h2, h3⟩ := S.ok.ins r1 i1
  obtain ⟨b, dy, gt, rfl, h1', h2', h3'⟩ := S.ok.ins r2 i2
  exact ⟨a, dx, gs, b, dy, gt, rfl, h1, rfl, h1', W, e.cs, [d1, d2], _, XX, S.ok, .cons r1 (.cons r2 .nil), t, fun d cs' W' H' v p l ok r' => k _ _ _ _ _ p l ⟨ok, S.sl.mono l⟩ r', fun c cs' W' H' px l ok => ⟨c, W', cs', rfl, rfl, B.up bl l, ok, px⟩⟩
theorem de_binX {op : Operator} {r : R2} {q : D → D → DE} (ho : OpR X (binaryOp op) r) (hq : OpDX X.K B r q) (ha : PE X a (lE X.K B ta')) (hb : PE X b (lE X.K B tb')) : PE X (.BinOp a op b pos) (lE X.K B (eBin q ta' tb')) :=
  PE.imp (pe_op ho ha hb) fun σ H Q ⟨W, e, P, bl, S, t, k⟩ => ⟨W, e, _, bl, S, t, fun x e1 W1 H1 v1 t1 l1 S1 r1 => ⟨W1, e1, _, (B.up bl l1), S1, t1, fun y e2 W2 H2 v2 t2 l2 S2 r2 =>
    hq W2 H2 σ e2 v1 v2 x y P Q (B.up bl (l1.tr l2)) S2 (R.mono l2 _ _ r1) r2 t2 fun d e3 W3 H3 v3 p l3 S3 r3 => k d e3 W3 H3 v3 p ((l1.tr l2).tr l3) S3 r3⟩⟩
def rSetX (K : PySem.W.Frag) (B : Bs) (XX : Str → List Cel → Prop) (C : Addr) (sp : SpX) : TSet := fun x i v H Q => ∃ a dx gs, x = .ref a ∧ H a = some (.ins C dx gs) ∧ spDX K sp [.ref a, i, v] H (fun _ H' => Q H') (wE K B XX)
theorem set_ownX (G : GoodX X.prog X.w X.K X.mg X.base k fn ps sp) (tk : XT X B XX) (hr : Room k X.A) (sm : Sm X.K C "__setitem__" fn) (hq : PySem.W.noSeq X.K C = true) : PSet X (rSetX X.K B XX C sp) := by
  rintro pins s σ H x i v ov iv u Q I rx ri rv ⟨a, dx, gs, rfl, ha, h⟩
  obtain ⟨fd, F, bi, kp⟩ := G
  cases (show ov = Value.ref a from rx)
  obtain ⟨od, J⟩ := Inv.inst I ha
  obtain ⟨m, hF⟩ := I.fr
  have KX := I.kIn
  unfold setItem sequenceKey callSpecial?
  refine wpAny_holding (wpAny_bind (wpAny_bind (J.type.here ?_)))
  refine wpAny_bind ((PySem.W.anyM_none KX hq).here ?_)
  rw [if_pos (show (!false) = true from rfl)]
  refine wpAny_pure (wpAny_bind ?_)
  refine wpAny_mono (PySem.W.special_fn (Q := fun r s' => r ≠ none ∧ ∃ H', Inv X pins σ H' s' ∧ Q H') KX J sm.at_ (beq_iff_eq.mp sm.fn) (wpAny_mono (run_inX (us := [.ref a, iv, u]) (vs := [V.ref a, i, v]) F bi hr I.env0 tk.passes I (.cons rfl (.cons ri (.cons rv .nil))) h) (fun v s' z => ?_) fun _ _ z => z)) (fun r s' z => ?_) fun _ _ z => z
  · obtain ⟨v', H', I', rv, q⟩ := z
    exact ⟨(fun z => nomatch z), H', I', q⟩
  · obtain ⟨h1, H', I', q⟩ := z
    cases r with
    | none => exact absurd rfl h1
    | some _ => exact wpAny_pure ⟨H', I', q⟩
def sSetX (C : Addr) (XX : Str → List Cel → Prop) (sp : SpX) (tv to ti : DE) : DS := fun P e => tv e fun v e1 => to e1 fun o e2 => ti e2 fun i e3 => (∃ ns xs, insD e3.cs o = some (C, ns, xs)) ∧ sp [o, i, v] e3.cs (fun _ cs' => P.nx { e3 with cs := cs' }) XX
theorem ds_setX (G : GoodX X.prog X.w X.K X.mg X.base k fn ps sp) (tk : XT X B XX) (hr : Room k X.A) (sm : Sm X.K C "__setitem__" fn) (hq : PySem.W.noSeq X.K C = true) (hv : PE X ex (lE X.K B tv)) (ho : PE X o (lE X.K B to)) (hi : PE X ix (lE X.K B ti))
    (ha : ∀ v, assign (.Subscript o ix p2) X.env v = (do
      let ov ← holding [v] (eval o X.env)
      let iv ← holding [v, ov] (eval ix X.env)
      standAt p2
      holding [v, ov, iv] (setItem ov iv v)
      release [v, ov, iv] []) := by intro _; rfl)
    (hs : swapsWithSole [.Subscript o ix p2] ex pos.line X.env = pure false := by rfl) (hw : swappedStores [.Subscript o ix p2] ex X.env = pure none := by rfl)
    (h1 : (assignEach [.Subscript o ix p2] X.env).map (·.2) = [assign (.Subscript o ix p2) X.env] := by rfl) : PS X (.Assign [.Subscript o ix p2] ex pos) (lS X.K B (sSetX C XX sp tv to ti)) := PS.imp (ps_asg hv (pg_sub ho hi (set_ownX G tk hr sm hq) ha) hs hw h1) fun E σ H h => by
  obtain ⟨W, e, P, bl, S, h, c⟩ := lS_un h
  refine ⟨W, e, _, bl, S, h, fun d e1 W1 H1 v t1 l1 S1 r1 => ⟨W1, e1, _, B.up bl l1, S1, t1, fun ob e2 W2 H2 w t2 l2 S2 r2 => ⟨W2, e2, _, B.up bl (l1.tr l2), S2, t2, fun ix e3 W3 H3 x t3 l3 S3 r3 => ?_⟩⟩⟩
  obtain ⟨⟨ns, xs, hi⟩, t3⟩ := t3
  have r23 := R.mono l3 _ _ r2
  have b3 := B.up bl ((l1.tr l2).tr l3)
  obtain ⟨a, dx, gs, rfl, h1', h2', h3'⟩ := S3.ok.ins r23 hi
  exact ⟨a, dx, gs, rfl, h1', W3, e3.cs, [ob, ix, d], _, XX, S3.ok, .cons r23 (.cons r3 (.cons (R.mono (l2.tr l3) _ _ r1) .nil)), t3, fun d' cs' W' H' v' p l ok r' => c.nx _ _ _ _ p (((l1.tr l2).tr l3).tr l) ⟨ok, S3.sl.mono l⟩,
    fun c cs' W' H' px l ok => ⟨c, W', cs', rfl, rfl, B.up b3 l, ok, px⟩⟩
end

/-! ### a def that may raise -/
abbrev cxX (P : Program) (w : World) (K : PySem.W.Frag) (mg : Str → Option Value) (base : Heap) (N : List Str) (qual : Str) (scope : Scope) (f : Addr) (cd : Value) (A : Around) (outer : List Env) (s : Shared) (H : Hp) (E : XK) : Cx := cxOf (L2N.CX P w) P w K mg base N qual scope f cd A outer s H E
theorem fn_dX {P : Program} {w : World} {K : PySem.W.Frag} {mg : Str → Option Value} {base : Heap} {x qual : Str} {params : Arguments} {body : List Stmt} {scope : Scope} {dvs : List V} {kws : List (Str × V)} {f : Addr} {fd : FuncData} {N ps : List Str} {k : Nat} {sp : SpX} {t : (Str → List Cel → Prop) → DS}
    (F : FunD K x qual params body scope dvs kws f fd) (S : FnScope N ps scope) (len : ∀ ds cs Q QX, sp ds cs Q QX → ds.length = ps.length)
    (der : ∀ (cdv : Value) (A : Around) (outer : List Env) (s : Shared) (H : Hp) (E : XK) (B : Bs) (XX : Str → List Cel → Prop), Room k (A.deeper (envOfC qual scope s.heap.objs.size f cdv)) → XT (cxX P w K mg base N qual scope f cdv A outer s H E) B XX →
      PassesOwn (model P w) (A.deeper (envOfC qual scope s.heap.objs.size f cdv)) (envOfC qual scope s.heap.objs.size f cdv) (cxX P w K mg base N qual scope f cdv A outer s H E).xe → PSs (cxX P w K mg base N qual scope f cdv A outer s H E) body (lS K B (t XX)))
    (vc : ∀ ds cs Q QX, (∀ d ∈ ds, loD cs.length d = true) → (∀ c ∈ cs, c.loD cs.length = true) → sp ds cs Q QX → t (FinX cs QX) (Po.fn cs Q) ⟨startD N ds, cs⟩) : FnOk P w K mg base (L2N.CX P w) (k + 1) f fd ps (spDX K sp) := by
  refine F.ok S (fun vs H Q E ⟨W, cs, ds, P', PX, ok, r, h, _⟩ => by rw [r.length]; exact len _ _ _ _ h) fun cdv A outer s H vs Q E hr ⟨W, cs, ds, P', PX, ok, r, h, kk, kx⟩ => ?_
  have tk0 : L2N.Takes (cxX P w K mg base N qual scope f cdv A outer s H E) (fun cls d _ H => E cls d H) := L2N.takes_of (X := cxX P w K mg base N qual scope f cdv A outer s H E) rfl rfl rfl rfl
  have tk : XT (cxX P w K mg base N qual scope f cdv A outer s H E) (Bs.of W) (FinX cs PX) := L2N.Takes.imp tk0 fun cls d σ H' ⟨c, W', cs', e1, e2, bp, ok', px⟩ => by
    subst e1 e2
    rcases px with px | ⟨hc, px⟩
    · exact kx c cs' W' H' px bp ok'
    · obtain ⟨ok4, l4⟩ := ok.trim ok' bp hc
      exact kx c _ _ H' px l4 ok4
  refine ⟨_, der cdv A outer s H E (Bs.of W) (FinX cs PX) hr tk (passes_of (X := cxX P w K mg base N qual scope f cdv A outer s H E) rfl), W, ⟨startD N ds, cs⟩, _, W.le_refl, ⟨ok, start_ok r⟩, vc ds cs P' PX (fun d hd => ?_) ok.cl_lo h, ?_, fin_ok ok kk, fun _ _ _ _ z => z.elim, fun _ _ _ _ z => z.elim⟩
  · obtain ⟨i, hi, e⟩ := List.mem_iff_getElem.mp hd
    obtain ⟨v, hv, rv⟩ := r.get (i := i) (d := d) (by simp [hi, e])
    rw [← ok.len]
    exact R.lo_of _ _ rv
  · exact fun e' W' H' σ' p l S' => fin_ok ok kk .non e'.cs W' H' .non p l S'.ok .non
theorem good_ofX {P : Program} {w : World} {K : PySem.W.Frag} {mg : Str → Option Value} {base : Heap} {x qual : Str} {params : Arguments} {body : List Stmt} {scope : Scope} {f : Addr} {N ps : List Str} {k : Nat} {sp : SpX} {t : (Str → List Cel → Prop) → DS}
    (F : ∃ fd, FunD K x qual params body scope [] [] f fd) (S : FnScope N ps scope) (len : ∀ ds cs Q QX, sp ds cs Q QX → ds.length = ps.length)
    (bi : ∀ (kV doc pm : Value) (an : Option Addr) (cdv ct : Value) (us : List Value), us.length = ps.length → bindArgs (PySem.W.fnOf x qual params body scope .none kV doc pm an cdv ct) ⟨us, []⟩ = pure (ps.zip us))
    (der : ∀ (cdv : Value) (A : Around) (outer : List Env) (s : Shared) (H : Hp) (E : XK) (B : Bs) (XX : Str → List Cel → Prop), Room k (A.deeper (envOfC qual scope s.heap.objs.size f cdv)) → XT (cxX P w K mg base N qual scope f cdv A outer s H E) B XX →
      PassesOwn (model P w) (A.deeper (envOfC qual scope s.heap.objs.size f cdv)) (envOfC qual scope s.heap.objs.size f cdv) (cxX P w K mg base N qual scope f cdv A outer s H E).xe → PSs (cxX P w K mg base N qual scope f cdv A outer s H E) body (lS K B (t XX)))
    (vc : ∀ ds cs Q QX, (∀ d ∈ ds, loD cs.length d = true) → (∀ c ∈ cs, c.loD cs.length = true) → sp ds cs Q QX → t (FinX cs QX) (Po.fn cs Q) ⟨startD N ds, cs⟩) : GoodX P w K mg base (k + 1) f ps sp := by
  obtain ⟨fd, F⟩ := F
  exact ⟨fd, fn_dX F S len der vc, F.bindsN bi, F.kp⟩

/-! ### try .. except C as n -/
def Po.un (P : Po) (i : Nat) : Po := { nx := fun e => P.nx { e with sl := e.sl.set i none }, rt := P.rt, bk := fun e => P.bk { e with sl := e.sl.set i none }, ct := fun e => P.ct { e with sl := e.sl.set i none } }
def sTryAs (tbl : List (Str × Bool)) (i L : Nat) (tb : (Str → List Cel → Prop) → DS) (ts : Str → Addr → DS) (XXo : Str → List Cel → Prop) : DS := fun P e => ∃ XX, tb XX P e ∧
  ∀ c cs', XX c cs' → ∃ b, (c, b) ∈ tbl ∧ (b = true → ∀ a, ts c a (P.un i) ⟨(List.replicate L none).set i (some (.raw (.ref a))), cs'⟩) ∧ (b = false → XXo c cs')
theorem SlO.none_ {K : PySem.W.Frag} {W : Wd} {σ : L2.St} {L : Nat} (h : σ.length = L) : SlO K W σ (List.replicate L none) := ⟨by rw [h, List.length_replicate], fun i d e => by
  rw [List.getElem?_replicate] at e
  split at e <;> cases e⟩
theorem SlO.unset {K : PySem.W.Frag} {W : Wd} {σ : L2.St} {sl : List (Option D)} {i : Nat} (h : SlO K W σ sl) : SlO K W (σ.set i none) (sl.set i none) := by
  refine ⟨by simp [h.1], fun j d e => ?_⟩
  rw [List.getElem?_set] at e
  by_cases hij : i = j
  · subst hij
    rw [if_pos rfl] at e
    split at e <;> cases e
  · rw [if_neg hij] at e
    obtain ⟨v, a, b⟩ := h.2 j d e
    exact ⟨v, by rw [List.getElem?_set_ne hij]; exact a, b⟩
theorem PSs.ofEx {X : Cx} {ss : List Stmt} {α : Type} {t : TS} {q : α → Prop} {u : α → TS} (h : ∀ x, q x → PSs X ss (u x)) (i : ∀ D σ H, t D σ H → ∃ x, q x ∧ u x D σ H) : PSs X ss t := ⟨fun pins s σ H D I w => by
  obtain ⟨x, hq, hu⟩ := i D σ H w
  exact (h x hq).run pins s σ H D I hu⟩
theorem ds_tryAs {X : Cx} {B : Bs} {x n : Str} {C : Addr} {i : Nat} {body suite : List Stmt} {b₀ : Stmt} {np pos pos' : Pos} {tbl : List (Str × Bool)} {tb : (Str → List Cel → Prop) → DS} {ts : Str → Addr → DS} {XXo : Str → List Cel → Prop}
    (hs : X.stack = X.env :: X.outer) (hf : X.env.frame = some X.env.locals) (hN : X.N.Nodup) (hi : X.N[i]? = some n) (hln : X.env.kindOf n = some .local) (hm : X.mg x = some (.ref C)) (hg : Gl X x) (tko : XT X B XXo)
    (hx : ∀ p ∈ tbl, PySem.W.exmOne X.K (.ref (He.ga X.K p.1)) (.ref C) = some p.2) (hE : ∀ p ∈ tbl, ExcC X.K (He.ga X.K p.1))
    (hb : ∀ (B : Bs) (XX : Str → List Cel → Prop) (pn : List (Addr × Obj)) (xe : Value → Shared → Prop), XT (X.tr pn xe) B XX → PassesOwn (model X.prog X.w) X.A X.env xe → PSs (X.tr pn xe) body (lS X.K B (tb XX)))
    (hsu : ∀ (B : Bs) (c : Str) (a : Addr) (oe : Obj) (pn : List (Addr × Obj)), ExcC X.K (He.ga X.K c) → Zc (.ref (He.ga X.K c)) none oe → (∃ vs, oe.data = .fields vs) → PSs (X.suite a ((a, oe) :: pn)) (b₀ :: suite) (lS X.K B (ts c a)))
    (hdb : (x == ("__debug__" : Str)) = false := by decide) :
    PS X (.Try body [.ExceptHandler (some (.Name x np)) (some n) (b₀ :: suite) pos'] [] [] pos) (lS X.K B (sTryAs tbl i X.N.length tb ts XXo)) := by
  refine PS.imp (L2N.ps_try_as (x := x) (n := n) (c := .ref C) (i := i) (Wout := fun cls d _ H => wE X.K B XXo cls d H)
    (tb := fun W D σ H => ∃ p : Bs × (Str → List Cel → Prop), (∀ cls d σ H, σ.length = X.N.length → wE X.K p.1 p.2 cls d H → W cls d σ H) ∧ lS X.K p.1 (tb p.2) D σ H)
    (ts := fun a cls d D σ H => ∃ p : Bs × Str, (cls = .ref (He.ga X.K p.2) ∧ d = none ∧ ExcC X.K (He.ga X.K p.2)) ∧ lS X.K p.1 (ts p.2 a) D σ H)
    hs hf hN hi hln ⟨hg, hdb, .inl hm⟩ tko (fun W pn xe tk po => ?_) (fun a oe cls d pn hz hfd => ?_)) fun E σ H h => ?_
  · exact PSs.ofEx (q := fun p : Bs × (Str → List Cel → Prop) => ∀ cls d σ H, σ.length = X.N.length → wE X.K p.1 p.2 cls d H → W cls d σ H) (u := fun p => lS X.K p.1 (tb p.2)) (fun p hp => hb p.1 p.2 pn xe (XT.of (X := X.tr pn xe) tk hp) po) fun D σ H h => h
  · exact PSs.ofEx (q := fun p : Bs × Str => cls = .ref (He.ga X.K p.2) ∧ d = none ∧ ExcC X.K (He.ga X.K p.2)) (u := fun p => lS X.K p.1 (ts p.2 a)) (fun p ⟨h1, h2, h3⟩ => by
      subst h1 h2
      exact hsu p.1 p.2 a oe pn h3 hz.zc hfd) fun D σ H h => h
  · obtain ⟨W, e, P, bl, S, ⟨XX, h, hc⟩, c⟩ := lS_un h
    refine ⟨(Bs.of W, XX), fun cls d σ' H' hl ⟨cc, W', cs', e1, e2, bp, ok', px⟩ => ?_, lS_mk W.le_refl S h c⟩
    subst e1 e2
    obtain ⟨b, hbm, hy, hn⟩ := hc cc cs' px
    refine ⟨b, hx _ hbm, fun eb a na => ?_, fun eb => ⟨cc, W', cs', rfl, rfl, B.up bl bp, ok', hn eb⟩⟩
    refine ⟨(Bs.any, cc), ⟨rfl, rfl, hE _ hbm⟩, lS_mk (P := P.un i) trivial ⟨ok', (SlO.none_ hl).set (.raw (.ref a))⟩ (hy eb a) ?_⟩
    exact ⟨fun e' W2 H2 σ2 p l S2 => c.nx _ _ _ _ p (bp.tr l) ⟨S2.ok, S2.sl.unset⟩, fun d cs W2 H2 v p l ok r => c.rt _ _ _ _ _ p (bp.tr l) ok r, fun e' W2 H2 σ2 p l S2 => c.bk _ _ _ _ p (bp.tr l) ⟨S2.ok, S2.sl.unset⟩, fun e' W2 H2 σ2 p l S2 => c.ct _ _ _ _ p (bp.tr l) ⟨S2.ok, S2.sl.unset⟩⟩

/-! ### isinstance of what was caught -/
def rIsET (K : PySem.W.Frag) (D a : Addr) : List V → Hp → VK → Prop := fun xs H Q => ∃ (tp : Addr) (vs : List V) (us : List Value) (b : Bool), xs = [.ref a, .ref tp] ∧ SqT K H tp vs ∧ Paired ClsV vs us ∧ PySem.W.kitAny K (.ref D) us = some b ∧ Q (.bl b) H
theorem call_isET {X : Cx} {a D : Addr} {oe : Obj} {pn : List (Addr × Obj)} (C : ExcC X.K D) (hz : Zc (.ref D) none oe) (hf : ∃ vs, oe.data = .fields vs) : CallR (X.suite a ((a, oe) :: pn)) (.builtin "isinstance") (rIsET X.K D a) := by
  intro pins s σ H xs us Q I r h
  obtain ⟨tp, vs, ws, b, rfl, hT, k, e, q⟩ := h
  obtain ⟨u1, u2, rfl, r1, r2⟩ := vals2 r
  cases (show u1 = Value.ref a from r1)
  cases (show u2 = Value.ref tp from r2)
  obtain ⟨its, rv, ⟨o, h1, h2, n, h3⟩, _⟩ := I.tuple hT
  have e3 := ClsV.all k rv
  subst e3
  obtain ⟨oc, od, dt, sl⟩ := o
  simp only at h2 h3
  subst h2 h3
  obtain ⟨hget, _⟩ := I.pin (a, oe) (List.mem_append.mpr (.inl List.mem_cons_self))
  obtain ⟨vs, hv⟩ := hf
  have J : PySem.W.InstAt s.heap a oe D none := by
    obtain ⟨oc, od, oda, osl⟩ := oe
    obtain ⟨h1, h2⟩ := hz
    dsimp only at h1 h2 hv
    subst h1 h2 hv
    exact ⟨hget, rfl, rfl, trivial⟩
  exact PySem.W.kia_tup (PySem.W.handS_kitx_exc C.hg C.hk C.hs C.hd C.ha C.hn C.ht C.hm) I.kIn J h1 e (fun z => nomatch z) fun tk => ⟨.bl b, H, I.kept (t' := tk) fun _ _ z => z, rfl, q⟩
/-- the answer for the class c stands in the table -/
def qIsE (c : Str) (a : Addr) (tbl : List (Str × Bool)) (tg : D) : List D → DE := fun ds e P => ∃ d, ds = [.raw (.ref a), d] ∧ d = tg ∧ ∃ b, (c, b) ∈ tbl ∧ P (.bl b) e
theorem cd_isE {K : PySem.W.Frag} {C a : Addr} {c : Str} {tbl : List (Str × Bool)} (h : ∀ p ∈ tbl, PySem.W.kitOne K (.ref (He.ga K p.1)) (.ref C) = some p.2) : CallD K (rIsE K (He.ga K c) a) (qIsE c a tbl (.raw (.ref C))) := by
  rintro W H σ e vs ds P Q S r ⟨d, rfl, rfl, b, hb, p⟩ k
  obtain ⟨v, v2, rfl, r1, r2⟩ := r.two
  cases r1
  cases r2
  exact ⟨.ref C, .ref C, b, rfl, fun u hu => hu, h _ hb, k _ _ _ _ _ p W.le_refl S (.bl _)⟩
theorem cd_isEB {K : PySem.W.Frag} {T : String} {a : Addr} {c : Str} {tbl : List (Str × Bool)} (h : ∀ p ∈ tbl, PySem.W.kitOne K (.ref (He.ga K p.1)) (.type T) = some p.2) : CallD K (rIsE K (He.ga K c) a) (qIsE c a tbl (.raw (.ty T))) := by
  rintro W H σ e vs ds P Q S r ⟨d, rfl, rfl, b, hb, p⟩ k
  obtain ⟨v, v2, rfl, r1, r2⟩ := r.two
  cases r1
  cases r2
  exact ⟨.ty T, .type T, b, rfl, fun u hu => hu, h _ hb, k _ _ _ _ _ p W.le_refl S (.bl _)⟩
theorem clsv_map {K : PySem.W.Frag} {W : Wd} : ∀ {Cs : List Addr} {vs : List V}, RAll K W vs (Cs.map fun C => D.raw (.ref C)) → Paired ClsV vs (Cs.map fun C => Value.ref C)
  | [], _, .nil => .nil
  | C :: Cs, _, .cons r t => by
    cases r
    exact .cons (.own C) (clsv_map t)
theorem cd_isET {K : PySem.W.Frag} {Cs : List Addr} {a : Addr} {c : Str} {tbl : List (Str × Bool)} (h : ∀ p ∈ tbl, PySem.W.kitAny K (.ref (He.ga K p.1)) (Cs.map fun C => .ref C) = some p.2) : CallD K (rIsET K (He.ga K c) a) (qIsE c a tbl (.tup (Cs.map fun C => .raw (.ref C)))) := by
  rintro W H σ e vs ds P Q S r ⟨d, rfl, rfl, b, hb, p⟩ k
  obtain ⟨v, v2, rfl, r1, r2⟩ := r.two
  cases r1
  cases r2 with
  | tup h1 h2 => exact ⟨_, _, _, b, rfl, Evl.ex_t S.ok.ex h1, clsv_map h2, h _ hb, k _ _ _ _ _ p W.le_refl S (.bl _)⟩
/-- what the head tells -/
theorem excc_ok {K : PySem.W.Frag} {c : Str} (h : (Fx.excc c).ok K = true) : ExcC K (He.ga K c) := by
  obtain ⟨h1, h2⟩ := He.ba h
  obtain ⟨h3, h4⟩ := He.ba h2
  obtain ⟨h5, h6⟩ := He.ba h4
  obtain ⟨h7, h8⟩ := He.ba h6
  obtain ⟨h9, h10⟩ := He.ba h8
  obtain ⟨h11, h12⟩ := He.ba h10
  obtain ⟨h13, h14⟩ := He.ba h12
  exact ⟨He.eqO_ok h3, He.eqO_ok h5, (He.exc_ok h1).2.2.1, h7, He.eqO_ok h9, He.eqO_ok h11, of_decide_eq_true h13, of_decide_eq_true h14⟩
theorem exm_okT {K : PySem.W.Frag} {c : Str} {l : List (Str × Bool)} (h : (Fx.exm c l).ok K = true) : ∀ p ∈ l, PySem.W.exmOne K (.ref (He.ga K p.1)) (.ref (He.ga K c)) = some p.2 := fun p m => of_decide_eq_true (List.all_eq_true.mp h p m)
theorem kito_ok {K : PySem.W.Frag} {c : Str} {l : List (Str × Bool)} (h : (Fx.kito c l).ok K = true) : ∀ p ∈ l, PySem.W.kitOne K (.ref (He.ga K p.1)) (.ref (He.ga K c)) = some p.2 := fun p m => of_decide_eq_true (List.all_eq_true.mp h p m)
theorem kitb_ok {K : PySem.W.Frag} {T : String} {l : List (Str × Bool)} (h : (Fx.kitb T l).ok K = true) : ∀ p ∈ l, PySem.W.kitOne K (.ref (He.ga K p.1)) (.type T) = some p.2 := fun p m => of_decide_eq_true (List.all_eq_true.mp h p m)
theorem kita_ok {K : PySem.W.Frag} {cs : List Str} {l : List (Str × Bool)} (h : (Fx.kita cs l).ok K = true) : ∀ p ∈ l, PySem.W.kitAny K (.ref (He.ga K p.1)) (cs.map fun x => .ref (He.ga K x)) = some p.2 := fun p m => of_decide_eq_true (List.all_eq_true.mp h p m)
theorem excL_nil {K : PySem.W.Frag} : ∀ p ∈ ([] : List (Str × Bool)), ExcC K (He.ga K p.1) := fun _ h => nomatch h
theorem excL_cons {K : PySem.W.Frag} {c : Str} {b : Bool} {l : List (Str × Bool)} (h : ExcC K (He.ga K c)) (t : ∀ p ∈ l, ExcC K (He.ga K p.1)) : ∀ p ∈ (c, b) :: l, ExcC K (He.ga K p.1) := fun p m => by
  rcases List.mem_cons.mp m with rfl | m
  · exact h
  · exact t p m
theorem bt_ValueError : bootBuiltins "ValueError" = some (.type "ValueError") := by decide +kernel
section
variable {XX : Str → List Cel → Prop} {sp : SpX} {ta : DA} {tv to ti : DE} {e : En} {P : D → En → Prop} {Po' : Po} {C C2 : Addr} {d y tg : D} {ds : List D} {c : Str} {a : Addr} {tbl : List (Str × Bool)}
theorem v_callX (h : ta e fun ds e1 => sp ds e1.cs (fun d cs' => P d { e1 with cs := cs' }) XX) : eCallX XX sp ta e P := h
theorem v_makeX (h : ta e fun ds e1 => sp (.cell e1.cs.length :: ds) (e1.cs ++ [.ins C [] []])
  (fun d cs' => d = .non ∧ (P (.cell e1.cs.length) { e1 with cs := cs' } ∨ ∃ cs1 C' ns xs, cs' = cs1 ++ [.ins C' ns xs] ∧ cs1.length = e1.cs.length ∧ los e1.cs.length xs = true ∧ (∀ c ∈ cs1, c ∈ e1.cs ∨ c.loD e1.cs.length = true) ∧ P (.ins C' ns xs) { e1 with cs := cs1 }))
  (FinX e1.cs XX)) : eMakeX C XX sp ta e P := h
theorem v_setX (h : tv e fun v e1 => to e1 fun o e2 => ti e2 fun i e3 => (∃ ns xs, insD e3.cs o = some (C, ns, xs)) ∧ sp [o, i, v] e3.cs (fun _ cs' => Po'.nx { e3 with cs := cs' }) XX) : sSetX C XX sp tv to ti Po' e := h
theorem v_twoX (h : (∃ ns xs, insD e.cs d = some (C, ns, xs)) ∧ (∃ ns xs, insD e.cs y = some (C2, ns, xs)) ∧ sp [d, y] e.cs (fun r cs' => P r { e with cs := cs' }) XX) : qTwoX C C2 XX sp d y e P := h
theorem v_isEX (h : ∃ d, ds = [.raw (.ref a), d] ∧ d = tg ∧ ∃ b, (c, b) ∈ tbl ∧ P (.bl b) e) : qIsE c a tbl tg ds e P := h
theorem v_raise (h : XX c e.cs) : sRaise XX c Po' e := h
theorem v_tryAs {i L : Nat} {tb : (Str → List Cel → Prop) → DS} {ts : Str → Addr → DS} {XXo : Str → List Cel → Prop} (XX : Str → List Cel → Prop) (h1 : tb XX Po' e)
    (h2 : ∀ c cs', XX c cs' → ∃ b, (c, b) ∈ tbl ∧ (b = true → ∀ a, ts c a (Po'.un i) ⟨(List.replicate L none).set i (some (.raw (.ref a))), cs'⟩) ∧ (b = false → XXo c cs')) : sTryAs tbl i L tb ts XXo Po' e := ⟨XX, h1, h2⟩
end
theorem v_unx {P : Po} {i : Nat} {e : En} (h : P.nx { e with sl := e.sl.set i none }) : (P.un i).nx e := h
theorem v_urt {P : Po} {i : Nat} {d : D} {cs : List Cel} (h : P.rt d cs) : (P.un i).rt d cs := h
theorem set_self {cs : List Cel} {n : Nat} {c : Cel} (h : cs[n]? = some c) : cs.set n c = cs := by
  apply List.ext_getElem?
  intro k
  rw [List.getElem?_set]
  by_cases hk : n = k
  · subst hk
    rw [if_pos rfl, if_pos (List.getElem?_eq_some_iff.mp h).1, h]
  · rw [if_neg hk]
theorem encB : EqE D.bl 0 where
  ok := fun _ => rfl
  lay := fun _ => rfl
  dep := fun _ => by
    show (PyData.bool _).depth ≤ 0
    simp [PyData.depth]
  eqv := fun a b => by
    show PyData.eqv (.bool a) (.bool b) = _
    simp only [PyData.eqv]
    exact Bool.beq_eq_decide_eq a b
theorem encBL : EqE (fun xs : List Bool => D.lst (xs.map D.bl)) 1 := encB.lst
theorem atI_zero {x : D} {xs : List D} : atI (x :: xs) 0 = some x := atI_nat (j := 0) rfl
theorem atI_one {x y : D} {xs : List D} : atI (x :: y :: xs) 1 = some y := atI_nat (j := 1) rfl
/-- nothing leaves -/
theorem XT.never {X : Cx} {B : Bs} : XT X B (fun _ _ => False) := fun _ _ ⟨_, _, _, _, _, _, _, _, _, _, _, _, _, _, _, _, _, _, _, _, _, _, _, w⟩ => w.elim
/-! ### a comprehension in a comprehension -/
def relS (scope sc : Scope) : Scope := { scope with names := scope.names.map fun (n, k) => if (k == .free && sc.kind == .function && sc.names.lookup n == some .cell) then (n, .cell) else (n, k) }
theorem blkOk_in {N : List Str} {scope0 sc0 scope : Scope} {env : PySem.Env} {own : List (Str × Nat)} (he : env.scope = sc0) (h : blkC N (relS scope0 sc0) scope own = true) : BlkOk N (relabel scope0 env) scope own := by
  subst he
  exact blkOk_by h
end DL
/-! try .. except C, without a name -/
namespace DL
open PySem PySem.Spec PyProof.Rows L2
open Evl (Ex)
def sTryN (tbl : List (Str × Bool)) (L : Nat) (tb : (Str → List Cel → Prop) → DS) (ts : DS) (XXo : Str → List Cel → Prop) : DS := fun P e => ∃ XX, tb XX P e ∧
  ∀ c cs', XX c cs' → ∃ b, (c, b) ∈ tbl ∧ (b = true → ts P ⟨List.replicate L none, cs'⟩) ∧ (b = false → XXo c cs')
theorem ds_tryN {X : Cx} {B : Bs} {x : Str} {C : Addr} {body suite : List Stmt} {b₀ : Stmt} {np pos pos' : Pos} {tbl : List (Str × Bool)} {tb : (Str → List Cel → Prop) → DS} {ts : DS} {XXo : Str → List Cel → Prop}
    (hs : X.stack = X.env :: X.outer) (hf : X.env.frame = some X.env.locals) (hm : X.mg x = some (.ref C)) (hg : Gl X x) (tko : XT X B XXo)
    (hx : ∀ p ∈ tbl, PySem.W.exmOne X.K (.ref (He.ga X.K p.1)) (.ref C) = some p.2)
    (hb : ∀ (B : Bs) (XX : Str → List Cel → Prop) (pn : List (Addr × Obj)) (xe : Value → Shared → Prop), XT (X.tr pn xe) B XX → PassesOwn (model X.prog X.w) X.A X.env xe → PSs (X.tr pn xe) body (lS X.K B (tb XX)))
    (hsu : ∀ (B : Bs) (a : Addr) (oe : Obj) (pn : List (Addr × Obj)), PSs (X.suite a ((a, oe) :: pn)) (b₀ :: suite) (lS X.K B ts))
    (hdb : (x == ("__debug__" : Str)) = false := by decide) :
    PS X (.Try body [.ExceptHandler (some (.Name x np)) none (b₀ :: suite) pos'] [] [] pos) (lS X.K B (sTryN tbl X.N.length tb ts XXo)) := by
  refine PS.imp (L2N.ps_try_many (Wout := fun cls d _ H => wE X.K B XXo cls d H)
    (tb := fun W D σ H => ∃ p : Bs × (Str → List Cel → Prop), (∀ cls d σ H, σ.length = X.N.length → wE X.K p.1 p.2 cls d H → W cls d σ H) ∧ lS X.K p.1 (tb p.2) D σ H)
    (l := [(.ref C, fun a cls d D σ H => ∃ p : Bs, lS X.K p ts D σ H)])
    hs hf tko (fun W pn xe tk po => ?_) (.cons ⟨hg, hdb, .inl hm⟩ (fun a oe cls d pn hz hfd => ?_) .nil)) fun E σ H h => ?_
  · exact PSs.ofEx (q := fun p : Bs × (Str → List Cel → Prop) => ∀ cls d σ H, σ.length = X.N.length → wE X.K p.1 p.2 cls d H → W cls d σ H) (u := fun p => lS X.K p.1 (tb p.2)) (fun p hp => hb p.1 p.2 pn xe (XT.of (X := X.tr pn xe) tk hp) po) fun D σ H h => h
  · exact PSs.ofEx (q := fun _ : Bs => True) (u := fun p => lS X.K p ts) (fun p _ => hsu p a oe pn) fun D σ H ⟨p, h⟩ => ⟨p, trivial, h⟩
  · obtain ⟨W, e, P, bl, S, ⟨XX, h, hc⟩, c⟩ := lS_un h
    refine ⟨(Bs.of W, XX), fun cls d σ' H' hl ⟨cc, W', cs', e1, e2, bp, ok', px⟩ => ?_, lS_mk W.le_refl S h c⟩
    subst e1 e2
    obtain ⟨b, hbm, hy, hn⟩ := hc cc cs' px
    refine ⟨b, hx _ hbm, fun eb a na => ?_, fun eb => ⟨cc, W', cs', rfl, rfl, B.up bl bp, ok', hn eb⟩⟩
    refine ⟨Bs.any, lS_mk (P := P) trivial ⟨ok', SlO.none_ hl⟩ (hy eb) ?_⟩
    exact ⟨fun e' W2 H2 σ2 p l S2 => c.nx _ _ _ _ p (bp.tr l) S2, fun d cs W2 H2 v p l ok r => c.rt _ _ _ _ _ p (bp.tr l) ok r, fun e' W2 H2 σ2 p l S2 => c.bk _ _ _ _ p (bp.tr l) S2, fun e' W2 H2 σ2 p l S2 => c.ct _ _ _ _ p (bp.tr l) S2⟩
section
variable {e : En} {Po' : Po} {tbl : List (Str × Bool)}
theorem v_tryN {L : Nat} {tb : (Str → List Cel → Prop) → DS} {ts : DS} {XXo : Str → List Cel → Prop} (XX : Str → List Cel → Prop) (h1 : tb XX Po' e)
    (h2 : ∀ c cs', XX c cs' → ∃ b, (c, b) ∈ tbl ∧ (b = true → ts Po' ⟨List.replicate L none, cs'⟩) ∧ (b = false → XXo c cs')) : sTryN tbl L tb ts XXo Po' e := ⟨XX, h1, h2⟩
end
/-! ### a list == the empty one: whatever stands in it -/
def rEqE (K : PySem.W.Frag) : R2 := fun x y H Q => ∃ a b xs, x = .ref a ∧ y = .ref b ∧ SqL K H a xs ∧ SqL K H b [] ∧ Q (.bl xs.isEmpty) H
theorem op_eqE {X : Cx} (hu : X.A.units + 64 < cLine) : OpR X (compareOp .Eq) (rEqE X.K) := by
  intro pins s σ H x y v u Q I rx ry ⟨a, b, xs, ex, ey, h1, h2, q⟩
  subst ex ey
  cases (show v = Value.ref a from rx)
  cases (show u = Value.ref b from ry)
  obtain ⟨its, r1, p1, _⟩ := I.list h1
  obtain ⟨its2, r2, p2, _⟩ := I.list h2
  cases r2
  have hu' : X.A.units < cLine := by omega
  cases r1 with
  | nil =>
    exact SeqAt.RcAt.lists (e := fun _ => true) p1.isList p2.isList rfl hu' (fun j h => absurd h (Nat.not_lt_zero _)) _ _ _ _ ⟨.bl true, H, I, rfl, q⟩
  | cons r t =>
    exact SeqAt.RcAt.lists_lengths p1.isList p2.isList (by simp) hu' _ _ _ _ ⟨.bl false, H, I, rfl, q⟩
def qEqE : D → D → DE := fun x y e P => ∃ xs, lk e.cs x = some xs ∧ lk e.cs y = some [] ∧ P (.bl xs.isEmpty) e
theorem RAll.empty_ {K : PySem.W.Frag} {W : Wd} {vs : List V} {xs : List D} (h : RAll K W vs xs) : vs.isEmpty = xs.isEmpty := by cases h <;> rfl
theorem od_eqE {K : PySem.W.Frag} : OpD K (rEqE K) qEqE := by
  intro W H σ e x y d1 d2 P Q S r1 r2 ⟨xs, h1, h2, p⟩ k
  obtain ⟨a, vs, rfl, g1, g2⟩ := S.ok.lk r1 h1
  obtain ⟨b, us, rfl, g3, g4⟩ := S.ok.lk r2 h2
  cases g4
  refine ⟨a, b, vs, rfl, rfl, g1, g3, ?_⟩
  rw [g2.empty_]
  exact k _ _ _ _ _ p W.le_refl S (.bl _)
end DL
namespace DL
open PySem PySem.Spec PyProof.Rows L2
open Evl (Ex)
/-! ### list(range(n)) -/
def eListRg (o : Bool) (ta : DE) : DE := fun e P => ta e fun d e1 => ∃ n : Int, d = .int n ∧ 0 ≤ n ∧ n ≤ 16777216 ∧ newL o (intsD 0 n.toNat) e1 P
theorem rall_ints {K : PySem.W.Frag} {W : Wd} : ∀ l : List Nat, RAll K W (l.map fun (i : Nat) => V.int (0 + (i : Int))) (l.map fun (i : Nat) => D.int (0 + (i : Int)))
  | [] => .nil
  | _ :: l => .cons (.int _) (rall_ints l)
theorem de_listRg {o : Bool} {X : Cx} {B : Bs} {ta : DE} {a : Expr} {p p2 pos pos2 : Pos} (hc : X.calm = true) (hg : Gl X "list") (hm : X.mg "list" = none) (hgr : Gl X "range") (hmr : X.mg "range" = none) (ha : PE X a (lE X.K B ta))
    (na : starEach [a] X.env = (false, eval a X.env) :: starEach [] X.env := by rfl) (nb : starEach [.Call (.Name "range" p2) [a] [] pos2] X.env = (false, eval (.Call (.Name "range" p2) [a] [] pos2) X.env) :: starEach [] X.env := by rfl) :
    PE X (.Call (.Name "list" p) [.Call (.Name "range" p2) [a] [] pos2] [] pos) (lE X.K B (eListRg o ta)) :=
  PE.imp (pe_listRg hc hg hm (prg_1 hgr hmr ha na) nb) fun σ H Q ⟨W, e, P, bl, S, t, k⟩ => ⟨W, e, _, bl, S, t, fun d e1 W1 H1 v ⟨n, ed, h0, h1, p⟩ l1 S1 r1 => by
    subst ed
    cases r1
    refine ⟨n, rfl, RgOk.of_le (by decide) h1 (by decide) h0, ?_⟩
    refine newL_ok S1 ?_ p fun d e2 W2 H2 v p l2 S2 r2 => k d e2 W2 H2 v p (l1.tr l2) S2 r2
    unfold rgV intsD
    rw [Int.sub_zero]
    exact rall_ints _⟩
theorem v_listRg {o : Bool} {ta : DE} {e : En} {P : D → En → Prop} (h : ta e fun d e1 => ∃ n : Int, d = .int n ∧ 0 ≤ n ∧ n ≤ 16777216 ∧ newL o (intsD 0 n.toNat) e1 P) : eListRg o ta e P := h
end DL
/-! order of nested data -/
namespace DL
open PySem PySem.Spec PyProof.Rows L2
def rOrd (lt : Bool) (neg : Bool) (K : PySem.W.Frag) : R2 := fun x y H Q => ∃ d e, Dp K H x d ∧ Dp K H y e ∧ PySem.W.alike d e = true ∧ d ≠ .none ∧ min d.depth e.depth ≤ 64 ∧ Q (.bl (xor neg (if lt = true then PySem.W.dataLt d e else PySem.W.dataLt e d))) H
section
variable {X : Cx} (hu : X.A.units + 64 < cLine)
include hu
theorem op_ltN : OpR X (compareOp .Lt) (rOrd true false X.K) := by
  intro pins s σ H x y v u Q I rx ry ⟨d, e, hd, he, ha, hn, hm, q⟩
  obtain ⟨as, r1⟩ := Dp.reads I d x v hd rx
  obtain ⟨bs, r2⟩ := Dp.reads I e y u he ry
  rw [Bool.false_xor, if_pos rfl] at q
  exact PySem.W.lt_data r1 r2 ha hn (by omega) ⟨.bl _, H, I, rfl, q⟩
theorem op_gtN : OpR X (compareOp .Gt) (rOrd false false X.K) := by
  intro pins s σ H x y v u Q I rx ry ⟨d, e, hd, he, ha, hn, hm, q⟩
  obtain ⟨as, r1⟩ := Dp.reads I d x v hd rx
  obtain ⟨bs, r2⟩ := Dp.reads I e y u he ry
  rw [Bool.false_xor, if_neg (by decide)] at q
  exact PySem.W.gt_data r1 r2 ha hn (by omega) ⟨.bl _, H, I, rfl, q⟩
theorem op_leN : OpR X (compareOp .LtE) (rOrd false true X.K) := by
  intro pins s σ H x y v u Q I rx ry ⟨d, e, hd, he, ha, hn, hm, q⟩
  obtain ⟨as, r1⟩ := Dp.reads I d x v hd rx
  obtain ⟨bs, r2⟩ := Dp.reads I e y u he ry
  rw [Bool.true_xor, if_neg (by decide)] at q
  exact PySem.W.le_data r1 r2 ha hn (by omega) ⟨.bl _, H, I, rfl, q⟩
theorem op_geN : OpR X (compareOp .GtE) (rOrd true true X.K) := by
  intro pins s σ H x y v u Q I rx ry ⟨d, e, hd, he, ha, hn, hm, q⟩
  obtain ⟨as, r1⟩ := Dp.reads I d x v hd rx
  obtain ⟨bs, r2⟩ := Dp.reads I e y u he ry
  rw [Bool.true_xor, if_pos rfl] at q
  exact PySem.W.ge_data r1 r2 ha hn (by omega) ⟨.bl _, H, I, rfl, q⟩
end
/-- the answer of an order of data -/
def ordD (lt neg : Bool) (x y : D) : Bool := xor neg (if lt = true then PySem.W.dataLt (toP x) (toP y) else PySem.W.dataLt (toP y) (toP x))
def qOrd (lt neg : Bool) : D → D → DE := fun x y e P => shp (drf e.cs x) = true ∧ shp (drf e.cs y) = true ∧ PySem.W.alike (toP (drf e.cs x)) (toP (drf e.cs y)) = true ∧ toP (drf e.cs x) ≠ .none ∧ min (toP (drf e.cs x)).depth (toP (drf e.cs y)).depth ≤ 64 ∧ P (.bl (ordD lt neg (drf e.cs x) (drf e.cs y))) e
theorem od_ord {lt neg : Bool} {K : PySem.W.Frag} : OpD K (rOrd lt neg K) (qOrd lt neg) := by
  intro W H σ e x y d1 d2 P Q S r1 r2 ⟨h1, h2, ha, hn, hm, t⟩ k
  obtain ⟨o1, s1⟩ := shp_and h1
  obtain ⟨o2, s2⟩ := shp_and h2
  exact ⟨_, _, S.ok.dp r1 o1, S.ok.dp r2 o2, ha, hn, hm, k _ _ _ _ _ t W.le_refl S (.bl _)⟩
end DL
namespace DL
open PySem PySem.Spec PyProof.Rows L2
/-! ### tuples with changing lists in them -/
def drf2 (cs : List Cel) : D → D
  | .tup xs => .tup (xs.map (drf cs))
  | d => drf cs d
theorem dp_all {K : PySem.W.Frag} {W : Wd} {H : Hp} {cs : List Cel} (h : Ok K W H cs) : ∀ {xs : List D} {vs : List V}, RAll K W vs xs → okDs (xs.map (drf cs)) = true → DpAll K H vs (toPs (xs.map (drf cs)))
  | [], _, r, _ => by cases r; exact .nil
  | x :: xs, _, r, o => by
    cases r with
    | cons r1 r2 =>
      have o' : (okD (drf cs x) && okDs (xs.map (drf cs))) = true := o
      rw [Bool.and_eq_true] at o'
      exact .cons (h.dp r1 o'.1) (dp_all h r2 o'.2)
theorem Ok.dp2 {K : PySem.W.Frag} {W : Wd} {H : Hp} {cs : List Cel} (h : Ok K W H cs) {d : D} {v : V} (r : R K W v d) (o : okD (drf2 cs d) = true) : Dp K H v (toP (drf2 cs d)) := by
  cases d with
  | tup xs =>
    cases r with
    | tup hs ha => exact .tup (Evl.ex_t h.ex hs) (dp_all h ha o)
  | _ => exact h.dp r o
def qOrd2 (lt neg : Bool) : D → D → DE := fun x y e P => shp (drf2 e.cs x) = true ∧ shp (drf2 e.cs y) = true ∧ PySem.W.alike (toP (drf2 e.cs x)) (toP (drf2 e.cs y)) = true ∧ toP (drf2 e.cs x) ≠ .none ∧ min (toP (drf2 e.cs x)).depth (toP (drf2 e.cs y)).depth ≤ 64 ∧ P (.bl (ordD lt neg (drf2 e.cs x) (drf2 e.cs y))) e
theorem od_ord2 {lt neg : Bool} {K : PySem.W.Frag} : OpD K (rOrd lt neg K) (qOrd2 lt neg) := by
  intro W H σ e x y d1 d2 P Q S r1 r2 ⟨h1, h2, ha, hn, hm, t⟩ k
  obtain ⟨o1, s1⟩ := shp_and h1
  obtain ⟨o2, s2⟩ := shp_and h2
  exact ⟨_, _, S.ok.dp2 r1 o1, S.ok.dp2 r2 o2, ha, hn, hm, k _ _ _ _ _ t W.le_refl S (.bl _)⟩
def qEq2 : D → D → DE := fun x y e P => shp (drf2 e.cs x) = true ∧ shp (drf2 e.cs y) = true ∧ P (.bl (PyData.eqv (toP (drf2 e.cs x)) (toP (drf2 e.cs y)))) e
theorem od_eq2 {K : PySem.W.Frag} : OpD K (rEqD K) qEq2 := by
  intro W H σ e x y d1 d2 P Q S r1 r2 ⟨h1, h2, t⟩ k
  obtain ⟨o1, s1⟩ := shp_and h1
  obtain ⟨o2, s2⟩ := shp_and h2
  exact ⟨_, _, S.ok.dp2 r1 o1, S.ok.dp2 r2 o2, s1, s2, k _ _ _ _ _ t W.le_refl S (.bl _)⟩
end DL
/-! any(..); a tuple != a tuple of ints and strings, whatever stands in the first (a dict too) -/
namespace PySem.SeqAt
open AutoSeq1 (wpAny_loadPart')
open MeetsSeq MeetsSeq2 MeetsSeq3 SeqRoads2
theorem dl_dict_eq_int (l : Addr) (es : Array DictEntry) (n : Nat) (dd : Option Addr) (sl : Array (Option Value)) (b : Int) (u : Tok) :
    Meets (Builtin.«dict.__eq__» ⟨[.ref l, .int b u], []⟩) (fun _ R s => s.heap.get? l = some { cls := .type "dict", dict := dd, data := .dict es n, slots := sl } ∧ R (.ok (.ret .notImplemented)) s) :=
  .of_wp fun prog w A R s h => by obtain ⟨hp, g, d, tk, os⟩ := s; obtain ⟨hl, h⟩ := h; have f1 := F.sub_int_dict; wp_walk using wpAny_loadPart' hl, wpAny_load hl; exact ⟨_, rfl, h⟩
theorem dl_int_eq_dict (b : Int) (u : Tok) (l : Addr) (c : Value) (es : Array DictEntry) (n : Nat) (dd : Option Addr) (sl : Array (Option Value)) :
    Meets (Builtin.«int.__eq__» ⟨[.int b u, .ref l], []⟩) (fun _ R s => s.heap.get? l = some { cls := c, dict := dd, data := .dict es n, slots := sl } ∧ R (.ok (.ret .notImplemented)) s) :=
  .of_wp fun prog w A R s h => by obtain ⟨hp, g, d, tk, os⟩ := s; obtain ⟨hl, h⟩ := h; wp_walk using wpAny_loadPart' hl, wpAny_load hl; exact ⟨_, rfl, h⟩
theorem RcAt.dl_dict_int {A : Around} {s : Shared} {l : Addr} {es : Array DictEntry} {n : Nat} {dd : Option Addr} {sl : Array (Option Value)} (ho : s.heap.get? l = some { cls := .type "dict", dict := dd, data := .dict es n, slots := sl }) (b : Int) (u : Tok) (hu : A.units < cLine) : RcAt A s (.ref l) (.int b u) false := fun prog w E Q h =>
  rc_eq_decline_or (k := false) ⟨_, ho, rfl⟩ (typeIs_int s b u) (by decide) F.sub_int_dict F.slot_dict_eq F.slot_int_eq_refl
    (fun _ hq => call_meets F.slot_dict_eq ⟨_, ho, rfl⟩ F.entry_dict_eq (F.args_dict_eq_2 _ _) (dl_dict_eq_int l es n dd sl b u) ⟨ho, hq⟩)
    (fun _ hq => call_meets F.slot_int_eq_refl (typeIs_int s b u) F.entry_int_eq (F.args_int_eq_2 _ _) (dl_int_eq_dict b u l (.type "dict") es n dd sl) ⟨ho, hq⟩)
    (fun _ hq => wpAny_of_eq (rfl : isSame (.ref l) (.int b u) = pure false) hq) (.inr hu) h
theorem EqAt.dl_dict_int {A : Around} {s : Shared} {l : Addr} {es : Array DictEntry} {n : Nat} {dd : Option Addr} {sl : Array (Option Value)} (ho : s.heap.get? l = some { cls := .type "dict", dict := dd, data := .dict es n, slots := sl }) (b : Int) (u : Tok) (hu : A.units < cLine) : EqAt A s (.ref l) (.int b u) false := fun prog w E Q h => by
  unfold eqBool
  refine wpAny_holding ?_
  refine wpAny_ite_split (fun hab => absurd (eq_of_beq hab) nofun) (fun _ => ?_)
  exact wpAny_bind (RcAt.dl_dict_int ho b u hu prog w E _ (wpAny_truthy_bool h))
end PySem.SeqAt
namespace DL
open PySem PySem.Spec PyProof.Rows L2
/-! ### any -/
def qAny : List D → DE
  | [d] => fun e P => ∃ bs : List Bool, lk e.cs d = some (bs.map .bl) ∧ P (.bl (bs.any fun b => b)) e
  | _ => fun _ _ => False
theorem cd_any {K : PySem.W.Frag} : CallD K (rAny K) qAny := by
  intro W H σ e vs ds P Q S r t k
  unfold qAny at t
  split at t
  · obtain ⟨v, rfl, r1⟩ := r.one
    obtain ⟨bs, e1, p⟩ := t
    obtain ⟨a, vs, rfl, h1, h2⟩ := S.ok.lk r1 e1
    rw [h2.bls_inv] at h1
    exact ⟨a, bs, rfl, h1, k _ _ _ _ _ p W.le_refl S (.bl _)⟩
  · exact t.elim
theorem bt_any : bootBuiltins "any" = some (.builtin "any") := by decide +kernel
theorem v_anyL {d : D} {bs : List Bool} {e : En} {P : D → En → Prop} (h : lk e.cs d = some (bs.map .bl)) (p : P (.bl (bs.any fun b => b)) e) : qAny [d] e P := ⟨bs, h, p⟩
/-! ### str of an integer -/
def rStrI : List V → Hp → VK → Prop := fun xs H Q => ∃ i, xs = [.int i] ∧ i.natAbs.log2 < 1920 ∧ Q (.str (toString i)) H
theorem call_strA {X : Cx} : CallR X (.type "str") rStrI := call_str_int
def qStr : List D → DE
  | [.int i] => fun e P => i.natAbs.log2 < 1920 ∧ P (.str (toString i)) e
  | _ => fun _ _ => False
theorem cd_str {K : PySem.W.Frag} : CallD K rStrI qStr := by
  intro W H σ e vs ds P Q S r t k
  unfold qStr at t
  split at t
  · obtain ⟨v, rfl, r1⟩ := r.one
    obtain ⟨h, p⟩ := t
    cases r1
    exact ⟨_, rfl, h, k _ _ _ _ _ p W.le_refl S (.str _)⟩
  · exact t.elim
theorem v_strI {i : Int} {e : En} {P : D → En → Prop} (h : i.natAbs.log2 < 1920) (p : P (.str (toString i)) e) : qStr [.int i] e P := ⟨h, p⟩
/-! ### tuples that are no equal ones -/
def ItE (K : PySem.W.Frag) (H : Hp) (x y : V) (b : Bool) : Prop := (∃ d e, Dp K H x d ∧ Dp K H y e ∧ SeqAt.shaped d = true ∧ SeqAt.shaped e = true ∧ b = PyData.eqv d e) ∨ (∃ a kvs i, x = .ref a ∧ H a = some (.dK kvs) ∧ y = .int i ∧ b = false)
inductive PairsE (K : PySem.W.Frag) (H : Hp) : List V → List V → List Bool → Prop
  | nl (ys : List V) : PairsE K H [] ys []
  | nr (xs : List V) : PairsE K H xs [] []
  | cons {x y : V} {xs ys : List V} {b : Bool} {bs : List Bool} : ItE K H x y b → PairsE K H xs ys bs → PairsE K H (x :: xs) (y :: ys) (b :: bs)
theorem PairsE.len {K : PySem.W.Frag} {H : Hp} : ∀ {xs ys : List V} {bs : List Bool}, PairsE K H xs ys bs → bs.length = min xs.length ys.length
  | _, _, _, .nl ys => by simp
  | _, _, _, .nr xs => by simp
  | _, _, _, .cons _ t => by
    have := t.len
    simp only [List.length_cons]
    omega
theorem PairsE.at_ {K : PySem.W.Frag} {H : Hp} : ∀ {xs ys : List V} {bs : List Bool} {j : Nat} {x y : V}, PairsE K H xs ys bs → xs[j]? = some x → ys[j]? = some y → ∃ b, bs[j]? = some b ∧ ItE K H x y b
  | _, _, _, j, _, _, .nl ys, h1, _ => by simp at h1
  | _, _, _, j, _, _, .nr xs, _, h2 => by simp at h2
  | _, _, _, 0, _, _, .cons h _, h1, h2 => by
    simp at h1 h2
    subst h1 h2
    exact ⟨_, rfl, h⟩
  | _, _, _, j + 1, _, _, .cons _ t, h1, h2 => by
    simp at h1 h2
    obtain ⟨b, e1, e2⟩ := t.at_ h1 h2
    exact ⟨b, by simpa using e1, e2⟩
def rNeT (K : PySem.W.Frag) : R2 := fun x y H Q => ∃ a a' xs ys bs, x = .ref a ∧ y = .ref a' ∧ SqT K H a xs ∧ SqT K H a' ys ∧ PairsE K H xs ys bs ∧ Q (.bl (!((bs.all fun b => b) && xs.length == ys.length))) H
theorem vals_at {xs : List V} {us : List Value} (r : Vals xs us) {j : Nat} {u : Value} (h : us[j]? = some u) : ∃ x, xs[j]? = some x ∧ RelV x u := by
  induction r generalizing j with
  | nil => simp at h
  | cons r t ih =>
    cases j with
    | zero =>
      simp at h
      subst h
      exact ⟨_, rfl, r⟩
    | succ j =>
      simp at h
      obtain ⟨x, e1, e2⟩ := ih h
      exact ⟨x, by simpa using e1, e2⟩
theorem op_neT {X : Cx} (hu : X.A.units + 65 < cLine) : OpR X (compareOp .NotEq) (rNeT X.K) := by
  intro pins s σ H x y v u Q I rx ry ⟨a, a', xs, ys, bs, ex, ey, h1, h2, hp, q⟩
  subst ex ey
  cases (show v = Value.ref a from rx)
  cases (show u = Value.ref a' from ry)
  obtain ⟨its, r1, p1, _⟩ := I.tuple h1
  obtain ⟨its2, r2, p2, _⟩ := I.tuple h2
  have l1 := r1.length
  have l2 := r2.length
  have lb := hp.len
  have key := SeqAt.RcNeAt.tuples (A := X.A) (s := s) (e := fun j => bs.getD j true) p1 p2 (by omega) (fun j k1 k2 => ?_)
  · refine key _ _ _ _ ⟨.bl _, H, I, rfl, ?_⟩
    have e1 : ((List.range (min its.toArray.size its2.toArray.size)).all fun j => bs.getD j true) = bs.all fun b => b := by
      rw [List.size_toArray, List.size_toArray, ← l1, ← l2, ← lb]
      rw [Bool.eq_iff_iff, List.all_eq_true, List.all_eq_true]
      constructor
      · intro h b hb
        obtain ⟨j, hj⟩ := List.mem_iff_getElem?.mp hb
        have hl := (List.getElem?_eq_some_iff.mp hj).1
        have := h j (List.mem_range.mpr hl)
        rw [List.getD_eq_getElem?_getD, hj] at this
        exact this
      · intro h j hj
        have hl := List.mem_range.mp hj
        show bs.getD j true = true
        rw [List.getD_eq_getElem?_getD, List.getElem?_eq_getElem hl]
        exact h _ (List.getElem_mem hl)
    have e2 : (its.toArray.size == its2.toArray.size) = (xs.length == ys.length) := by rw [List.size_toArray, List.size_toArray, l1, l2]
    rw [e1, e2]
    exact q
  · have g1 : its[j]? = some its.toArray[j] := by simp
    have g2 : its2[j]? = some its2.toArray[j] := by simp
    obtain ⟨x, hx, rx⟩ := vals_at r1 g1
    obtain ⟨y, hy, ry⟩ := vals_at r2 g2
    obtain ⟨b, hb, it⟩ := hp.at_ hx hy
    show SeqAt.EqAt _ _ _ _ (bs.getD j true)
    rw [List.getD_eq_getElem?_getD, hb]
    show SeqAt.EqAt _ _ _ _ b
    rcases it with ⟨d, e, hd, he, sd, se, rfl⟩ | ⟨c, kvs, i, rfl, hc, rfl, rfl⟩
    · obtain ⟨as, q1⟩ := Dp.reads I d x _ hd rx
      obtain ⟨bs', q2⟩ := Dp.reads I e y _ he ry
      exact PySem.W.keq_at q1 q2 sd se (by have : X.A.in1.units = X.A.units + 1 := rfl; omega)
    · obtain ⟨t, et⟩ := (show ∃ t, its2.toArray[j] = Value.int i t from ry)
      have ec : its.toArray[j] = Value.ref c := rx
      rw [et, ec]
      obtain ⟨_, _, vs, _, o, es, ep, h1', h2', h3', _⟩ := (show ObjOk X.prog X.w H s.heap c (.dK kvs) from I.hok c _ hc)
      obtain ⟨oc, od, oda, osl⟩ := o
      have e1 := h2'.1
      dsimp only at e1 h3'
      subst e1 h3'
      exact SeqAt.EqAt.dl_dict_int h1' i t (by have : X.A.in1.units = X.A.units + 1 := rfl; omega)
/-- what of two tuples' items is equal -/
def pairOk : D → D → Bool
  | .dct, .int _ => true
  | a, b => shp a && shp b
def pairEq : D → D → Bool
  | .dct, .int _ => false
  | a, b => PyData.eqv (toP a) (toP b)
def pairsOk : List D → List D → Bool
  | x :: xs, y :: ys => pairOk x y && pairsOk xs ys
  | _, _ => true
def pairsEq : List D → List D → Bool
  | x :: xs, y :: ys => pairEq x y && pairsEq xs ys
  | [], [] => true
  | _, _ => false
def qNeT : D → D → DE := fun x y e P => ∃ xs ys, x = .tup xs ∧ y = .tup ys ∧ pairsOk xs ys = true ∧ P (.bl (!pairsEq xs ys)) e
theorem pair_it {K : PySem.W.Frag} {W : Wd} {H : Hp} (ex : Evl.Ex W.F H) {v u : V} {d e : D} (r1 : R K W v d) (r2 : R K W u e) (h : pairOk d e = true) : ItE K H v u (pairEq d e) := by
  have gen : shp d = true → shp e = true → ItE K H v u (PyData.eqv (toP d) (toP e)) := fun h1 h2 => by
    obtain ⟨o1, s1⟩ := shp_and h1
    obtain ⟨o2, s2⟩ := shp_and h2
    exact .inl ⟨_, _, R.dp ex _ _ r1 o1, R.dp ex _ _ r2 o2, s1, s2, rfl⟩
  unfold pairOk at h
  split at h
  · cases r1 with
    | dct hs =>
      cases r2
      exact .inr ⟨_, _, _, rfl, ex _ _ hs, rfl, rfl⟩
  · rename_i hno
    have e1 : pairEq d e = PyData.eqv (toP d) (toP e) := by
      unfold pairEq
      split
      · exact absurd rfl (hno _ rfl)
      · rfl
    rw [Bool.and_eq_true] at h
    rw [e1]
    exact gen h.1 h.2
theorem pairs_it {K : PySem.W.Frag} {W : Wd} {H : Hp} (ex : Evl.Ex W.F H) : ∀ (xs ys : List D) (vs us : List V), RAll K W vs xs → RAll K W us ys → pairsOk xs ys = true → ∃ bs, PairsE K H vs us bs ∧ ((bs.all fun b => b) && vs.length == us.length) = pairsEq xs ys
  | [], ys, vs, us, h1, h2, _ => by
    cases h1
    refine ⟨[], .nl _, ?_⟩
    cases h2 <;> simp [pairsEq]
  | x :: xs, [], vs, us, h1, h2, _ => by
    cases h1
    cases h2
    exact ⟨[], .nr _, by simp [pairsEq]⟩
  | x :: xs, y :: ys, vs, us, h1, h2, h => by
    cases h1 with
    | cons r1 t1 =>
      cases h2 with
      | cons r2 t2 =>
        have h' : (pairOk x y && pairsOk xs ys) = true := h
        rw [Bool.and_eq_true] at h'
        obtain ⟨bs, p, e⟩ := pairs_it ex xs ys _ _ t1 t2 h'.2
        refine ⟨_, .cons (pair_it ex r1 r2 h'.1) p, ?_⟩
        show _ = (pairEq x y && pairsEq xs ys)
        rw [← e, List.all_cons, Bool.and_assoc]
        simp
theorem od_neT {K : PySem.W.Frag} : OpD K (rNeT K) qNeT := by
  intro W H σ e x y d1 d2 P Q S r1 r2 ⟨xs, ys, e1, e2, h, t⟩ k
  subst e1 e2
  cases r1 with
  | tup hs1 ha1 =>
    cases r2 with
    | tup hs2 ha2 =>
      obtain ⟨bs, p, eb⟩ := pairs_it S.ok.ex _ _ _ _ ha1 ha2 h
      refine ⟨_, _, _, _, bs, rfl, rfl, Evl.ex_t S.ok.ex hs1, Evl.ex_t S.ok.ex hs2, p, ?_⟩
      rw [eb]
      exact k _ _ _ _ _ t W.le_refl S (.bl _)
end DL
namespace LW
open PySem PySem.Spec PyProof.Rows L2 DL
open Evl (Ex)
abbrev Rw : PySem.W.OpenRow := PySem.W.OpenLaw.row PySem.Challenge.rw_sumslips_k17_what_is_in_a_kind
def top (i : Nat) : Stmt := PySem.Challenge.pw_sumslips_k17_what_is_in_a_kind.main.body.getD i (.Pass ⟨0, 0, 0, 0⟩)
abbrev s_law_cells : Stmt := top 18
abbrev N_law_cells : List Str := ["script"]
theorem sc_law_cells : FnScope N_law_cells ["script"] (defScope s_law_cells) := ⟨rfl, rfl, rfl, by decide +kernel, rfl, by decide +kernel, by decide +kernel⟩
abbrev s_law_deck : Stmt := top 19
abbrev N_law_deck : List Str := ["cell"]
theorem sc_law_deck : FnScope N_law_deck ["cell"] (defScope s_law_deck) := ⟨rfl, rfl, rfl, by decide +kernel, rfl, by decide +kernel, by decide +kernel⟩
abbrev s_law_draw : Stmt := top 20
abbrev N_law_draw : List Str := ["deck", "many", "drawn", "stir"]
theorem sc_law_draw : FnScope N_law_draw ["deck", "many"] (defScope s_law_draw) := ⟨rfl, rfl, rfl, by decide +kernel, rfl, by decide +kernel, by decide +kernel⟩
abbrev s_law_power : Stmt := top 17
abbrev N_law_power : List Str := ["base", "many", "scale", "k"]
theorem sc_law_power : FnScope N_law_power ["base", "many"] (defScope s_law_power) := ⟨rfl, rfl, rfl, by decide +kernel, rfl, by decide +kernel, by decide +kernel⟩
abbrev s_law_rows : Stmt := top 22
abbrev N_law_rows : List Str := ["deck", "base", "rows"]
theorem sc_law_rows : FnScope N_law_rows ["deck", "base"] (defScope s_law_rows) := ⟨rfl, rfl, rfl, by decide +kernel, rfl, by decide +kernel, by decide +kernel⟩
abbrev s_law_all_deeds : Stmt := top 21
abbrev N_law_all_deeds : List Str := ["base", "rows", "deeds", "j", "d"]
theorem sc_law_all_deeds : FnScope N_law_all_deeds ["base", "rows"] (defScope s_law_all_deeds) := ⟨rfl, rfl, rfl, by decide +kernel, rfl, by decide +kernel, by decide +kernel⟩
abbrev s_law_some : Stmt := top 23
abbrev N_law_some : List Str := ["deck", "deeds", "many", "left", "some", "k"]
theorem sc_law_some : FnScope N_law_some ["deck", "deeds", "many"] (defScope s_law_some) := ⟨rfl, rfl, rfl, by decide +kernel, rfl, by decide +kernel, by decide +kernel⟩
abbrev s_is_integer : Stmt := top 6
abbrev N_is_integer : List Str := ["value"]
theorem sc_is_integer : FnScope N_is_integer ["value"] (defScope s_is_integer) := ⟨rfl, rfl, rfl, by decide +kernel, rfl, by decide +kernel, by decide +kernel⟩
abbrev s_number_of_columns : Stmt := top 14
abbrev N_number_of_columns : List Str := ["base", "rows", "many", "j"]
theorem sc_number_of_columns : FnScope N_number_of_columns ["base", "rows"] (defScope s_number_of_columns) := ⟨rfl, rfl, rfl, by decide +kernel, rfl, by decide +kernel, by decide +kernel⟩
abbrev s_is_deed : Stmt := top 10
abbrev N_is_deed : List Str := ["value", "base", "rows", "word", "part"]
theorem sc_is_deed : FnScope N_is_deed ["value", "base", "rows"] (defScope s_is_deed) := ⟨rfl, rfl, rfl, by decide +kernel, rfl, by decide +kernel, by decide +kernel⟩
abbrev s_all_deeds : Stmt := top 9
abbrev N_all_deeds : List Str := ["base", "rows", "deeds", "d", "j"]
theorem sc_all_deeds : FnScope N_all_deeds ["base", "rows"] (defScope s_all_deeds) := ⟨rfl, rfl, rfl, by decide +kernel, rfl, by decide +kernel, by decide +kernel⟩
abbrev s_Kind_init : Stmt := inClass (top 15) 0
abbrev N_Kind_init : List Str := ["self", "base", "rows", "deeds", "most", "held", "deed"]
theorem sc_Kind_init : FnScope N_Kind_init ["self", "base", "rows", "deeds", "most"] (defScope s_Kind_init) := ⟨rfl, rfl, rfl, by decide +kernel, rfl, by decide +kernel, by decide +kernel⟩
abbrev s_law_values : Stmt := top 24
abbrev N_law_values : List Str := ["deck", "base", "rows", "far", "d", "j", "some"]
theorem sc_law_values : FnScope N_law_values ["deck", "base", "rows"] (defScope s_law_values) := ⟨rfl, rfl, rfl, by decide +kernel, rfl, by decide +kernel, by decide +kernel⟩
abbrev s_law_is : Stmt := top 25
abbrev N_law_is : List Str := ["value", "deed", "part"]
theorem sc_law_is : FnScope N_law_is ["value", "deed"] (defScope s_law_is) := ⟨rfl, rfl, rfl, by decide +kernel, rfl, by decide +kernel, by decide +kernel⟩
abbrev s_Kind_contains : Stmt := inClass (top 15) 6
abbrev N_Kind_contains : List Str := ["self", "deed"]
theorem sc_Kind_contains : FnScope N_Kind_contains ["self", "deed"] (defScope s_Kind_contains) := ⟨rfl, rfl, rfl, by decide +kernel, rfl, by decide +kernel, by decide +kernel⟩
abbrev s_Kind_deeds : Stmt := inClass (top 15) 3
abbrev N_Kind_deeds : List Str := ["self"]
theorem sc_Kind_deeds : FnScope N_Kind_deeds ["self"] (defScope s_Kind_deeds) := ⟨rfl, rfl, rfl, by decide +kernel, rfl, by decide +kernel, by decide +kernel⟩
abbrev s_law : Stmt := top 26
abbrev N_law : List Str := ["script", "cell", "deck", "base", "rows", "every", "some", "kind", "values", "value", "due", "deed"]
theorem sc_law : FnScope N_law ["script"] (defScope s_law) := ⟨rfl, rfl, rfl, by decide +kernel, rfl, by decide +kernel, by decide +kernel⟩
def df_law_cells : DefX := ⟨.glo "_law_cells", "_law_cells", "_law_cells", defArgs s_law_cells, defBody s_law_cells, defScope s_law_cells, [], []⟩
def df_law_deck : DefX := ⟨.glo "_law_deck", "_law_deck", "_law_deck", defArgs s_law_deck, defBody s_law_deck, defScope s_law_deck, [], []⟩
def df_law_draw : DefX := ⟨.glo "_law_draw", "_law_draw", "_law_draw", defArgs s_law_draw, defBody s_law_draw, defScope s_law_draw, [], []⟩
def df_law_power : DefX := ⟨.glo "_law_power", "_law_power", "_law_power", defArgs s_law_power, defBody s_law_power, defScope s_law_power, [], []⟩
def df_law_rows : DefX := ⟨.glo "_law_rows", "_law_rows", "_law_rows", defArgs s_law_rows, defBody s_law_rows, defScope s_law_rows, [], []⟩
def df_law_all_deeds : DefX := ⟨.glo "_law_all_deeds", "_law_all_deeds", "_law_all_deeds", defArgs s_law_all_deeds, defBody s_law_all_deeds, defScope s_law_all_deeds, [], []⟩
def df_law_some : DefX := ⟨.glo "_law_some", "_law_some", "_law_some", defArgs s_law_some, defBody s_law_some, defScope s_law_some, [], []⟩
def df_is_integer : DefX := ⟨.glo "is_integer", "is_integer", "is_integer", defArgs s_is_integer, defBody s_is_integer, defScope s_is_integer, [], []⟩
def df_number_of_columns : DefX := ⟨.glo "number_of_columns", "number_of_columns", "number_of_columns", defArgs s_number_of_columns, defBody s_number_of_columns, defScope s_number_of_columns, [], []⟩
def df_is_deed : DefX := ⟨.glo "is_deed", "is_deed", "is_deed", defArgs s_is_deed, defBody s_is_deed, defScope s_is_deed, [], []⟩
def df_all_deeds : DefX := ⟨.glo "all_deeds", "all_deeds", "all_deeds", defArgs s_all_deeds, defBody s_all_deeds, defScope s_all_deeds, [], []⟩
def df_Kind_init : DefX := ⟨.met "Kind" "__init__", "__init__", "Kind.__init__", defArgs s_Kind_init, defBody s_Kind_init, defScope s_Kind_init, [], []⟩
def df_law_values : DefX := ⟨.glo "_law_values", "_law_values", "_law_values", defArgs s_law_values, defBody s_law_values, defScope s_law_values, [], []⟩
def df_law_is : DefX := ⟨.glo "_law_is", "_law_is", "_law_is", defArgs s_law_is, defBody s_law_is, defScope s_law_is, [], []⟩
def df_Kind_contains : DefX := ⟨.met "Kind" "__contains__", "__contains__", "Kind.__contains__", defArgs s_Kind_contains, defBody s_Kind_contains, defScope s_Kind_contains, [], []⟩
def df_Kind_deeds : DefX := ⟨.prp "Kind" "deeds", "deeds", "Kind.deeds", defArgs s_Kind_deeds, defBody s_Kind_deeds, defScope s_Kind_deeds, [], []⟩
def df_law : DefX := ⟨.glo "law", "law", "law", defArgs s_law, defBody s_law, defScope s_law, [], []⟩
def fns : List DefX := [df_law_cells, df_law_deck, df_law_draw, df_law_power, df_law_rows, df_law_all_deeds, df_law_some, df_is_integer, df_number_of_columns, df_is_deed, df_all_deeds, df_Kind_init, df_law_values, df_law_is, df_Kind_contains, df_Kind_deeds, df_law]
def fxs : List Fx := [.fa (.glo "_law_cells"), .fa (.glo "_law_deck"), .fa (.glo "_law_draw"), .fa (.glo "_law_rows"), .fa (.glo "_law_all_deeds"), .fa (.glo "_law_some"), .fa (.glo "Kind"), .fa (.glo "_law_values"), .fa (.glo "_law_is"), .fa (.glo "_law_power"), .fa (.glo "is_integer"), .fa (.glo "number_of_columns"), .fa (.glo "is_deed"), .fa (.glo "all_deeds"), .fa (.glo "PLAIN"), .fa (.glo "law"), .fa (.cls "Kind"), .fa (.mkr "Kind"), .fa (.free "list"), .fa (.free "any"), .sm "Kind" "__contains__", .prop "Kind" "deeds", .fa (.free "int"), .fa (.free "len"), .fa (.free "range"), .fa (.int "MOST_COLUMNS" 1000), .fa (.free "isinstance"), .fa (.free "all"), .fa (.int "MOST_DEEDS" 8), .fa (.noat "Kind" "held_base"), .fa (.noat "Kind" "held_rows"), .fa (.noat "Kind" "held_deeds"), .fa (.noat "Kind" "held_most"), .fa (.free "bool"), .fa (.free "tuple"), .fa (.free "str"), .tup "PLAIN" [.str "forget", .str "again", .str "swap", .str "out", .str "twice"]]
abbrev hk : PySem.W.Hook := hookY 6 fxs fns
section
open PySem PySem.W PySem.Calls PyProof.Rows
local macro_rules | `(tactic| k_head) => `(tactic| o_head LW.hk)
set_option maxHeartbeats 0 in
open_top head1 for PySem.Challenge.rw_sumslips_k17_what_is_in_a_kind
end
/-! ### what each def promises -/
def isI : D → Bool
  | .int _ => true
  | _ => false
inductive Wo where
  | forget | again | off | read | copy | swap | out | twice
deriving DecidableEq
def Wo.s : Wo → Str
  | .forget => "forget"
  | .again => "again"
  | .off => "off"
  | .read => "read"
  | .copy => "copy"
  | .swap => "swap"
  | .out => "out"
  | .twice => "twice"
/-- a deed: its word and its numbers -/
abbrev Dd : Type := Wo × List Int
def encD (t : Dd) : D := .tup (.str t.1.s :: t.2.map .int)
def offs (b : Int) : List Dd := (List.range (b - 1).toNat).map fun (i : Nat) => (.off, [1 + (i : Int)])
def reads (b j : Int) : List Dd := (List.range (b - 1).toNat).map fun (i : Nat) => (.read, [j, 1 + (i : Int)])
def copies (r : Int) : List Dd := (List.range r.toNat).map fun (j : Nat) => (.copy, [0 + (j : Int)])
def readsA (b : Int) (k : Nat) : List Dd := (List.range k).flatMap fun (j : Nat) => reads b (0 + (j : Int))
/-- all deeds, in the order of kinds -/
def allD (b r : Int) : List Dd := [(.forget, []), (.again, [])] ++ offs b ++ readsA b r.toNat ++ copies r ++ [(.swap, []), (.out, []), (.twice, [])]
def kiN : List Str := ["held_base", "held_rows", "held_deeds", "held_most"]
def kiD (K : PySem.W.Frag) (b r : Int) (ds : List Dd) (m : Int) : D := .ins (He.ga K "Kind") kiN [.int b, .int r, .lst (ds.map encD), .int m]
/-- numbers that are let -/
structure Gn (b r : Int) : Prop where
  b2 : 2 ≤ b
  b12 : b ≤ 12
  r1 : 1 ≤ r
  r4 : r ≤ 4
  c : b ^ r.toNat ≤ 1000
/-- one of these -/
def isIn {α : Type} [DecidableEq α] (x : α) (xs : List α) : Bool := decide (x ∈ xs)
/-- deeds of a kind -/
def keep (b r : Int) (some : List Dd) : List Dd := (allD b r).filter fun t => isIn t some
structure Gk (b r : Int) (some : List Dd) (m : Int) : Prop where
  n : Gn b r
  sub : ∀ t ∈ some, t ∈ allD b r
  nd : some.Nodup
  l1 : 1 ≤ some.length
  l8 : some.length ≤ 8
  m1 : 1 ≤ m
  m3 : m ≤ 3
def sp_is_integer (K : PySem.W.Frag) : Spc := fun ds cs P => ∃ d, ds = [d] ∧ (∃ a, tyN cs d = some a) ∧ P (.bl (isI d)) cs
def sp_number_of_columns (K : PySem.W.Frag) : Spc := fun ds cs P => ∃ b r : Int, ds = [.int b, .int r] ∧ 2 ≤ b ∧ b ≤ 12 ∧ 1 ≤ r ∧ r ≤ 4 ∧ P (.int (b ^ r.toNat)) cs
def sp_all_deeds (K : PySem.W.Frag) : Spc := fun ds cs P => ∃ b r : Int, ds = [.int b, .int r] ∧ 2 ≤ b ∧ b ≤ 12 ∧ 1 ≤ r ∧ r ≤ 4 ∧ P (.lst ((allD b r).map encD)) cs
def sp_Kind_init (K : PySem.W.Frag) : Spc := fun ds cs P => ∃ (n : Nat) (b r m : Int) (d : D) (some_ : List Dd), ds = [.cell n, .int b, .int r, d, .int m] ∧ lk cs d = some (some_.map encD) ∧ (∀ ys, d ≠ .fro ys) ∧ cs[n]? = some (.ins (He.ga K "Kind") [] []) ∧ Gk b r some_ m ∧
  P .non (cs.set n (.ins (He.ga K "Kind") kiN [.int b, .int r, .lst ((keep b r some_).map encD), .int m]))
def sp_Kind_deeds (K : PySem.W.Frag) : Spc := fun ds cs P => ∃ (b r m : Int) (es : List Dd), ds = [kiD K b r es m] ∧ es.length ≤ 8 ∧ fresh (es.map encD) cs P
/-! the law's own -/
def sp_law_cells (K : PySem.W.Frag) : Spc := fun ds cs P => ∃ ns : List Int, ds = [.fro (ns.map .int)] ∧ ∀ ms : List Int, ms.length ≤ 63 → P (.lst (ms.map .int)) cs
/-- a deck -/
abbrev deckC (a b c : Int) : Cel := .lst [.int a, .int b, .int c]
def sp_law_deck (K : PySem.W.Frag) : Spc := fun ds cs P => ∃ n : Int, ds = [.int n] ∧ ∀ a b c : Int, P (.cell cs.length) (cs ++ [deckC a b c])
def sp_law_draw (K : PySem.W.Frag) : Spc := fun ds cs P => ∃ n m a b c, ds = [.cell n, .int m] ∧ cs[n]? = some (deckC a b c) ∧ 0 < m ∧ m ≤ 1000000000000000000000000000000 ∧ ∀ r a' b' : Int, 0 ≤ r → r < m → P (.int r) (cs.set n (deckC a' b' c))
def sp_law_power (K : PySem.W.Frag) : Spc := fun ds cs P => ∃ b k : Int, ds = [.int b, .int k] ∧ 2 ≤ b ∧ b ≤ 12 ∧ 0 ≤ k ∧ k ≤ 1000 ∧ P (.int (b ^ k.toNat)) cs
def sp_law_rows (K : PySem.W.Frag) : Spc := fun ds cs P => ∃ n b a x c, ds = [.cell n, .int b] ∧ cs[n]? = some (deckC a x c) ∧ 2 ≤ b ∧ b ≤ 12 ∧ ∀ r a' x' : Int, Gn b r → P (.int r) (cs.set n (deckC a' x' c))
def sp_law_all_deeds (K : PySem.W.Frag) : Spc := fun ds cs P => ∃ b r : Int, ds = [.int b, .int r] ∧ 2 ≤ b ∧ b ≤ 12 ∧ 1 ≤ r ∧ r ≤ 4 ∧ P (.lst ((allD b r).map encD)) cs
def sp_law_some (K : PySem.W.Frag) : Spc := fun ds cs P => ∃ (n : Nat) (a x c m : Int) (es : List Dd), ds = [.cell n, .lst (es.map encD), .int m] ∧ cs[n]? = some (deckC a x c) ∧ es.Nodup ∧ 0 ≤ m ∧ m ≤ es.length ∧ es.length ≤ 100 ∧
  ∀ (ys : List Dd) (a' x' : Int), ys.Nodup → (∀ t ∈ ys, t ∈ es) → (ys.length : Int) = m → fresh (ys.map encD) (cs.set n (deckC a' x' c)) P
/-! a deed, asked of any plain value -/
def plT : D → Bool
  | .non => true
  | .bl _ => true
  | .int _ => true
  | .str _ => true
  | .tup _ => true
  | .lst _ => true
  | .dct => true
  | _ => false
def layH : List D → Bool
  | .str w :: _ => (PyData.str w).canLay0
  | _ => true
/-- a plain value, and what it holds -/
def okV : D → Bool
  | .tup xs => decide (xs.length ≤ 1000) && (xs.all plT && layH xs)
  | d => plT d
def plW (w : Str) : Bool := inF (.str w) [.str "forget", .str "again", .str "swap", .str "out", .str "twice"]
def oneN (lo hi : Int) : List D → Bool
  | [.int d] => decide (lo ≤ d) && decide (d < hi)
  | _ => false
def twoN (r b : Int) : List D → Bool
  | [.int j, .int d] => (decide (0 ≤ j) && decide (j < r)) && (decide (1 ≤ d) && decide (d < b))
  | _ => false
def isDd (b r : Int) : D → Bool
  | .tup (.str w :: rest) => rest.all isI && (if plW w = true then rest.isEmpty else if (w == "off") = true then oneN 1 b rest else if (w == "copy") = true then oneN 0 r rest else (w == "read") && twoN r b rest)
  | _ => false
def sp_is_deed (K : PySem.W.Frag) : Spc := fun ds cs P => ∃ (d : D) (b r : Int), ds = [d, .int b, .int r] ∧ okV d = true ∧ P (.bl (isDd b r d)) cs
/-- the value is this deed -/
noncomputable def isE (v : D) (t : Dd) : Bool := @decide (v = encD t) (Classical.propDecidable _)
def sp_Kind_contains (K : PySem.W.Frag) : Spc := fun ds cs P => ∃ (b r m : Int) (es : List Dd) (v : D), ds = [kiD K b r es m, v] ∧ 2 ≤ b ∧ b ≤ 12 ∧ 1 ≤ r ∧ r ≤ 4 ∧ okV v = true ∧ (∀ t ∈ es, t ∈ allD b r) ∧ P (.bl (es.any (isE v))) cs
/-- what may be asked whether it is a deed -/
def itOk : D → Bool
  | .dct => true
  | y => shp y
def tOk : D → Bool
  | .tup (x :: rest) => shp x && rest.all itOk
  | _ => true
structure Gv (v : D) : Prop where
  ok : okV v = true
  t : tOk v = true
  lo : ∀ k, loD k v = true
def sp_law_values (K : PySem.W.Frag) : Spc := fun ds cs P => ∃ (n : Nat) (a x c b r : Int), ds = [.cell n, .int b, .int r] ∧ cs[n]? = some (deckC a x c) ∧ 2 ≤ b ∧ b ≤ 12 ∧ 1 ≤ r ∧ r ≤ 4 ∧ ∀ (vs : List D) (a' x' : Int), (∀ v ∈ vs, Gv v) → vs.length ≤ 100 → P (.lst vs) (cs.set n (deckC a' x' c))
def sp_law_is (K : PySem.W.Frag) : Spc := fun ds cs P => ∃ (v : D) (t : Dd), ds = [v, encD t] ∧ Gv v ∧ t.2.length ≤ 10 ∧ P (.bl (isE v t)) cs
def sp_law (K : PySem.W.Frag) : Spc := spLaw
abbrev Lo (ds : List D) (cs : List Cel) : Prop := (∀ d ∈ ds, loD cs.length d = true)
abbrev LoC (cs : List Cel) : Prop := (∀ c ∈ cs, c.loD cs.length = true)
structure Txt (K : PySem.W.Frag) (mg : Str → Option Value) : Prop where
  g_law_cells : mg "_law_cells" = some (.ref (He.ga K "_law_cells"))
  g_law_deck : mg "_law_deck" = some (.ref (He.ga K "_law_deck"))
  g_law_draw : mg "_law_draw" = some (.ref (He.ga K "_law_draw"))
  g_law_rows : mg "_law_rows" = some (.ref (He.ga K "_law_rows"))
  g_law_all_deeds : mg "_law_all_deeds" = some (.ref (He.ga K "_law_all_deeds"))
  g_law_some : mg "_law_some" = some (.ref (He.ga K "_law_some"))
  g_Kind : mg "Kind" = some (.ref (He.ga K "Kind"))
  g_law_values : mg "_law_values" = some (.ref (He.ga K "_law_values"))
  g_law_is : mg "_law_is" = some (.ref (He.ga K "_law_is"))
  g_law_power : mg "_law_power" = some (.ref (He.ga K "_law_power"))
  g_is_integer : mg "is_integer" = some (.ref (He.ga K "is_integer"))
  g_number_of_columns : mg "number_of_columns" = some (.ref (He.ga K "number_of_columns"))
  g_is_deed : mg "is_deed" = some (.ref (He.ga K "is_deed"))
  g_all_deeds : mg "all_deeds" = some (.ref (He.ga K "all_deeds"))
  g_PLAIN : mg "PLAIN" = some (.ref (He.ga K "PLAIN"))
  g_law : mg "law" = some (.ref (He.ga K "law"))
  c_Kind : Cls K (He.ga K "Kind")
  mk_Kind : Mk K (He.ga K "Kind") (He.ma K (He.ga K "Kind") "__init__")
  n_list : mg "list" = none
  n_any : mg "any" = none
  sm_Kind_contains : Sm K (He.ga K "Kind") "__contains__" (He.ma K (He.ga K "Kind") "__contains__")
  p_Kind_deeds : PropOf K (He.ga K "Kind") "deeds" (He.ma K (He.ga K "Kind") "deeds") (pga K (He.ga K "Kind") "deeds")
  n_int : mg "int" = none
  n_len : mg "len" = none
  n_range : mg "range" = none
  ig_MOST_COLUMNS : ∃ t, mg "MOST_COLUMNS" = some (.int 1000 t)
  n_isinstance : mg "isinstance" = none
  n_all : mg "all" = none
  ig_MOST_DEEDS : ∃ t, mg "MOST_DEEDS" = some (.int 8 t)
  na_Kind_held_base : NoAttr K (He.ga K "Kind") "held_base"
  na_Kind_held_rows : NoAttr K (He.ga K "Kind") "held_rows"
  na_Kind_held_deeds : NoAttr K (He.ga K "Kind") "held_deeds"
  na_Kind_held_most : NoAttr K (He.ga K "Kind") "held_most"
  n_bool : mg "bool" = none
  n_tuple : mg "tuple" = none
  n_str : mg "str" = none
  tg_PLAIN : ∀ H, SqT K H (He.ga K "PLAIN") [.str "forget", .str "again", .str "swap", .str "out", .str "twice"]
  F_law_cells : ∃ fd, FunD K "_law_cells" "_law_cells" (defArgs s_law_cells) (defBody s_law_cells) (defScope s_law_cells) [] [] (He.ga K "_law_cells") fd
  F_law_deck : ∃ fd, FunD K "_law_deck" "_law_deck" (defArgs s_law_deck) (defBody s_law_deck) (defScope s_law_deck) [] [] (He.ga K "_law_deck") fd
  F_law_draw : ∃ fd, FunD K "_law_draw" "_law_draw" (defArgs s_law_draw) (defBody s_law_draw) (defScope s_law_draw) [] [] (He.ga K "_law_draw") fd
  F_law_power : ∃ fd, FunD K "_law_power" "_law_power" (defArgs s_law_power) (defBody s_law_power) (defScope s_law_power) [] [] (He.ga K "_law_power") fd
  F_law_rows : ∃ fd, FunD K "_law_rows" "_law_rows" (defArgs s_law_rows) (defBody s_law_rows) (defScope s_law_rows) [] [] (He.ga K "_law_rows") fd
  F_law_all_deeds : ∃ fd, FunD K "_law_all_deeds" "_law_all_deeds" (defArgs s_law_all_deeds) (defBody s_law_all_deeds) (defScope s_law_all_deeds) [] [] (He.ga K "_law_all_deeds") fd
  F_law_some : ∃ fd, FunD K "_law_some" "_law_some" (defArgs s_law_some) (defBody s_law_some) (defScope s_law_some) [] [] (He.ga K "_law_some") fd
  F_is_integer : ∃ fd, FunD K "is_integer" "is_integer" (defArgs s_is_integer) (defBody s_is_integer) (defScope s_is_integer) [] [] (He.ga K "is_integer") fd
  F_number_of_columns : ∃ fd, FunD K "number_of_columns" "number_of_columns" (defArgs s_number_of_columns) (defBody s_number_of_columns) (defScope s_number_of_columns) [] [] (He.ga K "number_of_columns") fd
  F_is_deed : ∃ fd, FunD K "is_deed" "is_deed" (defArgs s_is_deed) (defBody s_is_deed) (defScope s_is_deed) [] [] (He.ga K "is_deed") fd
  F_all_deeds : ∃ fd, FunD K "all_deeds" "all_deeds" (defArgs s_all_deeds) (defBody s_all_deeds) (defScope s_all_deeds) [] [] (He.ga K "all_deeds") fd
  F_Kind_init : ∃ fd, FunD K "__init__" "Kind.__init__" (defArgs s_Kind_init) (defBody s_Kind_init) (defScope s_Kind_init) [] [] (He.ma K (He.ga K "Kind") "__init__") fd
  F_law_values : ∃ fd, FunD K "_law_values" "_law_values" (defArgs s_law_values) (defBody s_law_values) (defScope s_law_values) [] [] (He.ga K "_law_values") fd
  F_law_is : ∃ fd, FunD K "_law_is" "_law_is" (defArgs s_law_is) (defBody s_law_is) (defScope s_law_is) [] [] (He.ga K "_law_is") fd
  F_Kind_contains : ∃ fd, FunD K "__contains__" "Kind.__contains__" (defArgs s_Kind_contains) (defBody s_Kind_contains) (defScope s_Kind_contains) [] [] (He.ma K (He.ga K "Kind") "__contains__") fd
  F_Kind_deeds : ∃ fd, FunD K "deeds" "Kind.deeds" (defArgs s_Kind_deeds) (defBody s_Kind_deeds) (defScope s_Kind_deeds) [] [] (pga K (He.ga K "Kind") "deeds") fd
  F_law : ∃ fd, FunD K "law" "law" (defArgs s_law) (defBody s_law) (defScope s_law) [] [] (He.ga K "law") fd
section
variable {P : Program} {w : World} {K : PySem.W.Frag} {mg : Str → Option Value} {base : Heap}
def t_law_cells (K : PySem.W.Frag) : DS := (sSeq (sIf (eTest (eBin qEq (eV 0) (eLst false aNil))) (sRet (eLst false (aCons (eC (.int 0)) aNil))) sNext) (sRet (eSl false (eV 0) oNone (oSome (eC (.int 63))))))
theorem d_law_cells (T : Txt K mg) : ∀ (cdv : Value) (A : Around) (outer : List Env) (s : Shared) (H : Hp) (E : XK) (B : Bs), Room 1 (A.deeper (envOfC "_law_cells" (defScope s_law_cells) s.heap.objs.size (He.ga K "_law_cells") cdv)) → PSs (cx0 P w K mg base N_law_cells "_law_cells" (defScope s_law_cells) (He.ga K "_law_cells") cdv A outer s H E) (defBody s_law_cells) (lS K B (t_law_cells K)) := by
  intro cdv A outer s H E B hr
  exact (dss_cons (ds_if (dt_cmp (op_eqD hr.units) od_eq (dv 0) (de_lst (o := false) da_nil) (nomark _)) (dss_one (ds_ret (de_lst (o := false) (da_cons de_int da_nil)))) dss_nil) (dss_one (ds_ret (de_slice (o := false) (dv 0) do_none (do_some de_int)))))
def t_law_deck (K : PySem.W.Frag) : DS := (sSeq (sIf (eTest (eBin qGe (eV 0) (eBin (qPow) (eC (.int 10)) (eC (.int 18))))) (sRet (eLst true (aCons (eBin (qSub) (eV 0) (eBin (qPow) (eC (.int 10)) (eC (.int 18)))) (aCons (eC (.int 0)) (aCons (eC (.int 1)) aNil))))) sNext) (sRet (eLst true (aCons (eC (.int 0)) (aCons (eC (.int 0)) (aCons (eBin (qAdd false) (eBin (qMod) (eCB qInt (aCons (eV 0) aNil)) (eC (.int 2147483629))) (eC (.int 2))) aNil))))))
theorem d_law_deck (T : Txt K mg) : ∀ (cdv : Value) (A : Around) (outer : List Env) (s : Shared) (H : Hp) (E : XK) (B : Bs), Room 1 (A.deeper (envOfC "_law_deck" (defScope s_law_deck) s.heap.objs.size (He.ga K "_law_deck") cdv)) → PSs (cx0 P w K mg base N_law_deck "_law_deck" (defScope s_law_deck) (He.ga K "_law_deck") cdv A outer s H E) (defBody s_law_deck) (lS K B (t_law_deck K)) := by
  intro cdv A outer s H E B hr
  exact (dss_cons (ds_if (dt_cmp op_ge od_ge (dv 0) (de_bin op_pow od_pow de_int de_int) (nomark _)) (dss_one (ds_ret (de_lst (o := true) (da_cons (de_bin op_sub od_sub (dv 0) (de_bin op_pow od_pow de_int de_int)) (da_cons de_int (da_cons de_int da_nil)))))) dss_nil) (dss_one (ds_ret (de_lst (o := true) (da_cons de_int (da_cons de_int (da_cons (de_bin op_addA (od_add (o := false)) (de_bin op_mod od_mod (de_callTy call_intA cd_int rfl T.n_int bt_int (da_cons (dv 0) da_nil)) de_int) de_int) da_nil)))))))
def t_law_draw (K : PySem.W.Frag) : DS := (sSeq (sIf (eTest (eBin qGt (eBin qIx (eV 0) (eC (.int 0))) (eC (.int 0)))) (sSeq (sAsg (eBin (qMod) (eCB qInt (aCons (eBin qIx (eV 0) (eC (.int 0))) aNil)) (eV 1)) 2) (sSeq (sSub (eBin (qFdiv) (eBin qIx (eV 0) (eC (.int 0))) (eV 1)) (eV 0) (eC (.int 0))) (sRet (eV 2)))) sNext) (sSeq (sSub (eBin (qAdd false) (eBin qIx (eV 0) (eC (.int 1))) (eC (.int 1))) (eV 0) (eC (.int 1))) (sSeq (sAsg (eBin (qMod) (eCB qInt (aCons (eBin (qAdd false) (eBin (qMul) (eBin qIx (eV 0) (eC (.int 2))) (eC (.int 48271))) (eBin (qMul) (eBin qIx (eV 0) (eC (.int 1))) (eC (.int 69621)))) aNil)) (eC (.int 2147483647))) 3) (sSeq (sAsg (eBin (qMod) (eCB qInt (aCons (eBin (qAdd false) (eBin (qMul) (eV 3) (eV 3)) (eBin qIx (eV 0) (eC (.int 1)))) aNil)) (eC (.int 2147483629))) 3) (sSeq (sAsg (eBin (qMod) (eCB qInt (aCons (eBin (qMul) (eV 3) (eC (.int 40692))) aNil)) (eC (.int 2147483399))) 3) (sRet (eBin (qMod) (eCB qInt (aCons (eBin (qFdiv) (eV 3) (eC (.int 8))) aNil)) (eV 1))))))))
theorem d_law_draw (T : Txt K mg) : ∀ (cdv : Value) (A : Around) (outer : List Env) (s : Shared) (H : Hp) (E : XK) (B : Bs), Room 1 (A.deeper (envOfC "_law_draw" (defScope s_law_draw) s.heap.objs.size (He.ga K "_law_draw") cdv)) → PSs (cx0 P w K mg base N_law_draw "_law_draw" (defScope s_law_draw) (He.ga K "_law_draw") cdv A outer s H E) (defBody s_law_draw) (lS K B (t_law_draw K)) := by
  intro cdv A outer s H E B hr
  exact (dss_cons (ds_if (dt_cmp op_gt od_gt (de_ix (dv 0) de_int (fun _ _ => rfl)) de_int (nomark _)) (dss_cons (ds_set (i := 2) sc_law_draw.nd rfl (Or.inl rfl) (de_bin op_mod od_mod (de_callTy call_intA cd_int rfl T.n_int bt_int (da_cons (de_ix (dv 0) de_int (fun _ _ => rfl)) da_nil)) (dv 1))) (dss_cons (ds_sub (de_bin op_fdivA od_fdiv (de_ix (dv 0) de_int (fun _ _ => rfl)) (dv 1)) (dv 0) de_int) (dss_one (ds_ret (dv 2))))) dss_nil) (dss_cons (ds_sub (de_bin op_addA (od_add (o := false)) (de_ix (dv 0) de_int (fun _ _ => rfl)) de_int) (dv 0) de_int) (dss_cons (ds_set (i := 3) sc_law_draw.nd rfl (Or.inl rfl) (de_bin op_mod od_mod (de_callTy call_intA cd_int rfl T.n_int bt_int (da_cons (de_bin op_addA (od_add (o := false)) (de_bin op_mulA od_mul (de_ix (dv 0) de_int (fun _ _ => rfl)) de_int) (de_bin op_mulA od_mul (de_ix (dv 0) de_int (fun _ _ => rfl)) de_int)) da_nil)) de_int)) (dss_cons (ds_set (i := 3) sc_law_draw.nd rfl (Or.inl rfl) (de_bin op_mod od_mod (de_callTy call_intA cd_int rfl T.n_int bt_int (da_cons (de_bin op_addA (od_add (o := false)) (de_bin op_mulA od_mul (dv 3) (dv 3)) (de_ix (dv 0) de_int (fun _ _ => rfl))) da_nil)) de_int)) (dss_cons (ds_set (i := 3) sc_law_draw.nd rfl (Or.inl rfl) (de_bin op_mod od_mod (de_callTy call_intA cd_int rfl T.n_int bt_int (da_cons (de_bin op_mulA od_mul (dv 3) de_int) da_nil)) de_int)) (dss_one (ds_ret (de_bin op_mod od_mod (de_callTy call_intA cd_int rfl T.n_int bt_int (da_cons (de_bin op_fdivA od_fdiv (dv 3) de_int) da_nil)) (dv 1)))))))))
def t_law_power (K : PySem.W.Frag) : DS := (sSeq (sAsg (eC (.int 1)) 2) (sSeq (sFor (iR1 (aCons (eV 1) aNil)) (.one 3) (sAsg (eBin (qMul) (eV 2) (eV 0)) 2)) (sRet (eV 2))))
theorem d_law_power (T : Txt K mg) : ∀ (cdv : Value) (A : Around) (outer : List Env) (s : Shared) (H : Hp) (E : XK) (B : Bs), Room 1 (A.deeper (envOfC "_law_power" (defScope s_law_power) s.heap.objs.size (He.ga K "_law_power") cdv)) → PSs (cx0 P w K mg base N_law_power "_law_power" (defScope s_law_power) (He.ga K "_law_power") cdv A outer s H E) (defBody s_law_power) (lS K B (t_law_power K)) := by
  intro cdv A outer s H E B hr
  exact (dss_cons (ds_set (i := 2) sc_law_power.nd rfl (Or.inl rfl) de_int) (dss_cons (ds_for (tg := (.one 3)) PassesOwn.never rfl (di_range1 rfl T.n_range (da_cons (dv 1) da_nil)) (pg_name (i := 3) sc_law_power.nd rfl (Or.inl rfl)) (dss_one (ds_set (i := 2) sc_law_power.nd rfl (Or.inl rfl) (de_bin op_mulA od_mul (dv 2) (dv 0))))) (dss_one (ds_ret (dv 2)))))
def t_law_rows (K : PySem.W.Frag) : DS := (sRet (eBin (qAdd false) (eC (.int 1)) (eCall (sp_law_draw K) (aCons (eV 0) (aCons (eCB qLen (aCons (eLc false (iR2 (aCons (eC (.int 1)) (aCons (eC (.int 5)) aNil))) (.one 2) (eTest (eBin qLe (eCall (sp_law_power K) (aCons (eV 1) (aCons (eV 2) aNil))) (eC (.int 1000)))) (eV 2) [2]) aNil)) aNil)))))
theorem d_law_rows (T : Txt K mg) (G_law_draw : Good P w K mg base 2 (He.ga K "_law_draw") ["deck", "many"] (sp_law_draw K)) (G_law_power : Good P w K mg base 2 (He.ga K "_law_power") ["base", "many"] (sp_law_power K)) : ∀ (cdv : Value) (A : Around) (outer : List Env) (s : Shared) (H : Hp) (E : XK) (B : Bs), Room 4 (A.deeper (envOfC "_law_rows" (defScope s_law_rows) s.heap.objs.size (He.ga K "_law_rows") cdv)) → PSs (cx0 P w K mg base N_law_rows "_law_rows" (defScope s_law_rows) (He.ga K "_law_rows") cdv A outer s H E) (defBody s_law_rows) (lS K B (t_law_rows K)) := by
  intro cdv A outer s H E B hr
  exact (dss_one (ds_ret (de_bin op_addA (od_add (o := false)) de_int (de_callG G_law_draw (hr.mono (by decide)) T.g_law_draw (da_cons (dv 0) (da_cons (de_callB call_lenA cd_len rfl T.n_len bt_len (da_cons (de_lc (o := false) (own := [("rows", 2)]) (tg := (.one 2)) rfl sc_law_rows.nd (di_range2 rfl T.n_range (da_cons de_int (da_cons de_int da_nil))) (blkOk_by (own := [("rows", 2)]) (N := N_law_rows) (sc := defScope s_law_rows) (by decide +kernel)) (by decide) (fun _ _ _ _ _ => (pg_name (i := 2) sc_law_rows.nd rfl (Or.inl rfl))) (fun _ _ _ _ _ => (dts_one (dt_cmp op_le od_le (de_callG G_law_power (hr.mono (by decide)) T.g_law_power (da_cons (dv 1) (da_cons (dv 2) da_nil))) de_int (nomark _)))) (fun _ _ _ _ _ => (dv 2))) da_nil)) da_nil))))))
def t_law_all_deeds (K : PySem.W.Frag) : DS := (sSeq (sAsg (eBin (qAdd false) (eLst false (aCons (eTup (aCons (eC (.str "forget")) aNil)) (aCons (eTup (aCons (eC (.str "again")) aNil)) aNil))) (eLc false (iR2 (aCons (eC (.int 1)) (aCons (eV 0) aNil))) (.one 4) dYes (eTup (aCons (eC (.str "off")) (aCons (eV 4) aNil))) [4])) 2) (sSeq (sFor (iR1 (aCons (eV 1) aNil)) (.one 3) (sAsg (eBin (qAdd false) (eV 2) (eLc false (iR2 (aCons (eC (.int 1)) (aCons (eV 0) aNil))) (.one 4) dYes (eTup (aCons (eC (.str "read")) (aCons (eV 3) (aCons (eV 4) aNil)))) [4])) 2)) (sRet (eBin (qAdd false) (eBin (qAdd false) (eV 2) (eLc false (iR1 (aCons (eV 1) aNil)) (.one 3) dYes (eTup (aCons (eC (.str "copy")) (aCons (eV 3) aNil))) [3])) (eLst false (aCons (eTup (aCons (eC (.str "swap")) aNil)) (aCons (eTup (aCons (eC (.str "out")) aNil)) (aCons (eTup (aCons (eC (.str "twice")) aNil)) aNil))))))))
theorem d_law_all_deeds (T : Txt K mg) : ∀ (cdv : Value) (A : Around) (outer : List Env) (s : Shared) (H : Hp) (E : XK) (B : Bs), Room 1 (A.deeper (envOfC "_law_all_deeds" (defScope s_law_all_deeds) s.heap.objs.size (He.ga K "_law_all_deeds") cdv)) → PSs (cx0 P w K mg base N_law_all_deeds "_law_all_deeds" (defScope s_law_all_deeds) (He.ga K "_law_all_deeds") cdv A outer s H E) (defBody s_law_all_deeds) (lS K B (t_law_all_deeds K)) := by
  intro cdv A outer s H E B hr
  exact (dss_cons (ds_set (i := 2) sc_law_all_deeds.nd rfl (Or.inl rfl) (de_bin op_addA (od_add (o := false)) (de_lst (o := false) (da_cons (de_tup (da_cons de_str da_nil)) (da_cons (de_tup (da_cons de_str da_nil)) da_nil))) (de_lc (o := false) (own := [("d", 4)]) (tg := (.one 4)) rfl sc_law_all_deeds.nd (di_range2 rfl T.n_range (da_cons de_int (da_cons (dv 0) da_nil))) (blkOk_by (own := [("d", 4)]) (N := N_law_all_deeds) (sc := defScope s_law_all_deeds) (by decide +kernel)) (by decide) (fun _ _ _ _ _ => (pg_name (i := 4) sc_law_all_deeds.nd rfl (Or.inl rfl))) (fun _ _ _ _ _ => dts_nil) (fun _ _ _ _ _ => (de_tup (da_cons de_str (da_cons (dv 4) da_nil))))))) (dss_cons (ds_for (tg := (.one 3)) PassesOwn.never rfl (di_range1 rfl T.n_range (da_cons (dv 1) da_nil)) (pg_name (i := 3) sc_law_all_deeds.nd rfl (Or.inr rfl)) (dss_one (ds_set (i := 2) sc_law_all_deeds.nd rfl (Or.inl rfl) (de_bin op_addA (od_add (o := false)) (dv 2) (de_lc (o := false) (own := [("d", 4)]) (tg := (.one 4)) rfl sc_law_all_deeds.nd (di_range2 rfl T.n_range (da_cons de_int (da_cons (dv 0) da_nil))) (blkOk_by (own := [("d", 4)]) (N := N_law_all_deeds) (sc := defScope s_law_all_deeds) (by decide +kernel)) (by decide) (fun _ _ _ _ _ => (pg_name (i := 4) sc_law_all_deeds.nd rfl (Or.inl rfl))) (fun _ _ _ _ _ => dts_nil) (fun _ _ _ _ _ => (de_tup (da_cons de_str (da_cons (dv 3) (da_cons (dv 4) da_nil)))))))))) (dss_one (ds_ret (de_bin op_addA (od_add (o := false)) (de_bin op_addA (od_add (o := false)) (dv 2) (de_lc (o := false) (own := [("j", 3)]) (tg := (.one 3)) rfl sc_law_all_deeds.nd (di_range1 rfl T.n_range (da_cons (dv 1) da_nil)) (blkOk_by (own := [("j", 3)]) (N := N_law_all_deeds) (sc := defScope s_law_all_deeds) (by decide +kernel)) (by decide) (fun _ _ _ _ _ => (pg_name (i := 3) sc_law_all_deeds.nd rfl (Or.inl rfl))) (fun _ _ _ _ _ => dts_nil) (fun _ _ _ _ _ => (de_tup (da_cons de_str (da_cons (dv 3) da_nil)))))) (de_lst (o := false) (da_cons (de_tup (da_cons de_str da_nil)) (da_cons (de_tup (da_cons de_str da_nil)) (da_cons (de_tup (da_cons de_str da_nil)) da_nil)))))))))
def t_law_some (K : PySem.W.Frag) : DS := (sSeq (sAsg (eCB (qList true) (aCons (eV 1) aNil)) 3) (sSeq (sAsg (eLst true aNil) 4) (sSeq (sFor (iR1 (aCons (eV 2) aNil)) (.one 5) (sDrop (eBM qApp (eV 4) (aCons (eBM qPopI (eV 3) (aCons (eCall (sp_law_draw K) (aCons (eV 0) (aCons (eCB qLen (aCons (eV 3) aNil)) aNil))) aNil)) aNil)))) (sRet (eV 4)))))
theorem d_law_some (T : Txt K mg) (G_law_draw : Good P w K mg base 2 (He.ga K "_law_draw") ["deck", "many"] (sp_law_draw K)) : ∀ (cdv : Value) (A : Around) (outer : List Env) (s : Shared) (H : Hp) (E : XK) (B : Bs), Room 4 (A.deeper (envOfC "_law_some" (defScope s_law_some) s.heap.objs.size (He.ga K "_law_some") cdv)) → PSs (cx0 P w K mg base N_law_some "_law_some" (defScope s_law_some) (He.ga K "_law_some") cdv A outer s H E) (defBody s_law_some) (lS K B (t_law_some K)) := by
  intro cdv A outer s H E B hr
  exact (dss_cons (ds_set (i := 3) sc_law_some.nd rfl (Or.inl rfl) (de_callTy call_listA (cd_list (o := true)) rfl T.n_list bt_list (da_cons (dv 1) da_nil))) (dss_cons (ds_set (i := 4) sc_law_some.nd rfl (Or.inl rfl) (de_lst (o := true) da_nil)) (dss_cons (ds_for (tg := (.one 5)) PassesOwn.never rfl (di_range1 rfl T.n_range (da_cons (dv 2) da_nil)) (pg_name (i := 5) sc_law_some.nd rfl (Or.inl rfl)) (dss_one (ds_expr (de_bm PySem.F.plainAttrs_list PySem.F.slot_list_append PySem.F.type_list_append mt_append md_app (dv 4) (da_cons (de_bm PySem.F.plainAttrs_list PySem.F.slot_list_pop PySem.F.type_list_pop mt_popAt md_popI (dv 3) (da_cons (de_callG G_law_draw (hr.mono (by decide)) T.g_law_draw (da_cons (dv 0) (da_cons (de_callB call_lenA cd_len rfl T.n_len bt_len (da_cons (dv 3) da_nil)) da_nil))) da_nil)) da_nil))))) (dss_one (ds_ret (dv 4))))))
def t_is_integer (K : PySem.W.Frag) : DS := (sRet (eAnd (eCB qIsi (aCons (eV 0) (aCons (eC (.raw (.ty "int"))) aNil))) (eNot (eCB qIsi (aCons (eV 0) (aCons (eC (.raw (.ty "bool"))) aNil))))))
theorem d_is_integer (T : Txt K mg) : ∀ (cdv : Value) (A : Around) (outer : List Env) (s : Shared) (H : Hp) (E : XK) (B : Bs), Room 1 (A.deeper (envOfC "is_integer" (defScope s_is_integer) s.heap.objs.size (He.ga K "is_integer") cdv)) → PSs (cx0 P w K mg base N_is_integer "is_integer" (defScope s_is_integer) (He.ga K "is_integer") cdv A outer s H E) (defBody s_is_integer) (lS K B (t_is_integer K)) := by
  intro cdv A outer s H E B hr
  exact (dss_one (ds_ret (de_and (de_callB call_isi cd_isi rfl T.n_isinstance bt_isinstance (da_cons (dv 0) (da_cons (de_ty rfl T.n_int bt_int) da_nil))) (de_one (de_not (de_callB call_isi cd_isi rfl T.n_isinstance bt_isinstance (da_cons (dv 0) (da_cons (de_ty rfl T.n_bool bt_bool) da_nil))))))))
def t_number_of_columns (K : PySem.W.Frag) : DS := (sSeq (sAsg (eC (.int 1)) 2) (sSeq (sFor (iR1 (aCons (eV 1) aNil)) (.one 3) (sAsg (eBin (qMul) (eV 2) (eV 0)) 2)) (sRet (eV 2))))
theorem d_number_of_columns (T : Txt K mg) : ∀ (cdv : Value) (A : Around) (outer : List Env) (s : Shared) (H : Hp) (E : XK) (B : Bs), Room 1 (A.deeper (envOfC "number_of_columns" (defScope s_number_of_columns) s.heap.objs.size (He.ga K "number_of_columns") cdv)) → PSs (cx0 P w K mg base N_number_of_columns "number_of_columns" (defScope s_number_of_columns) (He.ga K "number_of_columns") cdv A outer s H E) (defBody s_number_of_columns) (lS K B (t_number_of_columns K)) := by
  intro cdv A outer s H E B hr
  exact (dss_cons (ds_set (i := 2) sc_number_of_columns.nd rfl (Or.inl rfl) de_int) (dss_cons (ds_for (tg := (.one 3)) PassesOwn.never rfl (di_range1 rfl T.n_range (da_cons (dv 1) da_nil)) (pg_name (i := 3) sc_number_of_columns.nd rfl (Or.inl rfl)) (dss_one (ds_set (i := 2) sc_number_of_columns.nd rfl (Or.inl rfl) (de_bin op_mulA od_mul (dv 2) (dv 0))))) (dss_one (ds_ret (dv 2)))))
def t_is_deed (K : PySem.W.Frag) : DS := (sSeq (sIf (dOr (dNot (eTru (eCB qIsi (aCons (eV 0) (aCons (eC (.raw (.ty "tuple"))) aNil))))) (dOr (eTest (eBin qEq (eCB qLen (aCons (eV 0) aNil)) (eC (.int 0)))) (dNot (eTru (eCB qIsi (aCons (eBin qIx (eV 0) (eC (.int 0))) (aCons (eC (.raw (.ty "str"))) aNil))))))) (sRet (eC (.bl false))) sNext) (sSeq (sIf (dNot (eTru (eCB qAll (aCons (eLc false (iS (eSl false (eV 0) (oSome (eC (.int 1))) oNone)) (.one 4) dYes (eCall (sp_is_integer K) (aCons (eV 4) aNil)) [4]) aNil)))) (sRet (eC (.bl false))) sNext) (sSeq (sAsg (eBin qIx (eV 0) (eC (.int 0))) 3) (sSeq (sIf (eTest (eBin (qIn false) (eV 3) (eC (.tup [.str "forget", .str "again", .str "swap", .str "out", .str "twice"])))) (sRet (eBin qEq (eCB qLen (aCons (eV 0) aNil)) (eC (.int 1)))) sNext) (sSeq (sIf (eTest (eBin qEq (eV 3) (eC (.str "off")))) (sRet (eAnd (eBin qEq (eCB qLen (aCons (eV 0) aNil)) (eC (.int 2))) (eChain qLe qLt (eC (.int 1)) (eBin qIx (eV 0) (eC (.int 1))) (eV 1)))) sNext) (sSeq (sIf (eTest (eBin qEq (eV 3) (eC (.str "copy")))) (sRet (eAnd (eBin qEq (eCB qLen (aCons (eV 0) aNil)) (eC (.int 2))) (eChain qLe qLt (eC (.int 0)) (eBin qIx (eV 0) (eC (.int 1))) (eV 2)))) sNext) (sRet (eAnd (eBin qEq (eV 3) (eC (.str "read"))) (eAnd (eBin qEq (eCB qLen (aCons (eV 0) aNil)) (eC (.int 3))) (eAnd (eChain qLe qLt (eC (.int 0)) (eBin qIx (eV 0) (eC (.int 1))) (eV 2)) (eChain qLe qLt (eC (.int 1)) (eBin qIx (eV 0) (eC (.int 2))) (eV 1))))))))))))
theorem d_is_deed (T : Txt K mg) (G_is_integer : Good P w K mg base 2 (He.ga K "is_integer") ["value"] (sp_is_integer K)) : ∀ (cdv : Value) (A : Around) (outer : List Env) (s : Shared) (H : Hp) (E : XK) (B : Bs), Room 4 (A.deeper (envOfC "is_deed" (defScope s_is_deed) s.heap.objs.size (He.ga K "is_deed") cdv)) → PSs (cx0 P w K mg base N_is_deed "is_deed" (defScope s_is_deed) (He.ga K "is_deed") cdv A outer s H E) (defBody s_is_deed) (lS K B (t_is_deed K)) := by
  intro cdv A outer s H E B hr
  exact (dss_cons (ds_if (PW.pt (dw_or (dt_not (dt_tru (de_callB call_isi cd_isi rfl T.n_isinstance bt_isinstance (da_cons (dv 0) (da_cons (de_ty rfl T.n_tuple bt_tuple) da_nil))))) (dw_or (dt_cmp (op_eqD hr.units) od_eq (de_callB call_lenA cd_len rfl T.n_len bt_len (da_cons (dv 0) da_nil)) de_int (nomark _)) (dw_or1 (dt_not (dt_tru (de_callB call_isi cd_isi rfl T.n_isinstance bt_isinstance (da_cons (de_ix (dv 0) de_int (fun _ _ => rfl)) (da_cons (de_ty rfl T.n_str bt_str) da_nil))))))))) (dss_one (ds_ret de_bl)) dss_nil) (dss_cons (ds_if (dt_not (dt_tru (de_callB (cr_all rfl) cd_all rfl T.n_all bt_all (da_cons (de_lc (o := false) (own := [("part", 4)]) (tg := (.one 4)) rfl sc_is_deed.nd (di_any (de_slice (o := false) (dv 0) (do_some de_int) do_none)) (blkOk_by (own := [("part", 4)]) (N := N_is_deed) (sc := defScope s_is_deed) (by decide +kernel)) (by decide) (fun _ _ _ _ _ => (pg_name (i := 4) sc_is_deed.nd rfl (Or.inl rfl))) (fun _ _ _ _ _ => dts_nil) (fun _ _ _ _ _ => (de_callG G_is_integer (hr.mono (by decide)) T.g_is_integer (da_cons (dv 4) da_nil)))) da_nil)))) (dss_one (ds_ret de_bl)) dss_nil) (dss_cons (ds_set (i := 3) sc_is_deed.nd rfl (Or.inl rfl) (de_ix (dv 0) de_int (fun _ _ => rfl))) (dss_cons (ds_if (dt_cmp (op_inA (units5 hr)) od_in (dv 3) (de_tupG rfl T.g_PLAIN T.tg_PLAIN (fun _ => (.cons (.str _) (.cons (.str _) (.cons (.str _) (.cons (.str _) (.cons (.str _) .nil))))))) rfl) (dss_one (ds_ret (de_cmp (op_eqD hr.units) od_eq (de_callB call_lenA cd_len rfl T.n_len bt_len (da_cons (dv 0) da_nil)) de_int (nomark _)))) dss_nil) (dss_cons (ds_if (dt_cmp (op_eqD hr.units) od_eq (dv 3) de_str (nomark _)) (dss_one (ds_ret (de_and (de_cmp (op_eqD hr.units) od_eq (de_callB call_lenA cd_len rfl T.n_len bt_len (da_cons (dv 0) da_nil)) de_int (nomark _)) (de_one (de_chain op_le op_lt od_le od_lt de_int (de_ix (dv 0) de_int (fun _ _ => rfl)) (dv 1)))))) dss_nil) (dss_cons (ds_if (dt_cmp (op_eqD hr.units) od_eq (dv 3) de_str (nomark _)) (dss_one (ds_ret (de_and (de_cmp (op_eqD hr.units) od_eq (de_callB call_lenA cd_len rfl T.n_len bt_len (da_cons (dv 0) da_nil)) de_int (nomark _)) (de_one (de_chain op_le op_lt od_le od_lt de_int (de_ix (dv 0) de_int (fun _ _ => rfl)) (dv 2)))))) dss_nil) (dss_one (ds_ret (de_and (de_cmp (op_eqD hr.units) od_eq (dv 3) de_str (nomark _)) (de_and (de_cmp (op_eqD hr.units) od_eq (de_callB call_lenA cd_len rfl T.n_len bt_len (da_cons (dv 0) da_nil)) de_int (nomark _)) (de_and (de_chain op_le op_lt od_le od_lt de_int (de_ix (dv 0) de_int (fun _ _ => rfl)) (dv 2)) (de_one (de_chain op_le op_lt od_le od_lt de_int (de_ix (dv 0) de_int (fun _ _ => rfl)) (dv 1))))))))))))))
def t_all_deeds (K : PySem.W.Frag) : DS := (sSeq (sAsg (eLst false (aCons (eTup (aCons (eC (.str "forget")) aNil)) (aCons (eTup (aCons (eC (.str "again")) aNil)) aNil))) 2) (sSeq (sAsg (eBin (qAdd false) (eV 2) (eLc false (iR2 (aCons (eC (.int 1)) (aCons (eV 0) aNil))) (.one 3) dYes (eTup (aCons (eC (.str "off")) (aCons (eV 3) aNil))) [3])) 2) (sSeq (sAsg (eBin (qAdd false) (eV 2) (eLc2 false (iR1 (aCons (eV 1) aNil)) (.one 4) dYes (iR2 (aCons (eC (.int 1)) (aCons (eV 0) aNil))) (.one 3) dYes (eTup (aCons (eC (.str "read")) (aCons (eV 4) (aCons (eV 3) aNil)))) [4, 3] [3])) 2) (sSeq (sAsg (eBin (qAdd false) (eV 2) (eLc false (iR1 (aCons (eV 1) aNil)) (.one 4) dYes (eTup (aCons (eC (.str "copy")) (aCons (eV 4) aNil))) [4])) 2) (sRet (eBin (qAdd false) (eV 2) (eLst false (aCons (eTup (aCons (eC (.str "swap")) aNil)) (aCons (eTup (aCons (eC (.str "out")) aNil)) (aCons (eTup (aCons (eC (.str "twice")) aNil)) aNil))))))))))
theorem d_all_deeds (T : Txt K mg) : ∀ (cdv : Value) (A : Around) (outer : List Env) (s : Shared) (H : Hp) (E : XK) (B : Bs), Room 1 (A.deeper (envOfC "all_deeds" (defScope s_all_deeds) s.heap.objs.size (He.ga K "all_deeds") cdv)) → PSs (cx0 P w K mg base N_all_deeds "all_deeds" (defScope s_all_deeds) (He.ga K "all_deeds") cdv A outer s H E) (defBody s_all_deeds) (lS K B (t_all_deeds K)) := by
  intro cdv A outer s H E B hr
  exact (dss_cons (ds_set (i := 2) sc_all_deeds.nd rfl (Or.inl rfl) (de_lst (o := false) (da_cons (de_tup (da_cons de_str da_nil)) (da_cons (de_tup (da_cons de_str da_nil)) da_nil)))) (dss_cons (ds_set (i := 2) sc_all_deeds.nd rfl (Or.inl rfl) (de_bin op_addA (od_add (o := false)) (dv 2) (de_lc (o := false) (own := [("d", 3)]) (tg := (.one 3)) rfl sc_all_deeds.nd (di_range2 rfl T.n_range (da_cons de_int (da_cons (dv 0) da_nil))) (blkOk_by (own := [("d", 3)]) (N := N_all_deeds) (sc := defScope s_all_deeds) (by decide +kernel)) (by decide) (fun _ _ _ _ _ => (pg_name (i := 3) sc_all_deeds.nd rfl (Or.inl rfl))) (fun _ _ _ _ _ => dts_nil) (fun _ _ _ _ _ => (de_tup (da_cons de_str (da_cons (dv 3) da_nil))))))) (dss_cons (ds_set (i := 2) sc_all_deeds.nd rfl (Or.inl rfl) (de_bin op_addA (od_add (o := false)) (dv 2) (de_lc2 (o := false) (own := [("j", 4), ("d", 3)]) (tg := (.one 4)) (tg1 := (.one 3)) (vs1 := [3]) rfl sc_all_deeds.nd (di_range1 rfl T.n_range (da_cons (dv 1) da_nil)) (blkOk_by (own := [("j", 4), ("d", 3)]) (N := N_all_deeds) (sc := defScope s_all_deeds) (by decide +kernel)) (by decide) (by decide) (by decide) (fun _ _ _ _ _ => (pg_name (i := 4) sc_all_deeds.nd rfl (Or.inl rfl))) (fun _ _ _ _ _ => dts_nil) (fun _ _ _ _ _ => (di_range2 rfl T.n_range (da_cons de_int (da_cons (dv 0) da_nil)))) (fun _ _ _ _ _ => (pg_name (i := 3) sc_all_deeds.nd rfl (Or.inl rfl))) (fun _ _ _ _ _ => dts_nil) (fun _ _ _ _ _ => (de_tup (da_cons de_str (da_cons (dv 4) (da_cons (dv 3) da_nil)))))))) (dss_cons (ds_set (i := 2) sc_all_deeds.nd rfl (Or.inl rfl) (de_bin op_addA (od_add (o := false)) (dv 2) (de_lc (o := false) (own := [("j", 4)]) (tg := (.one 4)) rfl sc_all_deeds.nd (di_range1 rfl T.n_range (da_cons (dv 1) da_nil)) (blkOk_by (own := [("j", 4)]) (N := N_all_deeds) (sc := defScope s_all_deeds) (by decide +kernel)) (by decide) (fun _ _ _ _ _ => (pg_name (i := 4) sc_all_deeds.nd rfl (Or.inl rfl))) (fun _ _ _ _ _ => dts_nil) (fun _ _ _ _ _ => (de_tup (da_cons de_str (da_cons (dv 4) da_nil))))))) (dss_one (ds_ret (de_bin op_addA (od_add (o := false)) (dv 2) (de_lst (o := false) (da_cons (de_tup (da_cons de_str da_nil)) (da_cons (de_tup (da_cons de_str da_nil)) (da_cons (de_tup (da_cons de_str da_nil)) da_nil)))))))))))
def t_Kind_init (K : PySem.W.Frag) : DS := (sSeq (sIf (dOr (dNot (eTru (eCall (sp_is_integer K) (aCons (eV 1) aNil)))) (dNot (eTest (eChain qLe qLe (eC (.int 2)) (eV 1) (eC (.int 12)))))) sNever sNext) (sSeq (sIf (dOr (dNot (eTru (eCall (sp_is_integer K) (aCons (eV 2) aNil)))) (dNot (eTest (eChain qLe qLe (eC (.int 1)) (eV 2) (eC (.int 4)))))) sNever sNext) (sSeq (sIf (eTest (eBin qGt (eCall (sp_number_of_columns K) (aCons (eV 1) (aCons (eV 2) aNil))) (eC (.int 1000)))) sNever sNext) (sSeq (sIf (dOr (dNot (eTru (eCB qIsi (aCons (eV 3) (aCons (eC (.raw (.ty "list"))) aNil))))) (dNot (eTru (eCB qAll (aCons (eLc false (iS (eV 3)) (.one 6) dYes (eCall (sp_is_deed K) (aCons (eV 6) (aCons (eV 1) (aCons (eV 2) aNil)))) [6]) aNil))))) sNever sNext) (sSeq (sAsg (eLc false (iS (eCall (sp_all_deeds K) (aCons (eV 1) (aCons (eV 2) aNil)))) (.one 6) (eTest (eBin (qIn false) (eV 6) (eV 3))) (eV 6) [6]) 5) (sSeq (sIf (dOr (eTest (eBin qNe (eCB qLen (aCons (eV 5) aNil)) (eCB qLen (aCons (eV 3) aNil)))) (dNot (eTest (eChain qLe qLe (eC (.int 1)) (eCB qLen (aCons (eV 5) aNil)) (eC (.int 8)))))) sNever sNext) (sSeq (sIf (dOr (dNot (eTru (eCall (sp_is_integer K) (aCons (eV 4) aNil)))) (dNot (eTest (eChain qLe qLe (eC (.int 1)) (eV 4) (eC (.int 3)))))) sNever sNext) (sSeq (sFldD (He.ga K "Kind") "held_base" (eV 0) (eV 1)) (sSeq (sFldD (He.ga K "Kind") "held_rows" (eV 0) (eV 2)) (sSeq (sFldD (He.ga K "Kind") "held_deeds" (eV 0) (eV 5)) (sFldD (He.ga K "Kind") "held_most" (eV 0) (eV 4))))))))))))
theorem d_Kind_init (T : Txt K mg) (G_is_integer : Good P w K mg base 2 (He.ga K "is_integer") ["value"] (sp_is_integer K)) (G_number_of_columns : Good P w K mg base 2 (He.ga K "number_of_columns") ["base", "rows"] (sp_number_of_columns K)) (G_is_deed : Good P w K mg base 5 (He.ga K "is_deed") ["value", "base", "rows"] (sp_is_deed K)) (G_all_deeds : Good P w K mg base 2 (He.ga K "all_deeds") ["base", "rows"] (sp_all_deeds K)) : ∀ (cdv : Value) (A : Around) (outer : List Env) (s : Shared) (H : Hp) (E : XK) (B : Bs), Room 7 (A.deeper (envOfC "Kind.__init__" (defScope s_Kind_init) s.heap.objs.size (He.ma K (He.ga K "Kind") "__init__") cdv)) → PSs (cx0 P w K mg base N_Kind_init "Kind.__init__" (defScope s_Kind_init) (He.ma K (He.ga K "Kind") "__init__") cdv A outer s H E) (defBody s_Kind_init) (lS K B (t_Kind_init K)) := by
  intro cdv A outer s H E B hr
  exact (dss_cons (ds_if (PW.pt (dw_or (dt_not (dt_tru (de_callG G_is_integer (hr.mono (by decide)) T.g_is_integer (da_cons (dv 1) da_nil)))) (dw_or1 (dt_not (dt_chain op_le op_le od_le od_le de_int (dv 1) de_int))))) (dss_one ds_never) dss_nil) (dss_cons (ds_if (PW.pt (dw_or (dt_not (dt_tru (de_callG G_is_integer (hr.mono (by decide)) T.g_is_integer (da_cons (dv 2) da_nil)))) (dw_or1 (dt_not (dt_chain op_le op_le od_le od_le de_int (dv 2) de_int))))) (dss_one ds_never) dss_nil) (dss_cons (ds_if (dt_cmp op_gt od_gt (de_callG G_number_of_columns (hr.mono (by decide)) T.g_number_of_columns (da_cons (dv 1) (da_cons (dv 2) da_nil))) (de_intG rfl T.ig_MOST_COLUMNS) (nomark _)) (dss_one ds_never) dss_nil) (dss_cons (ds_if (PW.pt (dw_or (dt_not (dt_tru (de_callB call_isi cd_isi rfl T.n_isinstance bt_isinstance (da_cons (dv 3) (da_cons (de_ty rfl T.n_list bt_list) da_nil))))) (dw_or1 (dt_not (dt_tru (de_callB (cr_all rfl) cd_all rfl T.n_all bt_all (da_cons (de_lc (o := false) (own := [("deed", 6)]) (tg := (.one 6)) rfl sc_Kind_init.nd (di_any (dv 3)) (blkOk_by (own := [("deed", 6)]) (N := N_Kind_init) (sc := defScope s_Kind_init) (by decide +kernel)) (by decide) (fun _ _ _ _ _ => (pg_name (i := 6) sc_Kind_init.nd rfl (Or.inl rfl))) (fun _ _ _ _ _ => dts_nil) (fun _ _ _ _ _ => (de_callG G_is_deed (hr.mono (by decide)) T.g_is_deed (da_cons (dv 6) (da_cons (dv 1) (da_cons (dv 2) da_nil)))))) da_nil))))))) (dss_one ds_never) dss_nil) (dss_cons (ds_setLc (o := false) (i := 5) (own := [("deed", 6)]) (tg := (.one 6)) rfl sc_Kind_init.nd rfl rfl (sw_true rfl rfl rfl (by decide +kernel)) (di_any (de_callG G_all_deeds (hr.mono (by decide)) T.g_all_deeds (da_cons (dv 1) (da_cons (dv 2) da_nil)))) (blkOk_by (own := [("deed", 6)]) (N := N_Kind_init) (sc := defScope s_Kind_init) (by decide +kernel)) (by decide) (fun _ _ _ _ _ => (pg_name (i := 6) sc_Kind_init.nd rfl (Or.inl rfl))) (fun _ _ _ _ _ => (dts_one (dt_cmp (op_inA (units5 hr)) od_in (dv 6) (dv 3) rfl))) (fun _ _ _ _ _ => (dv 6))) (dss_cons (ds_if (PW.pt (dw_or (dt_cmp (op_neD hr.units) od_ne (de_callB call_lenA cd_len rfl T.n_len bt_len (da_cons (dv 5) da_nil)) (de_callB call_lenA cd_len rfl T.n_len bt_len (da_cons (dv 3) da_nil)) (nomark _)) (dw_or1 (dt_not (dt_chain op_le op_le od_le od_le de_int (de_callB call_lenA cd_len rfl T.n_len bt_len (da_cons (dv 5) da_nil)) (de_intG rfl T.ig_MOST_DEEDS)))))) (dss_one ds_never) dss_nil) (dss_cons (ds_if (PW.pt (dw_or (dt_not (dt_tru (de_callG G_is_integer (hr.mono (by decide)) T.g_is_integer (da_cons (dv 4) da_nil)))) (dw_or1 (dt_not (dt_chain op_le op_le od_le od_le de_int (dv 4) de_int))))) (dss_one ds_never) dss_nil) (dss_cons (ds_fld T.c_Kind T.na_Kind_held_base (dv 0) (dv 1)) (dss_cons (ds_fld T.c_Kind T.na_Kind_held_rows (dv 0) (dv 2)) (dss_cons (ds_fld T.c_Kind T.na_Kind_held_deeds (dv 0) (dv 5)) (dss_one (ds_fld T.c_Kind T.na_Kind_held_most (dv 0) (dv 4)))))))))))))
def t_law_values (K : PySem.W.Frag) : DS := (sSeq (sAsg (eCall (sp_law_draw K) (aCons (eV 0) (aCons (eBin (qPow) (eC (.int 10)) (eC (.int 20))) aNil))) 3) (sSeq (sAsg (eBin (qAdd false) (eC (.int 1)) (eCall (sp_law_draw K) (aCons (eV 0) (aCons (eBin (qSub) (eV 1) (eC (.int 1))) aNil)))) 4) (sSeq (sAsg (eCall (sp_law_draw K) (aCons (eV 0) (aCons (eV 2) aNil))) 5) (sSeq (sAsg (eLst false (aCons (eTup (aCons (eC (.str "off")) (aCons (eV 4) aNil))) (aCons (eTup (aCons (eC (.str "off")) (aCons (eC (.int 0)) aNil))) (aCons (eTup (aCons (eC (.str "off")) (aCons (eV 1) aNil))) (aCons (eTup (aCons (eC (.str "off")) (aCons (eBin (qAdd false) (eV 1) (eV 3)) aNil))) (aCons (eTup (aCons (eC (.str "off")) (aCons (eNeg (eV 4)) aNil))) (aCons (eTup (aCons (eC (.str "off")) (aCons (eC (.bl true)) aNil))) (aCons (eTup (aCons (eC (.str "off")) (aCons (eCB qStr (aCons (eV 4) aNil)) aNil))) aNil)))))))) 6) (sSeq (sAsg (eBin (qAdd false) (eV 6) (eLst false (aCons (eTup (aCons (eC (.str "off")) aNil)) (aCons (eTup (aCons (eC (.str "off")) (aCons (eV 4) (aCons (eV 4) aNil)))) (aCons (eTup (aCons (eC (.str "read")) (aCons (eV 5) (aCons (eV 4) aNil)))) (aCons (eTup (aCons (eC (.str "read")) (aCons (eV 2) (aCons (eV 4) aNil)))) (aCons (eTup (aCons (eC (.str "read")) (aCons (eV 5) (aCons (eC (.int 0)) aNil)))) (aCons (eTup (aCons (eC (.str "read")) (aCons (eV 5) (aCons (eV 1) aNil)))) aNil)))))))) 6) (sSeq (sAsg (eBin (qAdd false) (eV 6) (eLst false (aCons (eTup (aCons (eC (.str "read")) (aCons (eV 5) (aCons (eC (.bl true)) aNil)))) (aCons (eTup (aCons (eC (.str "read")) (aCons (eC (.bl false)) (aCons (eV 4) aNil)))) (aCons (eTup (aCons (eC (.str "read")) (aCons (eV 4) aNil))) (aCons (eTup (aCons (eC (.str "read")) (aCons (eNeg (eC (.int 1))) (aCons (eV 4) aNil)))) (aCons (eTup (aCons (eC (.str "copy")) (aCons (eV 5) aNil))) (aCons (eTup (aCons (eC (.str "copy")) (aCons (eV 2) aNil))) aNil)))))))) 6) (sSeq (sAsg (eBin (qAdd false) (eV 6) (eLst false (aCons (eTup (aCons (eC (.str "copy")) (aCons (eC (.bl false)) aNil))) (aCons (eTup (aCons (eC (.str "copy")) (aCons (eC (.bl true)) aNil))) (aCons (eTup (aCons (eC (.str "copy")) aNil)) (aCons (eTup (aCons (eC (.str "copy")) (aCons (eNeg (eC (.int 1))) aNil))) (aCons (eTup (aCons (eC (.str "swap")) (aCons (eC (.int 0)) aNil))) (aCons (eTup (aCons (eC (.str "forget")) (aCons (eC .non) aNil))) (aCons (eTup aNil) (aCons (eC (.str "")) aNil)))))))))) 6) (sSeq (sAsg (eBin (qAdd false) (eV 6) (eLst false (aCons (eLst false (aCons (eC (.str "forget")) aNil)) (aCons (eC (.str "forget")) (aCons (eC (.str "out")) (aCons (eC .non) (aCons (eC (.int 0)) (aCons (eC (.bl true)) (aCons (eLst false (aCons (eC (.str "off")) (aCons (eV 4) aNil))) (aCons (eTup (aCons (eTup (aCons (eC (.str "out")) aNil)) aNil)) (aCons (eTup (aCons (eC (.int 0)) (aCons (eTup (aCons (eC (.str "out")) aNil)) aNil))) (aCons (eTup (aCons (eC (.str "OUT")) aNil)) aNil)))))))))))) 6) (sSeq (sAsg (eBin (qAdd false) (eV 6) (eLst false (aCons (eTup (aCons (eC (.str "off")) (aCons (eLst false (aCons (eV 4) aNil)) aNil))) (aCons (eTup (aCons (eC (.str "read")) (aCons (eLst false (aCons (eV 5) aNil)) (aCons (eV 4) aNil)))) (aCons (eTup (aCons (eC (.str "read")) (aCons (eV 5) (aCons (eNeg (eV 4)) aNil)))) (aCons (eTup (aCons (eC (.str "read")) (aCons (eV 5) (aCons (eBin (qAdd false) (eV 1) (eV 3)) aNil)))) (aCons (eTup (aCons (eC (.str "read")) (aCons (eV 5) (aCons (eV 4) (aCons (eV 4) aNil))))) aNil))))))) 6) (sSeq (sAsg (eBin (qAdd false) (eV 6) (eLst false (aCons (eTup (aCons (eC (.str "read")) (aCons (eCB qStr (aCons (eV 5) aNil)) (aCons (eV 4) aNil)))) (aCons (eTup (aCons (eC (.str "read")) (aCons (eV 5) (aCons (eCB qStr (aCons (eV 4) aNil)) aNil)))) (aCons (eTup (aCons (eC (.str "read")) (aCons (eBin (qAdd false) (eV 2) (eV 3)) (aCons (eV 4) aNil)))) (aCons (eTup (aCons (eC (.str "copy")) (aCons (eV 5) (aCons (eV 5) aNil)))) (aCons (eTup (aCons (eC (.str "copy")) (aCons (eCB qStr (aCons (eV 5) aNil)) aNil))) aNil))))))) 6) (sSeq (sAsg (eBin (qAdd false) (eV 6) (eLst false (aCons (eTup (aCons (eC (.str "copy")) (aCons (eBin (qAdd false) (eV 2) (eV 3)) aNil))) (aCons (eTup (aCons (eC (.str "again")) (aCons (eC (.int 0)) aNil))) (aCons (eTup (aCons (eC (.str "out")) (aCons (eC (.int 0)) aNil))) (aCons (eTup (aCons (eC (.str "twice")) (aCons (eC (.int 0)) aNil))) (aCons (eTup (aCons (eLst false (aCons (eC (.str "forget")) aNil)) aNil)) (aCons (eTup (aCons (eC (.str "off")) (aCons eDct aNil))) (aCons (eTup (aCons (eC (.str "read")) aNil)) aNil))))))))) 6) (sRet (eBin (qAdd false) (eV 6) (eLst false (aCons (eTup (aCons (eC (.str "forget")) (aCons (eC (.str "again")) aNil))) (aCons (eTup (aCons (eC (.str "twice")) (aCons (eC (.str "twice")) aNil))) (aCons (eTup (aCons (eC (.str "none")) aNil)) (aCons (eTup (aCons (eV 4) (aCons (eC (.str "off")) aNil))) (aCons (eLst false (aCons (eTup (aCons (eC (.str "swap")) aNil)) aNil)) (aCons (eTup (aCons (eC (.str "")) (aCons (eV 4) aNil))) (aCons (eTup (aCons (eC .non) aNil)) aNil)))))))))))))))))))))
theorem d_law_values (T : Txt K mg) (G_law_draw : Good P w K mg base 2 (He.ga K "_law_draw") ["deck", "many"] (sp_law_draw K)) : ∀ (cdv : Value) (A : Around) (outer : List Env) (s : Shared) (H : Hp) (E : XK) (B : Bs), Room 4 (A.deeper (envOfC "_law_values" (defScope s_law_values) s.heap.objs.size (He.ga K "_law_values") cdv)) → PSs (cx0 P w K mg base N_law_values "_law_values" (defScope s_law_values) (He.ga K "_law_values") cdv A outer s H E) (defBody s_law_values) (lS K B (t_law_values K)) := by
  intro cdv A outer s H E B hr
  exact (dss_cons (ds_set (i := 3) sc_law_values.nd rfl (Or.inl rfl) (de_callG G_law_draw (hr.mono (by decide)) T.g_law_draw (da_cons (dv 0) (da_cons (de_bin op_pow od_pow de_int de_int) da_nil)))) (dss_cons (ds_set (i := 4) sc_law_values.nd rfl (Or.inl rfl) (de_bin op_addA (od_add (o := false)) de_int (de_callG G_law_draw (hr.mono (by decide)) T.g_law_draw (da_cons (dv 0) (da_cons (de_bin op_sub od_sub (dv 1) de_int) da_nil))))) (dss_cons (ds_set (i := 5) sc_law_values.nd rfl (Or.inl rfl) (de_callG G_law_draw (hr.mono (by decide)) T.g_law_draw (da_cons (dv 0) (da_cons (dv 2) da_nil)))) (dss_cons (ds_set (i := 6) sc_law_values.nd rfl (Or.inl rfl) (de_lst (o := false) (da_cons (de_tup (da_cons de_str (da_cons (dv 4) da_nil))) (da_cons (de_tup (da_cons de_str (da_cons de_int da_nil))) (da_cons (de_tup (da_cons de_str (da_cons (dv 1) da_nil))) (da_cons (de_tup (da_cons de_str (da_cons (de_bin op_addA (od_add (o := false)) (dv 1) (dv 3)) da_nil))) (da_cons (de_tup (da_cons de_str (da_cons (de_neg (dv 4)) da_nil))) (da_cons (de_tup (da_cons de_str (da_cons de_bl da_nil))) (da_cons (de_tup (da_cons de_str (da_cons (de_callTy call_strA cd_str rfl T.n_str bt_str (da_cons (dv 4) da_nil)) da_nil))) da_nil))))))))) (dss_cons (ds_set (i := 6) sc_law_values.nd rfl (Or.inl rfl) (de_bin op_addA (od_add (o := false)) (dv 6) (de_lst (o := false) (da_cons (de_tup (da_cons de_str da_nil)) (da_cons (de_tup (da_cons de_str (da_cons (dv 4) (da_cons (dv 4) da_nil)))) (da_cons (de_tup (da_cons de_str (da_cons (dv 5) (da_cons (dv 4) da_nil)))) (da_cons (de_tup (da_cons de_str (da_cons (dv 2) (da_cons (dv 4) da_nil)))) (da_cons (de_tup (da_cons de_str (da_cons (dv 5) (da_cons de_int da_nil)))) (da_cons (de_tup (da_cons de_str (da_cons (dv 5) (da_cons (dv 1) da_nil)))) da_nil))))))))) (dss_cons (ds_set (i := 6) sc_law_values.nd rfl (Or.inl rfl) (de_bin op_addA (od_add (o := false)) (dv 6) (de_lst (o := false) (da_cons (de_tup (da_cons de_str (da_cons (dv 5) (da_cons de_bl da_nil)))) (da_cons (de_tup (da_cons de_str (da_cons de_bl (da_cons (dv 4) da_nil)))) (da_cons (de_tup (da_cons de_str (da_cons (dv 4) da_nil))) (da_cons (de_tup (da_cons de_str (da_cons (de_neg de_int) (da_cons (dv 4) da_nil)))) (da_cons (de_tup (da_cons de_str (da_cons (dv 5) da_nil))) (da_cons (de_tup (da_cons de_str (da_cons (dv 2) da_nil))) da_nil))))))))) (dss_cons (ds_set (i := 6) sc_law_values.nd rfl (Or.inl rfl) (de_bin op_addA (od_add (o := false)) (dv 6) (de_lst (o := false) (da_cons (de_tup (da_cons de_str (da_cons de_bl da_nil))) (da_cons (de_tup (da_cons de_str (da_cons de_bl da_nil))) (da_cons (de_tup (da_cons de_str da_nil)) (da_cons (de_tup (da_cons de_str (da_cons (de_neg de_int) da_nil))) (da_cons (de_tup (da_cons de_str (da_cons de_int da_nil))) (da_cons (de_tup (da_cons de_str (da_cons de_non da_nil))) (da_cons (de_tup da_nil) (da_cons de_str da_nil))))))))))) (dss_cons (ds_set (i := 6) sc_law_values.nd rfl (Or.inl rfl) (de_bin op_addA (od_add (o := false)) (dv 6) (de_lst (o := false) (da_cons (de_lst (o := false) (da_cons de_str da_nil)) (da_cons de_str (da_cons de_str (da_cons de_non (da_cons de_int (da_cons de_bl (da_cons (de_lst (o := false) (da_cons de_str (da_cons (dv 4) da_nil))) (da_cons (de_tup (da_cons (de_tup (da_cons de_str da_nil)) da_nil)) (da_cons (de_tup (da_cons de_int (da_cons (de_tup (da_cons de_str da_nil)) da_nil))) (da_cons (de_tup (da_cons de_str da_nil)) da_nil))))))))))))) (dss_cons (ds_set (i := 6) sc_law_values.nd rfl (Or.inl rfl) (de_bin op_addA (od_add (o := false)) (dv 6) (de_lst (o := false) (da_cons (de_tup (da_cons de_str (da_cons (de_lst (o := false) (da_cons (dv 4) da_nil)) da_nil))) (da_cons (de_tup (da_cons de_str (da_cons (de_lst (o := false) (da_cons (dv 5) da_nil)) (da_cons (dv 4) da_nil)))) (da_cons (de_tup (da_cons de_str (da_cons (dv 5) (da_cons (de_neg (dv 4)) da_nil)))) (da_cons (de_tup (da_cons de_str (da_cons (dv 5) (da_cons (de_bin op_addA (od_add (o := false)) (dv 1) (dv 3)) da_nil)))) (da_cons (de_tup (da_cons de_str (da_cons (dv 5) (da_cons (dv 4) (da_cons (dv 4) da_nil))))) da_nil)))))))) (dss_cons (ds_set (i := 6) sc_law_values.nd rfl (Or.inl rfl) (de_bin op_addA (od_add (o := false)) (dv 6) (de_lst (o := false) (da_cons (de_tup (da_cons de_str (da_cons (de_callTy call_strA cd_str rfl T.n_str bt_str (da_cons (dv 5) da_nil)) (da_cons (dv 4) da_nil)))) (da_cons (de_tup (da_cons de_str (da_cons (dv 5) (da_cons (de_callTy call_strA cd_str rfl T.n_str bt_str (da_cons (dv 4) da_nil)) da_nil)))) (da_cons (de_tup (da_cons de_str (da_cons (de_bin op_addA (od_add (o := false)) (dv 2) (dv 3)) (da_cons (dv 4) da_nil)))) (da_cons (de_tup (da_cons de_str (da_cons (dv 5) (da_cons (dv 5) da_nil)))) (da_cons (de_tup (da_cons de_str (da_cons (de_callTy call_strA cd_str rfl T.n_str bt_str (da_cons (dv 5) da_nil)) da_nil))) da_nil)))))))) (dss_cons (ds_set (i := 6) sc_law_values.nd rfl (Or.inl rfl) (de_bin op_addA (od_add (o := false)) (dv 6) (de_lst (o := false) (da_cons (de_tup (da_cons de_str (da_cons (de_bin op_addA (od_add (o := false)) (dv 2) (dv 3)) da_nil))) (da_cons (de_tup (da_cons de_str (da_cons de_int da_nil))) (da_cons (de_tup (da_cons de_str (da_cons de_int da_nil))) (da_cons (de_tup (da_cons de_str (da_cons de_int da_nil))) (da_cons (de_tup (da_cons (de_lst (o := false) (da_cons de_str da_nil)) da_nil)) (da_cons (de_tup (da_cons de_str (da_cons de_dct0 da_nil))) (da_cons (de_tup (da_cons de_str da_nil)) da_nil)))))))))) (dss_one (ds_ret (de_bin op_addA (od_add (o := false)) (dv 6) (de_lst (o := false) (da_cons (de_tup (da_cons de_str (da_cons de_str da_nil))) (da_cons (de_tup (da_cons de_str (da_cons de_str da_nil))) (da_cons (de_tup (da_cons de_str da_nil)) (da_cons (de_tup (da_cons (dv 4) (da_cons de_str da_nil))) (da_cons (de_lst (o := false) (da_cons (de_tup (da_cons de_str da_nil)) da_nil)) (da_cons (de_tup (da_cons de_str (da_cons (dv 4) da_nil))) (da_cons (de_tup (da_cons de_non da_nil)) da_nil))))))))))))))))))))))
def t_law_is (K : PySem.W.Frag) : DS := (sSeq (sIf (dOr (dNot (eTru (eCB qIsi (aCons (eV 0) (aCons (eC (.raw (.ty "tuple"))) aNil))))) (eTest (eBin qNeT (eV 0) (eV 1)))) (sRet (eC (.bl false))) sNext) (sRet (eCB qAll (aCons (eLc false (iS (eV 0)) (.one 2) dYes (eNot (eCB qIsi (aCons (eV 2) (aCons (eC (.raw (.ty "bool"))) aNil)))) [2]) aNil))))
theorem d_law_is (T : Txt K mg) : ∀ (cdv : Value) (A : Around) (outer : List Env) (s : Shared) (H : Hp) (E : XK) (B : Bs), Room 1 (A.deeper (envOfC "_law_is" (defScope s_law_is) s.heap.objs.size (He.ga K "_law_is") cdv)) → PSs (cx0 P w K mg base N_law_is "_law_is" (defScope s_law_is) (He.ga K "_law_is") cdv A outer s H E) (defBody s_law_is) (lS K B (t_law_is K)) := by
  intro cdv A outer s H E B hr
  exact (dss_cons (ds_if (PW.pt (dw_or (dt_not (dt_tru (de_callB call_isi cd_isi rfl T.n_isinstance bt_isinstance (da_cons (dv 0) (da_cons (de_ty rfl T.n_tuple bt_tuple) da_nil))))) (dw_or1 (dt_cmp (op_neT (units5 hr)) od_neT (dv 0) (dv 1) (nomark _))))) (dss_one (ds_ret de_bl)) dss_nil) (dss_one (ds_ret (de_callB (cr_all rfl) cd_all rfl T.n_all bt_all (da_cons (de_lc (o := false) (own := [("part", 2)]) (tg := (.one 2)) rfl sc_law_is.nd (di_any (dv 0)) (blkOk_by (own := [("part", 2)]) (N := N_law_is) (sc := defScope s_law_is) (by decide +kernel)) (by decide) (fun _ _ _ _ _ => (pg_name (i := 2) sc_law_is.nd rfl (Or.inl rfl))) (fun _ _ _ _ _ => dts_nil) (fun _ _ _ _ _ => (de_not (de_callB call_isi cd_isi rfl T.n_isinstance bt_isinstance (da_cons (dv 2) (da_cons (de_ty rfl T.n_bool bt_bool) da_nil)))))) da_nil)))))
def t_Kind_contains (K : PySem.W.Frag) : DS := (sRet (eAnd (eCall (sp_is_deed K) (aCons (eV 1) (aCons (eFld (He.ga K "Kind") "held_base" (eV 0)) (aCons (eFld (He.ga K "Kind") "held_rows" (eV 0)) aNil)))) (eBin (qIn false) (eV 1) (eFld (He.ga K "Kind") "held_deeds" (eV 0)))))
theorem d_Kind_contains (T : Txt K mg) (G_is_deed : Good P w K mg base 5 (He.ga K "is_deed") ["value", "base", "rows"] (sp_is_deed K)) : ∀ (cdv : Value) (A : Around) (outer : List Env) (s : Shared) (H : Hp) (E : XK) (B : Bs), Room 7 (A.deeper (envOfC "Kind.__contains__" (defScope s_Kind_contains) s.heap.objs.size (He.ma K (He.ga K "Kind") "__contains__") cdv)) → PSs (cx0 P w K mg base N_Kind_contains "Kind.__contains__" (defScope s_Kind_contains) (He.ma K (He.ga K "Kind") "__contains__") cdv A outer s H E) (defBody s_Kind_contains) (lS K B (t_Kind_contains K)) := by
  intro cdv A outer s H E B hr
  exact (dss_one (ds_ret (de_and (de_callG G_is_deed (hr.mono (by decide)) T.g_is_deed (da_cons (dv 1) (da_cons (de_fld T.c_Kind T.na_Kind_held_base (dv 0)) (da_cons (de_fld T.c_Kind T.na_Kind_held_rows (dv 0)) da_nil)))) (de_one (de_cmp (op_inA (units5 hr)) od_in (dv 1) (de_fld T.c_Kind T.na_Kind_held_deeds (dv 0)) rfl)))))
def t_Kind_deeds (K : PySem.W.Frag) : DS := (sRet (eCB (qList true) (aCons (eFld (He.ga K "Kind") "held_deeds" (eV 0)) aNil)))
theorem d_Kind_deeds (T : Txt K mg) : ∀ (cdv : Value) (A : Around) (outer : List Env) (s : Shared) (H : Hp) (E : XK) (B : Bs), Room 1 (A.deeper (envOfC "Kind.deeds" (defScope s_Kind_deeds) s.heap.objs.size (pga K (He.ga K "Kind") "deeds") cdv)) → PSs (cx0 P w K mg base N_Kind_deeds "Kind.deeds" (defScope s_Kind_deeds) (pga K (He.ga K "Kind") "deeds") cdv A outer s H E) (defBody s_Kind_deeds) (lS K B (t_Kind_deeds K)) := by
  intro cdv A outer s H E B hr
  exact (dss_one (ds_ret (de_callTy call_listA (cd_list (o := true)) rfl T.n_list bt_list (da_cons (de_fld T.c_Kind T.na_Kind_held_deeds (dv 0)) da_nil))))
def t_law (K : PySem.W.Frag) : DS := (sSeq (sFor (iS (eCall (sp_law_cells K) (aCons (eV 0) aNil))) (.one 1) (sSeq (sAsg (eCall (sp_law_deck K) (aCons (eV 1) aNil)) 2) (sSeq (sAsg (eBin (qAdd false) (eC (.int 2)) (eCall (sp_law_draw K) (aCons (eV 2) (aCons (eC (.int 11)) aNil)))) 3) (sSeq (sAsg (eCall (sp_law_rows K) (aCons (eV 2) (aCons (eV 3) aNil))) 4) (sSeq (sAsg (eCall (sp_law_all_deeds K) (aCons (eV 3) (aCons (eV 4) aNil))) 5) (sSeq (sAsg (eCall (sp_law_some K) (aCons (eV 2) (aCons (eV 5) (aCons (eBin (qAdd false) (eC (.int 1)) (eCall (sp_law_draw K) (aCons (eV 2) (aCons (eC (.int 8)) aNil)))) aNil)))) 6) (sSeq (sAsg (eMake (He.ga K "Kind") (sp_Kind_init K) (aCons (eV 3) (aCons (eV 4) (aCons (eCB (qList false) (aCons (eV 6) aNil)) (aCons (eBin (qAdd false) (eC (.int 1)) (eCall (sp_law_draw K) (aCons (eV 2) (aCons (eC (.int 3)) aNil)))) aNil))))) 7) (sSeq (sAsg (eCall (sp_law_values K) (aCons (eV 2) (aCons (eV 3) (aCons (eV 4) aNil)))) 8) (sSeq (sFor (iS (eBin (qAdd false) (eV 8) (eV 6))) (.one 9) (sSeq (sAsg (eCB qAny (aCons (eLc false (iS (eV 6)) (.one 11) dYes (eCall (sp_law_is K) (aCons (eV 9) (aCons (eV 11) aNil))) [11]) aNil)) 10) (sIf (eTest (eBin qNe (eBin (qInO (He.ga K "Kind") (sp_Kind_contains K)) (eV 9) (eV 7)) (eV 10))) (sRet (eC (.bl false))) sNext))) (sIf (eTest (eBin qNe (eProp (He.ga K "Kind") (sp_Kind_deeds K) (eV 7)) (eLc false (iS (eV 5)) (.one 11) (eTest (eBin (qIn false) (eV 11) (eV 6))) (eV 11) [11]))) (sRet (eC (.bl false))) sNext)))))))))) (sRet (eC (.bl true))))
theorem d_law (T : Txt K mg) (G_law_cells : Good P w K mg base 2 (He.ga K "_law_cells") ["script"] (sp_law_cells K)) (G_law_deck : Good P w K mg base 2 (He.ga K "_law_deck") ["cell"] (sp_law_deck K)) (G_law_draw : Good P w K mg base 2 (He.ga K "_law_draw") ["deck", "many"] (sp_law_draw K)) (G_law_rows : Good P w K mg base 5 (He.ga K "_law_rows") ["deck", "base"] (sp_law_rows K)) (G_law_all_deeds : Good P w K mg base 2 (He.ga K "_law_all_deeds") ["base", "rows"] (sp_law_all_deeds K)) (G_law_some : Good P w K mg base 5 (He.ga K "_law_some") ["deck", "deeds", "many"] (sp_law_some K)) (G_Kind_init : Good P w K mg base 8 (He.ma K (He.ga K "Kind") "__init__") ["self", "base", "rows", "deeds", "most"] (sp_Kind_init K)) (G_law_values : Good P w K mg base 5 (He.ga K "_law_values") ["deck", "base", "rows"] (sp_law_values K)) (G_law_is : Good P w K mg base 2 (He.ga K "_law_is") ["value", "deed"] (sp_law_is K)) (G_Kind_contains : Good P w K mg base 8 (He.ma K (He.ga K "Kind") "__contains__") ["self", "deed"] (sp_Kind_contains K)) (G_Kind_deeds : Good P w K mg base 2 (pga K (He.ga K "Kind") "deeds") ["self"] (sp_Kind_deeds K)) : ∀ (cdv : Value) (A : Around) (outer : List Env) (s : Shared) (H : Hp) (E : XK) (B : Bs), Room 10 (A.deeper (envOfC "law" (defScope s_law) s.heap.objs.size (He.ga K "law") cdv)) → PSs (cx0 P w K mg base N_law "law" (defScope s_law) (He.ga K "law") cdv A outer s H E) (defBody s_law) (lS K B (t_law K)) := by
  intro cdv A outer s H E B hr
  exact (dss_cons (ds_for (tg := (.one 1)) PassesOwn.never rfl (di_any (de_callG G_law_cells (hr.mono (by decide)) T.g_law_cells (da_cons (dv 0) da_nil))) (pg_name (i := 1) sc_law.nd rfl (Or.inl rfl)) (dss_cons (ds_set (i := 2) sc_law.nd rfl (Or.inl rfl) (de_callG G_law_deck (hr.mono (by decide)) T.g_law_deck (da_cons (dv 1) da_nil))) (dss_cons (ds_set (i := 3) sc_law.nd rfl (Or.inl rfl) (de_bin op_addA (od_add (o := false)) de_int (de_callG G_law_draw (hr.mono (by decide)) T.g_law_draw (da_cons (dv 2) (da_cons de_int da_nil))))) (dss_cons (ds_set (i := 4) sc_law.nd rfl (Or.inl rfl) (de_callG G_law_rows (hr.mono (by decide)) T.g_law_rows (da_cons (dv 2) (da_cons (dv 3) da_nil)))) (dss_cons (ds_set (i := 5) sc_law.nd rfl (Or.inl rfl) (de_callG G_law_all_deeds (hr.mono (by decide)) T.g_law_all_deeds (da_cons (dv 3) (da_cons (dv 4) da_nil)))) (dss_cons (ds_set (i := 6) sc_law.nd rfl (Or.inr rfl) (de_callG G_law_some (hr.mono (by decide)) T.g_law_some (da_cons (dv 2) (da_cons (dv 5) (da_cons (de_bin op_addA (od_add (o := false)) de_int (de_callG G_law_draw (hr.mono (by decide)) T.g_law_draw (da_cons (dv 2) (da_cons de_int da_nil)))) da_nil))))) (dss_cons (ds_set (i := 7) sc_law.nd rfl (Or.inl rfl) (de_makeG G_Kind_init (hr.mono (by decide)) T.mk_Kind T.g_Kind (da_cons (dv 3) (da_cons (dv 4) (da_cons (de_callTy call_listA (cd_list (o := false)) rfl T.n_list bt_list (da_cons (dv 6) da_nil)) (da_cons (de_bin op_addA (od_add (o := false)) de_int (de_callG G_law_draw (hr.mono (by decide)) T.g_law_draw (da_cons (dv 2) (da_cons de_int da_nil)))) da_nil)))))) (dss_cons (ds_set (i := 8) sc_law.nd rfl (Or.inl rfl) (de_callG G_law_values (hr.mono (by decide)) T.g_law_values (da_cons (dv 2) (da_cons (dv 3) (da_cons (dv 4) da_nil))))) (dss_cons (ds_for (tg := (.one 9)) PassesOwn.never rfl (di_any (de_bin op_addA (od_add (o := false)) (dv 8) (dv 6))) (pg_name (i := 9) sc_law.nd rfl (Or.inr rfl)) (dss_cons (ds_set (i := 10) sc_law.nd rfl (Or.inl rfl) (de_callB (cr_any rfl) cd_any rfl T.n_any bt_any (da_cons (de_lc (o := false) (own := [("deed", 11)]) (tg := (.one 11)) rfl sc_law.nd (di_any (dv 6)) (blkOk_by (own := [("deed", 11)]) (N := N_law) (sc := defScope s_law) (by decide +kernel)) (by decide) (fun _ _ _ _ _ => (pg_name (i := 11) sc_law.nd rfl (Or.inl rfl))) (fun _ _ _ _ _ => dts_nil) (fun _ _ _ _ _ => (de_callG G_law_is (hr.mono (by decide)) T.g_law_is (da_cons (dv 9) (da_cons (dv 11) da_nil))))) da_nil))) (dss_one (ds_if (dt_cmp (op_neD hr.units) od_ne (de_cmp (op_inO G_Kind_contains (hr.mono (by decide)) T.sm_Kind_contains) od_inO (dv 9) (dv 7) rfl) (dv 10) (nomark _)) (dss_one (ds_ret de_bl)) dss_nil)))) (dss_one (ds_if (dt_cmp (op_neD hr.units) od_ne (de_propG G_Kind_deeds (hr.mono (by decide)) T.c_Kind T.p_Kind_deeds (dv 7)) (de_lc (o := false) (own := [("deed", 11)]) (tg := (.one 11)) rfl sc_law.nd (di_any (dv 5)) (blkOk_by (own := [("deed", 11)]) (N := N_law) (sc := defScope s_law) (by decide +kernel)) (by decide) (fun _ _ _ _ _ => (pg_name (i := 11) sc_law.nd rfl (Or.inl rfl))) (fun _ _ _ _ _ => (dts_one (dt_cmp (op_inA (units5 hr)) od_in (dv 11) (dv 6) rfl))) (fun _ _ _ _ _ => (dv 11))) (nomark _)) (dss_one (ds_ret de_bl)) dss_nil))))))))))) (dss_one (ds_ret de_bl)))
end
local macro_rules | `(tactic| walk_at "v") => `(tactic| repeat' (first
  | ((with_reducible refine v_varX ?_); (refine ⟨_, rfl, ?_⟩))
  | with_reducible refine v_c ?_
  | with_reducible refine v_seq ?_
  | with_reducible refine v_bin ?_
  | with_reducible refine v_asg ?_
  | with_reducible refine v_acons ?_
  | with_reducible refine v_anil ?_
  | with_reducible refine v_test ?_
  | with_reducible refine v_bl ?_
  | with_reducible refine v_in ?_
  | with_reducible refine v_call ?_
  | with_reducible refine v_cb ?_
  | with_reducible refine v_if ?_
  | with_reducible refine v_ret ?_
  | with_reducible refine v_addI ?_
  | with_reducible refine v_subI ?_
  | with_reducible refine v_eqI ?_
  | with_reducible refine v_neI ?_
  | with_reducible refine v_ltI ?_
  | with_reducible refine v_leI ?_
  | with_reducible refine v_gtI ?_
  | with_reducible refine v_geI ?_
  | with_reducible refine v_intI ?_
  | with_reducible refine v_intB ?_
  | with_reducible refine v_T ?_
  | with_reducible refine v_F ?_
  | with_reducible refine v_dnot ?_
  | with_reducible refine v_dand ?_
  | with_reducible refine v_dor ?_
  | with_reducible refine v_dyes ?_
  | with_reducible refine v_enot ?_
  | with_reducible refine v_eand ?_
  | with_reducible refine v_eor ?_
  | with_reducible refine v_eif ?_
  | with_reducible refine v_chain ?_
  | with_reducible refine v_tru ?_
  | with_reducible refine v_tup ?_
  | with_reducible refine v_lst ?_
  | with_reducible refine v_lc ?_
  | with_reducible refine v_for ?_
  | ((with_reducible refine v_j1X ?_); (refine ⟨by omega, ?_⟩))
  | ((with_reducible refine v_j2X ?_); (refine ⟨by omega, ?_⟩))
  | with_reducible refine v_newF ?_
  | with_reducible refine v_newC ?_
  | with_reducible refine v_sl ?_
  | with_reducible refine v_onone ?_
  | with_reducible refine v_osome ?_
  | with_reducible refine v_bm ?_
  | with_reducible refine v_bm0 ?_
  | with_reducible refine v_next ?_
  | with_reducible refine v_drop ?_
  | with_reducible refine v_retN ?_
  | with_reducible refine v_asgT ?_
  | with_reducible refine v_iS ?_
  | with_reducible refine v_iR1 ?_
  | with_reducible refine v_iR2 ?_
  | with_reducible refine v_prop ?_
  | with_reducible refine v_fld ?_
  | with_reducible refine v_meth ?_
  | with_reducible refine v_make ?_
  | with_reducible refine v_nthn ?_
  | with_reducible refine v_rthn ?_
  | with_reducible refine v_bthn ?_
  | with_reducible refine v_cthn ?_
  | with_reducible refine v_nlp ?_
  | with_reducible refine v_rlp ?_
  | with_reducible refine v_blp ?_
  | with_reducible refine v_clp ?_
  | with_reducible refine v_nfn ?_
  | with_reducible refine v_rfn ?_
  | ((with_reducible refine v_isXT ?_); (refine ⟨_, (by first | exact rfl | assumption), ?_⟩); (refine ⟨rfl, rfl, ?_⟩))
  | ((with_reducible refine v_isXF ?_); (refine ⟨_, (by first | exact rfl | assumption), ?_⟩); (refine ⟨rfl, rfl, ?_⟩))
  | ((with_reducible refine v_ixTX ?_); (refine ⟨_, rfl, ?_⟩))
  | ((with_reducible refine v_ixCx ?_); (refine ⟨_, _, (by first | assumption | exact DL.app_get | exact DL.set_get (by first | assumption | exact DL.app_get | exact DL.set_get (by first | assumption | exact DL.app_get | exact DL.set_get (by first | assumption | exact DL.app_get | exact DL.set_get (by first | assumption | exact DL.app_get | exact DL.set_get (by first | assumption | exact DL.app_get) | exact DL.app_get_lt (by first | assumption | exact DL.app_get)) | exact DL.app_get_lt (by first | assumption | exact DL.app_get | exact DL.set_get (by first | assumption | exact DL.app_get) | exact DL.app_get_lt (by first | assumption | exact DL.app_get))) | exact DL.app_get_lt (by first | assumption | exact DL.app_get | exact DL.set_get (by first | assumption | exact DL.app_get | exact DL.set_get (by first | assumption | exact DL.app_get) | exact DL.app_get_lt (by first | assumption | exact DL.app_get)) | exact DL.app_get_lt (by first | assumption | exact DL.app_get | exact DL.set_get (by first | assumption | exact DL.app_get) | exact DL.app_get_lt (by first | assumption | exact DL.app_get)))) | exact DL.app_get_lt (by first | assumption | exact DL.app_get | exact DL.set_get (by first | assumption | exact DL.app_get | exact DL.set_get (by first | assumption | exact DL.app_get | exact DL.set_get (by first | assumption | exact DL.app_get) | exact DL.app_get_lt (by first | assumption | exact DL.app_get)) | exact DL.app_get_lt (by first | assumption | exact DL.app_get | exact DL.set_get (by first | assumption | exact DL.app_get) | exact DL.app_get_lt (by first | assumption | exact DL.app_get))) | exact DL.app_get_lt (by first | assumption | exact DL.app_get | exact DL.set_get (by first | assumption | exact DL.app_get | exact DL.set_get (by first | assumption | exact DL.app_get) | exact DL.app_get_lt (by first | assumption | exact DL.app_get)) | exact DL.app_get_lt (by first | assumption | exact DL.app_get | exact DL.set_get (by first | assumption | exact DL.app_get) | exact DL.app_get_lt (by first | assumption | exact DL.app_get))))) | exact DL.app_get_lt (by first | assumption | exact DL.app_get | exact DL.set_get (by first | assumption | exact DL.app_get | exact DL.set_get (by first | assumption | exact DL.app_get | exact DL.set_get (by first | assumption | exact DL.app_get | exact DL.set_get (by first | assumption | exact DL.app_get) | exact DL.app_get_lt (by first | assumption | exact DL.app_get)) | exact DL.app_get_lt (by first | assumption | exact DL.app_get | exact DL.set_get (by first | assumption | exact DL.app_get) | exact DL.app_get_lt (by first | assumption | exact DL.app_get))) | exact DL.app_get_lt (by first | assumption | exact DL.app_get | exact DL.set_get (by first | assumption | exact DL.app_get | exact DL.set_get (by first | assumption | exact DL.app_get) | exact DL.app_get_lt (by first | assumption | exact DL.app_get)) | exact DL.app_get_lt (by first | assumption | exact DL.app_get | exact DL.set_get (by first | assumption | exact DL.app_get) | exact DL.app_get_lt (by first | assumption | exact DL.app_get)))) | exact DL.app_get_lt (by first | assumption | exact DL.app_get | exact DL.set_get (by first | assumption | exact DL.app_get | exact DL.set_get (by first | assumption | exact DL.app_get | exact DL.set_get (by first | assumption | exact DL.app_get) | exact DL.app_get_lt (by first | assumption | exact DL.app_get)) | exact DL.app_get_lt (by first | assumption | exact DL.app_get | exact DL.set_get (by first | assumption | exact DL.app_get) | exact DL.app_get_lt (by first | assumption | exact DL.app_get))) | exact DL.app_get_lt (by first | assumption | exact DL.app_get | exact DL.set_get (by first | assumption | exact DL.app_get | exact DL.set_get (by first | assumption | exact DL.app_get) | exact DL.app_get_lt (by first | assumption | exact DL.app_get)) | exact DL.app_get_lt (by first | assumption | exact DL.app_get | exact DL.set_get (by first | assumption | exact DL.app_get) | exact DL.app_get_lt (by first | assumption | exact DL.app_get)))))), rfl, ?_⟩))
  | ((with_reducible refine v_szX ?_); (refine ⟨rfl, ?_⟩))
  | ((with_reducible refine v_fdivX ?_); (refine ⟨.inl ⟨by omega, by omega⟩, ?_⟩))
  | ((with_reducible refine v_mulX ?_); (first | refine ⟨.inl (.inr ⟨by omega, by omega⟩), ?_⟩ | refine ⟨.inl (.inl ⟨by omega, by omega⟩), ?_⟩))
  | ((with_reducible refine v_powX ?_); (refine ⟨⟨by decide, by decide, by decide⟩, ?_⟩))
  | ((with_reducible refine v_modX ?_); (refine ⟨by omega, ?_⟩))
  | with_reducible refine v_sub ?_
  | with_reducible refine v_rev ?_
  | with_reducible refine v_tupT ?_
  | ((with_reducible refine v_subX ?_); refine ⟨_, _, _, _, rfl, (by first | assumption | exact DL.app_get | exact DL.set_get (by first | assumption | exact DL.app_get | exact DL.set_get (by first | assumption | exact DL.app_get | exact DL.set_get (by first | assumption | exact DL.app_get | exact DL.set_get (by first | assumption | exact DL.app_get | exact DL.set_get (by first | assumption | exact DL.app_get) | exact DL.app_get_lt (by first | assumption | exact DL.app_get)) | exact DL.app_get_lt (by first | assumption | exact DL.app_get | exact DL.set_get (by first | assumption | exact DL.app_get) | exact DL.app_get_lt (by first | assumption | exact DL.app_get))) | exact DL.app_get_lt (by first | assumption | exact DL.app_get | exact DL.set_get (by first | assumption | exact DL.app_get | exact DL.set_get (by first | assumption | exact DL.app_get) | exact DL.app_get_lt (by first | assumption | exact DL.app_get)) | exact DL.app_get_lt (by first | assumption | exact DL.app_get | exact DL.set_get (by first | assumption | exact DL.app_get) | exact DL.app_get_lt (by first | assumption | exact DL.app_get)))) | exact DL.app_get_lt (by first | assumption | exact DL.app_get | exact DL.set_get (by first | assumption | exact DL.app_get | exact DL.set_get (by first | assumption | exact DL.app_get | exact DL.set_get (by first | assumption | exact DL.app_get) | exact DL.app_get_lt (by first | assumption | exact DL.app_get)) | exact DL.app_get_lt (by first | assumption | exact DL.app_get | exact DL.set_get (by first | assumption | exact DL.app_get) | exact DL.app_get_lt (by first | assumption | exact DL.app_get))) | exact DL.app_get_lt (by first | assumption | exact DL.app_get | exact DL.set_get (by first | assumption | exact DL.app_get | exact DL.set_get (by first | assumption | exact DL.app_get) | exact DL.app_get_lt (by first | assumption | exact DL.app_get)) | exact DL.app_get_lt (by first | assumption | exact DL.app_get | exact DL.set_get (by first | assumption | exact DL.app_get) | exact DL.app_get_lt (by first | assumption | exact DL.app_get))))) | exact DL.app_get_lt (by first | assumption | exact DL.app_get | exact DL.set_get (by first | assumption | exact DL.app_get | exact DL.set_get (by first | assumption | exact DL.app_get | exact DL.set_get (by first | assumption | exact DL.app_get | exact DL.set_get (by first | assumption | exact DL.app_get) | exact DL.app_get_lt (by first | assumption | exact DL.app_get)) | exact DL.app_get_lt (by first | assumption | exact DL.app_get | exact DL.set_get (by first | assumption | exact DL.app_get) | exact DL.app_get_lt (by first | assumption | exact DL.app_get))) | exact DL.app_get_lt (by first | assumption | exact DL.app_get | exact DL.set_get (by first | assumption | exact DL.app_get | exact DL.set_get (by first | assumption | exact DL.app_get) | exact DL.app_get_lt (by first | assumption | exact DL.app_get)) | exact DL.app_get_lt (by first | assumption | exact DL.app_get | exact DL.set_get (by first | assumption | exact DL.app_get) | exact DL.app_get_lt (by first | assumption | exact DL.app_get)))) | exact DL.app_get_lt (by first | assumption | exact DL.app_get | exact DL.set_get (by first | assumption | exact DL.app_get | exact DL.set_get (by first | assumption | exact DL.app_get | exact DL.set_get (by first | assumption | exact DL.app_get) | exact DL.app_get_lt (by first | assumption | exact DL.app_get)) | exact DL.app_get_lt (by first | assumption | exact DL.app_get | exact DL.set_get (by first | assumption | exact DL.app_get) | exact DL.app_get_lt (by first | assumption | exact DL.app_get))) | exact DL.app_get_lt (by first | assumption | exact DL.app_get | exact DL.set_get (by first | assumption | exact DL.app_get | exact DL.set_get (by first | assumption | exact DL.app_get) | exact DL.app_get_lt (by first | assumption | exact DL.app_get)) | exact DL.app_get_lt (by first | assumption | exact DL.app_get | exact DL.set_get (by first | assumption | exact DL.app_get) | exact DL.app_get_lt (by first | assumption | exact DL.app_get)))))), rfl, rfl, ?_⟩)
  | with_reducible refine v_break ?_
  | with_reducible refine v_cont ?_
  | with_reducible refine v_truB' ?_
  | with_reducible refine v_nT ?_
  | with_reducible refine v_nF ?_
  | ((with_reducible refine v_itF ?_); (refine ⟨_, (by first | exact rfl | assumption), ?_⟩))
  | ((with_reducible refine v_itC ?_); (refine ⟨_, (by first | assumption | exact DL.app_get | exact DL.set_get (by first | assumption | exact DL.app_get | exact DL.set_get (by first | assumption | exact DL.app_get | exact DL.set_get (by first | assumption | exact DL.app_get | exact DL.set_get (by first | assumption | exact DL.app_get | exact DL.set_get (by first | assumption | exact DL.app_get) | exact DL.app_get_lt (by first | assumption | exact DL.app_get)) | exact DL.app_get_lt (by first | assumption | exact DL.app_get | exact DL.set_get (by first | assumption | exact DL.app_get) | exact DL.app_get_lt (by first | assumption | exact DL.app_get))) | exact DL.app_get_lt (by first | assumption | exact DL.app_get | exact DL.set_get (by first | assumption | exact DL.app_get | exact DL.set_get (by first | assumption | exact DL.app_get) | exact DL.app_get_lt (by first | assumption | exact DL.app_get)) | exact DL.app_get_lt (by first | assumption | exact DL.app_get | exact DL.set_get (by first | assumption | exact DL.app_get) | exact DL.app_get_lt (by first | assumption | exact DL.app_get)))) | exact DL.app_get_lt (by first | assumption | exact DL.app_get | exact DL.set_get (by first | assumption | exact DL.app_get | exact DL.set_get (by first | assumption | exact DL.app_get | exact DL.set_get (by first | assumption | exact DL.app_get) | exact DL.app_get_lt (by first | assumption | exact DL.app_get)) | exact DL.app_get_lt (by first | assumption | exact DL.app_get | exact DL.set_get (by first | assumption | exact DL.app_get) | exact DL.app_get_lt (by first | assumption | exact DL.app_get))) | exact DL.app_get_lt (by first | assumption | exact DL.app_get | exact DL.set_get (by first | assumption | exact DL.app_get | exact DL.set_get (by first | assumption | exact DL.app_get) | exact DL.app_get_lt (by first | assumption | exact DL.app_get)) | exact DL.app_get_lt (by first | assumption | exact DL.app_get | exact DL.set_get (by first | assumption | exact DL.app_get) | exact DL.app_get_lt (by first | assumption | exact DL.app_get))))) | exact DL.app_get_lt (by first | assumption | exact DL.app_get | exact DL.set_get (by first | assumption | exact DL.app_get | exact DL.set_get (by first | assumption | exact DL.app_get | exact DL.set_get (by first | assumption | exact DL.app_get | exact DL.set_get (by first | assumption | exact DL.app_get) | exact DL.app_get_lt (by first | assumption | exact DL.app_get)) | exact DL.app_get_lt (by first | assumption | exact DL.app_get | exact DL.set_get (by first | assumption | exact DL.app_get) | exact DL.app_get_lt (by first | assumption | exact DL.app_get))) | exact DL.app_get_lt (by first | assumption | exact DL.app_get | exact DL.set_get (by first | assumption | exact DL.app_get | exact DL.set_get (by first | assumption | exact DL.app_get) | exact DL.app_get_lt (by first | assumption | exact DL.app_get)) | exact DL.app_get_lt (by first | assumption | exact DL.app_get | exact DL.set_get (by first | assumption | exact DL.app_get) | exact DL.app_get_lt (by first | assumption | exact DL.app_get)))) | exact DL.app_get_lt (by first | assumption | exact DL.app_get | exact DL.set_get (by first | assumption | exact DL.app_get | exact DL.set_get (by first | assumption | exact DL.app_get | exact DL.set_get (by first | assumption | exact DL.app_get) | exact DL.app_get_lt (by first | assumption | exact DL.app_get)) | exact DL.app_get_lt (by first | assumption | exact DL.app_get | exact DL.set_get (by first | assumption | exact DL.app_get) | exact DL.app_get_lt (by first | assumption | exact DL.app_get))) | exact DL.app_get_lt (by first | assumption | exact DL.app_get | exact DL.set_get (by first | assumption | exact DL.app_get | exact DL.set_get (by first | assumption | exact DL.app_get) | exact DL.app_get_lt (by first | assumption | exact DL.app_get)) | exact DL.app_get_lt (by first | assumption | exact DL.app_get | exact DL.set_get (by first | assumption | exact DL.app_get) | exact DL.app_get_lt (by first | assumption | exact DL.app_get)))))), ?_⟩))
  | ((with_reducible refine v_insX ?_); (refine ⟨_, _, _, (by first | assumption | exact DL.ins_cell (by first | assumption | exact DL.app_get | exact DL.set_get (by first | assumption | exact DL.app_get | exact DL.set_get (by first | assumption | exact DL.app_get | exact DL.set_get (by first | assumption | exact DL.app_get | exact DL.set_get (by first | assumption | exact DL.app_get) | exact DL.app_get_lt (by first | assumption | exact DL.app_get)) | exact DL.app_get_lt (by first | assumption | exact DL.app_get | exact DL.set_get (by first | assumption | exact DL.app_get) | exact DL.app_get_lt (by first | assumption | exact DL.app_get))) | exact DL.app_get_lt (by first | assumption | exact DL.app_get | exact DL.set_get (by first | assumption | exact DL.app_get | exact DL.set_get (by first | assumption | exact DL.app_get) | exact DL.app_get_lt (by first | assumption | exact DL.app_get)) | exact DL.app_get_lt (by first | assumption | exact DL.app_get | exact DL.set_get (by first | assumption | exact DL.app_get) | exact DL.app_get_lt (by first | assumption | exact DL.app_get)))) | exact DL.app_get_lt (by first | assumption | exact DL.app_get | exact DL.set_get (by first | assumption | exact DL.app_get | exact DL.set_get (by first | assumption | exact DL.app_get | exact DL.set_get (by first | assumption | exact DL.app_get) | exact DL.app_get_lt (by first | assumption | exact DL.app_get)) | exact DL.app_get_lt (by first | assumption | exact DL.app_get | exact DL.set_get (by first | assumption | exact DL.app_get) | exact DL.app_get_lt (by first | assumption | exact DL.app_get))) | exact DL.app_get_lt (by first | assumption | exact DL.app_get | exact DL.set_get (by first | assumption | exact DL.app_get | exact DL.set_get (by first | assumption | exact DL.app_get) | exact DL.app_get_lt (by first | assumption | exact DL.app_get)) | exact DL.app_get_lt (by first | assumption | exact DL.app_get | exact DL.set_get (by first | assumption | exact DL.app_get) | exact DL.app_get_lt (by first | assumption | exact DL.app_get)))))), rfl, ?_⟩))
  | ((with_reducible refine v_insP ?_); (refine ⟨⟨_, _, (by first | assumption | exact DL.ins_cell (by first | assumption | exact DL.app_get | exact DL.set_get (by first | assumption | exact DL.app_get | exact DL.set_get (by first | assumption | exact DL.app_get | exact DL.set_get (by first | assumption | exact DL.app_get | exact DL.set_get (by first | assumption | exact DL.app_get) | exact DL.app_get_lt (by first | assumption | exact DL.app_get)) | exact DL.app_get_lt (by first | assumption | exact DL.app_get | exact DL.set_get (by first | assumption | exact DL.app_get) | exact DL.app_get_lt (by first | assumption | exact DL.app_get))) | exact DL.app_get_lt (by first | assumption | exact DL.app_get | exact DL.set_get (by first | assumption | exact DL.app_get | exact DL.set_get (by first | assumption | exact DL.app_get) | exact DL.app_get_lt (by first | assumption | exact DL.app_get)) | exact DL.app_get_lt (by first | assumption | exact DL.app_get | exact DL.set_get (by first | assumption | exact DL.app_get) | exact DL.app_get_lt (by first | assumption | exact DL.app_get)))) | exact DL.app_get_lt (by first | assumption | exact DL.app_get | exact DL.set_get (by first | assumption | exact DL.app_get | exact DL.set_get (by first | assumption | exact DL.app_get | exact DL.set_get (by first | assumption | exact DL.app_get) | exact DL.app_get_lt (by first | assumption | exact DL.app_get)) | exact DL.app_get_lt (by first | assumption | exact DL.app_get | exact DL.set_get (by first | assumption | exact DL.app_get) | exact DL.app_get_lt (by first | assumption | exact DL.app_get))) | exact DL.app_get_lt (by first | assumption | exact DL.app_get | exact DL.set_get (by first | assumption | exact DL.app_get | exact DL.set_get (by first | assumption | exact DL.app_get) | exact DL.app_get_lt (by first | assumption | exact DL.app_get)) | exact DL.app_get_lt (by first | assumption | exact DL.app_get | exact DL.set_get (by first | assumption | exact DL.app_get) | exact DL.app_get_lt (by first | assumption | exact DL.app_get))))))⟩, ?_⟩))
  | ((with_reducible refine v_lkX ?_); (refine ⟨_, (by first | exact rfl | assumption), ?_⟩))
  | with_reducible refine v_fldS ?_
  | ((with_reducible refine v_fldX ?_); refine ⟨_, _, _, rfl, (by first | assumption | exact DL.app_get | exact DL.set_get (by first | assumption | exact DL.app_get | exact DL.set_get (by first | assumption | exact DL.app_get | exact DL.set_get (by first | assumption | exact DL.app_get | exact DL.set_get (by first | assumption | exact DL.app_get | exact DL.set_get (by first | assumption | exact DL.app_get) | exact DL.app_get_lt (by first | assumption | exact DL.app_get)) | exact DL.app_get_lt (by first | assumption | exact DL.app_get | exact DL.set_get (by first | assumption | exact DL.app_get) | exact DL.app_get_lt (by first | assumption | exact DL.app_get))) | exact DL.app_get_lt (by first | assumption | exact DL.app_get | exact DL.set_get (by first | assumption | exact DL.app_get | exact DL.set_get (by first | assumption | exact DL.app_get) | exact DL.app_get_lt (by first | assumption | exact DL.app_get)) | exact DL.app_get_lt (by first | assumption | exact DL.app_get | exact DL.set_get (by first | assumption | exact DL.app_get) | exact DL.app_get_lt (by first | assumption | exact DL.app_get)))) | exact DL.app_get_lt (by first | assumption | exact DL.app_get | exact DL.set_get (by first | assumption | exact DL.app_get | exact DL.set_get (by first | assumption | exact DL.app_get | exact DL.set_get (by first | assumption | exact DL.app_get) | exact DL.app_get_lt (by first | assumption | exact DL.app_get)) | exact DL.app_get_lt (by first | assumption | exact DL.app_get | exact DL.set_get (by first | assumption | exact DL.app_get) | exact DL.app_get_lt (by first | assumption | exact DL.app_get))) | exact DL.app_get_lt (by first | assumption | exact DL.app_get | exact DL.set_get (by first | assumption | exact DL.app_get | exact DL.set_get (by first | assumption | exact DL.app_get) | exact DL.app_get_lt (by first | assumption | exact DL.app_get)) | exact DL.app_get_lt (by first | assumption | exact DL.app_get | exact DL.set_get (by first | assumption | exact DL.app_get) | exact DL.app_get_lt (by first | assumption | exact DL.app_get))))) | exact DL.app_get_lt (by first | assumption | exact DL.app_get | exact DL.set_get (by first | assumption | exact DL.app_get | exact DL.set_get (by first | assumption | exact DL.app_get | exact DL.set_get (by first | assumption | exact DL.app_get | exact DL.set_get (by first | assumption | exact DL.app_get) | exact DL.app_get_lt (by first | assumption | exact DL.app_get)) | exact DL.app_get_lt (by first | assumption | exact DL.app_get | exact DL.set_get (by first | assumption | exact DL.app_get) | exact DL.app_get_lt (by first | assumption | exact DL.app_get))) | exact DL.app_get_lt (by first | assumption | exact DL.app_get | exact DL.set_get (by first | assumption | exact DL.app_get | exact DL.set_get (by first | assumption | exact DL.app_get) | exact DL.app_get_lt (by first | assumption | exact DL.app_get)) | exact DL.app_get_lt (by first | assumption | exact DL.app_get | exact DL.set_get (by first | assumption | exact DL.app_get) | exact DL.app_get_lt (by first | assumption | exact DL.app_get)))) | exact DL.app_get_lt (by first | assumption | exact DL.app_get | exact DL.set_get (by first | assumption | exact DL.app_get | exact DL.set_get (by first | assumption | exact DL.app_get | exact DL.set_get (by first | assumption | exact DL.app_get) | exact DL.app_get_lt (by first | assumption | exact DL.app_get)) | exact DL.app_get_lt (by first | assumption | exact DL.app_get | exact DL.set_get (by first | assumption | exact DL.app_get) | exact DL.app_get_lt (by first | assumption | exact DL.app_get))) | exact DL.app_get_lt (by first | assumption | exact DL.app_get | exact DL.set_get (by first | assumption | exact DL.app_get | exact DL.set_get (by first | assumption | exact DL.app_get) | exact DL.app_get_lt (by first | assumption | exact DL.app_get)) | exact DL.app_get_lt (by first | assumption | exact DL.app_get | exact DL.set_get (by first | assumption | exact DL.app_get) | exact DL.app_get_lt (by first | assumption | exact DL.app_get)))))), by decide, by decide, ?_⟩)
  | with_reducible refine v_isN0 ?_
  | with_reducible refine v_isnN0 ?_
  | ((with_reducible refine v_isN1 ?_); (refine ⟨rfl, rfl, ?_⟩))
  | ((with_reducible refine v_isnN1 ?_); (refine ⟨rfl, rfl, ?_⟩))
  | ((with_reducible refine v_eqNF ?_); (refine ⟨⟨rfl, rfl, rfl⟩, (by first | rfl | decide +kernel), (by first | rfl | decide +kernel), (by first | rfl | decide +kernel), ?_⟩))
  | ((with_reducible refine v_eqNT ?_); (refine ⟨⟨rfl, rfl, rfl⟩, (by first | rfl | decide +kernel), (by first | rfl | decide +kernel), (by first | rfl | decide +kernel), ?_⟩))
  | ((with_reducible refine v_neNF ?_); (refine ⟨⟨rfl, rfl, rfl⟩, (by first | rfl | decide +kernel), (by first | rfl | decide +kernel), (by first | rfl | decide +kernel), ?_⟩))
  | ((with_reducible refine v_neNT ?_); (refine ⟨⟨rfl, rfl, rfl⟩, (by first | rfl | decide +kernel), (by first | rfl | decide +kernel), (by first | rfl | decide +kernel), ?_⟩))
  | with_reducible refine v_asgG ?_
  | with_reducible refine v_gN ?_
  | with_reducible refine v_gF ?_
  | with_reducible refine v_gZ ?_
  | with_reducible refine v_gC ?_
  | ((with_reducible refine v_gT ?_); (refine ⟨rfl, ?_⟩))
  | ((with_reducible refine v_updF ?_); (refine ⟨_, _, _, _, rfl, (by first | assumption | exact DL.app_get | exact DL.set_get (by first | assumption | exact DL.app_get | exact DL.set_get (by first | assumption | exact DL.app_get | exact DL.set_get (by first | assumption | exact DL.app_get | exact DL.set_get (by first | assumption | exact DL.app_get | exact DL.set_get (by first | assumption | exact DL.app_get) | exact DL.app_get_lt (by first | assumption | exact DL.app_get)) | exact DL.app_get_lt (by first | assumption | exact DL.app_get | exact DL.set_get (by first | assumption | exact DL.app_get) | exact DL.app_get_lt (by first | assumption | exact DL.app_get))) | exact DL.app_get_lt (by first | assumption | exact DL.app_get | exact DL.set_get (by first | assumption | exact DL.app_get | exact DL.set_get (by first | assumption | exact DL.app_get) | exact DL.app_get_lt (by first | assumption | exact DL.app_get)) | exact DL.app_get_lt (by first | assumption | exact DL.app_get | exact DL.set_get (by first | assumption | exact DL.app_get) | exact DL.app_get_lt (by first | assumption | exact DL.app_get)))) | exact DL.app_get_lt (by first | assumption | exact DL.app_get | exact DL.set_get (by first | assumption | exact DL.app_get | exact DL.set_get (by first | assumption | exact DL.app_get | exact DL.set_get (by first | assumption | exact DL.app_get) | exact DL.app_get_lt (by first | assumption | exact DL.app_get)) | exact DL.app_get_lt (by first | assumption | exact DL.app_get | exact DL.set_get (by first | assumption | exact DL.app_get) | exact DL.app_get_lt (by first | assumption | exact DL.app_get))) | exact DL.app_get_lt (by first | assumption | exact DL.app_get | exact DL.set_get (by first | assumption | exact DL.app_get | exact DL.set_get (by first | assumption | exact DL.app_get) | exact DL.app_get_lt (by first | assumption | exact DL.app_get)) | exact DL.app_get_lt (by first | assumption | exact DL.app_get | exact DL.set_get (by first | assumption | exact DL.app_get) | exact DL.app_get_lt (by first | assumption | exact DL.app_get))))) | exact DL.app_get_lt (by first | assumption | exact DL.app_get | exact DL.set_get (by first | assumption | exact DL.app_get | exact DL.set_get (by first | assumption | exact DL.app_get | exact DL.set_get (by first | assumption | exact DL.app_get | exact DL.set_get (by first | assumption | exact DL.app_get) | exact DL.app_get_lt (by first | assumption | exact DL.app_get)) | exact DL.app_get_lt (by first | assumption | exact DL.app_get | exact DL.set_get (by first | assumption | exact DL.app_get) | exact DL.app_get_lt (by first | assumption | exact DL.app_get))) | exact DL.app_get_lt (by first | assumption | exact DL.app_get | exact DL.set_get (by first | assumption | exact DL.app_get | exact DL.set_get (by first | assumption | exact DL.app_get) | exact DL.app_get_lt (by first | assumption | exact DL.app_get)) | exact DL.app_get_lt (by first | assumption | exact DL.app_get | exact DL.set_get (by first | assumption | exact DL.app_get) | exact DL.app_get_lt (by first | assumption | exact DL.app_get)))) | exact DL.app_get_lt (by first | assumption | exact DL.app_get | exact DL.set_get (by first | assumption | exact DL.app_get | exact DL.set_get (by first | assumption | exact DL.app_get | exact DL.set_get (by first | assumption | exact DL.app_get) | exact DL.app_get_lt (by first | assumption | exact DL.app_get)) | exact DL.app_get_lt (by first | assumption | exact DL.app_get | exact DL.set_get (by first | assumption | exact DL.app_get) | exact DL.app_get_lt (by first | assumption | exact DL.app_get))) | exact DL.app_get_lt (by first | assumption | exact DL.app_get | exact DL.set_get (by first | assumption | exact DL.app_get | exact DL.set_get (by first | assumption | exact DL.app_get) | exact DL.app_get_lt (by first | assumption | exact DL.app_get)) | exact DL.app_get_lt (by first | assumption | exact DL.app_get | exact DL.set_get (by first | assumption | exact DL.app_get) | exact DL.app_get_lt (by first | assumption | exact DL.app_get)))))), by decide, rfl, ?_⟩))
  | with_reducible refine v_fldU ?_
  | with_reducible refine v_fldA ?_
  | with_reducible refine v_addII ?_
  | ((with_reducible refine v_methX ?_); (refine ⟨⟨_, _, (by first | assumption | exact DL.ins_cell (by first | assumption | exact DL.app_get | exact DL.set_get (by first | assumption | exact DL.app_get | exact DL.set_get (by first | assumption | exact DL.app_get | exact DL.set_get (by first | assumption | exact DL.app_get | exact DL.set_get (by first | assumption | exact DL.app_get) | exact DL.app_get_lt (by first | assumption | exact DL.app_get)) | exact DL.app_get_lt (by first | assumption | exact DL.app_get | exact DL.set_get (by first | assumption | exact DL.app_get) | exact DL.app_get_lt (by first | assumption | exact DL.app_get))) | exact DL.app_get_lt (by first | assumption | exact DL.app_get | exact DL.set_get (by first | assumption | exact DL.app_get | exact DL.set_get (by first | assumption | exact DL.app_get) | exact DL.app_get_lt (by first | assumption | exact DL.app_get)) | exact DL.app_get_lt (by first | assumption | exact DL.app_get | exact DL.set_get (by first | assumption | exact DL.app_get) | exact DL.app_get_lt (by first | assumption | exact DL.app_get)))) | exact DL.app_get_lt (by first | assumption | exact DL.app_get | exact DL.set_get (by first | assumption | exact DL.app_get | exact DL.set_get (by first | assumption | exact DL.app_get | exact DL.set_get (by first | assumption | exact DL.app_get) | exact DL.app_get_lt (by first | assumption | exact DL.app_get)) | exact DL.app_get_lt (by first | assumption | exact DL.app_get | exact DL.set_get (by first | assumption | exact DL.app_get) | exact DL.app_get_lt (by first | assumption | exact DL.app_get))) | exact DL.app_get_lt (by first | assumption | exact DL.app_get | exact DL.set_get (by first | assumption | exact DL.app_get | exact DL.set_get (by first | assumption | exact DL.app_get) | exact DL.app_get_lt (by first | assumption | exact DL.app_get)) | exact DL.app_get_lt (by first | assumption | exact DL.app_get | exact DL.set_get (by first | assumption | exact DL.app_get) | exact DL.app_get_lt (by first | assumption | exact DL.app_get)))))), by decide⟩, ?_⟩))
  | with_reducible refine v_while ?_
  | with_reducible refine v_setO ?_
  | with_reducible refine v_en ?_
  | with_reducible refine v_oneD ?_
  | ((with_reducible refine v_itLF ?_); (refine ⟨_, rfl, ?_⟩))
  | ((with_reducible refine v_tgX ?_); (refine ⟨_, rfl, ?_⟩))
  | with_reducible refine v_neg ?_
  | with_reducible refine v_oneI ?_
  | with_reducible refine v_isnB ?_
  | with_reducible refine v_isB ?_
  | with_reducible refine v_lc2 ?_
  | with_reducible refine v_max2 ?_
  | with_reducible refine v_min2 ?_
  | with_reducible refine v_callX ?_
  | with_reducible refine v_makeX ?_
  | with_reducible refine v_setX ?_
  | with_reducible refine v_twoX ?_
  | ((with_reducible refine v_isEX ?_); (refine ⟨_, rfl, rfl, _, List.mem_cons_self, ?_⟩))
  | with_reducible refine v_raise ?_
  | ((with_reducible refine v_par ?_); skip)
  | with_reducible refine v_raiseI ?_
  | with_reducible refine v_xf ?_
  | with_reducible refine v_unx ?_
  | with_reducible refine v_urt ?_
  | with_reducible refine v_dct ?_))
local macro_rules | `(tactic| walk_at "w") => `(tactic| (walk_at "v"; all_goals try dsimp only [List.set]))
section
variable {K : PySem.W.Frag}
theorem len_is_integer : ∀ ds cs Q, sp_is_integer K ds cs Q → ds.length = 1 := by rintro ds cs Q ⟨_, rfl, _⟩; rfl
theorem vc_is_integer : ∀ ds cs Q, Lo ds cs → LoC cs → sp_is_integer K ds cs Q → t_is_integer K (Po.fn cs Q) ⟨startD N_is_integer ds, cs⟩ := by
  rintro ds cs Q hd hc ⟨d, rfl, ⟨a, ha⟩, q⟩
  unfold t_is_integer
  cases d
  case cell n =>
    cases tyN_cell ha
    walk_at "v"
    exact .inl q
  all_goals first | (cases ha; done) | (walk_at "v"; exact Or.inl q)
theorem len_law_cells : ∀ ds cs Q, sp_law_cells K ds cs Q → ds.length = 1 := by rintro ds cs Q ⟨_, rfl, _⟩; rfl
theorem vc_law_cells : ∀ ds cs Q, Lo ds cs → LoC cs → sp_law_cells K ds cs Q → t_law_cells K (Po.fn cs Q) ⟨startD N_law_cells ds, cs⟩ := by
  rintro ds cs Q hd hc ⟨ns, rfl, q⟩
  unfold t_law_cells
  walk_at "v"
  refine v_eqE encI.lst (a := ns) (b := []) rfl rfl ?_
  walk_at "v"
  refine v_itd (fun h => ?_) (fun h => ?_)
  · walk_at "v"
    exact .inl (q [0] (by decide))
  · walk_at "v"
    refine v_slL rfl (fun _ z => nomatch z) (fun _ z => nomatch z) ?_
    walk_at "v"
    rw [cut63, ← List.map_take]
    exact .inl (q _ (by simp; omega))
theorem len_law_deck : ∀ ds cs Q, sp_law_deck K ds cs Q → ds.length = 1 := by rintro ds cs Q ⟨_, rfl, _⟩; rfl
theorem vc_law_deck : ∀ ds cs Q, Lo ds cs → LoC cs → sp_law_deck K ds cs Q → t_law_deck K (Po.fn cs Q) ⟨startD N_law_deck ds, cs⟩ := by
  rintro ds cs Q hd hc ⟨n, rfl, q⟩
  unfold t_law_deck
  walk_at "v"
  refine v_itd (fun h => ?_) (fun h => ?_)
  · walk_at "v"
    exact .inl (q ..)
  · walk_at "v"
    exact .inl (q ..)
theorem st_law_draw {a b : D} : startD N_law_draw [a, b] = [some a, some b, none, none] := rfl
theorem log_lt {n k : Nat} (h : n < 2 ^ k) (hk : 0 < k) : n.log2 < k := by
  rcases Nat.eq_zero_or_pos n with rfl | hp
  · exact hk
  · exact (Nat.log2_lt (by omega)).mpr h
theorem fdiv_ok {a b : Int} (h0 : 0 < b) (h1 : b ≤ 1000000000000000000000000000000) : FdivOk a b := .inr ⟨h0, Nat.lt_trans (log_lt (k := 100) (by omega) (by decide)) (by decide)⟩
theorem len_law_draw : ∀ ds cs Q, sp_law_draw K ds cs Q → ds.length = 2 := by rintro ds cs Q ⟨_, _, _, _, _, rfl, _⟩; rfl
theorem vc_law_draw : ∀ ds cs Q, Lo ds cs → LoC cs → sp_law_draw K ds cs Q → t_law_draw K (Po.fn cs Q) ⟨startD N_law_draw ds, cs⟩ := by
  rintro ds cs Q hd hc ⟨n, m, a, b, c, rfl, hn, h0, hm, q⟩
  rw [st_law_draw]
  unfold t_law_draw
  walk_at "v"
  refine v_itd (fun h => ?_) (fun h => ?_)
  · walk_at "v"
    refine v_fdivX ⟨fdiv_ok h0 hm, ?_⟩
    walk_at "v"
    exact .inl (q _ _ _ (Int.emod_nonneg _ (by omega)) (Int.emod_lt_of_pos _ h0))
  · walk_at "v"
    exact .inl (q _ _ _ (Int.emod_nonneg _ (by omega)) (Int.emod_lt_of_pos _ h0))
end
section
variable {K : PySem.W.Frag}
theorem cut_tl (x : D) (xs : List D) : cutD (x :: xs) (some 1) none = xs := by
  have h := cut_from (α := D) (fun d => d) (x :: xs) 1
  simp only [List.map_id'] at h
  exact h
theorem Wo.s_inj : ∀ a b : Wo, (PyData.eqv (.str a.s) (.str b.s)) = decide (a = b) := by
  intro a b
  cases a <;> cases b <;> first | rfl | decide +kernel
theorem Wo.lay : ∀ a : Wo, (PyData.str a.s).canLay0 = true := by
  intro a
  cases a <;> first | rfl | decide +kernel
theorem shs_int (n : Nat) (ns : List Int) : Shs n (ns.map .int) := .all fun d hd => by
  obtain ⟨i, _, rfl⟩ := List.mem_map.mp hd
  exact (Sh.int i).mono (Nat.zero_le _)
theorem sh_D (t : Dd) : Sh 1 (encD t) := .tup (.cons (Sh.str (Wo.lay _)) (shs_int 0 _))
theorem eqv_D (s t : Dd) : PyData.eqv (toP (encD s)) (toP (encD t)) = decide (s = t) := by
  obtain ⟨a, xs⟩ := s
  obtain ⟨b, ys⟩ := t
  have h1 := Wo.s_inj a b
  have h2 := encI.eqvs xs ys
  show (PyData.eqv (.str a.s) (.str b.s) && PyData.eqvAll (toPs (xs.map .int)) (toPs (ys.map .int))) = _
  rw [h1, h2]
  simp [Prod.mk.injEq]
theorem encDE : EqE encD 1 := ⟨fun t => (sh_D t).ok, fun t => (sh_D t).lay, fun t => (sh_D t).dep, eqv_D⟩
theorem lo_D {k : Nat} (t : Dd) : loD k (encD t) = true := by
  show (true && los k (t.2.map .int)) = true
  rw [los_int] <;> rfl
theorem los_D {k : Nat} (ts : List Dd) : los k (ts.map encD) = true := los_map lo_D ts
/-- in, of a list of data -/
theorem any_mem {α : Type} [DecidableEq α] {enc : α → D} {n : Nat} (h : EqE enc n) (a : α) : ∀ xs : List α, ((toPs (xs.map enc)).any fun z => PyData.eqv z (toP (enc a))) = decide (a ∈ xs)
  | [] => rfl
  | x :: xs => by
    show (PyData.eqv (toP (enc x)) (toP (enc a)) || (toPs (xs.map enc)).any fun z => PyData.eqv z (toP (enc a))) = _
    rw [h.eqv, any_mem h a xs]
    simp [eq_comm]
theorem v_inE {α : Type} [DecidableEq α] {enc : α → D} {n : Nat} (h : EqE enc n) {a : α} {xs : List α} {e : En} {P : D → En → Prop} {x y : D} (hx : drf e.cs x = enc a) (hy : drf e.cs y = .lst (xs.map enc)) (p : P (.bl (isIn a xs)) e) (hn : n + 1 ≤ 64 := by decide) : qIn false x y e P := by
  refine .inr ⟨_, hy, ?_, h.lst.shp hn xs, ?_⟩
  · rw [hx]
    exact h.shp (by omega) a
  · rw [hx, any_mem h]
    exact p
/-- a comprehension that leaves out, and leaves the cells as they are -/
theorem v_lcF {P : D → En → Prop} {tg : Tg} {tt : DT} {te : DE} {vs : List Nat} {o : Bool} {G : List Cel → Prop} {α : Type} {ds : List D} {e1 : En} (xs : List α) (enc f : α → D) (pr : α → Bool) (hd : ds = xs.map enc) (hz : xs.length ≤ 100000)
  (turn : ∀ (Q : List Cel → Prop) (Q2 : D → List Cel → Prop) (i : Nat) (x : α), xs[i]? = some x → (pr x = false → Q e1.cs) → (pr x = true → Q2 (f x) e1.cs) → ∃ sl', setTg tg (enc x) (wipeD e1.sl vs) = some sl' ∧ tt ⟨sl', e1.cs⟩ fun b e2 => if b = true then te e2 fun y e3 => Q2 y e3.cs else Q e2.cs)
  (done : newL o ((xs.filter pr).map f) ⟨e1.sl, e1.cs⟩ P) (g : G e1.cs := by first | trivial | assumption) : ds.length ≤ sizeLine ∧ ∃ I : Nat → List D → List Cel → Prop, I 0 [] e1.cs ∧
  (∀ i d acc cs, ds[i]? = some d → I i acc cs → G cs ∧ ∃ sl', setTg tg d (wipeD e1.sl vs) = some sl' ∧ tt ⟨sl', cs⟩ fun b e2 => if b = true then te e2 fun y e3 => I (i + 1) (acc ++ [y]) e3.cs else I (i + 1) acc e2.cs) ∧
  ∀ acc cs, acc.length ≤ ds.length → I ds.length acc cs → G cs ∧ newL o acc ⟨e1.sl, cs⟩ P := by
  subst hd
  refine ⟨sz_le (by simpa using hz), fun i acc cs => acc = ((xs.take i).filter pr).map f ∧ cs = e1.cs, ⟨rfl, rfl⟩, ?_, ?_⟩
  · rintro i d acc cs hi ⟨rfl, rfl⟩
    simp only [List.getElem?_map, Option.map_eq_some_iff] at hi
    obtain ⟨x, hx, rfl⟩ := hi
    refine ⟨g, turn (fun cs => ((xs.take i).filter pr).map f = ((xs.take (i + 1)).filter pr).map f ∧ cs = e1.cs) (fun y cs => ((xs.take i).filter pr).map f ++ [y] = ((xs.take (i + 1)).filter pr).map f ∧ cs = e1.cs) i x hx (fun h => ⟨?_, rfl⟩) fun h => ⟨?_, rfl⟩⟩
    · rw [List.take_add_one, hx]
      simp [h]
    · rw [List.take_add_one, hx]
      simp [h]
  · rintro acc cs _ ⟨rfl, rfl⟩
    exact ⟨g, by simpa using done⟩
/-! all deeds -/
/-- a deed that is one for these -/
def isD (b r : Int) (t : Dd) : Prop := match t.1 with
  | .off => ∃ d, t.2 = [d] ∧ 1 ≤ d ∧ d < b
  | .read => ∃ j d, t.2 = [j, d] ∧ 0 ≤ j ∧ j < r ∧ 1 ≤ d ∧ d < b
  | .copy => ∃ j, t.2 = [j] ∧ 0 ≤ j ∧ j < r
  | _ => t.2 = []
theorem isD_of {b r : Int} {t : Dd} (h : t ∈ allD b r) : isD b r t := by
  unfold allD at h
  simp only [List.mem_append, List.mem_cons, List.not_mem_nil, or_false] at h
  rcases h with (((h | h) | h) | h) | h
  · rcases h with rfl | rfl <;> rfl
  · obtain ⟨i, hi, rfl⟩ := List.mem_map.mp h
    have := List.mem_range.mp hi
    exact ⟨_, rfl, by omega, by omega⟩
  · obtain ⟨j, hj, h⟩ := List.mem_flatMap.mp h
    obtain ⟨i, hi, rfl⟩ := List.mem_map.mp h
    have := List.mem_range.mp hi
    have := List.mem_range.mp hj
    exact ⟨_, _, rfl, by omega, by omega, by omega, by omega⟩
  · obtain ⟨i, hi, rfl⟩ := List.mem_map.mp h
    have := List.mem_range.mp hi
    exact ⟨_, rfl, by omega, by omega⟩
  · rcases h with rfl | rfl | rfl <;> rfl
theorem isD.len {b r : Int} {t : Dd} (h : isD b r t) : t.2.length ≤ 2 := by
  obtain ⟨w, l⟩ := t
  cases w <;> simp only [isD] at h <;> first | (obtain ⟨_, rfl, _⟩ := h; simp; done) | (obtain ⟨_, _, rfl, _⟩ := h; simp; done) | (subst h; simp)
theorem allD_nd_all : ∀ b : Nat, b < 13 → ∀ r : Nat, r < 5 → (allD (b : Int) (r : Int)).Nodup := by decide +kernel
theorem allD_nd {b r : Int} (h1 : 2 ≤ b) (h2 : b ≤ 12) (h3 : 1 ≤ r) (h4 : r ≤ 4) : (allD b r).Nodup := by
  have := allD_nd_all b.toNat (by omega) r.toNat (by omega)
  rw [show ((b.toNat : Nat) : Int) = b by omega, show ((r.toNat : Nat) : Int) = r by omega] at this
  exact this
theorem allD_len_all : ∀ b : Nat, b < 13 → 2 ≤ b → ∀ r : Nat, r < 5 → 1 ≤ r → 8 ≤ (allD (b : Int) (r : Int)).length ∧ (allD (b : Int) (r : Int)).length ≤ 100 := by decide +kernel
theorem allD_len {b r : Int} (h1 : 2 ≤ b) (h2 : b ≤ 12) (h3 : 1 ≤ r) (h4 : r ≤ 4) : 8 ≤ (allD b r).length ∧ (allD b r).length ≤ 100 := by
  have := allD_len_all b.toNat (by omega) (by omega) r.toNat (by omega) (by omega)
  rw [show ((b.toNat : Nat) : Int) = b by omega, show ((r.toNat : Nat) : Int) = r by omega] at this
  exact this
/-- as many as there were -/
theorem filter_len {α : Type} [DecidableEq α] : ∀ {xs ys : List α}, xs.Nodup → ys.Nodup → (∀ t ∈ ys, t ∈ xs) → (xs.filter fun t => isIn t ys).length = ys.length := by
  intro xs ys hx hy hs
  have p : (xs.filter fun t => isIn t ys).Perm ys := by
    rw [List.perm_ext_iff_of_nodup (hx.filter _) hy]
    intro a
    rw [List.mem_filter, isIn, decide_eq_true_eq]
    exact ⟨fun h => h.2, fun h => ⟨hs a h, h⟩⟩
  exact p.length_eq
end
section
variable {K : PySem.W.Frag}
theorem st_noc {a b : D} : startD N_number_of_columns [a, b] = [some a, some b, none, none] := rfl
theorem len_number_of_columns : ∀ ds cs Q, sp_number_of_columns K ds cs Q → ds.length = 2 := by rintro ds cs Q ⟨_, _, rfl, _⟩; rfl
theorem vc_number_of_columns : ∀ ds cs Q, Lo ds cs → LoC cs → sp_number_of_columns K ds cs Q → t_number_of_columns K (Po.fn cs Q) ⟨startD N_number_of_columns ds, cs⟩ := by
  rintro ds cs Q hd hc ⟨b, r, rfl, b2, b12, r1, r4, q⟩
  rw [st_noc]
  unfold t_number_of_columns
  walk_at "v"
  refine ⟨fun i e => ∃ x, e = ⟨[some (.int b), some (.int r), some (.int (b ^ i)), x], cs⟩, ⟨none, by simp⟩, ?_, ?_⟩
  · rintro i d e2 hi ⟨x, rfl⟩
    refine ⟨trivial, _, rfl, ?_⟩
    walk_at "v"
    exact ⟨_, by rw [← Int.pow_succ]; rfl⟩
  · rintro e2 ⟨x, rfl⟩
    refine ⟨trivial, ?_⟩
    rw [intsD_len]
    walk_at "v"
    exact .inl q
theorem st_power {a b : D} : startD N_law_power [a, b] = [some a, some b, none, none] := rfl
theorem len_law_power : ∀ ds cs Q, sp_law_power K ds cs Q → ds.length = 2 := by rintro ds cs Q ⟨_, _, rfl, _⟩; rfl
theorem vc_law_power : ∀ ds cs Q, Lo ds cs → LoC cs → sp_law_power K ds cs Q → t_law_power K (Po.fn cs Q) ⟨startD N_law_power ds, cs⟩ := by
  rintro ds cs Q hd hc ⟨b, r, rfl, b2, b12, r1, r4, q⟩
  rw [st_power]
  unfold t_law_power
  walk_at "v"
  refine ⟨fun i e => ∃ x, e = ⟨[some (.int b), some (.int r), some (.int (b ^ i)), x], cs⟩, ⟨none, by simp⟩, ?_, ?_⟩
  · rintro i d e2 hi ⟨x, rfl⟩
    refine ⟨trivial, _, rfl, ?_⟩
    walk_at "v"
    exact ⟨_, by rw [← Int.pow_succ]; rfl⟩
  · rintro e2 ⟨x, rfl⟩
    refine ⟨trivial, ?_⟩
    rw [intsD_len]
    walk_at "v"
    exact .inl q
def cntR (b : Int) : List Nat := (List.range 4).filter fun (i : Nat) => decide (b ^ (1 + (i : Int)).toNat ≤ 1000)
theorem cntR_all : ∀ b : Nat, b < 13 → 2 ≤ b → 1 ≤ (cntR (b : Int)).length ∧ (cntR (b : Int)).length ≤ 4 ∧ ∀ w : Nat, w < 4 → w < (cntR (b : Int)).length → (b : Int) ^ (1 + (w : Int)).toNat ≤ 1000 := by decide +kernel
theorem cntR_ok {b : Int} (h1 : 2 ≤ b) (h2 : b ≤ 12) : 1 ≤ (cntR b).length ∧ (cntR b).length ≤ 4 ∧ ∀ w : Nat, w < 4 → w < (cntR b).length → b ^ (1 + (w : Int)).toNat ≤ 1000 := by
  have := cntR_all b.toNat (by omega) (by omega)
  rw [show ((b.toNat : Nat) : Int) = b by omega] at this
  exact this
theorem st_rows {a b : D} : startD N_law_rows [a, b] = [some a, some b, none] := rfl
theorem len_law_rows : ∀ ds cs Q, sp_law_rows K ds cs Q → ds.length = 2 := by rintro ds cs Q ⟨_, _, _, _, _, rfl, _⟩; rfl
theorem vc_law_rows : ∀ ds cs Q, Lo ds cs → LoC cs → sp_law_rows K ds cs Q → t_law_rows K (Po.fn cs Q) ⟨startD N_law_rows ds, cs⟩ := by
  rintro ds cs Q hd hc ⟨n, b, a, x, c, rfl, hn, b2, b12, q⟩
  obtain ⟨c1, c4, cw⟩ := cntR_ok b2 b12
  rw [st_rows]
  unfold t_law_rows
  walk_at "v"
  refine (v_lcF (List.range 4) (fun (i : Nat) => .int (1 + (i : Int))) (fun (i : Nat) => .int (1 + (i : Int))) (fun (i : Nat) => decide (b ^ (1 + (i : Int)).toNat ≤ 1000)) rfl (by decide) (fun Q' Q2 i y hy k1 k2 => ⟨_, rfl, ?_⟩) ?_).2
  · have hl := List.mem_range.mp (List.mem_of_getElem? hy)
    walk_at "v"
    refine ⟨b, _, rfl, b2, b12, by omega, by omega, ?_⟩
    walk_at "v"
    by_cases h : b ^ (1 + (y : Int)).toNat ≤ 1000
    · rw [decide_eq_true h]
      refine iteT ?_
      walk_at "v"
      exact k2 (decide_eq_true h)
    · rw [decide_eq_false h]
      refine iteF ?_
      exact k1 (decide_eq_false h)
  · walk_at "v"
    refine v_lenK rfl ?_
    rw [List.length_map]
    walk_at "v"
    have c1' : 1 ≤ ((List.range 4).filter fun (i : Nat) => decide (b ^ (1 + (i : Int)).toNat ≤ 1000)).length := c1
    have c4' : ((List.range 4).filter fun (i : Nat) => decide (b ^ (1 + (i : Int)).toNat ≤ 1000)).length ≤ 4 := c4
    refine ⟨n, _, a, x, c, rfl, hn, by omega, by omega, fun w a' x' w0 w1 => ?_⟩
    walk_at "v"
    obtain ⟨k, rfl⟩ : ∃ k : Nat, w = (k : Int) := ⟨w.toNat, by omega⟩
    exact .inl (q _ _ _ ⟨b2, b12, by omega, by omega, cw k (by omega) (by show k < ((List.range 4).filter fun (i : Nat) => decide (b ^ (1 + (i : Int)).toNat ≤ 1000)).length; omega)⟩)
theorem offs_map (b : Int) : (List.range (b - 1).toNat).map (fun (i : Nat) => encD (.off, [1 + (i : Int)])) = (offs b).map encD := by
  unfold offs
  rw [List.map_map]
  rfl
theorem copies_map (r : Int) : (List.range r.toNat).map (fun (i : Nat) => encD (.copy, [0 + (i : Int)])) = (copies r).map encD := by
  unfold copies
  rw [List.map_map]
  rfl
theorem reads_map (b j : Int) : (List.range (b - 1).toNat).map (fun (i : Nat) => encD (.read, [j, 1 + (i : Int)])) = (reads b j).map encD := by
  unfold reads
  rw [List.map_map]
  rfl
theorem readsA_succ (b : Int) (k : Nat) : readsA b (k + 1) = readsA b k ++ reads b (0 + (k : Int)) := by
  unfold readsA
  rw [List.range_succ, List.flatMap_append]
  simp
theorem reads_len (b j : Int) : (reads b j).length = (b - 1).toNat := by simp [reads]
theorem readsA_len (b : Int) : ∀ k : Nat, (readsA b k).length = k * (b - 1).toNat
  | 0 => by simp [readsA]
  | k + 1 => by rw [readsA_succ, List.length_append, readsA_len b k, reads_len, Nat.succ_mul]
theorem mul_44 {b : Int} {k : Nat} (h1 : b ≤ 12) (h2 : k ≤ 4) : k * (b - 1).toNat ≤ 44 := by
  have h3 : (b - 1).toNat ≤ 11 := by omega
  exact Nat.le_trans (Nat.mul_le_mul h2 h3) (by decide)
theorem offs_len (b : Int) : (offs b).length = (b - 1).toNat := by simp [offs]
theorem copies_len (r : Int) : (copies r).length = r.toNat := by simp [copies]
theorem st_all_deeds {a b : D} : startD N_all_deeds [a, b] = [some a, some b, none, none, none] := rfl
theorem len_all_deeds : ∀ ds cs Q, sp_all_deeds K ds cs Q → ds.length = 2 := by rintro ds cs Q ⟨_, _, rfl, _⟩; rfl
theorem vc_all_deeds : ∀ ds cs Q, Lo ds cs → LoC cs → sp_all_deeds K ds cs Q → t_all_deeds K (Po.fn cs Q) ⟨startD N_all_deeds ds, cs⟩ := by
  rintro ds cs Q hd hc ⟨b, r, rfl, b2, b12, r1, r4, q⟩
  have lo := offs_len b
  have lc := copies_len r
  have lr := readsA_len b r.toNat
  have l44 := mul_44 b12 (show r.toNat ≤ 4 by omega)
  rw [← lr] at l44
  rw [st_all_deeds]
  unfold t_all_deeds
  walk_at "v"
  refine v_lcY (List.range (b - 1).toNat) (fun (i : Nat) => .int (1 + (i : Int))) (fun (i : Nat) => encD (.off, [1 + (i : Int)])) rfl (by simp; omega) (fun Q' i x hx q' => ⟨_, rfl, by walk_at "v"; exact q'⟩) ?_
  rw [offs_map]
  walk_at "v"
  refine v_addL ⟨by simp; omega, ?_⟩
  rw [show [D.tup [D.str "forget"], D.tup [D.str "again"]] = [((.forget, []) : Dd), (.again, [])].map encD from rfl, ← List.map_append]
  walk_at "v"
  refine ⟨fun i acc cs' => acc = (readsA b i).map encD ∧ cs' = cs, ⟨rfl, rfl⟩, ?_, ?_⟩
  · rintro i d acc cs' hi ⟨rfl, rfl⟩
    obtain ⟨hi1, rfl⟩ := intsD_get hi
    refine ⟨trivial, _, rfl, ?_⟩
    unfold dYes
    refine iteT ?_
    walk_at "v"
    refine ⟨fun j acc1 cs1 => acc1 = (readsA b i ++ (reads b (0 + (i : Int))).take j).map encD ∧ cs1 = cs', ⟨by simp, rfl⟩, ?_, ?_⟩
    · rintro j d acc1 cs1 hj ⟨rfl, rfl⟩
      obtain ⟨hj1, rfl⟩ := intsD_get hj
      refine ⟨trivial, _, rfl, ?_⟩
      refine iteT ?_
      walk_at "v"
      have h1 := readsA_len b i
      have h2 := mul_44 b12 (show i ≤ 4 by omega)
      refine ⟨Nat.lt_of_le_of_lt (show _ ≤ 1000 by rw [List.length_map, List.length_append, List.length_take, reads_len]; omega) (by decide), ?_, rfl⟩
      have e : (reads b (0 + (i : Int))).take (j + 1) = (reads b (0 + (i : Int))).take j ++ [(.read, [0 + (i : Int), 1 + (j : Int)])] := by
        rw [List.take_add_one]
        congr 1
        unfold reads
        rw [List.getElem?_map, List.getElem?_range hj1]
        rfl
      rw [e, ← List.append_assoc, List.map_append (l₁ := readsA b i ++ (reads b (0 + (i : Int))).take j)]
      rfl
    · rintro acc1 cs1 ⟨rfl, rfl⟩
      rw [intsD_len]
      refine ⟨trivial, ?_, rfl⟩
      rw [readsA_succ, List.take_of_length_le (by rw [reads_len]; exact Nat.le_refl _)]
  · rintro acc cs' ⟨rfl, rfl⟩
    rw [intsD_len]
    refine ⟨trivial, ?_⟩
    walk_at "v"
    refine v_addL ⟨by simp; omega, ?_⟩
    rw [← List.map_append]
    walk_at "v"
    refine v_lcY (List.range r.toNat) (fun (i : Nat) => .int (0 + (i : Int))) (fun (i : Nat) => encD (.copy, [0 + (i : Int)])) rfl (by simp; omega) (fun Q' i x hx q' => ⟨_, rfl, by walk_at "v"; exact q'⟩) ?_
    rw [copies_map]
    walk_at "v"
    refine v_addL ⟨by simp; omega, ?_⟩
    rw [← List.map_append]
    walk_at "v"
    refine v_addL ⟨by simp; omega, ?_⟩
    rw [show [D.tup [D.str "swap"], D.tup [D.str "out"], D.tup [D.str "twice"]] = [((.swap, []) : Dd), (.out, []), (.twice, [])].map encD from rfl, ← List.map_append]
    walk_at "v"
    exact .inl q
theorem st_law_all_deeds {a b : D} : startD N_law_all_deeds [a, b] = [some a, some b, none, none, none] := rfl
theorem len_law_all_deeds : ∀ ds cs Q, sp_law_all_deeds K ds cs Q → ds.length = 2 := by rintro ds cs Q ⟨_, _, rfl, _⟩; rfl
theorem vc_law_all_deeds : ∀ ds cs Q, Lo ds cs → LoC cs → sp_law_all_deeds K ds cs Q → t_law_all_deeds K (Po.fn cs Q) ⟨startD N_law_all_deeds ds, cs⟩ := by
  rintro ds cs Q hd hc ⟨b, r, rfl, b2, b12, r1, r4, q⟩
  have lo := offs_len b
  have lc := copies_len r
  have lr := readsA_len b r.toNat
  have l44 := mul_44 b12 (show r.toNat ≤ 4 by omega)
  rw [← lr] at l44
  rw [st_law_all_deeds]
  unfold t_law_all_deeds
  walk_at "v"
  refine v_lcY (List.range (b - 1).toNat) (fun (i : Nat) => .int (1 + (i : Int))) (fun (i : Nat) => encD (.off, [1 + (i : Int)])) rfl (by simp; omega) (fun Q' i x hx q' => ⟨_, rfl, by walk_at "v"; exact q'⟩) ?_
  rw [offs_map]
  walk_at "v"
  refine v_addL ⟨by simp; omega, ?_⟩
  rw [show [D.tup [D.str "forget"], D.tup [D.str "again"]] = [((.forget, []) : Dd), (.again, [])].map encD from rfl, ← List.map_append]
  walk_at "v"
  refine ⟨fun i e => ∃ x, e = ⟨[some (.int b), some (.int r), some (.lst (([((.forget, []) : Dd), (.again, [])] ++ offs b ++ readsA b i).map encD)), x, none], cs⟩, ⟨none, by simp [readsA]⟩, ?_, ?_⟩
  · rintro i d e2 hi ⟨x, rfl⟩
    obtain ⟨hi1, rfl⟩ := intsD_get hi
    refine ⟨trivial, _, rfl, ?_⟩
    have h1 := readsA_len b i
    have h2 := mul_44 b12 (show i ≤ 4 by omega)
    walk_at "v"
    refine v_lcY (List.range (b - 1).toNat) (fun (i : Nat) => .int (1 + (i : Int))) (fun (k : Nat) => encD (.read, [0 + (i : Int), 1 + (k : Int)])) rfl (by simp; omega) (fun Q' i x hx q' => ⟨_, rfl, by walk_at "v"; exact q'⟩) ?_
    rw [reads_map]
    walk_at "v"
    refine v_addL ⟨by simp [reads_len]; omega, ?_⟩
    rw [← List.map_append]
    walk_at "v"
    refine ⟨some (.int (0 + (i : Int))), ?_⟩
    rw [readsA_succ, ← List.append_assoc]
    rfl
  · rintro e2 ⟨x, rfl⟩
    rw [intsD_len]
    refine ⟨trivial, ?_⟩
    walk_at "v"
    refine v_lcY (List.range r.toNat) (fun (i : Nat) => .int (0 + (i : Int))) (fun (i : Nat) => encD (.copy, [0 + (i : Int)])) rfl (by simp; omega) (fun Q' i x hx q' => ⟨_, rfl, by walk_at "v"; exact q'⟩) ?_
    rw [copies_map]
    walk_at "v"
    refine v_addL ⟨by simp; omega, ?_⟩
    rw [← List.map_append]
    walk_at "v"
    refine v_addL ⟨by simp; omega, ?_⟩
    rw [show [D.tup [D.str "swap"], D.tup [D.str "out"], D.tup [D.str "twice"]] = [((.swap, []) : Dd), (.out, []), (.twice, [])].map encD from rfl, ← List.map_append]
    walk_at "v"
    exact .inl q
end
section
variable {K : PySem.W.Frag}
theorem plT_ty {d : D} (h : plT d = true) (cs : List Cel) : ∃ t, tyN cs d = some t := by
  cases d <;> first | exact ⟨_, rfl⟩ | cases h
theorem okV_plT {d : D} (h : okV d = true) : plT d = true := by
  cases d <;> first | rfl | exact h
theorem okV_tup {xs : List D} (h : okV (.tup xs) = true) : xs.length ≤ 1000 ∧ (∀ x ∈ xs, plT x = true) ∧ layH xs = true := by
  have h' : (decide (xs.length ≤ 1000) && (xs.all plT && layH xs)) = true := h
  rw [Bool.and_eq_true, Bool.and_eq_true, decide_eq_true_eq, List.all_eq_true] at h'
  exact ⟨h'.1, h'.2.1, h'.2.2⟩
theorem shp_str {w : Str} (h : (PyData.str w).canLay0 = true) : shp (.str w) = true := (Sh.str h).shp
theorem v_eqS2 {a c : Str} {e : En} {P : D → En → Prop} (ha : (PyData.str a).canLay0 = true) (hc : (PyData.str c).canLay0 = true) (p : P (.bl (a == c)) e) : qEq (.str a) (.str c) e P := ⟨shp_str ha, shp_str hc, p⟩
theorem cut_tl1 (x : D) (xs : List D) : cutD (x :: xs) (some 1) none = xs := by
  have := cut_from (fun d : D => d) (x :: xs) 1
  simpa using this
theorem v_slT2 {o : Bool} {x : D} {xs : List D} {e : En} {P : D → En → Prop} (p : P (.tup xs) e) : qSl o (.tup (x :: xs)) (some 1) none e P := by
  refine ⟨fun z => ?_, by rw [cut_tl1]; exact p⟩
  have h1 := z.1
  have h2 := HT.sIx_nat (x :: xs).length 0 1
  rw [show ((1 : Nat) : Int) = 1 from rfl, h1] at h2
  simp at h2
theorem st_is_deed {a b c : D} : startD N_is_deed [a, b, c] = [some a, some b, some c, none, none] := rfl
theorem len_is_deed : ∀ ds cs Q, sp_is_deed K ds cs Q → ds.length = 3 := by rintro ds cs Q ⟨_, _, _, rfl, _⟩; rfl
theorem isI_int {d : D} (h : isI d = true) : ∃ i, d = .int i := by
  cases d <;> first | exact ⟨_, rfl⟩ | cases h
theorem vc_is_deed : ∀ ds cs Q, Lo ds cs → LoC cs → sp_is_deed K ds cs Q → t_is_deed K (Po.fn cs Q) ⟨startD N_is_deed ds, cs⟩ := by
  rintro ds cs Q hd hc ⟨d, b, r, rfl, hv, q⟩
  clear hd
  rw [st_is_deed]
  by_cases ht : ∃ xs, d = .tup xs
  · obtain ⟨xs, rfl⟩ := ht
    obtain ⟨hz, hp, hl⟩ := okV_tup hv
    cases xs with
    | nil =>
      unfold t_is_deed
      walk_at "v"
      refine v_lenL (xs := []) rfl (fun _ z => nomatch z) ?_
      walk_at "v"
      exact .inl q
    | cons x rest =>
      have hx := plT_ty (hp x List.mem_cons_self)
      have hlen : (x :: rest).length = rest.length + 1 := rfl
      unfold t_is_deed
      walk_at "v"
      refine v_lenL (xs := x :: rest) rfl (fun _ z => nomatch z) ?_
      rw [hlen]
      walk_at "v"
      rw [decide_eq_false (by omega)]
      walk_at "v"
      refine v_ixTX ⟨_, atI_nat (j := 0) rfl, ?_⟩
      by_cases hs : ∃ w, x = .str w
      · obtain ⟨w, rfl⟩ := hs
        walk_at "v"
        refine v_slT2 ?_
        walk_at "v"
        refine v_lcY rest (fun d => d) (fun d => .bl (isI d)) (by simp) (by rw [hlen] at hz; omega) (fun Q' i x hx q' => ⟨_, rfl, ?_⟩) ?_
        · walk_at "v"
          obtain ⟨t, ht⟩ := plT_ty (hp x (List.mem_cons_of_mem _ (List.mem_of_getElem? hx))) cs
          exact ⟨x, rfl, ⟨t, ht⟩, q'⟩
        walk_at "v"
        refine v_allL (bs := rest.map isI) (by rw [List.map_map]; rfl) ?_
        have ea : ((rest.map isI).all fun b => b) = rest.all isI := by rw [List.all_map]; rfl
        rw [ea]
        have eD : isDd b r (.tup (.str w :: rest)) = (rest.all isI && (if plW w = true then rest.isEmpty else if (w == "off") = true then oneN 1 b rest else if (w == "copy") = true then oneN 0 r rest else (w == "read") && twoN r b rest)) := rfl
        rw [eD] at q
        cases hi : rest.all isI with
        | false =>
          rw [hi, Bool.false_and] at q
          walk_at "v"
          exact .inl q
        | true =>
          rw [hi, Bool.true_and] at q
          rw [List.all_eq_true] at hi
          have lw : (PyData.str w).canLay0 = true := hl
          walk_at "v"
          refine v_ixTX ⟨_, atI_nat (j := 0) rfl, ?_⟩
          walk_at "v"
          refine .inl ⟨rfl, _, rfl, rfl, ?_⟩
          rw [show (if (false : Bool) = true then !inF (.str w) [.str "forget", .str "again", .str "swap", .str "out", .str "twice"] else inF (.str w) [.str "forget", .str "again", .str "swap", .str "out", .str "twice"]) = plW w from rfl]
          cases hw : plW w with
          | true =>
            rw [hw, if_pos rfl] at q
            walk_at "v"
            refine v_lenL (xs := .str w :: rest) rfl (fun _ z => nomatch z) ?_
            walk_at "v"
            rw [show decide ((((D.str w :: rest).length : Nat) : Int) = 1) = rest.isEmpty by cases rest with | nil => rfl | cons y ys => exact decide_eq_false (by simp only [List.length_cons]; omega)]
            exact .inl q
          | false =>
            rw [hw, if_neg Bool.false_ne_true] at q
            walk_at "v"
            refine v_eqS2 lw (by first | rfl | decide +kernel) ?_
            walk_at "v"
            cases ho : (w == ("off" : Str)) with
            | true =>
              rw [ho, if_pos rfl] at q
              walk_at "v"
              refine v_lenL (xs := .str w :: rest) rfl (fun _ z => nomatch z) ?_
              walk_at "v"
              match rest, hi, q with
              | [], _, q => walk_at "v"; refine v_F ?_; exact .inl q
              | [y], hi, q =>
                obtain ⟨i, rfl⟩ := isI_int (hi y List.mem_cons_self)
                refine v_T ?_
                walk_at "v"
                refine v_ite (fun h => ?_) (fun h => ?_)
                · have q : Q (.bl (decide (1 ≤ i) && decide (i < b))) cs := q
                  rw [h, Bool.true_and] at q
                  walk_at "v"
                  exact .inl q
                · have q : Q (.bl (decide (1 ≤ i) && decide (i < b))) cs := q
                  rw [h, Bool.false_and] at q
                  exact .inl q
              | y :: z :: ys, _, q =>
                rw [decide_eq_false (by simp; omega)]
                refine v_F ?_
                rw [show oneN 1 b (y :: z :: ys) = false by cases y <;> rfl] at q
                exact .inl q
            | false =>
              rw [ho, if_neg Bool.false_ne_true] at q
              walk_at "v"
              refine v_eqS2 lw (by first | rfl | decide +kernel) ?_
              walk_at "v"
              cases hcp : (w == ("copy" : Str)) with
              | true =>
                rw [hcp, if_pos rfl] at q
                walk_at "v"
                refine v_lenL (xs := .str w :: rest) rfl (fun _ z => nomatch z) ?_
                walk_at "v"
                match rest, hi, q with
                | [], _, q => refine v_F ?_; exact .inl q
                | [y], hi, q =>
                  obtain ⟨i, rfl⟩ := isI_int (hi y List.mem_cons_self)
                  refine v_T ?_
                  walk_at "v"
                  refine v_ite (fun h => ?_) (fun h => ?_)
                  · have q : Q (.bl (decide (0 ≤ i) && decide (i < r))) cs := q
                    rw [h, Bool.true_and] at q
                    walk_at "v"
                    exact .inl q
                  · have q : Q (.bl (decide (0 ≤ i) && decide (i < r))) cs := q
                    rw [h, Bool.false_and] at q
                    exact .inl q
                | y :: z :: ys, _, q =>
                  rw [decide_eq_false (by simp; omega)]
                  refine v_F ?_
                  rw [show oneN 0 r (y :: z :: ys) = false by cases y <;> rfl] at q
                  exact .inl q
              | false =>
                rw [hcp, if_neg Bool.false_ne_true] at q
                walk_at "v"
                refine v_eqS2 lw (by first | rfl | decide +kernel) ?_
                walk_at "v"
                cases hrd : (w == ("read" : Str)) with
                | false =>
                  rw [hrd, Bool.false_and] at q
                  refine v_F ?_
                  exact .inl q
                | true =>
                  rw [hrd, Bool.true_and] at q
                  refine v_T ?_
                  walk_at "v"
                  refine v_lenL (xs := .str w :: rest) rfl (fun _ z => nomatch z) ?_
                  walk_at "v"
                  match rest, hi, q with
                  | [], _, q => refine v_F ?_; exact .inl q
                  | [y], _, q => refine v_F ?_; cases y <;> exact .inl q
                  | [y, z], hi, q =>
                    obtain ⟨i, rfl⟩ := isI_int (hi y List.mem_cons_self)
                    obtain ⟨j, rfl⟩ := isI_int (hi z (List.mem_cons_of_mem _ List.mem_cons_self))
                    refine v_T ?_
                    walk_at "v"
                    have q : Q (.bl ((decide (0 ≤ i) && decide (i < r)) && (decide (1 ≤ j) && decide (j < b)))) cs := q
                    refine v_ite (fun h => ?_) (fun h => ?_)
                    · rw [h, Bool.true_and] at q
                      walk_at "v"
                      refine v_ite (fun h => ?_) (fun h => ?_)
                      · rw [h, Bool.true_and] at q
                        walk_at "v"
                        refine v_ite (fun h => ?_) (fun h => ?_)
                        · rw [h, Bool.true_and] at q
                          walk_at "v"
                          exact .inl q
                        · rw [h, Bool.false_and] at q
                          exact .inl q
                      · rw [h, Bool.false_and] at q
                        walk_at "v"
                        exact .inl q
                    · rw [h, Bool.false_and, Bool.false_and] at q
                      walk_at "v"
                      exact .inl q
                  | y :: z :: u :: ys, _, q =>
                    rw [decide_eq_false (by simp; omega)]
                    refine v_F ?_
                    have e : twoN r b (y :: z :: u :: ys) = false := by cases y <;> cases z <;> rfl
                    rw [e] at q
                    exact .inl q
      · obtain ⟨t, ht⟩ := hx cs
        have hns : ∀ w, x ≠ .str w := fun w z => hs ⟨w, z⟩
        have e : isDd b r (.tup (x :: rest)) = false := by cases x <;> first | rfl | exact absurd rfl (hns _)
        rw [e] at q
        have f : isTy t "str" = false := by
          cases x <;> first | (cases ht; rfl) | exact absurd rfl (hns _) | (have := hp _ List.mem_cons_self; cases this)
        walk_at "v"
        refine v_isiF rfl ht f ?_
        walk_at "v"
        exact .inl q
  · have hnt : ∀ xs, d ≠ .tup xs := fun xs z => ht ⟨xs, z⟩
    obtain ⟨t, ht⟩ := plT_ty (okV_plT hv) cs
    have e : isDd b r d = false := by cases d <;> first | rfl | exact absurd rfl (hnt _)
    rw [e] at q
    have f : isTy t "tuple" = false := by
      have hp := okV_plT hv
      cases d <;> first | (cases ht; rfl) | exact absurd rfl (hnt _) | cases hp
    unfold t_is_deed
    walk_at "v"
    refine v_isiF rfl ht f ?_
    walk_at "v"
    exact .inl q
end
section
variable {K : PySem.W.Frag}
theorem app_set {cs : List Cel} {c0 c : Cel} : (cs ++ [c0]).set cs.length c = cs ++ [c] := by simp
theorem set_self {cs : List Cel} {n : Nat} {c : Cel} (h : cs[n]? = some c) : cs.set n c = cs := by
  obtain ⟨hl, rfl⟩ := List.getElem?_eq_some_iff.mp h
  exact List.set_getElem_self hl
theorem s3a {cs : List Cel} {n : Nat} {c0 c A B : Cel} (h : cs[n]? = some c0) : ((cs ++ [A]) ++ [B]).set n c = (cs.set n c ++ [A]) ++ [B] := by
  have := (List.getElem?_eq_some_iff.mp h).1
  rw [List.set_append_left _ _ (by simp; omega), List.set_append_left _ _ this]
theorem s3b {cs : List Cel} {c A B : Cel} : ((cs ++ [A]) ++ [B]).set cs.length c = (cs ++ [c]) ++ [B] := by
  rw [List.set_append_left _ _ (by simp)]
  simp
theorem s3c {cs : List Cel} {c A B : Cel} : ((cs ++ [A]) ++ [B]).set (cs.length + 1) c = (cs ++ [A]) ++ [c] := by
  rw [List.set_append_right _ _ (by simp)]
  simp
theorem g3a {cs : List Cel} {n : Nat} {c0 A B : Cel} (h : cs[n]? = some c0) : ((cs ++ [A]) ++ [B])[n]? = some c0 := app_get_lt (app_get_lt h)
theorem g3b {cs : List Cel} {A B : Cel} : ((cs ++ [A]) ++ [B])[cs.length]? = some A := app_get_lt app_get
theorem g3c {cs : List Cel} {A B : Cel} : ((cs ++ [A]) ++ [B])[cs.length + 1]? = some B := by simp
theorem perm_at {α : Type} : ∀ {l : List α} {k : Nat} {y : α}, l[k]? = some y → (y :: l.eraseIdx k).Perm l
  | [], _, _, h => by simp at h
  | x :: xs, 0, y, h => by
    simp at h
    subst h
    exact .refl _
  | x :: xs, k + 1, y, h => by
    simp at h
    exact (List.Perm.swap x y _).trans ((perm_at h).cons x)
theorem map_erase {α β : Type} (f : α → β) : ∀ (l : List α) (k : Nat), (l.map f).eraseIdx k = (l.eraseIdx k).map f
  | [], _ => rfl
  | x :: xs, 0 => rfl
  | x :: xs, k + 1 => congrArg (f x :: ·) (map_erase f xs k)
theorem perm_move {α : Type} {left ys es : List α} {k : Nat} {y : α} (h : (left ++ ys).Perm es) (hk : left[k]? = some y) : (left.eraseIdx k ++ (ys ++ [y])).Perm es := by
  refine List.Perm.trans ?_ h
  have h1 := perm_at hk
  refine List.Perm.trans ?_ (h1.append_right ys)
  rw [← List.append_assoc]
  refine List.Perm.trans List.perm_append_comm ?_
  simp
theorem st_some {a b c : D} : startD N_law_some [a, b, c] = [some a, some b, some c, none, none, none] := rfl
theorem len_law_some : ∀ ds cs Q, sp_law_some K ds cs Q → ds.length = 3 := by rintro ds cs Q ⟨_, _, _, _, _, _, rfl, _⟩; rfl
theorem vc_law_some : ∀ ds cs Q, Lo ds cs → LoC cs → sp_law_some K ds cs Q → t_law_some K (Po.fn cs Q) ⟨startD N_law_some ds, cs⟩ := by
  rintro ds cs Q hd hc ⟨n, a, x, c, m, es, rfl, hn, hnd, m0, m1, m2, q⟩
  rw [st_some]
  unfold t_law_some
  walk_at "v"
  refine v_listL (xs := es.map encD) rfl ?_
  walk_at "v"
  have el : (cs ++ [Cel.lst (es.map encD)]).length = cs.length + 1 := by simp
  dsimp only [List.set]
  refine ⟨fun i e => ∃ (left ys : List Dd) (cs0 : List Cel) (a' x' : Int) (y5 : Option D), (left ++ ys).Perm es ∧ ys.length = i ∧ cs0.length = cs.length ∧ cs0 = cs.set n (deckC a' x' c) ∧ e = ⟨[some (.cell n), some (.lst (es.map encD)), some (.int m), some (.cell cs0.length), some (.cell (cs0.length + 1)), y5], (cs0 ++ [.lst (left.map encD)]) ++ [.lst (ys.map encD)]⟩, ⟨es, [], cs, a, x, none, by simp, rfl, rfl, (set_self hn).symm, by rw [← el]; rfl⟩, ?_, ?_⟩
  · rintro i d e2 hi ⟨left, ys, cs0, a', x', y5, hp, hl, hl0, he, rfl⟩
    obtain ⟨hi1, rfl⟩ := intsD_get hi
    have hlen := hp.length_eq
    rw [List.length_append] at hlen
    have hd0 : cs0[n]? = some (deckC a' x' c) := by rw [he]; exact set_get hn
    refine ⟨trivial, _, rfl, ?_⟩
    walk_at "v"
    refine ⟨⟨_, lk_cell g3c⟩, ?_⟩
    walk_at "v"
    refine ⟨⟨_, lk_cell g3b⟩, ?_⟩
    walk_at "v"
    refine v_lenK (lk_cell g3b) ?_
    rw [List.length_map]
    walk_at "v"
    refine ⟨n, left.length, a', x', c, rfl, g3a hd0, by omega, by omega, fun w a2 x2 w0 w1 => ?_⟩
    obtain ⟨k, rfl⟩ : ∃ k : Nat, w = (k : Int) := ⟨w.toNat, by omega⟩
    have hk : k < left.length := by omega
    have hg : left[k]? = some left[k] := List.getElem?_eq_getElem hk
    generalize left[k] = y at hg
    rw [s3a hd0]
    have e1 : (cs0.set n (deckC a2 x2 c)).length = cs0.length := List.length_set ..
    rw [show cs0.set n (deckC a2 x2 c) = cs.set n (deckC a2 x2 c) by rw [he, List.set_set]] at e1 ⊢
    generalize hcs1 : cs.set n (deckC a2 x2 c) = cs1 at e1
    rw [← e1]
    dsimp only [List.set]
    walk_at "v"
    refine ⟨_, _, k, encD y, rfl, rfl, g3b, by rw [List.getElem?_map, hg]; rfl, by omega, ?_⟩
    rw [s3b]
    walk_at "v"
    refine ⟨_, _, _, rfl, rfl, g3c, Nat.lt_of_le_of_lt (show _ ≤ 1000 by rw [List.length_map]; omega) (by decide), ?_⟩
    rw [s3c]
    walk_at "v"
    refine ⟨left.eraseIdx k, ys ++ [y], cs1, a2, x2, some (.int (0 + (i : Int))), perm_move hp hg, by simp [hl], by omega, hcs1.symm, ?_⟩
    rw [List.map_append]
    congr 3
    · exact congrArg (fun z => [Cel.lst z]) (map_erase encD left k)
  · rintro e2 ⟨left, ys, cs0, a', x', y5, hp, hl, hl0, he, rfl⟩
    rw [intsD_len] at hl
    refine ⟨trivial, ?_⟩
    walk_at "v"
    have et : ((cs0 ++ [Cel.lst (left.map encD)]) ++ [Cel.lst (ys.map encD)]).take cs.length = cs0 := by rw [← hl0]; simp
    have hnp := hp.nodup_iff.mpr hnd
    refine .inr (.inr ⟨_, _, rfl, by omega, g3c, los_D ys, ?_, ?_⟩)
    · rw [et, he]
      exact set_lo rfl
    · rw [et, he]
      have z := q ys a' x' (List.nodup_append.mp hnp).2.1 (fun t ht => hp.mem_iff.mp (List.mem_append_right _ ht)) (by omega)
      unfold DL.fresh at z
      rw [List.length_set] at z
      exact z
end
section
variable {K : PySem.W.Frag}
theorem plW_Wo : ∀ w : Wo, plW w.s = (match w with | .off => false | .read => false | .copy => false | _ => true) := by
  intro w
  cases w <;> first | rfl | decide +kernel
theorem isI_all (ns : List Int) : (ns.map D.int).all isI = true := by
  rw [List.all_map, List.all_eq_true]
  intro x _
  rfl
theorem isDd_eq (b r : Int) (t : Dd) : isDd b r (encD t) = (((t.2.map D.int).all isI) && (if plW t.1.s = true then (t.2.map D.int).isEmpty else if (t.1.s == "off") = true then oneN 1 b (t.2.map D.int) else if (t.1.s == "copy") = true then oneN 0 r (t.2.map D.int) else (t.1.s == "read") && twoN r b (t.2.map D.int))) := rfl
theorem isDd_D {b r : Int} {t : Dd} (h : t ∈ allD b r) : isDd b r (encD t) = true := by
  have hd := isD_of h
  obtain ⟨w, l⟩ := t
  rw [isDd_eq, isI_all, Bool.true_and, plW_Wo]
  cases w <;> simp only [isD] at hd
  case off =>
    obtain ⟨d, rfl, h1, h2⟩ := hd
    show (if (("off" : Str) == "off") = true then oneN 1 b [.int d] else if (("off" : Str) == "copy") = true then oneN 0 r [.int d] else (("off" : Str) == "read") && twoN r b [.int d]) = true
    rw [if_pos (by decide +kernel)]
    show (decide (1 ≤ d) && decide (d < b)) = true
    rw [decide_eq_true h1, decide_eq_true h2]
    rfl
  case read =>
    obtain ⟨j, d, rfl, h0, h00, h1, h2⟩ := hd
    show (if (("read" : Str) == "off") = true then oneN 1 b [.int j, .int d] else if (("read" : Str) == "copy") = true then oneN 0 r [.int j, .int d] else (("read" : Str) == "read") && twoN r b [.int j, .int d]) = true
    rw [if_neg (by decide +kernel), if_neg (by decide +kernel), show (("read" : Str) == "read") = true by decide +kernel, Bool.true_and]
    show ((decide (0 ≤ j) && decide (j < r)) && (decide (1 ≤ d) && decide (d < b))) = true
    rw [decide_eq_true h0, decide_eq_true h00, decide_eq_true h1, decide_eq_true h2]
    rfl
  case copy =>
    obtain ⟨j, rfl, h0, h1⟩ := hd
    show (if (("copy" : Str) == "off") = true then oneN 1 b [.int j] else if (("copy" : Str) == "copy") = true then oneN 0 r [.int j] else (("copy" : Str) == "read") && twoN r b [.int j]) = true
    rw [if_neg (by decide +kernel), if_pos (by decide +kernel)]
    show (decide (0 ≤ j) && decide (j < r)) = true
    rw [decide_eq_true h0, decide_eq_true h1]
    rfl
  all_goals
    subst hd
    rfl
theorem okV_D (t : Dd) (hl : t.2.length ≤ 100) : okV (encD t) = true := by
  show (decide ((D.str t.1.s :: t.2.map .int).length ≤ 1000) && ((D.str t.1.s :: t.2.map .int).all plT && (PyData.str t.1.s).canLay0)) = true
  rw [Wo.lay, decide_eq_true (by simp; omega), Bool.true_and, Bool.and_true, List.all_eq_true]
  intro x hx
  rcases List.mem_cons.mp hx with rfl | hx
  · rfl
  · obtain ⟨i, _, rfl⟩ := List.mem_map.mp hx
    rfl
/-- and no other value is one -/
theorem allD_mem {b r : Int} {t : Dd} (h1 : 2 ≤ b) (h : isD b r t) : t ∈ allD b r := by
  obtain ⟨w, l⟩ := t
  unfold allD
  simp only [List.mem_append, List.mem_cons, List.not_mem_nil, or_false]
  cases w <;> simp only [isD] at h
  case off =>
    obtain ⟨d, rfl, h2, h3⟩ := h
    refine .inl (.inl (.inl (.inr (List.mem_map.mpr ⟨(d - 1).toNat, List.mem_range.mpr (by omega), ?_⟩))))
    rw [show 1 + (((d - 1).toNat : Nat) : Int) = d by omega]
  case read =>
    obtain ⟨j, d, rfl, h2, h3, h4, h5⟩ := h
    refine .inl (.inl (.inr (List.mem_flatMap.mpr ⟨j.toNat, List.mem_range.mpr (by omega), List.mem_map.mpr ⟨(d - 1).toNat, List.mem_range.mpr (by omega), ?_⟩⟩)))
    rw [show 1 + (((d - 1).toNat : Nat) : Int) = d by omega, show 0 + ((j.toNat : Nat) : Int) = j by omega]
  case copy =>
    obtain ⟨j, rfl, h2, h3⟩ := h
    refine .inl (.inr (List.mem_map.mpr ⟨j.toNat, List.mem_range.mpr (by omega), ?_⟩))
    rw [show 0 + ((j.toNat : Nat) : Int) = j by omega]
  case forget => subst h; exact .inl (.inl (.inl (.inl (.inl rfl))))
  case again => subst h; exact .inl (.inl (.inl (.inl (.inr rfl))))
  case swap => subst h; exact .inr (.inl rfl)
  case out => subst h; exact .inr (.inr (.inl rfl))
  case twice => subst h; exact .inr (.inr (.inr rfl))
theorem str_eq {a c : Str} (h : (a == c) = true) : a = c := eq_of_beq h
theorem plW_mem {w : Str} (h : plW w = true) : w = "forget" ∨ w = "again" ∨ w = "swap" ∨ w = "out" ∨ w = "twice" := by
  have h' : ((("forget" : Str) == w) || ((("again" : Str) == w) || ((("swap" : Str) == w) || ((("out" : Str) == w) || ((("twice" : Str) == w) || false))))) = true := h
  simp only [Bool.or_eq_true, Bool.or_false] at h'
  rcases h' with h | h | h | h | h
  · exact .inl (str_eq h).symm
  · exact .inr (.inl (str_eq h).symm)
  · exact .inr (.inr (.inl (str_eq h).symm))
  · exact .inr (.inr (.inr (.inl (str_eq h).symm)))
  · exact .inr (.inr (.inr (.inr (str_eq h).symm)))
theorem oneN_inv {lo hi : Int} {xs : List D} (h : oneN lo hi xs = true) : ∃ d, xs = [.int d] ∧ lo ≤ d ∧ d < hi := by
  unfold oneN at h
  split at h
  · rw [Bool.and_eq_true, decide_eq_true_eq, decide_eq_true_eq] at h
    exact ⟨_, rfl, h.1, h.2⟩
  · cases h
theorem twoN_inv {r b : Int} {xs : List D} (h : twoN r b xs = true) : ∃ j d, xs = [.int j, .int d] ∧ 0 ≤ j ∧ j < r ∧ 1 ≤ d ∧ d < b := by
  unfold twoN at h
  split at h
  · simp only [Bool.and_eq_true, decide_eq_true_eq] at h
    exact ⟨_, _, rfl, h.1.1, h.1.2, h.2.1, h.2.2⟩
  · cases h
theorem isDd_inv {b r : Int} {v : D} (hb : 2 ≤ b) (h : isDd b r v = true) : ∃ t ∈ allD b r, v = encD t := by
  unfold isDd at h
  split at h
  · rename_i w rest
    rw [Bool.and_eq_true] at h
    obtain ⟨_, h⟩ := h
    by_cases hp : plW w = true
    · rw [if_pos hp] at h
      have : rest = [] := by cases rest with | nil => rfl | cons _ _ => cases h
      subst this
      rcases plW_mem hp with rfl | rfl | rfl | rfl | rfl
      · exact ⟨(.forget, []), allD_mem hb rfl, rfl⟩
      · exact ⟨(.again, []), allD_mem hb rfl, rfl⟩
      · exact ⟨(.swap, []), allD_mem hb rfl, rfl⟩
      · exact ⟨(.out, []), allD_mem hb rfl, rfl⟩
      · exact ⟨(.twice, []), allD_mem hb rfl, rfl⟩
    · rw [if_neg hp] at h
      by_cases ho : (w == "off") = true
      · rw [if_pos ho] at h
        obtain ⟨d, rfl, h1, h2⟩ := oneN_inv h
        cases str_eq ho
        exact ⟨(.off, [d]), allD_mem hb ⟨d, rfl, h1, h2⟩, rfl⟩
      · rw [if_neg ho] at h
        by_cases hc : (w == "copy") = true
        · rw [if_pos hc] at h
          obtain ⟨d, rfl, h1, h2⟩ := oneN_inv h
          cases str_eq hc
          exact ⟨(.copy, [d]), allD_mem hb ⟨d, rfl, h1, h2⟩, rfl⟩
        · rw [if_neg hc, Bool.and_eq_true] at h
          obtain ⟨j, d, rfl, h1, h2, h3, h4⟩ := twoN_inv h.2
          cases str_eq h.1
          exact ⟨(.read, [j, d]), allD_mem hb ⟨j, d, rfl, h1, h2, h3, h4⟩, rfl⟩
  · cases h
theorem encD_inj {s t : Dd} (h : encD s = encD t) : s = t := by
  have := eqv_D s t
  rw [h] at this
  have h2 := eqv_D t t
  rw [this] at h2
  simpa using h2
theorem st_Kind_init {a b c d f : D} : startD N_Kind_init [a, b, c, d, f] = [some a, some b, some c, some d, some f, none, none] := rfl
theorem len_Kind_init : ∀ ds cs Q, sp_Kind_init K ds cs Q → ds.length = 5 := by rintro ds cs Q ⟨_, _, _, _, _, _, rfl, _⟩; rfl
theorem keep_len {b r m : Int} {s : List Dd} (g : Gk b r s m) : (keep b r s).length = s.length := filter_len (allD_nd g.n.b2 g.n.b12 g.n.r1 g.n.r4) g.nd g.sub
theorem vc_Kind_init : ∀ ds cs Q, Lo ds cs → LoC cs → sp_Kind_init K ds cs Q → t_Kind_init K (Po.fn cs Q) ⟨startD N_Kind_init ds, cs⟩ := by
  rintro ds cs Q hd hc ⟨n, b, r, m, d, s, rfl, hs, hf, hn, g, q⟩
  have g1 := g.n.b2
  have g2 := g.n.b12
  have g3 := g.n.r1
  have g4 := g.n.r4
  have gl := g.l8
  have g0 := g.l1
  have g5 := g.m1
  have g6 := g.m3
  have al := (allD_len g1 g2 g3 g4).2
  have hty := ty_lk hs hf
  rw [st_Kind_init]
  unfold t_Kind_init
  walk_at "w"
  refine ⟨.int b, rfl, ⟨_, rfl⟩, ?_⟩
  walk_at "w"
  refine v_F ?_
  walk_at "w"
  refine v_itd (fun h => ?_) (fun h => absurd g1 h)
  walk_at "w"
  rw [decide_eq_true g2]
  walk_at "w"
  refine ⟨.int r, rfl, ⟨_, rfl⟩, ?_⟩
  walk_at "w"
  refine v_F ?_
  walk_at "w"
  refine v_itd (fun h => ?_) (fun h => absurd g3 h)
  walk_at "w"
  rw [decide_eq_true g4]
  walk_at "w"
  refine ⟨b, r, rfl, g1, g2, g3, g4, ?_⟩
  walk_at "w"
  rw [decide_eq_false (by have := g.n.c; omega)]
  walk_at "w"
  refine v_itK hs fun G hG => ?_
  refine v_lcY s encD (fun _ => .bl true) rfl (by omega) (fun Q' i x hx q' => ⟨_, rfl, ?_⟩) ?_ hG
  · walk_at "w"
    refine ⟨encD x, b, r, rfl, okV_D x (by have := (isD_of (g.sub x (List.mem_of_getElem? hx))).len; omega), ?_⟩
    rw [isDd_D (g.sub x (List.mem_of_getElem? hx))]
    exact q'
  walk_at "w"
  refine v_allL (bs := s.map fun _ => true) (by rw [List.map_map]; rfl) ?_
  have ea : ((s.map fun _ => true).all fun b => b) = true := by simp
  rw [ea]
  walk_at "w"
  refine ⟨b, r, rfl, g1, g2, g3, g4, ?_⟩
  walk_at "v"
  refine v_lcF (allD b r) encD encD (fun t => isIn t s) rfl (by omega) (fun Q' Q2 i x hx k1 k2 => ⟨_, rfl, ?_⟩) ?_
  · walk_at "w"
    refine v_inE encDE (a := x) (xs := s) rfl (drf_lk hs) ?_
    walk_at "w"
    cases h : isIn x s
    · refine iteF ?_
      exact k1 h
    · refine iteT ?_
      walk_at "w"
      exact k2 h
  have kl := keep_len g
  rw [show (allD b r).filter (fun t => isIn t s) = keep b r s from rfl]
  walk_at "w"
  refine v_lenK rfl ?_
  rw [List.length_map, kl]
  walk_at "w"
  refine v_lenK hs ?_
  rw [List.length_map]
  walk_at "w"
  rw [decide_eq_true rfl]
  walk_at "w"
  refine v_lenK rfl ?_
  rw [List.length_map, kl]
  walk_at "w"
  rw [decide_eq_true (by omega)]
  walk_at "w"
  rw [decide_eq_true (by omega)]
  walk_at "w"
  refine ⟨.int m, rfl, ⟨_, rfl⟩, ?_⟩
  walk_at "w"
  refine v_F ?_
  walk_at "w"
  rw [decide_eq_true g5]
  walk_at "w"
  rw [decide_eq_true g6]
  walk_at "v"
  simp only [List.set_set]
  exact .inl q
theorem len_Kind_deeds : ∀ ds cs Q, sp_Kind_deeds K ds cs Q → ds.length = 1 := by rintro ds cs Q ⟨_, _, _, _, rfl, _⟩; rfl
theorem vc_Kind_deeds : ∀ ds cs Q, Lo ds cs → LoC cs → sp_Kind_deeds K ds cs Q → t_Kind_deeds K (Po.fn cs Q) ⟨startD N_Kind_deeds ds, cs⟩ := by
  rintro ds cs Q hd hc ⟨b, r, m, es, rfl, hl, q⟩
  have hi : insD cs (kiD K b r es m) = some (He.ga K "Kind", kiN, [.int b, .int r, .lst (es.map encD), .int m]) := rfl
  unfold t_Kind_deeds
  walk_at "v"
  refine v_listL (xs := es.map encD) rfl ?_
  walk_at "v"
  exact own_back (los_D _) q
end
section
variable {K : PySem.W.Frag}
theorem isE_true {v : D} {t : Dd} (h : v = encD t) : isE v t = true := @decide_eq_true _ (Classical.propDecidable _) h
theorem isE_false {v : D} {t : Dd} (h : v ≠ encD t) : isE v t = false := @decide_eq_false _ (Classical.propDecidable _) h
theorem any_isE (t : Dd) : ∀ es : List Dd, es.any (isE (encD t)) = isIn t es
  | [] => rfl
  | s :: es => by
    rw [List.any_cons, any_isE t es]
    by_cases h : s = t
    · subst h
      rw [isE_true rfl]
      simp [isIn]
    · rw [isE_false fun z => h (encD_inj z).symm]
      simp [isIn, Ne.symm h]
theorem len_Kind_contains : ∀ ds cs Q, sp_Kind_contains K ds cs Q → ds.length = 2 := by rintro ds cs Q ⟨_, _, _, _, _, rfl, _⟩; rfl
theorem vc_Kind_contains : ∀ ds cs Q, Lo ds cs → LoC cs → sp_Kind_contains K ds cs Q → t_Kind_contains K (Po.fn cs Q) ⟨startD N_Kind_contains ds, cs⟩ := by
  rintro ds cs Q hd hc ⟨b, r, m, es, v, rfl, b2, b12, r1, r4, hv, hs, q⟩
  have hi : insD cs (kiD K b r es m) = some (He.ga K "Kind", kiN, [.int b, .int r, .lst (es.map encD), .int m]) := rfl
  unfold t_Kind_contains
  walk_at "v"
  refine ⟨v, b, r, rfl, hv, ?_⟩
  refine ⟨isDd b r v, rfl, ?_⟩
  cases h : isDd b r v with
  | false =>
    have e : es.any (isE v) = false := by
      rw [Bool.eq_false_iff]
      intro z
      obtain ⟨t, ht, h2⟩ := List.any_eq_true.mp z
      have : v = encD t := @of_decide_eq_true _ (Classical.propDecidable _) h2
      rw [this, isDd_D (hs t ht)] at h
      cases h
    rw [e] at q
    refine v_F ?_
    exact .inl q
  | true =>
    obtain ⟨t, ht, rfl⟩ := isDd_inv b2 h
    rw [any_isE] at q
    refine v_T ?_
    walk_at "v"
    refine v_inE encDE (a := t) (xs := es) rfl rfl ?_
    walk_at "v"
    exact .inl q
theorem len_law_is : ∀ ds cs Q, sp_law_is K ds cs Q → ds.length = 2 := by rintro ds cs Q ⟨_, _, rfl, _⟩; rfl
theorem pairOk_shp {x e : D} (h : shp x = true) (he : shp e = true) : pairOk x e = true := by
  unfold pairOk
  split
  · rfl
  · rw [h, he]
    rfl
theorem pairsOk_ints : ∀ (xs : List D) (ns : List Int), xs.all itOk = true → pairsOk xs (ns.map .int) = true
  | [], _, _ => rfl
  | _ :: _, [], _ => rfl
  | x :: xs, n :: ns, h => by
    rw [List.all_cons, Bool.and_eq_true] at h
    show (pairOk x (.int n) && pairsOk xs (ns.map .int)) = true
    rw [pairsOk_ints xs ns h.2, Bool.and_true]
    have h1 := h.1
    cases x <;> first | rfl | exact pairOk_shp h1 (Sh.int n).shp
theorem pairs_str {w : Str} {x : D} {xs ys : List D} (h : shp x = true) (hw : (PyData.str w).canLay0 = true) : pairsOk (x :: xs) (.str w :: ys) = pairsOk xs ys := by
  show (pairOk x (.str w) && pairsOk xs ys) = _
  have : pairOk x (.str w) = true := pairOk_shp h (shp_str hw)
  rw [this, Bool.true_and]
/-- equal, item by item -/
theorem pairEq_int {x : D} {n : Int} (h : pairEq x (.int n) = true) : x = .int n ∨ ∃ k, x = .bl k := by
  cases x with
  | int i =>
    have h' : PyData.eqv (toP (.int i)) (toP (.int n)) = true := h
    rw [encI.eqv, decide_eq_true_eq] at h'
    exact .inl (by rw [h'])
  | bl k => exact .inr ⟨k, rfl⟩
  | _ => cases h
theorem pairEq_str {x : D} {w : Str} (h : pairEq x (.str w) = true) : x = .str w := by
  cases x with
  | str s =>
    have h' : (s == w) = true := h
    rw [str_eq h']
  | _ => cases h
theorem pairsEq_ints : ∀ (xs : List D) (ns : List Int), pairsEq xs (ns.map .int) = true → (∀ x ∈ xs, ∀ k, x ≠ .bl k) → xs = ns.map .int
  | [], [], _, _ => rfl
  | [], _ :: _, h, _ => by cases h
  | _ :: _, [], h, _ => by cases h
  | x :: xs, n :: ns, h, hb => by
    have h' : (pairEq x (.int n) && pairsEq xs (ns.map .int)) = true := h
    rw [Bool.and_eq_true] at h'
    rw [pairsEq_ints xs ns h'.2 fun y hy => hb y (List.mem_cons_of_mem _ hy)]
    rcases pairEq_int h'.1 with rfl | ⟨k, rfl⟩
    · rfl
    · exact absurd rfl (hb _ List.mem_cons_self k)
theorem pairsEq_self : ∀ ns : List Int, pairsEq (ns.map .int) (ns.map .int) = true
  | [] => rfl
  | n :: ns => by
    show (pairEq (.int n) (.int n) && pairsEq (ns.map .int) (ns.map .int)) = true
    rw [pairsEq_self ns, Bool.and_true]
    show PyData.eqv (toP (.int n)) (toP (.int n)) = true
    rw [encI.eqv, decide_eq_true rfl]
theorem st_is {a b : D} : startD N_law_is [a, b] = [some a, some b, none] := rfl
def isB : D → Bool
  | .bl _ => true
  | _ => false
theorem vc_law_is : ∀ ds cs Q, Lo ds cs → LoC cs → sp_law_is K ds cs Q → t_law_is K (Po.fn cs Q) ⟨startD N_law_is ds, cs⟩ := by
  rintro ds cs Q hd hc ⟨v, t, rfl, g, hl, q⟩
  clear hd
  rw [st_is]
  unfold t_law_is
  by_cases ht : ∃ xs, v = .tup xs
  · obtain ⟨xs, rfl⟩ := ht
    obtain ⟨hz, hp, hlay⟩ := okV_tup g.ok
    have hw := Wo.lay t.1
    walk_at "w"
    have hok : pairsOk xs (.str t.1.s :: t.2.map .int) = true := by
      cases xs with
      | nil => rfl
      | cons x rest =>
        have h' : (shp x && rest.all itOk) = true := g.t
        rw [Bool.and_eq_true] at h'
        rw [pairs_str h'.1 hw]
        exact pairsOk_ints _ _ h'.2
    refine ⟨xs, _, rfl, rfl, hok, ?_⟩
    walk_at "w"
    cases he : pairsEq xs (.str t.1.s :: t.2.map .int) with
    | false =>
      have e : isE (.tup xs) t = false := isE_false fun z => by
        cases z
        have h2 : pairsEq (.str t.1.s :: t.2.map .int) (.str t.1.s :: t.2.map .int) = true := by
          show (pairEq (.str t.1.s) (.str t.1.s) && pairsEq (t.2.map .int) (t.2.map .int)) = true
          rw [pairsEq_self, Bool.and_true]
          show (t.1.s == t.1.s) = true
          exact beq_self_eq_true _
        rw [he] at h2
        cases h2
      rw [e] at q
      walk_at "w"
      exact .inl q
    | true =>
      walk_at "w"
      refine v_lcY (e1 := ⟨_, _⟩) xs (fun d => d) (fun d => .bl (!isB d)) (by simp) (by omega) (fun Q' i x hx q' => ⟨_, rfl, ?_⟩) ?_
      · have hx' := hp x (List.mem_of_getElem? hx)
        walk_at "w"
        cases x <;> first | (cases hx'; done) | (refine v_isi rfl rfl ?_; exact ⟨_, rfl, q'⟩)
      walk_at "w"
      refine v_allL (bs := xs.map fun d => !isB d) (by rw [List.map_map]; rfl) ?_
      have e : ((xs.map fun d => !isB d).all fun b => b) = isE (.tup xs) t := by
        rw [List.all_map]
        cases xs with
        | nil => cases he
        | cons x rest =>
          have he' : (pairEq x (.str t.1.s) && pairsEq rest (t.2.map .int)) = true := he
          rw [Bool.and_eq_true] at he'
          obtain rfl := pairEq_str he'.1
          cases hb : (D.str t.1.s :: rest).all ((fun b => b) ∘ fun d => !isB d) with
          | true =>
            rw [List.all_eq_true] at hb
            have := pairsEq_ints rest t.2 he'.2 fun y hy k z => by
              have := hb y (List.mem_cons_of_mem _ hy)
              rw [z] at this
              cases this
            subst this
            exact (isE_true rfl).symm
          | false =>
            symm
            refine isE_false fun z => ?_
            have z' : rest = t.2.map .int := by
              have := D.tup.inj z
              exact (List.cons.inj this).2
            subst z'
            rw [Bool.eq_false_iff] at hb
            refine hb (List.all_eq_true.mpr fun y hy => ?_)
            rcases List.mem_cons.mp hy with rfl | hy
            · rfl
            · obtain ⟨i, _, rfl⟩ := List.mem_map.mp hy
              rfl
      rw [e]
      walk_at "w"
      exact .inl q
  · have hnt : ∀ xs, v ≠ .tup xs := fun xs z => ht ⟨xs, z⟩
    obtain ⟨ty, hty⟩ := plT_ty (okV_plT g.ok) cs
    rw [isE_false fun z => hnt _ z] at q
    have f : isTy ty "tuple" = false := by
      have hp := okV_plT g.ok
      cases v <;> first | (cases hty; rfl) | exact absurd rfl (hnt _) | cases hp
    walk_at "w"
    refine v_isiF rfl hty f ?_
    walk_at "w"
    exact .inl q
/-! the values -/
structure It (x : D) : Prop where
  p : plT x = true
  i : itOk x = true
  lo : ∀ k, loD k x = true
inductive Its : List D → Prop
  | nil : Its []
  | cons {x : D} {xs : List D} : It x → Its xs → Its (x :: xs)
theorem Its.all : ∀ {xs : List D}, Its xs → ∀ x ∈ xs, It x
  | _, .nil, x, h => nomatch h
  | _, .cons h t, x, hx => by
    rcases List.mem_cons.mp hx with rfl | hx
    · exact h
    · exact t.all x hx
theorem It.of {x : D} (h : shp x = true) (hp : plT x = true) (hl : ∀ k, loD k x = true) : It x := ⟨hp, by cases x <;> first | rfl | exact h, hl⟩
theorem It.int (i : Int) : It (.int i) := .of (Sh.int i).shp rfl fun _ => rfl
theorem It.bl (k : Bool) : It (.bl k) := .of (Sh.bl k).shp rfl fun _ => rfl
theorem It.non : It .non := .of Sh.non.shp rfl fun _ => rfl
theorem It.str {s : Str} (h : (PyData.str s).canLay0 = true) : It (.str s) := .of (shp_str h) rfl fun _ => rfl
theorem It.lst1 (i : Int) : It (.lst [.int i]) := .of (Sh.lst (n := 0) (.cons (Sh.int i) .nil)).shp rfl fun _ => rfl
theorem It.lstS {s : Str} (h : (PyData.str s).canLay0 = true) : It (.lst [.str s]) := .of (Sh.lst (n := 0) (.cons (Sh.str h) .nil)).shp rfl fun _ => rfl
theorem It.tupS {s : Str} (h : (PyData.str s).canLay0 = true) : It (.tup [.str s]) := .of (Sh.tup (n := 0) (.cons (Sh.str h) .nil)).shp rfl fun _ => rfl
theorem It.dct : It .dct := ⟨rfl, rfl, fun _ => rfl⟩
def noD : D → Bool
  | .dct => false
  | _ => true
theorem It.shp {x : D} (h : It x) (hn : noD x = true) : shp x = true := by
  have := h.i
  cases x <;> first | (cases hn; done) | exact this
theorem It.lay {x : D} {xs : List D} (h : It x) (hn : noD x = true) : layH (x :: xs) = true := by
  have := h.shp hn
  cases x with
  | str w =>
    obtain ⟨_, s⟩ := shp_and this
    have s' : ((PyData.str w).canLay0 && decide ((PyData.str w).depth ≤ 64)) = true := s
    rw [Bool.and_eq_true] at s'
    exact s'.1
  | _ => rfl
theorem los_of : ∀ {xs : List D} (k : Nat), (∀ x ∈ xs, loD k x = true) → los k xs = true
  | [], _, _ => rfl
  | x :: xs, k, h => by
    show (loD k x && los k xs) = true
    rw [h x List.mem_cons_self, los_of k fun y hy => h y (List.mem_cons_of_mem _ hy)]
    rfl
theorem Gv.tup {x : D} {xs : List D} (h : Its (x :: xs)) (hn : noD x = true) (hz : decide ((x :: xs).length ≤ 1000) = true) : Gv (.tup (x :: xs)) := by
  cases h with
  | cons h t =>
    refine ⟨?_, ?_, fun k => ?_⟩
    · show (decide ((x :: xs).length ≤ 1000) && ((x :: xs).all plT && layH (x :: xs))) = true
      rw [hz, h.lay hn, Bool.true_and, Bool.and_true, List.all_eq_true]
      exact fun y hy => ((Its.cons h t).all y hy).p
    · show (DL.shp x && xs.all itOk) = true
      rw [h.shp hn, Bool.true_and, List.all_eq_true]
      exact fun y hy => (t.all y hy).i
    · show los k (x :: xs) = true
      exact los_of k fun y hy => ((Its.cons h t).all y hy).lo k
theorem Gv.nil : Gv (.tup []) := ⟨rfl, rfl, fun _ => rfl⟩
def noT : D → Bool
  | .tup _ => false
  | _ => true
theorem Gv.plain {v : D} (h : It v) (hn : noT v = true) : Gv v := by
  refine ⟨?_, ?_, h.lo⟩
  · have := h.p
    cases v <;> first | exact this | cases hn
  · cases v <;> first | rfl | cases hn
theorem Gv.ofD (t : Dd) (hl : t.2.length ≤ 10) : Gv (encD t) := by
  refine ⟨okV_D t (by omega), ?_, fun k => lo_D t⟩
  show (DL.shp (.str t.1.s) && (t.2.map D.int).all itOk) = true
  rw [shp_str (Wo.lay _), Bool.true_and, List.all_eq_true]
  intro x hx
  obtain ⟨i, _, rfl⟩ := List.mem_map.mp hx
  exact (It.int i).i
theorem lay_num : ∀ i : Int, 0 ≤ i → i ≤ 11 → (PyData.str (toString i)).canLay0 = true := by
  intro i h0 h1
  have : i = 0 ∨ i = 1 ∨ i = 2 ∨ i = 3 ∨ i = 4 ∨ i = 5 ∨ i = 6 ∨ i = 7 ∨ i = 8 ∨ i = 9 ∨ i = 10 ∨ i = 11 := by omega
  rcases this with rfl | rfl | rfl | rfl | rfl | rfl | rfl | rfl | rfl | rfl | rfl | rfl <;> decide +kernel
end
section
variable {K : PySem.W.Frag}
theorem st_vals {a b c : D} : startD N_law_values [a, b, c] = [some a, some b, some c, none, none, none, none] := rfl
theorem len_law_values : ∀ ds cs Q, sp_law_values K ds cs Q → ds.length = 3 := by rintro ds cs Q ⟨_, _, _, _, _, _, rfl, _⟩; rfl
theorem vc_law_values : ∀ ds cs Q, Lo ds cs → LoC cs → sp_law_values K ds cs Q → t_law_values K (Po.fn cs Q) ⟨startD N_law_values ds, cs⟩ := by
  rintro ds cs Q hd hc ⟨n, a, x, c, b, r, rfl, hn, b2, b12, r1, r4, q⟩
  rw [st_vals]
  unfold t_law_values
  walk_at "w"
  refine ⟨n, _, a, x, c, rfl, hn, by decide, by decide, fun far a1 x1 f0 f1 => ?_⟩
  walk_at "w"
  refine ⟨n, _, a1, x1, c, rfl, set_get hn, by omega, by omega, fun d0 a2 x2 d00 d01 => ?_⟩
  simp only [List.set_set]
  walk_at "w"
  refine ⟨n, _, a2, x2, c, rfl, set_get hn, by omega, by omega, fun j a3 x3 j0 j1 => ?_⟩
  simp only [List.set_set]
  generalize hd : 1 + d0 = d
  have sd := lay_num d (by omega) (by omega)
  have sj := lay_num j (by omega) (by omega)
  have lgd : d.natAbs.log2 < 1920 := by
    have : d.natAbs < 2 ^ 4 := by omega
    have := (Nat.log2_lt (n := d.natAbs) (k := 4) (by omega)).mpr this
    omega
  have lgj : j.natAbs.log2 < 1920 := by
    by_cases z : j.natAbs = 0
    · rw [z]; decide
    · have : j.natAbs < 2 ^ 4 := by omega
      have := (Nat.log2_lt (n := j.natAbs) (k := 4) z).mpr this
      omega
  walk_at "w"
  refine v_strI lgd ?_
  walk_at "w"
  refine v_addL ⟨by simp only [List.length_append, List.length_cons, List.length_nil]; decide, ?_⟩
  walk_at "w"
  refine v_addL ⟨by simp only [List.length_append, List.length_cons, List.length_nil]; decide, ?_⟩
  walk_at "w"
  refine v_addL ⟨by simp only [List.length_append, List.length_cons, List.length_nil]; decide, ?_⟩
  walk_at "w"
  refine v_addL ⟨by simp only [List.length_append, List.length_cons, List.length_nil]; decide, ?_⟩
  walk_at "w"
  refine v_addL ⟨by simp only [List.length_append, List.length_cons, List.length_nil]; decide, ?_⟩
  walk_at "w"
  refine v_strI lgj ?_
  walk_at "w"
  refine v_strI lgd ?_
  walk_at "w"
  refine v_strI lgj ?_
  walk_at "w"
  refine v_addL ⟨by simp only [List.length_append, List.length_cons, List.length_nil]; decide, ?_⟩
  walk_at "w"
  refine v_addL ⟨by simp only [List.length_append, List.length_cons, List.length_nil]; decide, ?_⟩
  walk_at "w"
  refine v_addL ⟨by simp only [List.length_append, List.length_cons, List.length_nil]; decide, ?_⟩
  simp only [List.cons_append, List.nil_append]
  walk_at "w"
  refine .inl (q _ _ _ (fun v hm => ?_) (by simp only [List.length_cons, List.length_nil]; decide))
  clear q hn hd hc lgd lgj
  have s1 : (PyData.str "off").canLay0 = true := by first | rfl | decide +kernel
  have s2 : (PyData.str "read").canLay0 = true := by first | rfl | decide +kernel
  have s3 : (PyData.str "copy").canLay0 = true := by first | rfl | decide +kernel
  have s4 : (PyData.str "swap").canLay0 = true := by first | rfl | decide +kernel
  have s5 : (PyData.str "forget").canLay0 = true := by first | rfl | decide +kernel
  have s6 : (PyData.str "out").canLay0 = true := by first | rfl | decide +kernel
  have s7 : (PyData.str "OUT").canLay0 = true := by first | rfl | decide +kernel
  have s8 : (PyData.str "again").canLay0 = true := by first | rfl | decide +kernel
  have s9 : (PyData.str "twice").canLay0 = true := by first | rfl | decide +kernel
  have s10 : (PyData.str "none").canLay0 = true := by first | rfl | decide +kernel
  have s11 : (PyData.str "").canLay0 = true := by first | rfl | decide +kernel
  simp only [List.mem_cons, List.not_mem_nil, or_false] at hm
  have tac : True := trivial
  repeat' (rcases hm with rfl | hm)
  rotate_right
  all_goals try subst hm
  all_goals first
    | exact Gv.nil
    | (refine Gv.tup ?_ rfl rfl; repeat' (first | exact Its.nil | refine Its.cons ?_ ?_ | exact It.int _ | exact It.bl _ | exact It.non | exact It.dct | exact It.lst1 _ | exact It.str (by assumption) | exact It.lstS (by assumption) | exact It.tupS (by assumption)))
    | (refine Gv.plain ?_ rfl; first | exact It.int _ | exact It.bl _ | exact It.non | exact It.str (by assumption) | exact It.lstS (by assumption) | exact It.of (Sh.lst (n := 0) (.cons (Sh.str (by assumption)) (.cons (Sh.int _) .nil))).shp rfl (fun _ => rfl) | exact It.of (Sh.lst (n := 1) (.cons (Sh.tup (n := 0) (.cons (Sh.str (by assumption)) .nil)) .nil)).shp rfl (fun _ => rfl))
end
section
variable {K : PySem.W.Frag}
theorem isIn_iff {α : Type} [DecidableEq α] {x : α} {xs : List α} : isIn x xs = true ↔ x ∈ xs := decide_eq_true_iff
theorem keep_sub {b r : Int} {s : List Dd} : ∀ t ∈ keep b r s, t ∈ allD b r := fun t h => (List.mem_filter.mp h).1
theorem keep_any {b r m : Int} {s : List Dd} (g : Gk b r s m) (f : Dd → Bool) : (keep b r s).any f = s.any f := by
  rw [Bool.eq_iff_iff, List.any_eq_true, List.any_eq_true]
  constructor
  · rintro ⟨t, ht, h⟩
    exact ⟨t, isIn_iff.mp (List.mem_filter.mp ht).2, h⟩
  · rintro ⟨t, ht, h⟩
    exact ⟨t, List.mem_filter.mpr ⟨g.sub t ht, isIn_iff.mpr ht⟩, h⟩
theorem v_neB {a b : Bool} {e : En} {P : D → En → Prop} (p : P (.bl (!(a == b))) e) : qNe (.bl a) (.bl b) e P := v_neP (k := (a == b)) ⟨rfl, (Sh.bl a).shp, (Sh.bl b).shp, by show PyData.eqv (.bool a) (.bool b) = _; simp only [PyData.eqv], p⟩
theorem los_ki {k : Nat} {b r m : Int} {es : List Dd} : los k [.int b, .int r, .lst (es.map encD), .int m] = true := by
  show (true && (true && (los k (es.map encD) && (true && true)))) = true
  rw [los_D] <;> rfl
theorem st_law {a : D} : startD N_law [a] = [some a, none, none, none, none, none, none, none, none, none, none, none] := rfl
theorem len_law : ∀ ds cs Q, sp_law K ds cs Q → ds.length = 1 := by rintro ds cs Q ⟨_, rfl, _⟩; rfl
theorem vc_law : ∀ ds cs Q, Lo ds cs → LoC cs → sp_law K ds cs Q → t_law K (Po.fn cs Q) ⟨startD N_law ds, cs⟩ := by
  rintro ds cs Q hd hc ⟨ns, rfl, hl, rfl, q⟩
  rw [st_law]
  unfold t_law
  walk_at "v"
  refine ⟨ns, rfl, fun ms hm => ?_⟩
  walk_at "v"
  refine ⟨fun i e => ∃ x1 x2 x3 x4 x5 x6 x7 x8 x9 x10 x11 cs, e = ⟨[some (.fro (ns.map .int)), x1, x2, x3, x4, x5, x6, x7, x8, x9, x10, x11], cs⟩, ⟨none, none, none, none, none, none, none, none, none, none, none, [], rfl⟩, ?_, ?_⟩
  · rintro i d e2 hi ⟨x1, x2, x3, x4, x5, x6, x7, x8, x9, x10, x11, cs, rfl⟩
    rw [List.getElem?_map, Option.map_eq_some_iff] at hi
    obtain ⟨mm, _, rfl⟩ := hi
    refine ⟨trivial, _, rfl, ?_⟩
    walk_at "w"
    refine ⟨mm, rfl, fun a0 b0 c => ?_⟩
    have hd : (cs ++ [deckC a0 b0 c])[cs.length]? = some (deckC a0 b0 c) := app_get
    generalize cs ++ [deckC a0 b0 c] = cs1 at hd
    generalize cs.length = nd at hd
    walk_at "w"
    refine ⟨_, 11, a0, b0, c, rfl, hd, by decide, by decide, fun bb a1 b1 bb0 bb1 => ?_⟩
    walk_at "w"
    refine ⟨_, _, a1, b1, c, rfl, set_get hd, by omega, by omega, fun r a2 b2 gn => ?_⟩
    simp only [List.set_set]
    walk_at "w"
    generalize hb : 2 + bb = b at gn ⊢
    have al := allD_len gn.b2 gn.b12 gn.r1 gn.r4
    have and := allD_nd gn.b2 gn.b12 gn.r1 gn.r4
    refine ⟨b, r, rfl, gn.b2, gn.b12, gn.r1, gn.r4, ?_⟩
    walk_at "w"
    refine ⟨_, 8, a2, b2, c, rfl, set_get hd, by decide, by decide, fun w a4 b4 w0 w1 => ?_⟩
    simp only [List.set_set]
    walk_at "w"
    refine ⟨nd, a4, b4, c, 1 + w, allD b r, rfl, set_get hd, and, by omega, by omega, by omega, fun s a5 b5 snd ssub slen => .inl ?_⟩
    simp only [List.set_set]
    walk_at "w"
    refine v_listL (xs := s.map encD) rfl ?_
    walk_at "w"
    refine ⟨_, 3, a5, b5, c, rfl, set_get hd, by decide, by decide, fun mo a3 b3 mo0 mo1 => ?_⟩
    simp only [List.set_set]
    generalize hmo : 1 + mo = m
    have m1 : 1 ≤ m := by omega
    have m3 : m ≤ 3 := by omega
    have g : Gk b r s m := ⟨gn, ssub, snd, by omega, by omega, m1, m3⟩
    have g8 := g.l8
    have kl := keep_len g
    have hd3 : (cs1.set nd (deckC a3 b3 c))[nd]? = some (deckC a3 b3 c) := set_get hd
    generalize cs1.set nd (deckC a3 b3 c) = cs2 at hd3 ⊢
    walk_at "w"
    rw [hmo]
    refine ⟨_, b, r, m, _, s, rfl, rfl, (fun _ z => nomatch z), app_get, g, ?_⟩
    rw [app_set]
    refine ⟨rfl, .inr ⟨_, _, _, _, rfl, rfl, los_ki, fun c hc => .inl hc, ?_⟩⟩
    rw [show D.ins (He.ga K "Kind") kiN [.int b, .int r, .lst ((keep b r s).map encD), .int m] = kiD K b r (keep b r s) m from rfl]
    have hki : ∀ cs, insD cs (kiD K b r (keep b r s) m) = some (He.ga K "Kind", kiN, [.int b, .int r, .lst ((keep b r s).map encD), .int m]) := fun _ => rfl
    walk_at "w"
    refine ⟨nd, a3, b3, c, b, r, rfl, hd3, gn.b2, gn.b12, gn.r1, gn.r4, fun vs a6 b6 hvs hvl => ?_⟩
    generalize cs2.set nd (deckC a6 b6 c) = cs3
    walk_at "w"
    refine v_addL ⟨by rw [List.length_map]; omega, ?_⟩
    walk_at "w"
    refine ⟨fun i e => ∃ x9 x10, e = ⟨[some (.fro (ns.map .int)), some (.int mm), some (.cell nd), some (.int b), some (.int r), some (.lst ((allD b r).map encD)), some (.lst (s.map encD)), some (kiD K b r (keep b r s) m), some (.lst vs), x9, x10, x11], cs3⟩, ⟨_, _, rfl⟩, ?_, ?_⟩
    · rintro i v e2 hi ⟨x9, x10, rfl⟩
      have hv : Gv v := by
        rcases List.mem_append.mp (List.mem_of_getElem? hi) with z | z
        · exact hvs v z
        · obtain ⟨t, ht, rfl⟩ := List.mem_map.mp z
          exact Gv.ofD t (by have := (isD_of (ssub t ht)).len; omega)
      refine ⟨trivial, _, rfl, ?_⟩
      walk_at "w"
      refine v_lcY (e1 := ⟨_, _⟩) s encD (fun t => .bl (isE v t)) rfl (by omega) (fun Q' j t ht q' => ⟨_, rfl, ?_⟩) ?_
      · walk_at "w"
        exact ⟨v, t, rfl, hv, (by have := (isD_of (ssub t (List.mem_of_getElem? ht))).len; omega), q'⟩
      walk_at "w"
      refine v_anyL (bs := s.map (isE v)) (by rw [List.map_map]; rfl) ?_
      rw [show ((s.map (isE v)).any fun b => b) = s.any (isE v) by rw [List.any_map]; rfl]
      walk_at "w"
      refine ⟨⟨_, _, hki _⟩, b, r, m, keep b r s, v, rfl, gn.b2, gn.b12, gn.r1, gn.r4, hv.ok, keep_sub, ⟨_, rfl⟩, ?_⟩
      rw [keep_any g]
      walk_at "w"
      refine v_neB ?_
      rw [beq_self_eq_true]
      walk_at "w"
      exact ⟨_, _, rfl⟩
    · rintro e2 ⟨x9, x10, rfl⟩
      refine ⟨trivial, ?_⟩
      walk_at "w"
      refine ⟨⟨_, _, hki _⟩, b, r, m, keep b r s, rfl, by omega, .inl ?_⟩
      walk_at "v"
      refine v_lcF (allD b r) encD encD (fun t => isIn t s) rfl (by omega) (fun Q' Q2 i x hx k1 k2 => ⟨_, rfl, ?_⟩) ?_
      · walk_at "v"
        refine v_inE encDE (a := x) (xs := s) rfl rfl ?_
        walk_at "v"
        cases h : isIn x s
        · refine iteF ?_
          exact k1 h
        · refine iteT ?_
          walk_at "w"
          exact k2 h
      rw [show (allD b r).filter (fun t => isIn t s) = keep b r s from rfl]
      walk_at "w"
      refine v_neE encDE.lst (a := keep b r s) (b := keep b r s) rfl rfl ?_
      rw [decide_eq_true rfl]
      walk_at "w"
      exact ⟨_, _, _, _, _, _, _, _, _, _, _, _, rfl⟩
  · rintro e2 ⟨x1, x2, x3, x4, x5, x6, x7, x8, x9, x10, x11, cs, rfl⟩
    refine ⟨trivial, ?_⟩
    walk_at "w"
    exact .inl (q _)
end
section
variable {P : Program} {w : World} {K : PySem.W.Frag} {mg : Str → Option Value} {base : Heap}
theorem ok_law_cells (T : Txt K mg) : Good P w K mg base 2 (He.ga K "_law_cells") ["script"] (sp_law_cells K) :=
  good_of T.F_law_cells sc_law_cells len_law_cells (fun _ _ _ _ _ _ us hl => match us, hl with | [_], _ => rfl) (d_law_cells T ) vc_law_cells
theorem ok_law_deck (T : Txt K mg) : Good P w K mg base 2 (He.ga K "_law_deck") ["cell"] (sp_law_deck K) :=
  good_of T.F_law_deck sc_law_deck len_law_deck (fun _ _ _ _ _ _ us hl => match us, hl with | [_], _ => rfl) (d_law_deck T ) vc_law_deck
theorem ok_law_draw (T : Txt K mg) : Good P w K mg base 2 (He.ga K "_law_draw") ["deck", "many"] (sp_law_draw K) :=
  good_of T.F_law_draw sc_law_draw len_law_draw (fun _ _ _ _ _ _ us hl => match us, hl with | [_, _], _ => rfl) (d_law_draw T ) vc_law_draw
theorem ok_law_power (T : Txt K mg) : Good P w K mg base 2 (He.ga K "_law_power") ["base", "many"] (sp_law_power K) :=
  good_of T.F_law_power sc_law_power len_law_power (fun _ _ _ _ _ _ us hl => match us, hl with | [_, _], _ => rfl) (d_law_power T ) vc_law_power
theorem ok_law_rows (T : Txt K mg) : Good P w K mg base 5 (He.ga K "_law_rows") ["deck", "base"] (sp_law_rows K) :=
  good_of T.F_law_rows sc_law_rows len_law_rows (fun _ _ _ _ _ _ us hl => match us, hl with | [_, _], _ => rfl) (d_law_rows T (ok_law_draw T) (ok_law_power T)) vc_law_rows
theorem ok_law_all_deeds (T : Txt K mg) : Good P w K mg base 2 (He.ga K "_law_all_deeds") ["base", "rows"] (sp_law_all_deeds K) :=
  good_of T.F_law_all_deeds sc_law_all_deeds len_law_all_deeds (fun _ _ _ _ _ _ us hl => match us, hl with | [_, _], _ => rfl) (d_law_all_deeds T ) vc_law_all_deeds
theorem ok_law_some (T : Txt K mg) : Good P w K mg base 5 (He.ga K "_law_some") ["deck", "deeds", "many"] (sp_law_some K) :=
  good_of T.F_law_some sc_law_some len_law_some (fun _ _ _ _ _ _ us hl => match us, hl with | [_, _, _], _ => rfl) (d_law_some T (ok_law_draw T)) vc_law_some
theorem ok_is_integer (T : Txt K mg) : Good P w K mg base 2 (He.ga K "is_integer") ["value"] (sp_is_integer K) :=
  good_of T.F_is_integer sc_is_integer len_is_integer (fun _ _ _ _ _ _ us hl => match us, hl with | [_], _ => rfl) (d_is_integer T ) vc_is_integer
theorem ok_number_of_columns (T : Txt K mg) : Good P w K mg base 2 (He.ga K "number_of_columns") ["base", "rows"] (sp_number_of_columns K) :=
  good_of T.F_number_of_columns sc_number_of_columns len_number_of_columns (fun _ _ _ _ _ _ us hl => match us, hl with | [_, _], _ => rfl) (d_number_of_columns T ) vc_number_of_columns
theorem ok_is_deed (T : Txt K mg) : Good P w K mg base 5 (He.ga K "is_deed") ["value", "base", "rows"] (sp_is_deed K) :=
  good_of T.F_is_deed sc_is_deed len_is_deed (fun _ _ _ _ _ _ us hl => match us, hl with | [_, _, _], _ => rfl) (d_is_deed T (ok_is_integer T)) vc_is_deed
theorem ok_all_deeds (T : Txt K mg) : Good P w K mg base 2 (He.ga K "all_deeds") ["base", "rows"] (sp_all_deeds K) :=
  good_of T.F_all_deeds sc_all_deeds len_all_deeds (fun _ _ _ _ _ _ us hl => match us, hl with | [_, _], _ => rfl) (d_all_deeds T ) vc_all_deeds
theorem ok_Kind_init (T : Txt K mg) : Good P w K mg base 8 (He.ma K (He.ga K "Kind") "__init__") ["self", "base", "rows", "deeds", "most"] (sp_Kind_init K) :=
  good_of T.F_Kind_init sc_Kind_init len_Kind_init (fun _ _ _ _ _ _ us hl => match us, hl with | [_, _, _, _, _], _ => rfl) (d_Kind_init T (ok_is_integer T) (ok_number_of_columns T) (ok_is_deed T) (ok_all_deeds T)) vc_Kind_init
theorem ok_law_values (T : Txt K mg) : Good P w K mg base 5 (He.ga K "_law_values") ["deck", "base", "rows"] (sp_law_values K) :=
  good_of T.F_law_values sc_law_values len_law_values (fun _ _ _ _ _ _ us hl => match us, hl with | [_, _, _], _ => rfl) (d_law_values T (ok_law_draw T)) vc_law_values
theorem ok_law_is (T : Txt K mg) : Good P w K mg base 2 (He.ga K "_law_is") ["value", "deed"] (sp_law_is K) :=
  good_of T.F_law_is sc_law_is len_law_is (fun _ _ _ _ _ _ us hl => match us, hl with | [_, _], _ => rfl) (d_law_is T ) vc_law_is
theorem ok_Kind_contains (T : Txt K mg) : Good P w K mg base 8 (He.ma K (He.ga K "Kind") "__contains__") ["self", "deed"] (sp_Kind_contains K) :=
  good_of T.F_Kind_contains sc_Kind_contains len_Kind_contains (fun _ _ _ _ _ _ us hl => match us, hl with | [_, _], _ => rfl) (d_Kind_contains T (ok_is_deed T)) vc_Kind_contains
theorem ok_Kind_deeds (T : Txt K mg) : Good P w K mg base 2 (pga K (He.ga K "Kind") "deeds") ["self"] (sp_Kind_deeds K) :=
  good_of T.F_Kind_deeds sc_Kind_deeds len_Kind_deeds (fun _ _ _ _ _ _ us hl => match us, hl with | [_], _ => rfl) (d_Kind_deeds T ) vc_Kind_deeds
theorem okf_law (T : Txt K mg) {fd : FuncData} (F : FunD K "law" "law" (defArgs s_law) (defBody s_law) (defScope s_law) [] [] (He.ga K "law") fd) : FnOk P w K mg base CX0 11 (He.ga K "law") fd ["script"] (spD K spLaw) :=
  fn_d F sc_law (len_law (K := K)) (d_law T (ok_law_cells T) (ok_law_deck T) (ok_law_draw T) (ok_law_rows T) (ok_law_all_deeds T) (ok_law_some T) (ok_Kind_init T) (ok_law_values T) (ok_law_is T) (ok_Kind_contains T) (ok_Kind_deeds T)) vc_law
end
theorem txt {K : PySem.W.Frag} {h : Heap} {mg : Str → Option Value} (X : K.In h) (G : h.Ns mainGlobals mg) (c : SaysY fxs fns K) : Txt K mg where
  g_law_cells := He.glo_ok X G (c.fact 0 (f := .fa (.glo "_law_cells")) rfl)
  g_law_deck := He.glo_ok X G (c.fact 1 (f := .fa (.glo "_law_deck")) rfl)
  g_law_draw := He.glo_ok X G (c.fact 2 (f := .fa (.glo "_law_draw")) rfl)
  g_law_rows := He.glo_ok X G (c.fact 3 (f := .fa (.glo "_law_rows")) rfl)
  g_law_all_deeds := He.glo_ok X G (c.fact 4 (f := .fa (.glo "_law_all_deeds")) rfl)
  g_law_some := He.glo_ok X G (c.fact 5 (f := .fa (.glo "_law_some")) rfl)
  g_Kind := He.glo_ok X G (c.fact 6 (f := .fa (.glo "Kind")) rfl)
  g_law_values := He.glo_ok X G (c.fact 7 (f := .fa (.glo "_law_values")) rfl)
  g_law_is := He.glo_ok X G (c.fact 8 (f := .fa (.glo "_law_is")) rfl)
  g_law_power := He.glo_ok X G (c.fact 9 (f := .fa (.glo "_law_power")) rfl)
  g_is_integer := He.glo_ok X G (c.fact 10 (f := .fa (.glo "is_integer")) rfl)
  g_number_of_columns := He.glo_ok X G (c.fact 11 (f := .fa (.glo "number_of_columns")) rfl)
  g_is_deed := He.glo_ok X G (c.fact 12 (f := .fa (.glo "is_deed")) rfl)
  g_all_deeds := He.glo_ok X G (c.fact 13 (f := .fa (.glo "all_deeds")) rfl)
  g_PLAIN := He.glo_ok X G (c.fact 14 (f := .fa (.glo "PLAIN")) rfl)
  g_law := He.glo_ok X G (c.fact 15 (f := .fa (.glo "law")) rfl)
  c_Kind := He.cls_ok (c.fact 16 (f := .fa (.cls "Kind")) rfl)
  mk_Kind := He.mkr_ok (c.fact 17 (f := .fa (.mkr "Kind")) rfl)
  n_list := He.free_ok X G (c.fact 18 (f := .fa (.free "list")) rfl)
  n_any := He.free_ok X G (c.fact 19 (f := .fa (.free "any")) rfl)
  sm_Kind_contains := sm_ok (c.fact 20 (f := .sm "Kind" "__contains__") rfl)
  p_Kind_deeds := prop_ok (c.fact 21 (f := .prop "Kind" "deeds") rfl)
  n_int := He.free_ok X G (c.fact 22 (f := .fa (.free "int")) rfl)
  n_len := He.free_ok X G (c.fact 23 (f := .fa (.free "len")) rfl)
  n_range := He.free_ok X G (c.fact 24 (f := .fa (.free "range")) rfl)
  ig_MOST_COLUMNS := He.int_ok X G (c.fact 25 (f := .fa (.int "MOST_COLUMNS" 1000)) rfl)
  n_isinstance := He.free_ok X G (c.fact 26 (f := .fa (.free "isinstance")) rfl)
  n_all := He.free_ok X G (c.fact 27 (f := .fa (.free "all")) rfl)
  ig_MOST_DEEDS := He.int_ok X G (c.fact 28 (f := .fa (.int "MOST_DEEDS" 8)) rfl)
  na_Kind_held_base := He.noat_ok (c.fact 29 (f := .fa (.noat "Kind" "held_base")) rfl)
  na_Kind_held_rows := He.noat_ok (c.fact 30 (f := .fa (.noat "Kind" "held_rows")) rfl)
  na_Kind_held_deeds := He.noat_ok (c.fact 31 (f := .fa (.noat "Kind" "held_deeds")) rfl)
  na_Kind_held_most := He.noat_ok (c.fact 32 (f := .fa (.noat "Kind" "held_most")) rfl)
  n_bool := He.free_ok X G (c.fact 33 (f := .fa (.free "bool")) rfl)
  n_tuple := He.free_ok X G (c.fact 34 (f := .fa (.free "tuple")) rfl)
  n_str := He.free_ok X G (c.fact 35 (f := .fa (.free "str")) rfl)
  tg_PLAIN := He.tupB_ok (c.fact 36 (f := .tup "PLAIN" [.str "forget", .str "again", .str "swap", .str "out", .str "twice"]) rfl)
  F_law_cells := c.def_ 0 (d := df_law_cells) rfl
  F_law_deck := c.def_ 1 (d := df_law_deck) rfl
  F_law_draw := c.def_ 2 (d := df_law_draw) rfl
  F_law_power := c.def_ 3 (d := df_law_power) rfl
  F_law_rows := c.def_ 4 (d := df_law_rows) rfl
  F_law_all_deeds := c.def_ 5 (d := df_law_all_deeds) rfl
  F_law_some := c.def_ 6 (d := df_law_some) rfl
  F_is_integer := c.def_ 7 (d := df_is_integer) rfl
  F_number_of_columns := c.def_ 8 (d := df_number_of_columns) rfl
  F_is_deed := c.def_ 9 (d := df_is_deed) rfl
  F_all_deeds := c.def_ 10 (d := df_all_deeds) rfl
  F_Kind_init := c.def_ 11 (d := df_Kind_init) rfl
  F_law_values := c.def_ 12 (d := df_law_values) rfl
  F_law_is := c.def_ 13 (d := df_law_is) rfl
  F_Kind_contains := c.def_ 14 (d := df_Kind_contains) rfl
  F_Kind_deeds := c.def_ 15 (d := df_Kind_deeds) rfl
  F_law := c.def_ 16 (d := df_law) rfl
end LW
open PySem PySem.W PySem.Calls PyProof.Rows
set_option maxRecDepth 100000 in
set_option maxHeartbeats 8000000 in
theorem PySem.Challenge.cw_sumslips_k17_what_is_in_a_kind_holds : PySem.Challenge.rw_sumslips_k17_what_is_in_a_kind.Holds := by
  refine LW.head1 ?hc
  case hc =>
    refine L2.walk_ofE (l := PySem.Challenge.rw_sumslips_k17_what_is_in_a_kind) (n := 63) (k := 11) (x := "script") (CX := L2.CX0) rfl (by decide) (by kernel_rfl) ⟨rfl, by decide, by decide⟩ ?F (fun _ _ _ _ z => z)
    intro w mg fa h Y G hmg0
    obtain ⟨K, KX, c⟩ := Y
    have hmg : mg ("law" : PySem.Str) = some (.ref fa) := hmg0
    have T := LW.txt KX G c
    have e := hmg.symm.trans T.g_law
    cases e
    obtain ⟨fd, F⟩ := T.F_law
    have b := L2.FunD.bindsA (ps := ["script"]) F fun _ _ _ _ _ _ us hl => match us, hl with | [_], _ => rfl
    exact ⟨K, fd, DL.spD K DL.spLaw, KX, fun s v => b s [v] rfl, fun H a ns hl _ hS => DL.law_says H a ns hl hS, fun base _ _ => LW.okf_law T F⟩
