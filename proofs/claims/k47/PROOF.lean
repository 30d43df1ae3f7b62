import PyProof.Rows.All
import Wide.All
import OpenK.AllK
import Wide.FinOn
import HandS.ForMost
import HandS.Evl
import HandS.IsInst
import HandS.Wide
import HandS.Property
import HandS.Deep
import HandS.Style
import HandS.Defaults
import HandS.More
import HandS.Head0
import HandS.Head1
import HandS.Head2
import HandS.HeadEnd
import HandS.HeadHook1
import HandS.HeadHook2
import HandS.Codes
import HandS.ExcInit
import HandS.Zip
import HandS.TupMul
import HandS.Star
import KE.DataFind
import PyProof.AutoSeq1
import PyProof.ListOps
import HandS.Exc
import HandS.ExcOwn
import HandS.ExcIs
import HandS.ExcField
import HandS.ExcCtx
import HandS.TryMany
import KE.KExcIs
import PySem.Challenge.RW_sumslips_k47_whole_results_part_the_slip
set_option Elab.async false
set_option linter.all false
set_option maxRecDepth 100000
set_option maxHeartbeats 8000000
/-! a data layer over the hand layer: values as data, lists that change as numbered cells -/
namespace DL
open PySem PySem.Spec PyProof.Rows L2
open Evl (Ex)

inductive D where
  | non
  | bl (b : Bool)
  | int (i : Int)
  | str (s : Str)
  | tup (xs : List D)
  | lst (xs : List D)
  | fro (xs : List D)
  | ins (C : Addr) (ns : List Str) (xs : List D)
  | cell (n : Nat)
  | dct
  | raw (v : V)

/-- what never changes any more, and where the cells stand -/
structure Wd where
  F : Hp
  m : List Addr
  h : List (Addr × List V)
def Wd.le (W W' : Wd) : Prop := Ex W.F W'.F ∧ (∃ more, W'.m = W.m ++ more) ∧ W'.h = W.h
theorem Wd.le_refl (W : Wd) : W.le W := ⟨Ex.refl _, ⟨[], (List.append_nil _).symm⟩, rfl⟩
theorem Wd.le.tr {W W1 W2 : Wd} (a : W.le W1) (b : W1.le W2) : W.le W2 := by
  obtain ⟨e1, ⟨m1, h1⟩, g1⟩ := a
  obtain ⟨e2, ⟨m2, h2⟩, g2⟩ := b
  exact ⟨e1.trans e2, ⟨m1 ++ m2, by rw [h2, h1, List.append_assoc]⟩, g2.trans g1⟩
theorem Wd.get_more {W W' : Wd} (l : ∃ more, W'.m = W.m ++ more) {n : Nat} {a : Addr} (h : W.m[n]? = some a) : W'.m[n]? = some a := by
  obtain ⟨more, e⟩ := l
  rw [e, List.getElem?_append_left (List.getElem?_eq_some_iff.mp h).1]
  exact h
theorem Wd.le_get {W W' : Wd} (l : W.le W') {n : Nat} {a : Addr} (h : W.m[n]? = some a) : W'.m[n]? = some a := by
  obtain ⟨_, ⟨more, e⟩, _⟩ := l
  rw [e, List.getElem?_append_left (List.getElem?_eq_some_iff.mp h).1]
  exact h

mutual
inductive R (K : PySem.W.Frag) (W : Wd) : V → D → Prop
  | non : R K W .non .non
  | bl (b : Bool) : R K W (.bl b) (.bl b)
  | int (i : Int) : R K W (.int i) (.int i)
  | str (s : Str) : R K W (.str s) (.str s)
  | tup {a : Addr} {vs : List V} {xs : List D} : SqT K W.F a vs → RAll K W vs xs → R K W (.ref a) (.tup xs)
  | lst {a : Addr} {vs : List V} {xs : List D} : W.F a = some (.lst vs) → RAll K W vs xs → R K W (.ref a) (.lst xs)
  | fro {a : Addr} {vs : List V} {xs : List D} : SqL K W.F a vs → RAll K W vs xs → R K W (.ref a) (.fro xs)
  | ins {a C dx : Addr} {gs : List (Str × V)} {xs : List D} : W.F a = some (.ins C dx gs) → RAll K W (gs.map (·.2)) xs → R K W (.ref a) (.ins C (gs.map (·.1)) xs)
  | cell {n : Nat} {a : Addr} : W.m[n]? = some a → R K W (.ref a) (.cell n)
  | dct {a : Addr} {kvs : List (Key × V)} : W.F a = some (.dK kvs) → R K W (.ref a) .dct
  | raw (v : V) : R K W v (.raw v)
inductive RAll (K : PySem.W.Frag) (W : Wd) : List V → List D → Prop
  | nil : RAll K W [] []
  | cons {v : V} {vs : List V} {d : D} {ds : List D} : R K W v d → RAll K W vs ds → RAll K W (v :: vs) (d :: ds)
end
section
variable {K : PySem.W.Frag} {W W' : Wd}
mutual
theorem R.mono' (l : Ex W.F W'.F ∧ ∃ more, W'.m = W.m ++ more) : ∀ (d : D) (v : V), R K W v d → R K W' v d
  | .non, _, h => by cases h; exact .non
  | .bl b, _, h => by cases h; exact .bl b
  | .int i, _, h => by cases h; exact .int i
  | .str s, _, h => by cases h; exact .str s
  | .tup xs, _, h => by
    cases h with
    | tup hs ha => exact .tup (Evl.ex_t l.1 hs) (RAll.mono' l xs _ ha)
  | .lst xs, _, h => by
    cases h with
    | lst hs ha => exact .lst (l.1 _ _ hs) (RAll.mono' l xs _ ha)
  | .fro xs, _, h => by
    cases h with
    | fro hs ha => exact .fro (Evl.ex_l l.1 hs) (RAll.mono' l xs _ ha)
  | .ins C ns xs, _, h => by
    cases h with
    | ins hs ha => exact .ins (l.1 _ _ hs) (RAll.mono' l xs _ ha)
  | .cell n, _, h => by
    cases h with
    | cell hs => exact .cell (Wd.get_more l.2 hs)
  | .dct, _, h => by
    cases h with
    | dct hs => exact .dct (l.1 _ _ hs)
  | .raw v, _, h => by cases h; exact .raw v
theorem RAll.mono' (l : Ex W.F W'.F ∧ ∃ more, W'.m = W.m ++ more) : ∀ (ds : List D) (vs : List V), RAll K W vs ds → RAll K W' vs ds
  | [], _, h => by cases h; exact .nil
  | d :: ds, _, h => by
    cases h with
    | cons h1 h2 => exact .cons (R.mono' l d _ h1) (RAll.mono' l ds _ h2)
end
theorem R.mono (l : W.le W') (d : D) (v : V) (h : R K W v d) : R K W' v d := R.mono' ⟨l.1, l.2.1⟩ d v h
theorem RAll.mono (l : W.le W') (ds : List D) (vs : List V) (h : RAll K W vs ds) : RAll K W' vs ds := RAll.mono' ⟨l.1, l.2.1⟩ ds vs h
/-- what the relation leans on -/
theorem R.world {d : D} {v : V} (h : R K W v d) (hF : W'.F = W.F) (hm : W'.m = W.m) : R K W' v d := R.mono' (W := W) ⟨by rw [hF]; exact Ex.refl _, [], by rw [hm, List.append_nil]⟩ d v h
theorem RAll.world {ds : List D} {vs : List V} (h : RAll K W vs ds) (hF : W'.F = W.F) (hm : W'.m = W.m) : RAll K W' vs ds := RAll.mono' (W := W) ⟨by rw [hF]; exact Ex.refl _, [], by rw [hm, List.append_nil]⟩ ds vs h
theorem RAll.length : ∀ {vs : List V} {ds : List D}, RAll K W vs ds → vs.length = ds.length
  | _, _, .nil => rfl
  | _, _, .cons _ t => by rw [List.length_cons, List.length_cons, RAll.length t]
theorem RAll.get : ∀ {vs : List V} {ds : List D} {i : Nat} {d : D}, RAll K W vs ds → ds[i]? = some d → ∃ v, vs[i]? = some v ∧ R K W v d
  | _, _, _, _, .nil, e => by simp at e
  | _, _, 0, _, .cons r _, e => by simp at e; subst e; exact ⟨_, rfl, r⟩
  | _, _, i + 1, d, .cons _ t, e => by
    obtain ⟨v, h1, h2⟩ := RAll.get (i := i) (d := d) t (by simpa using e)
    exact ⟨v, by simpa using h1, h2⟩
theorem RAll.get' : ∀ {vs : List V} {ds : List D} {i : Nat} {v : V}, RAll K W vs ds → vs[i]? = some v → ∃ d, ds[i]? = some d ∧ R K W v d
  | _, _, _, _, .nil, e => by simp at e
  | _, _, 0, _, .cons r _, e => by simp at e; subst e; exact ⟨_, rfl, r⟩
  | _, _, i + 1, v, .cons _ t, e => by
    obtain ⟨d, h1, h2⟩ := RAll.get' (i := i) (v := v) t (by simpa using e)
    exact ⟨d, by simpa using h1, h2⟩
theorem RAll.set {v : V} {d : D} (r : R K W v d) : ∀ {vs : List V} {ds : List D} (i : Nat), RAll K W vs ds → RAll K W (vs.set i v) (ds.set i d)
  | _, _, _, .nil => .nil
  | _, _, 0, .cons _ t => .cons r t
  | _, _, i + 1, .cons q t => .cons q (RAll.set r i t)
theorem RAll.append : ∀ {vs ws : List V} {ds es : List D}, RAll K W vs ds → RAll K W ws es → RAll K W (vs ++ ws) (ds ++ es)
  | _, _, _, _, .nil, s => s
  | _, _, _, _, .cons r t, s => .cons r (RAll.append t s)
theorem RAll.take : ∀ {vs : List V} {ds : List D} (n : Nat), RAll K W vs ds → RAll K W (vs.take n) (ds.take n)
  | _, _, 0, _ => .nil
  | _, _, _ + 1, .nil => .nil
  | _, _, n + 1, .cons r t => .cons r (RAll.take n t)
theorem RAll.drop : ∀ {vs : List V} {ds : List D} (n : Nat), RAll K W vs ds → RAll K W (vs.drop n) (ds.drop n)
  | _, _, 0, r => r
  | _, _, _ + 1, .nil => .nil
  | _, _, n + 1, .cons _ t => RAll.drop n t
theorem RAll.reverse : ∀ {vs : List V} {ds : List D}, RAll K W vs ds → RAll K W vs.reverse ds.reverse
  | _, _, .nil => .nil
  | _, _, .cons r t => by
    rw [List.reverse_cons, List.reverse_cons]
    exact (RAll.reverse t).append (.cons r .nil)
theorem RAll.dropLast : ∀ {vs : List V} {ds : List D}, RAll K W vs ds → RAll K W vs.dropLast ds.dropLast
  | _, _, .nil => .nil
  | _, _, .cons _ .nil => .nil
  | _, _, .cons r (.cons q t) => .cons r (RAll.dropLast (.cons q t))
theorem RAll.app1 {vs : List V} {ds : List D} {v : V} {d : D} (h : RAll K W vs ds) (r : R K W v d) : RAll K W (vs ++ [v]) (ds ++ [d]) := h.append (.cons r .nil)
theorem RAll.snoc_inv : ∀ {vs : List V} {ds : List D} {d : D}, RAll K W vs (ds ++ [d]) → ∃ ws v, vs = ws ++ [v] ∧ RAll K W ws ds ∧ R K W v d
  | _, [], _, h => by
    cases h with
    | cons r t => cases t; exact ⟨[], _, rfl, .nil, r⟩
  | _, x :: ds, _, h => by
    cases h with
    | cons r t =>
      obtain ⟨ws, v, e, h1, h2⟩ := RAll.snoc_inv t
      subst e
      exact ⟨_ :: ws, v, rfl, .cons r h1, h2⟩
theorem RAll.ints : ∀ (ns : List Int), RAll K W (ns.map V.int) (ns.map D.int)
  | [] => .nil
  | n :: ns => .cons (.int n) (RAll.ints ns)
theorem RAll.ints_inv : ∀ {ns : List Int} {vs : List V}, RAll K W vs (ns.map D.int) → vs = ns.map V.int
  | [], _, h => by cases h; rfl
  | n :: ns, _, h => by
    cases h with
    | cons r t => cases r; rw [RAll.ints_inv t]; rfl
theorem RAll.bls_inv : ∀ {ns : List Bool} {vs : List V}, RAll K W vs (ns.map D.bl) → vs = ns.map V.bl
  | [], _, h => by cases h; rfl
  | n :: ns, _, h => by
    cases h with
    | cons r t => cases r; rw [RAll.bls_inv t]; rfl
theorem RAll.strs_inv : ∀ {ns : List Str} {vs : List V}, RAll K W vs (ns.map D.str) → vs = ns.map V.str
  | [], _, h => by cases h; rfl
  | n :: ns, _, h => by
    cases h with
    | cons r t => cases r; rw [RAll.strs_inv t]; rfl
end

/-- a cell: a list or an instance that changes; a dead one is known no more -/
inductive Cel where
  | dead
  | lst (xs : List D)
  | ins (C : Addr) (ns : List Str) (xs : List D)
  | dic (kxs : List (Int × D))

/-- a dict's pairs, int keys -/
inductive RKs (K : PySem.W.Frag) (W : Wd) : List (Key × V) → List (Int × D) → Prop
  | nil : RKs K W [] []
  | cons {k : Int} {v : V} {d : D} {ps : List (Key × V)} {kxs : List (Int × D)} : R K W v d → RKs K W ps kxs → RKs K W ((.inl k, v) :: ps) ((k, d) :: kxs)
theorem RKs.mono' {K : PySem.W.Frag} {W W' : Wd} (l : Ex W.F W'.F ∧ ∃ more, W'.m = W.m ++ more) : ∀ {ps : List (Key × V)} {kxs : List (Int × D)}, RKs K W ps kxs → RKs K W' ps kxs
  | _, _, .nil => .nil
  | _, _, .cons r t => .cons (R.mono' l _ _ r) (RKs.mono' l t)
theorem RKs.mono {K : PySem.W.Frag} {W W' : Wd} (l : W.le W') {ps : List (Key × V)} {kxs : List (Int × D)} (h : RKs K W ps kxs) : RKs K W' ps kxs := h.mono' ⟨l.1, l.2.1⟩
theorem RKs.world {K : PySem.W.Frag} {W W' : Wd} {ps : List (Key × V)} {kxs : List (Int × D)} (h : RKs K W ps kxs) (hF : W'.F = W.F) (hm : W'.m = W.m) : RKs K W' ps kxs := h.mono' (W := W) ⟨by rw [hF]; exact Ex.refl _, [], by rw [hm, List.append_nil]⟩

def ClOk (K : PySem.W.Frag) (W : Wd) (H : Hp) (a : Addr) : Cel → Prop
  | .dead => True
  | .lst xs => ∃ vs, H a = some (.lst vs) ∧ RAll K W vs xs
  | .ins C ns xs => ∃ dx gs, H a = some (.ins C dx gs) ∧ gs.map (·.1) = ns ∧ RAll K W (gs.map (·.2)) xs
  | .dic kxs => ∃ ps, H a = some (.dK ps) ∧ RKs K W ps kxs

structure Ok (K : PySem.W.Frag) (W : Wd) (H : Hp) (cs : List Cel) : Prop where
  ex : Ex W.F H
  len : W.m.length = cs.length
  nd : W.m.Nodup
  here : ∀ a ∈ W.m, ∃ o, H a = some o
  fr : ∀ (n : Nat) (a : Addr) (c : Cel), W.m[n]? = some a → cs[n]? = some c → c = .dead ∨ W.F a = none
  cl : ∀ (n : Nat) (a : Addr) (c : Cel), W.m[n]? = some a → cs[n]? = some c → ClOk K W H a c
  hd : ∀ p ∈ W.h, H p.1 = some (.lst p.2) ∧ W.F p.1 = none ∧ p.1 ∉ W.m
  hn : (W.h.map (·.1)).Nodup

def SlO (K : PySem.W.Frag) (W : Wd) (σ : L2.St) (sl : List (Option D)) : Prop :=
  σ.length = sl.length ∧ ∀ (i : Nat) (d : D), sl[i]? = some (some d) → ∃ v, σ[i]? = some (some v) ∧ R K W v d

structure En where
  sl : List (Option D)
  cs : List Cel
structure Sd (K : PySem.W.Frag) (W : Wd) (H : Hp) (σ : L2.St) (e : En) : Prop where
  ok : Ok K W H e.cs
  sl : SlO K W σ e.sl

section
variable {K : PySem.W.Frag} {W W' : Wd} {H H' : Hp} {cs cs' : List Cel} {σ : L2.St} {sl : List (Option D)} {e : En}
theorem ClOk.mono (l : W.le W') {a : Addr} : ∀ {c : Cel}, ClOk K W H a c → ClOk K W' H a c
  | .dead, _ => trivial
  | .lst _, ⟨vs, h, r⟩ => ⟨vs, h, RAll.mono l _ _ r⟩
  | .ins _ _ _, ⟨dx, gs, h, e, r⟩ => ⟨dx, gs, h, e, RAll.mono l _ _ r⟩
  | .dic _, ⟨ps, h, r⟩ => ⟨ps, h, r.mono l⟩
theorem ClOk.world {a : Addr} (hF : W'.F = W.F) (hm : W'.m = W.m) : ∀ {c : Cel}, ClOk K W H a c → ClOk K W' H a c
  | .dead, _ => trivial
  | .lst _, ⟨vs, h, r⟩ => ⟨vs, h, r.world hF hm⟩
  | .ins _ _ _, ⟨dx, gs, h, e, r⟩ => ⟨dx, gs, h, e, r.world hF hm⟩
  | .dic _, ⟨ps, h, r⟩ => ⟨ps, h, r.world hF hm⟩
theorem ClOk.to {a : Addr} {c : Cel} (x : ClOk K W H a c) (hF : W'.F = W.F) (hm : W'.m = W.m) : ClOk K W' H a c := ClOk.world hF hm x
theorem ClOk.heap {a : Addr} (e : H' a = H a) : ∀ {c : Cel}, ClOk K W H a c → ClOk K W H' a c
  | .dead, _ => trivial
  | .lst _, ⟨vs, h, r⟩ => ⟨vs, e.trans h, r⟩
  | .ins _ _ _, ⟨dx, gs, h, e', r⟩ => ⟨dx, gs, e.trans h, e', r⟩
  | .dic _, ⟨ps, h, r⟩ => ⟨ps, e.trans h, r⟩
theorem SlO.mono (l : W.le W') (h : SlO K W σ sl) : SlO K W' σ sl :=
  ⟨h.1, fun i d e => let ⟨v, a, b⟩ := h.2 i d e; ⟨v, a, R.mono l _ _ b⟩⟩
theorem SlO.set {i : Nat} {v : V} {d : D} (h : SlO K W σ sl) (r : R K W v d) : SlO K W (σ.set i (some v)) (sl.set i (some d)) := by
  refine ⟨by simp [h.1], fun j d' e => ?_⟩
  rw [List.getElem?_set] at e
  by_cases hij : i = j
  · subst hij
    rw [if_pos rfl] at e
    split at e
    · rename_i hl
      cases e
      exact ⟨v, by rw [List.getElem?_set_self (h.1 ▸ hl)], r⟩
    · cases e
  · rw [if_neg hij] at e
    obtain ⟨v', a, b⟩ := h.2 j d' e
    exact ⟨v', by rw [List.getElem?_set_ne hij]; exact a, b⟩
theorem Ok.fresh (h : Ok K W H cs) {p : Addr} (hp : H p = none) : p ∉ W.m := fun hm => by
  obtain ⟨o, e⟩ := h.here p hm
  rw [hp] at e; cases e
/-- a new object that never changes -/
theorem Ok.newF (h : Ok K W H cs) {p : Addr} {o : HO} (hp : H p = none) : Ok K ⟨upd W.F p o, W.m, W.h⟩ (upd H p o) cs ∧ W.le ⟨upd W.F p o, W.m, W.h⟩ := by
  have hF : W.F p = none := Evl.fresh_back h.ex hp
  have l : W.le ⟨upd W.F p o, W.m, W.h⟩ := ⟨Ex.new hF, ⟨[], (List.append_nil _).symm⟩, rfl⟩
  have ne : ∀ a ∈ W.m, a ≠ p := fun a ha e => h.fresh hp (e ▸ ha)
  have nem : ∀ {n : Nat} {a : Addr}, W.m[n]? = some a → a ≠ p := fun e => ne _ (List.mem_of_getElem? e)
  have neh : ∀ q ∈ W.h, q.1 ≠ p := fun q hq e => by
    have := (h.hd q hq).1
    rw [e, hp] at this; cases this
  refine ⟨⟨fun a u e => ?_, h.len, h.nd, fun a ha => ?_, fun n a c e1 e2 => ?_, fun n a c e1 e2 => ?_, fun q hq => ?_, h.hn⟩, l⟩
  · have e : upd W.F p o a = some u := e
    by_cases q : a = p
    · subst q; rw [upd_same] at e ⊢; exact e
    · rw [upd_ne q] at e ⊢; exact h.ex a u e
  · rw [upd_ne (ne a ha)]; exact h.here a ha
  · rcases h.fr n a c e1 e2 with q | q
    · exact .inl q
    · exact .inr (by show upd W.F p o a = none; rw [upd_ne (nem e1)]; exact q)
  · exact ((h.cl n a c e1 e2).heap (upd_ne (nem e1))).mono l
  · obtain ⟨h1, h2, h3⟩ := h.hd q hq
    exact ⟨by rw [upd_ne (neh q hq)]; exact h1, by show upd W.F p o q.1 = none; rw [upd_ne (neh q hq)]; exact h2, h3⟩
/-- a new cell -/
theorem Ok.newC (h : Ok K W H cs) {p : Addr} {o : HO} {c : Cel} (hp : H p = none) (hc : ∀ W', W.le W' → ClOk K W' (upd H p o) p c) : Ok K ⟨W.F, W.m ++ [p], W.h⟩ (upd H p o) (cs ++ [c]) ∧ W.le ⟨W.F, W.m ++ [p], W.h⟩ := by
  have hF : W.F p = none := Evl.fresh_back h.ex hp
  have l : W.le ⟨W.F, W.m ++ [p], W.h⟩ := ⟨Ex.refl _, ⟨[p], rfl⟩, rfl⟩
  have ne : ∀ a ∈ W.m, a ≠ p := fun a ha e => h.fresh hp (e ▸ ha)
  have cases' : ∀ {n : Nat} {a : Addr} {c' : Cel}, (W.m ++ [p])[n]? = some a → (cs ++ [c])[n]? = some c' → (W.m[n]? = some a ∧ cs[n]? = some c') ∨ (a = p ∧ c' = c) := fun {n a c'} e1 e2 => by
    by_cases hn : n < W.m.length
    · rw [List.getElem?_append_left hn] at e1
      rw [List.getElem?_append_left (h.len ▸ hn)] at e2
      exact .inl ⟨e1, e2⟩
    · have hn' : W.m.length ≤ n := Nat.le_of_not_lt hn
      rw [List.getElem?_append_right hn'] at e1
      rw [List.getElem?_append_right (h.len ▸ hn')] at e2
      rw [← h.len] at e2
      cases hk : n - W.m.length with
      | zero => rw [hk] at e1 e2; simp at e1 e2; exact .inr ⟨e1.symm, e2.symm⟩
      | succ k => rw [hk] at e1; simp at e1
  have neh : ∀ q ∈ W.h, q.1 ≠ p := fun q hq e => by
    have := (h.hd q hq).1
    rw [e, hp] at this; cases this
  refine ⟨⟨h.ex.trans (Ex.new hp), by simp [h.len], ?_, fun a ha => ?_, fun n a c' e1 e2 => ?_, fun n a c' e1 e2 => ?_, fun q hq => ?_, h.hn⟩, l⟩
  · show (W.m ++ [p]).Nodup
    rw [List.nodup_append]
    exact ⟨h.nd, by simp, fun a ha b hb => by rw [List.mem_singleton.mp hb]; exact ne a ha⟩
  · rcases List.mem_append.mp ha with ha | ha
    · rw [upd_ne (ne a ha)]; exact h.here a ha
    · rw [List.mem_singleton.mp ha]; exact ⟨o, upd_same⟩
  · rcases cases' e1 e2 with ⟨q1, q2⟩ | ⟨rfl, rfl⟩
    · exact h.fr n a c' q1 q2
    · exact .inr hF
  · rcases cases' e1 e2 with ⟨q1, q2⟩ | ⟨rfl, rfl⟩
    · exact ((h.cl n a c' q1 q2).heap (upd_ne (ne a (List.mem_of_getElem? q1)))).mono l
    · exact hc _ l
  · obtain ⟨h1, h2, h3⟩ := h.hd q hq
    exact ⟨by rw [upd_ne (neh q hq)]; exact h1, h2, fun hm => (List.mem_append.mp hm).elim h3 fun z => neh q hq (List.mem_singleton.mp z)⟩
/-- a cell is written -/
theorem Ok.setC (h : Ok K W H cs) {n : Nat} {a : Addr} {c c' : Cel} {o : HO} (hm : W.m[n]? = some a) (hc : cs[n]? = some c) (nd : c ≠ .dead) (hc' : ClOk K W (upd H a o) a c') : Ok K W (upd H a o) (cs.set n c') := by
  have hF : W.F a = none := (h.fr n a c hm hc).resolve_left nd
  have inj : ∀ {k : Nat} {b : Addr}, W.m[k]? = some b → k ≠ n → b ≠ a := fun {k b} e hk z => by
    subst z
    obtain ⟨h1, e1⟩ := List.getElem?_eq_some_iff.mp e
    obtain ⟨h2, e2⟩ := List.getElem?_eq_some_iff.mp hm
    exact hk ((List.getElem_inj h.nd).mp (e1.trans e2.symm))
  have neh : ∀ q ∈ W.h, q.1 ≠ a := fun q hq e => (h.hd q hq).2.2 (e ▸ List.mem_of_getElem? hm)
  refine ⟨h.ex.mut hF, by simp [h.len], h.nd, fun b hb => ?_, fun k b c2 e1 e2 => ?_, fun k b c2 e1 e2 => ?_, fun q hq => ?_, h.hn⟩
  · by_cases q : b = a
    · subst q; exact ⟨o, upd_same⟩
    · rw [upd_ne q]; exact h.here b hb
  · by_cases hk : k = n
    · subst hk
      rw [hm] at e1; cases e1
      exact .inr hF
    · rw [List.getElem?_set_ne (Ne.symm hk)] at e2
      exact h.fr k b c2 e1 e2
  · by_cases hk : k = n
    · subst hk
      rw [hm] at e1; cases e1
      have hl : k < cs.length := (List.getElem?_eq_some_iff.mp hc).1
      rw [List.getElem?_set_self hl] at e2; cases e2
      exact hc'
    · rw [List.getElem?_set_ne (Ne.symm hk)] at e2
      exact (h.cl k b c2 e1 e2).heap (upd_ne (inj e1 hk))
  · obtain ⟨h1, h2, h3⟩ := h.hd q hq
    exact ⟨by rw [upd_ne (neh q hq)]; exact h1, h2, h3⟩
/-- a list's cell changes no more -/
theorem Ok.freeze (h : Ok K W H cs) {n : Nat} {a : Addr} {vs : List V} {xs : List D} (hm : W.m[n]? = some a) (hc : cs[n]? = some (.lst xs)) (hv : H a = some (.lst vs)) :
    Ok K ⟨upd W.F a (.lst vs), W.m, W.h⟩ H (cs.set n .dead) ∧ W.le ⟨upd W.F a (.lst vs), W.m, W.h⟩ := by
  have hF : W.F a = none := (h.fr n a _ hm hc).resolve_left (fun z => nomatch z)
  have l : W.le ⟨upd W.F a (.lst vs), W.m, W.h⟩ := ⟨Ex.new hF, ⟨[], (List.append_nil _).symm⟩, rfl⟩
  have inj : ∀ {k : Nat} {b : Addr}, W.m[k]? = some b → k ≠ n → b ≠ a := fun {k b} e hk z => by
    subst z
    obtain ⟨h1, e1⟩ := List.getElem?_eq_some_iff.mp e
    obtain ⟨h2, e2⟩ := List.getElem?_eq_some_iff.mp hm
    exact hk ((List.getElem_inj h.nd).mp (e1.trans e2.symm))
  have neh : ∀ q ∈ W.h, q.1 ≠ a := fun q hq e => (h.hd q hq).2.2 (e ▸ List.mem_of_getElem? hm)
  refine ⟨⟨fun b u e => ?_, by simp [h.len], h.nd, h.here, fun k b c2 e1 e2 => ?_, fun k b c2 e1 e2 => ?_, fun q hq => ?_, h.hn⟩, l⟩
  · have e : upd W.F a (.lst vs) b = some u := e
    by_cases q : b = a
    · subst q; rw [upd_same] at e; rw [hv]; exact e
    · rw [upd_ne q] at e; exact h.ex b u e
  · by_cases hk : k = n
    · subst hk
      have hl : k < cs.length := (List.getElem?_eq_some_iff.mp hc).1
      rw [List.getElem?_set_self hl] at e2; cases e2
      exact .inl rfl
    · rw [List.getElem?_set_ne (Ne.symm hk)] at e2
      rcases h.fr k b c2 e1 e2 with q | q
      · exact .inl q
      · exact .inr (by show upd W.F a _ b = none; rw [upd_ne (inj e1 hk)]; exact q)
  · by_cases hk : k = n
    · subst hk
      have hl : k < cs.length := (List.getElem?_eq_some_iff.mp hc).1
      rw [List.getElem?_set_self hl] at e2; cases e2
      trivial
    · rw [List.getElem?_set_ne (Ne.symm hk)] at e2
      exact (h.cl k b c2 e1 e2).mono l
  · obtain ⟨h1, h2, h3⟩ := h.hd q hq
    exact ⟨h1, by show upd W.F a _ q.1 = none; rw [upd_ne (neh q hq)]; exact h2, h3⟩
/-- a hidden list: laid, grown, given up -/
theorem Ok.hide (h : Ok K W H cs) {p : Addr} (hp : H p = none) {vs : List V} : Ok K ⟨W.F, W.m, (p, vs) :: W.h⟩ (upd H p (.lst vs)) cs := by
  have hF : W.F p = none := Evl.fresh_back h.ex hp
  have ne : ∀ a ∈ W.m, a ≠ p := fun a ha e => h.fresh hp (e ▸ ha)
  have neh : ∀ q ∈ W.h, q.1 ≠ p := fun q hq e => by
    have := (h.hd q hq).1
    rw [e, hp] at this; cases this
  refine ⟨h.ex.trans (Ex.new hp), h.len, h.nd, fun a ha => by rw [upd_ne (ne a ha)]; exact h.here a ha, h.fr, fun n a c e1 e2 => ?_, fun q hq => ?_, ?_⟩
  · have := (h.cl n a c e1 e2).heap (H' := upd H p (.lst vs)) (upd_ne (ne a (List.mem_of_getElem? e1)))
    exact ClOk.to this rfl rfl
  · rcases List.mem_cons.mp hq with rfl | hq
    · exact ⟨upd_same, hF, h.fresh hp⟩
    · obtain ⟨h1, h2, h3⟩ := h.hd q hq
      exact ⟨by rw [upd_ne (neh q hq)]; exact h1, h2, h3⟩
  · show ((p :: W.h.map (·.1))).Nodup
    refine List.nodup_cons.mpr ⟨fun hm => ?_, h.hn⟩
    obtain ⟨q, hq, e⟩ := List.mem_map.mp hm
    exact neh q hq e
theorem Ok.grow {F : Hp} {m : List Addr} {hh : List (Addr × List V)} {p : Addr} {vs vs' : List V} (h : Ok K ⟨F, m, (p, vs) :: hh⟩ H cs) : Ok K ⟨F, m, (p, vs') :: hh⟩ (upd H p (.lst vs')) cs := by
  obtain ⟨h1, h2, h3⟩ := h.hd (p, vs) List.mem_cons_self
  have ne : ∀ a ∈ m, a ≠ p := fun a ha e => h3 (e ▸ ha)
  have hn : (p :: hh.map (·.1)).Nodup := h.hn
  have neh : ∀ q ∈ hh, q.1 ≠ p := fun q hq e => (List.nodup_cons.mp hn).1 (List.mem_map.mpr ⟨q, hq, e⟩)
  refine ⟨h.ex.mut h2, h.len, h.nd, fun a ha => by rw [upd_ne (ne a ha)]; exact h.here a ha, h.fr, fun n a c e1 e2 => ?_, fun q hq => ?_, h.hn⟩
  · have := (h.cl n a c e1 e2).heap (H' := upd H p (.lst vs')) (upd_ne (ne a (List.mem_of_getElem? e1)))
    exact ClOk.to this rfl rfl
  · rcases List.mem_cons.mp hq with rfl | hq
    · exact ⟨upd_same, h2, h3⟩
    · obtain ⟨g1, g2, g3⟩ := h.hd q (List.mem_cons_of_mem _ hq)
      exact ⟨by rw [upd_ne (neh q hq)]; exact g1, g2, g3⟩
/-- .. it changes no more -/
theorem Ok.showF {F : Hp} {m : List Addr} {hh : List (Addr × List V)} {p : Addr} {vs : List V} (h : Ok K ⟨F, m, (p, vs) :: hh⟩ H cs) : Ok K ⟨upd F p (.lst vs), m, hh⟩ H cs ∧ (⟨F, m, hh⟩ : Wd).le ⟨upd F p (.lst vs), m, hh⟩ := by
  obtain ⟨h1, h2, h3⟩ := h.hd (p, vs) List.mem_cons_self
  have ne : ∀ a ∈ m, a ≠ p := fun a ha e => h3 (e ▸ ha)
  have hn : (p :: hh.map (·.1)).Nodup := h.hn
  have neh : ∀ q ∈ hh, q.1 ≠ p := fun q hq e => (List.nodup_cons.mp hn).1 (List.mem_map.mpr ⟨q, hq, e⟩)
  have l : (⟨F, m, hh⟩ : Wd).le ⟨upd F p (.lst vs), m, hh⟩ := ⟨Ex.new h2, ⟨[], (List.append_nil _).symm⟩, rfl⟩
  refine ⟨⟨fun a u e => ?_, h.len, h.nd, h.here, fun n a c e1 e2 => ?_, fun n a c e1 e2 => ?_, fun q hq => ?_, (List.nodup_cons.mp hn).2⟩, l⟩
  · have e : upd F p (.lst vs) a = some u := e
    by_cases q : a = p
    · subst q; rw [upd_same] at e; rw [h1]; exact e
    · rw [upd_ne q] at e; exact h.ex a u e
  · rcases h.fr n a c e1 e2 with q | q
    · exact .inl q
    · exact .inr (by show upd F p _ a = none; rw [upd_ne (ne a (List.mem_of_getElem? e1))]; exact q)
  · exact (ClOk.to (W' := ⟨F, m, hh⟩) (h.cl n a c e1 e2) rfl rfl).mono l
  · obtain ⟨g1, g2, g3⟩ := h.hd q (List.mem_cons_of_mem _ hq)
    exact ⟨g1, by show upd F p _ q.1 = none; rw [upd_ne (neh q hq)]; exact g2, g3⟩
/-- .. it is a cell -/
theorem Ok.showC {F : Hp} {m : List Addr} {hh : List (Addr × List V)} {p : Addr} {vs : List V} {xs : List D} (h : Ok K ⟨F, m, (p, vs) :: hh⟩ H cs) (r : RAll K ⟨F, m, hh⟩ vs xs) : Ok K ⟨F, m ++ [p], hh⟩ H (cs ++ [.lst xs]) ∧ (⟨F, m, hh⟩ : Wd).le ⟨F, m ++ [p], hh⟩ := by
  obtain ⟨h1, h2, h3⟩ := h.hd (p, vs) List.mem_cons_self
  have hn : (p :: hh.map (·.1)).Nodup := h.hn
  have neh : ∀ q ∈ hh, q.1 ≠ p := fun q hq e => (List.nodup_cons.mp hn).1 (List.mem_map.mpr ⟨q, hq, e⟩)
  have l : (⟨F, m, hh⟩ : Wd).le ⟨F, m ++ [p], hh⟩ := ⟨Ex.refl _, ⟨[p], rfl⟩, rfl⟩
  have hl : m.length = cs.length := h.len
  have cases' : ∀ {n : Nat} {a : Addr} {c' : Cel}, (m ++ [p])[n]? = some a → (cs ++ [.lst xs])[n]? = some c' → (m[n]? = some a ∧ cs[n]? = some c') ∨ (a = p ∧ c' = .lst xs) := fun {n a c'} e1 e2 => by
    by_cases hn : n < m.length
    · rw [List.getElem?_append_left hn] at e1
      rw [List.getElem?_append_left (hl ▸ hn)] at e2
      exact .inl ⟨e1, e2⟩
    · have hn' : m.length ≤ n := Nat.le_of_not_lt hn
      rw [List.getElem?_append_right hn'] at e1
      rw [List.getElem?_append_right (hl ▸ hn')] at e2
      rw [← hl] at e2
      cases hk : n - m.length with
      | zero => rw [hk] at e1 e2; simp at e1 e2; exact .inr ⟨e1.symm, e2.symm⟩
      | succ k => rw [hk] at e1; simp at e1
  refine ⟨⟨h.ex, by simp [hl], ?_, fun a ha => ?_, fun n a c e1 e2 => ?_, fun n a c e1 e2 => ?_, fun q hq => ?_, (List.nodup_cons.mp hn).2⟩, l⟩
  · show (m ++ [p]).Nodup
    rw [List.nodup_append]
    exact ⟨h.nd, by simp, fun a ha b hb e => by rw [List.mem_singleton.mp hb] at e; exact h3 (e ▸ ha)⟩
  · rcases List.mem_append.mp ha with ha | ha
    · exact h.here a ha
    · rw [List.mem_singleton.mp ha]; exact ⟨_, h1⟩
  · rcases cases' e1 e2 with ⟨q1, q2⟩ | ⟨rfl, rfl⟩
    · exact h.fr n a c q1 q2
    · exact .inr h2
  · rcases cases' e1 e2 with ⟨q1, q2⟩ | ⟨rfl, rfl⟩
    · exact (ClOk.to (W' := ⟨F, m, hh⟩) (h.cl n a c q1 q2) rfl rfl).mono l
    · exact ⟨vs, h1, RAll.mono l _ _ r⟩
  · obtain ⟨g1, g2, g3⟩ := h.hd q (List.mem_cons_of_mem _ hq)
    exact ⟨g1, g2, fun hm => (List.mem_append.mp hm).elim g3 fun z => neh q hq (List.mem_singleton.mp z)⟩
theorem Sd.mono (h : Sd K W H σ e) (l : W.le W') (ok : Ok K W' H' cs) : Sd K W' H' σ { e with cs := cs } := ⟨ok, h.sl.mono l⟩
end

/-! ### looking at lists -/
def lk (cs : List Cel) : D → Option (List D)
  | .lst xs => some xs
  | .fro xs => some xs
  | .cell n => match cs[n]? with
    | some (.lst xs) => some xs
    | _ => none
  | _ => none
/-- not a locked one -/
def lkP (cs : List Cel) : D → Option (List D)
  | .lst xs => some xs
  | .cell n => match cs[n]? with
    | some (.lst xs) => some xs
    | _ => none
  | _ => none
section
variable {K : PySem.W.Frag} {W : Wd} {H : Hp} {cs : List Cel}
theorem Ok.cellL (h : Ok K W H cs) {n : Nat} {a : Addr} {xs : List D} (hm : W.m[n]? = some a) (hc : cs[n]? = some (.lst xs)) : ∃ vs, H a = some (.lst vs) ∧ RAll K W vs xs := h.cl n a _ hm hc
theorem Ok.lkP (h : Ok K W H cs) {d : D} {v : V} {xs : List D} (r : R K W v d) (e : lkP cs d = some xs) : ∃ a vs, v = .ref a ∧ H a = some (.lst vs) ∧ RAll K W vs xs := by
  cases r <;> simp only [DL.lkP] at e <;> try cases e
  · rename_i a vs hs ha
    exact ⟨a, vs, rfl, h.ex _ _ hs, ha⟩
  · rename_i n a hm
    split at e
    · rename_i xs' hc
      cases e
      obtain ⟨vs, h1, h2⟩ := h.cellL hm hc
      exact ⟨a, vs, rfl, h1, h2⟩
    · cases e
theorem Ok.lk (h : Ok K W H cs) {d : D} {v : V} {xs : List D} (r : R K W v d) (e : lk cs d = some xs) : ∃ a vs, v = .ref a ∧ SqL K H a vs ∧ RAll K W vs xs := by
  cases r <;> simp only [DL.lk] at e <;> try cases e
  · rename_i a vs hs ha
    exact ⟨a, vs, rfl, SqL.of (h.ex _ _ hs), ha⟩
  · rename_i a vs hs ha
    exact ⟨a, vs, rfl, Evl.ex_l h.ex hs, ha⟩
  · rename_i n a hm
    split at e
    · rename_i xs' hc
      cases e
      obtain ⟨vs, h1, h2⟩ := h.cellL hm hc
      exact ⟨a, vs, rfl, SqL.of h1, h2⟩
    · cases e
end

/-! ### lifting -/
/-- what is known of the world all along -/
structure Bs where
  p : Wd → Prop
  up : ∀ {W W' : Wd}, p W → W.le W' → p W'
def Bs.any : Bs := ⟨fun _ => True, fun _ _ => trivial⟩
def Bs.of (W0 : Wd) : Bs := ⟨fun W => W0.le W, fun a b => a.tr b⟩
abbrev DE := En → (D → En → Prop) → Prop
abbrev DT := En → (Bool → En → Prop) → Prop
abbrev DA := En → (List D → En → Prop) → Prop
structure Po where
  nx : En → Prop
  rt : D → List Cel → Prop
  bk : En → Prop := fun _ => False
  ct : En → Prop := fun _ => False
abbrev DS := Po → En → Prop
def lE (K : PySem.W.Frag) (B : Bs) (t : DE) : TE := fun σ H Q => ∃ W e P, B.p W ∧ Sd K W H σ e ∧ t e P ∧
  ∀ d e' W' H' v, P d e' → W.le W' → Sd K W' H' σ e' → R K W' v d → Q v H'
def lT (K : PySem.W.Frag) (B : Bs) (t : DT) : TT := fun σ H Q => ∃ W e P, B.p W ∧ Sd K W H σ e ∧ t e P ∧
  ∀ b e' W' H', P b e' → W.le W' → Sd K W' H' σ e' → Q b H'
def lA (K : PySem.W.Frag) (B : Bs) (t : DA) : TA := fun σ H Q => ∃ W e P, B.p W ∧ Sd K W H σ e ∧ t e P ∧
  ∀ ds e' W' H' vs, P ds e' → W.le W' → Sd K W' H' σ e' → RAll K W' vs ds → Q vs H'
def lS (K : PySem.W.Frag) (B : Bs) (t : DS) : TS := fun D σ H => ∃ W e P, B.p W ∧ Sd K W H σ e ∧ t P e ∧
  (∀ e' W' H' σ', P.nx e' → W.le W' → Sd K W' H' σ' e' → D.nx σ' H') ∧
  (∀ d cs W' H' v, P.rt d cs → W.le W' → Ok K W' H' cs → R K W' v d → D.rt v H') ∧
  (∀ e' W' H' σ', P.bk e' → W.le W' → Sd K W' H' σ' e' → D.bk σ' H') ∧
  (∀ e' W' H' σ', P.ct e' → W.le W' → Sd K W' H' σ' e' → D.ct σ' H')

section
variable {X : Cx} {ex : Expr}
theorem PE.imp {t t' : TE} (h : PE X ex t) (i : ∀ σ H Q, t' σ H Q → t σ H Q) : PE X ex t' := ⟨fun pins s σ H Q I w => h.run pins s σ H Q I (i σ H Q w)⟩
theorem PT.imp {t t' : TT} (h : PT X ex t) (i : ∀ σ H Q, t' σ H Q → t σ H Q) : PT X ex t' := ⟨fun pins s σ H Q I w => h.run pins s σ H Q I (i σ H Q w)⟩
theorem PW.imp {t t' : TT} (h : PW X ex t) (i : ∀ σ H Q, t' σ H Q → t σ H Q) : PW X ex t' := ⟨fun wh pins s σ H Q I w => h.run wh pins s σ H Q I (i σ H Q w)⟩
theorem PA.imp {es : List Expr} {t t' : TA} (h : PA X es t) (i : ∀ σ H Q, t' σ H Q → t σ H Q) : PA X es t' := ⟨fun pos pins s σ H Q I w => h.run pos pins s σ H Q I (i σ H Q w)⟩
theorem PS.imp {st : Stmt} {t t' : TS} (h : PS X st t) (i : ∀ D σ H, t' D σ H → t D σ H) : PS X st t' := ⟨fun pins s σ H D I w => h.run pins s σ H D I (i D σ H w)⟩
theorem PSs.imp {st : List Stmt} {t t' : TS} (h : PSs X st t) (i : ∀ D σ H, t' D σ H → t D σ H) : PSs X st t' := ⟨fun pins s σ H D I w => h.run pins s σ H D I (i D σ H w)⟩
end
end DL
namespace DL
open PySem PySem.Spec PyProof.Rows L2
open Evl (Ex)

/-! ### new objects -/
def newL (o : Bool) (xs : List D) : DE := fun e P => match o with
  | false => P (.lst xs) e
  | true => P (.cell e.cs.length) { e with cs := e.cs ++ [.lst xs] }
section
variable {K : PySem.W.Frag} {W : Wd} {H : Hp} {σ : L2.St} {e : En} {Q : VK} {P : D → En → Prop}
theorem newL_ok {o : Bool} {xs : List D} {vs : List V} (S : Sd K W H σ e) (r : RAll K W vs xs) (t : newL o xs e P)
    (k : ∀ d e' W' H' v, P d e' → W.le W' → Sd K W' H' σ e' → R K W' v d → Q v H') : ∀ p, H p = none → Q (.ref p) (upd H p (.lst vs)) := by
  intro p hp
  cases o with
  | false =>
    obtain ⟨ok, l⟩ := S.ok.newF (o := .lst vs) hp
    exact k _ _ _ _ _ t l ⟨ok, S.sl.mono l⟩ (.lst upd_same (RAll.mono l _ _ r))
  | true =>
    obtain ⟨ok, l⟩ := S.ok.newC (o := .lst vs) (c := .lst xs) hp fun W' l => ⟨vs, upd_same, RAll.mono l _ _ r⟩
    refine k _ _ _ _ _ t l ⟨ok, S.sl.mono l⟩ (.cell ?_)
    show (W.m ++ [p])[e.cs.length]? = some p
    rw [← S.ok.len, List.getElem?_append_right (Nat.le_refl _)]
    simp
theorem newT_ok {xs : List D} {vs : List V} (S : Sd K W H σ e) (r : RAll K W vs xs) (t : P (.tup xs) e)
    (k : ∀ d e' W' H' v, P d e' → W.le W' → Sd K W' H' σ e' → R K W' v d → Q v H') : ∀ p, H p = none → Q (.ref p) (upd H p (.tup vs)) := by
  intro p hp
  obtain ⟨ok, l⟩ := S.ok.newF (o := .tup vs) hp
  exact k _ _ _ _ _ t l ⟨ok, S.sl.mono l⟩ (.tup (SqT.of upd_same) (RAll.mono l _ _ r))
end

/-! ### names and constants -/
def eV (i : Nat) : DE := fun e P => ∃ d, e.sl[i]? = some (some d) ∧ P d e
def eC (d : D) : DE := fun e P => P d e
section
variable {X : Cx} {B : Bs} {a b c ex : Expr} {pos : Pos} {ta tb tc te : DE}
theorem de_var {i : Nat} (h : PE X ex (tVar i)) : PE X ex (lE X.K B (eV i)) := PE.imp h fun σ H Q ⟨W, e, P, _, S, ⟨d, hd, p⟩, k⟩ => by
  obtain ⟨v, hv, r⟩ := S.sl.2 i d hd
  exact ⟨v, hv, k d e W H v p W.le_refl S r⟩
theorem dv (i : Nat) {x : Str} (hN : X.N[i]? = some x := by rfl) (hv : Vis X.env.scope x := by first | exact Or.inl rfl | exact Or.inr (Or.inl rfl) | exact Or.inr (Or.inr rfl)) (hd : (x == ("__debug__" : Str)) = false := by decide)
    (hcd : (x == ("__classdict__" : Str)) = false := by decide) : PE X (.Name x pos) (lE X.K B (eV i)) := de_var (pe_var hN hv hd hcd)
theorem de_c {v : V} {d : D} (h : PE X ex (tC v)) (hr : ∀ W, R X.K W v d) : PE X ex (lE X.K B (eC d)) := PE.imp h fun σ H Q ⟨W, e, P, _, S, p, k⟩ => k d e W H v p W.le_refl S (hr W)
theorem de_int {i j} : PE X (.Constant (.int i) j pos) (lE X.K B (eC (.int i))) := de_c pe_int fun _ => .int i
theorem de_bl {i j} : PE X (.Constant (.bool i) j pos) (lE X.K B (eC (.bl i))) := de_c pe_bl fun _ => .bl i
theorem de_non {j} : PE X (.Constant .none j pos) (lE X.K B (eC .non)) := de_c pe_non fun _ => .non
theorem de_str {s j} : PE X (.Constant (.str s) j pos) (lE X.K B (eC (.str s))) := de_c pe_str fun _ => .str s
/-- a name of the module -/
theorem de_glob {x : Str} {v : V} {u : Value} {d : D} (hg : Gl X x) (hm : X.mg x = some u) (r : RelV v u) (hr : ∀ W, R X.K W v d) (hd : (x == ("__debug__" : Str)) = false := by decide) : PE X (.Name x pos) (lE X.K B (eC d)) := de_c (pe_glob hg hm r hd) hr
theorem de_ty {x : Str} {T : String} (hg : Gl X x) (hm : X.mg x = none) (hv : bootBuiltins x = some (.type T)) (hn : x ≠ "__name__" := by decide) (hd : (x == ("__debug__" : Str)) = false := by decide) : PE X (.Name x pos) (lE X.K B (eC (.raw (.ty T)))) :=
  de_c (pe_bltn (v := .ty T) hg hm hv rfl hn hd) fun _ => .raw _

/-! ### operators -/
/-- an operation by data -/
def OpD (K : PySem.W.Frag) (r : R2) (q : D → D → DE) : Prop := ∀ (W : Wd) (H : Hp) (σ : L2.St) (e : En) (x y : V) (d1 d2 : D) (P : D → En → Prop) (Q : VK), Sd K W H σ e → R K W x d1 → R K W y d2 → q d1 d2 e P →
  (∀ d e' W' H' v, P d e' → W.le W' → Sd K W' H' σ e' → R K W' v d → Q v H') → r x y H Q
def eBin (q : D → D → DE) (ta tb : DE) : DE := fun e P => ta e fun x e1 => tb e1 fun y e2 => q x y e2 P
theorem bin_ok {r : R2} {q : D → D → DE} (hq : OpD X.K r q) : ∀ σ H Q, lE X.K B (eBin q ta tb) σ H Q → tOp r (lE X.K B ta) (lE X.K B tb) σ H Q :=
  fun σ H Q ⟨W, e, P, bl, S, t, k⟩ => ⟨W, e, _, bl, S, t, fun x e1 W1 H1 v1 t1 l1 S1 r1 => ⟨W1, e1, _, (B.up bl l1), S1, t1, fun y e2 W2 H2 v2 t2 l2 S2 r2 =>
    hq W2 H2 σ e2 v1 v2 x y P Q S2 (R.mono l2 _ _ r1) r2 t2 fun d e3 W3 H3 v3 p l3 S3 r3 => k d e3 W3 H3 v3 p ((l1.tr l2).tr l3) S3 r3⟩⟩
theorem de_bin {op : Operator} {r : R2} {q : D → D → DE} (ho : OpR X (binaryOp op) r) (hq : OpD X.K r q) (ha : PE X a (lE X.K B ta)) (hb : PE X b (lE X.K B tb)) : PE X (.BinOp a op b pos) (lE X.K B (eBin q ta tb)) :=
  PE.imp (pe_op ho ha hb) (bin_ok hq)
theorem de_cmp {op : CmpOp} {r : R2} {q : D → D → DE} (ho : OpR X (compareOp op) r) (hq : OpD X.K r q) (ha : PE X a (lE X.K B ta)) (hb : PE X b (lE X.K B tb)) (hm : behindInMarks op b = false) : PE X (.Compare a [op] [b] pos) (lE X.K B (eBin q ta tb)) :=
  PE.imp (pe_cmpR ho ha hb hm) (bin_ok hq)
/-- a value that is a bool, as a test -/
def eTest (t : DE) : DT := fun e P => t e fun d e1 => ∃ k, d = .bl k ∧ P k e1
theorem R.bl_inv {K : PySem.W.Frag} {W : Wd} {v : V} {k : Bool} (r : R K W v (.bl k)) : v = .bl k := by cases r; rfl
theorem test_ok {t : TE} (h : ∀ σ H Q, lE X.K B te σ H Q → t σ H Q) : ∀ σ H Q, lT X.K B (eTest te) σ H Q → tTest t σ H Q :=
  fun σ H Q ⟨W, e, P, bl, S, t, k⟩ => h σ H _ ⟨W, e, _, bl, S, t, fun d e1 W1 H1 v ⟨kk, ed, p⟩ l1 S1 r1 => ⟨kk, by subst ed; exact r1.bl_inv, k kk e1 W1 H1 p l1 S1⟩⟩
theorem dt_cmp {op : CmpOp} {r : R2} {q : D → D → DE} (ho : OpR X (compareOp op) r) (hq : OpD X.K r q) (ha : PE X a (lE X.K B ta)) (hb : PE X b (lE X.K B tb)) (hm : behindInMarks op b = false) : PT X (.Compare a [op] [b] pos) (lT X.K B (eTest (eBin q ta tb))) :=
  PT.imp (pt_cmpR ho ha hb hm) (test_ok (bin_ok hq))
theorem dt_val {e : Expr} (h : PE X e (lE X.K B te)) (he : ∀ whole, isTrue e X.env whole = (do let v ← whole; standAt e.pos; holding [v] (truthy v)) := by intro _; rfl) : PT X e (lT X.K B (eTest te)) :=
  PT.imp (pt_val h he) (test_ok fun _ _ _ z => z)
/-- a op1 b op2 c -/
def eChain (q q' : D → D → DE) (ta tb tc : DE) : DE := fun e P => ta e fun x e1 => tb e1 fun y e2 => q x y e2 fun z e3 => ∃ k, z = .bl k ∧ if k = true then tc e3 fun w e4 => q' y w e4 P else P (.bl false) e3
theorem chain_ok {r r' : R2} {q q' : D → D → DE} (hq : OpD X.K r q) (hq' : OpD X.K r' q') : ∀ σ H Q, lE X.K B (eChain q q' ta tb tc) σ H Q → tChain r r' (lE X.K B ta) (lE X.K B tb) (lE X.K B tc) σ H Q :=
  fun σ H Q ⟨W, e, P, bl, S, t, k⟩ => ⟨W, e, _, bl, S, t, fun x e1 W1 H1 v1 t1 l1 S1 r1 => ⟨W1, e1, _, (B.up bl l1), S1, t1, fun y e2 W2 H2 v2 t2 l2 S2 r2 =>
    hq W2 H2 σ e2 v1 v2 x y _ _ S2 (R.mono l2 _ _ r1) r2 t2 fun z e3 W3 H3 v3 ⟨kk, ez, h3⟩ l3 S3 r3 => ⟨kk, by subst ez; exact r3.bl_inv, by
      have l13 := (l1.tr l2).tr l3
      cases kk with
      | false => exact iteF (k _ _ _ _ _ h3 l13 S3 (.bl false))
      | true => exact iteT ⟨W3, e3, _, (B.up bl l13), S3, h3, fun w e4 W4 H4 v4 t4 l4 S4 r4 => hq' W4 H4 σ e4 v2 v4 y w P Q S4 (R.mono (l3.tr l4) _ _ r2) r4 t4 fun d e5 W5 H5 v5 p l5 S5 r5 => k d e5 W5 H5 v5 p ((l13.tr l4).tr l5) S5 r5⟩⟩⟩⟩
theorem de_chain {op op' : CmpOp} {r r' : R2} {q q' : D → D → DE} (ho : OpR X (compareOp op) r) (ho' : OpR X (compareOp op') r') (hq : OpD X.K r q) (hq' : OpD X.K r' q') (ha : PE X a (lE X.K B ta)) (hb : PE X b (lE X.K B tb)) (hc : PE X c (lE X.K B tc))
    (hm : lastMarks [op, op'] [b, c] = false := by with_unfolding_all rfl) : PE X (.Compare a [op, op'] [b, c] pos) (lE X.K B (eChain q q' ta tb tc)) := PE.imp (pe_chain ho ho' ha hb hc hm) (chain_ok hq hq')
theorem dt_chain {op op' : CmpOp} {r r' : R2} {q q' : D → D → DE} (ho : OpR X (compareOp op) r) (ho' : OpR X (compareOp op') r') (hq : OpD X.K r q) (hq' : OpD X.K r' q') (ha : PE X a (lE X.K B ta)) (hb : PE X b (lE X.K B tb)) (hc : PE X c (lE X.K B tc))
    (hm : lastMarks [op, op'] [b, c] = false := by with_unfolding_all rfl) : PT X (.Compare a [op, op'] [b, c] pos) (lT X.K B (eTest (eChain q q' ta tb tc))) := PT.imp (pt_chain ho ho' ha hb hc hm) (test_ok (chain_ok hq hq'))

/-! the ops -/
def MulOk (i j : Int) : Prop := CMul i j ∨ CMulW i j
def FdivOk (i j : Int) : Prop := CDiv i j ∨ CDivW i j
theorem op_mulA : OpR X (binaryOp .Mult) (rI MulOk fun i j => .int (i * j)) := by
  intro pins s σ H x y v u Q I r1 r2 ⟨i, j, e1, e2, c, q⟩
  rcases c with c | c
  · exact op_mul pins s σ H x y v u Q I r1 r2 ⟨i, j, e1, e2, c, q⟩
  · exact op_mulW pins s σ H x y v u Q I r1 r2 ⟨i, j, e1, e2, c, q⟩
theorem op_fdivA : OpR X (binaryOp .FloorDiv) (rI FdivOk fun i j => .int (i / j)) := by
  intro pins s σ H x y v u Q I r1 r2 ⟨i, j, e1, e2, c, q⟩
  rcases c with c | c
  · exact op_fdiv pins s σ H x y v u Q I r1 r2 ⟨i, j, e1, e2, c, q⟩
  · exact op_fdivW pins s σ H x y v u Q I r1 r2 ⟨i, j, e1, e2, c, q⟩
def qSub : D → D → DE
  | .int i, .int j => fun e P => P (.int (i - j)) e
  | _, _ => fun _ _ => False
def qMul : D → D → DE
  | .int i, .int j => fun e P => MulOk i j ∧ P (.int (i * j)) e
  | _, _ => fun _ _ => False
def qFdiv : D → D → DE
  | .int i, .int j => fun e P => FdivOk i j ∧ P (.int (i / j)) e
  | _, _ => fun _ _ => False
def qMod : D → D → DE
  | .int i, .int j => fun e P => 0 < j ∧ P (.int (i % j)) e
  | _, _ => fun _ _ => False
def qPow : D → D → DE
  | .int i, .int j => fun e P => CPow i j ∧ P (.int (i ^ j.toNat)) e
  | _, _ => fun _ _ => False
def qAdd (o : Bool) : D → D → DE
  | .int i, .int j => fun e P => P (.int (i + j)) e
  | .str s, .str t => fun e P => s.length + t.length ≤ sizeLine ∧ P (.str (s ++ t)) e
  | .tup xs, .tup ys => fun e P => xs ≠ [] ∧ xs.length + ys.length ≤ sizeLine ∧ P (.tup (xs ++ ys)) e
  | x, y => fun e P => ∃ xs ys, lkP e.cs x = some xs ∧ lkP e.cs y = some ys ∧ xs.length + ys.length ≤ sizeLine ∧ newL o (xs ++ ys) e P
theorem R.int_inv {K : PySem.W.Frag} {W : Wd} {v : V} {k : Int} (r : R K W v (.int k)) : v = .int k := by cases r; rfl
theorem R.str_inv {K : PySem.W.Frag} {W : Wd} {v : V} {k : Str} (r : R K W v (.str k)) : v = .str k := by cases r; rfl
theorem R.non_inv {K : PySem.W.Frag} {W : Wd} {v : V} (r : R K W v .non) : v = .non := by cases r; rfl
theorem R.raw_inv {K : PySem.W.Frag} {W : Wd} {v u : V} (r : R K W v (.raw u)) : v = u := by cases r; rfl
theorem od_I0 {K : PySem.W.Frag} {f : Int → Int → D} {g : Int → Int → V} {q : D → D → DE} (hq : ∀ x y e P, q x y e P → ∃ i j, x = .int i ∧ y = .int j ∧ P (f i j) e) (hr : ∀ W i j, R K W (g i j) (f i j)) : OpD K (rI0 g) q := by
  intro W H σ e x y d1 d2 P Q S r1 r2 t k
  obtain ⟨i, j, rfl, rfl, t'⟩ := hq _ _ _ _ t
  exact ⟨i, j, r1.int_inv, r2.int_inv, k _ _ _ _ _ t' W.le_refl S (hr W i j)⟩
theorem od_I {K : PySem.W.Frag} {C : Int → Int → Prop} {f : Int → Int → D} {g : Int → Int → V} {q : D → D → DE} (hq : ∀ x y e P, q x y e P → ∃ i j, x = .int i ∧ y = .int j ∧ C i j ∧ P (f i j) e) (hr : ∀ W i j, R K W (g i j) (f i j)) : OpD K (rI C g) q := by
  intro W H σ e x y d1 d2 P Q S r1 r2 t k
  obtain ⟨i, j, rfl, rfl, c, t'⟩ := hq _ _ _ _ t
  exact ⟨i, j, r1.int_inv, r2.int_inv, c, k _ _ _ _ _ t' W.le_refl S (hr W i j)⟩
theorem od_sub {K : PySem.W.Frag} : OpD K (rI0 fun i j => .int (i - j)) qSub := od_I0 (f := fun i j => .int (i - j)) (fun x y e P h => by
  cases x <;> cases y <;> first | exact h.elim | exact ⟨_, _, rfl, rfl, h⟩) fun _ _ _ => .int _
theorem od_mul {K : PySem.W.Frag} : OpD K (rI MulOk fun i j => .int (i * j)) qMul := od_I (f := fun i j => .int (i * j)) (fun x y e P h => by
  cases x <;> cases y <;> first | exact h.elim | exact ⟨_, _, rfl, rfl, h⟩) fun _ _ _ => .int _
theorem od_fdiv {K : PySem.W.Frag} : OpD K (rI FdivOk fun i j => .int (i / j)) qFdiv := od_I (f := fun i j => .int (i / j)) (fun x y e P h => by
  cases x <;> cases y <;> first | exact h.elim | exact ⟨_, _, rfl, rfl, h⟩) fun _ _ _ => .int _
theorem od_mod {K : PySem.W.Frag} : OpD K (rI (fun _ j => 0 < j) fun i j => .int (i % j)) qMod := od_I (f := fun i j => .int (i % j)) (fun x y e P h => by
  cases x <;> cases y <;> first | exact h.elim | exact ⟨_, _, rfl, rfl, h⟩) fun _ _ _ => .int _
theorem od_pow {K : PySem.W.Frag} : OpD K (rI CPow fun i j => .int (i ^ j.toNat)) qPow := od_I (f := fun i j => .int (i ^ j.toNat)) (fun x y e P h => by
  cases x <;> cases y <;> first | exact h.elim | exact ⟨_, _, rfl, rfl, h⟩) fun _ _ _ => .int _
def rAddA (K : PySem.W.Frag) : R2 := fun x y H Q => (((rI0 fun i j => .int (i + j)) x y H Q ∨ (∃ i j, x = .str i ∧ y = .str j ∧ i.length + j.length ≤ sizeLine ∧ Q (.str (i ++ j)) H)) ∨ rCatT K x y H Q) ∨ rCat x y H Q
theorem op_addA : OpR X (binaryOp .Add) (rAddA X.K) := ((op_add.or op_add_str).or op_catT).or op_cat
theorem od_add {K : PySem.W.Frag} {o : Bool} : OpD K (rAddA K) (qAdd o) := by
  intro W H σ e x y d1 d2 P Q S r1 r2 t k
  have lists : (∃ xs ys, lkP e.cs d1 = some xs ∧ lkP e.cs d2 = some ys ∧ xs.length + ys.length ≤ sizeLine ∧ newL o (xs ++ ys) e P) → rAddA K x y H Q := fun ⟨xs, ys, e1, e2, hz, t⟩ => by
    obtain ⟨p1, vs, rfl, h1, q1⟩ := S.ok.lkP r1 e1
    obtain ⟨p2, ws, rfl, h2, q2⟩ := S.ok.lkP r2 e2
    exact .inr ⟨p1, p2, vs, ws, rfl, rfl, h1, h2, by rw [q1.length, q2.length]; exact hz, newL_ok S (q1.append q2) t k⟩
  unfold qAdd at t
  split at t
  · exact .inl (.inl (.inl ⟨_, _, r1.int_inv, r2.int_inv, k _ _ _ _ _ t W.le_refl S (.int _)⟩))
  · exact .inl (.inl (.inr ⟨_, _, r1.str_inv, r2.str_inv, t.1, k _ _ _ _ _ t.2 W.le_refl S (.str _)⟩))
  · obtain ⟨hne, hz, t⟩ := t
    cases r1 with
    | tup h1 q1 =>
      cases r2 with
      | tup h2 q2 =>
        refine .inl (.inr ⟨_, _, _, _, rfl, rfl, Evl.ex_t S.ok.ex h1, Evl.ex_t S.ok.ex h2, fun z => hne ?_, by rw [q1.length, q2.length]; exact hz, ?_⟩)
        · subst z; cases q1; rfl
        · exact ⟨fun z => k _ _ _ _ _ t W.le_refl S (by
            subst z; cases q2
            rw [List.append_nil]
            exact .tup h1 q1), fun _ => newT_ok S (q1.append q2) t k⟩
  · exact lists t
def qLt : D → D → DE
  | .int i, .int j => fun e P => P (.bl (decide (i < j))) e
  | _, _ => fun _ _ => False
def qLe : D → D → DE
  | .int i, .int j => fun e P => P (.bl (decide (i ≤ j))) e
  | _, _ => fun _ _ => False
def qGt : D → D → DE
  | .int i, .int j => fun e P => P (.bl (decide (j < i))) e
  | _, _ => fun _ _ => False
def qGe : D → D → DE
  | .int i, .int j => fun e P => P (.bl (decide (j ≤ i))) e
  | _, _ => fun _ _ => False
theorem od_lt {K : PySem.W.Frag} : OpD K (rI0 fun i j => .bl (decide (i < j))) qLt := od_I0 (f := fun i j => .bl (decide (i < j))) (fun x y e P h => by
  cases x <;> cases y <;> first | exact h.elim | exact ⟨_, _, rfl, rfl, h⟩) fun _ _ _ => .bl _
theorem od_le {K : PySem.W.Frag} : OpD K (rI0 fun i j => .bl (decide (i ≤ j))) qLe := od_I0 (f := fun i j => .bl (decide (i ≤ j))) (fun x y e P h => by
  cases x <;> cases y <;> first | exact h.elim | exact ⟨_, _, rfl, rfl, h⟩) fun _ _ _ => .bl _
theorem od_gt {K : PySem.W.Frag} : OpD K (rI0 fun i j => .bl (decide (j < i))) qGt := od_I0 (f := fun i j => .bl (decide (j < i))) (fun x y e P h => by
  cases x <;> cases y <;> first | exact h.elim | exact ⟨_, _, rfl, rfl, h⟩) fun _ _ _ => .bl _
theorem od_ge {K : PySem.W.Frag} : OpD K (rI0 fun i j => .bl (decide (j ≤ i))) qGe := od_I0 (f := fun i j => .bl (decide (j ≤ i))) (fun x y e P h => by
  cases x <;> cases y <;> first | exact h.elim | exact ⟨_, _, rfl, rfl, h⟩) fun _ _ _ => .bl _
end
end DL
namespace DL
open PySem PySem.Spec PyProof.Rows L2
open Evl (Ex)

/-! ### data that is compared -/
mutual
def toP : D → PyData
  | .non => .none
  | .bl b => .bool b
  | .int i => .int i
  | .str s => .str s
  | .tup xs => .tuple (toPs xs)
  | .lst xs => .list (toPs xs)
  | .fro xs => .list (toPs xs)
  | .ins _ _ _ => .none
  | .cell _ => .none
  | .dct => .none
  | .raw _ => .none
def toPs : List D → List PyData
  | [] => []
  | x :: xs => toP x :: toPs xs
end
mutual
def okD : D → Bool
  | .non => true
  | .bl _ => true
  | .int _ => true
  | .str _ => true
  | .tup xs => okDs xs
  | .lst xs => okDs xs
  | .fro xs => okDs xs
  | .ins _ _ _ => false
  | .cell _ => false
  | .dct => false
  | .raw _ => false
def okDs : List D → Bool
  | [] => true
  | x :: xs => okD x && okDs xs
end
def drf (cs : List Cel) : D → D
  | .cell n => match cs[n]? with
    | some (.lst xs) => .lst xs
    | _ => .cell n
  | .fro xs => .lst xs
  | d => d
def shp (d : D) : Bool := okD d && SeqAt.shaped (toP d)
section
variable {K : PySem.W.Frag} {W : Wd} {H : Hp} {cs : List Cel}
mutual
theorem R.dp (x : Ex W.F H) : ∀ (d : D) (v : V), R K W v d → okD d = true → Dp K H v (toP d)
  | .non, _, h, _ => by cases h; exact .non
  | .bl b, _, h, _ => by cases h; exact .bl b
  | .int i, _, h, _ => by cases h; exact .int i
  | .str s, _, h, _ => by cases h; exact .str s
  | .tup xs, _, h, o => by
    cases h with
    | tup hs ha => exact .tup (Evl.ex_t x hs) (RAll.dp x xs _ ha o)
  | .lst xs, _, h, o => by
    cases h with
    | lst hs ha => exact .lst (SqL.of (x _ _ hs)) (RAll.dp x xs _ ha o)
  | .fro xs, _, h, o => by
    cases h with
    | fro hs ha => exact .lst (Evl.ex_l x hs) (RAll.dp x xs _ ha o)
  | .ins _ _ _, _, _, o => by cases o
  | .cell _, _, _, o => by cases o
  | .dct, _, _, o => by cases o
  | .raw _, _, _, o => by cases o
theorem RAll.dp (x : Ex W.F H) : ∀ (ds : List D) (vs : List V), RAll K W vs ds → okDs ds = true → DpAll K H vs (toPs ds)
  | [], _, h, _ => by cases h; exact .nil
  | d :: ds, _, h, o => by
    cases h with
    | cons h1 h2 =>
      have o' : (okD d && okDs ds) = true := o
      rw [Bool.and_eq_true] at o'
      exact .cons (R.dp x d _ h1 o'.1) (RAll.dp x ds _ h2 o'.2)
end
theorem Ok.dp (h : Ok K W H cs) {d : D} {v : V} (r : R K W v d) (o : okD (drf cs d) = true) : Dp K H v (toP (drf cs d)) := by
  cases d with
  | cell n =>
    cases r with
    | cell hm =>
      unfold drf at o ⊢
      simp only at o ⊢
      split at o
      · rename_i xs hc
        obtain ⟨vs, h1, h2⟩ := h.cellL hm hc
        exact .lst (SqL.of h1) (RAll.dp' h2 o)
      · cases o
  | non => exact R.dp h.ex _ _ r o
  | bl b => exact R.dp h.ex _ _ r o
  | int i => exact R.dp h.ex _ _ r o
  | str s => exact R.dp h.ex _ _ r o
  | tup xs => exact R.dp h.ex _ _ r o
  | lst xs => exact R.dp h.ex _ _ r o
  | fro xs => exact R.dp h.ex (.fro xs) _ r o
  | dct => cases o
  | ins _ _ _ => exact R.dp h.ex _ _ r o
  | raw _ => exact R.dp h.ex _ _ r o
where
  RAll.dp' {vs : List V} {ds : List D} (h2 : RAll K W vs ds) (o : okDs ds = true) : DpAll K H vs (toPs ds) := RAll.dp h.ex ds vs h2 o
end
def qEq : D → D → DE
  | .int i, .int j => fun e P => P (.bl (decide (i = j))) e
  | x, y => fun e P => shp (drf e.cs x) = true ∧ shp (drf e.cs y) = true ∧ P (.bl (PyData.eqv (toP (drf e.cs x)) (toP (drf e.cs y)))) e
def qNe : D → D → DE
  | .int i, .int j => fun e P => P (.bl (!decide (i = j))) e
  | x, y => fun e P => shp (drf e.cs x) = true ∧ shp (drf e.cs y) = true ∧ P (.bl (!PyData.eqv (toP (drf e.cs x)) (toP (drf e.cs y)))) e
theorem shp_and {d : D} (h : shp d = true) : okD d = true ∧ SeqAt.shaped (toP d) = true := by
  have h' : (okD d && SeqAt.shaped (toP d)) = true := h
  rwa [Bool.and_eq_true] at h'
theorem od_eq {K : PySem.W.Frag} : OpD K (rEqD K) qEq := by
  intro W H σ e x y d1 d2 P Q S r1 r2 t k
  unfold qEq at t
  split at t
  · refine ⟨_, _, R.dp S.ok.ex _ _ r1 rfl, R.dp S.ok.ex _ _ r2 rfl, rfl, rfl, ?_⟩
    refine k _ _ _ _ _ t W.le_refl S ?_
    rename_i i j
    have e0 : PyData.eqv (toP (.int i)) (toP (.int j)) = decide (i = j) := Bool.beq_eq_decide_eq _ _
    rw [e0]
    exact .bl _
  · obtain ⟨h1, h2, t⟩ := t
    obtain ⟨o1, s1⟩ := shp_and h1
    obtain ⟨o2, s2⟩ := shp_and h2
    exact ⟨_, _, S.ok.dp r1 o1, S.ok.dp r2 o2, s1, s2, k _ _ _ _ _ t W.le_refl S (.bl _)⟩
theorem od_ne {K : PySem.W.Frag} : OpD K (rNeD K) qNe := by
  intro W H σ e x y d1 d2 P Q S r1 r2 t k
  unfold qNe at t
  split at t
  · refine ⟨_, _, R.dp S.ok.ex _ _ r1 rfl, R.dp S.ok.ex _ _ r2 rfl, rfl, rfl, ?_⟩
    refine k _ _ _ _ _ t W.le_refl S ?_
    rename_i i j
    have e0 : PyData.eqv (toP (.int i)) (toP (.int j)) = decide (i = j) := Bool.beq_eq_decide_eq _ _
    rw [e0]
    exact .bl _
  · obtain ⟨h1, h2, t⟩ := t
    obtain ⟨o1, s1⟩ := shp_and h1
    obtain ⟨o2, s2⟩ := shp_and h2
    exact ⟨_, _, S.ok.dp r1 o1, S.ok.dp r2 o2, s1, s2, k _ _ _ _ _ t W.le_refl S (.bl _)⟩

/-! is -/
def isN : D → Bool
  | .non => true
  | _ => false
def notRaw : D → Bool
  | .raw _ => false
  | _ => true
theorem R.isN {K : PySem.W.Frag} {W : Wd} {v : V} {d : D} (r : R K W v d) (n : notRaw d = true) : decide (v = .non) = isN d := by
  cases r <;> first | rfl | cases n
def qIs : D → D → DE
  | .bl a, .bl b => fun e P => P (.bl (decide (a = b))) e
  | x, y => fun e P => isN y = true ∧ notRaw x = true ∧ P (.bl (isN x)) e
def qIsNot : D → D → DE
  | .bl a, .bl b => fun e P => P (.bl (!decide (a = b))) e
  | x, y => fun e P => isN y = true ∧ notRaw x = true ∧ P (.bl (!isN x)) e
def rIsA : R2 := fun x y H Q => (y = .non ∧ Q (.bl (decide (x = .non))) H) ∨ L2.rIsB x y H Q
def rIsNotA : R2 := fun x y H Q => (y = .non ∧ Q (.bl (!decide (x = .non))) H) ∨ L2.rNotB x y H Q
theorem op_isA {X : Cx} : OpR X (compareOp .Is) rIsA := op_isN.or op_isBl
theorem op_isNotA {X : Cx} : OpR X (compareOp .IsNot) rIsNotA := op_notN.or op_notBl
theorem isN_of {d : D} (h : isN d = true) : d = .non := by cases d <;> first | rfl | cases h
theorem od_is {K : PySem.W.Frag} : OpD K rIsA qIs := by
  intro W H σ e x y d1 d2 P Q S r1 r2 t k
  unfold qIs at t
  split at t
  · exact .inr ⟨_, _, r1.bl_inv, r2.bl_inv, k _ _ _ _ _ t W.le_refl S (.bl _)⟩
  · obtain ⟨h1, h2, t⟩ := t
    cases isN_of h1
    refine .inl ⟨r2.non_inv, ?_⟩
    rw [r1.isN h2]
    exact k _ _ _ _ _ t W.le_refl S (.bl _)
theorem od_isNot {K : PySem.W.Frag} : OpD K rIsNotA qIsNot := by
  intro W H σ e x y d1 d2 P Q S r1 r2 t k
  unfold qIsNot at t
  split at t
  · exact .inr ⟨_, _, r1.bl_inv, r2.bl_inv, k _ _ _ _ _ t W.le_refl S (.bl _)⟩
  · obtain ⟨h1, h2, t⟩ := t
    cases isN_of h1
    refine .inl ⟨r2.non_inv, ?_⟩
    rw [r1.isN h2]
    exact k _ _ _ _ _ t W.le_refl S (.bl _)

/-! ### and, or, not, if -/
def dAnd (t u : DT) : DT := fun e P => t e fun c e1 => if c = true then u e1 P else P false e1
def dOr (t u : DT) : DT := fun e P => t e fun c e1 => if c = true then P true e1 else u e1 P
def dNot (t : DT) : DT := fun e P => t e fun c e1 => P (!c) e1
def eAnd (ta tb : DE) : DE := fun e P => ta e fun x e1 => ∃ c, x = .bl c ∧ if c = true then tb e1 P else P (.bl false) e1
def eOr (ta tb : DE) : DE := fun e P => ta e fun x e1 => ∃ c, x = .bl c ∧ if c = true then P (.bl true) e1 else tb e1 P
def eNot (ta : DE) : DE := fun e P => ta e fun x e1 => ∃ c, x = .bl c ∧ P (.bl (!c)) e1
def eIf (t : DT) (ta tb : DE) : DE := fun e P => t e fun c e1 => if c = true then ta e1 P else tb e1 P
section
variable {X : Cx} {B : Bs} {a b c ex : Expr} {pos : Pos} {ta tb te : DE} {t u : DT} {rest : List Expr}
theorem dw_and1 (ha : PT X a (lT X.K B t)) : PW X (.BoolOp .And [a] pos) (lT X.K B t) := pw_and1 ha
theorem dw_or1 (ha : PT X a (lT X.K B t)) : PW X (.BoolOp .Or [a] pos) (lT X.K B t) := pw_or1 ha
theorem dw_and (ha : PT X a (lT X.K B t)) (hb : PW X (.BoolOp .And (b :: rest) pos) (lT X.K B u)) : PW X (.BoolOp .And (a :: b :: rest) pos) (lT X.K B (dAnd t u)) :=
  PW.imp (pw_and ha hb) fun σ H Q ⟨W, e, P, bl, S, t, k⟩ => ⟨W, e, _, bl, S, t, fun c e1 W1 H1 h1 l1 S1 => by
    cases c with
    | true => exact iteT ⟨W1, e1, _, (B.up bl l1), S1, h1, fun c2 e2 W2 H2 p l2 S2 => k c2 e2 W2 H2 p (l1.tr l2) S2⟩
    | false => exact iteF (k _ _ _ _ h1 l1 S1)⟩
theorem dw_or (ha : PT X a (lT X.K B t)) (hb : PW X (.BoolOp .Or (b :: rest) pos) (lT X.K B u)) : PW X (.BoolOp .Or (a :: b :: rest) pos) (lT X.K B (dOr t u)) :=
  PW.imp (pw_or ha hb) fun σ H Q ⟨W, e, P, bl, S, t, k⟩ => ⟨W, e, _, bl, S, t, fun c e1 W1 H1 h1 l1 S1 => by
    cases c with
    | true => exact iteT (k _ _ _ _ h1 l1 S1)
    | false => exact iteF ⟨W1, e1, _, (B.up bl l1), S1, h1, fun c2 e2 W2 H2 p l2 S2 => k c2 e2 W2 H2 p (l1.tr l2) S2⟩⟩
theorem dt_not (ha : PT X a (lT X.K B t)) : PT X (.UnaryOp .Not a pos) (lT X.K B (dNot t)) :=
  PT.imp (pt_not ha) fun σ H Q ⟨W, e, P, bl, S, t, k⟩ => ⟨W, e, _, bl, S, t, fun c e1 W1 H1 h1 l1 S1 => k _ _ _ _ h1 l1 S1⟩
theorem de_one {op} (h : PE X a (lE X.K B te)) : PE X (.BoolOp op [a] pos) (lE X.K B te) := pe_one h
theorem de_and (ha : PE X a (lE X.K B ta)) (hb : PE X (.BoolOp .And (b :: rest) pos) (lE X.K B tb)) : PE X (.BoolOp .And (a :: b :: rest) pos) (lE X.K B (eAnd ta tb)) :=
  PE.imp (pe_and ha hb) fun σ H Q ⟨W, e, P, bl, S, t, k⟩ => ⟨W, e, _, bl, S, t, fun x e1 W1 H1 v ⟨c, ex, h1⟩ l1 S1 r1 => ⟨c, by subst ex; exact r1.bl_inv, by
    cases c with
    | true => exact iteT ⟨W1, e1, _, (B.up bl l1), S1, h1, fun d e2 W2 H2 v2 p l2 S2 r2 => k d e2 W2 H2 v2 p (l1.tr l2) S2 r2⟩
    | false => exact iteF (k _ _ _ _ _ h1 l1 S1 (.bl _))⟩⟩
theorem de_or (ha : PE X a (lE X.K B ta)) (hb : PE X (.BoolOp .Or (b :: rest) pos) (lE X.K B tb)) : PE X (.BoolOp .Or (a :: b :: rest) pos) (lE X.K B (eOr ta tb)) :=
  PE.imp (pe_or ha hb) fun σ H Q ⟨W, e, P, bl, S, t, k⟩ => ⟨W, e, _, bl, S, t, fun x e1 W1 H1 v ⟨c, ex, h1⟩ l1 S1 r1 => ⟨c, by subst ex; exact r1.bl_inv, by
    cases c with
    | true => exact iteT (k _ _ _ _ _ h1 l1 S1 (.bl _))
    | false => exact iteF ⟨W1, e1, _, (B.up bl l1), S1, h1, fun d e2 W2 H2 v2 p l2 S2 r2 => k d e2 W2 H2 v2 p (l1.tr l2) S2 r2⟩⟩⟩
theorem de_not (ha : PE X a (lE X.K B ta)) : PE X (.UnaryOp .Not a pos) (lE X.K B (eNot ta)) :=
  PE.imp (pe_not ha) fun σ H Q ⟨W, e, P, bl, S, t, k⟩ => ⟨W, e, _, bl, S, t, fun x e1 W1 H1 v ⟨c, ex, h1⟩ l1 S1 r1 => ⟨c, by subst ex; exact r1.bl_inv, k _ _ _ _ _ h1 l1 S1 (.bl _)⟩⟩
theorem de_if (hc : PT X c (lT X.K B t)) (ha : PE X a (lE X.K B ta)) (hb : PE X b (lE X.K B tb)) : PE X (.IfExp c a b pos) (lE X.K B (eIf t ta tb)) :=
  PE.imp (pe_ifExp hc ha hb) fun σ H Q ⟨W, e, P, bl, S, t, k⟩ => ⟨W, e, _, bl, S, t, fun c e1 W1 H1 h1 l1 S1 => by
    cases c with
    | true => exact iteT ⟨W1, e1, _, (B.up bl l1), S1, h1, fun d e2 W2 H2 v2 p l2 S2 r2 => k d e2 W2 H2 v2 p (l1.tr l2) S2 r2⟩
    | false => exact iteF ⟨W1, e1, _, (B.up bl l1), S1, h1, fun d e2 W2 H2 v2 p l2 S2 r2 => k d e2 W2 H2 v2 p (l1.tr l2) S2 r2⟩⟩
/-- a value of any kind, by its truth -/
def tru (cs : List Cel) : D → Option Bool
  | .non => some false
  | .bl b => some b
  | .int i => some (i != 0)
  | .str s => if s.length ≤ sizeLine then some ((s.length : Int) != 0) else none
  | .tup xs => some (!xs.isEmpty)
  | d => (lk cs d).map fun xs => !xs.isEmpty
def eTru (t : DE) : DT := fun e P => t e fun d e1 => ∃ k, tru e1.cs d = some k ∧ P k e1
theorem RAll.isEmpty {K : PySem.W.Frag} {W : Wd} {vs : List V} {ds : List D} (r : RAll K W vs ds) : vs.isEmpty = ds.isEmpty := by cases r <;> rfl
theorem tru_ok {K : PySem.W.Frag} {W : Wd} {H : Hp} {cs : List Cel} (h : Ok K W H cs) {d : D} {v : V} {k : Bool} (r : R K W v d) (e : tru cs d = some k) : TruV K v H k := by
  have lst : ∀ {xs}, lk cs d = some xs → k = (!xs.isEmpty) → TruV K v H k := fun {xs} e1 e2 => by
    obtain ⟨a, vs, rfl, h1, h2⟩ := h.lk r e1
    exact .inl ⟨vs, h1, by rw [e2, h2.isEmpty]⟩
  unfold tru at e
  split at e
  · cases e; cases r; rfl
  · cases e; cases r; rfl
  · cases e; cases r; rfl
  · cases r
    split at e
    · cases e; exact ⟨by assumption, rfl⟩
    · cases e
  · cases e
    cases r with
    | tup h1 h2 => exact .inr (.inl ⟨_, Evl.ex_t h.ex h1, by rw [h2.isEmpty]⟩)
  · obtain ⟨xs, e1, e2⟩ := Option.map_eq_some_iff.mp e
    exact lst e1 e2.symm
theorem dt_tru (ha : PE X a (lE X.K B ta)) (he : ∀ whole, isTrue a X.env whole = (do let v ← whole; standAt a.pos; holding [v] (truthy v)) := by intro _; rfl) : PT X a (lT X.K B (eTru ta)) :=
  PT.imp (pt_truth ha he) fun σ H Q ⟨W, e, P, bl, S, t, k⟩ => ⟨W, e, _, bl, S, t, fun d e1 W1 H1 v ⟨kk, et, p⟩ l1 S1 r1 => ⟨kk, tru_ok S1.ok r1 et, k _ _ _ _ p l1 S1⟩⟩

/-! ### arguments, displays -/
def aNil : DA := fun e P => P [] e
def aCons (te : DE) (tr : DA) : DA := fun e P => te e fun d e1 => tr e1 fun ds e2 => P (d :: ds) e2
variable {es : List Expr} {tr : DA}
theorem da_nil : PA X [] (lA X.K B aNil) := PA.imp pa_nil fun σ H Q ⟨W, e, P, bl, S, t, k⟩ => k [] e W H [] t W.le_refl S .nil
theorem da_cons (ha : PE X ex (lE X.K B te)) (hr : PA X es (lA X.K B tr)) (hs : starEach (ex :: es) X.env = (false, eval ex X.env) :: starEach es X.env := by rfl) : PA X (ex :: es) (lA X.K B (aCons te tr)) :=
  PA.imp (pa_cons ha hr hs) fun σ H Q ⟨W, e, P, bl, S, t, k⟩ => ⟨W, e, _, bl, S, t, fun d e1 W1 H1 v t1 l1 S1 r1 => ⟨W1, e1, _, (B.up bl l1), S1, t1, fun ds e2 W2 H2 vs p l2 S2 r2 => k _ _ _ _ _ p (l1.tr l2) S2 (.cons (R.mono l2 _ _ r1) r2)⟩⟩
def eTup (ta : DA) : DE := fun e P => ta e fun ds e1 => ds.length ≤ sizeLine ∧ P (.tup ds) e1
def eLst (o : Bool) (ta : DA) : DE := fun e P => ta e fun ds e1 => ds.length ≤ sizeLine ∧ newL o ds e1 P
theorem de_tup {x1} (h : PA X es (lA X.K B tr)) : PE X (.Tuple es x1 pos) (lE X.K B (eTup tr)) :=
  PE.imp (pe_tup h) fun σ H Q ⟨W, e, P, bl, S, t, k⟩ => ⟨W, e, _, bl, S, t, fun ds e1 W1 H1 vs ⟨hz, p⟩ l1 S1 r1 => ⟨by rw [r1.length]; exact hz, newT_ok S1 r1 p fun d e2 W2 H2 v p l2 S2 r2 => k d e2 W2 H2 v p (l1.tr l2) S2 r2⟩⟩
theorem de_lst {o : Bool} (h : PA X es (lA X.K B tr)) : PE X (.List es pos) (lE X.K B (eLst o tr)) :=
  PE.imp (pe_lst h) fun σ H Q ⟨W, e, P, bl, S, t, k⟩ => ⟨W, e, _, bl, S, t, fun ds e1 W1 H1 vs ⟨hz, p⟩ l1 S1 r1 => ⟨by rw [r1.length]; exact hz, newL_ok S1 r1 p fun d e2 W2 H2 v p l2 S2 r2 => k d e2 W2 H2 v p (l1.tr l2) S2 r2⟩⟩
end

/-! ### items and slices -/
def qIx : D → D → DE
  | .tup xs, .int i => fun e P => ∃ d, atI xs i = some d ∧ P d e
  | .str z, .int i => fun e P => z.length ≤ sizeLine ∧ ∃ c, atI z.cps.toList i = some c ∧ P (.str ⟨#[c]⟩) e
  | x, .int i => fun e P => ∃ xs, lk e.cs x = some xs ∧ ∃ d, atI xs i = some d ∧ P d e
  | _, _ => fun _ _ => False
theorem RAll.atI {K : PySem.W.Frag} {W : Wd} {vs : List V} {ds : List D} {i : Int} {d : D} (r : RAll K W vs ds) (h : L2.atI ds i = some d) : ∃ v, L2.atI vs i = some v ∧ R K W v d := by
  unfold L2.atI at h ⊢
  rw [r.length]
  cases e : ixN ds.length i with
  | none => rw [e] at h; cases h
  | some j =>
    rw [e] at h
    exact r.get h
theorem od_ix {K : PySem.W.Frag} : OpD K (rIx K) qIx := by
  intro W H σ e x y d1 d2 P Q S r1 r2 t k
  unfold qIx at t
  split at t
  · obtain ⟨d, h, p⟩ := t
    cases r1 with
    | tup h1 q1 =>
      obtain ⟨v, hv, rv⟩ := q1.atI h
      exact .inr (.inl ⟨_, _, _, v, rfl, r2.int_inv, Evl.ex_t S.ok.ex h1, hv, k _ _ _ _ _ p W.le_refl S rv⟩)
  · obtain ⟨hz, c, h, p⟩ := t
    exact .inr (.inr ⟨_, _, c, r1.str_inv, r2.int_inv, hz, h, k _ _ _ _ _ p W.le_refl S (.str _)⟩)
  · obtain ⟨xs, e1, d, h, p⟩ := t
    obtain ⟨a, vs, rfl, h1, q1⟩ := S.ok.lk r1 e1
    obtain ⟨v, hv, rv⟩ := q1.atI h
    exact .inl ⟨_, _, _, v, rfl, r2.int_inv, h1, hv, k _ _ _ _ _ p W.le_refl S rv⟩
  · exact t.elim
section
variable {X : Cx} {B : Bs} {a b ex : Expr} {pos : Pos} {ta tb te : DE}
theorem de_ix (ha : PE X a (lE X.K B ta)) (hb : PE X b (lE X.K B tb)) (hs : PlainIx b) : PE X (.Subscript a b pos) (lE X.K B (eBin qIx ta tb)) := PE.imp (pe_ix ix_seq ha hb hs) (bin_ok od_ix)
abbrev DO := En → (Option Int → En → Prop) → Prop
def lO (K : PySem.W.Frag) (B : Bs) (t : DO) : TO := fun σ H Q => ∃ W e P, B.p W ∧ Sd K W H σ e ∧ t e P ∧ ∀ o e' W' H', P o e' → W.le W' → Sd K W' H' σ e' → Q o H'
theorem PO.imp {e : Option Expr} {t t' : TO} (h : PO X e t) (i : ∀ σ H Q, t' σ H Q → t σ H Q) : PO X e t' := ⟨fun pins s σ H Q I w => h.run pins s σ H Q I (i σ H Q w)⟩
def oNone : DO := fun e P => P none e
def oSome (t : DE) : DO := fun e P => t e fun d e1 => ∃ i, d = .int i ∧ P (some i) e1
theorem do_none : PO X none (lO X.K B oNone) := PO.imp po_none fun σ H Q ⟨W, e, P, bl, S, t, k⟩ => k none e W H t W.le_refl S
theorem do_some (h : PE X ex (lE X.K B te)) : PO X (some ex) (lO X.K B (oSome te)) := PO.imp (po_some h) fun σ H Q ⟨W, e, P, bl, S, t, k⟩ =>
  ⟨W, e, _, bl, S, t, fun d e1 W1 H1 v ⟨i, ed, p⟩ l1 S1 r1 => ⟨i, by subst ed; exact r1.int_inv, k _ _ _ _ p l1 S1⟩⟩
def cutD (xs : List D) (loD hi : Option Int) : List D := (xs.drop (HT.sIx xs.length 0 loD)).take (HT.sIx xs.length xs.length hi - HT.sIx xs.length 0 loD)
theorem RAll.cut {K : PySem.W.Frag} {W : Wd} {vs : List V} {ds : List D} {loD hi : Option Int} (r : RAll K W vs ds) : RAll K W (cutV vs loD hi) (cutD ds loD hi) := by
  unfold cutV cutD
  rw [r.length]
  exact (r.drop _).take _
def qSl (o : Bool) : D → Option Int → Option Int → DE
  | .tup xs, loD, hi => fun e P => ¬ (HT.sIx xs.length 0 loD = 0 ∧ HT.sIx xs.length xs.length hi = xs.length) ∧ P (.tup (cutD xs loD hi)) e
  | .str z, loD, hi => fun e P => z.length ≤ sizeLine ∧ P (.str (cutS z loD hi)) e
  | x, loD, hi => fun e P => ∃ xs, lk e.cs x = some xs ∧ newL o (cutD xs loD hi) e P
def rSlA (K : PySem.W.Frag) : V → Option Int → Option Int → Hp → VK → Prop := fun x loD hi H Q => (rSlL K x loD hi H Q ∨ rSlT K x loD hi H Q) ∨ rSlS x loD hi H Q
theorem sl_A : SlR X (rSlA X.K) := (sl_list.or sl_tup).or sl_str
theorem qSl_ok {K : PySem.W.Frag} {W : Wd} {H : Hp} {σ : L2.St} {e : En} {o : Bool} {d : D} {v : V} {loD hi : Option Int} {P : D → En → Prop} {Q : VK} (S : Sd K W H σ e) (r : R K W v d) (t : qSl o d loD hi e P)
    (k : ∀ d e' W' H' v, P d e' → W.le W' → Sd K W' H' σ e' → R K W' v d → Q v H') : rSlA K v loD hi H Q := by
  unfold qSl at t
  split at t
  · cases r with
    | tup h1 q1 => exact .inl (.inr ⟨_, _, rfl, Evl.ex_t S.ok.ex h1, by rw [q1.length]; exact t.1, newT_ok S q1.cut t.2 k⟩)
  · cases r
    exact .inr ⟨_, rfl, t.1, k _ _ _ _ _ t.2 W.le_refl S (.str _)⟩
  · obtain ⟨xs, e1, t⟩ := t
    obtain ⟨a, vs, rfl, h1, q1⟩ := S.ok.lk r e1
    exact .inl (.inl ⟨_, _, rfl, h1, newL_ok S q1.cut t k⟩)
def eSl (o : Bool) (te : DE) (tl th : DO) : DE := fun e P => te e fun x e1 => tl e1 fun l e2 => th e2 fun h e3 => qSl o x l h e3 P
theorem de_slice {o : Bool} {loD hi : Option Expr} {tl th : DO} {p2} (he : PE X ex (lE X.K B te)) (hl : PO X loD (lO X.K B tl)) (hu : PO X hi (lO X.K B th)) : PE X (.Subscript ex (.Slice loD hi none p2) pos) (lE X.K B (eSl o te tl th)) :=
  PE.imp (pe_slice sl_A he hl hu) fun σ H Q ⟨W, e, P, bl, S, t, k⟩ => ⟨W, e, _, bl, S, t, fun x e1 W1 H1 v t1 l1 S1 r1 => ⟨W1, e1, _, (B.up bl l1), S1, t1, fun l e2 W2 H2 t2 l2 S2 => ⟨W2, e2, _, (B.up bl (l1.tr l2)), S2, t2, fun h e3 W3 H3 t3 l3 S3 =>
    qSl_ok S3 (R.mono (l2.tr l3) _ _ r1) t3 fun d e4 W4 H4 v4 p l4 S4 r4 => k d e4 W4 H4 v4 p (((l1.tr l2).tr l3).tr l4) S4 r4⟩⟩⟩
/-- xs[::-1] -/
def eRev (o : Bool) (te : DE) : DE := fun e P => te e fun x e1 => ∃ xs, lk e1.cs x = some xs ∧ newL o xs.reverse e1 P
theorem de_rev {o : Bool} {k : Nat} {p1 p2 p3 : Pos} (he : PE X ex (lE X.K B te)) : PE X (.Subscript ex (.Slice none none (some (.UnaryOp .USub (.Constant (.int 1) k p1) p2)) p3) pos) (lE X.K B (eRev o te)) :=
  PE.imp (pe_revL he) fun σ H Q ⟨W, e, P, bl, S, t, k⟩ => ⟨W, e, _, bl, S, t, fun x e1 W1 H1 v ⟨xs, e2, t1⟩ l1 S1 r1 => by
    obtain ⟨a, vs, rfl, h1, q1⟩ := S1.ok.lk r1 e2
    exact ⟨a, vs, rfl, h1, newL_ok S1 q1.reverse t1 fun d e4 W4 H4 v4 p l4 S4 r4 => k d e4 W4 H4 v4 p (l1.tr l4) S4 r4⟩⟩
end
end DL
namespace DL
open PySem PySem.Spec PyProof.Rows L2
open Evl (Ex)

/-! ### statements -/
/-- the wanted ends, by data and by values -/
structure Cv (K : PySem.W.Frag) (W : Wd) (P : Po) (E : Ends) : Prop where
  nx : ∀ e' W' H' σ', P.nx e' → W.le W' → Sd K W' H' σ' e' → E.nx σ' H'
  rt : ∀ d cs W' H' v, P.rt d cs → W.le W' → Ok K W' H' cs → R K W' v d → E.rt v H'
  bk : ∀ e' W' H' σ', P.bk e' → W.le W' → Sd K W' H' σ' e' → E.bk σ' H'
  ct : ∀ e' W' H' σ', P.ct e' → W.le W' → Sd K W' H' σ' e' → E.ct σ' H'
theorem Cv.up {K : PySem.W.Frag} {W W1 : Wd} {P : Po} {E : Ends} (c : Cv K W P E) (l : W.le W1) : Cv K W1 P E :=
  ⟨fun e' W' H' σ' p l' S => c.nx e' W' H' σ' p (l.tr l') S, fun d cs W' H' v p l' S r => c.rt d cs W' H' v p (l.tr l') S r, fun e' W' H' σ' p l' S => c.bk e' W' H' σ' p (l.tr l') S, fun e' W' H' σ' p l' S => c.ct e' W' H' σ' p (l.tr l') S⟩
theorem lS_mk {K : PySem.W.Frag} {B : Bs} {W : Wd} {t : DS} {E : Ends} {σ : L2.St} {H : Hp} {e : En} {P : Po} (bl : B.p W) (S : Sd K W H σ e) (h : t P e) (c : Cv K W P E) : lS K B t E σ H := ⟨W, e, P, bl, S, h, c.nx, c.rt, c.bk, c.ct⟩
theorem lS_un {K : PySem.W.Frag} {B : Bs} {t : DS} {E : Ends} {σ : L2.St} {H : Hp} (h : lS K B t E σ H) : ∃ W e P, B.p W ∧ Sd K W H σ e ∧ t P e ∧ Cv K W P E := by
  obtain ⟨W, e, P, bl, S, h, c1, c2, c3, c4⟩ := h
  exact ⟨W, e, P, bl, S, h, c1, c2, c3, c4⟩

/-- behind it u -/
def Po.thn (P : Po) (u : DS) : Po := { P with nx := u P }
/-- a loop's turn: from it N, a break to what follows -/
def Po.lp (P : Po) (N : En → Prop) : Po := { P with nx := N, ct := N, bk := P.nx }
def sNext : DS := fun P e => P.nx e
def sSeq (t u : DS) : DS := fun P e => t (P.thn u) e
def sDrop (t : DE) : DS := fun P e => t e fun _ e1 => P.nx e1
def sRet (t : DE) : DS := fun P e => t e fun d e1 => P.rt d e1.cs
def sRetN : DS := fun P e => P.rt .non e.cs
def sIf (c : DT) (t u : DS) : DS := fun P e => c e fun b e1 => if b = true then t P e1 else u P e1
def sBreak : DS := fun P e => P.bk e
def sCont : DS := fun P e => P.ct e
def sNever : DS := fun _ _ => False
def sAsg (t : DE) (i : Nat) : DS := fun P e => t e fun d e1 => P.nx { e1 with sl := e1.sl.set i (some d) }
/-- o[i] = v, o a list that changes -/
def sSub (tv to ti : DE) : DS := fun P e => tv e fun v e1 => to e1 fun o e2 => ti e2 fun i e3 => ∃ n xs k j, o = .cell n ∧ e3.cs[n]? = some (.lst xs) ∧ i = .int k ∧ ixN xs.length k = some j ∧ P.nx { e3 with cs := e3.cs.set n (.lst (xs.set j v)) }
def sAug (i : Nat) (t : DE) : DS := fun P e => ∃ a, e.sl[i]? = some (some (.int a)) ∧ t e fun d e1 => ∃ b, d = .int b ∧ P.nx { e1 with sl := e1.sl.set i (some (.int (a + b))) }
def sAugSub (i : Nat) (t : DE) : DS := fun P e => ∃ a, e.sl[i]? = some (some (.int a)) ∧ t e fun d e1 => ∃ b, d = .int b ∧ P.nx { e1 with sl := e1.sl.set i (some (.int (a - b))) }
section
variable {X : Cx} {B : Bs} {st : Stmt} {rest : List Stmt} {t u : DS} {ex a : Expr} {te ta tb tc : DE} {dt : DT} {pos : Pos} {K : PySem.W.Frag}
theorem dss_nil : PSs X [] (lS X.K B sNext) := PSs.imp pss_nil fun E σ H h => by
  obtain ⟨W, e, P, bl, S, h, c⟩ := lS_un h
  exact c.nx e W H σ h W.le_refl S
theorem dss_cons (h1 : PS X st (lS X.K B t)) (h2 : PSs X rest (lS X.K B u)) : PSs X (st :: rest) (lS X.K B (sSeq t u)) := PSs.imp (pss_cons h1 h2) fun E σ H h => by
  obtain ⟨W, e, P, bl, S, h, c⟩ := lS_un h
  exact lS_mk bl S h ⟨fun e' W' H' σ' p l S' => lS_mk ((B.up bl l)) S' p (c.up l), c.rt, c.bk, c.ct⟩
theorem dss_one (h1 : PS X st (lS X.K B t)) : PSs X [st] (lS X.K B t) := pss_one h1
theorem ds_pass : PS X (.Pass pos) (lS X.K B sNext) := PS.imp ps_pass fun E σ H h => by
  obtain ⟨W, e, P, bl, S, h, c⟩ := lS_un h
  exact c.nx e W H σ h W.le_refl S
theorem ds_break : PS X (.Break pos) (lS X.K B sBreak) := PS.imp ps_break fun E σ H h => by
  obtain ⟨W, e, P, bl, S, h, c⟩ := lS_un h
  exact c.bk e W H σ h W.le_refl S
theorem ds_continue : PS X (.Continue pos) (lS X.K B sCont) := PS.imp ps_continue fun E σ H h => by
  obtain ⟨W, e, P, bl, S, h, c⟩ := lS_un h
  exact c.ct e W H σ h W.le_refl S
theorem ds_never : PS X st (lS X.K B sNever) := PS.imp ps_never fun E σ H h => by
  obtain ⟨W, e, P, bl, S, h, c⟩ := lS_un h
  exact h
theorem dss_never : PSs X rest (lS X.K B sNever) := PSs.imp pss_never fun E σ H h => by
  obtain ⟨W, e, P, bl, S, h, c⟩ := lS_un h
  exact h
theorem ds_expr (he : PE X ex (lE X.K B te)) (hs : swapsWith ex none pos.line X.env = pure false := by rfl) : PS X (.Expr ex pos) (lS X.K B (sDrop te)) := PS.imp (ps_expr he hs) fun E σ H h => by
  obtain ⟨W, e, P, bl, S, h, c⟩ := lS_un h
  exact ⟨W, e, _, bl, S, h, fun d e1 W1 H1 v p l S1 r => c.nx _ _ _ _ p l S1⟩
theorem ds_ret (he : PE X ex (lE X.K B te)) : PS X (.Return (some ex) pos) (lS X.K B (sRet te)) := PS.imp (ps_ret he) fun E σ H h => by
  obtain ⟨W, e, P, bl, S, h, c⟩ := lS_un h
  exact ⟨W, e, _, bl, S, h, fun d e1 W1 H1 v p l S1 r => c.rt _ _ _ _ _ p l S1.ok r⟩
theorem ds_retN : PS X (.Return none pos) (lS X.K B sRetN) := PS.imp ps_retN fun E σ H h => by
  obtain ⟨W, e, P, bl, S, h, c⟩ := lS_un h
  exact c.rt _ _ _ _ _ h W.le_refl S.ok .non
theorem ds_if {c : Expr} {ss us : List Stmt} (hc : PT X c (lT X.K B dt)) (ha : PSs X ss (lS X.K B t)) (hb : PSs X us (lS X.K B u)) : PS X (.If c ss us pos) (lS X.K B (sIf dt t u)) := PS.imp (ps_if hc ha hb) fun E σ H h => by
  obtain ⟨W, e, P, bl, S, h, c⟩ := lS_un h
  refine ⟨W, e, _, bl, S, h, fun b e1 W1 H1 p l S1 => ?_⟩
  cases b with
  | true => exact iteT (lS_mk ((B.up bl l)) S1 p (c.up l))
  | false => exact iteF (lS_mk ((B.up bl l)) S1 p (c.up l))
theorem asg_ok {i : Nat} : ∀ E σ H, lS X.K B (sAsg te i) E σ H → tAsg (lE X.K B te) (gName i) E σ H := fun E σ H h => by
  obtain ⟨W, e, P, bl, S, h, c⟩ := lS_un h
  exact ⟨W, e, _, bl, S, h, fun d e1 W1 H1 v p l S1 r => c.nx _ _ _ _ p l ⟨S1.ok, S1.sl.set r⟩⟩
theorem ds_set {i : Nat} {x : Str} {pos' : Pos} (hN : X.N.Nodup) (hi : X.N[i]? = some x) (hx : Loc X.env.scope x) (he : PE X ex (lE X.K B te)) (hs : swapsWith ex (some (.Name x pos')) pos.line X.env = pure false := by rfl)
    (hf : X.fn x = true ∨ X.env.scope.names.lookup x = some .local := by first | exact .inl rfl | exact .inr rfl | assumption) : PS X (.Assign [.Name x pos'] ex pos) (lS X.K B (sAsg te i)) := PS.imp (ps_set hN hi hx he hs hf) asg_ok
theorem ds_aug {i : Nat} {x : Str} {pos' : Pos} (hN : X.N.Nodup) (hi : X.N[i]? = some x) (hx : Loc X.env.scope x) (he : PE X ex (lE X.K B te))
    (hf : X.fn x = true ∨ X.env.scope.names.lookup x = some .local := by first | exact .inl rfl | exact .inr rfl | assumption) : PS X (.AugAssign (.Name x pos') .Add ex pos) (lS X.K B (sAug i te)) := PS.imp (ps_aug hN hi hx he ip_add hf) fun E σ H h => by
  obtain ⟨W, e, P, bl, S, ⟨a, ha, h⟩, c⟩ := lS_un h
  obtain ⟨v, hv, r⟩ := S.sl.2 i _ ha
  exact ⟨v, hv, W, e, _, bl, S, h, fun d e1 W1 H1 v ⟨b, ed, p⟩ l S1 r1 => ⟨a, b, r.int_inv, by subst ed; exact r1.int_inv, c.nx _ _ _ _ p l ⟨S1.ok, S1.sl.set (.int _)⟩⟩⟩
theorem ds_sub {o i : Expr} {p2 : Pos} (hv : PE X ex (lE X.K B te)) (ho : PE X o (lE X.K B ta)) (hi : PE X i (lE X.K B tb))
    (ha : ∀ v, assign (.Subscript o i p2) X.env v = (do
      let ov ← holding [v] (eval o X.env)
      let iv ← holding [v, ov] (eval i X.env)
      standAt p2
      holding [v, ov, iv] (setItem ov iv v)
      release [v, ov, iv] []) := by intro _; rfl)
    (hs : swapsWithSole [.Subscript o i p2] ex pos.line X.env = pure false := by rfl) (hw : swappedStores [.Subscript o i p2] ex X.env = pure none := by rfl)
    (h1 : (assignEach [.Subscript o i p2] X.env).map (·.2) = [assign (.Subscript o i p2) X.env] := by rfl) : PS X (.Assign [.Subscript o i p2] ex pos) (lS X.K B (sSub te ta tb)) := PS.imp (ps_asg hv (pg_sub ho hi set_list ha) hs hw h1) fun E σ H h => by
  obtain ⟨W, e, P, bl, S, h, c⟩ := lS_un h
  refine ⟨W, e, _, bl, S, h, fun d e1 W1 H1 v t1 l1 S1 r1 => ⟨W1, e1, _, (B.up bl l1), S1, t1, fun o e2 W2 H2 w t2 l2 S2 r2 => ⟨W2, e2, _, (B.up bl (l1.tr l2)), S2, t2, fun i e3 W3 H3 x t3 l3 S3 r3 => ?_⟩⟩⟩
  obtain ⟨n, xs, k, j, rfl, hc, rfl, hk, p⟩ := t3
  cases r2 with
  | cell hm =>
    have hm3 := Wd.le_get l3 hm
    obtain ⟨vs, h1, h2⟩ := S3.ok.cellL hm3 hc
    refine ⟨_, vs, k, j, rfl, r3.int_inv, h1, by rw [h2.length]; exact hk, ?_⟩
    exact c.nx _ _ _ _ p ((l1.tr l2).tr l3) ⟨S3.ok.setC hm3 hc (fun z => nomatch z) ⟨_, upd_same, h2.set (R.mono (l2.tr l3) _ _ r1) j⟩, S3.sl⟩
end

/-! ### targets by slots -/
inductive Tg where
  | one (i : Nat)
  | tup (is : List Nat)
def setAll : List Nat → List D → List (Option D) → List (Option D)
  | i :: is, d :: ds, sl => setAll is ds (sl.set i (some d))
  | _, _, sl => sl
def setTg : Tg → D → List (Option D) → Option (List (Option D))
  | .one i, d, sl => some (sl.set i (some d))
  | .tup is, .tup xs, sl => if xs.length = is.length then some (setAll is xs sl) else none
  | _, _, _ => none
def gVs : List Nat → TGs
  | [] => gNil
  | i :: is => gCons (gName i) (gVs is)
def gV (K : PySem.W.Frag) : Tg → TG
  | .one i => gName i
  | .tup is => gTup K is.length (gVs is)
def Tg.on : Tg → List Nat
  | .one i => [i]
  | .tup is => is
section
variable {K : PySem.W.Frag} {W : Wd} {H : Hp} {σ : L2.St} {e : En}
def wipeD (sl : List (Option D)) : List Nat → List (Option D)
  | [] => sl
  | i :: is => (wipeD sl is).set i none
theorem SlO.wipe {σ : L2.St} {sl : List (Option D)} (h : SlO K W σ sl) : ∀ (vs : List Nat), SlO K W (L2.wipe σ vs) (wipeD sl vs)
  | [] => h
  | i :: is => by
    have h' := SlO.wipe h is
    refine ⟨by show ((L2.wipe σ is).set i none).length = ((wipeD sl is).set i none).length; simp [h'.1], fun j d e => ?_⟩
    have e : ((wipeD sl is).set i none)[j]? = some (some d) := e
    rw [List.getElem?_set] at e
    by_cases hij : i = j
    · subst hij
      rw [if_pos rfl] at e
      split at e <;> cases e
    · rw [if_neg hij] at e
      obtain ⟨v, a, b⟩ := h'.2 j d e
      exact ⟨v, by show ((L2.wipe σ is).set i none)[j]? = _; rw [List.getElem?_set_ne hij]; exact a, b⟩
theorem wipe_in {σ : L2.St} {k : Nat} : ∀ {vs : List Nat}, k ∈ vs → (wipe σ vs)[k]? = if k < σ.length then some none else none
  | [], h => by cases h
  | v :: vs, h => by
    show ((wipe σ vs).set v none)[k]? = _
    rw [List.getElem?_set]
    by_cases hv : v = k
    · subst hv
      rw [if_pos rfl, wipe_length]
    · rw [if_neg hv]
      exact wipe_in ((List.mem_cons.mp h).resolve_left fun e => hv e.symm)
theorem wipe_set {vs : List Nat} {σ : L2.St} {i : Nat} {x : Option V} (h : i ∈ vs) : wipe (σ.set i x) vs = wipe σ vs := by
  apply List.ext_getElem?
  intro k
  by_cases hk : k ∈ vs
  · rw [wipe_in hk, wipe_in hk, List.length_set]
  · rw [wipe_out hk, wipe_out hk, List.getElem?_set_ne (fun (e : i = k) => hk (e ▸ h))]
theorem wipe_wipe {vs : List Nat} {σ : L2.St} : wipe (wipe σ vs) vs = wipe σ vs := by
  apply List.ext_getElem?
  intro k
  by_cases hk : k ∈ vs
  · rw [wipe_in hk, wipe_in hk, wipe_length]
  · rw [wipe_out hk]
theorem gVs_ok {vs : List Nat} {Q : L2.St → Hp → Prop} : ∀ (is : List Nat) (xs : List V) (ds : List D) (σ : L2.St) (sl : List (Option D)), RAll K W xs ds → ds.length = is.length → SlO K W σ sl →
    (∀ σ', SlO K W σ' (setAll is ds sl) → ((∀ i ∈ is, i ∈ vs) → wipe σ' vs = wipe σ vs) → Q σ' H) → gVs is xs σ H Q
  | [], _, _, σ, sl, r, hl, S, k => by
    cases r with
    | nil => exact ⟨rfl, k σ S fun _ => rfl⟩
    | cons _ _ => cases hl
  | i :: is, _, _, σ, sl, r, hl, S, k => by
    cases r with
    | nil => cases hl
    | cons r1 r2 =>
      refine ⟨_, _, rfl, ?_⟩
      refine gVs_ok (vs := vs) is _ _ _ _ r2 (Nat.succ.inj hl) (S.set r1) fun σ' S' w => k σ' S' fun h => ?_
      rw [w fun j hj => h j (List.mem_cons_of_mem _ hj)]
      exact wipe_set (h i List.mem_cons_self)
theorem gV_ok {vs : List Nat} {tg : Tg} {v : V} {d : D} {sl' : List (Option D)} {Q : L2.St → Hp → Prop} (S : Sd K W H σ e) (r : R K W v d) (h : setTg tg d e.sl = some sl')
    (k : ∀ σ', Sd K W H σ' ⟨sl', e.cs⟩ → ((∀ i ∈ tg.on, i ∈ vs) → wipe σ' vs = wipe σ vs) → Q σ' H) : gV K tg v σ H Q := by
  cases tg with
  | one i =>
    have h' : some (e.sl.set i (some d)) = some sl' := h
    cases h'
    exact k _ ⟨S.ok, S.sl.set r⟩ fun hh => wipe_set (hh i (List.mem_singleton.mpr rfl))
  | tup is =>
    cases d with
    | tup xs =>
      have h' : (if xs.length = is.length then some (setAll is xs e.sl) else none) = some sl' := h
      split at h'
      · rename_i hl
        cases h'
        cases r with
        | tup h1 h2 =>
          refine ⟨_, _, rfl, Evl.ex_t S.ok.ex h1, by rw [h2.length]; exact hl, gVs_ok (vs := vs) is _ _ _ _ h2 hl S.sl fun σ' S' w => k σ' ⟨S.ok, S'⟩ w⟩
      · cases h'
    | _ => cases h
end
def sAsgT (t : DE) (tg : Tg) : DS := fun P e => t e fun d e1 => ∃ sl', setTg tg d e1.sl = some sl' ∧ P.nx ⟨sl', e1.cs⟩
theorem ds_asgT {X : Cx} {B : Bs} {tgE ex : Expr} {te : DE} {tg : Tg} {pos : Pos} (he : PE X ex (lE X.K B te)) (hg : PG X tgE (gV X.K tg)) (hs : swapsWithSole [tgE] ex pos.line X.env = pure false := by rfl) (hw : swappedStores [tgE] ex X.env = pure none := by rfl)
    (h1 : (assignEach [tgE] X.env).map (·.2) = [assign tgE X.env] := by rfl) : PS X (.Assign [tgE] ex pos) (lS X.K B (sAsgT te tg)) := PS.imp (ps_asg he hg hs hw h1) fun E σ H h => by
  obtain ⟨W, e, P, bl, S, h, c⟩ := lS_un h
  exact ⟨W, e, _, bl, S, h, fun d e1 W1 H1 v ⟨sl', hsl, p⟩ l S1 r => gV_ok (vs := []) S1 r hsl fun σ' S' _ => c.nx _ _ _ _ p l S'⟩

/-! ### what is walked -/
/-- .. whatever is hidden -/
def Wd.sub (W W' : Wd) : Prop := Ex W.F W'.F ∧ ∃ more, W'.m = W.m ++ more
theorem Wd.le.sub {W W' : Wd} (l : W.le W') : W.sub W' := ⟨l.1, l.2.1⟩
theorem Wd.sub.tr {W W1 W2 : Wd} (a : W.sub W1) (b : W1.sub W2) : W.sub W2 := by
  obtain ⟨e1, m1, h1⟩ := a
  obtain ⟨e2, m2, h2⟩ := b
  exact ⟨e1.trans e2, m1 ++ m2, by rw [h2, h1, List.append_assoc]⟩
/-- what is walked, and what holds while it is walked -/
abbrev DI := En → (List D → (List Cel → Prop) → En → Prop) → Prop
/-- J walks the items ds, as long as G -/
structure Wk (K : PySem.W.Frag) (W0 : Wd) (J : It) (G : List Cel → Prop) (ds : List D) : Prop where
  go : ∀ i W H σ e, W0.sub W → Sd K W H σ e → G e.cs → i < ds.length → J.go i H
  yld : ∀ i W H σ e x H' d, W0.sub W → Sd K W H σ e → G e.cs → ds[i]? = some d → J.yld i H x H' → ∃ W', W.le W' ∧ Sd K W' H' σ e ∧ R K W' x d
  stop : ∀ i W H σ e, W0.sub W → Sd K W H σ e → G e.cs → ds.length ≤ i → J.stop i H
/-- whatever the cells hold -/
def anyC : List Cel → Prop := fun _ => True
def lI (K : PySem.W.Frag) (B : Bs) (t : DI) : TI := fun σ H Q => ∃ W e P, B.p W ∧ Sd K W H σ e ∧ t e P ∧
  ∀ ds G e' W' H' J, P ds G e' → W.le W' → Sd K W' H' σ e' → Wk K W' J G ds → Q J H'
section
variable {X : Cx} {B : Bs} {tg ex a b : Expr} {te : DE} {ta : DA} {pos p : Pos} {K : PySem.W.Frag}
theorem PI.imp {t t' : TI} (h : PI X tg ex t) (i : ∀ σ H Q, t' σ H Q → t σ H Q) : PI X tg ex t' := ⟨fun pins s σ H Q I w => h.run pins s σ H Q I (i σ H Q w)⟩
theorem wk_list {W : Wd} {a : Addr} {vs : List V} {ds : List D} (h : SqL K W.F a vs) (r : RAll K W vs ds) : Wk K W (Itl K a) anyC ds where
  go := fun i W' H σ e l S _ hi => by
    have hi' : i < vs.length := by rw [r.length]; exact hi
    exact ⟨vs, vs[i], Evl.ex_l (l.1.trans S.ok.ex) h, by simp [hi']⟩
  yld := fun i W' H σ e x H' d l S _ hd y => by
    obtain ⟨rfl, y⟩ := y
    obtain ⟨v, hv, rv⟩ := r.get hd
    have e1 := y vs (Evl.ex_l (l.1.trans S.ok.ex) h)
    rw [hv] at e1
    cases e1
    exact ⟨W', W'.le_refl, S, R.mono' l _ _ rv⟩
  stop := fun i W' H σ e l S _ hi => ⟨vs, Evl.ex_l (l.1.trans S.ok.ex) h, by rw [r.length]; exact hi⟩
theorem wk_tup {W : Wd} {a : Addr} {vs : List V} {ds : List D} (h : SqT K W.F a vs) (r : RAll K W vs ds) : Wk K W (Itt K a) anyC ds where
  go := fun i W' H σ e l S _ hi => by
    have hi' : i < vs.length := by rw [r.length]; exact hi
    exact ⟨vs, vs[i], Evl.ex_t (l.1.trans S.ok.ex) h, by simp [hi']⟩
  yld := fun i W' H σ e x H' d l S _ hd y => by
    obtain ⟨rfl, y⟩ := y
    obtain ⟨v, hv, rv⟩ := r.get hd
    have e1 := y vs (Evl.ex_t (l.1.trans S.ok.ex) h)
    rw [hv] at e1
    cases e1
    exact ⟨W', W'.le_refl, S, R.mono' l _ _ rv⟩
  stop := fun i W' H σ e l S _ hi => ⟨vs, Evl.ex_t (l.1.trans S.ok.ex) h, by rw [r.length]; exact hi⟩
theorem wk_cell {W : Wd} {n : Nat} {a : Addr} {ds : List D} (hm : W.m[n]? = some a) : Wk K W (Itl K a) (fun cs => cs[n]? = some (.lst ds)) ds where
  go := fun i W' H σ e l S g hi => by
    have hm' : W'.m[n]? = some a := by
      obtain ⟨more, e2⟩ := l.2
      have := (List.getElem?_eq_some_iff.mp hm).1
      rw [e2, List.getElem?_append_left this]
      exact hm
    obtain ⟨vs, h1, h2⟩ := S.ok.cellL hm' g
    have hi' : i < vs.length := by rw [h2.length]; exact hi
    exact ⟨vs, vs[i], SqL.of h1, by simp [hi']⟩
  yld := fun i W' H σ e x H' d l S g hd y => by
    have hm' : W'.m[n]? = some a := by
      obtain ⟨more, e2⟩ := l.2
      have := (List.getElem?_eq_some_iff.mp hm).1
      rw [e2, List.getElem?_append_left this]
      exact hm
    obtain ⟨vs, h1, h2⟩ := S.ok.cellL hm' g
    obtain ⟨rfl, y⟩ := y
    obtain ⟨v, hv, rv⟩ := h2.get hd
    have e1 := y vs (SqL.of h1)
    rw [hv] at e1
    cases e1
    exact ⟨W', W'.le_refl, S, rv⟩
  stop := fun i W' H σ e l S g hi => by
    have hm' : W'.m[n]? = some a := by
      obtain ⟨more, e2⟩ := l.2
      have := (List.getElem?_eq_some_iff.mp hm).1
      rw [e2, List.getElem?_append_left this]
      exact hm
    obtain ⟨vs, h1, h2⟩ := S.ok.cellL hm' g
    exact ⟨vs, SqL.of h1, by rw [h2.length]; exact hi⟩
/-- the intsD loD, loD + 1, .. -/
def intsD (loD : Int) (n : Nat) : List D := (List.range n).map fun (i : Nat) => D.int (loD + (i : Int))
theorem intsD_len (loD : Int) (n : Nat) : (intsD loD n).length = n := by simp [intsD]
theorem intsD_get {loD : Int} {n i : Nat} {d : D} (h : (intsD loD n)[i]? = some d) : i < n ∧ d = .int (loD + i) := by
  have hl := (List.getElem?_eq_some_iff.mp h).1
  rw [intsD_len] at hl
  unfold intsD at h
  rw [List.getElem?_map, List.getElem?_range hl] at h
  exact ⟨hl, (Option.some.inj h).symm⟩
theorem wk_rng {W : Wd} {loD : Int} {n : Nat} : Wk K W (Itr loD n) anyC (intsD loD n) where
  go := fun i W' H σ e l S _ hi => by rw [intsD_len] at hi; exact hi
  yld := fun i W' H σ e x H' d l S _ hd y => by
    obtain ⟨rfl, rfl⟩ := y
    obtain ⟨_, rfl⟩ := intsD_get hd
    exact ⟨W', W'.le_refl, S, .int _⟩
  stop := fun i W' H σ e l S _ hi => by rw [intsD_len] at hi; exact hi
/-- a list (that changes no more) or a tuple -/
def fixL : D → Option (List D)
  | .lst xs => some xs
  | .fro xs => some xs
  | _ => none
def iL (t : DE) : DI := fun e P => t e fun d e1 => ∃ xs, fixL d = some xs ∧ P xs anyC e1
def iT (t : DE) : DI := fun e P => t e fun d e1 => ∃ xs, d = .tup xs ∧ P xs anyC e1
theorem di_list (h : PE X ex (lE X.K B te)) : PI X tg ex (lI X.K B (iL te)) := PI.imp (pi_list h) fun σ H Q ⟨W, e, P, bl, S, t, k⟩ => by
  refine ⟨W, e, _, bl, S, t, fun d e1 W1 H1 v ⟨xs, hx, p⟩ l S1 r => ?_⟩
  have : ∃ a vs, v = .ref a ∧ SqL X.K W1.F a vs ∧ RAll X.K W1 vs xs := by
    cases r <;> simp only [fixL] at hx <;> cases hx
    · exact ⟨_, _, rfl, SqL.of (by assumption), by assumption⟩
    · exact ⟨_, _, rfl, by assumption, by assumption⟩
  obtain ⟨a, vs, rfl, h1, h2⟩ := this
  exact ⟨a, rfl, ⟨vs, Evl.ex_l S1.ok.ex h1⟩, k _ _ _ _ _ _ p l S1 (wk_list h1 h2)⟩
theorem di_tup (h : PE X ex (lE X.K B te)) : PI X tg ex (lI X.K B (iT te)) := PI.imp (pi_tup h) fun σ H Q ⟨W, e, P, bl, S, t, k⟩ => by
  refine ⟨W, e, _, bl, S, t, fun d e1 W1 H1 v ⟨xs, hx, p⟩ l S1 r => ?_⟩
  subst hx
  cases r with
  | tup h1 h2 => exact ⟨_, rfl, ⟨_, Evl.ex_t S1.ok.ex h1⟩, k _ _ _ _ _ _ p l S1 (wk_tup h1 h2)⟩
def iR1 (t : DA) : DI := fun e P => t e fun ds e1 => ∃ j, ds = [.int j] ∧ -(2 ^ 62) ≤ j ∧ j < 2 ^ 62 ∧ P (intsD 0 j.toNat) anyC e1
def iR2 (t : DA) : DI := fun e P => t e fun ds e1 => ∃ i j, ds = [.int i, .int j] ∧ (-(2 ^ 62) ≤ i ∧ i < 2 ^ 62 ∧ -(2 ^ 62) ≤ j ∧ j < 2 ^ 62) ∧ P (intsD i (j - i).toNat) anyC e1
theorem RAll.one_int {W : Wd} {vs : List V} {j : Int} (r : RAll K W vs [.int j]) : vs = [.int j] := by
  cases r with
  | cons h t => cases h; cases t; rfl
theorem RAll.two_int {W : Wd} {vs : List V} {i j : Int} (r : RAll K W vs [.int i, .int j]) : vs = [.int i, .int j] := by
  cases r with
  | cons h t =>
    cases h
    cases t with
    | cons h t => cases h; cases t; rfl
theorem di_range1 (hg : Gl X "range") (hm : X.mg "range" = none) (ha : PA X [a] (lA X.K B ta)) (hs : starEach [a] X.env = [(false, eval a X.env)] := by rfl) : PI X tg (.Call (.Name "range" p) [a] [] pos) (lI X.K B (iR1 ta)) :=
  PI.imp (pi_range1 hg hm ha hs) fun σ H Q ⟨W, e, P, bl, S, t, k⟩ => ⟨W, e, _, bl, S, t, fun ds e1 W1 H1 vs ⟨j, ed, h1, h2, p⟩ l S1 r => by
    subst ed
    exact ⟨j, r.one_int, h1, h2, k _ _ _ _ _ _ p l S1 wk_rng⟩⟩
theorem di_range2 (hg : Gl X "range") (hm : X.mg "range" = none) (ha : PA X [a, b] (lA X.K B ta)) (hs : starEach [a, b] X.env = [(false, eval a X.env), (false, eval b X.env)] := by rfl) (hs2 : starEach [b] X.env = [(false, eval b X.env)] := by rfl) :
    PI X tg (.Call (.Name "range" p) [a, b] [] pos) (lI X.K B (iR2 ta)) :=
  PI.imp (pi_range2 hg hm ha hs hs2) fun σ H Q ⟨W, e, P, bl, S, t, k⟩ => ⟨W, e, _, bl, S, t, fun ds e1 W1 H1 vs ⟨i, j, ed, h, p⟩ l S1 r => by
    subst ed
    exact ⟨i, j, r.two_int, h, k _ _ _ _ _ _ p l S1 wk_rng⟩⟩
end

/-! ### loops -/
def sFor (it : DI) (tg : Tg) (tb : DS) : DS := fun P e => it e fun ds G e1 => ∃ I : Nat → En → Prop, I 0 e1 ∧
  (∀ i d e2, ds[i]? = some d → I i e2 → G e2.cs ∧ ∃ sl', setTg tg d e2.sl = some sl' ∧ tb (P.lp (I (i + 1))) ⟨sl', e2.cs⟩) ∧ ∀ e2, I ds.length e2 → G e2.cs ∧ P.nx e2
def sWhile (c : DT) (tb : DS) : DS := fun P e => ∃ I : Nat → En → Prop, (∃ m, I m e) ∧ ∀ m e1, I m e1 → c e1 fun b e2 => if b = true then tb (P.lp fun e3 => ∃ m', m' < m ∧ I m' e3) e2 else P.nx e2
section
variable {X : Cx} {B : Bs} {tgE iter c : Expr} {body : List Stmt} {it : DI} {dt : DT} {tb : DS} {tg : Tg} {pos : Pos}
theorem ds_for (hp : PassesOwn (model X.prog X.w) X.A X.env X.xe) (hc : X.calm = true) (hi : PI X tgE iter (lI X.K B it)) (hg : PG X tgE (gV X.K tg)) (hb : PSs X body (lS X.K B tb))
    (hs : ∀ x, foldedSetIterable iter X.env x = pure x := by intro _; rfl) : PS X (.For tgE iter body [] pos) (lS X.K B (sFor it tg tb)) := PS.imp (ps_for hp hc hi hg hb hs) fun E σ H h => by
  obtain ⟨W, e, P, bl, S, h, c⟩ := lS_un h
  refine ⟨W, e, _, bl, S, h, fun ds G e1 W1 H1 J ⟨I, i0, turn, done⟩ l1 S1 wk => ?_⟩
  refine ⟨fun i m σ H => m = ds.length - i ∧ i ≤ ds.length ∧ ∃ W2 e2, W1.le W2 ∧ Sd X.K W2 H σ e2 ∧ I i e2, ⟨_, rfl, Nat.zero_le _, W1, e1, W1.le_refl, S1, i0⟩, ?_⟩
  rintro i m σ2 H2 ⟨rfl, hi, W2, e2, l2, S2, p2⟩
  by_cases hlt : i < ds.length
  · have hd : ds[i]? = some ds[i] := by simp [hlt]
    obtain ⟨g2, sl', hsl, p3⟩ := turn i _ e2 hd p2
    refine .inr ⟨wk.go i W2 H2 σ2 e2 l2.sub S2 g2 hlt, fun σ H => ∃ W2 e2, W1.le W2 ∧ Sd X.K W2 H σ e2 ∧ I (i + 1) e2, fun σ' H' q => ⟨ds.length - (i + 1), by omega, rfl, hlt, q⟩, fun x H' y => ?_⟩
    obtain ⟨W3, l3, S3, r3⟩ := wk.yld i W2 H2 σ2 e2 x H' _ l2.sub S2 g2 hd y
    refine gV_ok (vs := []) S3 r3 hsl fun σ4 S4 _ => ?_
    have l13 := l2.tr l3
    have l03 := l1.tr l13
    exact lS_mk ((B.up bl l03)) S4 p3 ⟨fun e' W' H' σ' p l S' => ⟨W', e', l13.tr l, S', p⟩, fun d cs W' H' v p l S' r => c.rt d cs W' H' v p (l03.tr l) S' r, fun e' W' H' σ' p l S' => c.nx e' W' H' σ' p (l03.tr l) S', fun e' W' H' σ' p l S' => ⟨W', e', l13.tr l, S', p⟩⟩
  · have ei : i = ds.length := by omega
    subst ei
    obtain ⟨g2, q2⟩ := done e2 p2
    exact .inl ⟨wk.stop _ W2 H2 σ2 e2 l2.sub S2 g2 (Nat.le_refl _), c.nx _ _ _ _ q2 (l1.tr l2) S2⟩
theorem ds_while (hp : PassesOwn (model X.prog X.w) X.A X.env X.xe) (hc : PT X c (lT X.K B dt)) (hb : PSs X body (lS X.K B tb)) : PS X (.While c body [] pos) (lS X.K B (sWhile dt tb)) := PS.imp (ps_while hp hc hb) fun E σ H h => by
  obtain ⟨W, e, P, bl, S, ⟨I, ⟨m0, i0⟩, turn⟩, c⟩ := lS_un h
  refine ⟨fun m σ H => ∃ W2 e2, W.le W2 ∧ Sd X.K W2 H σ e2 ∧ I m e2, ⟨m0, W, e, W.le_refl, S, i0⟩, ?_⟩
  rintro m σ2 H2 ⟨W2, e2, l2, S2, p2⟩
  refine ⟨W2, e2, _, (B.up bl l2), S2, turn m e2 p2, fun b e3 W3 H3 p3 l3 S3 => ?_⟩
  have l03 := l2.tr l3
  cases b with
  | true =>
    refine iteT ⟨fun σ' H' => ∃ m', m' < m ∧ ∃ W2 e2, W.le W2 ∧ Sd X.K W2 H' σ' e2 ∧ I m' e2, fun _ _ q => q, lS_mk ((B.up bl l03)) S3 p3 ⟨?_, fun d cs W' H' v p l S' r => c.rt d cs W' H' v p (l03.tr l) S' r, fun e' W' H' σ' p l S' => c.nx e' W' H' σ' p (l03.tr l) S', ?_⟩⟩
    · rintro e' W' H' σ' ⟨m', hm, p⟩ l S'
      exact ⟨m', hm, W', e', l03.tr l, S', p⟩
    · rintro e' W' H' σ' ⟨m', hm, p⟩ l S'
      exact ⟨m', hm, W', e', l03.tr l, S', p⟩
  | false => exact iteF (c.nx _ _ _ _ p3 l03 S3)
end
end DL
namespace DL
open PySem PySem.Spec PyProof.Rows L2
open Evl (Ex)

/-! ### no name of a cell from k on -/
mutual
def loD (k : Nat) : D → Bool
  | .tup xs => los k xs
  | .lst xs => los k xs
  | .fro xs => los k xs
  | .ins _ _ xs => los k xs
  | .cell n => decide (n < k)
  | .non => true
  | .bl _ => true
  | .int _ => true
  | .str _ => true
  | .dct => true
  | .raw _ => true
def los (k : Nat) : List D → Bool
  | [] => true
  | x :: xs => loD k x && los k xs
end
section
variable {K : PySem.W.Frag} {W : Wd}
mutual
theorem R.low {k : Nat} : ∀ (d : D) (v : V), R K W v d → loD k d = true → R K ⟨W.F, W.m.take k, W.h⟩ v d
  | .non, _, h, _ => by cases h; exact .non
  | .bl b, _, h, _ => by cases h; exact .bl b
  | .int i, _, h, _ => by cases h; exact .int i
  | .str s, _, h, _ => by cases h; exact .str s
  | .tup xs, _, h, o => by
    cases h with
    | tup hs ha => exact .tup hs (RAll.low xs _ ha o)
  | .lst xs, _, h, o => by
    cases h with
    | lst hs ha => exact .lst hs (RAll.low xs _ ha o)
  | .fro xs, _, h, o => by
    cases h with
    | fro hs ha => exact .fro hs (RAll.low xs _ ha o)
  | .ins C ns xs, _, h, o => by
    cases h with
    | ins hs ha => exact .ins hs (RAll.low xs _ ha o)
  | .cell n, _, h, o => by
    cases h with
    | cell hs => exact .cell (by show (W.m.take k)[n]? = _; rw [List.getElem?_take_of_lt (of_decide_eq_true o)]; exact hs)
  | .dct, _, h, _ => by
    cases h with
    | dct hs => exact .dct hs
  | .raw v, _, h, _ => by cases h; exact .raw v
theorem RAll.low {k : Nat} : ∀ (ds : List D) (vs : List V), RAll K W vs ds → los k ds = true → RAll K ⟨W.F, W.m.take k, W.h⟩ vs ds
  | [], _, h, _ => by cases h; exact .nil
  | d :: ds, _, h, o => by
    cases h with
    | cons h1 h2 =>
      have o' : (loD k d && los k ds) = true := o
      rw [Bool.and_eq_true] at o'
      exact .cons (R.low d _ h1 o'.1) (RAll.low ds _ h2 o'.2)
end
end
def Cel.loD (k : Nat) : Cel → Bool
  | .dead => true
  | .lst xs => los k xs
  | .ins _ _ xs => los k xs
  | .dic kxs => los k (kxs.map (·.2))
theorem RKs.low {K : PySem.W.Frag} {W : Wd} {k : Nat} : ∀ {ps : List (Key × V)} {kxs : List (Int × D)}, RKs K W ps kxs → los k (kxs.map (·.2)) = true → RKs K ⟨W.F, W.m.take k, W.h⟩ ps kxs
  | _, _, .nil, _ => .nil
  | _, _, @RKs.cons _ _ _ _ d _ kxs r t, o => by
    have o' : (DL.loD k d && los k (kxs.map (·.2))) = true := o
    rw [Bool.and_eq_true] at o'
    exact .cons (R.low d _ r o'.1) (RKs.low t o'.2)
theorem ClOk.low {K : PySem.W.Frag} {W : Wd} {H : Hp} {a : Addr} {k : Nat} : ∀ {c : Cel}, ClOk K W H a c → c.loD k = true → ClOk K ⟨W.F, W.m.take k, W.h⟩ H a c
  | .dead, _, _ => trivial
  | .lst xs, ⟨vs, h, r⟩, o => ⟨vs, h, RAll.low xs _ r o⟩
  | .ins C ns xs, ⟨dx, gs, h, e, r⟩, o => ⟨dx, gs, h, e, RAll.low xs _ r o⟩
  | .dic _, ⟨ps, h, r⟩, o => ⟨ps, h, r.low o⟩
/-- the younger cells forgotten -/
theorem Ok.low {K : PySem.W.Frag} {W : Wd} {H : Hp} {cs : List Cel} {k : Nat} (h : Ok K W H cs) (o : (cs.take k).all (Cel.loD k) = true) : Ok K ⟨W.F, W.m.take k, W.h⟩ H (cs.take k) := by
  have get : ∀ {α : Type} {l : List α} {n : Nat} {x : α}, (l.take k)[n]? = some x → l[n]? = some x := fun {α l n x} e => by
    by_cases hn : n < k
    · rw [List.getElem?_take_of_lt hn] at e; exact e
    · rw [List.getElem?_eq_none (by rw [List.length_take]; omega)] at e; cases e
  refine ⟨h.ex, by simp [h.len], h.nd.sublist (List.take_sublist _ _), fun a ha => h.here a (List.mem_of_mem_take ha), fun n a c e1 e2 => h.fr n a c (get e1) (get e2), fun n a c e1 e2 => ?_, fun q hq => ?_, h.hn⟩
  · exact (h.cl n a c (get e1) (get e2)).low (List.all_eq_true.mp o c (List.mem_of_getElem? e2))
  · obtain ⟨h1, h2, h3⟩ := h.hd q hq
    exact ⟨h1, h2, fun hm => h3 (List.mem_of_mem_take hm)⟩

/-! ### comprehensions -/
def eLc (o : Bool) (it : DI) (tg : Tg) (tt : DT) (te : DE) (vs : List Nat) : DE := fun e P => it e fun ds G e1 => ds.length ≤ sizeLine ∧ ∃ I : Nat → List D → List Cel → Prop, I 0 [] e1.cs ∧
  (∀ i d acc cs, ds[i]? = some d → I i acc cs → G cs ∧ ∃ sl', setTg tg d (wipeD e1.sl vs) = some sl' ∧ tt ⟨sl', cs⟩ fun b e2 => if b = true then te e2 fun y e3 => I (i + 1) (acc ++ [y]) e3.cs else I (i + 1) acc e2.cs) ∧
  ∀ acc cs, acc.length ≤ ds.length → I ds.length acc cs → G cs ∧ newL o acc ⟨e1.sl, cs⟩ P
def dYes : DT := fun e P => P true e
section
variable {K : PySem.W.Frag} {X : Cx} {B : Bs} {elt tgE iter : Expr} {ifs : List Expr} {scope : Scope} {own : List (Str × Nat)} {pos : Pos} {it : DI} {tg : Tg} {tt : DT} {te : DE} {o : Bool}
theorem SlO.mono' {W W' : Wd} {σ : L2.St} {sl : List (Option D)} (l : W.sub W') (h : SlO K W σ sl) : SlO K W' σ sl :=
  ⟨h.1, fun i d e => let ⟨v, a, b⟩ := h.2 i d e; ⟨v, a, R.mono' l _ _ b⟩⟩
theorem lc_ok {vs : List Nat} (hv : ∀ i ∈ tg.on, i ∈ vs) : ∀ σ H Q, lE K B (eLc o it tg tt te vs) σ H Q → tLc (lI K B it) (gV K tg) (lT K Bs.any tt) (lE K Bs.any te) vs σ H Q := by
  rintro σ H Q ⟨W, e, P, bl, S, t, k⟩
  refine ⟨W, e, _, bl, S, t, fun ds G e1 W1 H1 J ⟨hz, I, i0, turn, done⟩ l1 S1 wk Dl hD => ?_⟩
  obtain ⟨F1, m1, h1⟩ := W1
  refine ⟨fun i m H => m = ds.length - i ∧ i ≤ ds.length ∧ ∃ (F : Hp) (mm : List Addr) (vs' : List V) (acc : List D) (cs : List Cel), Wd.sub ⟨F1, m1, h1⟩ ⟨F, mm, (Dl, vs') :: h1⟩ ∧ Ok K ⟨F, mm, (Dl, vs') :: h1⟩ H cs ∧ RAll K ⟨F, mm, (Dl, vs') :: h1⟩ vs' acc ∧ acc.length ≤ i ∧ I i acc cs,
    ⟨_, rfl, Nat.zero_le _, F1, m1, [], [], e1.cs, ⟨Ex.refl _, [], (List.append_nil _).symm⟩, S1.ok.hide hD, .nil, Nat.zero_le _, i0⟩, ?_⟩
  rintro i m H2 ⟨rfl, hi, F, mm, vs', acc, cs, sb, ok, ra, hacc, p⟩
  have Sx : Sd K ⟨F, mm, (Dl, vs') :: h1⟩ H2 σ ⟨e1.sl, cs⟩ := ⟨ok, S1.sl.mono' sb⟩
  by_cases hlt : i < ds.length
  · have hd : ds[i]? = some ds[i] := by simp [hlt]
    obtain ⟨g2, sl', hsl, p3⟩ := turn i _ acc cs hd p
    refine .inr ⟨wk.go i _ H2 σ _ sb Sx g2 hlt, _, fun H' q => ⟨ds.length - (i + 1), by omega, rfl, hlt, q⟩, fun x H' y => ?_⟩
    obtain ⟨W3, l3, S3, r3⟩ := wk.yld i _ H2 σ _ x H' _ sb Sx g2 hd y
    have S3w : Sd K W3 H' (wipe σ vs) ⟨wipeD e1.sl vs, cs⟩ := ⟨S3.ok, S3.sl.wipe vs⟩
    refine gV_ok (vs := vs) S3w r3 hsl fun σ4 S4 w4 => ⟨by rw [w4 hv, wipe_wipe], ?_⟩
    refine ⟨W3, _, _, trivial, S4, p3, fun b e5 W5 H5 p5 l5 S5 => ?_⟩
    have fin : ∀ (W6 : Wd) (H6 : Hp) (e6 : En) (acc' : List D) (vs6 : List V), W3.le W6 → Ok K W6 H6 e6.cs → RAll K W6 vs6 acc' → acc'.length ≤ i + 1 → I (i + 1) acc' e6.cs →
        ∀ (H7 : Hp), (H7 = upd H6 Dl (.lst vs6) ∨ (H7 = H6 ∧ vs6 = vs')) → ∃ (F : Hp) (mm : List Addr) (vs' : List V) (acc : List D) (cs : List Cel), Wd.sub ⟨F1, m1, h1⟩ ⟨F, mm, (Dl, vs') :: h1⟩ ∧ Ok K ⟨F, mm, (Dl, vs') :: h1⟩ H7 cs ∧ RAll K ⟨F, mm, (Dl, vs') :: h1⟩ vs' acc ∧ acc.length ≤ i + 1 ∧ I (i + 1) acc cs := by
      intro W6 H6 e6 acc' vs6 l6 ok6 ra6 hl6 p6 H7 hH
      have l36 := l3.tr l6
      obtain ⟨F6, m6, h6⟩ := W6
      obtain rfl : h6 = (Dl, vs') :: h1 := l36.2.2
      have sb6 : Wd.sub ⟨F1, m1, h1⟩ ⟨F6, m6, (Dl, vs6) :: h1⟩ := sb.tr (W2 := ⟨F6, m6, (Dl, vs6) :: h1⟩) ⟨l36.1, l36.2.1⟩
      refine ⟨F6, m6, vs6, acc', e6.cs, sb6, ?_, ra6.world rfl rfl, hl6, p6⟩
      rcases hH with rfl | ⟨rfl, rfl⟩
      · exact ok6.grow
      · exact ok6
    cases b with
    | false => exact iteF (fin W5 H5 e5 acc vs' l5 S5.ok (RAll.mono (l3.tr l5) _ _ ra) (by omega) p5 H5 (.inr ⟨rfl, rfl⟩))
    | true =>
      refine iteT ⟨W5, e5, _, trivial, S5, p5, fun y e6 W6 H6 v6 p6 l6 S6 r6 => ?_⟩
      have l56 := l5.tr l6
      have hD6 : H6 Dl = some (.lst vs') := (S6.ok.hd (Dl, vs') (by rw [(l3.tr l56).2.2]; exact List.mem_cons_self)).1
      have ra6 : RAll K W6 vs' acc := RAll.mono (l3.tr l56) _ _ ra
      exact ⟨vs', hD6, by rw [ra6.length]; omega, fin W6 H6 e6 (acc ++ [y]) (vs' ++ [v6]) l56 S6.ok (ra6.app1 r6) (by simp; omega) p6 _ (.inl rfl)⟩
  · have ei : i = ds.length := by omega
    subst ei
    obtain ⟨g2, q⟩ := done acc cs hacc p
    refine .inl ⟨wk.stop _ _ H2 σ _ sb Sx g2 (Nat.le_refl _), ?_⟩
    have ra' : RAll K ⟨F, mm, h1⟩ vs' acc := ra.world rfl rfl
    have lx : (⟨F1, m1, h1⟩ : Wd).le ⟨F, mm, h1⟩ := ⟨sb.1, sb.2, rfl⟩
    cases o with
    | false =>
      obtain ⟨ok', l'⟩ := ok.showF
      exact k _ _ _ _ _ q (l1.tr (lx.tr l')) ⟨ok', S1.sl.mono (lx.tr l')⟩ (.lst upd_same (RAll.mono l' _ _ ra'))
    | true =>
      obtain ⟨ok', l'⟩ := ok.showC ra'
      refine k _ _ _ _ _ q (l1.tr (lx.tr l')) ⟨ok', S1.sl.mono (lx.tr l')⟩ (.cell ?_)
      show (mm ++ [Dl])[cs.length]? = some Dl
      have hl : mm.length = cs.length := ok.len
      rw [← hl, List.getElem?_append_right (Nat.le_refl _)]
      simp
end
end DL
namespace DL
open PySem PySem.Spec PyProof.Rows L2
open Evl (Ex)

/-! ### comprehensions, as rules -/
section
variable {X : Cx} {B : Bs} {elt tgE iter : Expr} {ifs : List Expr} {scope : Scope} {own : List (Str × Nat)} {pos : Pos} {it : DI} {tg : Tg} {tt : DT} {te : DE}
theorem PTs.imp {X : Cx} {ifs : List Expr} {t t' : TT} (h : PTs X ifs t) (i : ∀ σ H Q, t' σ H Q → t σ H Q) : PTs X ifs t' := ⟨fun pins s σ H Q I w => h.run pins s σ H Q I (i σ H Q w)⟩
theorem dts_nil : PTs X [] (lT X.K B dYes) := PTs.imp pts_nil fun σ H Q ⟨W, e, P, _, S, p, k⟩ => k true e W H p W.le_refl S
theorem dts_one {c : Expr} (h : PT X c (lT X.K B tt)) : PTs X [c] (lT X.K B tt) := pts_one h
theorem de_lc {o : Bool} (hc : X.calm = true) (hN : X.N.Nodup) (hi : PI X tgE iter (lI X.K B it)) (ok : BlkOk X.N X.env.scope scope own) (hv : ∀ i ∈ tg.on, i ∈ own.map (·.2))
    (hg : ∀ (s : Shared) (H : Hp) (C : Addr) (cl : List (Str × Addr)) (fp : List Addr), PG (X.blk s H scope (compEnvC scope cl C X.env) fp) tgE (gV X.K tg)) (ht : ∀ (s : Shared) (H : Hp) (C : Addr) (cl : List (Str × Addr)) (fp : List Addr), PTs (X.blk s H scope (compEnvC scope cl C X.env) fp) ifs (lT X.K Bs.any tt))
    (he : ∀ (s : Shared) (H : Hp) (C : Addr) (cl : List (Str × Addr)) (fp : List Addr), PE (X.blk s H scope (compEnvC scope cl C X.env) fp) elt (lE X.K Bs.any te)) (hs : ∀ x, foldedSetIterable iter X.env x = pure x := by intro _; rfl) :
    PE X (.ListComp elt [⟨tgE, iter, ifs, 0⟩] scope pos) (lE X.K B (eLc o it tg tt te (own.map (·.2)))) := PE.imp (pe_lc hc hN hi ok hg ht he hs) (lc_ok hv)
theorem ds_setLc {o : Bool} {i : Nat} {y : Str} {py spos : Pos} (hc : X.calm = true) (hN : X.N.Nodup) (hy : X.N[i]? = some y) (hyl : X.env.scope.names.lookup y = some .local)
    (hsw : swapsWith (.ListComp elt [⟨tgE, iter, ifs, 0⟩] scope pos) (some (.Name y py)) spos.line X.env = pure true) (hi : PI X tgE iter (lI X.K B it)) (ok : BlkOk X.N X.env.scope scope own) (hv : ∀ i ∈ tg.on, i ∈ own.map (·.2))
    (hg : ∀ (s : Shared) (H : Hp) (C : Addr) (cl : List (Str × Addr)) (fp : List Addr), PG (X.blk s H scope (compEnvC scope cl C X.env) fp) tgE (gV X.K tg)) (ht : ∀ (s : Shared) (H : Hp) (C : Addr) (cl : List (Str × Addr)) (fp : List Addr), PTs (X.blk s H scope (compEnvC scope cl C X.env) fp) ifs (lT X.K Bs.any tt))
    (he : ∀ (s : Shared) (H : Hp) (C : Addr) (cl : List (Str × Addr)) (fp : List Addr), PE (X.blk s H scope (compEnvC scope cl C X.env) fp) elt (lE X.K Bs.any te)) (hs : ∀ x, foldedSetIterable iter X.env x = pure x := by intro _; rfl) :
    PS X (.Assign [.Name y py] (.ListComp elt [⟨tgE, iter, ifs, 0⟩] scope pos) spos) (lS X.K B (sAsg (eLc o it tg tt te (own.map (·.2))) i)) := PS.imp (ps_setLc hc hN hy hyl hsw hi ok hg ht he hs) fun E σ H h => by
  obtain ⟨W, e, P, bl, S, h, c⟩ := lS_un h
  exact lc_ok hv σ H _ ⟨W, e, _, bl, S, h, fun d e1 W1 H1 v p l S1 r => c.nx _ _ _ _ p l ⟨S1.ok, S1.sl.set r⟩⟩
end

/-! ### built-ins -/
def CallD (K : PySem.W.Frag) (r : List V → Hp → VK → Prop) (q : List D → DE) : Prop := ∀ (W : Wd) (H : Hp) (σ : L2.St) (e : En) (vs : List V) (ds : List D) (P : D → En → Prop) (Q : VK), Sd K W H σ e → RAll K W vs ds → q ds e P →
  (∀ d e' W' H' v, P d e' → W.le W' → Sd K W' H' σ e' → R K W' v d → Q v H') → r vs H Q
def eCB (q : List D → DE) (ta : DA) : DE := fun e P => ta e fun ds e1 => q ds e1 P
section
variable {K : PySem.W.Frag} {X : Cx} {B : Bs} {x : Str} {p pos : Pos} {ex : Expr} {es : List Expr} {ta : DA} {id T : String} {r : List V → Hp → VK → Prop} {q : List D → DE}
theorem cb_ok (hq : CallD K r q) : ∀ σ H Q, lE K B (eCB q ta) σ H Q → tCB r (lA K B ta) σ H Q := fun σ H Q ⟨W, e, P, bl, S, t, k⟩ =>
  ⟨W, e, _, bl, S, t, fun ds e1 W1 H1 vs t1 l1 S1 r1 => hq W1 H1 σ e1 vs ds P Q S1 r1 t1 fun d e2 W2 H2 v p l2 S2 r2 => k d e2 W2 H2 v p (l1.tr l2) S2 r2⟩
theorem de_callB (hc : CallR X (.builtin id) r) (hq : CallD X.K r q) (hg : Gl X x) (hm : X.mg x = none) (hv : bootBuiltins x = some (.builtin id)) (ha : PA X (ex :: es) (lA X.K B ta)) (hn : x ≠ "__name__" := by decide) (hdb : (x == ("__debug__" : Str)) = false := by decide)
    (he : starEach (ex :: es) X.env = (false, eval ex X.env) :: starEach es X.env := by rfl) (hpl : (backTo pos (starEach es X.env)).any (·.1) = false := by rfl) : PE X (.Call (.Name x p) (ex :: es) [] pos) (lE X.K B (eCB q ta)) := PE.imp (pe_callB hc hg hm hv ha hn hdb he hpl) (cb_ok hq)
theorem de_callTy (hc : CallR X (.type T) r) (hq : CallD X.K r q) (hg : Gl X x) (hm : X.mg x = none) (hv : bootBuiltins x = some (.type T)) (ha : PA X (ex :: es) (lA X.K B ta)) (hn : x ≠ "__name__" := by decide) (hdb : (x == ("__debug__" : Str)) = false := by decide)
    (he : starEach (ex :: es) X.env = (false, eval ex X.env) :: starEach es X.env := by rfl) (hpl : (backTo pos (starEach es X.env)).any (·.1) = false := by rfl) : PE X (.Call (.Name x p) (ex :: es) [] pos) (lE X.K B (eCB q ta)) := PE.imp (pe_callTy hc hg hm hv ha hn hdb he hpl) (cb_ok hq)
theorem RAll.one {W : Wd} {vs : List V} {d : D} (h : RAll K W vs [d]) : ∃ v, vs = [v] ∧ R K W v d := by
  cases h with
  | cons r t => cases t; exact ⟨_, rfl, r⟩
theorem RAll.two {W : Wd} {vs : List V} {d d2 : D} (h : RAll K W vs [d, d2]) : ∃ v v2, vs = [v, v2] ∧ R K W v d ∧ R K W v2 d2 := by
  cases h with
  | cons r t =>
    obtain ⟨v, rfl, r2⟩ := t.one
    exact ⟨_, v, rfl, r, r2⟩
/-- a list or a tuple -/
def seqD (cs : List Cel) : D → Option (List D)
  | .tup xs => some xs
  | d => lk cs d
theorem Ok.seq {W : Wd} {H : Hp} {cs : List Cel} (h : Ok K W H cs) {d : D} {v : V} {xs : List D} (r : R K W v d) (e : seqD cs d = some xs) : ∃ a vs, v = .ref a ∧ (SqL K H a vs ∨ SqT K H a vs) ∧ RAll K W vs xs := by
  unfold seqD at e
  split at e
  · cases e
    cases r with
    | tup h1 h2 => exact ⟨_, _, rfl, .inr (Evl.ex_t h.ex h1), h2⟩
  · obtain ⟨a, vs, rfl, h1, h2⟩ := h.lk r e
    exact ⟨a, vs, rfl, .inl h1, h2⟩
def qLen : List D → DE
  | [.str s] => fun e P => s.length ≤ sizeLine ∧ P (.int s.length) e
  | [d] => fun e P => ∃ xs, seqD e.cs d = some xs ∧ P (.int xs.length) e
  | _ => fun _ _ => False
def rLenA (K : PySem.W.Frag) : List V → Hp → VK → Prop := fun xs H Q => (∃ p ys, xs = [.ref p] ∧ (SqL K H p ys ∨ SqT K H p ys) ∧ Q (.int ys.length) H) ∨ ∃ z, xs = [.str z] ∧ z.length ≤ sizeLine ∧ Q (.int z.length) H
theorem call_lenA : CallR X (.builtin "len") (rLenA X.K) := call_len_seq.or call_len_str
theorem cd_len : CallD K (rLenA K) qLen := by
  intro W H σ e vs ds P Q S r t k
  unfold qLen at t
  split at t
  · obtain ⟨v, rfl, r1⟩ := r.one
    cases r1
    exact .inr ⟨_, rfl, t.1, k _ _ _ _ _ t.2 W.le_refl S (.int _)⟩
  · obtain ⟨v, rfl, r1⟩ := r.one
    obtain ⟨xs, e1, p⟩ := t
    obtain ⟨a, vs, rfl, h1, h2⟩ := S.ok.seq r1 e1
    exact .inl ⟨a, vs, rfl, h1, by rw [h2.length]; exact k _ _ _ _ _ p W.le_refl S (.int _)⟩
  · exact t.elim
def qList (o : Bool) : List D → DE
  | [d] => fun e P => ∃ xs, seqD e.cs d = some xs ∧ newL o xs e P
  | _ => fun _ _ => False
def rListA (K : PySem.W.Frag) : List V → Hp → VK → Prop := fun xs H Q => ∃ p ys, xs = [.ref p] ∧ (SqL K H p ys ∨ SqT K H p ys) ∧ ∀ l, H l = none → Q (.ref l) (upd H l (.lst ys))
theorem call_listA : CallR X (.type "list") (rListA X.K) := call_list_of
theorem cd_list {o : Bool} : CallD K (rListA K) (qList o) := by
  intro W H σ e vs ds P Q S r t k
  unfold qList at t
  split at t
  · obtain ⟨v, rfl, r1⟩ := r.one
    obtain ⟨xs, e1, p⟩ := t
    obtain ⟨a, vs, rfl, h1, h2⟩ := S.ok.seq r1 e1
    exact ⟨a, vs, rfl, h1, newL_ok S h2 p k⟩
  · exact t.elim
/-- either, as one likes -/
def qListE : List D → DE := fun ds e P => qList false ds e P ∨ qList true ds e P
theorem cd_listE : CallD K (rListA K) qListE := fun W H σ e vs ds P Q S r t k => t.elim (fun t => cd_list W H σ e vs ds P Q S r t k) fun t => cd_list W H σ e vs ds P Q S r t k
def qTuple : List D → DE
  | [.tup xs] => fun e P => P (.tup xs) e
  | [d] => fun e P => ∃ xs, lk e.cs d = some xs ∧ P (.tup xs) e
  | _ => fun _ _ => False
def rTupleA (K : PySem.W.Frag) : List V → Hp → VK → Prop := fun xs H Q => ∃ p ys, xs = [.ref p] ∧ ((SqL K H p ys ∧ ∀ l, H l = none → Q (.ref l) (upd H l (.tup ys))) ∨ (SqT K H p ys ∧ Q (.ref p) H))
theorem call_tupleA : CallR X (.type "tuple") (rTupleA X.K) := call_tuple_of
theorem cd_tuple : CallD K (rTupleA K) qTuple := by
  intro W H σ e vs ds P Q S r t k
  unfold qTuple at t
  split at t
  · obtain ⟨v, rfl, r1⟩ := r.one
    cases r1 with
    | tup h1 h2 => exact ⟨_, _, rfl, .inr ⟨Evl.ex_t S.ok.ex h1, k _ _ _ _ _ t W.le_refl S (.tup h1 h2)⟩⟩
  · obtain ⟨v, rfl, r1⟩ := r.one
    obtain ⟨xs, e1, p⟩ := t
    obtain ⟨a, vs, rfl, h1, h2⟩ := S.ok.lk r1 e1
    exact ⟨a, vs, rfl, .inl ⟨h1, newT_ok S h2 p k⟩⟩
  · exact t.elim
def qAll : List D → DE
  | [d] => fun e P => ∃ bs : List Bool, lk e.cs d = some (bs.map .bl) ∧ P (.bl (bs.all fun b => b)) e
  | _ => fun _ _ => False
theorem cd_all : CallD K (rAll K) qAll := by
  intro W H σ e vs ds P Q S r t k
  unfold qAll at t
  split at t
  · obtain ⟨v, rfl, r1⟩ := r.one
    obtain ⟨bs, e1, p⟩ := t
    obtain ⟨a, vs, rfl, h1, h2⟩ := S.ok.lk r1 e1
    rw [h2.bls_inv] at h1
    exact ⟨a, bs, rfl, h1, k _ _ _ _ _ p W.le_refl S (.bl _)⟩
  · exact t.elim
/-- sum of a list or a tuple of ints -/
def rSumA (K : PySem.W.Frag) : List V → Hp → VK → Prop := fun vs H Q => rSum K vs H Q ∨ ∃ (a : Addr) (ns : List Int), vs = [V.ref a] ∧ SqT K H a (ns.map V.int) ∧ Q (.int ns.sum) H
theorem call_sumT (hc : X.calm = true) : CallR X (.builtin "sum") (fun vs H Q => ∃ (a : Addr) (ns : List Int), vs = [V.ref a] ∧ SqT X.K H a (ns.map V.int) ∧ Q (.int ns.sum) H) := by
  intro pins s σ H xs us Q I r h
  obtain ⟨a, ns, rfl, hs, q⟩ := h
  obtain ⟨u, rfl, ru⟩ := vals1 r
  cases (show u = Value.ref a from ru)
  obtain ⟨its, rv, ht, hz⟩ := I.tuple hs
  have hi : IntsAre its ns := Vals.ints rv
  obtain ⟨xs, e⟩ := hi.allInts.items
  have hn : numsOf (intItems xs).toList = ns := by rw [← e]; exact hi.numsOf
  rw [nums_intItems] at hn
  rw [e] at ht
  refine PySem.W.ktm_sumG (I.ok.hd hc) ht fun h' tk t' hk => ?_
  have e2 : PySem.preSum (numAt xs) xs.size = ns.sum := by rw [preSum_eq, List.take_of_length_le (by simp), hn]
  rw [e2]
  exact ⟨.int ns.sum, H, I.kept (t' := tk) hk, ⟨_, rfl⟩, q⟩
theorem call_sumA (hc : X.calm = true) : CallR X (.builtin "sum") (rSumA X.K) := (cr_sum hc).or (call_sumT hc)
def qSum : List D → DE
  | [d] => fun e P => ∃ ns : List Int, seqD e.cs d = some (ns.map .int) ∧ P (.int ns.sum) e
  | _ => fun _ _ => False
theorem cd_sum : CallD K (rSumA K) qSum := by
  intro W H σ e vs ds P Q S r t k
  unfold qSum at t
  split at t
  · obtain ⟨v, rfl, r1⟩ := r.one
    obtain ⟨ns, e1, p⟩ := t
    obtain ⟨a, vs, rfl, h1, h2⟩ := S.ok.seq r1 e1
    rw [h2.ints_inv] at h1
    have q := k _ _ _ _ _ p W.le_refl S (.int _)
    rcases h1 with h1 | h1
    · exact .inl ⟨a, ns, rfl, h1, q⟩
    · exact .inr ⟨a, ns, rfl, h1, q⟩
  · exact t.elim
def qInt : List D → DE
  | [.int i] => fun e P => P (.int i) e
  | [.bl b] => fun e P => P (.int (if b then 1 else 0)) e
  | [.str s] => fun e P => s.length ≤ 640 ∧ ∃ n, PySem.intText? s = some n ∧ P (.int n) e
  | _ => fun _ _ => False
def rIntA : List V → Hp → VK → Prop := fun xs H Q => ((∃ i, xs = [.int i] ∧ Q (.int i) H) ∨ ∃ k, xs = [.bl k] ∧ Q (.int (if k then 1 else 0)) H) ∨ ∃ a n, xs = [.str a] ∧ PySem.intText? a = some n ∧ a.length ≤ 640 ∧ Q (.int n) H
theorem call_intA : CallR X (.type "int") rIntA := call_int1.or call_int_str
theorem cd_int : CallD K rIntA qInt := by
  intro W H σ e vs ds P Q S r t k
  unfold qInt at t
  split at t
  · obtain ⟨v, rfl, r1⟩ := r.one
    cases r1
    exact .inl (.inl ⟨_, rfl, k _ _ _ _ _ t W.le_refl S (.int _)⟩)
  · obtain ⟨v, rfl, r1⟩ := r.one
    cases r1
    exact .inl (.inr ⟨_, rfl, k _ _ _ _ _ t W.le_refl S (.int _)⟩)
  · obtain ⟨v, rfl, r1⟩ := r.one
    obtain ⟨hz, n, hn, t⟩ := t
    cases r1
    exact .inr ⟨_, n, rfl, hn, hz, k _ _ _ _ _ t W.le_refl S (.int _)⟩
  · exact t.elim
end
end DL
namespace DL
open PySem PySem.Spec PyProof.Rows L2
open Evl (Ex)

/-! ### isinstance with a built-in type -/
def tyN (cs : List Cel) : D → Option String
  | .non => some "NoneType"
  | .bl _ => some "bool"
  | .int _ => some "int"
  | .str _ => some "str"
  | .tup _ => some "tuple"
  | .lst _ => some "list"
  | .dct => some "dict"
  | .cell n => match cs[n]? with
    | some (.lst _) => some "list"
    | _ => none
  | _ => none
def isTy (a T : String) : Bool := a == T || (a == "bool" && T == "int")
def tyKnown (T : String) : Bool := ["int", "bool", "str", "tuple", "list"].contains T
theorem kit_all : (["NoneType", "bool", "int", "str", "tuple", "list", "dict"].all fun a => ["int", "bool", "str", "tuple", "list"].all fun T => decide (kitB a T = some (isTy a T))) = true := by decide +kernel
theorem kit_in {a T : String} (ha : a ∈ ["NoneType", "bool", "int", "str", "tuple", "list", "dict"]) (hT : tyKnown T = true) : kitB a T = some (isTy a T) :=
  of_decide_eq_true (List.all_eq_true.mp (List.all_eq_true.mp kit_all a ha) T (List.contains_iff_mem.mp hT))
section
variable {K : PySem.W.Frag} {W : Wd} {H : Hp} {cs : List Cel}
theorem SqT.ty {a : Addr} {vs : List V} (h : SqT K H a vs) : TyX K H (.ref a) (.type "tuple") := by
  rcases h with (h | ⟨o, h⟩) | ⟨o, its, n, h1, h2, _⟩
  · exact .base (.tup h)
  · exact .fTuple h
  · exact .kTuple h1 h2
theorem Ok.ty (h : Ok K W H cs) {d : D} {v : V} {a : String} (r : R K W v d) (e : tyN cs d = some a) : TyX K H v (.type a) ∧ a ∈ ["NoneType", "bool", "int", "str", "tuple", "list", "dict"] := by
  cases r <;> simp only [tyN] at e <;> try cases e
  · exact ⟨.base .non, by decide⟩
  · exact ⟨.base (.bl _), by decide⟩
  · exact ⟨.base (.int _), by decide⟩
  · exact ⟨.base (.str _), by decide⟩
  · rename_i a vs hs ha
    exact ⟨SqT.ty (Evl.ex_t h.ex hs), by decide⟩
  · rename_i a vs hs ha
    exact ⟨.base (.lst (h.ex _ _ hs)), by decide⟩
  · rename_i n a' hm
    split at e
    · rename_i xs hc
      cases e
      obtain ⟨vs, h1, h2⟩ := h.cellL hm hc
      exact ⟨.base (.lst h1), by decide⟩
    · cases e
  · exact ⟨.base (.dK (h.ex _ _ (by assumption))), by decide⟩
def qIsi : List D → DE
  | [d, .raw (.ty T)] => fun e P => tyKnown T = true ∧ ∃ a, tyN e.cs d = some a ∧ P (.bl (isTy a T)) e
  | _ => fun _ _ => False
theorem cd_isi : CallD K (rIsi K) qIsi := by
  intro W H σ e vs ds P Q S r t k
  unfold qIsi at t
  split at t
  · obtain ⟨v, v2, rfl, r1, r2⟩ := r.two
    obtain ⟨hT, a, ea, p⟩ := t
    obtain ⟨ty, mem⟩ := S.ok.ty r1 ea
    cases r2
    exact ⟨v, .ty _, _, _, _, rfl, .ty _, ty, kit_ty (kit_in mem hT), k _ _ _ _ _ p W.le_refl S (.bl _)⟩
  · exact t.elim
end

/-! ### instances -/
def insD (cs : List Cel) : D → Option (Addr × List Str × List D)
  | .ins C ns xs => some (C, ns, xs)
  | .cell n => match cs[n]? with
    | some (.ins C ns xs) => some (C, ns, xs)
    | _ => none
  | _ => none
def getF (f : Str) : List Str → List D → Option D
  | n :: ns, x :: xs => if f = n then some x else getF f ns xs
  | _, _ => none
section
variable {K : PySem.W.Frag} {W : Wd} {H : Hp} {cs : List Cel}
theorem RAll.fld {f : Str} : ∀ {gs : List (Str × V)} {ns : List Str} {xs : List D} {d : D}, gs.map (·.1) = ns → RAll K W (gs.map (·.2)) xs → getF f ns xs = some d → ∃ v, gs.lookup f = some v ∧ R K W v d
  | [], _, _, _, rfl, r, e => by cases r; cases e
  | (n, v) :: gs, _, _, d, rfl, r, e => by
    cases r with
    | cons r1 r2 =>
      have e : (if f = n then some _ else getF f (gs.map (·.1)) _) = some d := e
      by_cases h : f = n
      · rw [if_pos h] at e
        cases e
        exact ⟨v, by simp [List.lookup, h], r1⟩
      · rw [if_neg h] at e
        obtain ⟨w, h1, h2⟩ := RAll.fld rfl r2 e
        have hb : (f == n) = false := by simpa using h
        exact ⟨w, by simp only [List.lookup, hb]; exact h1, h2⟩
theorem lookup_none {f : Str} : ∀ {gs : List (Str × V)}, f ∉ gs.map (·.1) → gs.lookup f = none
  | [], _ => rfl
  | (n, v) :: gs, h => by
    have h1 : f ≠ n := fun e => h (by rw [e]; exact List.mem_cons_self)
    have hb : (f == n) = false := by simpa using h1
    simp only [List.lookup, hb]
    exact lookup_none fun m => h (List.mem_cons_of_mem _ m)
theorem Ok.ins (h : Ok K W H cs) {d : D} {v : V} {C : Addr} {ns : List Str} {xs : List D} (r : R K W v d) (e : insD cs d = some (C, ns, xs)) : ∃ a dx gs, v = .ref a ∧ H a = some (.ins C dx gs) ∧ gs.map (·.1) = ns ∧ RAll K W (gs.map (·.2)) xs := by
  cases r <;> simp only [insD] at e <;> try cases e
  · exact ⟨_, _, _, rfl, h.ex _ _ (by assumption), rfl, by assumption⟩
  · rename_i n a hm
    split at e
    · rename_i C' ns' xs' hc
      cases e
      obtain ⟨dx, gs, h1, h2, h3⟩ := h.cl n a _ hm hc
      exact ⟨a, dx, gs, rfl, h1, h2, h3⟩
    · cases e
end
def eFld (C : Addr) (f : Str) (t : DE) : DE := fun e P => t e fun d e1 => ∃ ns xs v, insD e1.cs d = some (C, ns, xs) ∧ getF f ns xs = some v ∧ P v e1
/-- self.f = v, self an instance that changes -/
def sFldD (C : Addr) (f : Str) (to tv : DE) : DS := fun P e => tv e fun v e1 => to e1 fun o e2 => ∃ n ns xs, o = .cell n ∧ e2.cs[n]? = some (.ins C ns xs) ∧ f ∉ ns ∧ ns.length < 900 ∧ P.nx { e2 with cs := e2.cs.set n (.ins C (ns ++ [f]) (xs ++ [v])) }
/-- a call's promise, by data -/
abbrev Spc := List D → List Cel → (D → List Cel → Prop) → Prop
def spD (K : PySem.W.Frag) (sp : Spc) : Sp := fun vs H Q _ => ∃ W cs ds P, Ok K W H cs ∧ RAll K W vs ds ∧ sp ds cs P ∧ ∀ d cs' W' H' v, P d cs' → W.le W' → Ok K W' H' cs' → R K W' v d → Q v H'
def eCall (sp : Spc) (ta : DA) : DE := fun e P => ta e fun ds e1 => sp ds e1.cs fun d cs' => P d { e1 with cs := cs' }
def eProp (C : Addr) (sp : Spc) (t : DE) : DE := fun e P => t e fun d e1 => (∃ ns xs, insD e1.cs d = some (C, ns, xs)) ∧ sp [d] e1.cs fun r cs' => P r { e1 with cs := cs' }
def eMeth (C : Addr) (m : Str) (sp : Spc) (t : DE) (ta : DA) : DE := fun e P => t e fun d e1 => (∃ ns xs, insD e1.cs d = some (C, ns, xs) ∧ m ∉ ns) ∧ ta e1 fun ds e2 => sp (d :: ds) e2.cs fun r cs' => P r { e2 with cs := cs' }
section
variable {X : Cx} {B : Bs} {ex o : Expr} {es : List Expr} {te tv : DE} {ta : DA} {C : Addr} {f m x : Str} {pos apos p : Pos} {CX : CXT} {k : Nat} {fn pp : Addr} {fd : FuncData} {ps : List Str} {sp : Spc} {dvs : List V} {ds : List Value}
theorem de_fld (c : Cls X.K C) (n : NoAttr X.K C f) (he : PE X ex (lE X.K B te)) (hb : attributeBase ex f X.env (eval ex X.env) = eval ex X.env := by rfl) : PE X (.Attribute ex f pos) (lE X.K B (eFld C f te)) :=
  PE.imp (pe_fld he hb) fun σ H Q ⟨W, e, P, bl, S, t, k⟩ => ⟨W, e, _, bl, S, t, fun d e1 W1 H1 v ⟨ns, xs, w, hi, hf, p⟩ l S1 r => by
    obtain ⟨a, dx, gs, rfl, h1, h2, h3⟩ := S1.ok.ins r hi
    obtain ⟨u, hu, ru⟩ := h3.fld h2 hf
    exact ⟨a, C, dx, gs, u, rfl, h1, c, n, hu, k _ _ _ _ _ p l S1 ru⟩⟩
theorem call_ok {E : XK} (hd : dvs = []) : ∀ σ H Q, lE X.K B (eCall sp ta) σ H Q → tCall (spD X.K sp) dvs E (lA X.K B ta) σ H Q := fun σ H Q ⟨W, e, P, bl, S, t, k⟩ =>
  ⟨W, e, _, bl, S, t, fun ds e1 W1 H1 vs h l S1 r => by
    subst hd
    rw [List.append_nil]
    exact ⟨W1, e1.cs, ds, _, S1.ok, r, h, fun d cs' W2 H2 v p l2 ok2 r2 => k _ _ _ _ _ p (l.tr l2) ⟨ok2, S1.sl.mono l2⟩ r2⟩⟩
theorem de_call (F : FnOk X.prog X.w X.K X.mg X.base CX0 k fn fd ps (spD X.K sp)) (hr : Room k X.A) (hg : Gl X x) (hm : X.mg x = some (.ref fn)) (hk : PySem.W.keepIn X.K (.ref fn) = true) (hb : Binds X.K fd ps [])
    (ha : PA X (ex :: es) (lA X.K B ta)) (hdb : (x == ("__debug__" : Str)) = false := by decide) (he : starEach (ex :: es) X.env = (false, eval ex X.env) :: starEach es X.env := by rfl) (hpl : (backTo pos (starEach es X.env)).any (·.1) = false := by rfl) :
    PE X (.Call (.Name x p) (ex :: es) [] pos) (lE X.K B (eCall sp ta)) := PE.imp (pe_call F hr hg hm hk hb .nil pass0 ha hdb he hpl) (call_ok rfl)
theorem de_prop (c : Cls X.K C) (hp : PropOf X.K C f pp fn) (F : FnOk X.prog X.w X.K X.mg X.base CX0 k fn fd ps (spD X.K sp)) (hr : Room (k + 1) X.A) (hb : Binds X.K fd ps []) (he : PE X ex (lE X.K B te))
    (hab : attributeBase ex f X.env (eval ex X.env) = eval ex X.env := by rfl) : PE X (.Attribute ex f pos) (lE X.K B (eProp C sp te)) :=
  PE.imp (pe_prop he c hp F hr hb .nil (E := E0) (fun _ _ _ _ _ _ _ h => h.elim) hab) fun σ H Q ⟨W, e, P, bl, S, t, k⟩ => ⟨W, e, _, bl, S, t, fun d e1 W1 H1 v ⟨⟨ns, xs, hi⟩, h⟩ l S1 r => by
    obtain ⟨a, dx, gs, rfl, h1, h2, h3⟩ := S1.ok.ins r hi
    exact ⟨a, dx, gs, rfl, h1, W1, e1.cs, [d], _, S1.ok, .cons r .nil, h, fun d cs' W2 H2 v p l2 ok2 r2 => k _ _ _ _ _ p (l.tr l2) ⟨ok2, S1.sl.mono l2⟩ r2⟩⟩
theorem de_meth {pl : Sem Bool} (c : Cls X.K C) (hm : Meth X.K C m fn) (F : FnOk X.prog X.w X.K X.mg X.base CX0 k fn fd ps (spD X.K sp)) (hr : Room k X.A) (hb : Binds X.K fd ps []) (ho : PE X o (lE X.K B te)) (ha : PA X (ex :: es) (lA X.K B ta))
    (hst : starEach (ex :: es) X.env = (false, eval ex X.env) :: starEach es X.env := by rfl) (hpl : (backTo pos (starEach es X.env)).any (·.1) = false := by rfl)
    (ht : eval (.Call (.Attribute o m apos) (ex :: es) [] pos) X.env = (do
      let ov ← eval o X.env
      standAt apos.atName
      let (f, first) ← holding [ov] (getMethod ov m pl)
      callWith pos f first (backTo pos (starEach (ex :: es) X.env)) (backToKw pos (keywordEach [] X.env))) := by rfl) :
    PE X (.Call (.Attribute o m apos) (ex :: es) [] pos) (lE X.K B (eMeth C m sp te ta)) :=
  PE.imp (pe_meth ho c hm F hr hb .nil pass0 ha hst hpl ht) fun σ H Q ⟨W, e, P, bl, S, t, k⟩ => ⟨W, e, _, bl, S, t, fun d e1 W1 H1 v ⟨⟨ns, xs, hi, hn⟩, h⟩ l S1 r => by
    obtain ⟨a, dx, gs, rfl, h1, h2, h3⟩ := S1.ok.ins r hi
    refine ⟨a, dx, gs, rfl, h1, lookup_none (by rw [h2]; exact hn), W1, e1, _, B.up bl l, S1, h, fun ds e2 W2 H2 vs h l2 S2 r2 => ?_⟩
    show spD X.K sp (V.ref a :: (vs ++ [])) H2 Q E0
    rw [List.append_nil]
    exact ⟨W2, e2.cs, d :: ds, _, S2.ok, .cons (R.mono l2 _ _ r) r2, h, fun d cs' W3 H3 v p l3 ok3 r3 => k _ _ _ _ _ p ((l.tr l2).tr l3) ⟨ok3, S2.sl.mono l3⟩ r3⟩⟩
theorem de_meth0 {pl : Sem Bool} (c : Cls X.K C) (hm : Meth X.K C m fn) (F : FnOk X.prog X.w X.K X.mg X.base CX0 k fn fd ps (spD X.K sp)) (hr : Room k X.A) (hb : Binds X.K fd ps []) (ho : PE X o (lE X.K B te))
    (ht : eval (.Call (.Attribute o m apos) [] [] pos) X.env = (do
      let ov ← eval o X.env
      standAt apos.atName
      let (f, first) ← holding [ov] (getMethod ov m pl)
      callWith pos f first (backTo pos (starEach [] X.env)) (backToKw pos (keywordEach [] X.env))) := by rfl) :
    PE X (.Call (.Attribute o m apos) [] [] pos) (lE X.K B (eMeth C m sp te aNil)) :=
  PE.imp (pe_meth0 ho c hm F hr hb .nil pass0 ht) fun σ H Q ⟨W, e, P, bl, S, t, k⟩ => ⟨W, e, _, bl, S, t, fun d e1 W1 H1 v ⟨⟨ns, xs, hi, hn⟩, h⟩ l S1 r => by
    obtain ⟨a, dx, gs, rfl, h1, h2, h3⟩ := S1.ok.ins r hi
    refine ⟨a, dx, gs, rfl, h1, lookup_none (by rw [h2]; exact hn), ?_⟩
    exact ⟨W1, e1.cs, [d], _, S1.ok, .cons r .nil, h, fun d cs' W3 H3 v p l3 ok3 r3 => k _ _ _ _ _ p (l.tr l3) ⟨ok3, S1.sl.mono l3⟩ r3⟩⟩
end
/-! ### a store to a field -/
section
variable {X : Cx} {B : Bs} {o ex : Expr} {te tv : DE} {C : Addr} {f : Str} {pos pos' : Pos} {K : PySem.W.Frag} {W : Wd}
theorem putF_new {f : Str} {v : V} : ∀ {gs : List (Str × V)}, f ∉ gs.map (·.1) → putF f v gs = gs ++ [(f, v)]
  | [], _ => rfl
  | (g, w) :: gs, h => by
    have h1 : f ≠ g := fun e => h (by rw [e]; exact List.mem_cons_self)
    have h2 : f ∉ gs.map (·.1) := fun m => h (List.mem_cons_of_mem _ m)
    have ih := putF_new (v := v) h2
    unfold putF
    first
      | (rw [if_neg h1, ih]; rfl)
      | (rw [if_neg (Ne.symm h1), ih]; rfl)
      | simp [h1, Ne.symm h1, ih]
theorem ds_fld (c : Cls X.K C) (n : NoAttr X.K C f) (ho : PE X o (lE X.K B te)) (hv : PE X ex (lE X.K B tv)) (hs : swapsWith ex (some (.Attribute o f pos')) pos.line X.env = pure false := by rfl) :
    PS X (.Assign [.Attribute o f pos'] ex pos) (lS X.K B (sFldD C f te tv)) := PS.imp (ps_fld ho hv hs) fun E σ H h => by
  obtain ⟨W, e, P, bl, S, h, cv⟩ := lS_un h
  refine ⟨W, e, _, bl, S, h, fun d e1 W1 H1 v t1 l1 S1 r1 => ⟨W1, e1, _, B.up bl l1, S1, t1, fun ob e2 W2 H2 w t2 l2 S2 r2 => ?_⟩⟩
  obtain ⟨n', ns, xs, rfl, hc, hf, hl, p⟩ := t2
  cases r2 with
  | cell hm =>
    obtain ⟨dx, gs, h1, h2, h3⟩ := S2.ok.cl _ _ _ hm hc
    have hgl : gs.length = ns.length := by rw [← h2, List.length_map]
    have hf' : f ∉ gs.map (·.1) := by rw [h2]; exact hf
    refine ⟨_, C, dx, gs, rfl, h1, c, n, by rw [hgl]; omega, ?_⟩
    have r1' := R.mono l2 _ _ r1
    have fin : ∀ gs', gs' = gs ++ [(f, v)] → E.nx σ (upd H2 _ (.ins C dx gs')) := fun gs' e => by
      subst e
      refine cv.nx _ _ _ _ p (l1.tr l2) ⟨S2.ok.setC hm hc (fun z => nomatch z) ⟨dx, _, upd_same, by rw [List.map_append, h2]; rfl, ?_⟩, S2.sl⟩
      rw [List.map_append]
      exact h3.append (.cons r1' .nil)
    exact fin _ (putF_new hf')
end

/-! ### a def keeps its promise -/
mutual
theorem R.lo_of {K : PySem.W.Frag} {W : Wd} : ∀ (d : D) (v : V), R K W v d → loD W.m.length d = true
  | .non, _, _ => rfl
  | .bl _, _, _ => rfl
  | .int _, _, _ => rfl
  | .str _, _, _ => rfl
  | .tup xs, _, h => by
    cases h with
    | tup hs ha => exact RAll.lo_of xs _ ha
  | .lst xs, _, h => by
    cases h with
    | lst hs ha => exact RAll.lo_of xs _ ha
  | .fro xs, _, h => by
    cases h with
    | fro hs ha => exact RAll.lo_of xs _ ha
  | .ins _ _ xs, _, h => by
    cases h with
    | ins hs ha => exact RAll.lo_of xs _ ha
  | .cell n, _, h => by
    cases h with
    | cell hs => exact decide_eq_true (List.getElem?_eq_some_iff.mp hs).1
  | .dct, _, _ => rfl
  | .raw _, _, _ => rfl
theorem RAll.lo_of {K : PySem.W.Frag} {W : Wd} : ∀ (ds : List D) (vs : List V), RAll K W vs ds → los W.m.length ds = true
  | [], _, _ => rfl
  | d :: ds, _, h => by
    cases h with
    | cons h1 h2 =>
      show (loD _ d && los _ ds) = true
      rw [R.lo_of d _ h1, RAll.lo_of ds _ h2] <;> rfl
end
theorem RKs.lo_of {K : PySem.W.Frag} {W : Wd} : ∀ {ps : List (Key × V)} {kxs : List (Int × D)}, RKs K W ps kxs → los W.m.length (kxs.map (·.2)) = true
  | _, _, .nil => rfl
  | _, _, @RKs.cons _ _ _ _ d _ kxs r t => by
    show (loD _ d && los _ (kxs.map (·.2))) = true
    rw [R.lo_of d _ r, RKs.lo_of t] <;> rfl
theorem Ok.cl_lo {K : PySem.W.Frag} {W : Wd} {H : Hp} {cs : List Cel} (h : Ok K W H cs) : ∀ c ∈ cs, c.loD cs.length = true := fun c hc => by
  obtain ⟨n, hn, e⟩ := List.mem_iff_getElem.mp hc
  have hm : n < W.m.length := by rw [h.len]; exact hn
  have x := h.cl n W.m[n] c (by simp [hm]) (by simp [hn, e])
  rw [← h.len]
  cases c with
  | dead => rfl
  | lst xs => obtain ⟨vs, _, r⟩ := x; exact RAll.lo_of _ _ r
  | ins C ns xs => obtain ⟨dx, gs, _, _, r⟩ := x; exact RAll.lo_of _ _ r
  | dic kxs => obtain ⟨ps, _, r⟩ := x; exact r.lo_of
/-- what the caller sees of a def's end: its own cells (from k on) are forgotten, a new list of its own is handed on -/
def FinD (cs0 : List Cel) (P : D → List Cel → Prop) (d : D) (cs : List Cel) : Prop :=
  P d cs ∨ (loD cs0.length d = true ∧ (∀ c ∈ cs.take cs0.length, c ∈ cs0 ∨ c.loD cs0.length = true) ∧ P d (cs.take cs0.length)) ∨
  ∃ n xs, d = .cell n ∧ cs0.length ≤ n ∧ cs[n]? = some (.lst xs) ∧ los cs0.length xs = true ∧ (∀ c ∈ cs.take cs0.length, c ∈ cs0 ∨ c.loD cs0.length = true) ∧
    (P (.lst xs) (cs.take cs0.length) ∨ P (.cell cs0.length) (cs.take cs0.length ++ [.lst xs]))
/-- a list that was just made: the caller takes it as one that changes no more, or as a cell -/
def fresh (xs : List D) (cs : List Cel) (P : D → List Cel → Prop) : Prop := P (.lst xs) cs ∨ P (.cell cs.length) (cs ++ [.lst xs])
section
variable {K : PySem.W.Frag} {W0 W : Wd} {H0 H : Hp} {cs0 cs : List Cel}
theorem Ok.trim (h0 : Ok K W0 H0 cs0) (h : Ok K W H cs) (l : W0.le W) (hc : ∀ c ∈ cs.take cs0.length, c ∈ cs0 ∨ c.loD cs0.length = true) :
    Ok K ⟨W.F, W.m.take cs0.length, W.h⟩ H (cs.take cs0.length) ∧ W0.le ⟨W.F, W.m.take cs0.length, W.h⟩ := by
  refine ⟨h.low (List.all_eq_true.mpr fun c hm => (hc c hm).elim (h0.cl_lo c) fun z => z), l.1, ⟨[], ?_⟩, l.2.2⟩
  obtain ⟨more, e⟩ := l.2.1
  show W.m.take cs0.length = W0.m ++ []
  rw [e, ← h0.len, List.take_left, List.append_nil]
theorem fin_ok {P : D → List Cel → Prop} {Q : VK} (h0 : Ok K W0 H0 cs0) (k : ∀ d cs' W' H' v, P d cs' → W0.le W' → Ok K W' H' cs' → R K W' v d → Q v H') :
    ∀ d cs' W' H' v, FinD cs0 P d cs' → W0.le W' → Ok K W' H' cs' → R K W' v d → Q v H' := by
  intro d cs' W' H' v f l ok r
  rcases f with p | ⟨hd, hc, p⟩ | ⟨n, xs, rfl, hn, hx, hl, hc, p⟩
  · exact k _ _ _ _ _ p l ok r
  · obtain ⟨ok2, l2⟩ := h0.trim ok l hc
    exact k _ _ _ _ _ p l2 ok2 (R.low _ _ r hd)
  · cases r with
    | @cell _ a hm =>
      obtain ⟨vs, h1, h2⟩ := ok.cellL hm hx
      obtain ⟨ok2, l2⟩ := h0.trim ok l hc
      have r2 : RAll K ⟨W'.F, W'.m.take cs0.length, W'.h⟩ vs xs := RAll.low _ _ h2 hl
      have na : a ∉ W'.m.take cs0.length := fun hm2 => by
        obtain ⟨j, hj, e⟩ := List.mem_iff_getElem.mp hm2
        have hj' : j < cs0.length := by rw [List.length_take] at hj; omega
        have e2 : W'.m[j]? = some a := by
          rw [← e]
          have : (W'.m.take cs0.length)[j]? = W'.m[j]? := List.getElem?_take_of_lt hj'
          rw [← this]; exact List.getElem?_eq_getElem hj
        obtain ⟨g1, e1⟩ := List.getElem?_eq_some_iff.mp e2
        obtain ⟨g2, e3⟩ := List.getElem?_eq_some_iff.mp hm
        have := (List.getElem_inj ok.nd).mp (e1.trans e3.symm)
        omega
      have hF : W'.F a = none := (ok.fr n a _ hm hx).resolve_left fun z => nomatch z
      have nh : ∀ q ∈ W'.h, q.1 ≠ a := fun q hq e => (ok.hd q hq).2.2 (e ▸ List.mem_of_getElem? hm)
      -- as a hidden list, then shown
      have okh : Ok K ⟨W'.F, W'.m.take cs0.length, (a, vs) :: W'.h⟩ H' (cs'.take cs0.length) := by
        refine ⟨ok2.ex, ok2.len, ok2.nd, ok2.here, ok2.fr, fun n a c e1 e2 => ClOk.to (ok2.cl n a c e1 e2) rfl rfl, fun q hq => ?_, ?_⟩
        · rcases List.mem_cons.mp hq with rfl | hq
          · exact ⟨h1, hF, na⟩
          · exact ok2.hd q hq
        · show (a :: W'.h.map (·.1)).Nodup
          refine List.nodup_cons.mpr ⟨fun hm => ?_, ok.hn⟩
          obtain ⟨q, hq, e⟩ := List.mem_map.mp hm
          exact nh q hq e
      rcases p with p | p
      · obtain ⟨ok3, l3⟩ := okh.showF
        exact k _ _ _ _ _ p (l2.tr l3) ok3 (.lst upd_same (RAll.mono l3 _ _ r2))
      · obtain ⟨ok3, l3⟩ := okh.showC r2
        refine k _ _ _ _ _ p (l2.tr l3) ok3 (.cell ?_)
        show (W'.m.take cs0.length ++ [a])[cs0.length]? = some a
        have hl : (W'.m.take cs0.length).length = cs0.length := by
          obtain ⟨more, e⟩ := l.2.1
          rw [List.length_take, e, List.length_append, h0.len]; omega
        rw [List.getElem?_append_right (by omega), hl]
        simp
end
/-- a new instance: a cell, or one that changes no more -/
def eMake (C : Addr) (sp : Spc) (ta : DA) : DE := fun e P => ta e fun ds e1 => sp (.cell e1.cs.length :: ds) (e1.cs ++ [.ins C [] []]) fun r cs' => r = .non ∧
  (P (.cell e1.cs.length) { e1 with cs := cs' } ∨ ∃ cs1 C' ns xs, cs' = cs1 ++ [.ins C' ns xs] ∧ cs1.length = e1.cs.length ∧ los e1.cs.length xs = true ∧ (∀ c ∈ cs1, c ∈ e1.cs ∨ c.loD e1.cs.length = true) ∧ P (.ins C' ns xs) { e1 with cs := cs1 })
section
variable {K : PySem.W.Frag} {W : Wd} {H : Hp} {cs : List Cel}
theorem Ok.addF (h : Ok K W H cs) {a : Addr} {o : HO} (ha : H a = some o) (hF : W.F a = none) (hm : a ∉ W.m) (hh : ∀ q ∈ W.h, q.1 ≠ a) : Ok K ⟨upd W.F a o, W.m, W.h⟩ H cs ∧ W.le ⟨upd W.F a o, W.m, W.h⟩ := by
  have l : W.le ⟨upd W.F a o, W.m, W.h⟩ := ⟨Ex.new hF, ⟨[], (List.append_nil _).symm⟩, rfl⟩
  have ne : ∀ b ∈ W.m, b ≠ a := fun b hb e => hm (e ▸ hb)
  refine ⟨⟨fun b u e => ?_, h.len, h.nd, h.here, fun n b c e1 e2 => ?_, fun n b c e1 e2 => (h.cl n b c e1 e2).mono l, fun q hq => ?_, h.hn⟩, l⟩
  · have e : upd W.F a o b = some u := e
    by_cases q : b = a
    · subst q; rw [upd_same] at e; rw [ha]; exact e
    · rw [upd_ne q] at e; exact h.ex b u e
  · rcases h.fr n b c e1 e2 with q | q
    · exact .inl q
    · exact .inr (by show upd W.F a o b = none; rw [upd_ne (ne b (List.mem_of_getElem? e1))]; exact q)
  · obtain ⟨g1, g2, g3⟩ := h.hd q hq
    exact ⟨g1, by show upd W.F a o q.1 = none; rw [upd_ne (hh q hq)]; exact g2, g3⟩
theorem Ok.old_out (h : Ok K W H cs) {n k : Nat} {a : Addr} (hm : W.m[n]? = some a) (hk : k ≤ n := by exact Nat.le_refl _) : a ∉ W.m.take k := fun hm2 => by
  obtain ⟨j, hj, e⟩ := List.mem_iff_getElem.mp hm2
  have hj' : j < k := by rw [List.length_take] at hj; omega
  have e2 : W.m[j]? = some a := by
    rw [← e]
    have : (W.m.take k)[j]? = W.m[j]? := List.getElem?_take_of_lt hj'
    rw [← this]; exact List.getElem?_eq_getElem hj
  obtain ⟨g1, e1⟩ := List.getElem?_eq_some_iff.mp e2
  obtain ⟨g2, e3⟩ := List.getElem?_eq_some_iff.mp hm
  have := (List.getElem_inj h.nd).mp (e1.trans e3.symm)
  omega
end
section
variable {X : Cx} {B : Bs} {ex o : Expr} {es : List Expr} {te tv : DE} {ta : DA} {C : Addr} {f m x : Str} {pos apos p : Pos} {CX : CXT} {k : Nat} {fn pp : Addr} {fd : FuncData} {ps : List Str} {sp : Spc} {dvs : List V} {ds : List Value}
theorem de_make (M : Mk X.K C fn) (F : FnOk X.prog X.w X.K X.mg X.base CX0 k fn fd ps (spD X.K sp)) (hr : Room (k + 1) X.A) (hg : Gl X x) (hm : X.mg x = some (.ref C)) (hb : Binds X.K fd ps [])
    (ha : PA X (ex :: es) (lA X.K B ta)) (hdb : (x == ("__debug__" : Str)) = false := by decide) (he : starEach (ex :: es) X.env = (false, eval ex X.env) :: starEach es X.env := by rfl) (hpl : (backTo pos (starEach es X.env)).any (·.1) = false := by rfl) :
    PE X (.Call (.Name x p) (ex :: es) [] pos) (lE X.K B (eMake C sp ta)) :=
  PE.imp (pe_make M F hr hg hm hb .nil pass0 ha hdb he hpl) fun σ H Q ⟨W, e, P, bl, S, t, k⟩ => ⟨W, e, _, bl, S, t, fun ds e1 W1 H1 vs h l S1 r => fun x dx hx hdx hne => by
    have hx2 : upd H1 dx (.own x) x = none := by rw [upd_ne (Ne.symm hne)]; exact hx
    have okd : Ok X.K W1 (upd H1 dx (.own x)) e1.cs := by
      have ne : ∀ a ∈ W1.m, a ≠ dx := fun a ha e => S1.ok.fresh hdx (e ▸ ha)
      have neh : ∀ q ∈ W1.h, q.1 ≠ dx := fun q hq e => by
        have := (S1.ok.hd q hq).1
        rw [e, hdx] at this; cases this
      refine ⟨S1.ok.ex.trans (Ex.new hdx), S1.ok.len, S1.ok.nd, fun a ha => by rw [upd_ne (ne a ha)]; exact S1.ok.here a ha, S1.ok.fr, fun n a c e1 e2 => (S1.ok.cl n a c e1 e2).heap (upd_ne (ne a (List.mem_of_getElem? e1))), fun q hq => ?_, S1.ok.hn⟩
      obtain ⟨g1, g2, g3⟩ := S1.ok.hd q hq
      exact ⟨by rw [upd_ne (neh q hq)]; exact g1, g2, g3⟩
    obtain ⟨ok, l2⟩ := okd.newC (o := .ins C dx []) (c := .ins C [] []) hx2 fun W' l => ⟨dx, [], upd_same, rfl, .nil⟩
    have rc : R X.K ⟨W1.F, W1.m ++ [x], W1.h⟩ (.ref x) (.cell e1.cs.length) := .cell (by
      show (W1.m ++ [x])[e1.cs.length]? = some x
      rw [← S1.ok.len, List.getElem?_append_right (Nat.le_refl _)]
      simp)
    rw [List.append_nil]
    refine ⟨_, _, _, _, ok, .cons rc (RAll.mono l2 _ _ r), h, fun d cs' W3 H3 v ⟨hd, p⟩ l3 ok3 r3 => ⟨by subst hd; exact r3.non_inv, ?_⟩⟩
    rcases p with p | ⟨cs1, C', ns, xs, rfl, hl, hx, hc, p⟩
    · exact k _ _ _ _ _ p ((l.tr l2).tr l3) ⟨ok3, S1.sl.mono (l2.tr l3)⟩ (R.mono l3 _ _ rc)
    · have l13 := l2.tr l3
      have tk : (cs1 ++ [Cel.ins C' ns xs]).take e1.cs.length = cs1 := by rw [← hl]; exact List.take_left
      obtain ⟨ok4, l4⟩ := S1.ok.trim ok3 l13 (by rw [tk]; exact hc)
      rw [tk] at ok4
      have rc3 := R.mono l3 _ _ rc
      cases rc3 with
      | cell hm =>
        have hcl : (cs1 ++ [Cel.ins C' ns xs])[e1.cs.length]? = some (Cel.ins C' ns xs) := by
          rw [← hl, List.getElem?_append_right (Nat.le_refl _)]; simp
        obtain ⟨dx', gs, g1, g2, g3⟩ := ok3.cl _ _ _ hm hcl
        have g4 : RAll X.K ⟨W3.F, W3.m.take e1.cs.length, W3.h⟩ (gs.map (·.2)) xs := RAll.low _ _ g3 hx
        have hF : W3.F x = none := (ok3.fr _ _ _ hm hcl).resolve_left fun z => nomatch z
        obtain ⟨ok5, l5⟩ := ok4.addF g1 hF (ok3.old_out hm) (fun q hq e => (ok3.hd q hq).2.2 (e ▸ List.mem_of_getElem? hm))
        subst g2
        exact k _ _ _ _ _ p (l.tr (l4.tr l5)) ⟨ok5, S1.sl.mono (l4.tr l5)⟩ (.ins upd_same (RAll.mono l5 _ _ g4))⟩
end
def startD (N : List Str) (ds : List D) : List (Option D) := ds.map some ++ List.replicate (N.length - ds.length) none
theorem start_ok {K : PySem.W.Frag} {W : Wd} {N : List Str} {vs : List V} {ds : List D} (r : RAll K W vs ds) : SlO K W (L2.start N vs) (startD N ds) := by
  refine ⟨by simp [L2.start, startD, r.length], fun i d e => ?_⟩
  unfold startD at e
  unfold L2.start
  by_cases hi : i < ds.length
  · rw [List.getElem?_append_left (by simpa using hi), List.getElem?_map] at e
    cases h : ds[i]? with
    | none => rw [h] at e; cases e
    | some d' =>
      rw [h] at e
      cases e
      obtain ⟨v, hv, rv⟩ := r.get h
      exact ⟨v, by rw [List.getElem?_append_left (by rw [List.length_map, r.length]; exact hi), List.getElem?_map, hv] <;> rfl, rv⟩
  · rw [List.getElem?_append_right (by simpa using hi), List.getElem?_replicate] at e
    split at e <;> cases e
abbrev cx0 (P : Program) (w : World) (K : PySem.W.Frag) (mg : Str → Option Value) (base : Heap) (N : List Str) (qual : Str) (scope : Scope) (f : Addr) (cd : Value) (A : Around) (outer : List Env) (s : Shared) (H : Hp) (E : XK) : Cx := (cxOf CX0 P w K mg base N qual scope f cd A outer s H E).nox
/-- a def's end -/
def Po.fn (cs : List Cel) (Q : D → List Cel → Prop) : Po := { nx := fun e => FinD cs Q .non e.cs, rt := FinD cs Q }
/-- THE RULE for a def that raises nothing -/
theorem fn_d {P : Program} {w : World} {K : PySem.W.Frag} {mg : Str → Option Value} {base : Heap} {x qual : Str} {params : Arguments} {body : List Stmt} {scope : Scope} {dvs : List V} {kws : List (Str × V)} {f : Addr} {fd : FuncData} {N ps : List Str} {k : Nat} {sp : Spc} {t : DS}
    (F : FunD K x qual params body scope dvs kws f fd) (S : FnScope N ps scope) (len : ∀ ds cs Q, sp ds cs Q → ds.length = ps.length)
    (der : ∀ (cdv : Value) (A : Around) (outer : List Env) (s : Shared) (H : Hp) (E : XK) (B : Bs), Room k (A.deeper (envOfC qual scope s.heap.objs.size f cdv)) → PSs (cx0 P w K mg base N qual scope f cdv A outer s H E) body (lS K B t))
    (vc : ∀ ds cs Q, (∀ d ∈ ds, loD cs.length d = true) → (∀ c ∈ cs, c.loD cs.length = true) → sp ds cs Q → t (Po.fn cs Q) ⟨startD N ds, cs⟩) : FnOk P w K mg base CX0 (k + 1) f fd ps (spD K sp) := by
  refine F.ok S (fun vs H Q E ⟨W, cs, ds, P', ok, r, h, _⟩ => by rw [r.length]; exact len _ _ _ h) fun cdv A outer s H vs Q E hr ⟨W, cs, ds, P', ok, r, h, kk⟩ => ?_
  refine ⟨_, PSs.nox (der cdv A outer s H E (Bs.of W) hr), W, ⟨startD N ds, cs⟩, _, W.le_refl, ⟨ok, start_ok r⟩, vc ds cs P' (fun d hd => ?_) ok.cl_lo h, ?_, fin_ok ok kk, fun _ _ _ _ z => z.elim, fun _ _ _ _ z => z.elim⟩
  · obtain ⟨i, hi, e⟩ := List.mem_iff_getElem.mp hd
    obtain ⟨v, hv, rv⟩ := r.get (i := i) (d := d) (by simp [hi, e])
    rw [← ok.len]
    exact R.lo_of _ _ rv
  · exact fun e' W' H' σ' p l S' => fin_ok ok kk .non e'.cs W' H' .non p l S'.ok .non
end DL
namespace DL
open PySem PySem.Spec PyProof.Rows L2
open Evl (Ex)

/-! ### a list's methods -/
def MtD (K : PySem.W.Frag) (r : V → List V → Hp → VK → Prop) (q : D → List D → DE) : Prop := ∀ (W : Wd) (H : Hp) (σ : L2.St) (e : En) (x : V) (vs : List V) (d : D) (ds : List D) (P : D → En → Prop) (Q : VK), Sd K W H σ e → R K W x d → RAll K W vs ds → q d ds e P →
  (∀ d e' W' H' v, P d e' → W.le W' → Sd K W' H' σ e' → R K W' v d → Q v H') → r x vs H Q
def eBM (q : D → List D → DE) (te : DE) (ta : DA) : DE := fun e P => te e fun d e1 => (∃ xs, lk e1.cs d = some xs) ∧ ta e1 fun ds e2 => q d ds e2 P
def eBM0 (q : D → List D → DE) (te : DE) : DE := fun e P => te e fun d e1 => (∃ xs, lk e1.cs d = some xs) ∧ q d [] e1 P
section
variable {K : PySem.W.Frag} {X : Cx} {B : Bs} {o ex : Expr} {es : List Expr} {te : DE} {ta : DA} {name : Str} {apos cpos : Pos} {id : String} {r : V → List V → Hp → VK → Prop} {q : D → List D → DE}
theorem Ok.tyL {W : Wd} {H : Hp} {cs : List Cel} (h : Ok K W H cs) {d : D} {v : V} {xs : List D} (r : R K W v d) (e : DL.lk cs d = some xs) : tyV K "list" v H := by
  obtain ⟨a, vs, rfl, h1, _⟩ := h.lk r e
  exact .inl ⟨rfl, vs, h1⟩
theorem de_bm (pa : PlainAttrs "list") (slot : Slot "list" name id) (hty : typeOf (.builtin id) = pure (.type "method_descriptor")) (hm : MtR X id r) (hq : MtD X.K r q) (ho : PE X o (lE X.K B te)) (ha : PA X (ex :: es) (lA X.K B ta))
    (hbase : attributeBase o name X.env (eval o X.env) = eval o X.env := by rfl)
    (hfew : ((backTo cpos (starEach (ex :: es) X.env)).all (fun x => !x.1) && (backToKw cpos (keywordEach [] X.env)).all (fun x => x.1.isSome)
      && decide ((ex :: es).length + ([] : List Keyword).length + (if ([] : List Keyword).isEmpty then 0 else 1) < 30)) = true := by rfl)
    (hline : (apos.endLine == cpos.line) = true := by rfl) (hs : starEach (ex :: es) X.env = (false, eval ex X.env) :: starEach es X.env := by rfl) (hplain : (backTo cpos (starEach es X.env)).any (·.1) = false := by rfl) :
    PE X (.Call (.Attribute o name apos) (ex :: es) [] cpos) (lE X.K B (eBM q te ta)) :=
  PE.imp (pe_bm pa slot hty hm ho ha hbase hfew hline hs hplain) fun σ H Q ⟨W, e, P, bl, S, t, k⟩ => ⟨W, e, _, bl, S, t, fun d e1 W1 H1 v ⟨⟨xs, hx⟩, t1⟩ l1 S1 r1 =>
    ⟨S1.ok.tyL r1 hx, W1, e1, _, B.up bl l1, S1, t1, fun ds e2 W2 H2 vs t2 l2 S2 r2 => hq W2 H2 σ e2 v vs d ds P Q S2 (R.mono l2 _ _ r1) r2 t2 fun d e3 W3 H3 v3 p l3 S3 r3 => k d e3 W3 H3 v3 p ((l1.tr l2).tr l3) S3 r3⟩⟩
theorem de_bm0 (pa : PlainAttrs "list") (slot : Slot "list" name id) (hty : typeOf (.builtin id) = pure (.type "method_descriptor")) (hm : MtR X id r) (hq : MtD X.K r q) (ho : PE X o (lE X.K B te))
    (hbase : attributeBase o name X.env (eval o X.env) = eval o X.env := by rfl) (hline : (apos.endLine == cpos.line) = true := by rfl) : PE X (.Call (.Attribute o name apos) [] [] cpos) (lE X.K B (eBM0 q te)) :=
  PE.imp (pe_bm0 pa slot hty hm ho hbase hline) fun σ H Q ⟨W, e, P, bl, S, t, k⟩ => ⟨W, e, _, bl, S, t, fun d e1 W1 H1 v ⟨⟨xs, hx⟩, t1⟩ l1 S1 r1 =>
    ⟨S1.ok.tyL r1 hx, hq W1 H1 σ e1 v [] d [] P Q S1 r1 .nil t1 fun d e3 W3 H3 v3 p l3 S3 r3 => k d e3 W3 H3 v3 p (l1.tr l3) S3 r3⟩⟩
def qApp : D → List D → DE := fun d ds e P => ∃ n xs y, d = .cell n ∧ ds = [y] ∧ e.cs[n]? = some (.lst xs) ∧ xs.length < sizeLine ∧ P .non { e with cs := e.cs.set n (.lst (xs ++ [y])) }
theorem md_app : MtD K rAppend qApp := by
  rintro W H σ e x vs d ds P Q S r rs ⟨n, xs, y, rfl, rfl, hc, hz, p⟩ k
  obtain ⟨v, rfl, rv⟩ := rs.one
  cases r with
  | @cell _ a hm =>
    obtain ⟨vs, h1, h2⟩ := S.ok.cellL hm hc
    refine ⟨a, vs, v, rfl, rfl, h1, by rw [h2.length]; exact hz, ?_⟩
    exact k _ _ _ _ _ p W.le_refl ⟨S.ok.setC hm hc (fun z => nomatch z) ⟨_, upd_same, h2.app1 rv⟩, S.sl⟩ .non
def qRevM : D → List D → DE := fun d ds e P => ∃ n xs, d = .cell n ∧ e.cs[n]? = some (.lst xs) ∧ P .non { e with cs := e.cs.set n (.lst xs.reverse) }
theorem md_rev : MtD K rReverse (fun d ds e P => ds = [] ∧ qRevM d ds e P) := by
  rintro W H σ e x vs d ds P Q S r rs ⟨rfl, n, xs, rfl, hc, p⟩ k
  cases rs
  cases r with
  | @cell _ a hm =>
    obtain ⟨vs, h1, h2⟩ := S.ok.cellL hm hc
    refine ⟨a, vs, rfl, rfl, h1, ?_⟩
    exact k _ _ _ _ _ p W.le_refl ⟨S.ok.setC hm hc (fun z => nomatch z) ⟨_, upd_same, h2.reverse⟩, S.sl⟩ .non
end

/-! ### what is left to show, step by step -/
section
variable {e : En} {P : D → En → Prop} {PB : Bool → En → Prop} {PA' : List D → En → Prop} {Po' : Po} {i : Nat} {d x y : D} {ta tb tc te tv to ti : DE} {t u : DT} {q q' : D → D → DE} {a b : Int} {k : Bool} {s : DS} {A C : Prop} {o : Bool} {tr : DA}
theorem v_var (h : e.sl[i]? = some (some d)) (p : P d e) : eV i e P := ⟨d, h, p⟩
theorem v_c (p : P d e) : eC d e P := p
theorem v_bin (h : ta e fun x e1 => tb e1 fun y e2 => q x y e2 P) : eBin q ta tb e P := h
theorem v_chain (h : ta e fun x e1 => tb e1 fun y e2 => q x y e2 fun z e3 => ∃ k, z = .bl k ∧ if k = true then tc e3 fun w e4 => q' y w e4 P else P (.bl false) e3) : eChain q q' ta tb tc e P := h
theorem v_test (h : te e fun d e1 => ∃ k, d = .bl k ∧ PB k e1) : eTest te e PB := h
theorem v_tru (h : te e fun d e1 => ∃ k, tru e1.cs d = some k ∧ PB k e1) : eTru te e PB := h
theorem v_dand (h : t e fun c e1 => if c = true then u e1 PB else PB false e1) : dAnd t u e PB := h
theorem v_dor (h : t e fun c e1 => if c = true then PB true e1 else u e1 PB) : dOr t u e PB := h
theorem v_dnot (h : t e fun c e1 => PB (!c) e1) : dNot t e PB := h
theorem v_dyes (h : PB true e) : dYes e PB := h
theorem v_eand (h : ta e fun x e1 => ∃ c, x = .bl c ∧ if c = true then tb e1 P else P (.bl false) e1) : eAnd ta tb e P := h
theorem v_eor (h : ta e fun x e1 => ∃ c, x = .bl c ∧ if c = true then P (.bl true) e1 else tb e1 P) : eOr ta tb e P := h
theorem v_enot (h : ta e fun x e1 => ∃ c, x = .bl c ∧ P (.bl (!c)) e1) : eNot ta e P := h
theorem v_eif (h : t e fun c e1 => if c = true then ta e1 P else tb e1 P) : eIf t ta tb e P := h
theorem v_anil (h : PA' [] e) : aNil e PA' := h
theorem v_acons (h : te e fun d e1 => tr e1 fun ds e2 => PA' (d :: ds) e2) : aCons te tr e PA' := h
theorem v_tup (h : tr e fun ds e1 => ds.length ≤ sizeLine ∧ P (.tup ds) e1) : eTup tr e P := h
theorem v_lst (h : tr e fun ds e1 => ds.length ≤ sizeLine ∧ newL o ds e1 P) : eLst o tr e P := h
theorem v_newF {xs : List D} (h : P (.lst xs) e) : newL false xs e P := h
theorem v_newC {xs : List D} (h : P (.cell e.cs.length) { e with cs := e.cs ++ [.lst xs] }) : newL true xs e P := h
theorem v_cb {qq : List D → DE} (h : tr e fun ds e1 => qq ds e1 P) : eCB qq tr e P := h
theorem v_call {sp : Spc} (h : tr e fun ds e1 => sp ds e1.cs fun d cs' => P d { e1 with cs := cs' }) : eCall sp tr e P := h
theorem v_sl {tl th : DO} (h : te e fun x e1 => tl e1 fun l e2 => th e2 fun h e3 => qSl o x l h e3 P) : eSl o te tl th e P := h
theorem v_onone {PO' : Option Int → En → Prop} (h : PO' none e) : oNone e PO' := h
theorem v_osome {PO' : Option Int → En → Prop} (h : te e fun d e1 => ∃ i, d = .int i ∧ PO' (some i) e1) : oSome te e PO' := h
theorem v_bm {qq : D → List D → DE} (h : te e fun d e1 => (∃ xs, lk e1.cs d = some xs) ∧ tr e1 fun ds e2 => qq d ds e2 P) : eBM qq te tr e P := h
theorem v_bm0 {qq : D → List D → DE} (h : te e fun d e1 => (∃ xs, lk e1.cs d = some xs) ∧ qq d [] e1 P) : eBM0 qq te e P := h
theorem v_prop {C : Addr} {sp : Spc} (h : te e fun d e1 => (∃ ns xs, insD e1.cs d = some (C, ns, xs)) ∧ sp [d] e1.cs fun r cs' => P r { e1 with cs := cs' }) : eProp C sp te e P := h
theorem v_fld {C : Addr} {f : Str} (h : te e fun d e1 => ∃ ns xs v, insD e1.cs d = some (C, ns, xs) ∧ getF f ns xs = some v ∧ P v e1) : eFld C f te e P := h
theorem v_meth {C : Addr} {m : Str} {sp : Spc} (h : te e fun d e1 => (∃ ns xs, insD e1.cs d = some (C, ns, xs) ∧ m ∉ ns) ∧ tr e1 fun ds e2 => sp (d :: ds) e2.cs fun r cs' => P r { e2 with cs := cs' }) : eMeth C m sp te tr e P := h
theorem v_make {C : Addr} {sp : Spc} (h : tr e fun ds e1 => sp (.cell e1.cs.length :: ds) (e1.cs ++ [.ins C [] []]) fun r cs' => r = .non ∧
  (P (.cell e1.cs.length) { e1 with cs := cs' } ∨ ∃ cs1 C' ns xs, cs' = cs1 ++ [.ins C' ns xs] ∧ cs1.length = e1.cs.length ∧ los e1.cs.length xs = true ∧ (∀ c ∈ cs1, c ∈ e1.cs ∨ c.loD e1.cs.length = true) ∧ P (.ins C' ns xs) { e1 with cs := cs1 })) : eMake C sp tr e P := h
-- statements
theorem v_nthn {u : DS} (h : u Po' e) : (Po'.thn u).nx e := h
theorem v_rthn {u : DS} {cs : List Cel} (h : Po'.rt d cs) : (Po'.thn u).rt d cs := h
theorem v_bthn {u : DS} (h : Po'.bk e) : (Po'.thn u).bk e := h
theorem v_cthn {u : DS} (h : Po'.ct e) : (Po'.thn u).ct e := h
theorem v_nlp {N : En → Prop} (h : N e) : (Po'.lp N).nx e := h
theorem v_rlp {N : En → Prop} {cs : List Cel} (h : Po'.rt d cs) : (Po'.lp N).rt d cs := h
theorem v_blp {N : En → Prop} (h : Po'.nx e) : (Po'.lp N).bk e := h
theorem v_clp {N : En → Prop} (h : N e) : (Po'.lp N).ct e := h
theorem v_nfn {cs : List Cel} {Q : D → List Cel → Prop} (h : FinD cs Q .non e.cs) : (Po.fn cs Q).nx e := h
theorem v_rfn {cs cs' : List Cel} {Q : D → List Cel → Prop} (h : FinD cs Q d cs') : (Po.fn cs Q).rt d cs' := h
theorem v_break (h : Po'.bk e) : sBreak Po' e := h
theorem v_cont (h : Po'.ct e) : sCont Po' e := h
theorem v_seq {s1 s2 : DS} (h : s1 (Po'.thn s2) e) : sSeq s1 s2 Po' e := h
theorem v_next (h : Po'.nx e) : sNext Po' e := h
theorem v_drop (h : te e fun _ e1 => Po'.nx e1) : sDrop te Po' e := h
theorem v_ret (h : te e fun d e1 => Po'.rt d e1.cs) : sRet te Po' e := h
theorem v_retN (h : Po'.rt .non e.cs) : sRetN Po' e := h
theorem v_if {s1 s2 : DS} (h : t e fun b e1 => if b = true then s1 Po' e1 else s2 Po' e1) : sIf t s1 s2 Po' e := h
theorem v_asg (h : te e fun d e1 => Po'.nx { e1 with sl := e1.sl.set i (some d) }) : sAsg te i Po' e := h
theorem v_asgT {tg : Tg} (h : te e fun d e1 => ∃ sl', setTg tg d e1.sl = some sl' ∧ Po'.nx ⟨sl', e1.cs⟩) : sAsgT te tg Po' e := h
theorem v_lenL {xs : List D} (h : seqD e.cs d = some xs) (hs : ∀ s, d ≠ .str s) (p : P (.int xs.length) e) : qLen [d] e P := by
  cases d <;> first | exact absurd rfl (hs _) | exact ⟨xs, h, p⟩
theorem v_listL {xs : List D} (h : seqD e.cs d = some xs) (p : newL o xs e P) : qList o [d] e P := ⟨xs, h, p⟩
theorem v_tupL {xs : List D} (h : lk e.cs d = some xs) (ht : ∀ s, d ≠ .tup s) (p : P (.tup xs) e) : qTuple [d] e P := by
  cases d <;> first | exact absurd rfl (ht _) | exact ⟨xs, h, p⟩
theorem v_tupT {xs : List D} (p : P (.tup xs) e) : qTuple [.tup xs] e P := p
theorem v_sumL {ns : List Int} (h : seqD e.cs d = some (ns.map .int)) (p : P (.int ns.sum) e) : qSum [d] e P := ⟨ns, h, p⟩
theorem v_allL {bs : List Bool} (h : lk e.cs d = some (bs.map .bl)) (p : P (.bl (bs.all fun b => b)) e) : qAll [d] e P := ⟨bs, h, p⟩
theorem v_slL {xs : List D} {l h : Option Int} (h1 : lk e.cs d = some xs) (ht : ∀ s, d ≠ .tup s) (hs : ∀ s, d ≠ .str s) (p : newL o (cutD xs l h) e P) : qSl o d l h e P := by
  unfold qSl
  split
  · exact absurd rfl (ht _)
  · exact absurd rfl (hs _)
  · exact ⟨xs, h1, p⟩
theorem v_sub {tv to ti : DE} (h : tv e fun v e1 => to e1 fun o e2 => ti e2 fun i e3 => ∃ n xs k j, o = .cell n ∧ e3.cs[n]? = some (.lst xs) ∧ i = .int k ∧ ixN xs.length k = some j ∧ Po'.nx { e3 with cs := e3.cs.set n (.lst (xs.set j v)) }) : sSub tv to ti Po' e := h
theorem v_rev (h : te e fun x e1 => ∃ xs, lk e1.cs x = some xs ∧ newL o xs.reverse e1 P) : eRev o te e P := h
theorem v_sz {xs : List D} {p : Prop} (h : decide (xs.length ≤ 1000) = true) (q : p) : xs.length ≤ sizeLine ∧ p := ⟨Nat.le_trans (of_decide_eq_true h) (by decide), q⟩
-- operators on known kinds
theorem v_addI (p : P (.int (a + b)) e) : qAdd o (.int a) (.int b) e P := p
theorem v_subI (p : P (.int (a - b)) e) : qSub (.int a) (.int b) e P := p
theorem v_mulI (c : MulOk a b) (p : P (.int (a * b)) e) : qMul (.int a) (.int b) e P := ⟨c, p⟩
theorem v_fdivI (c : FdivOk a b) (p : P (.int (a / b)) e) : qFdiv (.int a) (.int b) e P := ⟨c, p⟩
theorem v_modI (c : 0 < b) (p : P (.int (a % b)) e) : qMod (.int a) (.int b) e P := ⟨c, p⟩
theorem v_powI (c : CPow a b) (p : P (.int (a ^ b.toNat)) e) : qPow (.int a) (.int b) e P := ⟨c, p⟩
theorem v_ltI (p : P (.bl (decide (a < b))) e) : qLt (.int a) (.int b) e P := p
theorem v_leI (p : P (.bl (decide (a ≤ b))) e) : qLe (.int a) (.int b) e P := p
theorem v_gtI (p : P (.bl (decide (b < a))) e) : qGt (.int a) (.int b) e P := p
theorem v_geI (p : P (.bl (decide (b ≤ a))) e) : qGe (.int a) (.int b) e P := p
theorem v_eqI (p : P (.bl (decide (a = b))) e) : qEq (.int a) (.int b) e P := p
theorem v_neI (p : P (.bl (!decide (a = b))) e) : qNe (.int a) (.int b) e P := p
theorem v_intI (p : P (.int a) e) : qInt [.int a] e P := p
theorem v_intB (p : P (.int (if k then 1 else 0)) e) : qInt [.bl k] e P := p
theorem v_isi {T : String} {c : String} (h : tyKnown T = true) (h1 : tyN e.cs d = some c) (p : P (.bl (isTy c T)) e) : qIsi [d, .raw (.ty T)] e P := ⟨h, c, h1, p⟩
theorem v_isiT {T c : String} (h : tyKnown T = true) (h1 : tyN e.cs d = some c) (h2 : isTy c T = true) (p : P (.bl true) e) : qIsi [d, .raw (.ty T)] e P := ⟨h, c, h1, by rw [h2]; exact p⟩
theorem v_isiF {T c : String} (h : tyKnown T = true) (h1 : tyN e.cs d = some c) (h2 : isTy c T = false) (p : P (.bl false) e) : qIsi [d, .raw (.ty T)] e P := ⟨h, c, h1, by rw [h2]; exact p⟩
theorem v_ixT {xs : List D} (h : atI xs a = some d) (p : P d e) : qIx (.tup xs) (.int a) e P := ⟨d, h, p⟩
theorem v_ixL {xs : List D} (h : atI xs a = some d) (p : P d e) : qIx (.lst xs) (.int a) e P := ⟨xs, rfl, d, h, p⟩
theorem v_ixC {n : Nat} {xs : List D} (hc : e.cs[n]? = some (.lst xs)) (h : atI xs a = some d) (p : P d e) : qIx (.cell n) (.int a) e P := ⟨xs, by show (match e.cs[n]? with | some (.lst xs) => some xs | _ => none) = some xs; rw [hc], d, h, p⟩
theorem tyN_cell {cs : List Cel} {n : Nat} {a : String} (h : tyN cs (.cell n) = some a) : a = "list" := by
  simp only [tyN] at h
  split at h
  · cases h; rfl
  · cases h
theorem v_ixCx {n : Nat} (h : ∃ xs d, e.cs[n]? = some (.lst xs) ∧ atI xs a = some d ∧ P d e) : qIx (.cell n) (.int a) e P := by
  obtain ⟨xs, d, h1, h2, h3⟩ := h
  exact v_ixC h1 h2 h3
theorem v_bl {PK : Bool → Prop} (h : PK k) : ∃ k', D.bl k = .bl k' ∧ PK k' := ⟨k, rfl, h⟩
theorem v_in {PK : Int → Prop} (h : PK a) : ∃ k', D.int a = .int k' ∧ PK k' := ⟨a, rfl, h⟩
theorem v_T {A B : Prop} (h : A) : if true = true then A else B := iteT h
theorem v_F {A B : Prop} (h : B) : if false = true then A else B := iteF h
theorem v_ite {c : Bool} {A B : Prop} (h1 : c = true → A) (h2 : c = false → B) : if c = true then A else B := by
  cases c with
  | true => exact iteT (h1 rfl)
  | false => exact iteF (h2 rfl)
theorem v_itd {c : Prop} [Decidable c] {A B : Prop} (h1 : c → A) (h2 : ¬ c → B) : if decide c = true then A else B := by
  by_cases h : c
  · rw [decide_eq_true h]; exact iteT (h1 h)
  · rw [decide_eq_false h]; exact iteF (h2 h)
theorem v_itdn {c : Prop} [Decidable c] {A B : Prop} (h1 : ¬ c → A) (h2 : c → B) : if (!decide c) = true then A else B := by
  by_cases h : c
  · rw [decide_eq_true h]; exact iteF (h2 h)
  · rw [decide_eq_false h]; exact iteT (h1 h)
end
end DL
namespace DL
open PySem PySem.Spec PyProof.Rows L2
open Evl (Ex)

/-- the def at f keeps its promise, at most k deep -/
def Good (P : Program) (w : World) (K : PySem.W.Frag) (mg : Str → Option Value) (base : Heap) (k : Nat) (f : Addr) (ps : List Str) (sp : Spc) : Prop :=
  ∃ fd, FnOk P w K mg base CX0 k f fd ps (spD K sp) ∧ Binds K fd ps [] ∧ PySem.W.keepIn K (.ref f) = true
theorem Good.mono {P : Program} {w : World} {K : PySem.W.Frag} {mg : Str → Option Value} {base : Heap} {j k : Nat} {f : Addr} {ps : List Str} {sp : Spc} (g : Good P w K mg base j f ps sp) (h : j ≤ k) : Good P w K mg base k f ps sp := by
  obtain ⟨fd, F, b, kp⟩ := g
  exact ⟨fd, F.mono h, b, kp⟩
section
variable {X : Cx} {B : Bs} {ex o a b : Expr} {es : List Expr} {te tv ta' tb' : DE} {ta : DA} {C : Addr} {f m x : Str} {pos apos p : Pos} {k : Nat} {fn pp : Addr} {ps : List Str} {sp : Spc}
theorem de_callG (G : Good X.prog X.w X.K X.mg X.base k fn ps sp) (hr : Room k X.A) (hm : X.mg x = some (.ref fn)) (ha : PA X (ex :: es) (lA X.K B ta)) (hg : Gl X x := by rfl) (hdb : (x == ("__debug__" : Str)) = false := by decide)
    (he : starEach (ex :: es) X.env = (false, eval ex X.env) :: starEach es X.env := by rfl) (hpl : (backTo pos (starEach es X.env)).any (·.1) = false := by rfl) : PE X (.Call (.Name x p) (ex :: es) [] pos) (lE X.K B (eCall sp ta)) := by
  obtain ⟨fd, F, b, kp⟩ := G
  exact de_call F hr hg hm kp b ha hdb he hpl
theorem de_propG (G : Good X.prog X.w X.K X.mg X.base k fn ps sp) (hr : Room (k + 1) X.A) (c : Cls X.K C) (hp : PropOf X.K C f pp fn) (he : PE X ex (lE X.K B te)) (hab : attributeBase ex f X.env (eval ex X.env) = eval ex X.env := by rfl) :
    PE X (.Attribute ex f pos) (lE X.K B (eProp C sp te)) := by
  obtain ⟨fd, F, b, kp⟩ := G
  exact de_prop c hp F hr b he hab
theorem de_methG {pl : Sem Bool} (G : Good X.prog X.w X.K X.mg X.base k fn ps sp) (hr : Room k X.A) (c : Cls X.K C) (hm : Meth X.K C m fn) (ho : PE X o (lE X.K B te)) (ha : PA X (ex :: es) (lA X.K B ta))
    (hst : starEach (ex :: es) X.env = (false, eval ex X.env) :: starEach es X.env := by rfl) (hpl : (backTo pos (starEach es X.env)).any (·.1) = false := by rfl)
    (ht : eval (.Call (.Attribute o m apos) (ex :: es) [] pos) X.env = (do
      let ov ← eval o X.env
      standAt apos.atName
      let (f, first) ← holding [ov] (getMethod ov m pl)
      callWith pos f first (backTo pos (starEach (ex :: es) X.env)) (backToKw pos (keywordEach [] X.env))) := by rfl) :
    PE X (.Call (.Attribute o m apos) (ex :: es) [] pos) (lE X.K B (eMeth C m sp te ta)) := by
  obtain ⟨fd, F, b, kp⟩ := G
  exact de_meth (pl := pl) c hm F hr b ho ha hst hpl ht
theorem de_methG0 {pl : Sem Bool} (G : Good X.prog X.w X.K X.mg X.base k fn ps sp) (hr : Room k X.A) (c : Cls X.K C) (hm : Meth X.K C m fn) (ho : PE X o (lE X.K B te))
    (ht : eval (.Call (.Attribute o m apos) [] [] pos) X.env = (do
      let ov ← eval o X.env
      standAt apos.atName
      let (f, first) ← holding [ov] (getMethod ov m pl)
      callWith pos f first (backTo pos (starEach [] X.env)) (backToKw pos (keywordEach [] X.env))) := by rfl) :
    PE X (.Call (.Attribute o m apos) [] [] pos) (lE X.K B (eMeth C m sp te aNil)) := by
  obtain ⟨fd, F, b, kp⟩ := G
  exact de_meth0 (pl := pl) c hm F hr b ho ht
theorem de_makeG (G : Good X.prog X.w X.K X.mg X.base k fn ps sp) (hr : Room (k + 1) X.A) (M : Mk X.K C fn) (hm : X.mg x = some (.ref C)) (ha : PA X (ex :: es) (lA X.K B ta)) (hg : Gl X x := by rfl) (hdb : (x == ("__debug__" : Str)) = false := by decide)
    (he : starEach (ex :: es) X.env = (false, eval ex X.env) :: starEach es X.env := by rfl) (hpl : (backTo pos (starEach es X.env)).any (·.1) = false := by rfl) : PE X (.Call (.Name x p) (ex :: es) [] pos) (lE X.K B (eMake C sp ta)) := by
  obtain ⟨fd, F, b, kp⟩ := G
  exact de_make M F hr hg hm b ha hdb he hpl
end

/-! ### own special methods -/
/-- the class at C has the special method m, the def at f -/
structure Sm (K : PySem.W.Frag) (C : Addr) (m : Str) (f : Addr) : Prop where
  at_ : PySem.W.findIn K (.ref C) m = some (some (.ref f))
  fn : PySem.W.isFn K (.ref f) = true
theorem Inv.inst {X : Cx} {pins : List (Addr × Obj)} {σ : L2.St} {H : Hp} {s : Shared} {a C dx : Addr} {fs : List (Str × V)} (I : Inv X pins σ H s) (e : H a = some (.ins C dx fs)) : ∃ od, PySem.W.InstAt s.heap a (PySem.W.instObj C dx) C (some od) := by
  obtain ⟨mA, O, _, _, _, _⟩ := ins_get I.hok e
  obtain ⟨od, J, _⟩ := O.look
  exact ⟨od, J⟩
/-- the callee at any nearness -/
theorem run_in {X : Cx} {pins : List (Addr × Obj)} {σ : L2.St} {H : Hp} {s : Shared} {A : Around} {k : Nat} {fn : Addr} {fd : FuncData} {ps : List Str} {sp : Sp} {Q : VK} {us : List Value} {vs : List V} (F : FnOk X.prog X.w X.K X.mg X.base CX0 k fn fd ps sp) (hb : Binds X.K fd ps []) (hr : Room k A)
    (e0 : Env0 X.prog X.w X.K X.mg X.base A X.stack s H) (I : Inv X pins σ H s) (r : Vals vs us) (h : sp vs H Q E0) {E : Value → Shared → Prop} : wpAny (model X.prog X.w) A (call (.ref fn) us) (EP X pins σ Q) E s := by
  have hl : (us ++ []).length = ps.length := by rw [List.append_nil, ← r.length]; exact F.len _ _ _ _ h
  have hbt := hb s us I.kIn hl
  rw [List.append_nil] at hbt
  refine wpAny_call (codeAny_mono (F.run A X.stack s H ⟨us, []⟩ us vs Q E0 hr e0 hbt r h) fun r s' hq => ?_)
  cases r with
  | error e => exact False.elim hq
  | ok fl =>
    cases fl with
    | ret u => exact I.after hq
    | next => exact False.elim hq
    | brk => exact False.elim hq
    | cont => exact False.elim hq
/-- two values, a promise -/
def rOwn1 (K : PySem.W.Frag) (C : Addr) (sp : Spc) (T : V → Prop) : V → Hp → VK → Prop := fun x H Q => ∃ a dx gs, x = .ref a ∧ H a = some (.ins C dx gs) ∧ spD K sp [.ref a] H (fun v H' => T v ∧ Q v H') E0
def rOwn2 (K : PySem.W.Frag) (C : Addr) (sp : Spc) (T : V → Prop) : R2 := fun x y H Q => ∃ a dx gs, x = .ref a ∧ H a = some (.ins C dx gs) ∧ spD K sp [.ref a, y] H (fun v H' => T v ∧ Q v H') E0
section
variable {X : Cx} {B : Bs} {C fn : Addr} {k : Nat} {ps : List Str} {sp : Spc} {K : PySem.W.Frag}
theorem call_lenO (G : Good X.prog X.w X.K X.mg X.base k fn ps sp) (hr : Room (k + 1) X.A) (sm : Sm X.K C "__len__" fn) : CallR X (.builtin "len") (fun xs H Q => ∃ x, xs = [x] ∧ rOwn1 X.K C sp (fun v => ∃ n : Int, v = .int n ∧ 0 ≤ n ∧ n < 2 ^ 63) x H Q) := by
  intro pins s σ H xs us Q I r h
  obtain ⟨x, rfl, a, dx, gs, rfl, ha, h⟩ := h
  obtain ⟨fd, F, b, kp⟩ := G
  obtain ⟨u, rfl, ru⟩ := vals1 r
  cases (show u = Value.ref a from ru)
  obtain ⟨od, J⟩ := Inv.inst I ha
  obtain ⟨m, hF⟩ := I.fr
  refine PySem.W.len_K hF I.ok.mod.kin J sm.at_ sm.fn (wpAny_mono (run_in (us := [.ref a]) (vs := [V.ref a]) F b hr.in1 I.env0.in1 I (.cons rfl .nil) h) (fun v s' z => ?_) fun _ _ z => z)
  obtain ⟨v', H', I', rv, ⟨n, rfl, h0, h1⟩, q⟩ := z
  obtain ⟨t, rfl⟩ := rv
  exact ⟨⟨h0, h1⟩, .int n, H', I'.tok _, ⟨_, rfl⟩, q⟩
/-- what an own special method asks, by data -/
def qOwn1 (C : Addr) (sp : Spc) (T : D → Prop) : D → DE := fun d e P => (∃ ns xs, insD e.cs d = some (C, ns, xs)) ∧ sp [d] e.cs fun r cs' => T r ∧ P r { e with cs := cs' }
def qOwn2 (C : Addr) (sp : Spc) (T : D → Prop) : D → D → DE := fun d y e P => (∃ ns xs, insD e.cs d = some (C, ns, xs)) ∧ sp [d, y] e.cs fun r cs' => T r ∧ P r { e with cs := cs' }
theorem own1_ok {T : V → Prop} {T' : D → Prop} (hT : ∀ W v d, R K W v d → T' d → T v) {W : Wd} {H : Hp} {σ : L2.St} {e : En} {x : V} {d : D} {P : D → En → Prop} {Q : VK} (S : Sd K W H σ e) (r : R K W x d) (t : qOwn1 C sp T' d e P)
    (kk : ∀ d e' W' H' v, P d e' → W.le W' → Sd K W' H' σ e' → R K W' v d → Q v H') : rOwn1 K C sp T x H Q := by
  obtain ⟨⟨ns, xs, hi⟩, h⟩ := t
  obtain ⟨a, dx, gs, rfl, h1, h2, h3⟩ := S.ok.ins r hi
  exact ⟨a, dx, gs, rfl, h1, W, e.cs, [d], _, S.ok, .cons r .nil, h, fun d cs' W' H' v ⟨t, p⟩ l ok r' => ⟨hT _ _ _ r' t, kk _ _ _ _ _ p l ⟨ok, S.sl.mono l⟩ r'⟩⟩
theorem own2_ok {T : V → Prop} {T' : D → Prop} (hT : ∀ W v d, R K W v d → T' d → T v) {W : Wd} {H : Hp} {σ : L2.St} {e : En} {x y : V} {d d2 : D} {P : D → En → Prop} {Q : VK} (S : Sd K W H σ e) (r : R K W x d) (r2 : R K W y d2) (t : qOwn2 C sp T' d d2 e P)
    (kk : ∀ d e' W' H' v, P d e' → W.le W' → Sd K W' H' σ e' → R K W' v d → Q v H') : rOwn2 K C sp T x y H Q := by
  obtain ⟨⟨ns, xs, hi⟩, h⟩ := t
  obtain ⟨a, dx, gs, rfl, h1, h2, h3⟩ := S.ok.ins r hi
  exact ⟨a, dx, gs, rfl, h1, W, e.cs, [d, d2], _, S.ok, .cons r (.cons r2 .nil), h, fun d cs' W' H' v ⟨t, p⟩ l ok r' => ⟨hT _ _ _ r' t, kk _ _ _ _ _ p l ⟨ok, S.sl.mono l⟩ r'⟩⟩
def lenT (d : D) : Prop := ∃ n : Int, d = .int n ∧ 0 ≤ n ∧ n < 2 ^ 63
def qLenO (C : Addr) (sp : Spc) : List D → DE
  | [d] => qOwn1 C sp lenT d
  | _ => fun _ _ => False
theorem cd_lenO : CallD K (fun xs H Q => ∃ x, xs = [x] ∧ rOwn1 K C sp (fun v => ∃ n : Int, v = .int n ∧ 0 ≤ n ∧ n < 2 ^ 63) x H Q) (qLenO C sp) := by
  intro W H σ e vs ds P Q S r t k
  unfold qLenO at t
  split at t
  · obtain ⟨v, rfl, r1⟩ := r.one
    exact ⟨v, rfl, own1_ok (fun W v d r ⟨n, e, h⟩ => ⟨n, by subst e; exact r.int_inv, h⟩) S r1 t k⟩
  · exact t.elim
variable {a b : Expr} {ta tb : DE} {pos : Pos}
theorem od_own2 {K : PySem.W.Frag} {T : V → Prop} {T' : D → Prop} (hT : ∀ W v d, R K W v d → T' d → T v) : OpD K (rOwn2 K C sp T) (qOwn2 C sp T') := fun W H σ e x y d1 d2 P Q S r1 r2 t k => own2_ok hT S r1 r2 t k
/-- o[i] -/
theorem pe_ixO {ta tb : TE} {T : V → Prop} (G : Good X.prog X.w X.K X.mg X.base k fn ps sp) (hr : Room (k + 1) X.A) (sm : Sm X.K C "__getitem__" fn) (hf : PySem.W.fnIn X.K fn = true) (ha : PE X a ta) (hb : PE X b tb)
    (hsl : ∀ x i, subscripted b true (.ref x) i = runValue (.builtin "lifetime.subscript" ⟨[.ref x, i], []⟩)) : PE X (.Subscript a b pos) (tOp (rOwn2 X.K C sp T) ta tb) := by
  refine ⟨fun pins s σ H Q I h => ?_⟩
  obtain ⟨fd, F, bi, kp⟩ := G
  refine Subscript_ (binT ha hb I h fun v u s2 x y H2 I2 rx ry q => ?_)
  obtain ⟨a', dx, gs, rfl, h1, h⟩ := q
  cases (show v = Value.ref a' from rx)
  obtain ⟨od, J⟩ := Inv.inst I2 h1
  obtain ⟨m, hF⟩ := I2.fr
  refine PySem.W.sub_K hF I2.ok.mod.kin J sm.at_ hf sm.fn (wpAny_mono (run_in (us := [.ref a', u]) (vs := [V.ref a', y]) F bi hr.in1 I2.env0.in1 I2 (.cons rfl (.cons ry .nil)) h) (fun v s' z => ?_) fun _ _ z => z) (hsl _ _)
  obtain ⟨v', H', I', rv, _, q⟩ := z
  exact ⟨v', H', I', rv, q⟩
theorem de_ixO (G : Good X.prog X.w X.K X.mg X.base k fn ps sp) (hr : Room (k + 1) X.A) (sm : Sm X.K C "__getitem__" fn) (hf : PySem.W.fnIn X.K fn = true) (ha : PE X a (lE X.K B ta)) (hb : PE X b (lE X.K B tb))
    (hsl : ∀ x i, subscripted b true (.ref x) i = runValue (.builtin "lifetime.subscript" ⟨[.ref x, i], []⟩) := by intros; with_unfolding_all rfl) : PE X (.Subscript a b pos) (lE X.K B (eBin (qOwn2 C sp fun _ => True) ta tb)) :=
  PE.imp (pe_ixO (T := fun _ => True) G hr sm hf ha hb hsl) (bin_ok (od_own2 fun _ _ _ _ _ => trivial))
theorem RelV.cmp {P : Value → Shared → Prop} {z : V} {v : Value} {s' : Shared} (r : RelV z v) (h : P v s') : PySem.W.CmpBack P v s' := by
  cases z with
  | non => cases (show v = Value.none from r); exact h
  | bl b => cases (show v = Value.bool b from r); exact h
  | int i =>
    obtain ⟨t, e⟩ := (show ∃ t, v = Value.int i t from r)
    cases e
    exact h
  | str x =>
    obtain ⟨t, e⟩ := (show ∃ t, v = Value.str x t from r)
    cases e
    exact h
  | byt b =>
    obtain ⟨t, e⟩ := (show ∃ t, v = Value.bytes b t from r)
    cases e
    exact h
  | flt b =>
    obtain ⟨t, e⟩ := (show ∃ t, v = Value.float b t from r)
    cases e
    exact h
  | ref a => cases (show v = Value.ref a from r); exact h
  | ty n => cases (show v = Value.type n from r); exact h
end
end DL
namespace DL
open PySem PySem.Spec PyProof.Rows L2
open Evl (Ex)

/-! ### a list or a tuple walked -/
section
variable {X : Cx} {B : Bs} {tg l ex : Expr} {te : DE}
def iAny (K : PySem.W.Frag) (tl : TE) : TI := fun σ H R => tl σ H fun x H1 => (∃ a, x = .ref a ∧ (∃ xs, SqL K H1 a xs) ∧ R (Itl K a) H1) ∨ ∃ a, x = .ref a ∧ (∃ xs, SqT K H1 a xs) ∧ R (Itt K a) H1
theorem pi_any {tl : TE} (hl : PE X l tl) : PI X tg l (iAny X.K tl) := by
  refine ⟨fun pins s σ H R I h => ?_⟩
  refine thn (hl.run pins s σ H _ I h) fun v s1 ⟨x, H1, I1, r1, q1⟩ => ?_
  rcases q1 with ⟨a, e, ⟨xs, hq⟩, q⟩ | ⟨a, e, ⟨xs, hq⟩, q⟩
  · subst e
    cases r1
    obtain ⟨its, rv, p, hz⟩ := I1.list hq
    refine wpAny_pyIter_list p.isList ?_
    refine ⟨s1.heap.objs.size, [s1.heap.objs.size], _, _, H1, rfl, I1.kept (t' := s1.toks) fun b o e => Heap.get?_push_of_some _ e, turn_list a _, ⟨_, Heap.get?_push_size _ rfl, rfl, rfl⟩, fun b hb => ?_, q⟩
    have e : b = s1.heap.objs.size := by simpa using hb
    subst e
    exact I1.fpOk (Nat.le_refl _) (I1.hok.fresh (Nat.le_refl _))
  · subst e
    cases r1
    obtain ⟨its, rv, p, hz⟩ := I1.tuple hq
    refine wpAny_pyIter_tuple (show s1.heap.IsTuple a its.toArray from p) ?_
    refine ⟨s1.heap.objs.size, [s1.heap.objs.size], _, _, H1, rfl, I1.kept (t' := s1.toks) fun b o e => Heap.get?_push_of_some _ e, turn_tuple a _, ⟨_, Heap.get?_push_size _ rfl, rfl, rfl⟩, fun b hb => ?_, q⟩
    have e : b = s1.heap.objs.size := by simpa using hb
    subst e
    exact I1.fpOk (Nat.le_refl _) (I1.hok.fresh (Nat.le_refl _))
/-- a list that changes no more, or a tuple -/
def fixS : D → Option (List D)
  | .lst xs => some xs
  | .fro xs => some xs
  | .tup xs => some xs
  | _ => none
/-- what is walked, and how -/
def itS (d : D) (e : En) (P : List D → (List Cel → Prop) → En → Prop) : Prop :=
  (∃ xs, fixS d = some xs ∧ P xs anyC e) ∨ ∃ n xs, d = .cell n ∧ e.cs[n]? = some (.lst xs) ∧ P xs (fun cs => cs[n]? = some (.lst xs)) e
def iS (t : DE) : DI := fun e P => t e fun d e1 => itS d e1 P
theorem di_any (h : PE X ex (lE X.K B te)) : PI X tg ex (lI X.K B (iS te)) := PI.imp (pi_any h) fun σ H Q ⟨W, e, P, bl, S, t, k⟩ => by
  refine ⟨W, e, _, bl, S, t, fun d e1 W1 H1 v hp l S1 r => ?_⟩
  rcases hp with ⟨xs, hx, p⟩ | ⟨n, xs, rfl, hc, p⟩
  · cases r <;> simp only [fixS] at hx <;> cases hx
    · exact .inr ⟨_, rfl, ⟨_, Evl.ex_t S1.ok.ex (by assumption)⟩, k _ _ _ _ _ _ p l S1 (wk_tup (by assumption) (by assumption))⟩
    · exact .inl ⟨_, rfl, ⟨_, SqL.of (S1.ok.ex _ _ (by assumption))⟩, k _ _ _ _ _ _ p l S1 (wk_list (SqL.of (by assumption)) (by assumption))⟩
    · exact .inl ⟨_, rfl, ⟨_, Evl.ex_l S1.ok.ex (by assumption)⟩, k _ _ _ _ _ _ p l S1 (wk_list (by assumption) (by assumption))⟩
  · cases r with
    | cell hm =>
      obtain ⟨vs, h1, _⟩ := S1.ok.cellL hm hc
      exact .inl ⟨_, rfl, ⟨_, SqL.of h1⟩, k _ _ _ _ _ _ p l S1 (wk_cell hm)⟩
theorem v_iS {t : DE} {e : En} {P : List D → (List Cel → Prop) → En → Prop} (h : t e fun d e1 => itS d e1 P) : iS t e P := h
theorem v_itF {d : D} {e : En} {P : List D → (List Cel → Prop) → En → Prop} (h : ∃ xs, fixS d = some xs ∧ P xs anyC e) : itS d e P := .inl h
theorem v_itC {n : Nat} {e : En} {P : List D → (List Cel → Prop) → En → Prop} (h : ∃ xs, e.cs[n]? = some (.lst xs) ∧ P xs (fun cs => cs[n]? = some (.lst xs)) e) : itS (.cell n) e P := let ⟨xs, h1, h2⟩ := h; .inr ⟨n, xs, rfl, h1, h2⟩
theorem v_iR1 {t : DA} {e : En} {P : List D → (List Cel → Prop) → En → Prop} (h : t e fun ds e1 => ∃ j, ds = [.int j] ∧ -(2 ^ 62) ≤ j ∧ j < 2 ^ 62 ∧ P (intsD 0 j.toNat) anyC e1) : iR1 t e P := h
theorem v_iR2 {t : DA} {e : En} {P : List D → (List Cel → Prop) → En → Prop} (h : t e fun ds e1 => ∃ i j, ds = [.int i, .int j] ∧ (-(2 ^ 62) ≤ i ∧ i < 2 ^ 62 ∧ -(2 ^ 62) ≤ j ∧ j < 2 ^ 62) ∧ P (intsD i (j - i).toNat) anyC e1) : iR2 t e P := h
end

/-! ### what the head tells -/
inductive At where
  | glo (x : Str)
  | met (c m : Str)
  | prp (c m : Str)
def pga (K : PySem.W.Frag) (C : Addr) (m : Str) : Addr := match PySem.W.recIn K (He.ma K C m) "property" with
  | some (.ref g :: _) => g
  | _ => 0
def At.ad (K : PySem.W.Frag) : At → Addr
  | .glo x => He.ga K x
  | .met c m => He.ma K (He.ga K c) m
  | .prp c m => pga K (He.ga K c) m
structure DefX where
  at_ : At
  name : Str
  qual : Str
  params : Arguments
  body : List Stmt
  scope : Scope
  dfl : List He.Dv := []
  kwd : List (Str × He.Dv) := []
def fnY (K : PySem.W.Frag) (p : At) : He.FnW := match K.lookup (p.ad K) with
  | some ⟨_, _, .func fd, _⟩ => some (fd.name, fd.qualname, fd.params, fd.body, fd.scope, fd.globals, fd.closure, fd.builtins)
  | _ => none
def DefX.val (d : DefX) : He.FnW := some (d.name, d.qual, d.params, .stmts d.body, d.scope, mainGlobals, [], builtinsNs)
def DefX.dvs (K : PySem.W.Frag) (d : DefX) : List V := d.dfl.map (He.Dv.v K)
def DefX.kws (K : PySem.W.Frag) (d : DefX) : List (Str × V) := d.kwd.map fun q => (q.1, q.2.v K)
def DefX.ok (K : PySem.W.Frag) (d : DefX) : Bool := PySem.W.keepIn K (.ref (d.at_.ad K)) && (match K.lookup (d.at_.ad K) with
  | some ⟨_, _, .func fd, _⟩ => PySem.W.codeIn K fd.code d.qual && (He.dflB K fd.defaults (d.dvs K) && He.kwdB K fd.kwdefaults (d.kws K))
  | _ => false)
theorem DefX.funD {K : PySem.W.Frag} {d : DefX} (e : fnY K d.at_ = d.val) (c : d.ok K = true) : ∃ fd, FunD K d.name d.qual d.params d.body d.scope (d.dvs K) (d.kws K) (d.at_.ad K) fd := by
  obtain ⟨kp, c2⟩ := He.ba c
  unfold fnY at e
  cases q : K.lookup (d.at_.ad K) with
  | none =>
    rw [q] at c2
    cases c2
  | some o =>
    obtain ⟨oc, od, dt, osl⟩ := o
    rw [q] at c2 e
    cases dt with
    | func fd =>
      obtain ⟨n1, n2, n3, n4, n5, n6, n7, n8, n9, n10, n11, n12, n13, n14, n15⟩ := fd
      have e2 : (some (n1, n2, n3, n4, n5, n6, n7, n15) : He.FnW) = some (d.name, d.qual, d.params, .stmts d.body, d.scope, mainGlobals, [], builtinsNs) := e
      simp only [Option.some.injEq, Prod.mk.injEq] at e2
      obtain ⟨h1, h2, h3, h4, h5, h6, h7, h8⟩ := e2
      subst h1 h2 h3 h4 h5 h6 h7 h8
      have c3 : (PySem.W.codeIn K n13 d.qual && (He.dflB K n8 (d.dvs K) && He.kwdB K n9 (d.kws K))) = true := c2
      obtain ⟨k1, k2⟩ := He.ba c3
      obtain ⟨k3, k4⟩ := He.ba k2
      exact ⟨_, ⟨oc, od, n8, n9, n10, n11, n12, n13, n14, osl, rfl, q, k1, He.dflB_ok k3, He.kwdB_ok k4⟩, kp⟩
    | _ => cases c2
/-- no slot of this number operator in the class C -/
structure NoSl (K : PySem.W.Frag) (C : Addr) (nm : String) : Prop where
  cd : ∃ cd, PySem.W.clsIn K C = some cd ∧ cd.mro = [.ref C, .type "object"]
  a : PySem.W.findIn K (.ref C) (PySem.dunder nm) = some none
  b : PySem.W.findIn K (.ref C) (dunderR nm) = some none
  oa : PySem.W.findIn K (.type "object") (PySem.dunder nm) = some none
  ob : PySem.W.findIn K (.type "object") (dunderR nm) = some none
def tysB : List String := ["NoneType", "bool", "int", "str", "tuple", "list", "dict"]
/-- an own exception class with its own __init__, as its object says -/
def oexO (C : Addr) (o : Obj) : Bool := decide (o.cls = .type "type") && match o.data with
  | .cls cd => !cd.hasDel && (cd.hasDict && match cd.mro with
    | .ref C' :: bm => decide (C' = C) && (PySem.HandSPX.refsVE bm && match o.slots.toList with
      | [_, _, _, _, some (.builtin n), _] => decide (n = "ValueError.__new__")
      | _ => false)
    | _ => false)
  | _ => false
def oexB (K : PySem.W.Frag) (C : Addr) : Bool := match K.lookup C with
  | some o => oexO C o
  | none => false
inductive Fx where
  | fa (f : He.Fa)
  | prop (c f : Str)
  | sm (c m : Str)
  | fnin (c m : Str)
  | tup (x : Str) (vs : List He.Dv)
  | insc (c : Str)
  | selff (c : Str)
  | noseq (c : Str)
  | nosl (c : Str) (nm : String)
  | kto (c : Str)
  | excc (c : Str)
  | exm (c : Str) (l : List (Str × Bool))
  | kito (c : Str) (l : List (Str × Bool))
  | kitb (T : String) (l : List (Str × Bool))
  | kita (cs : List Str) (l : List (Str × Bool))
  | oex (c : Str)
  | noix (c : Str)
  | exci (c : Str)
def Fx.ok (K : PySem.W.Frag) : Fx → Bool
  | .fa f => f.ok K
  | .prop c f => He.eqO (PySem.W.findIn K (.ref (He.ga K c)) f) (some (some (.ref (He.ma K (He.ga K c) f)))) && (He.eqO (PySem.W.specialIn K (.ref (He.ma K (He.ga K c) f)) "__get__") (some (some (.builtin "property.__get__"))) &&
      (decide (PySem.W.takesIn K (.ref (He.ma K (He.ga K c) f)) = some true) && (match PySem.W.recIn K (He.ma K (He.ga K c) f) "property" with
        | some (.ref g :: _) => decide (g = pga K (He.ga K c) f)
        | _ => false)))
  | .sm c m => He.eqO (PySem.W.findIn K (.ref (He.ga K c)) m) (some (some (.ref (He.ma K (He.ga K c) m)))) && PySem.W.isFn K (.ref (He.ma K (He.ga K c) m))
  | .fnin c m => PySem.W.fnIn K (He.ma K (He.ga K c) m)
  | .tup x vs => He.tupB K x vs
  | .insc c => (He.Fa.cls c).ok K && (He.eqO (PySem.W.findIn K (.ref (He.ga K c)) "__class__") (some (some (.builtin "object.__class__"))) && (He.eqO (PySem.W.specialIn K (.builtin "object.__class__") "__get__") (some (some (.builtin "getset_descriptor.__get__"))) &&
      (decide (PySem.W.takesIn K (.builtin "object.__class__") = some true) && decide (PySem.W.mroIn K (He.ga K c) (.type "object") = some true))))
  | .selff c => PySem.W.selfFirst K (He.ga K c)
  | .noseq c => PySem.W.noSeq K (He.ga K c)
  | .nosl c nm => (match PySem.W.clsIn K (He.ga K c) with
      | some cd => decide (cd.mro = [.ref (He.ga K c), .type "object"])
      | none => false) && (He.eqO (PySem.W.findIn K (.ref (He.ga K c)) (PySem.dunder nm)) (some none) && (He.eqO (PySem.W.findIn K (.ref (He.ga K c)) (dunderR nm)) (some none) &&
      (He.eqO (PySem.W.findIn K (.type "object") (PySem.dunder nm)) (some none) && He.eqO (PySem.W.findIn K (.type "object") (dunderR nm)) (some none))))
  | .kto c => tysB.all fun a => decide (PySem.W.kitOne K (.type a) (.ref (He.ga K c)) = some false)
  | .excc c => (He.Fa.exc c).ok K && (He.eqO (PySem.W.findIn K (.ref (He.ga K c)) "__getattribute__") (some (some (.builtin "BaseException.__getattribute__"))) && (He.eqO (PySem.W.findIn K (.ref (He.ga K c)) "__getattr__") (some none) &&
      (PySem.W.hasDictIn K (He.ga K c) && (He.eqO (PySem.W.findIn K (.ref (He.ga K c)) "__class__") (some (some (.builtin "object.__class__"))) && (He.eqO (PySem.W.specialIn K (.builtin "object.__class__") "__get__") (some (some (.builtin "getset_descriptor.__get__"))) &&
      (decide (PySem.W.takesIn K (.builtin "object.__class__") = some true) && decide (PySem.W.mroIn K (He.ga K c) (.type "object") = some true)))))))
  | .exm c l => l.all fun p => decide (PySem.W.exmOne K (.ref (He.ga K p.1)) (.ref (He.ga K c)) = some p.2)
  | .kito c l => l.all fun p => decide (PySem.W.kitOne K (.ref (He.ga K p.1)) (.ref (He.ga K c)) = some p.2)
  | .kitb T l => l.all fun p => decide (PySem.W.kitOne K (.ref (He.ga K p.1)) (.type T) = some p.2)
  | .kita cs l => l.all fun p => decide (PySem.W.kitAny K (.ref (He.ga K p.1)) (cs.map fun x => .ref (He.ga K x)) = some p.2)
  | .oex c => oexB K (He.ga K c) && (He.eqO (PySem.W.findIn K (.ref (He.ga K c)) "__setattr__") (some (some (.builtin "object.__setattr__"))) && (decide (PySem.W.subIn K (.ref (He.ga K c)) (.type "BaseException") = some true) &&
      (decide (PySem.W.typeIn K (.ref (He.ga K c)) = some (.type "type")) && PySem.W.keepIn K (.ref (He.ga K c)))))
  | .exci c => decide (PySem.W.subIn K (.ref (He.ga K c)) (.type "BaseException") = some true) && (He.eqO (PySem.W.findIn K (.ref (He.ga K c)) "__getattribute__") (some (some (.builtin "BaseException.__getattribute__"))) && (He.eqO (PySem.W.findIn K (.ref (He.ga K c)) "__getattr__") (some none) &&
      (PySem.W.hasDictIn K (He.ga K c) && (He.eqO (PySem.W.findIn K (.ref (He.ga K c)) "__class__") (some (some (.builtin "object.__class__"))) && (He.eqO (PySem.W.specialIn K (.builtin "object.__class__") "__get__") (some (some (.builtin "getset_descriptor.__get__"))) &&
      (decide (PySem.W.takesIn K (.builtin "object.__class__") = some true) && decide (PySem.W.mroIn K (He.ga K c) (.type "object") = some true)))))))
  | .noix c => He.eqO (PySem.W.findIn K (.ref (He.ga K c)) "index") (some none)
theorem prop_ok {K : PySem.W.Frag} {c f : Str} (h : (Fx.prop c f).ok K = true) : PropOf K (He.ga K c) f (He.ma K (He.ga K c) f) (pga K (He.ga K c) f) := by
  obtain ⟨h1, h2⟩ := He.ba h
  obtain ⟨h3, h4⟩ := He.ba h2
  obtain ⟨h5, h6⟩ := He.ba h4
  refine ⟨He.eqO_ok h1, He.eqO_ok h3, of_decide_eq_true h5, ?_⟩
  split at h6
  · rename_i g rest e
    exact ⟨rest, by rw [e, ← of_decide_eq_true h6]⟩
  · cases h6
theorem sm_ok {K : PySem.W.Frag} {c m : Str} (h : (Fx.sm c m).ok K = true) : Sm K (He.ga K c) m (He.ma K (He.ga K c) m) := by
  obtain ⟨h1, h2⟩ := He.ba h
  exact ⟨He.eqO_ok h1, h2⟩
theorem insc_ok {K : PySem.W.Frag} {c : Str} (h : (Fx.insc c).ok K = true) : C8.InsC K (He.ga K c) := by
  obtain ⟨h1, h2⟩ := He.ba h
  obtain ⟨h3, h4⟩ := He.ba h2
  obtain ⟨h5, h6⟩ := He.ba h4
  obtain ⟨h7, h8⟩ := He.ba h6
  exact ⟨He.cls_ok h1, He.eqO_ok h3, He.eqO_ok h5, of_decide_eq_true h7, of_decide_eq_true h8, by unfold PySem.W.kitOne; simp⟩
theorem kto_ok {K : PySem.W.Frag} {c : Str} (h : (Fx.kto c).ok K = true) : ∀ a ∈ tysB, PySem.W.kitOne K (.type a) (.ref (He.ga K c)) = some false := fun a m => of_decide_eq_true (List.all_eq_true.mp h a m)
theorem nosl_ok {K : PySem.W.Frag} {c : Str} {nm : String} (h : (Fx.nosl c nm).ok K = true) : NoSl K (He.ga K c) nm := by
  obtain ⟨h1, h2⟩ := He.ba h
  obtain ⟨h3, h4⟩ := He.ba h2
  obtain ⟨h5, h6⟩ := He.ba h4
  obtain ⟨h7, h8⟩ := He.ba h6
  refine ⟨?_, He.eqO_ok h3, He.eqO_ok h5, He.eqO_ok h7, He.eqO_ok h8⟩
  split at h1
  · rename_i cd e
    exact ⟨cd, e, of_decide_eq_true h1⟩
  · cases h1
theorem oexO_ok {C : Addr} {o : Obj} (h : oexO C o = true) : ∃ nm q N bs bm sn sub ab col dd k0 k1 k2 k3 k5, o = excClassObj nm q C N bs bm true sn sub ab col dd k0 k1 k2 k3 k5 "ValueError.__new__" ∧ PySem.HandSPX.refsVE bm = true := by
  obtain ⟨oc, od, dt, sl⟩ := o
  obtain ⟨h1, h0⟩ := Bool.and_eq_true_iff.mp (show (decide (oc = .type "type") && _) = true from h)
  have h1 : oc = .type "type" := of_decide_eq_true h1
  subst h1
  clear h
  split at h0
  · rename_i cd e
    have e : dt = .cls cd := e
    subst e
    have h2 := (Bool.and_eq_true_iff.mp h0).1
    replace h0 := (Bool.and_eq_true_iff.mp h0).2
    have h3 := (Bool.and_eq_true_iff.mp h0).1
    replace h0 := (Bool.and_eq_true_iff.mp h0).2
    obtain ⟨nm, bs, mro, ns, qn, hd, sn, sub, ab, col, del⟩ := cd
    dsimp only at h2 h3 h0
    split at h0
    · rename_i C' bm
      have h4 := (Bool.and_eq_true_iff.mp h0).1
      replace h0 := (Bool.and_eq_true_iff.mp h0).2
      have h5 := (Bool.and_eq_true_iff.mp h0).1
      replace h0 := (Bool.and_eq_true_iff.mp h0).2
      have h4 := of_decide_eq_true h4
      split at h0
      · rename_i k0 k1 k2 k3 n k5 hs
        have hn := of_decide_eq_true h0
        have hsl : sl = #[k0, k1, k2, k3, some (.builtin n), k5] := by
          obtain ⟨l⟩ := sl
          exact congrArg Array.mk hs
        have hdel : del = false := by simpa using h2
        subst h4 hn hsl hdel h3
        exact ⟨nm, qn, ns, bs, bm, sn, sub, ab, col, od, k0, k1, k2, k3, k5, rfl, h5⟩
      · exact absurd h0 Bool.false_ne_true
    · exact absurd h0 Bool.false_ne_true
  · exact absurd h0 Bool.false_ne_true
theorem oex_ok {K : PySem.W.Frag} {c : Str} (h : (Fx.oex c).ok K = true) : OexC K (He.ga K c) := by
  obtain ⟨h1, h⟩ := He.ba h
  obtain ⟨h2, h⟩ := He.ba h
  obtain ⟨h3, h⟩ := He.ba h
  obtain ⟨h4, h5⟩ := He.ba h
  refine ⟨?_, He.eqO_ok h2, of_decide_eq_true h3, of_decide_eq_true h4, h5⟩
  unfold oexB at h1
  split at h1
  · rename_i o e
    obtain ⟨nm, q, N, bs, bm, sn, sub, ab, col, dd, k0, k1, k2, k3, k5, e2, e3⟩ := oexO_ok h1
    subst e2
    exact ⟨nm, q, N, bs, bm, sn, sub, ab, col, dd, k0, k1, k2, k3, k5, e, e3⟩
  · cases h1
theorem noix_ok {K : PySem.W.Frag} {c : Str} (h : (Fx.noix c).ok K = true) : PySem.W.findIn K (.ref (He.ga K c)) "index" = some none := He.eqO_ok h
abbrev AlY : Type := Bool × List He.FnW
def obsY (fa : List Fx) (fn : List DefX) (K : PySem.W.Frag) : AlY := ((fa.all fun f => f.ok K) && fn.all fun d => d.ok K, fn.map fun d => fnY K d.at_)
def valY (fn : List DefX) : AlY := (true, fn.map DefX.val)
def SaysY (fa : List Fx) (fn : List DefX) (K : PySem.W.Frag) : Prop := obsY fa fn K = valY fn
def obsYG (n : Nat) (fa : List Fx) (fn : List DefX) (g : Addr → Option Obj) : AlY := obsY fa fn (He.frG g (He.asD g n))
def hookY (n : Nat) (fa : List Fx) (fn : List DefX) : PySem.W.Hook where
  α := AlY
  obs := fun s => obsYG n fa fn s.heap.get?
  val := fun _ => valY fn
  says := fun _ h => ∃ K : PySem.W.Frag, K.In h ∧ SaysY fa fn K
  of := fun _ _ e => ⟨_, He.frG_in, e⟩
  keeps := fun _ _ _ ⟨K, hK, c⟩ k => ⟨K, PySem.W.Frag.In.keeps hK k, c⟩
theorem obsYG_eq {n : Nat} {fa : List Fx} {fn : List DefX} {g : Addr → Option Obj} {s : Shared} (h : ∀ a, g a = s.heap.get? a) : obsYG n fa fn g = (hookY n fa fn).obs s := by
  have e : g = s.heap.get? := funext h
  rw [e] <;> rfl
section
variable {fa : List Fx} {fn : List DefX} {K : PySem.W.Frag}
theorem SaysY.fact (c : SaysY fa fn K) (i : Nat) {f : Fx} (h : fa[i]? = some f := by rfl) : f.ok K = true := by
  have c1 := (He.ba (show ((fa.all fun f => f.ok K) && fn.all fun d => d.ok K) = true from congrArg (fun z : AlY => z.1) c)).1
  exact List.all_eq_true.mp c1 f (List.mem_of_getElem? h)
theorem SaysY.def_ (c : SaysY fa fn K) (i : Nat) {d : DefX} (h : fn[i]? = some d := by rfl) : ∃ fd, FunD K d.name d.qual d.params d.body d.scope (d.dvs K) (d.kws K) (d.at_.ad K) fd := by
  have c2 := (He.ba (show ((fa.all fun f => f.ok K) && fn.all fun d => d.ok K) = true from congrArg (fun z : AlY => z.1) c)).2
  have e : fn.map (fun d => fnY K d.at_) = fn.map DefX.val := congrArg (fun z : AlY => z.2) c
  have e2 : (fn.map fun d => fnY K d.at_)[i]? = (fn.map DefX.val)[i]? := by rw [e]
  rw [List.getElem?_map, List.getElem?_map, h] at e2
  exact DefX.funD (Option.some.inj e2) (List.all_eq_true.mp c2 d (List.mem_of_getElem? h))
end
/-- a def of no defaults -/
theorem good_of {P : Program} {w : World} {K : PySem.W.Frag} {mg : Str → Option Value} {base : Heap} {x qual : Str} {params : Arguments} {body : List Stmt} {scope : Scope} {f : Addr} {N ps : List Str} {k : Nat} {sp : Spc} {t : DS}
    (F : ∃ fd, FunD K x qual params body scope [] [] f fd) (S : FnScope N ps scope) (len : ∀ ds cs Q, sp ds cs Q → ds.length = ps.length)
    (bi : ∀ (kV doc pm : Value) (an : Option Addr) (cdv ct : Value) (us : List Value), us.length = ps.length → bindArgs (PySem.W.fnOf x qual params body scope .none kV doc pm an cdv ct) ⟨us, []⟩ = pure (ps.zip us))
    (der : ∀ (cdv : Value) (A : Around) (outer : List Env) (s : Shared) (H : Hp) (E : XK) (B : Bs), Room k (A.deeper (envOfC qual scope s.heap.objs.size f cdv)) → PSs (cx0 P w K mg base N qual scope f cdv A outer s H E) body (lS K B t))
    (vc : ∀ ds cs Q, (∀ d ∈ ds, loD cs.length d = true) → (∀ c ∈ cs, c.loD cs.length = true) → sp ds cs Q → t (Po.fn cs Q) ⟨startD N ds, cs⟩) : Good P w K mg base (k + 1) f ps sp := by
  obtain ⟨fd, F⟩ := F
  exact ⟨fd, fn_d F S len der vc, F.bindsN bi, F.kp⟩
/-- what a law asks: the script, at most 63 ints; True -/
def spLaw : Spc := fun ds cs P => ∃ ns : List Int, ds = [.fro (ns.map .int)] ∧ ns.length ≤ 63 ∧ cs = [] ∧ ∀ cs', P (.bl true) cs'
theorem law_says {K : PySem.W.Frag} (H : Hp) (a : Addr) (ns : List Int) (hl : ns.length ≤ 63) (hS : SqL K H a (ns.map V.int)) : spD K spLaw [.ref a] H (fun v _ => v = .bl true) fun _ _ _ => False :=
  ⟨⟨H, [], []⟩, [], [.fro (ns.map .int)], fun d _ => d = .bl true, ⟨Ex.refl _, rfl, List.nodup_nil, fun _ h => (by cases h), fun n a c h => (by simp at h), fun n a c h => (by simp at h), fun _ h => (by cases h), List.nodup_nil⟩, .cons (.fro hS (RAll.ints ns)) .nil,
    ⟨ns, rfl, hl, rfl, fun _ => rfl⟩, fun d cs' W' H' v e _ _ r => by subst e; exact r.bl_inv⟩
theorem bt_len : bootBuiltins "len" = some (.builtin "len") := boot_len
theorem bt_all : bootBuiltins "all" = some (.builtin "all") := by decide +kernel
theorem bt_sum : bootBuiltins "sum" = some (.builtin "sum") := by decide +kernel
theorem bt_isinstance : bootBuiltins "isinstance" = some (.builtin "isinstance") := by decide +kernel
theorem bt_int : bootBuiltins "int" = some (.type "int") := by decide +kernel
theorem bt_bool : bootBuiltins "bool" = some (.type "bool") := by decide +kernel
theorem bt_tuple : bootBuiltins "tuple" = some (.type "tuple") := by decide +kernel
theorem bt_list : bootBuiltins "list" = some (.type "list") := by decide +kernel
theorem bt_str : bootBuiltins "str" = some (.type "str") := by decide +kernel
end DL
namespace DL
open PySem PySem.Spec PyProof.Rows L2
open Evl (Ex)

/-! ### data that stands for values of Lean -/
structure EqE {α : Type} [DecidableEq α] (enc : α → D) (n : Nat) : Prop where
  ok : ∀ a, okD (enc a) = true
  lay : ∀ a, (toP (enc a)).canLay0 = true
  dep : ∀ a, (toP (enc a)).depth ≤ n
  eqv : ∀ a b, PyData.eqv (toP (enc a)) (toP (enc b)) = decide (a = b)
section
variable {α : Type} [DecidableEq α] {enc : α → D} {n : Nat}
theorem EqE.shp (h : EqE enc n) (hn : n ≤ 64) (a : α) : shp (enc a) = true := by
  unfold DL.shp SeqAt.shaped
  rw [h.ok a, h.lay a, decide_eq_true (Nat.le_trans (h.dep a) hn)] <;> rfl
theorem EqE.oks (h : EqE enc n) : ∀ xs : List α, okDs (xs.map enc) = true
  | [] => rfl
  | x :: xs => by
    show (okD (enc x) && okDs (xs.map enc)) = true
    rw [h.ok x, h.oks xs] <;> rfl
theorem EqE.lays (h : EqE enc n) : ∀ xs : List α, PyData.canLayAll0 (toPs (xs.map enc)) = true
  | [] => rfl
  | x :: xs => by
    show ((toP (enc x)).canLay0 && PyData.canLayAll0 (toPs (xs.map enc))) = true
    rw [h.lay x, h.lays xs] <;> rfl
theorem EqE.deps (h : EqE enc n) : ∀ xs : List α, PyData.depthAll (toPs (xs.map enc)) ≤ n
  | [] => Nat.zero_le _
  | x :: xs => by
    have h1 := h.dep x
    have h2 := h.deps xs
    show PyData.depthAll (toP (enc x) :: toPs (xs.map enc)) ≤ n
    simp only [PyData.depthAll]
    omega
theorem EqE.eqvs (h : EqE enc n) : ∀ xs ys : List α, PyData.eqvAll (toPs (xs.map enc)) (toPs (ys.map enc)) = decide (xs = ys)
  | [], [] => rfl
  | [], y :: ys => rfl
  | x :: xs, [] => rfl
  | x :: xs, y :: ys => by
    show (PyData.eqv (toP (enc x)) (toP (enc y)) && PyData.eqvAll (toPs (xs.map enc)) (toPs (ys.map enc))) = decide (x :: xs = y :: ys)
    rw [h.eqv x y, h.eqvs xs ys]
    simp
theorem EqE.tup (h : EqE enc n) : EqE (fun xs : List α => D.tup (xs.map enc)) (n + 1) where
  ok := h.oks
  lay := fun xs => by
    show (PyData.tuple (toPs (xs.map enc))).canLay0 = true
    simp only [PyData.canLay0]
    exact h.lays xs
  dep := fun xs => by
    show (PyData.tuple (toPs (xs.map enc))).depth ≤ n + 1
    have := h.deps xs
    simp only [PyData.depth]
    omega
  eqv := fun xs ys => by
    show PyData.eqv (.tuple (toPs (xs.map enc))) (.tuple (toPs (ys.map enc))) = _
    simp only [PyData.eqv]
    exact h.eqvs xs ys
theorem EqE.lst (h : EqE enc n) : EqE (fun xs : List α => D.lst (xs.map enc)) (n + 1) where
  ok := h.oks
  lay := fun xs => by
    show (PyData.list (toPs (xs.map enc))).canLay0 = true
    simp only [PyData.canLay0]
    exact h.lays xs
  dep := fun xs => by
    show (PyData.list (toPs (xs.map enc))).depth ≤ n + 1
    have := h.deps xs
    simp only [PyData.depth]
    omega
  eqv := fun xs ys => by
    show PyData.eqv (.list (toPs (xs.map enc))) (.list (toPs (ys.map enc))) = _
    simp only [PyData.eqv]
    exact h.eqvs xs ys
end
theorem encI : EqE D.int 0 where
  ok := fun _ => rfl
  lay := fun _ => rfl
  dep := fun _ => by
    show (PyData.int _).depth ≤ 0
    simp [PyData.depth]
  eqv := fun a b => Bool.beq_eq_decide_eq a b
/-- a column of figures -/
def encC (c : List Int) : D := .tup (c.map .int)
theorem encCE : EqE encC 1 := encI.tup
/-- == of two lists or tuples, by Lean's -/
theorem v_eqE {α : Type} [DecidableEq α] {enc : α → D} {n : Nat} (h : EqE enc n) {a b : α} {e : En} {P : D → En → Prop} {x y : D} (hx : drf e.cs x = enc a) (hy : drf e.cs y = enc b) (p : P (.bl (decide (a = b))) e)
    (hn : n ≤ 64 := by decide) (hni : (∀ i, x ≠ .int i) ∨ (∀ i, y ≠ .int i) := by first | exact .inl (fun _ z => nomatch z) | exact .inr (fun _ z => nomatch z)) : qEq x y e P := by
  have q : shp (drf e.cs x) = true ∧ shp (drf e.cs y) = true ∧ P (.bl (PyData.eqv (toP (drf e.cs x)) (toP (drf e.cs y)))) e := by
    rw [hx, hy, h.eqv]
    exact ⟨h.shp hn a, h.shp hn b, p⟩
  unfold qEq
  split
  · rcases hni with z | z
    · exact absurd rfl (z _)
    · exact absurd rfl (z _)
  · exact q
theorem v_neE {α : Type} [DecidableEq α] {enc : α → D} {n : Nat} (h : EqE enc n) {a b : α} {e : En} {P : D → En → Prop} {x y : D} (hx : drf e.cs x = enc a) (hy : drf e.cs y = enc b) (p : P (.bl (!decide (a = b))) e)
    (hn : n ≤ 64 := by decide) (hni : (∀ i, x ≠ .int i) ∨ (∀ i, y ≠ .int i) := by first | exact .inl (fun _ z => nomatch z) | exact .inr (fun _ z => nomatch z)) : qNe x y e P := by
  have q : shp (drf e.cs x) = true ∧ shp (drf e.cs y) = true ∧ P (.bl (!PyData.eqv (toP (drf e.cs x)) (toP (drf e.cs y)))) e := by
    rw [hx, hy, h.eqv]
    exact ⟨h.shp hn a, h.shp hn b, p⟩
  unfold qNe
  split
  · rcases hni with z | z
    · exact absurd rfl (z _)
    · exact absurd rfl (z _)
  · exact q
/-! a list of cells' own data -/
theorem los_map {α : Type} {enc : α → D} {k : Nat} (h : ∀ a, loD k (enc a) = true) : ∀ xs : List α, los k (xs.map enc) = true
  | [] => rfl
  | x :: xs => by
    show (loD k (enc x) && los k (xs.map enc)) = true
    rw [h x, los_map h xs] <;> rfl
theorem los_int {k : Nat} (xs : List Int) : los k (xs.map .int) = true := los_map (fun _ => rfl) xs
theorem lo_encC {k : Nat} (c : List Int) : loD k (encC c) = true := los_int c
theorem los_encC {k : Nat} (cs : List (List Int)) : los k (cs.map encC) = true := los_map lo_encC cs
theorem los_bl {k : Nat} (xs : List Bool) : los k (xs.map .bl) = true := los_map (fun _ => rfl) xs
/-! looking -/
theorem lk_cell {cs : List Cel} {n : Nat} {xs : List D} (h : cs[n]? = some (.lst xs)) : lk cs (.cell n) = some xs := by
  show (match cs[n]? with | some (.lst xs) => some xs | _ => none) = some xs
  rw [h]
theorem drf_cell {cs : List Cel} {n : Nat} {xs : List D} (h : cs[n]? = some (.lst xs)) : drf cs (.cell n) = .lst xs := by
  show (match cs[n]? with | some (.lst xs) => .lst xs | _ => .cell n) = D.lst xs
  rw [h]
theorem atI_map {α : Type} {f : α → D} {xs : List α} {i : Nat} {x : α} (h : xs[i]? = some x) : atI (xs.map f) (i : Int) = some (f x) := atI_nat (by rw [List.getElem?_map, h] <;> rfl)
end DL
namespace DL
open PySem PySem.Spec PyProof.Rows L2
open Evl (Ex)

/-! ### more steps -/
theorem set_get {cs : List Cel} {n : Nat} {c0 c : Cel} (h : cs[n]? = some c0) : (cs.set n c)[n]? = some c := by
  have := (List.getElem?_eq_some_iff.mp h).1
  simp [this]
theorem app_get {cs : List Cel} {c : Cel} : (cs ++ [c])[cs.length]? = some c := by simp
theorem app_get_lt {cs : List Cel} {n : Nat} {c0 c : Cel} (h : cs[n]? = some c0) : (cs ++ [c])[n]? = some c0 := by
  have := (List.getElem?_eq_some_iff.mp h).1
  rw [List.getElem?_append_left this]; exact h
theorem cut63 (xs : List D) : cutD xs none (some 63) = xs.take 63 := by
  unfold cutD
  rw [HT.sIx_none, show (63 : Int) = ((63 : Nat) : Int) from rfl, HT.sIx_nat]
  simp
section
variable {e : En} {P : D → En → Prop} {tg : Tg} {tt : DT} {te : DE} {vs : List Nat} {o : Bool} {it : DI} {a b : Int} {G : List Cel → Prop}
theorem v_lc (h : it e fun ds G e1 => ds.length ≤ sizeLine ∧ ∃ I : Nat → List D → List Cel → Prop, I 0 [] e1.cs ∧
  (∀ i d acc cs, ds[i]? = some d → I i acc cs → G cs ∧ ∃ sl', setTg tg d (wipeD e1.sl vs) = some sl' ∧ tt ⟨sl', cs⟩ fun b e2 => if b = true then te e2 fun y e3 => I (i + 1) (acc ++ [y]) e3.cs else I (i + 1) acc e2.cs) ∧
  ∀ acc cs, acc.length ≤ ds.length → I ds.length acc cs → G cs ∧ newL o acc ⟨e1.sl, cs⟩ P) : eLc o it tg tt te vs e P := h
theorem v_for {Po' : Po} {tb : DS} (h : it e fun ds G e1 => ∃ I : Nat → En → Prop, I 0 e1 ∧
  (∀ i d e2, ds[i]? = some d → I i e2 → G e2.cs ∧ ∃ sl', setTg tg d e2.sl = some sl' ∧ tb (Po'.lp (I (i + 1))) ⟨sl', e2.cs⟩) ∧ ∀ e2, I ds.length e2 → G e2.cs ∧ Po'.nx e2) : sFor it tg tb Po' e := h
theorem v_j1 {PQ : List D → Prop} {n : Nat} (hn : n ≤ 1000) (h : PQ (intsD 0 n)) : ∃ j, [D.int n] = [.int j] ∧ -(2 ^ 62) ≤ j ∧ j < 2 ^ 62 ∧ PQ (intsD 0 j.toNat) :=
  ⟨n, rfl, by omega, by omega, h⟩
theorem v_j1i {PQ : List D → Prop} (h0 : -1000 ≤ a) (h1 : a ≤ 1000) (h : PQ (intsD 0 a.toNat)) : ∃ j, [D.int a] = [.int j] ∧ -(2 ^ 62) ≤ j ∧ j < 2 ^ 62 ∧ PQ (intsD 0 j.toNat) :=
  ⟨a, rfl, by omega, by omega, h⟩
theorem v_j2i {PQ : List D → Prop} (h0 : -1000 ≤ a) (h1 : a ≤ 1000) (h2 : -1000 ≤ b) (h3 : b ≤ 1000) (h : PQ (intsD a (b - a).toNat)) : ∃ i j, [D.int a, D.int b] = [.int i, .int j] ∧ (-(2 ^ 62) ≤ i ∧ i < 2 ^ 62 ∧ -(2 ^ 62) ≤ j ∧ j < 2 ^ 62) ∧ PQ (intsD i (j - i).toNat) :=
  ⟨a, b, rfl, ⟨by omega, by omega, by omega, by omega⟩, h⟩
theorem v_varX {i : Nat} (h : ∃ d, e.sl[i]? = some (some d) ∧ P d e) : eV i e P := h
theorem v_isXT {T : String} {d : D} (h : ∃ c, tyN e.cs d = some c ∧ isTy c T = true ∧ tyKnown T = true ∧ P (.bl true) e) : qIsi [d, .raw (.ty T)] e P := let ⟨_, h1, h2, h3, p⟩ := h; v_isiT h3 h1 h2 p
theorem v_isXF {T : String} {d : D} (h : ∃ c, tyN e.cs d = some c ∧ isTy c T = false ∧ tyKnown T = true ∧ P (.bl false) e) : qIsi [d, .raw (.ty T)] e P := let ⟨_, h1, h2, h3, p⟩ := h; v_isiF h3 h1 h2 p
theorem v_ixTX {xs : List D} (h : ∃ d, atI xs a = some d ∧ P d e) : qIx (.tup xs) (.int a) e P := h
theorem v_ixLX {xs : List D} (h : ∃ d, atI xs a = some d ∧ P d e) : qIx (.lst xs) (.int a) e P := let ⟨_, h1, p⟩ := h; v_ixL h1 p
theorem v_szX {xs : List D} {p : Prop} (h : decide (xs.length ≤ 1000) = true ∧ p) : xs.length ≤ sizeLine ∧ p := v_sz h.1 h.2
theorem v_fdivX (h : FdivOk a b ∧ P (.int (a / b)) e) : qFdiv (.int a) (.int b) e P := h
theorem v_mulX (h : MulOk a b ∧ P (.int (a * b)) e) : qMul (.int a) (.int b) e P := h
theorem v_modX (h : 0 < b ∧ P (.int (a % b)) e) : qMod (.int a) (.int b) e P := h
theorem v_powX (h : CPow a b ∧ P (.int (a ^ b.toNat)) e) : qPow (.int a) (.int b) e P := h
theorem v_j1X {PQ : Int → Prop} (h : (-1000 ≤ a ∧ a ≤ 1000) ∧ PQ a) : ∃ j, [D.int a] = [.int j] ∧ -(2 ^ 62) ≤ j ∧ j < 2 ^ 62 ∧ PQ j := ⟨a, rfl, by omega, by omega, h.2⟩
theorem v_j2X {PQ : Int → Int → Prop} (h : (-1000 ≤ a ∧ a ≤ 1000 ∧ -1000 ≤ b ∧ b ≤ 1000) ∧ PQ a b) : ∃ i j, [D.int a, D.int b] = [.int i, .int j] ∧ (-(2 ^ 62) ≤ i ∧ i < 2 ^ 62 ∧ -(2 ^ 62) ≤ j ∧ j < 2 ^ 62) ∧ PQ i j := ⟨a, b, rfl, ⟨by omega, by omega, by omega, by omega⟩, h.2⟩
theorem v_truB {b : Bool} {PK : Bool → Prop} (h : PK b) : ∃ k', tru e.cs (.bl b) = some k' ∧ PK k' := ⟨b, rfl, h⟩
theorem v_truB' {cs : List Cel} {b : Bool} {PK : Bool → Prop} (h : PK b) : ∃ k', tru cs (.bl b) = some k' ∧ PK k' := ⟨b, rfl, h⟩
theorem v_nT {A B : Prop} (h : B) : if (!true) = true then A else B := iteF h
theorem v_nF {A B : Prop} (h : A) : if (!false) = true then A else B := iteT h
theorem v_fix {d : D} {PQ : List D → Prop} (h : ∃ xs, fixS d = some xs ∧ PQ xs) : ∃ xs, fixS d = some xs ∧ PQ xs := h
theorem v_insX {cs : List Cel} {d : D} {C : Addr} {f : Str} {PQ : D → Prop} (h : ∃ ns xs v, insD cs d = some (C, ns, xs) ∧ getF f ns xs = some v ∧ PQ v) : ∃ ns xs v, insD cs d = some (C, ns, xs) ∧ getF f ns xs = some v ∧ PQ v := h
theorem v_insP {cs : List Cel} {d : D} {C : Addr} {R : Prop} (h : (∃ ns xs, insD cs d = some (C, ns, xs)) ∧ R) : (∃ ns xs, insD cs d = some (C, ns, xs)) ∧ R := h
theorem v_lkX {cs : List Cel} {d : D} {PQ : List D → Prop} (h : ∃ xs, lk cs d = some xs ∧ PQ xs) : ∃ xs, lk cs d = some xs ∧ PQ xs := h
theorem v_fldS {C : Addr} {f : Str} {to tv : DE} {Po' : Po} (h : tv e fun v e1 => to e1 fun o e2 => ∃ n ns xs, o = .cell n ∧ e2.cs[n]? = some (.ins C ns xs) ∧ f ∉ ns ∧ ns.length < 900 ∧ Po'.nx { e2 with cs := e2.cs.set n (.ins C (ns ++ [f]) (xs ++ [v])) }) : sFldD C f to tv Po' e := h
theorem v_lenK {d : D} {xs : List D} (h : lk e.cs d = some xs) (p : P (.int xs.length) e) : qLen [d] e P := by
  cases d <;> first | exact ⟨xs, h, p⟩ | cases h
theorem v_ixK {d y : D} {xs : List D} (h : lk e.cs d = some xs) (h2 : atI xs a = some y) (p : P y e) : qIx d (.int a) e P := by
  cases d <;> first | exact ⟨xs, h, y, h2, p⟩ | cases h
theorem seq_lk {cs : List Cel} {d : D} {xs : List D} (h : lk cs d = some xs) : seqD cs d = some xs := by
  cases d <;> first | exact h | cases h
theorem rep_map (k : Nat) (z : Int) : (List.range k).map (fun _ => D.int z) = (List.replicate k z).map D.int := by
  rw [List.map_replicate, List.map_const', List.length_range]
theorem v_tupK {d : D} {xs : List D} (h : lk e.cs d = some xs) (p : P (.tup xs) e) : qTuple [d] e P := by
  cases d <;> first | exact ⟨xs, h, p⟩ | cases h
theorem v_subX {cs : List Cel} {o i : D} {PQ : Nat → List D → Nat → Prop} (h : ∃ n xs k j, o = .cell n ∧ cs[n]? = some (.lst xs) ∧ i = .int k ∧ ixN xs.length k = some j ∧ PQ n xs j) : ∃ n xs k j, o = .cell n ∧ cs[n]? = some (.lst xs) ∧ i = .int k ∧ ixN xs.length k = some j ∧ PQ n xs j := h
theorem v_fldX {cs : List Cel} {o : D} {C : Addr} {f : Str} {PQ : Nat → List Str → List D → Prop} (h : ∃ n ns xs, o = .cell n ∧ cs[n]? = some (.ins C ns xs) ∧ f ∉ ns ∧ ns.length < 900 ∧ PQ n ns xs) : ∃ n ns xs, o = .cell n ∧ cs[n]? = some (.ins C ns xs) ∧ f ∉ ns ∧ ns.length < 900 ∧ PQ n ns xs := h
theorem lk_cell_iff {cs : List Cel} {n : Nat} {xs : List D} (h : lk cs (.cell n) = some xs) : cs[n]? = some (.lst xs) := by
  have h' : (match cs[n]? with | some (.lst xs) => some xs | _ => none) = some xs := h
  split at h'
  · rename_i e
    cases h'
    exact e
  · cases h'
theorem v_itK {d : D} {xs : List D} {P : List D → (List Cel → Prop) → En → Prop} (h : lk e.cs d = some xs) (p : ∀ G : List Cel → Prop, G e.cs → P xs G e) : itS d e P := by
  cases d with
  | lst ys => cases h; exact .inl ⟨_, rfl, p _ trivial⟩
  | fro ys => cases h; exact .inl ⟨_, rfl, p _ trivial⟩
  | cell n => exact .inr ⟨n, xs, rfl, lk_cell_iff h, p _ (lk_cell_iff h)⟩
  | _ => cases h
theorem lk_set {cs : List Cel} {n : Nat} {c c0 : Cel} {d : D} {xs : List D} (h : lk cs d = some xs) (hn : cs[n]? = some c0) (hc : ∀ ys, c0 ≠ .lst ys) : lk (cs.set n c) d = some xs := by
  cases d with
  | cell m =>
    have hm := lk_cell_iff h
    have hne : n ≠ m := by
      rintro rfl
      rw [hn] at hm
      cases hm
      exact hc _ rfl
    exact lk_cell (by rw [List.getElem?_set_ne hne]; exact hm)
  | _ => exact h
theorem lk_app {cs : List Cel} {c : Cel} {d : D} {xs : List D} (h : lk cs d = some xs) : lk (cs ++ [c]) d = some xs := by
  cases d with
  | cell m => exact lk_cell (app_get_lt (lk_cell_iff h))
  | _ => exact h
theorem ty_lk {cs : List Cel} {d : D} {xs : List D} (h : lk cs d = some xs) (hf : ∀ ys, d ≠ .fro ys) : tyN cs d = some "list" := by
  cases d with
  | cell m =>
    have := lk_cell_iff h
    show (match cs[m]? with | some (.lst _) => some "list" | _ => none) = some "list"
    rw [this]
  | lst ys => rfl
  | fro ys => exact absurd rfl (hf _)
  | _ => cases h
theorem trim_back {cs cs' : List Cel} {Q : D → List Cel → Prop} {d : D} (h : cs'.take cs.length = cs) (hl : loD cs.length d = true) (q : Q d cs) : FinD cs Q d cs' :=
  .inr (.inl ⟨hl, fun c hc => .inl (by rw [h] at hc; exact hc), by rw [h]; exact q⟩)
theorem sz_le {α : Type} {xs : List α} (h : xs.length ≤ 100000) : xs.length ≤ sizeLine := Nat.le_trans h (by decide)
/-- a comprehension that maps, and leaves the cells as they are -/
theorem v_lcT {α : Type} {ds : List D} {e1 : En} (xs : List α) (enc f : α → D) (hd : ds = xs.map enc) (hz : xs.length ≤ 100000)
  (turn : ∀ (Q : D → List Cel → Prop) (i : Nat) (x : α), xs[i]? = some x → Q (f x) e1.cs → ∃ sl', setTg tg (enc x) (wipeD e1.sl vs) = some sl' ∧ tt ⟨sl', e1.cs⟩ fun b e2 => b = true ∧ te e2 fun y e3 => Q y e3.cs) (hm : ∀ e (P P' : Bool → En → Prop), (∀ b e, P b e → P' b e) → tt e P → tt e P')
  (done : newL o (xs.map f) ⟨e1.sl, e1.cs⟩ P) (g : G e1.cs := by first | trivial | assumption) : ds.length ≤ sizeLine ∧ ∃ I : Nat → List D → List Cel → Prop, I 0 [] e1.cs ∧
  (∀ i d acc cs, ds[i]? = some d → I i acc cs → G cs ∧ ∃ sl', setTg tg d (wipeD e1.sl vs) = some sl' ∧ tt ⟨sl', cs⟩ fun b e2 => if b = true then te e2 fun y e3 => I (i + 1) (acc ++ [y]) e3.cs else I (i + 1) acc e2.cs) ∧
  ∀ acc cs, acc.length ≤ ds.length → I ds.length acc cs → G cs ∧ newL o acc ⟨e1.sl, cs⟩ P := by
  subst hd
  refine ⟨sz_le (by simpa using hz), fun i acc cs => acc = (xs.take i).map f ∧ cs = e1.cs, ⟨rfl, rfl⟩, ?_, ?_⟩
  · rintro i d acc cs hi ⟨rfl, rfl⟩
    simp only [List.getElem?_map, Option.map_eq_some_iff] at hi
    obtain ⟨x, hx, rfl⟩ := hi
    obtain ⟨sl', h1, h2⟩ := turn (fun y cs => (xs.take i).map f ++ [y] = (xs.take (i + 1)).map f ∧ cs = e1.cs) i x hx ⟨by rw [List.take_add_one, hx]; simp, rfl⟩
    refine ⟨g, sl', h1, hm _ _ _ ?_ h2⟩
    rintro b e2 ⟨rfl, h3⟩
    exact v_T h3
  · rintro acc cs _ ⟨rfl, rfl⟩
    exact ⟨g, by simpa using done⟩
/-- with no filter -/
theorem v_lcY {α : Type} {ds : List D} {e1 : En} (xs : List α) (enc f : α → D) (hd : ds = xs.map enc) (hz : xs.length ≤ 100000)
  (turn : ∀ (Q : D → List Cel → Prop) (i : Nat) (x : α), xs[i]? = some x → Q (f x) e1.cs → ∃ sl', setTg tg (enc x) (wipeD e1.sl vs) = some sl' ∧ te ⟨sl', e1.cs⟩ fun y e3 => Q y e3.cs)
  (done : newL o (xs.map f) ⟨e1.sl, e1.cs⟩ P) (g : G e1.cs := by first | trivial | assumption) : ds.length ≤ sizeLine ∧ ∃ I : Nat → List D → List Cel → Prop, I 0 [] e1.cs ∧
  (∀ i d acc cs, ds[i]? = some d → I i acc cs → G cs ∧ ∃ sl', setTg tg d (wipeD e1.sl vs) = some sl' ∧ dYes ⟨sl', cs⟩ fun b e2 => if b = true then te e2 fun y e3 => I (i + 1) (acc ++ [y]) e3.cs else I (i + 1) acc e2.cs) ∧
  ∀ acc cs, acc.length ≤ ds.length → I ds.length acc cs → G cs ∧ newL o acc ⟨e1.sl, cs⟩ P :=
  v_lcT xs enc f hd hz (fun Q i x hx q => let ⟨sl', h1, h2⟩ := turn Q i x hx q; ⟨sl', h1, rfl, h2⟩) (fun _ _ _ k h => k _ _ h) done g
/-- a def hands back the list it just made -/
theorem own_back {cs : List Cel} {Q : D → List Cel → Prop} {xs : List D} (h : los cs.length xs = true) (q : fresh xs cs Q) : FinD cs Q (.cell cs.length) (cs ++ [.lst xs]) := by
  have e : (cs ++ [Cel.lst xs]).take cs.length = cs := by simp
  refine .inr (.inr ⟨_, xs, rfl, Nat.le_refl _, app_get, h, ?_, ?_⟩)
  · rw [e]
    exact fun c hc => .inl hc
  · rw [e]
    exact q
theorem own_back2 {cs cs1 : List Cel} {Q : D → List Cel → Prop} {xs : List D} (hl : cs1.length = cs.length) (hc : ∀ c ∈ cs1, c ∈ cs ∨ c.loD cs.length = true) (h : los cs.length xs = true) (q : fresh xs cs1 Q) : FinD cs Q (.cell cs1.length) (cs1 ++ [.lst xs]) := by
  have e : (cs1 ++ [Cel.lst xs]).take cs.length = cs1 := by rw [← hl]; simp
  refine .inr (.inr ⟨_, xs, rfl, by rw [hl]; exact Nat.le_refl _, app_get, h, ?_, ?_⟩)
  · rw [e]
    exact hc
  · rw [e, ← hl]
    exact q
theorem set_lo {cs : List Cel} {n : Nat} {c : Cel} (h : c.loD cs.length = true) : ∀ x ∈ cs.set n c, x ∈ cs ∨ x.loD cs.length = true := fun x hx => by
  rcases List.mem_or_eq_of_mem_set hx with h1 | rfl
  · exact .inl h1
  · exact .inr h
theorem trim_back2 {cs cs' : List Cel} {Q : D → List Cel → Prop} {d : D} (hc : ∀ c ∈ cs'.take cs.length, c ∈ cs ∨ c.loD cs.length = true) (hl : loD cs.length d = true) (q : Q d (cs'.take cs.length)) : FinD cs Q d cs' := .inr (.inl ⟨hl, hc, q⟩)
end
end DL
namespace DL
open PySem PySem.Spec PyProof.Rows L2
open Evl (Ex)

/-! ### a field that is there already -/
def ixF (f : Str) : List Str → Option Nat
  | [] => none
  | n :: ns => if n = f then some 0 else (ixF f ns).map (· + 1)
theorem putF_upd {f : Str} {v : V} : ∀ {gs : List (Str × V)} {i : Nat}, ixF f (gs.map (·.1)) = some i → (putF f v gs).map (·.1) = gs.map (·.1) ∧ (putF f v gs).map (·.2) = (gs.map (·.2)).set i v
  | [], _, h => by cases h
  | (g, w) :: gs, i, h => by
    have h' : (if g = f then some 0 else (ixF f (gs.map (·.1))).map (· + 1)) = some i := h
    have e : putF f v ((g, w) :: gs) = if g = f then (g, v) :: gs else (g, w) :: putF f v gs := rfl
    rw [e]
    by_cases q : g = f
    · rw [if_pos q] at h' ⊢
      cases h'
      exact ⟨rfl, rfl⟩
    · rw [if_neg q] at h' ⊢
      rw [Option.map_eq_some_iff] at h'
      obtain ⟨j, hj, rfl⟩ := h'
      obtain ⟨h1, h2⟩ := putF_upd (v := v) hj
      exact ⟨by rw [List.map_cons, h1]; rfl, by rw [List.map_cons, h2]; rfl⟩
theorem RAll.setAt {K : PySem.W.Frag} {W : Wd} {vs : List V} {ds : List D} {v : V} {d : D} (r : RAll K W vs ds) (r1 : R K W v d) (i : Nat) : RAll K W (vs.set i v) (ds.set i d) := RAll.set r1 i r
/-- a store to a field: what is left to show -/
def updF (C : Addr) (f : Str) (o v : D) (e : En) (P : En → Prop) : Prop := ∃ n ns xs i, o = .cell n ∧ e.cs[n]? = some (.ins C ns xs) ∧ ns.length < 900 ∧ ixF f ns = some i ∧ P { e with cs := e.cs.set n (.ins C ns (xs.set i v)) }
section
variable {K : PySem.W.Frag} {W W0 : Wd} {H : Hp} {σ : L2.St} {e : En} {C : Addr} {f : Str} {o d : D} {P : En → Prop} {w v : V}
theorem updF_ok (S : Sd K W H σ e) (ro : R K W w o) (rv : R K W v d) (h : updF C f o d e P) : ∃ a dx gs, w = .ref a ∧ H a = some (.ins C dx gs) ∧ gs.length < 1000 ∧ ∃ e', P e' ∧ Sd K W (upd H a (.ins C dx (putF f v gs))) σ e' := by
  obtain ⟨n, ns, xs, i, rfl, hc, hl, hi, p⟩ := h
  cases ro with
  | cell hm =>
    obtain ⟨dx, gs, h1, h2, h3⟩ := S.ok.cl _ _ _ hm hc
    have hgl : gs.length = ns.length := by rw [← h2, List.length_map]
    have hi' : ixF f (gs.map (·.1)) = some i := by rw [h2]; exact hi
    obtain ⟨k1, k2⟩ := putF_upd (v := v) hi'
    refine ⟨_, dx, gs, rfl, h1, by omega, _, p, S.ok.setC hm hc (fun z => nomatch z) ⟨dx, _, upd_same, by rw [k1, h2], ?_⟩, S.sl⟩
    rw [k2]
    exact h3.setAt rv i
end
def sFldU (C : Addr) (f : Str) (to tv : DE) : DS := fun P e => tv e fun v e1 => to e1 fun o e2 => updF C f o v e2 P.nx
def sFldA (C : Addr) (f : Str) (q : D → D → DE) (to tv : DE) : DS := fun P e => to e fun o e1 => ∃ ns xs x, insD e1.cs o = some (C, ns, xs) ∧ getF f ns xs = some x ∧ tv e1 fun y e2 => q x y e2 fun z e3 => updF C f o z e3 P.nx
/-- a target, by data -/
abbrev DG := D → En → (En → Prop) → Prop
def lG (K : PySem.W.Frag) (B : Bs) (t : DG) : TG := fun v σ H Q => ∃ W e d P, B.p W ∧ Sd K W H σ e ∧ R K W v d ∧ t d e P ∧ ∀ e' W' H' σ', P e' → W.le W' → Sd K W' H' σ' e' → Q σ' H'
abbrev DGs := List D → En → (En → Prop) → Prop
def lGs (K : PySem.W.Frag) (B : Bs) (t : DGs) : TGs := fun vs σ H Q => ∃ W e ds P, B.p W ∧ Sd K W H σ e ∧ RAll K W vs ds ∧ t ds e P ∧ ∀ e' W' H' σ', P e' → W.le W' → Sd K W' H' σ' e' → Q σ' H'
theorem PG.imp {X : Cx} {tg : Expr} {t t' : TG} (h : PG X tg t) (i : ∀ v σ H Q, t' v σ H Q → t v σ H Q) : PG X tg t' := ⟨fun pins s σ H v u Q I r w => h.run pins s σ H v u Q I r (i v σ H Q w)⟩
theorem PGs.imp {X : Cx} {tg : List Expr} {t t' : TGs} (h : PGs X tg t) (i : ∀ v σ H Q, t' v σ H Q → t v σ H Q) : PGs X tg t' := ⟨fun pins s σ H v u Q I r w => h.run pins s σ H v u Q I r (i v σ H Q w)⟩
def gN (i : Nat) : DG := fun d e P => P { e with sl := e.sl.set i (some d) }
def gF (C : Addr) (f : Str) (to : DE) : DG := fun d e P => to e fun o e1 => updF C f o d e1 P
def gZ : DGs := fun ds e P => ds = [] ∧ P e
def gC (t : DG) (u : DGs) : DGs := fun ds e P => ∃ x xs, ds = x :: xs ∧ t x e fun e1 => u xs e1 P
def gT (n : Nat) (u : DGs) : DG := fun d e P => ∃ xs, d = .tup xs ∧ xs.length = n ∧ u xs e P
def sAsgG (t : DE) (g : DG) : DS := fun P e => t e fun d e1 => g d e1 P.nx
/-- two ints added in place -/
def qAddI : D → D → DE := fun x y e P => ∃ i j, x = .int i ∧ y = .int j ∧ P (.int (i + j)) e
section
variable {X : Cx} {B : Bs} {o ex tg : Expr} {te tv to : DE} {C : Addr} {f : Str} {pos pos' tpos : Pos} {ta : TE}
theorem ds_fldU (c : Cls X.K C) (n : NoAttr X.K C f) (ho : PE X o (lE X.K B te)) (hv : PE X ex (lE X.K B tv)) (hs : swapsWith ex (some (.Attribute o f pos')) pos.line X.env = pure false := by rfl) :
    PS X (.Assign [.Attribute o f pos'] ex pos) (lS X.K B (sFldU C f te tv)) := PS.imp (ps_fld ho hv hs) fun E σ H h => by
  obtain ⟨W, e, P, bl, S, h, cv⟩ := lS_un h
  refine ⟨W, e, _, bl, S, h, fun d e1 W1 H1 v t1 l1 S1 r1 => ⟨W1, e1, _, B.up bl l1, S1, t1, fun ob e2 W2 H2 w t2 l2 S2 r2 => ?_⟩⟩
  obtain ⟨a, dx, gs, rfl, h1, h2, e', p, S'⟩ := updF_ok S2 r2 (R.mono l2 _ _ r1) t2
  exact ⟨a, C, dx, gs, rfl, h1, c, n, h2, cv.nx _ _ _ _ p (l1.tr l2) S'⟩
theorem ds_fldA {op : Operator} {rd : V → V → Hp → VK → Prop} {q : D → D → DE} (c : Cls X.K C) (n : NoAttr X.K C f) (ho : PE X o (lE X.K B te)) (hv : PE X ex (lE X.K B tv)) (hop : InOp X op rd) (hq : OpD X.K rd q) :
    PS X (.AugAssign (.Attribute o f tpos) op ex pos) (lS X.K B (sFldA C f q te tv)) := PS.imp (ps_fldaug ho hv hop) fun E σ H h => by
  obtain ⟨W, e, P, bl, S, h, cv⟩ := lS_un h
  refine ⟨W, e, _, bl, S, h, fun ob e1 W1 H1 w t1 l1 S1 r1 => ?_⟩
  obtain ⟨ns, xs, x, hi, hx, t1⟩ := t1
  obtain ⟨a, dx, gs, rfl, h1, h2, h3⟩ := S1.ok.ins r1 hi
  obtain ⟨v, hv', rv⟩ := RAll.fld h2 h3 hx
  refine ⟨a, C, dx, gs, v, rfl, h1, c, n, hv', W1, e1, _, B.up bl l1, S1, t1, fun y e2 W2 H2 u t2 l2 S2 r2 => ?_⟩
  refine hq W2 H2 σ e2 v u x y _ _ S2 (R.mono l2 _ _ rv) r2 t2 fun z e3 W3 H3 zv t3 l3 S3 r3 => ?_
  obtain ⟨a', dx', gs', ea, h1', h2', e', p, S'⟩ := updF_ok S3 (R.mono (l2.tr l3) _ _ r1) r3 t3
  cases ea
  exact ⟨dx', gs', h1', h2', cv.nx _ _ _ _ p ((l1.tr l2).tr l3) S'⟩
theorem dg_name {i : Nat} {x : Str} (hN : X.N.Nodup) (hi : X.N[i]? = some x) (hx : Loc X.env.scope x) (hf : X.fn x = true ∨ X.env.scope.names.lookup x = some .local := by first | exact .inl rfl | exact .inr rfl | assumption) : PG X (.Name x pos) (lG X.K B (gN i)) :=
  PG.imp (pg_name hN hi hx hf) fun v σ H Q ⟨W, e, d, P, bl, S, r, p, k⟩ => k _ W H _ p W.le_refl ⟨S.ok, S.sl.set r⟩
/-- the field of an instance, a target -/
def gFldV (K : PySem.W.Frag) (ta : TE) (f : Str) : TG := fun y σ H Q => ta σ H fun x H2 => ∃ a C dx fs, x = .ref a ∧ H2 a = some (.ins C dx fs) ∧ Cls K C ∧ NoAttr K C f ∧ fs.length < 1000 ∧ Q σ (upd H2 a (.ins C dx (putF f y fs)))
theorem pg_fld (ha : PE X o ta) (hs : ∀ v, assign (.Attribute o f pos) X.env v = (do
      let ov ← holding [v] (eval o X.env)
      standAt pos.atName
      holding [v, ov] (setAttr ov f v)
      release [v, ov] []) := by intro _; rfl) : PG X (.Attribute o f pos) (gFldV X.K ta f) := by
  refine ⟨fun pins s σ H v u Q I r h => ?_⟩
  rw [hs]
  refine wpAny_bind (wpAny_holding (thn (ha.run pins s σ H _ I h) fun ov s1 ⟨x, H1, I1, r1, q1⟩ => ?_))
  obtain ⟨a, C, dx, fs, rfl, ea, c, n, l, q⟩ := q1
  obtain rfl : ov = Value.ref a := r1
  refine wpAny_bind (wpAny_standAt (wpAny_bind (wpAny_holding ?_)))
  exact setattr_ok I1 ea c n l r fun s3 I3 => wpAny_release ⟨σ, _, I3, q⟩
theorem dg_fld (c : Cls X.K C) (n : NoAttr X.K C f) (ho : PE X o (lE X.K B to)) (hs : ∀ v, assign (.Attribute o f pos) X.env v = (do
      let ov ← holding [v] (eval o X.env)
      standAt pos.atName
      holding [v, ov] (setAttr ov f v)
      release [v, ov] []) := by intro _; rfl) : PG X (.Attribute o f pos) (lG X.K B (gF C f to)) :=
  PG.imp (pg_fld ho hs) fun v σ H Q ⟨W, e, d, P, bl, S, r, t, k⟩ => ⟨W, e, _, bl, S, t, fun ob e1 W1 H1 w t1 l1 S1 r1 => by
    obtain ⟨a, dx, gs, rfl, h1, h2, e', p, S'⟩ := updF_ok S1 r1 (R.mono l1 _ _ r) t1
    exact ⟨a, C, dx, gs, rfl, h1, c, n, h2, k _ _ _ _ p l1 S'⟩⟩
theorem dg_nil : PGs X [] (lGs X.K B gZ) := PGs.imp pgs_nil fun vs σ H Q ⟨W, e, ds, P, bl, S, r, ⟨hd, p⟩, k⟩ => by
  subst hd
  cases r
  exact ⟨rfl, k _ _ _ _ p W.le_refl S⟩
theorem dg_cons {e0 : Expr} {es : List Expr} {t : DG} {u : DGs} (h1 : PG X e0 (lG X.K B t)) (h2 : PGs X es (lGs X.K B u))
    (hs : (assignEach (e0 :: es) X.env).map (·.2) = assign e0 X.env :: (assignEach es X.env).map (·.2) := by rfl) : PGs X (e0 :: es) (lGs X.K B (gC t u)) :=
  PGs.imp (pgs_cons h1 h2 hs) fun vs σ H Q ⟨W, e, ds, P, bl, S, r, ⟨x, xs, hd, p⟩, k⟩ => by
    subst hd
    cases r with
    | cons r1 r2 => exact ⟨_, _, rfl, W, e, _, _, bl, S, r1, p, fun e' W' H' σ' p' l' S' => ⟨W', e', _, _, B.up bl l', S', RAll.mono l' _ _ r2, p', fun e2 W2 H2 σ2 p2 l2 S2 => k _ _ _ _ p2 (l'.tr l2) S2⟩⟩
theorem dg_tup {es : List Expr} {k : Nat} {u : DGs} {n : Nat} (hc : X.calm = true) (h : PGs X es (lGs X.K B u))
    (hn : (assignEach es X.env).length = n := by rfl) (hst : (assignEach es X.env).findIdx? (·.1) = none := by rfl) : PG X (.Tuple es k pos) (lG X.K B (gT n u)) :=
  PG.imp (pg_tup hc h hn hst) fun v σ H Q ⟨W, e, d, P, bl, S, r, ⟨xs, hd, hl, p⟩, kk⟩ => by
    subst hd
    cases r with
    | tup h1 h2 => exact ⟨_, _, rfl, Evl.ex_t S.ok.ex h1, by rw [h2.length]; exact hl, W, e, _, _, bl, S, h2, p, kk⟩
theorem ds_asgG {g : DG} (he : PE X ex (lE X.K B te)) (hg : PG X tg (lG X.K B g)) (hs : swapsWithSole [tg] ex pos.line X.env = pure false := by rfl) (hw : swappedStores [tg] ex X.env = pure none := by rfl)
    (h1 : (assignEach [tg] X.env).map (·.2) = [assign tg X.env] := by rfl) : PS X (.Assign [tg] ex pos) (lS X.K B (sAsgG te g)) := PS.imp (ps_asg he hg hs hw h1) fun E σ H h => by
  obtain ⟨W, e, P, bl, S, h, c⟩ := lS_un h
  exact ⟨W, e, _, bl, S, h, fun d e1 W1 H1 v t1 l1 S1 r1 => ⟨W1, e1, d, _, B.up bl l1, S1, r1, t1, fun e' W' H' σ' p l S' => c.nx _ _ _ _ p (l1.tr l) S'⟩⟩
theorem od_inadd {K : PySem.W.Frag} : OpD K rAdd qAddI := fun W H σ e x y d1 d2 P Q S r1 r2 t k => by
  obtain ⟨i, j, rfl, rfl, p⟩ := t
  exact ⟨i, j, r1.int_inv, r2.int_inv, k _ _ _ _ _ p W.le_refl S (.int _)⟩
end
end DL
namespace DL
open PySem PySem.Spec PyProof.Rows L2
open Evl (Ex)

/-! ### operators of own classes -/
section
variable {K : PySem.W.Frag} {C C2 : Addr} {nm : String}
theorem NoSl.looks {M : Model} {h : Heap} (n : NoSl K C nm) (X : K.In h) : PySem.W.Looks M h (fillsNumberSlot (.ref C) nm) false := by
  intro A Q E s k q
  obtain ⟨cd, hc, hm⟩ := n.cd
  unfold fillsNumberSlot
  refine wpAny_bind ((PySem.W.looks_clsIn X hc).andThen (f := fun cd => pure cd.mro) .now A _ E s k ?_)
  rw [hm, List.anyM_cons]
  refine wpAny_bind ?_
  show wpAny M A (List.anyM _ [PySem.dunder nm, dunderR nm]) _ _ _
  rw [List.anyM_cons]
  refine wpAny_bind (wpAny_bind (PySem.W.looks_findIn X n.a A _ E s k ?_))
  dsimp only
  refine wpAny_pure ?_
  rw [if_neg (show ¬ (false = true) by simp), List.anyM_cons]
  refine wpAny_bind (wpAny_bind (PySem.W.looks_findIn X n.b A _ E s k ?_))
  dsimp only
  refine wpAny_pure ?_
  rw [if_neg (show ¬ (false = true) by simp)]
  refine wpAny_pure ?_
  rw [if_neg (show ¬ (false = true) by simp), List.anyM_cons]
  refine wpAny_bind (wpAny_bind (PySem.W.looks_findIn X n.oa A _ E s k (wpAny_bind (PySem.W.looks_findIn X n.ob A _ E s k ?_))))
  refine wpAny_pure ?_
  simp only [Option.isSome_none, Bool.false_and, Bool.or_self]
  rw [if_neg (show ¬ (false = true) by simp)]
  exact wpAny_pure q
end
section
variable {prog : Program} {w : World} {A : Around} {E : Value → Shared → Prop} {s : Shared} {K : PySem.W.Frag} {x C C2 L f : Addr} {h₀ : Heap} {m : Str → Option Value} {ox : Obj} {od : Option Obj}
open PySem.W in
/-- an operator of an own class, the other one of a class that has none -/
theorem binop_two {op : Operator} {b : Value} {Q : Value → Shared → Prop} (F : Fr h₀ L s.heap m) (X₀ : K.In h₀) (I : InstAt s.heap x ox C od) (hb : Looks (model prog w) s.heap (typeOf b) (.ref C2)) (n2 : NoSl K C2 op.info.2) (hc : selfFirst K C = true)
    (hs : findIn K (.ref C) (PySem.dunder op.info.2) = some (some (.ref f))) (hf : isFn K (.ref f) = true)
    (h : wpAny (model prog w) A (call (.ref f) [.ref x, b]) (PySem.W.CmpBack Q) E s) : wpAny (model prog w) A (binaryOp op (.ref x) b) Q E s := by
  have X := X₀.keeps F.keep
  obtain ⟨cd, hcd, hm⟩ := any_some hc
  obtain ⟨rest, hm⟩ : ∃ rest, cd.mro = .ref C :: rest := by
    cases q : cd.mro with
    | nil => rw [q] at hm; cases hm
    | cons a r => rw [q] at hm; exact ⟨r, by rw [List.head?_cons] at hm; cases (beq_iff_eq.mp hm); rfl⟩
  by_cases hcc : C = C2
  · subst hcc
    exact binop_K F X₀ I hb hc hs hf h
  have hne : (Value.ref C == Value.ref C2) = false := beq_eq_false_iff_ne.mpr fun e => hcc (by cases e; rfl)
  unfold binaryOp
  refine wpAny_holding (wpAny_bind ?_)
  unfold binaryOp1
  refine wpAny_bind (I.type.here (wpAny_bind (hb.here (wpAny_bind ((fills_K X hcd hm hs).here ?_)))))
  simp only [hne, Bool.false_eq_true, if_false]
  refine wpAny_bind ((n2.looks X).here ?_)
  simp only [Bool.and_false, Bool.false_eq_true, if_false, Bool.false_and]
  refine wpAny_bind (wpAny_pure ?_)
  simp only [Bool.and_false, Bool.false_eq_true, if_false, Bool.false_and]
  refine wpAny_bind (m := tryMethod (.ref x) _ b) ?_
  unfold tryMethod
  refine wpAny_bind (special_fn X I hs (beq_iff_eq.mp hf) (wpAny_mono h (fun v s' hv => ?_) fun _ _ e => e))
  cases v <;> first | exact hv.elim | exact wpAny_pure (wpAny_pure (wpAny_pure hv))
end
/-- a call of two values, the second one an instance of C2 -/
def rTwo (K : PySem.W.Frag) (C C2 : Addr) (sp : Spc) : R2 := fun x y H Q => ∃ a dx gs b dy gt, x = .ref a ∧ H a = some (.ins C dx gs) ∧ y = .ref b ∧ H b = some (.ins C2 dy gt) ∧ spD K sp [.ref a, .ref b] H Q E0
def qTwo (C C2 : Addr) (sp : Spc) : D → D → DE := fun d y e P => (∃ ns xs, insD e.cs d = some (C, ns, xs)) ∧ (∃ ns xs, insD e.cs y = some (C2, ns, xs)) ∧ sp [d, y] e.cs fun r cs' => P r { e with cs := cs' }
theorem od_two {K : PySem.W.Frag} {C C2 : Addr} {sp : Spc} : OpD K (rTwo K C C2 sp) (qTwo C C2 sp) := fun W H σ e x y d1 d2 P Q S r1 r2 ⟨⟨n1, x1, i1⟩, ⟨n2, x2, i2⟩, t⟩ k => by
  obtain ⟨a, dx, gs, rfl, h1, h2, h3⟩ := S.ok.ins r1 i1
  obtain ⟨b, dy, gt, rfl, h1', h2', h3'⟩ := S.ok.ins r2 i2
  exact ⟨a, dx, gs, b, dy, gt, rfl, h1, rfl, h1', W, e.cs, [d1, d2], _, S.ok, .cons r1 (.cons r2 .nil), t, fun d cs' W' H' v p l ok r' => k _ _ _ _ _ p l ⟨ok, S.sl.mono l⟩ r'⟩
section
variable {X : Cx} {C C2 fn : Addr} {k : Nat} {ps : List Str} {sp : Spc}
theorem cmp_eq {op : CmpOp} (h1 : op ≠ .Is) (h2 : op ≠ .IsNot) (h3 : op ≠ .In) (h4 : op ≠ .NotIn) (a b : Value) : compareOp op a b = richCompare op a b := by
  cases op <;> first | rfl | exact absurd rfl ‹_›
theorem op_cmpO {op : CmpOp} (G : Good X.prog X.w X.K X.mg X.base k fn ps sp) (hr : Room k X.A) (hu : X.A.units < cLine) (sm : Sm X.K C (cmpInfo op).2.1 fn) (hop : ∀ a b, compareOp op a b = richCompare op a b := by intros; rfl) : OpR X (compareOp op) (rTwo X.K C C sp) := by
  rintro pins s σ H x y v u Q I rx ry ⟨a, dx, gs, b, dy, gt, rfl, ha, rfl, hb, h⟩
  obtain ⟨fd, F, bi, kp⟩ := G
  cases (show v = Value.ref a from rx)
  cases (show u = Value.ref b from ry)
  obtain ⟨od, J⟩ := Inv.inst I ha
  obtain ⟨od2, J2⟩ := Inv.inst I hb
  obtain ⟨m, hF⟩ := I.fr
  rw [hop]
  refine PySem.W.cmp_K hu hF I.ok.mod.kin J J2.type (by unfold PySem.W.notFirst; simp) sm.at_ sm.fn (wpAny_mono (run_in (us := [.ref a, .ref b]) (vs := [V.ref a, V.ref b]) F bi hr I.env0 I (.cons rfl (.cons rfl .nil)) h) (fun v s' z => ?_) fun _ _ z => z)
  obtain ⟨v', H', I', rv, q⟩ := z
  exact RelV.cmp rv (P := EP X pins σ Q) ⟨v', H', I', rv, q⟩
theorem op_binO {op : Operator} (G : Good X.prog X.w X.K X.mg X.base k fn ps sp) (hr : Room k X.A) (sm : Sm X.K C (PySem.dunder op.info.2) fn) (hc : PySem.W.selfFirst X.K C = true) : OpR X (binaryOp op) (rTwo X.K C C sp) := by
  rintro pins s σ H x y v u Q I rx ry ⟨a, dx, gs, b, dy, gt, rfl, ha, rfl, hb, h⟩
  obtain ⟨fd, F, bi, kp⟩ := G
  cases (show v = Value.ref a from rx)
  cases (show u = Value.ref b from ry)
  obtain ⟨od, J⟩ := Inv.inst I ha
  obtain ⟨od2, J2⟩ := Inv.inst I hb
  obtain ⟨m, hF⟩ := I.fr
  refine PySem.W.binop_K hF I.ok.mod.kin J J2.type hc sm.at_ sm.fn (wpAny_mono (run_in (us := [.ref a, .ref b]) (vs := [V.ref a, V.ref b]) F bi hr I.env0 I (.cons rfl (.cons rfl .nil)) h) (fun v s' z => ?_) fun _ _ z => z)
  obtain ⟨v', H', I', rv, q⟩ := z
  exact RelV.cmp rv (P := EP X pins σ Q) ⟨v', H', I', rv, q⟩
theorem op_binT {op : Operator} (G : Good X.prog X.w X.K X.mg X.base k fn ps sp) (hr : Room k X.A) (sm : Sm X.K C (PySem.dunder op.info.2) fn) (hc : PySem.W.selfFirst X.K C = true) (n2 : NoSl X.K C2 op.info.2) : OpR X (binaryOp op) (rTwo X.K C C2 sp) := by
  rintro pins s σ H x y v u Q I rx ry ⟨a, dx, gs, b, dy, gt, rfl, ha, rfl, hb, h⟩
  obtain ⟨fd, F, bi, kp⟩ := G
  cases (show v = Value.ref a from rx)
  cases (show u = Value.ref b from ry)
  obtain ⟨od, J⟩ := Inv.inst I ha
  obtain ⟨od2, J2⟩ := Inv.inst I hb
  obtain ⟨m, hF⟩ := I.fr
  refine binop_two hF I.ok.mod.kin J J2.type n2 hc sm.at_ sm.fn (wpAny_mono (run_in (us := [.ref a, .ref b]) (vs := [V.ref a, V.ref b]) F bi hr I.env0 I (.cons rfl (.cons rfl .nil)) h) (fun v s' z => ?_) fun _ _ z => z)
  obtain ⟨v', H', I', rv, q⟩ := z
  exact RelV.cmp rv (P := EP X pins σ Q) ⟨v', H', I', rv, q⟩
end

/-! ### o[i] = v of an own class -/
section
variable {X : Cx} {B : Bs} {C fn : Addr} {k : Nat} {ps : List Str} {sp : Spc} {o i ex : Expr} {to ti tv : DE} {pos p2 : Pos}
def rSetO (K : PySem.W.Frag) (C : Addr) (sp : Spc) : TSet := fun x i v H Q => ∃ a dx gs, x = .ref a ∧ H a = some (.ins C dx gs) ∧ spD K sp [.ref a, i, v] H (fun _ H' => Q H') E0
theorem set_own (G : Good X.prog X.w X.K X.mg X.base k fn ps sp) (hr : Room k X.A) (sm : Sm X.K C "__setitem__" fn) (hq : PySem.W.noSeq X.K C = true) : PSet X (rSetO X.K C sp) := by
  rintro pins s σ H x i v ov iv u Q I rx ri rv ⟨a, dx, gs, rfl, ha, h⟩
  obtain ⟨fd, F, bi, kp⟩ := G
  cases (show ov = Value.ref a from rx)
  obtain ⟨od, J⟩ := Inv.inst I ha
  obtain ⟨m, hF⟩ := I.fr
  have KX := I.kIn
  unfold setItem sequenceKey callSpecial?
  refine wpAny_holding (wpAny_bind (wpAny_bind (J.type.here ?_)))
  refine wpAny_bind ((PySem.W.anyM_none KX hq).here ?_)
  rw [if_pos (show (!false) = true from rfl)]
  refine wpAny_pure (wpAny_bind ?_)
  refine wpAny_mono (PySem.W.special_fn (Q := fun r s' => r ≠ none ∧ ∃ H', Inv X pins σ H' s' ∧ Q H') KX J sm.at_ (beq_iff_eq.mp sm.fn) (wpAny_mono (run_in (us := [.ref a, iv, u]) (vs := [V.ref a, i, v]) F bi hr I.env0 I (.cons rfl (.cons ri (.cons rv .nil))) h) (fun v s' z => ?_) fun _ _ z => z)) (fun r s' z => ?_) fun _ _ z => z
  · obtain ⟨v', H', I', rv, q⟩ := z
    exact ⟨(fun z => nomatch z), H', I', q⟩
  · obtain ⟨h1, H', I', q⟩ := z
    cases r with
    | none => exact absurd rfl h1
    | some _ => exact wpAny_pure ⟨H', I', q⟩
def sSetO (C : Addr) (sp : Spc) (tv to ti : DE) : DS := fun P e => tv e fun v e1 => to e1 fun o e2 => ti e2 fun i e3 => (∃ ns xs, insD e3.cs o = some (C, ns, xs)) ∧ sp [o, i, v] e3.cs fun _ cs' => P.nx { e3 with cs := cs' }
theorem ds_setO (G : Good X.prog X.w X.K X.mg X.base k fn ps sp) (hr : Room k X.A) (sm : Sm X.K C "__setitem__" fn) (hq : PySem.W.noSeq X.K C = true) (hv : PE X ex (lE X.K B tv)) (ho : PE X o (lE X.K B to)) (hi : PE X i (lE X.K B ti))
    (ha : ∀ v, assign (.Subscript o i p2) X.env v = (do
      let ov ← holding [v] (eval o X.env)
      let iv ← holding [v, ov] (eval i X.env)
      standAt p2
      holding [v, ov, iv] (setItem ov iv v)
      release [v, ov, iv] []) := by intro _; rfl)
    (hs : swapsWithSole [.Subscript o i p2] ex pos.line X.env = pure false := by rfl) (hw : swappedStores [.Subscript o i p2] ex X.env = pure none := by rfl)
    (h1 : (assignEach [.Subscript o i p2] X.env).map (·.2) = [assign (.Subscript o i p2) X.env] := by rfl) : PS X (.Assign [.Subscript o i p2] ex pos) (lS X.K B (sSetO C sp tv to ti)) := PS.imp (ps_asg hv (pg_sub ho hi (set_own G hr sm hq) ha) hs hw h1) fun E σ H h => by
  obtain ⟨W, e, P, bl, S, h, c⟩ := lS_un h
  refine ⟨W, e, _, bl, S, h, fun d e1 W1 H1 v t1 l1 S1 r1 => ⟨W1, e1, _, B.up bl l1, S1, t1, fun ob e2 W2 H2 w t2 l2 S2 r2 => ⟨W2, e2, _, B.up bl (l1.tr l2), S2, t2, fun ix e3 W3 H3 x t3 l3 S3 r3 => ?_⟩⟩⟩
  obtain ⟨⟨ns, xs, hi⟩, t3⟩ := t3
  have r23 := R.mono l3 _ _ r2
  obtain ⟨a, dx, gs, rfl, h1', h2', h3'⟩ := S3.ok.ins r23 hi
  exact ⟨a, dx, gs, rfl, h1', W3, e3.cs, [ob, ix, d], _, S3.ok, .cons r23 (.cons r3 (.cons (R.mono (l2.tr l3) _ _ r1) .nil)), t3, fun d' cs' W' H' v' p l ok r' => c.nx _ _ _ _ p (((l1.tr l2).tr l3).tr l) ⟨ok, S3.sl.mono l⟩⟩
end

/-! ### isinstance with an own class -/
def qIsiC (C : Addr) : List D → DE
  | [d, .raw (.ref C')] => fun e P => C' = C ∧ (∃ ns xs, insD e.cs d = some (C, ns, xs)) ∧ P (.bl true) e
  | _ => fun _ _ => False
theorem cd_isiC {K : PySem.W.Frag} {C : Addr} : CallD K (fun xs H Q => ∃ a dx fs, xs = [.ref a, .ref C] ∧ H a = some (.ins C dx fs) ∧ Q (.bl true) H) (qIsiC C) := by
  intro W H σ e vs ds P Q S r t k
  unfold qIsiC at t
  split at t
  · obtain ⟨v, v2, rfl, r1, r2⟩ := r.two
    obtain ⟨rfl, ⟨ns, xs, hi⟩, p⟩ := t
    obtain ⟨a, dx, gs, rfl, h1, _⟩ := S.ok.ins r1 hi
    cases r2
    exact ⟨a, dx, gs, rfl, h1, k _ _ _ _ _ p W.le_refl S (.bl _)⟩
  · exact t.elim
theorem de_cls {X : Cx} {B : Bs} {x : Str} {C : Addr} {pos : Pos} (hg : Gl X x) (hm : X.mg x = some (.ref C)) (hd : (x == ("__debug__" : Str)) = false := by decide) : PE X (.Name x pos) (lE X.K B (eC (.raw (.ref C)))) :=
  de_glob hg hm (show RelV (.ref C) (.ref C) from rfl) (fun _ => .raw _) hd
end DL
namespace DL
open PySem PySem.Spec PyProof.Rows L2
open Evl (Ex)

/-! ### in, not in -/
def flD : D → Bool
  | .non => true
  | .bl _ => true
  | .int _ => true
  | .str _ => true
  | _ => false
def eqF : D → D → Bool
  | .non, .non => true
  | .bl a, .bl b => a == b
  | .bl a, .int b => (if a then 1 else 0) == b
  | .int a, .bl b => a == (if b then 1 else 0)
  | .int a, .int b => a == b
  | .str a, .str b => a == b
  | _, _ => false
def inF (x : D) (xs : List D) : Bool := xs.any fun y => eqF y x
section
variable {K : PySem.W.Frag} {W : Wd}
theorem R.flat {v : V} {d : D} (r : R K W v d) (h : flD d = true) : flatV v = true := by
  cases d <;> first | (cases h; done) | (cases r; rfl)
theorem R.eqv {v w : V} {d d' : D} (r : R K W v d) (r' : R K W w d') (h : flD d = true) (h' : flD d' = true) : eqV v w = eqF d d' := by
  cases d <;> first | (cases h; done) | (cases d' <;> first | (cases h'; done) | (cases r; cases r'; rfl))
theorem RAll.flat : ∀ {vs : List V} {ds : List D}, RAll K W vs ds → ds.all flD = true → vs.all flatV = true
  | _, _, .nil, _ => rfl
  | _, _, .cons r t, h => by
    rw [List.all_cons, Bool.and_eq_true] at h
    rw [List.all_cons, r.flat h.1, RAll.flat t h.2] <;> rfl
theorem RAll.inv {x : V} {d : D} (r : R K W x d) (h : flD d = true) : ∀ {vs : List V} {ds : List D}, RAll K W vs ds → ds.all flD = true → inV x vs = inF d ds
  | _, _, .nil, _ => rfl
  | _, _, .cons r1 t, h1 => by
    rw [List.all_cons, Bool.and_eq_true] at h1
    have ih := RAll.inv r h t h1.2
    unfold inV inF at ih ⊢
    rw [List.any_cons, List.any_cons, R.eqv r1 r h1.1 h, ih]
end
def qIn (neg : Bool) : D → D → DE := fun x y e P => (flD x = true ∧ ∃ xs, seqD e.cs y = some xs ∧ xs.all flD = true ∧ P (.bl (if neg then !inF x xs else inF x xs)) e) ∨
  ∃ ys, drf e.cs y = .lst ys ∧ shp (drf e.cs x) = true ∧ shp (.lst ys) = true ∧ P (.bl (if neg then !((toPs ys).any fun z => PyData.eqv z (toP (drf e.cs x))) else (toPs ys).any fun z => PyData.eqv z (toP (drf e.cs x)))) e
def rInA (K : PySem.W.Frag) (neg : Bool) : R2 := fun x y H Q => rIn K neg x y H Q ∨ (if neg then rNotInD K else rInD K) x y H Q
section
variable {X : Cx} {K : PySem.W.Frag}
theorem op_inA (hu : X.A.units + 65 < cLine) : OpR X (compareOp .In) (rInA X.K false) := op_in_seq.or (op_inD hu)
theorem op_notInA (hu : X.A.units + 65 < cLine) : OpR X (compareOp .NotIn) (rInA X.K true) := op_notIn_seq.or (op_notInD hu)
theorem od_in {neg : Bool} : OpD K (rInA K neg) (qIn neg) := by
  intro W H σ e x y d1 d2 P Q S r1 r2 t k
  rcases t with ⟨h1, xs, h2, h3, t⟩ | ⟨ys, h1, h2, h3, t⟩
  · obtain ⟨a, vs, rfl, h4, h5⟩ := S.ok.seq r2 h2
    refine .inl ⟨a, vs, rfl, h4, r1.flat h1, h5.flat h3, ?_⟩
    have := k _ _ _ _ (.bl (if neg then !inF d1 xs else inF d1 xs)) t W.le_refl S (.bl _)
    rw [RAll.inv r1 h1 h5 h3]
    exact this
  · obtain ⟨o1, s1⟩ := shp_and h2
    obtain ⟨o2, s2⟩ := shp_and h3
    have hx := S.ok.dp r1 o1
    have hy := S.ok.dp r2 (by rw [h1]; exact o2)
    rw [h1] at hy
    cases neg with
    | false => exact .inr ⟨_, _, hx, hy, s1, s2, k _ _ _ _ _ t W.le_refl S (.bl _)⟩
    | true => exact .inr ⟨_, _, hx, hy, s1, s2, k _ _ _ _ _ t W.le_refl S (.bl _)⟩
end
theorem units5 {k : Nat} {A : Around} (r : Room k A) : A.units + 65 < cLine := by have := r.un; omega
end DL
namespace DL
open PySem PySem.Spec PyProof.Rows L2
open Evl (Ex)

/-! ### enumerate, zip -/
/-- the list at a stays ds as long as G -/
def Stay (K : PySem.W.Frag) (W : Wd) (a : Addr) (G : List Cel → Prop) (ds : List D) : Prop := ∀ W' H σ e, W.sub W' → Sd K W' H σ e → G e.cs → ∃ vs, SqL K H a vs ∧ RAll K W' vs ds
def itL (d : D) (e : En) (P : List D → (List Cel → Prop) → En → Prop) : Prop :=
  (∃ xs, fixL d = some xs ∧ P xs anyC e) ∨ ∃ n xs, d = .cell n ∧ e.cs[n]? = some (.lst xs) ∧ P xs (fun cs => cs[n]? = some (.lst xs)) e
theorem v_itLF {d : D} {e : En} {P : List D → (List Cel → Prop) → En → Prop} (h : ∃ xs, fixL d = some xs ∧ P xs anyC e) : itL d e P := .inl h
theorem v_itLC {n : Nat} {e : En} {P : List D → (List Cel → Prop) → En → Prop} (h : ∃ xs, e.cs[n]? = some (.lst xs) ∧ P xs (fun cs => cs[n]? = some (.lst xs)) e) : itL (.cell n) e P := let ⟨xs, h1, h2⟩ := h; .inr ⟨n, xs, rfl, h1, h2⟩
section
variable {K : PySem.W.Frag} {W : Wd} {H : Hp} {σ : L2.St} {e : En}
theorem itL_stay {d : D} {v : V} {P : List D → (List Cel → Prop) → En → Prop} (S : Sd K W H σ e) (r : R K W v d) (h : itL d e P) : ∃ a xs G, v = .ref a ∧ (∃ vs, SqL K H a vs ∧ RAll K W vs xs) ∧ Stay K W a G xs ∧ P xs G e := by
  rcases h with ⟨xs, hx, p⟩ | ⟨n, xs, rfl, hc, p⟩
  · cases r <;> simp only [fixL] at hx <;> cases hx
    · rename_i a vs h1 h2
      exact ⟨a, _, _, rfl, ⟨vs, SqL.of (S.ok.ex _ _ h1), h2⟩, fun W' H' σ' e' l S' _ => ⟨vs, SqL.of (S'.ok.ex _ _ (l.1 _ _ h1)), RAll.mono' l _ _ h2⟩, p⟩
    · rename_i a vs h1 h2
      exact ⟨a, _, _, rfl, ⟨vs, Evl.ex_l S.ok.ex h1, h2⟩, fun W' H' σ' e' l S' _ => ⟨vs, Evl.ex_l (l.1.trans S'.ok.ex) h1, RAll.mono' l _ _ h2⟩, p⟩
  · cases r with
    | cell hm =>
      obtain ⟨vs, h1, h2⟩ := S.ok.cellL hm hc
      refine ⟨_, xs, _, rfl, ⟨vs, SqL.of h1, h2⟩, fun W' H' σ' e' l S' g => ?_, p⟩
      obtain ⟨more, e2⟩ := l.2
      have := (List.getElem?_eq_some_iff.mp hm).1
      obtain ⟨vs', h1', h2'⟩ := S'.ok.cellL (show W'.m[n]? = some _ by rw [e2, List.getElem?_append_left this]; exact hm) g
      exact ⟨vs', SqL.of h1', h2'⟩
def enumD : Nat → List D → List D
  | _, [] => []
  | k, x :: xs => .tup [.int (k : Int), x] :: enumD (k + 1) xs
theorem enumD_len : ∀ (k : Nat) (xs : List D), (enumD k xs).length = xs.length
  | _, [] => rfl
  | k, x :: xs => congrArg (· + 1) (enumD_len (k + 1) xs)
theorem enumD_get {d : D} : ∀ {k : Nat} {xs : List D} {i : Nat}, (enumD k xs)[i]? = some d → ∃ x, xs[i]? = some x ∧ d = .tup [.int ((k + i : Nat) : Int), x]
  | _, [], _, h => by simp [enumD] at h
  | k, x :: xs, 0, h => by
    simp [enumD] at h
    exact ⟨x, by simp, h.symm⟩
  | k, x :: xs, i + 1, h => by
    have h' : (enumD (k + 1) xs)[i]? = some d := by simpa [enumD] using h
    obtain ⟨y, h1, h2⟩ := enumD_get h'
    exact ⟨y, by simpa using h1, by rw [h2, show k + 1 + i = k + (i + 1) by omega]⟩
def zipD : List D → List D → List D
  | x :: xs, y :: ys => .tup [x, y] :: zipD xs ys
  | _, _ => []
theorem zipD_len : ∀ xs ys : List D, (zipD xs ys).length = min xs.length ys.length
  | [], _ => by simp [zipD]
  | _ :: _, [] => by simp [zipD]
  | x :: xs, y :: ys => by
    have := zipD_len xs ys
    simp only [zipD, List.length_cons]
    omega
theorem zipD_get {d : D} : ∀ {xs ys : List D} {i : Nat}, (zipD xs ys)[i]? = some d → ∃ x y, xs[i]? = some x ∧ ys[i]? = some y ∧ d = .tup [x, y]
  | [], _, _, h => by simp [zipD] at h
  | _ :: _, [], _, h => by simp [zipD] at h
  | x :: xs, y :: ys, 0, h => by
    simp [zipD] at h
    exact ⟨x, y, by simp, by simp, h.symm⟩
  | x :: xs, y :: ys, i + 1, h => by
    have h' : (zipD xs ys)[i]? = some d := by simpa [zipD] using h
    obtain ⟨a, b, h1, h2, h3⟩ := zipD_get h'
    exact ⟨a, b, by simpa using h1, by simpa using h2, h3⟩
theorem new2 (S : Sd K W H σ e) {T : Addr} {x y : V} {a b : D} (hT : H T = none) (r1 : R K W x a) (r2 : R K W y b) : ∃ W', W.le W' ∧ Sd K W' (upd H T (.tup [x, y])) σ e ∧ R K W' (.ref T) (.tup [a, b]) := by
  obtain ⟨ok, l⟩ := S.ok.newF (o := .tup [x, y]) hT
  exact ⟨_, l, ⟨ok, S.sl.mono l⟩, .tup (SqT.of upd_same) (.cons (R.mono l _ _ r1) (.cons (R.mono l _ _ r2) .nil))⟩
theorem wk_enum {a : Addr} {G : List Cel → Prop} {ds : List D} (s : Stay K W a G ds) : Wk K W (Ite K a) G (enumD 0 ds) where
  go := fun i W' H σ e l S g hi => by
    obtain ⟨vs, h1, h2⟩ := s W' H σ e l S g
    rw [enumD_len] at hi
    have hi' : i < vs.length := by rw [h2.length]; exact hi
    exact ⟨vs, vs[i], h1, by simp [hi']⟩
  yld := fun i W' H σ e x H' d l S g hd y => by
    obtain ⟨vs, h1, h2⟩ := s W' H σ e l S g
    obtain ⟨T, x', rfl, hT, rfl, y⟩ := y
    obtain ⟨z, hz, rfl⟩ := enumD_get hd
    obtain ⟨v, hv, rv⟩ := h2.get hz
    have e1 := y vs h1
    rw [hv] at e1
    cases e1
    rw [Nat.zero_add]
    exact new2 S hT (.int _) rv
  stop := fun i W' H σ e l S g hi => by
    obtain ⟨vs, h1, h2⟩ := s W' H σ e l S g
    rw [enumD_len] at hi
    exact ⟨vs, h1, by rw [h2.length]; exact hi⟩
theorem wk_zip {a b : Addr} {G G' : List Cel → Prop} {ds ds' : List D} (s : Stay K W a G ds) (s' : Stay K W b G' ds') : Wk K W (Itz K a b) (fun cs => G cs ∧ G' cs) (zipD ds ds') where
  go := fun i W' H σ e l S g hi => by
    obtain ⟨vs, h1, h2⟩ := s W' H σ e l S g.1
    obtain ⟨us, h3, h4⟩ := s' W' H σ e l S g.2
    rw [zipD_len] at hi
    have hi1 : i < vs.length := by rw [h2.length]; omega
    have hi2 : i < us.length := by rw [h4.length]; omega
    exact ⟨vs, us, vs[i], us[i], h1, h3, by simp [hi1], by simp [hi2]⟩
  yld := fun i W' H σ e x H' d l S g hd y => by
    obtain ⟨vs, h1, h2⟩ := s W' H σ e l S g.1
    obtain ⟨us, h3, h4⟩ := s' W' H σ e l S g.2
    obtain ⟨T, x', y', rfl, hT, rfl, q1, q2⟩ := y
    obtain ⟨z, z', hz, hz', rfl⟩ := zipD_get hd
    obtain ⟨v, hv, rv⟩ := h2.get hz
    obtain ⟨u, hu, ru⟩ := h4.get hz'
    have e1 := q1 vs h1
    rw [hv] at e1
    cases e1
    have e2 := q2 us h3
    rw [hu] at e2
    cases e2
    exact new2 S hT rv ru
  stop := fun i W' H σ e l S g hi => by
    obtain ⟨vs, h1, h2⟩ := s W' H σ e l S g.1
    obtain ⟨us, h3, h4⟩ := s' W' H σ e l S g.2
    rw [zipD_len] at hi
    exact ⟨vs, us, h1, h3, by rw [h2.length, h4.length]; omega⟩
theorem wk_zipT {a b : Addr} {vs us : List V} {ds ds' : List D} (h1 : SqT K W.F a vs) (h2 : RAll K W vs ds) (h3 : SqT K W.F b us) (h4 : RAll K W us ds') : Wk K W (RZ.ItzT K a b) anyC (zipD ds ds') where
  go := fun i W' H σ e l S g hi => by
    rw [zipD_len] at hi
    have hi1 : i < vs.length := by rw [h2.length]; omega
    have hi2 : i < us.length := by rw [h4.length]; omega
    exact ⟨vs, us, vs[i], us[i], Evl.ex_t (l.1.trans S.ok.ex) h1, Evl.ex_t (l.1.trans S.ok.ex) h3, by simp [hi1], by simp [hi2]⟩
  yld := fun i W' H σ e x H' d l S g hd y => by
    obtain ⟨T, x', y', rfl, hT, rfl, q1, q2⟩ := y
    obtain ⟨z, z', hz, hz', rfl⟩ := zipD_get hd
    obtain ⟨v, hv, rv⟩ := h2.get hz
    obtain ⟨u, hu, ru⟩ := h4.get hz'
    have e1 := q1 vs (Evl.ex_t (l.1.trans S.ok.ex) h1)
    rw [hv] at e1
    cases e1
    have e2 := q2 us (Evl.ex_t (l.1.trans S.ok.ex) h3)
    rw [hu] at e2
    cases e2
    exact new2 S hT (R.mono' l _ _ rv) (R.mono' l _ _ ru)
  stop := fun i W' H σ e l S g hi => by
    rw [zipD_len] at hi
    exact ⟨vs, us, Evl.ex_t (l.1.trans S.ok.ex) h1, Evl.ex_t (l.1.trans S.ok.ex) h3, by rw [h2.length, h4.length]; omega⟩
end
def iEn (t : DA) : DI := fun e P => t e fun ds e1 => ∃ d, ds = [d] ∧ itL d e1 fun xs G e2 => P (enumD 0 xs) G e2
def iZp (t : DA) : DI := fun e P => t e fun ds e1 => ∃ x y, ds = [x, y] ∧ ((itL x e1 fun xs G _ => itL y e1 fun ys G' _ => P (zipD xs ys) (fun cs => G cs ∧ G' cs) e1) ∨ ∃ xs ys, x = .tup xs ∧ y = .tup ys ∧ P (zipD xs ys) anyC e1)
section
variable {X : Cx} {B : Bs} {ex e2 : Expr} {ta : DA} {p pos tpos : Pos} {elts : List Expr} {kk : Nat}
theorem di_enum (hg : Gl X "enumerate") (hm : X.mg "enumerate" = none) (ha : PA X [ex] (lA X.K B ta)) (hs : starEach [ex] X.env = [(false, eval ex X.env)] := by rfl) : PI X (.Tuple elts kk tpos) (.Call (.Name "enumerate" p) [ex] [] pos) (lI X.K B (iEn ta)) :=
  PI.imp (pi_enum hg hm ha hs) fun σ H Q ⟨W, e, P, bl, S, t, k⟩ => ⟨W, e, _, bl, S, t, fun ds e1 W1 H1 vs ⟨d, hd, p⟩ l S1 r => by
    subst hd
    obtain ⟨v, rfl, r1⟩ := r.one
    obtain ⟨a, xs, G, rfl, ⟨us, h1, h2⟩, st, q⟩ := itL_stay S1 r1 p
    exact ⟨a, us, rfl, h1, k _ _ _ _ _ _ q l S1 (wk_enum st)⟩⟩
theorem di_zip (hg : Gl X "zip") (hm : X.mg "zip" = none) (ha : PA X [ex, e2] (lA X.K B ta)) (hs : starEach [ex, e2] X.env = (false, eval ex X.env) :: starEach [e2] X.env := by rfl) (hpl : (backTo pos (starEach [e2] X.env)).any (·.1) = false := by rfl) :
    PI X (.Tuple elts kk tpos) (.Call (.Name "zip" p) [ex, e2] [] pos) (lI X.K B (iZp ta)) :=
  PI.imp (RZ.pi_zipA hg hm ha hs hpl) fun σ H Q ⟨W, e, P, bl, S, t, k⟩ => ⟨W, e, _, bl, S, t, fun ds e1 W1 H1 vs ⟨x, y, hd, p⟩ l S1 r => by
    subst hd
    obtain ⟨v, v2, rfl, r1, r2⟩ := r.two
    rcases p with p | ⟨xs, ys, rfl, rfl, p⟩
    · obtain ⟨a, xs, G, rfl, ⟨us, h1, h2⟩, st, q⟩ := itL_stay S1 r1 p
      obtain ⟨b, ys, G', rfl, ⟨ws, h3, h4⟩, st', q'⟩ := itL_stay S1 r2 q
      exact ⟨a, b, us, ws, rfl, .inl ⟨h1, h3, k _ _ _ _ _ _ q' l S1 (wk_zip st st')⟩⟩
    · cases r1 with
      | tup h1 h2 =>
        cases r2 with
        | tup h3 h4 => exact ⟨_, _, _, _, rfl, .inr ⟨Evl.ex_t S1.ok.ex h1, Evl.ex_t S1.ok.ex h3, k _ _ _ _ _ _ p l S1 (wk_zipT h1 h2 h3 h4)⟩⟩⟩
end
/-- a tuple of the module -/
theorem de_tupG {X : Cx} {B : Bs} {x : Str} {a : Addr} {vs : List V} {ds : List D} {pos : Pos} (hg : Gl X x) (hm : X.mg x = some (.ref a)) (h : ∀ H, SqT X.K H a vs) (r : ∀ W, RAll X.K W vs ds) (hd : (x == ("__debug__" : Str)) = false := by decide) :
    PE X (.Name x pos) (lE X.K B (eC (.tup ds))) := de_glob hg hm (show RelV (.ref a) (.ref a) from rfl) (fun W => .tup (h W.F) (r W)) hd
end DL
namespace DL
open PySem PySem.Spec PyProof.Rows L2
open Evl (Ex)

/-! ### more steps -/
section
variable {e : En} {P : D → En → Prop} {x y d : D} {a b : Int} {te tv to : DE} {Po' : Po} {C : Addr} {f : Str} {PE' : En → Prop} {k : Bool}
theorem v_isN0 (p : P (.bl true) e) : qIs .non .non e P := ⟨rfl, rfl, p⟩
theorem v_isN1 (h : isN x = false ∧ notRaw x = true ∧ P (.bl false) e) : qIs x .non e P := by
  obtain ⟨h1, h2, p⟩ := h
  rw [← h1] at p
  cases x <;> first | (cases h1; done) | (cases h2; done) | exact ⟨rfl, rfl, p⟩
theorem v_isnN0 (p : P (.bl false) e) : qIsNot .non .non e P := ⟨rfl, rfl, p⟩
theorem v_isnN1 (h : isN x = false ∧ notRaw x = true ∧ P (.bl true) e) : qIsNot x .non e P := by
  obtain ⟨h1, h2, p⟩ := h
  cases x <;> first | (cases h1; done) | (cases h2; done) | exact ⟨rfl, rfl, p⟩
def noInt : D → Bool
  | .int _ => false
  | _ => true
theorem v_eqP (h : (noInt x || noInt y) = true ∧ shp (drf e.cs x) = true ∧ shp (drf e.cs y) = true ∧ PyData.eqv (toP (drf e.cs x)) (toP (drf e.cs y)) = k ∧ P (.bl k) e) : qEq x y e P := by
  obtain ⟨h0, h1, h2, h3, p⟩ := h
  have q : shp (drf e.cs x) = true ∧ shp (drf e.cs y) = true ∧ P (.bl (PyData.eqv (toP (drf e.cs x)) (toP (drf e.cs y)))) e := ⟨h1, h2, by rw [h3]; exact p⟩
  unfold qEq
  split
  · exact nomatch (show false = true from h0)
  · exact q
theorem v_neP (h : (noInt x || noInt y) = true ∧ shp (drf e.cs x) = true ∧ shp (drf e.cs y) = true ∧ PyData.eqv (toP (drf e.cs x)) (toP (drf e.cs y)) = k ∧ P (.bl (!k)) e) : qNe x y e P := by
  obtain ⟨h0, h1, h2, h3, p⟩ := h
  have q : shp (drf e.cs x) = true ∧ shp (drf e.cs y) = true ∧ P (.bl (!PyData.eqv (toP (drf e.cs x)) (toP (drf e.cs y)))) e := ⟨h1, h2, by rw [h3]; exact p⟩
  unfold qNe
  split
  · exact nomatch (show false = true from h0)
  · exact q
theorem v_eqPT (h : (noInt x || noInt y) = true ∧ shp (drf e.cs x) = true ∧ shp (drf e.cs y) = true ∧ PyData.eqv (toP (drf e.cs x)) (toP (drf e.cs y)) = true ∧ P (.bl true) e) : qEq x y e P := v_eqP h
theorem v_eqPF (h : (noInt x || noInt y) = true ∧ shp (drf e.cs x) = true ∧ shp (drf e.cs y) = true ∧ PyData.eqv (toP (drf e.cs x)) (toP (drf e.cs y)) = false ∧ P (.bl false) e) : qEq x y e P := v_eqP h
theorem v_nePT (h : (noInt x || noInt y) = true ∧ shp (drf e.cs x) = true ∧ shp (drf e.cs y) = true ∧ PyData.eqv (toP (drf e.cs x)) (toP (drf e.cs y)) = true ∧ P (.bl false) e) : qNe x y e P := v_neP h
theorem v_nePF (h : (noInt x || noInt y) = true ∧ shp (drf e.cs x) = true ∧ shp (drf e.cs y) = true ∧ PyData.eqv (toP (drf e.cs x)) (toP (drf e.cs y)) = false ∧ P (.bl true) e) : qNe x y e P := v_neP h
def nd : D → Bool
  | .cell _ => false
  | .fro _ => false
  | _ => true
theorem nd_drf {cs : List Cel} {d : D} (h : nd d = true) : drf cs d = d := by cases d <;> first | rfl | cases h
theorem v_eqN (h : (nd x = true ∧ nd y = true ∧ (noInt x || noInt y) = true) ∧ shp x = true ∧ shp y = true ∧ PyData.eqv (toP x) (toP y) = k ∧ P (.bl k) e) : qEq x y e P := by
  obtain ⟨⟨h1, h2, h3⟩, h4, h5, h6, p⟩ := h
  exact v_eqP ⟨h3, by rw [nd_drf h1]; exact h4, by rw [nd_drf h2]; exact h5, by rw [nd_drf h1, nd_drf h2]; exact h6, p⟩
theorem v_neN (h : (nd x = true ∧ nd y = true ∧ (noInt x || noInt y) = true) ∧ shp x = true ∧ shp y = true ∧ PyData.eqv (toP x) (toP y) = k ∧ P (.bl (!k)) e) : qNe x y e P := by
  obtain ⟨⟨h1, h2, h3⟩, h4, h5, h6, p⟩ := h
  exact v_neP ⟨h3, by rw [nd_drf h1]; exact h4, by rw [nd_drf h2]; exact h5, by rw [nd_drf h1, nd_drf h2]; exact h6, p⟩
theorem v_eqNT (h : (nd x = true ∧ nd y = true ∧ (noInt x || noInt y) = true) ∧ shp x = true ∧ shp y = true ∧ PyData.eqv (toP x) (toP y) = true ∧ P (.bl true) e) : qEq x y e P := v_eqN h
theorem v_eqNF (h : (nd x = true ∧ nd y = true ∧ (noInt x || noInt y) = true) ∧ shp x = true ∧ shp y = true ∧ PyData.eqv (toP x) (toP y) = false ∧ P (.bl false) e) : qEq x y e P := v_eqN h
theorem v_neNT (h : (nd x = true ∧ nd y = true ∧ (noInt x || noInt y) = true) ∧ shp x = true ∧ shp y = true ∧ PyData.eqv (toP x) (toP y) = true ∧ P (.bl false) e) : qNe x y e P := v_neN h
theorem v_neNF (h : (nd x = true ∧ nd y = true ∧ (noInt x || noInt y) = true) ∧ shp x = true ∧ shp y = true ∧ PyData.eqv (toP x) (toP y) = false ∧ P (.bl true) e) : qNe x y e P := v_neN h
theorem ins_cell {cs : List Cel} {n : Nat} {ns : List Str} {xs : List D} (h : cs[n]? = some (.ins C ns xs)) : insD cs (.cell n) = some (C, ns, xs) := by
  show (match cs[n]? with | some (.ins C ns xs) => some (C, ns, xs) | _ => none) = some (C, ns, xs)
  rw [h]
theorem v_asgG {g : DG} (h : te e fun d e1 => g d e1 Po'.nx) : sAsgG te g Po' e := h
theorem v_gN {i : Nat} (h : PE' { e with sl := e.sl.set i (some d) }) : gN i d e PE' := h
theorem v_gF (h : to e fun o e1 => updF C f o d e1 PE') : gF C f to d e PE' := h
theorem v_gZ (h : PE' e) : gZ [] e PE' := ⟨rfl, h⟩
theorem v_gC {t : DG} {u : DGs} {xs : List D} (h : t x e fun e1 => u xs e1 PE') : gC t u (x :: xs) e PE' := ⟨_, _, rfl, h⟩
theorem v_gT {n : Nat} {u : DGs} {xs : List D} (h : xs.length = n ∧ u xs e PE') : gT n u (.tup xs) e PE' := ⟨_, rfl, h⟩
theorem v_updF (h : ∃ n ns xs i, x = .cell n ∧ e.cs[n]? = some (.ins C ns xs) ∧ ns.length < 900 ∧ ixF f ns = some i ∧ PE' { e with cs := e.cs.set n (.ins C ns (xs.set i d)) }) : updF C f x d e PE' := h
theorem v_fldU (h : tv e fun v e1 => to e1 fun o e2 => updF C f o v e2 Po'.nx) : sFldU C f to tv Po' e := h
theorem v_fldA {q : D → D → DE} (h : to e fun o e1 => ∃ ns xs x, insD e1.cs o = some (C, ns, xs) ∧ getF f ns xs = some x ∧ tv e1 fun y e2 => q x y e2 fun z e3 => updF C f o z e3 Po'.nx) : sFldA C f q to tv Po' e := h
theorem v_addII (p : P (.int (a + b)) e) : qAddI (.int a) (.int b) e P := ⟨a, b, rfl, rfl, p⟩
theorem v_methX {cs : List Cel} {m : Str} {R : Prop} (h : (∃ ns xs, insD cs d = some (C, ns, xs) ∧ m ∉ ns) ∧ R) : (∃ ns xs, insD cs d = some (C, ns, xs) ∧ m ∉ ns) ∧ R := h
theorem v_while {c : DT} {tb : DS} (h : ∃ I : Nat → En → Prop, (∃ m, I m e) ∧ ∀ m e1, I m e1 → c e1 fun b e2 => if b = true then tb (Po'.lp fun e3 => ∃ m', m' < m ∧ I m' e3) e2 else Po'.nx e2) : sWhile c tb Po' e := h
theorem v_setO {ti : DE} {sp : Spc} (h : tv e fun v e1 => to e1 fun o e2 => ti e2 fun i e3 => (∃ ns xs, insD e3.cs o = some (C, ns, xs)) ∧ sp [o, i, v] e3.cs fun _ cs' => Po'.nx { e3 with cs := cs' }) : sSetO C sp tv to ti Po' e := h
theorem v_en {t : DA} {Q : List D → (List Cel → Prop) → En → Prop} (h : t e fun ds e1 => ∃ d, ds = [d] ∧ itL d e1 fun xs G e2 => Q (enumD 0 xs) G e2) : iEn t e Q := h
theorem v_oneD {PQ : D → Prop} (h : PQ d) : ∃ d', [d] = [d'] ∧ PQ d' := ⟨d, rfl, h⟩
theorem v_addL {o : Bool} {xs ys : List D} (h : xs.length + ys.length ≤ 100000 ∧ newL o (xs ++ ys) e P) : qAdd o (.lst xs) (.lst ys) e P := ⟨xs, ys, rfl, rfl, Nat.le_trans h.1 (by decide), h.2⟩
end
end DL
namespace DL
open PySem PySem.Spec PyProof.Rows L2
open Evl (Ex)

/-! ### data that may be compared -/
structure Sh (n : Nat) (d : D) : Prop where
  ok : okD d = true
  lay : (toP d).canLay0 = true
  dep : (toP d).depth ≤ n
structure Shs (n : Nat) (ds : List D) : Prop where
  ok : okDs ds = true
  lay : PyData.canLayAll0 (toPs ds) = true
  dep : PyData.depthAll (toPs ds) ≤ n
theorem Sh.shp {n : Nat} {d : D} (h : Sh n d) (hn : n ≤ 64 := by decide) : shp d = true := by
  unfold DL.shp SeqAt.shaped
  rw [h.ok, h.lay, decide_eq_true (Nat.le_trans h.dep hn)] <;> rfl
theorem Sh.mono {n m : Nat} {d : D} (h : Sh n d) (hn : n ≤ m) : Sh m d := ⟨h.ok, h.lay, Nat.le_trans h.dep hn⟩
theorem Sh.int (i : Int) : Sh 0 (.int i) := ⟨rfl, rfl, by show (PyData.int _).depth ≤ 0; simp [PyData.depth]⟩
theorem Sh.bl (b : Bool) : Sh 0 (.bl b) := ⟨rfl, rfl, by show (PyData.bool _).depth ≤ 0; simp [PyData.depth]⟩
theorem Sh.non : Sh 0 .non := ⟨rfl, rfl, by show (PyData.none).depth ≤ 0; simp [PyData.depth]⟩
theorem Sh.str {s : Str} (h : (PyData.str s).canLay0 = true) : Sh 0 (.str s) := ⟨rfl, h, by show (PyData.str _).depth ≤ 0; simp [PyData.depth]⟩
theorem Sh.ofE {α : Type} [DecidableEq α] {enc : α → D} {n : Nat} (h : EqE enc n) (a : α) : Sh n (enc a) := ⟨h.ok a, h.lay a, h.dep a⟩
theorem Shs.nil {n : Nat} : Shs n [] := ⟨rfl, rfl, Nat.zero_le _⟩
theorem Shs.cons {n : Nat} {d : D} {ds : List D} (h : Sh n d) (t : Shs n ds) : Shs n (d :: ds) := by
  refine ⟨?_, ?_, ?_⟩
  · show (okD d && okDs ds) = true
    rw [h.ok, t.ok] <;> rfl
  · show ((toP d).canLay0 && PyData.canLayAll0 (toPs ds)) = true
    rw [h.lay, t.lay] <;> rfl
  · have h1 := h.dep
    have h2 := t.dep
    show PyData.depthAll (toP d :: toPs ds) ≤ n
    simp only [PyData.depthAll]
    omega
theorem Shs.all {n : Nat} : ∀ {ds : List D}, (∀ d ∈ ds, Sh n d) → Shs n ds
  | [], _ => .nil
  | d :: ds, h => .cons (h d (List.mem_cons_self ..)) (Shs.all fun x hx => h x (List.mem_cons_of_mem _ hx))
theorem Sh.tup {n : Nat} {ds : List D} (h : Shs n ds) : Sh (n + 1) (.tup ds) := ⟨h.ok, by show (PyData.tuple (toPs ds)).canLay0 = true; simp only [PyData.canLay0]; exact h.lay, by have := h.dep; show (PyData.tuple (toPs ds)).depth ≤ n + 1; simp only [PyData.depth]; omega⟩
theorem Sh.lst {n : Nat} {ds : List D} (h : Shs n ds) : Sh (n + 1) (.lst ds) := ⟨h.ok, by show (PyData.list (toPs ds)).canLay0 = true; simp only [PyData.canLay0]; exact h.lay, by have := h.dep; show (PyData.list (toPs ds)).depth ≤ n + 1; simp only [PyData.depth]; omega⟩
mutual
theorem eqv_refl : ∀ d : PyData, d.canLay0 = true → PyData.eqv d d = true
  | .none, _ => by simp only [PyData.eqv]
  | .bool b, _ => by simp only [PyData.eqv, beq_self_eq_true]
  | .int i, _ => by simp only [PyData.eqv, beq_self_eq_true]
  | .str s, _ => by simp only [PyData.eqv, beq_self_eq_true]
  | .list xs, h => by
    simp only [PyData.canLay0] at h
    simp only [PyData.eqv]
    exact eqvs_refl xs h
  | .tuple xs, h => by
    simp only [PyData.canLay0] at h
    simp only [PyData.eqv]
    exact eqvs_refl xs h
  | .dict _, h => by simp only [PyData.canLay0] at h; cases h
theorem eqvs_refl : ∀ ds : List PyData, PyData.canLayAll0 ds = true → PyData.eqvAll ds ds = true
  | [], _ => by simp only [PyData.eqvAll]
  | d :: ds, h => by
    simp only [PyData.canLayAll0, Bool.and_eq_true] at h
    simp only [PyData.eqvAll, eqv_refl d h.1, eqvs_refl ds h.2, Bool.and_self]
end
section
variable {e : En} {P : D → En → Prop} {x y d : D} {n : Nat}
theorem drf_lk {cs : List Cel} {d : D} {xs : List D} (h : lk cs d = some xs) : drf cs d = .lst xs := by
  cases d with
  | cell n => exact drf_cell (lk_cell_iff h)
  | lst ys => cases h; rfl
  | fro ys => cases h; rfl
  | _ => cases h
theorem v_tgX {tg : Tg} {d : D} {sl : List (Option D)} {PQ : List (Option D) → Prop} (h : ∃ sl', setTg tg d sl = some sl' ∧ PQ sl') : ∃ sl', setTg tg d sl = some sl' ∧ PQ sl' := h
theorem app_set' {cs : List Cel} {c0 c : Cel} : (cs ++ [c0]).set cs.length c = cs ++ [c] := by simp
/-- the same data on both sides -/
theorem v_eqS (hx : drf e.cs x = d) (hy : drf e.cs y = d) (h : Sh n d) (p : P (.bl true) e) (hni : (noInt x || noInt y) = true := by rfl) (hn : n ≤ 64 := by decide) : qEq x y e P :=
  v_eqP ⟨hni, by rw [hx]; exact h.shp hn, by rw [hy]; exact h.shp hn, by rw [hx, hy]; exact eqv_refl _ h.lay, p⟩
theorem v_neS (hx : drf e.cs x = d) (hy : drf e.cs y = d) (h : Sh n d) (p : P (.bl false) e) (hni : (noInt x || noInt y) = true := by rfl) (hn : n ≤ 64 := by decide) : qNe x y e P :=
  v_nePT ⟨hni, by rw [hx]; exact h.shp hn, by rw [hy]; exact h.shp hn, by rw [hx, hy]; exact eqv_refl _ h.lay, p⟩
end
end DL
namespace DL
open PySem PySem.Spec PyProof.Rows L2
open Evl (Ex)

/-! ### an own class beside what is none of it -/
theorem mro_ty : ∀ a ∈ tysB, (PySem.fastBuiltinMro a).isSome = true := by decide +kernel
theorem subIn_ty {K : PySem.W.Frag} {C : Addr} {a : String} (h : a ∈ tysB) : PySem.W.subIn K (.type a) (.ref C) = some false := by
  have q := mro_ty a h
  show (PySem.fastBuiltinMro a).map (·.contains (Value.ref C)) = some false
  unfold PySem.fastBuiltinMro at q ⊢
  cases e : PySem.fastFind? a with
  | none => rw [e] at q; cases q
  | some m =>
    show some ((m.mro.map Value.type).contains (Value.ref C)) = some false
    rw [Option.some.injEq, Bool.eq_false_iff]
    intro z
    obtain ⟨n, _, e⟩ := List.mem_map.mp (List.contains_iff_mem.mp z)
    cases e
theorem nf_ty {K : PySem.W.Frag} {C : Addr} {a : String} (h : a ∈ tysB) : PySem.W.notFirst K C (.type a) = true := by
  unfold PySem.W.notFirst
  rw [subIn_ty h]
  simp
def rCmpA (K : PySem.W.Frag) (C : Addr) (sp : Spc) : R2 := fun x y H Q => ∃ a dx gs t, x = .ref a ∧ H a = some (.ins C dx gs) ∧ TyX K H y (.type t) ∧ t ∈ tysB ∧ spD K sp [.ref a, y] H Q E0
def qCmpA (C : Addr) (sp : Spc) : D → D → DE := fun d y e P => (∃ ns xs, insD e.cs d = some (C, ns, xs)) ∧ ((∃ ns xs, insD e.cs y = some (C, ns, xs)) ∨ ∃ t, tyN e.cs y = some t) ∧ sp [d, y] e.cs fun r cs' => P r { e with cs := cs' }
theorem od_cmpA {K : PySem.W.Frag} {C : Addr} {sp : Spc} : OpD K (fun x y H Q => rTwo K C C sp x y H Q ∨ rCmpA K C sp x y H Q) (qCmpA C sp) := fun W H σ e x y d1 d2 P Q S r1 r2 ⟨⟨n1, x1, i1⟩, h2, t⟩ k => by
  rcases h2 with h2 | ⟨t', h2⟩
  · exact .inl (od_two W H σ e x y d1 d2 P Q S r1 r2 ⟨⟨n1, x1, i1⟩, h2, t⟩ k)
  · obtain ⟨a, dx, gs, rfl, h1, h2', h3⟩ := S.ok.ins r1 i1
    obtain ⟨ty, mem⟩ := S.ok.ty r2 h2
    exact .inr ⟨a, dx, gs, t', rfl, h1, ty, mem, W, e.cs, [d1, d2], _, S.ok, .cons r1 (.cons r2 .nil), t, fun d cs' W' H' v p l ok r' => k _ _ _ _ _ p l ⟨ok, S.sl.mono l⟩ r'⟩
section
variable {X : Cx} {C fn : Addr} {k : Nat} {ps : List Str} {sp : Spc}
theorem op_cmpT {op : CmpOp} (G : Good X.prog X.w X.K X.mg X.base k fn ps sp) (hr : Room k X.A) (hu : X.A.units < cLine) (sm : Sm X.K C (cmpInfo op).2.1 fn) (hop : ∀ a b, compareOp op a b = richCompare op a b := by intros; rfl) : OpR X (compareOp op) (rCmpA X.K C sp) := by
  rintro pins s σ H x y v u Q I rx ry ⟨a, dx, gs, t, rfl, ha, ty, mem, h⟩
  obtain ⟨fd, F, bi, kp⟩ := G
  cases (show v = Value.ref a from rx)
  obtain ⟨od, J⟩ := Inv.inst I ha
  obtain ⟨m, hF⟩ := I.fr
  obtain ⟨Ph, Z, hz, _⟩ := kit_of I ry ty
  rw [hop]
  refine PySem.W.cmp_K hu hF I.ok.mod.kin J (Z.ty _ _ I.kIn hz) (nf_ty mem) sm.at_ sm.fn (wpAny_mono (run_in (us := [.ref a, u]) (vs := [V.ref a, y]) F bi hr I.env0 I (.cons rfl (.cons ry .nil)) h) (fun v s' z => ?_) fun _ _ z => z)
  obtain ⟨v', H', I', rv, q⟩ := z
  exact RelV.cmp rv (P := EP X pins σ Q) ⟨v', H', I', rv, q⟩
theorem op_cmpA {op : CmpOp} (G : Good X.prog X.w X.K X.mg X.base k fn ps sp) (hr : Room k X.A) (hu : X.A.units < cLine) (sm : Sm X.K C (cmpInfo op).2.1 fn) (hop : ∀ a b, compareOp op a b = richCompare op a b := by intros; rfl) :
    OpR X (compareOp op) (fun x y H Q => rTwo X.K C C sp x y H Q ∨ rCmpA X.K C sp x y H Q) := (op_cmpO G hr hu sm hop).or (op_cmpT G hr hu sm hop)
end
def qIsiA (C : Addr) : List D → DE
  | [d, .raw (.ref C')] => fun e P => C' = C ∧ (((∃ ns xs, insD e.cs d = some (C, ns, xs)) ∧ P (.bl true) e) ∨ ((∃ t, tyN e.cs d = some t) ∧ P (.bl false) e))
  | _ => fun _ _ => False
theorem cd_isiA {K : PySem.W.Frag} {C : Addr} (kt : ∀ a ∈ tysB, PySem.W.kitOne K (.type a) (.ref C) = some false) : CallD K (fun xs H Q => (∃ a dx fs, xs = [.ref a, .ref C] ∧ H a = some (.ins C dx fs) ∧ Q (.bl true) H) ∨ rIsi K xs H Q) (qIsiA C) := by
  intro W H σ e vs ds P Q S r t k
  unfold qIsiA at t
  split at t
  · obtain ⟨v, v2, rfl, r1, r2⟩ := r.two
    obtain ⟨rfl, t⟩ := t
    rcases t with ⟨⟨ns, xs, hi⟩, p⟩ | ⟨⟨a, ea⟩, p⟩
    · obtain ⟨a, dx, gs, rfl, h1, _⟩ := S.ok.ins r1 hi
      cases r2
      exact .inl ⟨a, dx, gs, rfl, h1, k _ _ _ _ _ p W.le_refl S (.bl _)⟩
    · obtain ⟨ty, mem⟩ := S.ok.ty r1 ea
      cases r2
      exact .inr ⟨v, .ref _, _, _, _, rfl, .own _, ty, kt _ mem, k _ _ _ _ _ p W.le_refl S (.bl _)⟩
  · exact t.elim
theorem v_isAT {C : Addr} {d : D} {e : En} {P : D → En → Prop} (h : ∃ ns xs, insD e.cs d = some (C, ns, xs)) (p : P (.bl true) e) : qIsiA C [d, .raw (.ref C)] e P := ⟨rfl, .inl ⟨h, p⟩⟩
theorem v_isAF {C : Addr} {d : D} {e : En} {P : D → En → Prop} (h : ∃ t, tyN e.cs d = some t) (p : P (.bl false) e) : qIsiA C [d, .raw (.ref C)] e P := ⟨rfl, .inr ⟨h, p⟩⟩

/-! ### minus -/
def eNeg (ta : DE) : DE := fun e P => ta e fun x e1 => ∃ i, x = .int i ∧ P (.int (-i)) e1
section
variable {X : Cx} {B : Bs} {a : Expr} {pos : Pos} {ta : DE}
theorem de_neg (ha : PE X a (lE X.K B ta)) : PE X (.UnaryOp .USub a pos) (lE X.K B (eNeg ta)) :=
  PE.imp (pe_un un_neg ha) fun σ H Q ⟨W, e, P, bl, S, t, k⟩ => ⟨W, e, _, bl, S, t, fun x e1 W1 H1 v ⟨c, ex, h1⟩ l1 S1 r1 => ⟨c, by subst ex; exact r1.int_inv, k _ _ _ _ _ h1 l1 S1 (.int _)⟩⟩
end
theorem v_neg {ta : DE} {e : En} {P : D → En → Prop} (h : ta e fun x e1 => ∃ i, x = .int i ∧ P (.int (-i)) e1) : eNeg ta e P := h
theorem v_oneI {i : Int} {PQ : Int → Prop} (h : PQ i) : ∃ j, D.int i = .int j ∧ PQ j := ⟨i, rfl, h⟩
section
variable {e : En} {P : D → En → Prop}
theorem v_isnB {a b : Bool} (p : P (.bl (!decide (a = b))) e) : qIsNot (.bl a) (.bl b) e P := p
theorem v_isB {a b : Bool} (p : P (.bl (decide (a = b))) e) : qIs (.bl a) (.bl b) e P := p
end
theorem cut_last {α : Type} (f : α → D) (fs : List α) : cutD (fs.map f) none (some (-1)) = (fs.take (fs.length - 1)).map f := by
  unfold cutD
  have h := HT.clip_eq (-1) fs.length fs.length
  rw [if_pos (by decide)] at h
  have h2 : HT.sIx fs.length fs.length (some (-1)) = fs.length - 1 := by omega
  rw [HT.sIx_none, List.length_map, List.drop_zero, h2, ← List.map_take, Nat.sub_zero]
theorem cut_from {α : Type} (f : α → D) (fs : List α) (k : Nat) : cutD (fs.map f) (some (k : Int)) none = (fs.drop k).map f := by
  unfold cutD
  rw [HT.sIx_none, HT.sIx_nat, List.length_map, ← List.map_drop, ← List.map_take]
  congr 1
  rcases Nat.le_total k fs.length with h | h
  · rw [Nat.min_eq_left h, List.take_of_length_le (by simp)]
  · rw [Nat.min_eq_right h, List.drop_eq_nil_of_le (Nat.le_refl _), List.drop_eq_nil_of_le h]
    simp
theorem cut_mid {α : Type} (f : α → D) (fs : List α) (i j : Nat) (h : i ≤ j) (h2 : j ≤ fs.length) : cutD (fs.map f) (some (i : Int)) (some (j : Int)) = ((fs.drop i).take (j - i)).map f := by
  unfold cutD
  rw [HT.sIx_nat, HT.sIx_nat, List.length_map, ← List.map_drop, ← List.map_take, Nat.min_eq_left h2, Nat.min_eq_left (Nat.le_trans h h2)]
theorem atI_end {α : Type} {f : α → D} {xs : List α} {x : α} (h : xs[xs.length - 1]? = some x) : atI (xs.map f) (-1) = some (f x) := by
  have hl := (List.getElem?_eq_some_iff.mp h).1
  have e : ixN (xs.map f).length (-1) = some (xs.length - 1) := by
    unfold ixN
    rw [List.length_map, if_neg (by decide), if_pos (by omega)]
    congr 1
    omega
  unfold atI
  rw [e]
  show (xs.map f)[xs.length - 1]? = some (f x)
  rw [List.getElem?_map, h]
  rfl
end DL
namespace DL
open PySem PySem.Spec PyProof.Rows L2
open Evl (Ex)

/-! ### in, of an own class -/
section
variable {prog : Program} {w : World} {A : Around} {E : Value → Shared → Prop} {s : Shared} {K : PySem.W.Frag} {x C f : Addr} {ox : Obj} {od : Option Obj} {y : Value} {Q : Bool → Shared → Prop}
open PySem.W in
theorem contains_own {M : Model} (X : K.In s.heap) (I : InstAt s.heap x ox C od) (hs : findIn K (.ref C) "__contains__" = some (some (.ref f))) (hf : typeIn K (.ref f) = some (.type "function"))
    (h : wpAny M A (call (.ref f) [.ref x, y]) (fun v s' => ∃ b, v = .bool b ∧ Q b s') E s) : wpAny M A (contains (.ref x) y) Q E s := by
  unfold contains specialOf
  refine wpAny_holding ?_
  refine wpAny_bind (wpAny_bind (I.type.here ((looks_findIn X hs).here ?_)))
  rw [if_neg (show ¬ ((some (Value.ref f) == some Value.none) = true) by simp)]
  unfold callSpecialUnlessNone? specialOf
  refine wpAny_bind (wpAny_bind (wpAny_bind (I.type.here ((looks_findIn X hs).here ?_))))
  refine wpAny_holding (wpAny_bind ((bind_fn X _ hf).here ?_))
  dsimp only
  rw [if_neg (show ¬ ((Value.ref f == Value.none) = true) by simp)]
  refine wpAny_bind (wpAny_mono h (fun v s' hv => ?_) fun _ _ z => z)
  obtain ⟨b, rfl, q⟩ := hv
  exact wpAny_pure (wpAny_truthy_bool q)
end
def isB : D → Prop := fun d => ∃ b, d = .bl b
def rInO (K : PySem.W.Frag) (C : Addr) (sp : Spc) : R2 := fun y x H Q => ∃ a dx gs, x = .ref a ∧ H a = some (.ins C dx gs) ∧ spD K sp [.ref a, y] H (fun v H' => (∃ b, v = .bl b) ∧ Q v H') E0
def qInO (C : Addr) (sp : Spc) : D → D → DE := fun y d e P => (∃ ns xs, insD e.cs d = some (C, ns, xs)) ∧ sp [d, y] e.cs fun r cs' => isB r ∧ P r { e with cs := cs' }
theorem od_inO {K : PySem.W.Frag} {C : Addr} {sp : Spc} : OpD K (rInO K C sp) (qInO C sp) := fun W H σ e x y d1 d2 P Q S r1 r2 ⟨⟨n1, x1, i1⟩, t⟩ k => by
  obtain ⟨a, dx, gs, rfl, h1, h2, h3⟩ := S.ok.ins r2 i1
  exact ⟨a, dx, gs, rfl, h1, W, e.cs, [d2, d1], _, S.ok, .cons r2 (.cons r1 .nil), t, fun d cs' W' H' v ⟨⟨b, hb⟩, p⟩ l ok r' => ⟨⟨b, by subst hb; exact r'.bl_inv⟩, k _ _ _ _ _ p l ⟨ok, S.sl.mono l⟩ r'⟩⟩
theorem op_inO {X : Cx} {C fn : Addr} {k : Nat} {ps : List Str} {sp : Spc} (G : Good X.prog X.w X.K X.mg X.base k fn ps sp) (hr : Room k X.A) (sm : Sm X.K C "__contains__" fn) : OpR X (compareOp .In) (rInO X.K C sp) := by
  rintro pins s σ H y x v u Q I ry rx ⟨a, dx, gs, rfl, ha, h⟩
  obtain ⟨fd, F, bi, kp⟩ := G
  cases (show u = Value.ref a from rx)
  obtain ⟨od, J⟩ := Inv.inst I ha
  show wpAny (model X.prog X.w) X.A ((contains (.ref a) v) >>= fun b => pure (Value.bool b)) _ _ s
  have c : wpAny (model X.prog X.w) X.A (contains (.ref a) v) (fun b s' => EP X pins σ Q (Value.bool b) s') X.xe s := by
    refine contains_own I.kIn J sm.at_ (beq_iff_eq.mp sm.fn) (wpAny_mono (run_in (us := [.ref a, v]) (vs := [V.ref a, y]) F bi hr I.env0 I (.cons rfl (.cons ry .nil)) h) (fun v s' z => ?_) fun _ _ z => z)
    obtain ⟨v', H', I', rv, ⟨b, rfl⟩, q⟩ := z
    cases rv
    exact ⟨b, rfl, .bl b, H', I', rfl, q⟩
  exact wpAny_bind (wpAny_mono c (fun b s' q => wpAny_pure q) fun _ _ z => z)

/-! ### more list methods -/
section
variable {K : PySem.W.Frag}
theorem RAll.eraseIdx {W : Wd} : ∀ {vs : List V} {ds : List D} (k : Nat), RAll K W vs ds → RAll K W (vs.eraseIdx k) (ds.eraseIdx k)
  | _, _, _, .nil => .nil
  | _, _, 0, .cons _ t => t
  | _, _, k + 1, .cons r t => .cons r (RAll.eraseIdx k t)
def qClr : D → List D → DE := fun d ds e P => ∃ n xs, d = .cell n ∧ ds = [] ∧ e.cs[n]? = some (.lst xs) ∧ P .non { e with cs := e.cs.set n (.lst []) }
theorem md_clr : MtD K rClear qClr := by
  rintro W H σ e x vs d ds P Q S r rs ⟨n, xs, rfl, rfl, hc, p⟩ k
  cases rs
  cases r with
  | @cell _ a hm =>
    obtain ⟨vs, h1, h2⟩ := S.ok.cellL hm hc
    refine ⟨a, vs, rfl, rfl, h1, ?_⟩
    exact k _ _ _ _ _ p W.le_refl ⟨S.ok.setC hm hc (fun z => nomatch z) ⟨_, upd_same, .nil⟩, S.sl⟩ .non
/-- xs.pop(i), i from the front -/
def qPopI : D → List D → DE := fun d ds e P => ∃ (n : Nat) (xs : List D) (i : Nat) (y : D), d = .cell n ∧ ds = [.int (i : Nat)] ∧ e.cs[n]? = some (.lst xs) ∧ xs[i]? = some y ∧ i < 1000000 ∧ P y { e with cs := e.cs.set n (.lst (xs.eraseIdx i)) }
theorem md_popI : MtD K rPopAt qPopI := by
  rintro W H σ e x vs d ds P Q S r rs ⟨n, xs, i, y, rfl, rfl, hc, hy, hi, p⟩ k
  obtain ⟨v, rfl, rv⟩ := rs.one
  cases rv
  cases r with
  | @cell _ a hm =>
    obtain ⟨vs, h1, h2⟩ := S.ok.cellL hm hc
    obtain ⟨z, hz, rz⟩ := h2.get hy
    have hl := (List.getElem?_eq_some_iff.mp hz).1
    refine ⟨a, vs, _, i, z, rfl, rfl, h1, by omega, by omega, ?_, hz, ?_⟩
    · exact (ixN_seq (Evl.ixN_nat hl)).1
    · exact k _ _ _ _ _ p W.le_refl ⟨S.ok.setC hm hc (fun z => nomatch z) ⟨_, upd_same, h2.eraseIdx i⟩, S.sl⟩ rz
end
/-! ### whole numbers of the module -/
theorem de_intG {X : Cx} {B : Bs} {x : Str} {i : Int} {pos : Pos} (hg : Gl X x) (hm : ∃ t, X.mg x = some (.int i t)) (hd : (x == ("__debug__" : Str)) = false := by decide) : PE X (.Name x pos) (lE X.K B (eC (.int i))) := by
  obtain ⟨t, hm⟩ := hm
  exact de_glob hg hm (show RelV (.int i) (.int i t) from ⟨t, rfl⟩) (fun _ => .int i) hd
end DL
namespace DL
open PySem PySem.Spec PyProof.Rows L2
open Evl (Ex)

/-! ### comprehensions of two clauses -/
def eLc2 (o : Bool) (it : DI) (tg : Tg) (tt : DT) (it1 : DI) (tg1 : Tg) (tt1 : DT) (te : DE) (vs vs1 : List Nat) : DE := fun e P => it e fun ds G e1 => ∃ I : Nat → List D → List Cel → Prop, I 0 [] e1.cs ∧
  (∀ i d acc cs, ds[i]? = some d → I i acc cs → G cs ∧ ∃ sl', setTg tg d (wipeD e1.sl vs) = some sl' ∧ tt ⟨sl', cs⟩ fun b e2 => if b = true then
    it1 e2 fun ds1 G1 e3 => ∃ I1 : Nat → List D → List Cel → Prop, I1 0 acc e3.cs ∧
      (∀ j d1 acc1 cs1, ds1[j]? = some d1 → I1 j acc1 cs1 → G1 cs1 ∧ ∃ sl2, setTg tg1 d1 (wipeD e3.sl vs1) = some sl2 ∧ tt1 ⟨sl2, cs1⟩ fun b1 e4 => if b1 = true then te e4 fun y e5 => acc1.length < sizeLine ∧ I1 (j + 1) (acc1 ++ [y]) e5.cs else I1 (j + 1) acc1 e4.cs) ∧
      ∀ acc1 cs1, I1 ds1.length acc1 cs1 → G1 cs1 ∧ I (i + 1) acc1 cs1
    else I (i + 1) acc e2.cs) ∧
  ∀ acc cs, I ds.length acc cs → G cs ∧ newL o acc ⟨e1.sl, cs⟩ P
section
variable {K : PySem.W.Frag} {X : Cx} {B : Bs} {elt tgE iter tgE1 iter1 : Expr} {ifs ifs1 : List Expr} {scope : Scope} {own : List (Str × Nat)} {pos : Pos} {it it1 : DI} {tg tg1 : Tg} {tt tt1 : DT} {te : DE} {o : Bool}
/-- the list that grows, hidden -/
def HidS (K : PySem.W.Frag) (F1 : Hp) (m1 : List Addr) (h1 : List (Addr × List V)) (Dl : Addr) (H : Hp) (acc : List D) (cs : List Cel) : Prop :=
  ∃ (F : Hp) (mm : List Addr) (vs' : List V), Wd.sub ⟨F1, m1, h1⟩ ⟨F, mm, (Dl, vs') :: h1⟩ ∧ Ok K ⟨F, mm, (Dl, vs') :: h1⟩ H cs ∧ RAll K ⟨F, mm, (Dl, vs') :: h1⟩ vs' acc
theorem lc2_ok {vs vs1 : List Nat} (hv : ∀ i ∈ tg.on, i ∈ vs) (hv1 : ∀ i ∈ tg1.on, i ∈ vs1) : ∀ σ H Q, lE K B (eLc2 o it tg tt it1 tg1 tt1 te vs vs1) σ H Q →
    tLc2 (lI K B it) (gV K tg) (lT K Bs.any tt) (lI K Bs.any it1) (gV K tg1) (lT K Bs.any tt1) (lE K Bs.any te) vs vs1 σ H Q := by
  rintro σ H Q ⟨W, e, P, bl, S, t, k⟩
  refine ⟨W, e, _, bl, S, t, fun ds G e1 W1 H1 J ⟨I, i0, turn, done⟩ l1 S1 wk Dl hD => ?_⟩
  obtain ⟨F1, m1, h1⟩ := W1
  refine ⟨fun i m H => m = ds.length - i ∧ i ≤ ds.length ∧ ∃ (acc : List D) (cs : List Cel), HidS K F1 m1 h1 Dl H acc cs ∧ I i acc cs,
    ⟨_, rfl, Nat.zero_le _, [], e1.cs, ⟨F1, m1, [], ⟨Ex.refl _, [], (List.append_nil _).symm⟩, S1.ok.hide hD, .nil⟩, i0⟩, ?_⟩
  rintro i m H2 ⟨rfl, hi, acc, cs, ⟨F, mm, vs', sb, ok, ra⟩, p⟩
  have Sx : Sd K ⟨F, mm, (Dl, vs') :: h1⟩ H2 σ ⟨e1.sl, cs⟩ := ⟨ok, S1.sl.mono' sb⟩
  by_cases hlt : i < ds.length
  · have hd : ds[i]? = some ds[i] := by simp [hlt]
    obtain ⟨g2, sl', hsl, p3⟩ := turn i _ acc cs hd p
    refine .inr ⟨wk.go i _ H2 σ _ sb Sx g2 hlt, fun H => ∃ (acc : List D) (cs : List Cel), HidS K F1 m1 h1 Dl H acc cs ∧ I (i + 1) acc cs, fun H' q => ⟨ds.length - (i + 1), by omega, rfl, hlt, q⟩, fun x H' y => ?_⟩
    obtain ⟨W3, l3, S3, r3⟩ := wk.yld i _ H2 σ _ x H' _ sb Sx g2 hd y
    have S3w : Sd K W3 H' (wipe σ vs) ⟨wipeD e1.sl vs, cs⟩ := ⟨S3.ok, S3.sl.wipe vs⟩
    refine gV_ok (vs := vs) S3w r3 hsl fun σ4 S4 w4 => ⟨by rw [w4 hv, wipe_wipe], ?_⟩
    refine ⟨W3, _, _, trivial, S4, p3, fun b e5 W5 H5 p5 l5 S5 => ?_⟩
    have l35 := l3.tr l5
    cases b with
    | false =>
      refine iteF ⟨acc, e5.cs, ?_, p5⟩
      have ra5 := RAll.mono l35 _ _ ra
      obtain ⟨F5, m5, h5⟩ := W5
      obtain rfl : h5 = (Dl, vs') :: h1 := l35.2.2
      exact ⟨F5, m5, vs', sb.tr (W2 := ⟨F5, m5, (Dl, vs') :: h1⟩) ⟨l35.1, l35.2.1⟩, S5.ok, ra5⟩
    | true =>
      refine iteT ⟨W5, e5, _, trivial, S5, p5, fun ds1 G1 e6 W6 H6 J1 ⟨I1, i10, turn1, done1⟩ l6 S6 wk1 => ?_⟩
      have l36 := l35.tr l6
      have ra6 := RAll.mono l36 _ _ ra
      obtain ⟨F6, m6, h6⟩ := W6
      obtain rfl : h6 = (Dl, vs') :: h1 := l36.2.2
      have sb6 : Wd.sub ⟨F1, m1, h1⟩ ⟨F6, m6, (Dl, vs') :: h1⟩ := sb.tr (W2 := ⟨F6, m6, (Dl, vs') :: h1⟩) ⟨l36.1, l36.2.1⟩
      refine ⟨fun j k H => k = ds1.length - j ∧ j ≤ ds1.length ∧ ∃ (acc1 : List D) (cs1 : List Cel), HidS K F6 m6 h1 Dl H acc1 cs1 ∧ I1 j acc1 cs1,
        ⟨_, rfl, Nat.zero_le _, acc, e6.cs, ⟨F6, m6, vs', ⟨Ex.refl _, [], (List.append_nil _).symm⟩, S6.ok, ra6⟩, i10⟩, ?_⟩
      rintro j k1 H7 ⟨rfl, hj, acc1, cs1, ⟨F7, mm7, vs7, sb7, ok7, ra7⟩, q1⟩
      have sb7' : Wd.sub ⟨F6, m6, (Dl, vs') :: h1⟩ ⟨F7, mm7, (Dl, vs7) :: h1⟩ := ⟨sb7.1, sb7.2⟩
      have Sx7 : Sd K ⟨F7, mm7, (Dl, vs7) :: h1⟩ H7 σ4 ⟨e6.sl, cs1⟩ := ⟨ok7, S6.sl.mono' sb7'⟩
      by_cases hlt1 : j < ds1.length
      · have hd1 : ds1[j]? = some ds1[j] := by simp [hlt1]
        obtain ⟨g7, sl7, hsl7, p7⟩ := turn1 j _ acc1 cs1 hd1 q1
        refine .inr ⟨wk1.go j _ H7 σ4 _ sb7' Sx7 g7 hlt1, fun H => ∃ (acc1 : List D) (cs1 : List Cel), HidS K F6 m6 h1 Dl H acc1 cs1 ∧ I1 (j + 1) acc1 cs1, fun H' q => ⟨ds1.length - (j + 1), by omega, rfl, hlt1, q⟩, fun x1 H8 y1 => ?_⟩
        obtain ⟨W8, l8, S8, r8⟩ := wk1.yld j _ H7 σ4 _ x1 H8 _ sb7' Sx7 g7 hd1 y1
        have S8w : Sd K W8 H8 (wipe σ4 vs1) ⟨wipeD e6.sl vs1, cs1⟩ := ⟨S8.ok, S8.sl.wipe vs1⟩
        refine gV_ok (vs := vs1) S8w r8 hsl7 fun σ9 S9 w9 => ⟨by rw [w9 hv1, wipe_wipe], ?_⟩
        refine ⟨W8, _, _, trivial, S9, p7, fun b1 e10 W10 H10 p10 l10 S10 => ?_⟩
        have l810 := l8.tr l10
        cases b1 with
        | false =>
          refine iteF ⟨acc1, e10.cs, ?_, p10⟩
          have ra10 := RAll.mono l810 _ _ ra7
          obtain ⟨F10, m10, h10⟩ := W10
          obtain rfl : h10 = (Dl, vs7) :: h1 := l810.2.2
          exact ⟨F10, m10, vs7, sb7.tr (W2 := ⟨F10, m10, (Dl, vs7) :: h1⟩) ⟨l810.1, l810.2.1⟩, S10.ok, ra10⟩
        | true =>
          refine iteT ⟨W10, e10, _, trivial, S10, p10, fun y e11 W11 H11 v11 ⟨hz, p11⟩ l11 S11 r11 => ?_⟩
          have l811 := l810.tr l11
          have hD11 : H11 Dl = some (.lst vs7) := (S11.ok.hd (Dl, vs7) (by rw [l811.2.2]; exact List.mem_cons_self)).1
          have ra11 := RAll.mono l811 _ _ ra7
          refine ⟨vs7, hD11, by rw [ra11.length]; exact hz, acc1 ++ [y], e11.cs, ?_, p11⟩
          have ok11 := S11.ok
          have ra12 := ra11.app1 r11
          obtain ⟨F11, m11, h11⟩ := W11
          obtain rfl : h11 = (Dl, vs7) :: h1 := l811.2.2
          exact ⟨F11, m11, vs7 ++ [v11], sb7.tr (W2 := ⟨F11, m11, (Dl, vs7 ++ [v11]) :: h1⟩) ⟨l811.1, l811.2.1⟩, ok11.grow, ra12.world rfl rfl⟩
      · have ei : j = ds1.length := by omega
        subst ei
        obtain ⟨g7, q7⟩ := done1 acc1 cs1 q1
        exact .inl ⟨wk1.stop _ _ H7 σ4 _ sb7' Sx7 g7 (Nat.le_refl _), acc1, cs1, ⟨F7, mm7, vs7, sb6.tr (W2 := ⟨F7, mm7, (Dl, vs7) :: h1⟩) sb7', ok7, ra7⟩, q7⟩
  · have ei : i = ds.length := by omega
    subst ei
    obtain ⟨g2, q⟩ := done acc cs p
    refine .inl ⟨wk.stop _ _ H2 σ _ sb Sx g2 (Nat.le_refl _), ?_⟩
    have ra' : RAll K ⟨F, mm, h1⟩ vs' acc := ra.world rfl rfl
    have lx : (⟨F1, m1, h1⟩ : Wd).le ⟨F, mm, h1⟩ := ⟨sb.1, sb.2, rfl⟩
    cases o with
    | false =>
      obtain ⟨ok', l'⟩ := ok.showF
      exact k _ _ _ _ _ q (l1.tr (lx.tr l')) ⟨ok', S1.sl.mono (lx.tr l')⟩ (.lst upd_same (RAll.mono l' _ _ ra'))
    | true =>
      obtain ⟨ok', l'⟩ := ok.showC ra'
      refine k _ _ _ _ _ q (l1.tr (lx.tr l')) ⟨ok', S1.sl.mono (lx.tr l')⟩ (.cell ?_)
      show (mm ++ [Dl])[cs.length]? = some Dl
      have hl : mm.length = cs.length := ok.len
      rw [← hl, List.getElem?_append_right (Nat.le_refl _)]
      simp
theorem de_lc2 {vs1 : List Nat} (hc : X.calm = true) (hN : X.N.Nodup) (hi : PI X tgE iter (lI X.K B it)) (ok : BlkOk X.N X.env.scope scope own) (hv : ∀ i ∈ tg.on, i ∈ own.map (·.2)) (hv1 : ∀ i ∈ tg1.on, i ∈ vs1) (hv2 : ∀ i ∈ vs1, i ∈ own.map (·.2))
    (hg : ∀ (s : Shared) (H : Hp) (C : Addr) (cl : List (Str × Addr)) (fp : List Addr), PG (X.blk s H scope (compEnvC scope cl C X.env) fp) tgE (gV X.K tg)) (ht : ∀ (s : Shared) (H : Hp) (C : Addr) (cl : List (Str × Addr)) (fp : List Addr), PTs (X.blk s H scope (compEnvC scope cl C X.env) fp) ifs (lT X.K Bs.any tt))
    (hi1 : ∀ (s : Shared) (H : Hp) (C : Addr) (cl : List (Str × Addr)) (fp : List Addr), PI (X.blk s H scope (compEnvC scope cl C X.env) fp) tgE1 iter1 (lI X.K Bs.any it1))
    (hg1 : ∀ (s : Shared) (H : Hp) (C : Addr) (cl : List (Str × Addr)) (fp : List Addr), PG (X.blk s H scope (compEnvC scope cl C X.env) fp) tgE1 (gV X.K tg1)) (ht1 : ∀ (s : Shared) (H : Hp) (C : Addr) (cl : List (Str × Addr)) (fp : List Addr), PTs (X.blk s H scope (compEnvC scope cl C X.env) fp) ifs1 (lT X.K Bs.any tt1))
    (he : ∀ (s : Shared) (H : Hp) (C : Addr) (cl : List (Str × Addr)) (fp : List Addr), PE (X.blk s H scope (compEnvC scope cl C X.env) fp) elt (lE X.K Bs.any te)) (hs : ∀ x, foldedSetIterable iter X.env x = pure x := by intro _; rfl) (hs1 : ∀ env x, foldedSetIterable iter1 env x = pure x := by intro _ _; rfl) :
    PE X (.ListComp elt [⟨tgE, iter, ifs, 0⟩, ⟨tgE1, iter1, ifs1, 0⟩] scope pos) (lE X.K B (eLc2 o it tg tt it1 tg1 tt1 te (own.map (·.2)) vs1)) := PE.imp (pe_lc2 hc hN hi ok hv2 hg ht hi1 hg1 ht1 he hs hs1) (lc2_ok hv hv1)
end
theorem v_lc2 {e : En} {P : D → En → Prop} {tg tg1 : Tg} {tt tt1 : DT} {te : DE} {vs vs1 : List Nat} {o : Bool} {it it1 : DI} (h : it e fun ds G e1 => ∃ I : Nat → List D → List Cel → Prop, I 0 [] e1.cs ∧
  (∀ i d acc cs, ds[i]? = some d → I i acc cs → G cs ∧ ∃ sl', setTg tg d (wipeD e1.sl vs) = some sl' ∧ tt ⟨sl', cs⟩ fun b e2 => if b = true then
    it1 e2 fun ds1 G1 e3 => ∃ I1 : Nat → List D → List Cel → Prop, I1 0 acc e3.cs ∧
      (∀ j d1 acc1 cs1, ds1[j]? = some d1 → I1 j acc1 cs1 → G1 cs1 ∧ ∃ sl2, setTg tg1 d1 (wipeD e3.sl vs1) = some sl2 ∧ tt1 ⟨sl2, cs1⟩ fun b1 e4 => if b1 = true then te e4 fun y e5 => acc1.length < sizeLine ∧ I1 (j + 1) (acc1 ++ [y]) e5.cs else I1 (j + 1) acc1 e4.cs) ∧
      ∀ acc1 cs1, I1 ds1.length acc1 cs1 → G1 cs1 ∧ I (i + 1) acc1 cs1
    else I (i + 1) acc e2.cs) ∧
  ∀ acc cs, I ds.length acc cs → G cs ∧ newL o acc ⟨e1.sl, cs⟩ P) : eLc2 o it tg tt it1 tg1 tt1 te vs vs1 e P := h
end DL
namespace DL
open PySem PySem.Spec PyProof.Rows L2
open Evl (Ex)

/-! ### max, min of two -/
section
variable {K : PySem.W.Frag}
def qMax2 : List D → DE
  | [.int i, .int j] => fun e P => P (.int (if j > i then j else i)) e
  | _ => fun _ _ => False
def qMin2 : List D → DE
  | [.int i, .int j] => fun e P => P (.int (if j < i then j else i)) e
  | _ => fun _ _ => False
theorem cd_max2 : CallD K (fun xs H Q => ∃ i j, xs = [.int i, .int j] ∧ Q (.int (if j > i then j else i)) H) qMax2 := by
  intro W H σ e vs ds P Q S r t k
  unfold qMax2 at t
  split at t
  · exact ⟨_, _, r.two_int, k _ _ _ _ _ t W.le_refl S (.int _)⟩
  · exact t.elim
theorem cd_min2 : CallD K (fun xs H Q => ∃ i j, xs = [.int i, .int j] ∧ Q (.int (if j < i then j else i)) H) qMin2 := by
  intro W H σ e vs ds P Q S r t k
  unfold qMin2 at t
  split at t
  · exact ⟨_, _, r.two_int, k _ _ _ _ _ t W.le_refl S (.int _)⟩
  · exact t.elim
end
section
variable {e : En} {P : D → En → Prop} {a b : Int}
theorem v_max2 (p : P (.int (if b > a then b else a)) e) : qMax2 [.int a, .int b] e P := p
theorem v_min2 (p : P (.int (if b < a then b else a)) e) : qMin2 [.int a, .int b] e P := p
end
theorem bt_max : bootBuiltins "max" = some (.builtin "max") := by rfl
theorem bt_min : bootBuiltins "min" = some (.builtin "min") := by rfl
/-! ### extend; what is never reached -/
def qExt : D → List D → DE := fun d ds e P => ∃ n xs y ys, d = .cell n ∧ ds = [y] ∧ e.cs[n]? = some (.lst xs) ∧ lkP e.cs y = some ys ∧ xs.length + ys.length ≤ 100000 ∧ P .non { e with cs := e.cs.set n (.lst (xs ++ ys)) }
theorem RAll.app {K : PySem.W.Frag} {W : Wd} : ∀ {vs ws : List V} {xs ys : List D}, RAll K W vs xs → RAll K W ws ys → RAll K W (vs ++ ws) (xs ++ ys)
  | _, _, _, _, .nil, h => h
  | _, _, _, _, .cons r t, h => .cons r (RAll.app t h)
theorem md_ext {K : PySem.W.Frag} : MtD K rExtend qExt := by
  rintro W H σ e x vs d ds P Q S r rs ⟨n, xs, y, ys, rfl, rfl, hc, hy, hz, p⟩ k
  obtain ⟨v, rfl, rv⟩ := rs.one
  cases r with
  | @cell _ a hm =>
    obtain ⟨vs, h1, h2⟩ := S.ok.cellL hm hc
    obtain ⟨b, ws, rfl, h3, h4⟩ := S.ok.lkP rv hy
    refine ⟨a, b, vs, ws, rfl, rfl, h1, h3, ?_, ?_⟩
    · rw [h2.length, h4.length]
      exact Nat.le_trans hz (by decide)
    exact k _ _ _ _ _ p W.le_refl ⟨S.ok.setC hm hc (fun z => nomatch z) ⟨_, upd_same, h2.app h4⟩, S.sl⟩ .non
def eNever : DE := fun _ _ => False
theorem de_never {X : Cx} {B : Bs} {ex : Expr} : PE X ex (lE X.K B eNever) := ⟨fun _ _ _ _ _ _ ⟨_, _, _, _, _, t, _⟩ => t.elim⟩
/-! ### a, b = x, y -/
def sPar (i j : Nat) (ta : DA) : DS := fun P e => ta e fun ds e1 => ∃ x y, ds = [x, y] ∧ P.nx { e1 with sl := (e1.sl.set i (some x)).set j (some y) }
theorem ds_par {X : Cx} {B : Bs} {i j : Nat} {x y : Str} {a b : Expr} {ta : DA} {px py pt k2p pos : Pos} {kt k2} (hc : X.calm = true) (hN : X.N.Nodup) (hi : X.N[i]? = some x) (hj : X.N[j]? = some y) (hij : i ≠ j)
    (hx : X.env.scope.names.lookup x = some .local) (hy : X.env.scope.names.lookup y = some .local) (ha : PA X [a, b] (lA X.K B ta))
    (hw : swappedStores [.Tuple [.Name x px, .Name y py] kt pt] (.Tuple [a, b] k2 k2p) X.env = pure (some [x, y]) := by rfl)
    (hs : swapsWithSole [.Tuple [.Name x px, .Name y py] kt pt] (.Tuple [a, b] k2 k2p) pos.line X.env = pure false := by rfl) :
    PS X (.Assign [.Tuple [.Name x px, .Name y py] kt pt] (.Tuple [a, b] k2 k2p) pos) (lS X.K B (sPar i j ta)) :=
  PS.imp (ps_par hc hN hi hj hij hx hy ha hw hs) fun E σ H h => by
    obtain ⟨W, e, P, bl, S, h, c⟩ := lS_un h
    refine ⟨W, e, _, bl, S, h, fun ds e1 W1 H1 vs ⟨x, y, hd, p⟩ l S1 r => ?_⟩
    subst hd
    cases r with
    | cons r1 r2 =>
      cases r2 with
      | cons r2 r3 =>
        cases r3
        exact ⟨_, _, rfl, c.nx _ _ _ _ p l ⟨S1.ok, (S1.sl.set r1).set r2⟩⟩
theorem v_par {i j : Nat} {ta : DA} {P : Po} {e : En} (h : ta e fun ds e1 => ∃ x y, ds = [x, y] ∧ P.nx { e1 with sl := (e1.sl.set i (some x)).set j (some y) }) : sPar i j ta P e := h
/-! ### xs.index(k), whole numbers -/
def qIdx : D → List D → DE := fun d ds e P => ∃ (ns : List Int) (k : Int) (j : Nat), lk e.cs d = some (ns.map .int) ∧ ds = [.int k] ∧ ns[j]? = some k ∧ (∀ (m : Nat) (z : Int), m < j → ns[m]? = some z → z ≠ k) ∧ P (.int (j : Nat)) e
theorem md_idx {K : PySem.W.Frag} : MtD K (rIndex K) qIdx := by
  rintro W H σ e x vs d ds P Q S r rs ⟨ns, k, j, hl, rfl, h1, h2, p⟩ kk
  obtain ⟨v, rfl, rv⟩ := rs.one
  cases rv
  obtain ⟨a, ws, rfl, h3, h4⟩ := S.ok.lk r hl
  cases RAll.ints_inv h4
  refine ⟨a, ns.map V.int, _, j, .int k, rfl, rfl, h3, rfl, ?_, ?_, ?_, ?_, kk _ _ _ _ _ p W.le_refl S (.int _)⟩
  · rw [List.all_map]
    exact List.all_eq_true.mpr fun _ _ => rfl
  · rw [List.getElem?_map, h1]
    rfl
  · exact beq_self_eq_true k
  · intro m z' hm hz
    rw [List.getElem?_map] at hz
    obtain ⟨z, hz1, rfl⟩ := Option.map_eq_some_iff.mp hz
    exact beq_eq_false_iff_ne.mpr (h2 m z hm hz1)
theorem v_idx {ns : List Int} {d : D} {e : En} {P : D → En → Prop} {k : Int} {j : Nat} (hl : lk e.cs d = some (ns.map .int)) (h1 : ns[j]? = some k) (h2 : ∀ (m : Nat) (z : Int), m < j → ns[m]? = some z → z ≠ k) (p : P (.int (j : Nat)) e) : qIdx d [.int k] e P := ⟨ns, k, j, hl, rfl, h1, h2, p⟩
/-! ### a dict that is only handed on: none of its keys is looked at -/
def eDct : DE := fun e P => P .dct e
theorem de_dct0 {X : Cx} {B : Bs} {pos : Pos} : PE X (.Dict [] [] pos) (lE X.K B eDct) := PE.imp pe_dnewK fun σ H Q ⟨W, e, P, _, S, t, k⟩ p hp => by
  obtain ⟨ok, l⟩ := S.ok.newF (o := .dK []) hp
  exact k .dct e _ _ _ t l ⟨ok, S.sl.mono l⟩ (.dct upd_same)
theorem de_dctI {X : Cx} {B : Bs} {pos p1 p2 : Pos} {i j : Int} {j1 j2} : PE X (.Dict [some (.Constant (.int i) j1 p1)] [.Constant (.int j) j2 p2] pos) (lE X.K B eDct) :=
  PE.imp (pe_disp (pps_cons (pe_int (i := i)) (pe_int (i := j)) pps_nil) rfl rfl (fun z => nomatch z) (by simp)) fun σ H Q ⟨W, e, P, _, S, t, k⟩ p hp => by
    obtain ⟨ok, l⟩ := S.ok.newF (o := .dK (mergeK [] [(.inl i, .int j)])) hp
    refine ⟨upd_same, [(.inl i, .int j)], rfl, by simp, ?_⟩
    rw [upd_upd]
    exact k .dct e _ _ _ t l ⟨ok, S.sl.mono l⟩ (.dct upd_same)
theorem v_dct {e : En} {P : D → En → Prop} (p : P .dct e) : eDct e P := p
end DL
/-! a dict that changes (int keys), list.remove, list.pop(), list.count, list.index of nested items, (x,) * n, [*xs, y], a, b, c = x, y, z -/
namespace DL
open PySem PySem.Spec PyProof.Rows L2
open Evl (Ex)

/-! ### a dict with int keys as a cell -/
def getI : List (Int × D) → Int → Option D
  | [], _ => none
  | p :: r, k => if p.1 = k then some p.2 else getI r k
def putI (kxs : List (Int × D)) (k : Int) (d : D) : List (Int × D) :=
  if (kxs.any fun p => decide (p.1 = k)) = true then kxs.map (fun p => if p.1 = k then (p.1, d) else p) else kxs ++ [(k, d)]
section
variable {K : PySem.W.Frag} {W : Wd}
theorem RKs.length : ∀ {ps : List (Key × V)} {kxs : List (Int × D)}, RKs K W ps kxs → ps.length = kxs.length
  | _, _, .nil => rfl
  | _, _, .cons _ t => by rw [List.length_cons, List.length_cons, RKs.length t]
theorem RKs.get (k : Int) : ∀ {ps : List (Key × V)} {kxs : List (Int × D)}, RKs K W ps kxs → (getI kxs k = none ∧ valV ps (.inl k) = none) ∨ ∃ d v, getI kxs k = some d ∧ valV ps (.inl k) = some v ∧ R K W v d
  | _, _, .nil => .inl ⟨rfl, rfl⟩
  | _, _, @RKs.cons _ _ k' v d ps kxs r t => by
    by_cases e : k' = k
    · exact .inr ⟨d, v, by unfold getI; rw [if_pos e], valV_pos (p := ((.inl k' : Key), v)) (by rw [e]), r⟩
    · have e2 : ¬ ((Sum.inl k' : Key) = .inl k) := fun z => e (Sum.inl.inj z)
      have e3 : valV (((.inl k' : Key), v) :: ps) (.inl k) = valV ps (.inl k) := valV_neg (p := ((.inl k' : Key), v)) e2
      have e4 : getI ((k', d) :: kxs) k = getI kxs k := by
        show (if k' = k then some d else getI kxs k) = _
        rw [if_neg e]
      rw [e3, e4]
      exact RKs.get k t
theorem RKs.any (k : Int) : ∀ {ps : List (Key × V)} {kxs : List (Int × D)}, RKs K W ps kxs → (ps.any fun p => decide (p.1 = (.inl k : Key))) = (kxs.any fun p => decide (p.1 = k))
  | _, _, .nil => rfl
  | _, _, @RKs.cons _ _ k' v d ps kxs r t => by
    rw [List.any_cons, List.any_cons, RKs.any k t]
    congr 1
    exact decide_eq_decide.mpr ⟨fun z => Sum.inl.inj z, fun z => by rw [show k' = k from z]⟩
theorem RKs.repl {v : V} {d : D} (rv : R K W v d) (k : Int) : ∀ {ps : List (Key × V)} {kxs : List (Int × D)}, RKs K W ps kxs → RKs K W (ps.map fun p => if p.1 = (.inl k : Key) then (p.1, v) else p) (kxs.map fun p => if p.1 = k then (p.1, d) else p)
  | _, _, .nil => .nil
  | _, _, @RKs.cons _ _ k' v' d' ps kxs r t => by
    rw [List.map_cons, List.map_cons]
    by_cases e : k' = k
    · subst e
      rw [if_pos rfl, if_pos rfl]
      exact .cons rv (RKs.repl rv k' t)
    · rw [if_neg (fun z => e (Sum.inl.inj z)), if_neg e]
      exact .cons r (RKs.repl rv k t)
theorem RKs.app1 {v : V} {d : D} (rv : R K W v d) (k : Int) : ∀ {ps : List (Key × V)} {kxs : List (Int × D)}, RKs K W ps kxs → RKs K W (ps ++ [(.inl k, v)]) (kxs ++ [(k, d)])
  | _, _, .nil => .cons rv .nil
  | _, _, .cons r t => .cons r (RKs.app1 rv k t)
theorem RKs.put {v : V} {d : D} (rv : R K W v d) (k : Int) {ps : List (Key × V)} {kxs : List (Int × D)} (h : RKs K W ps kxs) : RKs K W (putK ps (.inl k) v) (putI kxs k d) := by
  unfold putK putI
  rw [h.any k]
  split
  · exact h.repl rv k
  · exact h.app1 rv k
theorem Ok.cellD {H : Hp} {cs : List Cel} (h : Ok K W H cs) {n : Nat} {a : Addr} {kxs : List (Int × D)} (hm : W.m[n]? = some a) (hc : cs[n]? = some (.dic kxs)) : ∃ ps, H a = some (.dK ps) ∧ RKs K W ps kxs := h.cl n a _ hm hc
end
/-- {} -/
def eDnew : DE := fun e P => P (.cell e.cs.length) { e with cs := e.cs ++ [.dic []] }
theorem de_dnew {X : Cx} {B : Bs} {pos : Pos} : PE X (.Dict [] [] pos) (lE X.K B eDnew) := PE.imp pe_dnewK fun σ H Q ⟨W, e, P, _, S, t, k⟩ p hp => by
  obtain ⟨ok, l⟩ := S.ok.newC (o := .dK []) (c := .dic []) hp fun W' l => ⟨[], upd_same, .nil⟩
  refine k _ _ _ _ _ t l ⟨ok, S.sl.mono l⟩ (.cell ?_)
  show (W.m ++ [p])[e.cs.length]? = some p
  rw [← S.ok.len]
  simp
theorem v_dnew {e : En} {P : D → En → Prop} (p : P (.cell e.cs.length) { e with cs := e.cs ++ [.dic []] }) : eDnew e P := p
/-- d[k] = v -/
def sDput (td ti tv : DE) : DS := fun P e => tv e fun y e1 => td e1 fun d e2 => ti e2 fun i e3 => ∃ n kxs k, d = .cell n ∧ i = .int k ∧ e3.cs[n]? = some (.dic kxs) ∧ kxs.length < sizeLine ∧ P.nx { e3 with cs := e3.cs.set n (.dic (putI kxs k y)) }
theorem ds_dput {X : Cx} {B : Bs} {o i value : Expr} {td ti tv : DE} {pos pos' : Pos} (hu : X.A.units + 1 < cLine) (hv : PE X value (lE X.K B tv)) (ho : PE X o (lE X.K B td)) (hi : PE X i (lE X.K B ti))
    (hs : swapsWith value (some (.Subscript o i pos')) pos.line X.env = pure false := by rfl) : PS X (.Assign [.Subscript o i pos'] value pos) (lS X.K B (sDput td ti tv)) :=
  PS.imp (ps_dput hu ho hi hv hs) fun E σ H h => by
    obtain ⟨W, e, P, bl, S, h, c⟩ := lS_un h
    refine ⟨W, e, _, bl, S, h, fun y e1 W1 H1 vy t1 l1 S1 r1 => ?_⟩
    refine ⟨W1, e1, _, B.up bl l1, S1, t1, fun d e2 W2 H2 vd t2 l2 S2 r2 => ?_⟩
    refine ⟨W2, e2, _, B.up (B.up bl l1) l2, S2, t2, fun j e3 W3 H3 vj ⟨n, kxs, k, hd, hj, hc, hz, p⟩ l3 S3 r3 => ?_⟩
    subst hd hj
    cases r3
    have r2' := R.mono l3 _ _ r2
    cases r2' with
    | @cell _ a hm =>
      obtain ⟨ps, h1, h2⟩ := S3.ok.cellD hm hc
      refine ⟨a, _, rfl, DPut.k (k := .inl k) h1 (by rw [h2.length]; exact hz), ?_⟩
      have ry := R.mono l3 _ _ (R.mono l2 _ _ r1)
      exact c.nx _ _ _ _ p ((l1.tr l2).tr l3) ⟨S3.ok.setC hm hc (fun z => nomatch z) ⟨_, upd_same, h2.put ry k⟩, S3.sl⟩
theorem v_dput {td ti tv : DE} {P : Po} {e : En} (h : tv e fun y e1 => td e1 fun d e2 => ti e2 fun i e3 => ∃ n kxs k, d = .cell n ∧ i = .int k ∧ e3.cs[n]? = some (.dic kxs) ∧ kxs.length < sizeLine ∧ P.nx { e3 with cs := e3.cs.set n (.dic (putI kxs k y)) }) : sDput td ti tv P e := h
/-- d.get(k, x) -/
def eDget (td ti tx : DE) : DE := fun e P => td e fun d e1 => (∃ n kxs, d = .cell n ∧ e1.cs[n]? = some (.dic kxs)) ∧ ti e1 fun i e2 => tx e2 fun x e3 => ∃ n kxs k, d = .cell n ∧ i = .int k ∧ e3.cs[n]? = some (.dic kxs) ∧ P ((getI kxs k).getD x) e3
theorem de_dget {X : Cx} {B : Bs} {o i f : Expr} {td ti tx : DE} {apos cpos : Pos} (hu : X.A.units + 1 < cLine) (ho : PE X o (lE X.K B td)) (hi : PE X i (lE X.K B ti)) (hf : PE X f (lE X.K B tx)) (m : M2 X o "get" apos i f cpos) :
    PE X (.Call (.Attribute o "get" apos) [i, f] [] cpos) (lE X.K B (eDget td ti tx)) :=
  PE.imp (pe_dget2 hu ho hi hf m) fun σ H Q ⟨W, e, P, bl, S, t, k⟩ => ⟨W, e, _, bl, S, t, fun d e1 W1 H1 v1 ⟨⟨n, kxs, hd, hc⟩, t1⟩ l1 S1 r1 => by
    subst hd
    cases r1 with
    | @cell _ a hm =>
      obtain ⟨ps, h1, h2⟩ := S1.ok.cellD hm hc
      refine ⟨a, rfl, .inl ⟨ps, .inl h1⟩, W1, e1, _, B.up bl l1, S1, t1, fun j e2 W2 H2 v2 t2 l2 S2 r2 => ?_⟩
      refine ⟨W2, e2, _, B.up (B.up bl l1) l2, S2, t2, fun x e3 W3 H3 v3 ⟨n', kxs', kk, hn, hj, hc', p⟩ l3 S3 r3 => ?_⟩
      subst hj
      cases hn
      cases r2
      obtain ⟨ps', h3, h4⟩ := S3.ok.cellD (Wd.get_more (Wd.le.tr l2 l3).2.1 hm) hc'
      refine ⟨_, DGet.k (k := .inl kk) h3, ?_⟩
      have l := (l1.tr l2).tr l3
      rcases h4.get kk with ⟨g1, g2⟩ | ⟨dd, vv, g1, g2, g3⟩
      · rw [g2]
        rw [g1] at p
        exact k _ _ _ _ _ p l S3 r3
      · rw [g2]
        rw [g1] at p
        exact k _ _ _ _ _ p l S3 g3⟩
theorem v_dget {td ti tx : DE} {e : En} {P : D → En → Prop} (h : td e fun d e1 => (∃ n kxs, d = .cell n ∧ e1.cs[n]? = some (.dic kxs)) ∧ ti e1 fun i e2 => tx e2 fun x e3 => ∃ n kxs k, d = .cell n ∧ i = .int k ∧ e3.cs[n]? = some (.dic kxs) ∧ P ((getI kxs k).getD x) e3) : eDget td ti tx e P := h
/-- k in d -/
def eDin (ti td : DE) : DE := fun e P => ti e fun i e1 => td e1 fun d e2 => ∃ n kxs k, d = .cell n ∧ i = .int k ∧ e2.cs[n]? = some (.dic kxs) ∧ P (.bl (getI kxs k).isSome) e2
theorem dc_din {X : Cx} {B : Bs} {o i : Expr} {td ti : DE} (hu : X.A.units + 1 < cLine) (hi : PE X i (lE X.K B ti)) (ho : PE X o (lE X.K B td)) : PC X .In i o (lE X.K B (eDin ti td)) :=
  ⟨fun pins s σ H Q I ⟨W, e, P, bl, S, t, k⟩ => (pc_din hu hi ho).run pins s σ H Q I ⟨W, e, _, bl, S, t, fun j e1 W1 H1 v1 t1 l1 S1 r1 => ⟨W1, e1, _, B.up bl l1, S1, t1, fun d e2 W2 H2 v2 ⟨n, kxs, kk, hd, hj, hc, p⟩ l2 S2 r2 => by
    subst hd hj
    cases r1
    cases r2 with
    | @cell _ a hm =>
      obtain ⟨ps, h1, h2⟩ := S2.ok.cellD hm hc
      refine ⟨a, _, rfl, DGet.k (k := .inl kk) h1, ?_⟩
      have e1 : (valV ps (.inl kk)).isSome = (getI kxs kk).isSome := by
        rcases h2.get kk with ⟨g1, g2⟩ | ⟨dd, vv, g1, g2, _⟩
        · rw [g1, g2] <;> rfl
        · rw [g1, g2] <;> rfl
      rw [show (valV ps (.inl kk)).isSome = _ from e1]
      exact k _ _ _ _ _ p (l1.tr l2) S2 (.bl _)⟩⟩⟩
theorem v_din {ti td : DE} {e : En} {P : D → En → Prop} (h : ti e fun i e1 => td e1 fun d e2 => ∃ n kxs k, d = .cell n ∧ i = .int k ∧ e2.cs[n]? = some (.dic kxs) ∧ P (.bl (getI kxs k).isSome) e2) : eDin ti td e P := h
/-! ### list.pop() -/
def qPop0 : D → List D → DE := fun d ds e P => ∃ (n : Nat) (xs : List D) (y : D), d = .cell n ∧ ds = [] ∧ e.cs[n]? = some (.lst xs) ∧ xs[xs.length - 1]? = some y ∧ P y { e with cs := e.cs.set n (.lst xs.dropLast) }
theorem md_pop0 {K : PySem.W.Frag} : MtD K rPop qPop0 := by
  rintro W H σ e x vs d ds P Q S r rs ⟨n, xs, y, rfl, rfl, hc, hy, p⟩ k
  cases rs
  cases r with
  | @cell _ a hm =>
    obtain ⟨vs, h1, h2⟩ := S.ok.cellL hm hc
    obtain ⟨z, hz, rz⟩ := h2.get hy
    refine ⟨a, vs, z, rfl, rfl, h1, by rw [h2.length]; exact hz, ?_⟩
    exact k _ _ _ _ _ p W.le_refl ⟨S.ok.setC hm hc (fun z => nomatch z) ⟨_, upd_same, h2.dropLast⟩, S.sl⟩ rz
/-! ### remove, count, index: items of any depth -/
def rRemD (K : PySem.W.Frag) : V → List V → Hp → VK → Prop := fun x xs H Q => ∃ (a : Addr) (ys : List V) (y : V) (d : PyData) (ds : List PyData) (j : Nat) (z : PyData), x = V.ref a ∧ xs = [y] ∧ H a = some (.lst ys) ∧ DpAll K H ys ds ∧ Dp K H y d ∧
  SeqAt.shaped (.list ds) = true ∧ SeqAt.shaped d = true ∧ ds[j]? = some z ∧ PyData.eqv z d = true ∧ (∀ (m : Nat) (z' : PyData), m < j → ds[m]? = some z' → PyData.eqv z' d = false) ∧ Q .non (upd H a (.lst (ys.eraseIdx j)))
theorem mt_remD {X : Cx} (hu : X.A.units + 65 < cLine) : MtM X "list.remove" (rRemD X.K) := by
  intro pins s σ H x xs v us Q I rx rxs h
  obtain ⟨a, ys, y, d, ds, j, z, rfl, rfl, hH, ha, hy, sl, sd, hz, hzj, hno, q⟩ := h
  cases rx
  obtain ⟨uy, rfl, ry⟩ := rxs.one
  obtain ⟨bs, r1⟩ := Dp.reads I d y uy hy ry
  have hxs : PyData.canLayAll0 ds = true := SeqAt.canLay_of_shaped sl
  have hroom : X.A.units + 1 + min (PyData.depthAll ds) d.depth < cLine := room_in_shaped sd hu
  obtain ⟨zz, its, n, rv, hl, ho⟩ := I.lstM hH
  obtain ⟨as, h4⟩ := Dp.readsAll I ds _ its ha rv
  have hn : its.length = ds.length := SeqAt.ReadsAll.length ds its as h4
  have hmap : its.map (SeqAt.readOf s.heap) = ds := SeqAt.readsAll_map ds its as hxs h4
  obtain ⟨hjd, _⟩ := List.getElem?_eq_some_iff.mp hz
  have hjl : j < its.length := by omega
  have hj : j < its.toArray.size := by simpa using hjl
  have at_ : ∀ (m : Nat) (hm : m < its.toArray.size) (z' : PyData), ds[m]? = some z' → SeqAt.readOf s.heap its.toArray[m] = z' := by
    intro m hm z' hz'
    have hml : m < its.length := by simpa using hm
    rw [← hmap, List.getElem?_map, List.getElem?_eq_getElem hml] at hz'
    have e1 : SeqAt.readOf s.heap its[m] = z' := Option.some.inj (show some (SeqAt.readOf s.heap its[m]) = some z' from hz')
    simpa using e1
  refine call_meets PySem.F.slot_list_remove ⟨_, ho, rfl⟩ PySem.F.entry_list_remove (PySem.F.args_list_remove_2 _ _)
    (SeqAt.list_removeAt a its.toArray n none #[] uy (fun u => PyData.eqv (SeqAt.readOf s.heap u) d) j hj ?_ ?_ (by rw [List.size_toArray]; omega)) ⟨ho, SeqAt.items_eqAt (vs := its.toArray) (show ReadsAll s.heap its.toArray.toList ds as from h4) r1 hxs (SeqAt.canLay_of_shaped sd) hroom, ?_⟩
  · show PyData.eqv (SeqAt.readOf s.heap its.toArray[j]) d = true
    rw [at_ j hj z hz]
    exact hzj
  · intro m hm hmj
    have hmd : m < ds.length := by omega
    have hz' : ds[m]? = some ds[m] := List.getElem?_eq_getElem hmd
    show PyData.eqv (SeqAt.readOf s.heap its.toArray[m]) d = false
    rw [at_ m hm _ hz']
    exact hno m _ hmj hz'
  · have rr := rv.eraseIdx j
    refine ⟨.non, _, I.lset (its' := its.eraseIdx j) (t' := s.toks) hH ho ?_ rr ?_, rfl, q⟩
    · show its.toArray.eraseIdxIfInBounds j = (its.eraseIdx j).toArray
      rw [List.eraseIdxIfInBounds_toArray]
    · have z2 := List.length_eraseIdx_le ys j
      omega
/-- where the first equal item stands -/
def FstAt (xs : List D) (y : D) (j : Nat) : Prop := (∃ z, xs[j]? = some z ∧ PyData.eqv (toP z) (toP y) = true) ∧ ∀ (m : Nat) (z : D), m < j → xs[m]? = some z → PyData.eqv (toP z) (toP y) = false
theorem toPs_map : ∀ xs : List D, toPs xs = xs.map toP
  | [] => rfl
  | x :: xs => by rw [toPs, toPs_map xs] <;> rfl
theorem FstAt.at {xs : List D} {y : D} {j : Nat} (h : FstAt xs y j) : (∃ z, (toPs xs)[j]? = some z ∧ PyData.eqv z (toP y) = true) ∧ ∀ (m : Nat) (z : PyData), m < j → (toPs xs)[m]? = some z → PyData.eqv z (toP y) = false := by
  obtain ⟨⟨z, h1, h2⟩, h3⟩ := h
  refine ⟨⟨toP z, by rw [toPs_map, List.getElem?_map, h1] <;> rfl, h2⟩, fun m w hm hw => ?_⟩
  rw [toPs_map, List.getElem?_map] at hw
  obtain ⟨z', e1, rfl⟩ := Option.map_eq_some_iff.mp hw
  exact h3 m z' hm e1
def qRem : D → List D → DE := fun d ds e P => ∃ (n : Nat) (xs : List D) (y : D) (j : Nat), d = .cell n ∧ ds = [y] ∧ e.cs[n]? = some (.lst xs) ∧ shp (.lst xs) = true ∧ shp (drf e.cs y) = true ∧ FstAt xs (drf e.cs y) j ∧ P .non { e with cs := e.cs.set n (.lst (xs.eraseIdx j)) }
theorem md_rem {K : PySem.W.Frag} : MtD K (rRemD K) qRem := by
  rintro W H σ e x vs d ds P Q S r rs ⟨n, xs, y, j, rfl, rfl, hc, s1, s2, hj, p⟩ k
  obtain ⟨v, rfl, rv⟩ := rs.one
  obtain ⟨o1, t1⟩ := shp_and s1
  obtain ⟨o2, t2⟩ := shp_and s2
  obtain ⟨⟨z, hz1, hz2⟩, hno⟩ := hj.at
  cases r with
  | @cell _ a hm =>
    obtain ⟨vs, h1, h2⟩ := S.ok.cellL hm hc
    refine ⟨a, vs, v, toP (drf e.cs y), toPs xs, j, z, rfl, rfl, h1, RAll.dp S.ok.ex xs vs h2 o1, S.ok.dp rv o2, t1, t2, hz1, hz2, hno, ?_⟩
    exact k _ _ _ _ _ p W.le_refl ⟨S.ok.setC hm hc (fun z => nomatch z) ⟨_, upd_same, h2.eraseIdx j⟩, S.sl⟩ .non
/-- xs.index(y) -/
def qIdxD : D → List D → DE := fun d ds e P => ∃ (xs : List D) (y : D) (j : Nat), lk e.cs d = some xs ∧ ds = [y] ∧ shp (.lst xs) = true ∧ shp (drf e.cs y) = true ∧ FstAt xs (drf e.cs y) j ∧ P (.int (j : Nat)) e
theorem md_idxD {K : PySem.W.Frag} : MtD K (rIndexD K) qIdxD := by
  rintro W H σ e x vs d ds P Q S r rs ⟨xs, y, j, hl, rfl, s1, s2, hj, p⟩ k
  obtain ⟨v, rfl, rv⟩ := rs.one
  obtain ⟨o1, t1⟩ := shp_and s1
  obtain ⟨o2, t2⟩ := shp_and s2
  obtain ⟨⟨z, hz1, hz2⟩, hno⟩ := hj.at
  obtain ⟨a, ws, rfl, h3, h4⟩ := S.ok.lk r hl
  exact ⟨a, v, toP (drf e.cs y), toPs xs, j, z, rfl, rfl, .lst h3 (RAll.dp S.ok.ex xs ws h4 o1), S.ok.dp rv o2, t1, t2, hz1, hz2, hno, k _ _ _ _ _ p W.le_refl S (.int _)⟩
/-- xs.count(y) -/
def rCntD (K : PySem.W.Frag) : V → List V → Hp → VK → Prop := fun x xs H Q => ∃ (a : Addr) (y : V) (d : PyData) (ds : List PyData), x = V.ref a ∧ xs = [y] ∧ Dp K H (V.ref a) (.list ds) ∧ Dp K H y d ∧
  SeqAt.shaped (.list ds) = true ∧ SeqAt.shaped d = true ∧ Q (.int (ds.countP (fun z => PyData.eqv z d) : Nat)) H
theorem mt_cntD {X : Cx} (hu : X.A.units + 65 < cLine) : MtR X "list.count" (rCntD X.K) := by
  intro pins s σ H x xs v us Q I rx rxs h
  obtain ⟨a, y, d, ds, rfl, rfl, hl, hy, sl, sd, q⟩ := h
  cases rx
  obtain ⟨uy, rfl, ry⟩ := rxs.one
  obtain ⟨bs, r1⟩ := Dp.reads I d y uy hy ry
  have hxs : PyData.canLayAll0 ds = true := SeqAt.canLay_of_shaped sl
  have hroom : X.A.units + 1 + min (PyData.depthAll ds) d.depth < cLine := room_in_shaped sd hu
  cases hl with
  | lst hs ha =>
    obtain ⟨its, rv, ⟨⟨cls, dd, data, sls⟩, n, ho, hc, hdn, hdt⟩, hlen⟩ := I.list hs
    simp only at hc hdt
    subst hc hdt
    obtain ⟨as, h4⟩ := Dp.readsAll I ds _ its ha rv
    have hmap : its.map (SeqAt.readOf s.heap) = ds := SeqAt.readsAll_map ds its as hxs h4
    refine call_meets PySem.F.slot_list_count ⟨_, ho, rfl⟩ PySem.F.entry_list_count (PySem.F.args_list_count_2 _ _)
      (SeqAt.list_countAt a its.toArray n dd sls uy (fun u => PyData.eqv (SeqAt.readOf s.heap u) d)) ⟨ho, SeqAt.items_eqAt (vs := its.toArray) (show ReadsAll s.heap its.toArray.toList ds as from h4) r1 hxs (SeqAt.canLay_of_shaped sd) hroom, ?_⟩
    have ec : its.toArray.toList.countP (fun u => PyData.eqv (SeqAt.readOf s.heap u) d) = ds.countP (fun z => PyData.eqv z d) := by
      rw [← hmap, List.countP_map]
      rfl
    refine ⟨.int (ds.countP (fun z => PyData.eqv z d) : Nat), H, I.tok _, ⟨s.toks, ?_⟩, q⟩
    rw [ec]
def qCntD : D → List D → DE := fun d ds e P => ∃ (xs : List D) (y : D), lk e.cs d = some xs ∧ ds = [y] ∧ shp (.lst xs) = true ∧ shp (drf e.cs y) = true ∧ P (.int (xs.countP (fun z => PyData.eqv (toP z) (toP (drf e.cs y))) : Nat)) e
theorem md_cntD {K : PySem.W.Frag} : MtD K (rCntD K) qCntD := by
  rintro W H σ e x vs d ds P Q S r rs ⟨xs, y, hl, rfl, s1, s2, p⟩ k
  obtain ⟨v, rfl, rv⟩ := rs.one
  obtain ⟨o1, t1⟩ := shp_and s1
  obtain ⟨o2, t2⟩ := shp_and s2
  obtain ⟨a, ws, rfl, h3, h4⟩ := S.ok.lk r hl
  refine ⟨a, v, toP (drf e.cs y), toPs xs, rfl, rfl, .lst h3 (RAll.dp S.ok.ex xs ws h4 o1), S.ok.dp rv o2, t1, t2, ?_⟩
  have ec : (toPs xs).countP (fun z => PyData.eqv z (toP (drf e.cs y))) = xs.countP (fun z => PyData.eqv (toP z) (toP (drf e.cs y))) := by
    rw [toPs_map, List.countP_map]
    rfl
  rw [ec]
  exact k _ _ _ _ _ p W.le_refl S (.int _)
/-! ### [*xs, y] -/
def aStar (te : DE) (tr : DA) : DA := fun e P => te e fun d e1 => ∃ xs, lkP e1.cs d = some xs ∧ tr e1 fun ys e2 => P (xs ++ ys) e2
theorem da_star {X : Cx} {B : Bs} {ex : Expr} {es : List Expr} {te : DE} {tr : DA} {p : Pos} (he : PE X ex (lE X.K B te)) (hr : PA X es (lA X.K B tr)) (hs : starEach (.Starred ex p :: es) X.env = (true, eval ex X.env) :: starEach es X.env := by rfl) : PA X (.Starred ex p :: es) (lA X.K B (aStar te tr)) :=
  PA.imp (StX.pa_star he hr hs) fun σ H Q ⟨W, e, P, bl, S, t, k⟩ => ⟨W, e, _, bl, S, t, fun d e1 W1 H1 v ⟨xs, hx, t1⟩ l1 S1 r1 => by
    obtain ⟨a, vs, rfl, h1, h2⟩ := S1.ok.lkP r1 hx
    exact ⟨a, vs, rfl, .inr (SqL.of h1), W1, e1, _, B.up bl l1, S1, t1, fun ys e2 W2 H2 ws p l2 S2 r2 => k _ _ _ _ _ p (l1.tr l2) S2 ((RAll.mono l2 _ _ h2).append r2)⟩⟩
theorem v_star {te : DE} {tr : DA} {e : En} {P : List D → En → Prop} (h : te e fun d e1 => ∃ xs, lkP e1.cs d = some xs ∧ tr e1 fun ys e2 => P (xs ++ ys) e2) : aStar te tr e P := h
/-! ### a, b, c = x, y, z -/
def sPar3 (i j l : Nat) (ta : DA) : DS := fun P e => ta e fun ds e1 => ∃ x y z, ds = [x, y, z] ∧ P.nx { e1 with sl := ((e1.sl.set i (some x)).set j (some y)).set l (some z) }
theorem ds_par3 {X : Cx} {B : Bs} {i j l : Nat} {x y z : Str} {a b c : Expr} {ta : DA} {px py pz pt k2p pos : Pos} {kt k2} (hc : X.calm = true) (hN : X.N.Nodup) (hi : X.N[i]? = some x) (hj : X.N[j]? = some y) (hl : X.N[l]? = some z) (hij : i ≠ j) (hil : i ≠ l) (hjl : j ≠ l)
    (hx : X.env.scope.names.lookup x = some .local) (hy : X.env.scope.names.lookup y = some .local) (hz : X.env.scope.names.lookup z = some .local) (ha : PA X [a, b, c] (lA X.K B ta))
    (hw : swappedStores [.Tuple [.Name x px, .Name y py, .Name z pz] kt pt] (.Tuple [a, b, c] k2 k2p) X.env = pure (some [x, y, z]) := by rfl)
    (hs : swapsWithSole [.Tuple [.Name x px, .Name y py, .Name z pz] kt pt] (.Tuple [a, b, c] k2 k2p) pos.line X.env = pure false := by rfl) :
    PS X (.Assign [.Tuple [.Name x px, .Name y py, .Name z pz] kt pt] (.Tuple [a, b, c] k2 k2p) pos) (lS X.K B (sPar3 i j l ta)) :=
  PS.imp (ps_par3 hc hN hi hj hl hij hil hjl hx hy hz ha hw hs) fun E σ H h => by
    obtain ⟨W, e, P, bl, S, h, cc⟩ := lS_un h
    refine ⟨W, e, _, bl, S, h, fun ds e1 W1 H1 vs ⟨x, y, z, hd, p⟩ l S1 r => ?_⟩
    subst hd
    cases r with
    | cons r1 r =>
      cases r with
      | cons r2 r =>
        cases r with
        | cons r3 r4 =>
          cases r4
          exact ⟨_, _, _, rfl, cc.nx _ _ _ _ p l ⟨S1.ok, ((S1.sl.set r1).set r2).set r3⟩⟩
theorem v_par3 {i j l : Nat} {ta : DA} {P : Po} {e : En} (h : ta e fun ds e1 => ∃ x y z, ds = [x, y, z] ∧ P.nx { e1 with sl := ((e1.sl.set i (some x)).set j (some y)).set l (some z) }) : sPar3 i j l ta P e := h
/-! ### (x, ..) * n -/
theorem tuple_mul1 (l : Addr) (items : Array Value) (n : Nat) (dd : Option Addr) (sl : Array (Option Value)) (u : Tok) :
    Meets (Builtin.«tuple.__mul__» ⟨[.ref l, .int 1 u], []⟩) (fun _ R s => s.heap.get? l = some { cls := .type "tuple", dict := dd, data := .seq items n, slots := sl } ∧ R (.ok (.ret (Value.ref l))) s) :=
  .of_wp fun prog w A R s h => by
    obtain ⟨hp, g, d, tk, os⟩ := s
    obtain ⟨hl, h⟩ := h
    have f1 := AutoSeq1.idx_int
    have c0 : (decide ((1 : Int) < -(2 ^ 63)) || decide ((1 : Int) ≥ 2 ^ 63)) = false := by decide
    have c1 : (items.isEmpty || (1 : Int) == 1) = true := by simp
    wp_walk using wpAny_loadPart' hl
    repeat (first
      | (refine wpAny_ite_false (decide_eq_false (by rw [c0]; exact Bool.false_ne_true)) ?_; wp_walk using wpAny_loadPart' hl)
      | (refine wpAny_ite_true (decide_eq_true (by rw [c1])) ?_; wp_walk using wpAny_loadPart' hl))
    exact ⟨_, rfl, h⟩
def rRep1 (K : PySem.W.Frag) : R2 := fun x y H Q => ∃ l xs, x = .ref l ∧ y = .int 1 ∧ SqT K H l xs ∧ Q x H
theorem op_rep1 {X : Cx} : OpR X (binaryOp .Mult) (rRep1 X.K) := by
  intro pins s σ H x y v u Q I rx ry h
  obtain ⟨l, xs, rfl, rfl, hT, q⟩ := h
  cases rx
  obtain ⟨t, rfl⟩ := ry
  obtain ⟨its, r, ⟨⟨cls, dd, data, sl⟩, ho, hc, n, hd⟩, hs⟩ := I.tuple hT
  simp only at hc hd
  subst hc hd
  refine wpAny_binaryOp_repeat_ref (T := "tuple") (U := "int") (by decide) ⟨_, ho, rfl⟩ (fun s' => typeIs_int s' 1 t) noFill_tuple_mul PySem.F.fills_int_mul PySem.F.slot_int_rmul repeat_tuple PySem.F.slot_int_index.lookup
    (call_meets PySem.F.slot_int_rmul (typeIs_int s 1 t) PySem.F.entry_int_rmul (PySem.F.args_int_rmul_2 _ _) (int_rmul_tuple 1 t l its.toArray n dd sl)
      ⟨ho, rfl, ⟨_, ho, rfl⟩, call_meets PySem.F.slot_tuple_mul ⟨_, ho, rfl⟩ PySem.F.entry_tuple_mul (PySem.F.args_tuple_mul_2 _ _) (tuple_mul1 l its.toArray n dd sl t) ⟨ho, ?_⟩⟩)
  exact ⟨.ref l, H, I, rfl, q⟩
def rRepA (K : PySem.W.Frag) : R2 := fun x y H Q => rRepT K x y H Q ∨ rRep1 K x y H Q
theorem op_repA {X : Cx} : OpR X (binaryOp .Mult) (rRepA X.K) := op_repT.or op_rep1
def qRepT : D → D → DE
  | .tup xs, .int k => fun e P => xs ≠ [] ∧ 1 ≤ k ∧ k ≤ 1000 ∧ xs.length ≤ 1000 ∧ P (.tup (List.replicate k.toNat xs).flatten) e
  | _, _ => fun _ _ => False
theorem RAll.rep {K : PySem.W.Frag} {W : Wd} {vs : List V} {ds : List D} (h : RAll K W vs ds) : ∀ n : Nat, RAll K W (List.replicate n vs).flatten (List.replicate n ds).flatten
  | 0 => .nil
  | n + 1 => by
    rw [List.replicate_succ, List.replicate_succ, List.flatten_cons, List.flatten_cons]
    exact h.append (RAll.rep h n)
theorem od_rep {K : PySem.W.Frag} : OpD K (rRepA K) qRepT := by
  intro W H σ e x y d1 d2 P Q S r1 r2 t k
  unfold qRepT at t
  split at t
  · obtain ⟨hne, h1, h2, hz, p⟩ := t
    cases r2
    cases r1 with
    | @tup l vs _ hs ha =>
      rename_i kk
      by_cases e1 : kk = 1
      · subst e1
        refine .inr ⟨l, vs, rfl, rfl, Evl.ex_t S.ok.ex hs, ?_⟩
        refine k _ _ _ _ _ p W.le_refl S ?_
        have e2 : ∀ {α : Type} (ys : List α), (List.replicate (1 : Int).toNat ys).flatten = ys := fun ys => by simp
        rw [e2]
        exact .tup hs ha
      · refine .inl ⟨l, _, vs, rfl, rfl, Evl.ex_t S.ok.ex hs, fun z => hne ?_, by omega, h2, by rw [ha.length]; exact hz, ?_⟩
        · subst z; cases ha; rfl
        · exact newT_ok S (ha.rep kk.toNat) p k
  · exact t.elim
theorem v_rep {xs : List D} {n : Int} {e : En} {P : D → En → Prop} (hne : xs ≠ []) (h1 : 1 ≤ n) (h2 : n ≤ 1000) (hz : xs.length ≤ 1000) (p : P (.tup (List.replicate n.toNat xs).flatten) e) : qRepT (.tup xs) (.int n) e P := ⟨hne, h1, h2, hz, p⟩
/-! ### isinstance(x, (T1, T2)) -/
def rIsiS (K : PySem.W.Frag) : List V → Hp → VK → Prop := fun xs H Q => ∃ (x : V) (tp : Addr) (cs : List V) (t : Value) (us : List Value) (b : Bool), xs = [x, .ref tp] ∧ SqT K H tp cs ∧ Paired ClsV cs us ∧ TyX K H x t ∧ PySem.W.kitAny K t us = some b ∧ Q (.bl b) H
theorem call_isiS {X : Cx} : CallR X (.builtin "isinstance") (rIsiS X.K) := by
  intro pins s σ H xs us Q I r h
  obtain ⟨x, tp, cs, t, ws, b, rfl, hT, k, ty, e, q⟩ := h
  obtain ⟨u1, u2, rfl, r1, r2⟩ := vals2 r
  cases (show u2 = Value.ref tp from r2)
  obtain ⟨P, Z, p, hx⟩ := kit_of I r1 ty
  obtain ⟨its, rv, ⟨o, h1, h2, n, h3⟩, _⟩ := I.tuple hT
  have e3 := ClsV.all k rv
  subst e3
  obtain ⟨oc, od, dt, sl⟩ := o
  simp only at h2 h3
  subst h2 h3
  exact PySem.W.kia_tup Z I.kIn p h1 e hx fun tk => ⟨.bl b, H, I.tok tk, rfl, q⟩
def qIsi2 : List D → DE
  | [d, .tup [.raw (.ty T), .raw (.ty U)]] => fun e P => tyKnown T = true ∧ tyKnown U = true ∧ ∃ a, tyN e.cs d = some a ∧ P (.bl (isTy a T || isTy a U)) e
  | _ => fun _ _ => False
theorem cd_isi2 {K : PySem.W.Frag} : CallD K (rIsiS K) qIsi2 := by
  intro W H σ e vs ds P Q S r t k
  unfold qIsi2 at t
  split at t
  · obtain ⟨v, v2, rfl, r1, r2⟩ := r.two
    obtain ⟨hT, hU, a, ea, p⟩ := t
    obtain ⟨ty, mem⟩ := S.ok.ty r1 ea
    cases r2 with
    | tup hs ha =>
      cases ha with
      | cons a1 a2 =>
        cases a2 with
        | cons a2 a3 =>
          cases a1; cases a2; cases a3
          refine ⟨v, _, _, _, [.type _, .type _], _, rfl, Evl.ex_t S.ok.ex hs, .cons (.ty _) (.cons (.ty _) .nil), ty, ?_, k _ _ _ _ _ p W.le_refl S (.bl _)⟩
          have e1 := kit_ty (K := K) (kit_in mem hT)
          have e2 := kit_ty (K := K) (kit_in mem hU)
          unfold PySem.W.kitAny
          rw [e1]
          rename_i T' U' _
          cases hb : isTy a T' with
          | true => rfl
          | false =>
            show (match PySem.W.kitOne K _ _ with
              | some true => some true
              | some false => PySem.W.kitAny K _ []
              | none => none) = _
            rw [e2]
            cases hb2 : isTy a U' with
            | true => rfl
            | false => rfl
  · exact t.elim
/-! ### k in d as a test -/
theorem de_din {X : Cx} {B : Bs} {o i : Expr} {td ti : DE} {pos : Pos} (hu : X.A.units + 1 < cLine) (hi : PE X i (lE X.K B ti)) (ho : PE X o (lE X.K B td)) (hm : behindInMarks CmpOp.In o = false) : PE X (.Compare i [.In] [o] pos) (lE X.K B (eDin ti td)) := pe_cmp (dc_din hu hi ho) hm
theorem dt_din {X : Cx} {B : Bs} {o i : Expr} {td ti : DE} {pos : Pos} (hu : X.A.units + 1 < cLine) (hi : PE X i (lE X.K B ti)) (ho : PE X o (lE X.K B td)) (hm : behindInMarks CmpOp.In o = false) : PT X (.Compare i [.In] [o] pos) (lT X.K B (eTest (eDin ti td))) :=
  PT.imp (pt_cmp (dc_din hu hi ho) hm) (test_ok fun _ _ _ z => z)
theorem units1 {k : Nat} {A : Around} (r : Room k A) : A.units + 1 < cLine := by have := r.un; omega
/-! ### a list that is given up: it changes no more -/
mutual
def subC (n : Nat) (ys : List D) : D → D
  | .tup xs => .tup (subCs n ys xs)
  | .lst xs => .lst (subCs n ys xs)
  | .fro xs => .fro (subCs n ys xs)
  | .ins C ns xs => .ins C ns (subCs n ys xs)
  | .cell m => if m = n then .lst ys else .cell m
  | .non => .non
  | .bl b => .bl b
  | .int i => .int i
  | .str s => .str s
  | .dct => .dct
  | .raw v => .raw v
def subCs (n : Nat) (ys : List D) : List D → List D
  | [] => []
  | x :: xs => subC n ys x :: subCs n ys xs
end
section
variable {K : PySem.W.Frag} {W : Wd} {n : Nat} {a : Addr} {vs : List V} {ys : List D}
mutual
theorem R.subC (hm : W.m[n]? = some a) (hF : W.F a = some (.lst vs)) (hr : RAll K W vs ys) : ∀ (d : D) (v : V), R K W v d → R K W v (DL.subC n ys d)
  | .non, _, h => by cases h; exact .non
  | .bl b, _, h => by cases h; exact .bl b
  | .int i, _, h => by cases h; exact .int i
  | .str s, _, h => by cases h; exact .str s
  | .tup xs, _, h => by
    cases h with
    | tup hs ha => exact .tup hs (RAll.subC hm hF hr xs _ ha)
  | .lst xs, _, h => by
    cases h with
    | lst hs ha => exact .lst hs (RAll.subC hm hF hr xs _ ha)
  | .fro xs, _, h => by
    cases h with
    | fro hs ha => exact .fro hs (RAll.subC hm hF hr xs _ ha)
  | .ins C ns xs, _, h => by
    cases h with
    | ins hs ha => exact .ins hs (RAll.subC hm hF hr xs _ ha)
  | .cell m, _, h => by
    cases h with
    | cell hs =>
      unfold DL.subC
      by_cases e : m = n
      · subst e
        rw [hm] at hs
        cases hs
        rw [if_pos rfl]
        exact .lst hF hr
      · rw [if_neg e]
        exact .cell hs
  | .dct, _, h => by cases h with | dct hs => exact .dct hs
  | .raw v, _, h => by cases h; exact .raw v
theorem RAll.subC (hm : W.m[n]? = some a) (hF : W.F a = some (.lst vs)) (hr : RAll K W vs ys) : ∀ (ds : List D) (us : List V), RAll K W us ds → RAll K W us (DL.subCs n ys ds)
  | [], _, h => by cases h; exact .nil
  | d :: ds, _, h => by
    cases h with
    | cons h1 h2 => exact .cons (R.subC hm hF hr d _ h1) (RAll.subC hm hF hr ds _ h2)
end
end
/-- lists given up, one after the other -/
inductive Fzs : D → List Cel → D → List Cel → Prop
  | nil {d : D} {cs : List Cel} : Fzs d cs d cs
  | one {d d' : D} {cs cs' : List Cel} {n : Nat} {xs : List D} : cs[n]? = some (.lst xs) → Fzs (subC n xs d) (cs.set n .dead) d' cs' → Fzs d cs d' cs'
def eFz (te : DE) : DE := fun e P => te e fun d e1 => ∃ d' cs', Fzs d e1.cs d' cs' ∧ P d' { e1 with cs := cs' }
theorem fz_ok {K : PySem.W.Frag} {H : Hp} {σ : L2.St} {sl : List (Option D)} {v : V} {d d' : D} {cs cs' : List Cel} (h : Fzs d cs d' cs') : ∀ {W : Wd}, Sd K W H σ ⟨sl, cs⟩ → R K W v d → ∃ W', W.le W' ∧ Sd K W' H σ ⟨sl, cs'⟩ ∧ R K W' v d' := by
  induction h with
  | nil => exact fun {W} S r => ⟨W, W.le_refl, S, r⟩
  | @one d d' cs cs' n xs hc _ ih =>
    intro W S r
    have hn : n < W.m.length := by
      rw [S.ok.len]
      exact (List.getElem?_eq_some_iff.mp hc).1
    have hm : W.m[n]? = some W.m[n] := List.getElem?_eq_getElem hn
    obtain ⟨vs, h1, h2⟩ := S.ok.cellL hm hc
    obtain ⟨ok, l⟩ := S.ok.freeze hm hc h1
    have S2 : Sd K ⟨upd W.F W.m[n] (.lst vs), W.m, W.h⟩ H σ ⟨sl, cs.set n .dead⟩ := ⟨ok, S.sl.mono l⟩
    have r2 := R.subC (W := ⟨upd W.F W.m[n] (.lst vs), W.m, W.h⟩) (n := n) hm (show upd W.F W.m[n] (.lst vs) W.m[n] = _ from upd_same) (RAll.mono l _ _ h2) d v (R.mono l _ _ r)
    obtain ⟨W', l', S', r'⟩ := ih S2 r2
    exact ⟨W', l.tr l', S', r'⟩
theorem de_fz {X : Cx} {B : Bs} {ex : Expr} {te : DE} (he : PE X ex (lE X.K B te)) : PE X ex (lE X.K B (eFz te)) :=
  PE.imp he fun σ H Q ⟨W, e, P, bl, S, t, k⟩ => ⟨W, e, _, bl, S, t, fun d e1 W1 H1 v ⟨d', cs', hz, p⟩ l1 S1 r1 => by
    obtain ⟨W2, l2, S2, r2⟩ := fz_ok hz (sl := e1.sl) S1 r1
    exact k _ _ _ _ _ p (l1.tr l2) S2 r2⟩
theorem v_fz {te : DE} {e : En} {P : D → En → Prop} (h : te e fun d e1 => ∃ d' cs', Fzs d e1.cs d' cs' ∧ P d' { e1 with cs := cs' }) : eFz te e P := h
/-! ### script + [..]: a list that is known as it is -/
theorem list_addP (l : Addr) (o1 : Obj) (items : Array Value) (n : Nat) (b : Addr) (o2 : Obj) (items2 : Array Value) (n2 : Nat) (c1 : o1.cls = .type "list") (d1 : o1.data = .seq items n) (c2 : o2.cls = .type "list") (d2 : o2.data = .seq items2 n2) (hc0 : items.size + items2.size ≤ sizeLine) :
    Meets (Builtin.«list.__add__» ⟨[.ref l, .ref b], []⟩) (fun _ R s => s.heap.get? l = some o1 ∧ s.heap.get? b = some o2 ∧ R (.ok (.ret (Value.ref s.heap.objs.size))) { s with heap := s.heap.push { cls := Value.type "list", data := Data.seq (items ++ items2) }, toks := s.toks }) :=
  .of_wp fun prog w A R s h => by
    obtain ⟨oc, od, dt, sl⟩ := o1
    obtain ⟨oc2, od2, dt2, sl2⟩ := o2
    simp only at c1 d1 c2 d2
    subst c1 d1 c2 d2
    obtain ⟨hp, g, d, tk, os⟩ := s; obtain ⟨hl, hb, h⟩ := h; have f1 := PySem.AutoSeq1.idx_int; have f2 := PySem.AutoSeq1.sub_tuple_tuple; have f3 := PySem.AutoSeq1.sub_list_list; have f4 := PySem.AutoSeq1.sub_tuple_list; have f5 := PySem.AutoSeq1.sub_list_tuple; wp_walk using wpAny_loadPart' hl, wpAny_loadPart' hb; exact ⟨_, rfl, h⟩
def rCatF (K : PySem.W.Frag) : R2 := fun x y H Q => ∃ l b xs zs, x = .ref l ∧ y = .ref b ∧ SqL K H l xs ∧ H b = some (.lst zs) ∧ xs.length + zs.length ≤ sizeLine ∧ ∀ p, H p = none → Q (.ref p) (upd H p (.lst (xs ++ zs)))
theorem op_catF {X : Cx} : OpR X (binaryOp .Add) (rCatF X.K) := by
  intro pins s σ H x y v u Q I rx ry h
  obtain ⟨l, b, xs, zs, rfl, rfl, hH, hB, hz, q⟩ := h
  cases rx
  cases ry
  obtain ⟨its, r, ⟨o, n, e, hc, _, hdt⟩, hl⟩ := I.list hH
  obtain ⟨z2, its2, n2, r2, hl2, e2⟩ := I.lstM hB
  have el := r.length
  refine concat_meets ⟨o, e, hc⟩ ⟨_, e2, rfl⟩ noFill_list_add seq_list_add F.slot_list_add F.entry_list_add (F.args_list_add_2 _ _) (list_addP l o its.toArray n b _ its2.toArray n2 hc hdt rfl rfl (by rw [List.size_toArray, List.size_toArray]; omega)) ⟨e, e2, ?_⟩
  have ea : its.toArray ++ its2.toArray = (its ++ its2).toArray := by simp
  rw [ea]
  exact ⟨.ref _, _, I.lnew (t' := s.toks) (r.append r2) (by rw [List.length_append]; omega), rfl, q _ I.fresh⟩
def qCatF (o : Bool) : D → D → DE := fun x y e P => ∃ xs ys, x = .fro xs ∧ lkP e.cs y = some ys ∧ xs.length + ys.length ≤ sizeLine ∧ newL o (xs ++ ys) e P
theorem od_catF {K : PySem.W.Frag} {o : Bool} : OpD K (rCatF K) (qCatF o) := by
  rintro W H σ e x y d1 d2 P Q S r1 r2 ⟨xs, ys, rfl, e2, hz, t⟩ k
  cases r1 with
  | fro h1 q1 =>
    obtain ⟨p2, ws, rfl, h2, q2⟩ := S.ok.lkP r2 e2
    exact ⟨_, p2, _, ws, rfl, rfl, Evl.ex_l S.ok.ex h1, h2, by rw [q1.length, q2.length]; exact hz, newL_ok S (q1.append q2) t k⟩
theorem v_catF {o : Bool} {x y : D} {e : En} {P : D → En → Prop} {xs ys : List D} (h1 : x = .fro xs) (h2 : lkP e.cs y = some ys) (hz : xs.length + ys.length ≤ 100000) (p : newL o (xs ++ ys) e P) : qCatF o x y e P := ⟨xs, ys, h1, h2, Nat.le_trans hz (by decide), p⟩
end DL
/-! exceptions: what leaves a def, by class, what it holds, and cells -/
namespace DL
open PySem PySem.Spec PyProof.Rows L2
open Evl (Ex)

/-- an exception: its class, and its field index, if its class has that -/
structure XN where
  c : Str
  p : Option Int
def xnF (i : Int) : List (Str × V) := [("index", .int i)]
def PayOk (p : Option Int) (d : Option Addr) (W : Wd) : Prop := match p with
  | none => d = none
  | some i => ∃ dd, d = some dd ∧ W.F dd = some (.xd (xnF i))
theorem PayOk.mono {p : Option Int} {d : Option Addr} {W W' : Wd} (h : PayOk p d W) (l : W.le W') : PayOk p d W' := by
  cases p with
  | none => exact h
  | some i =>
    obtain ⟨dd, e1, e2⟩ := h
    exact ⟨dd, e1, l.1 _ _ e2⟩
/-- a promise with what may be raised -/
abbrev SpX := List D → List Cel → (D → List Cel → Prop) → (XN → List Cel → Prop) → Prop
def spDX (K : PySem.W.Frag) (sp : SpX) : Sp := fun vs H Q E => ∃ W cs ds P PX, Ok K W H cs ∧ RAll K W vs ds ∧ sp ds cs P PX ∧ (∀ d cs' W' H' v, P d cs' → W.le W' → Ok K W' H' cs' → R K W' v d → Q v H') ∧
  ∀ x cs' W' H' d, PX x cs' → PayOk x.p d W' → W.le W' → Ok K W' H' cs' → E (.ref (He.ga K x.c)) d H'
def GoodX (P : Program) (w : World) (K : PySem.W.Frag) (mg : Str → Option Value) (base : Heap) (k : Nat) (f : Addr) (ps : List Str) (sp : SpX) : Prop :=
  ∃ fd, FnOk P w K mg base (L2.CX P w) k f fd ps (spDX K sp) ∧ Binds K fd ps [] ∧ PySem.W.keepIn K (.ref f) = true
theorem GoodX.mono {P : Program} {w : World} {K : PySem.W.Frag} {mg : Str → Option Value} {base : Heap} {j k : Nat} {f : Addr} {ps : List Str} {sp : SpX} (g : GoodX P w K mg base j f ps sp) (h : j ≤ k) : GoodX P w K mg base k f ps sp := by
  obtain ⟨fd, F, b, kp⟩ := g
  exact ⟨fd, F.mono h, b, kp⟩
/-- what is wished of an exception -/
def wE (K : PySem.W.Frag) (B : Bs) (XX : XN → List Cel → Prop) : XK := fun cls d H => ∃ x W cs, cls = .ref (He.ga K x.c) ∧ PayOk x.p d W ∧ B.p W ∧ Ok K W H cs ∧ XX x cs
def XT (X : Cx) (B : Bs) (XX : XN → List Cel → Prop) : Prop := L2.Takes X (fun cls d _ H => wE X.K B XX cls d H)
theorem XT.passes {X : Cx} {B : Bs} {XX : XN → List Cel → Prop} (tk : XT X B XX) : Passes (L2.CX X.prog X.w) X (wE X.K B XX) :=
  fun pins σ H s e s' I c => L2.passes_call tk (fun _ _ _ _ h => h) pins σ H s e s' I c
/-- with the slots' number -/
theorem XT.of {X : Cx} {B : Bs} {XX : XN → List Cel → Prop} {W : WX} (t : L2.Takes X W) (h : ∀ cls d σ H, σ.length = X.N.length → wE X.K B XX cls d H → W cls d σ H) : XT X B XX :=
  fun u s' ⟨a, B', sI, pins, σ, H, cls, d, e, I, nb, up, sky, na, os, ag, w⟩ => t u s' ⟨a, B', sI, pins, σ, H, cls, d, e, I, nb, up, sky, na, os, ag, h _ _ _ _ I.len w⟩

/-! ### raise -/
section
variable {X : Cx} {B : Bs} {XX : XN → List Cel → Prop} {ex a b o ix : Expr} {es : List Expr} {te tv to ti ta' tb' : DE} {ta : DA} {C : Addr} {f m x : Str} {pos apos p p2 : Pos} {k : Nat} {fn : Addr} {ps : List Str} {sp : SpX}
def sRaise (XX : XN → List Cel → Prop) (c : Str) : DS := fun _ e => XX ⟨c, none⟩ e.cs
theorem ds_raise {c : Str} {j : Nat} (hc : X.calm = true) (tk : XT X B XX) (xo : PySem.W.excIn X.K (He.ga X.K c) He.veBase "ValueError.__new__" = true ∧ PySem.W.keepIn X.K (.ref (He.ga X.K c)) = true ∧ PySem.W.subIn X.K (.ref (He.ga X.K c)) (.type "BaseException") = some true ∧ PySem.W.typeIn X.K (.ref (He.ga X.K c)) = some (.type "type"))
    (gC : X.mg c = some (.ref (He.ga X.K c))) (hg : Gl X c) (hdb : (c == ("__debug__" : Str)) = false := by decide) : PS X (.Raise (some (.Call (.Name c p) [.Constant (.str m) j p2] [] pos)) none apos) (lS X.K B (sRaise XX c)) :=
  PS.imp (L2.ps_raise hc tk (L2.pmk_own F.excBase_ValueError xo.1 gC xo.2.1 (raises_own xo.2.2.1 xo.2.2.2) hg hdb)) fun E σ H h => by
    obtain ⟨W, e, P, bl, S, h, _⟩ := lS_un h
    exact ⟨⟨c, none⟩, W, e.cs, rfl, rfl, bl, S.ok, h⟩

/-! ### calls that may raise -/
def eCallX (XX : XN → List Cel → Prop) (sp : SpX) (ta : DA) : DE := fun e P => ta e fun ds e1 => sp ds e1.cs (fun d cs' => P d { e1 with cs := cs' }) XX
theorem de_callX (G : GoodX X.prog X.w X.K X.mg X.base k fn ps sp) (tk : XT X B XX) (hr : Room k X.A) (hm : X.mg x = some (.ref fn)) (ha : PA X (ex :: es) (lA X.K B ta)) (hg : Gl X x := by rfl) (hdb : (x == ("__debug__" : Str)) = false := by decide)
    (he : starEach (ex :: es) X.env = (false, eval ex X.env) :: starEach es X.env := by rfl) (hpl : (backTo pos (starEach es X.env)).any (·.1) = false := by rfl) : PE X (.Call (.Name x p) (ex :: es) [] pos) (lE X.K B (eCallX XX sp ta)) := by
  obtain ⟨fd, F, b, kp⟩ := G
  refine PE.imp (pe_call F hr hg hm kp b .nil tk.passes ha hdb he hpl) fun σ H Q ⟨W, e, P, bl, S, t, k⟩ => ⟨W, e, _, bl, S, t, fun ds e1 W1 H1 vs h l S1 r => ?_⟩
  show spDX X.K sp (vs ++ []) H1 Q (wE X.K B XX)
  rw [List.append_nil]
  exact ⟨W1, e1.cs, ds, _, XX, S1.ok, r, h, fun d cs' W2 H2 v p l2 ok2 r2 => k _ _ _ _ _ p (l.tr l2) ⟨ok2, S1.sl.mono l2⟩ r2, fun x cs' W2 H2 d px pd l2 ok2 => ⟨x, W2, cs', rfl, pd, B.up bl (l.tr l2), ok2, px⟩⟩
/-- what the caller sees: its own cells -/
def FinX (cs0 : List Cel) (PX : XN → List Cel → Prop) (x : XN) (cs : List Cel) : Prop := PX x cs ∨ ((∀ c ∈ cs.take cs0.length, c ∈ cs0 ∨ c.loD cs0.length = true) ∧ PX x (cs.take cs0.length))
def eMakeX (C : Addr) (XX : XN → List Cel → Prop) (sp : SpX) (ta : DA) : DE := fun e P => ta e fun ds e1 => sp (.cell e1.cs.length :: ds) (e1.cs ++ [.ins C [] []])
  (fun d cs' => d = .non ∧ (P (.cell e1.cs.length) { e1 with cs := cs' } ∨ ∃ cs1 C' ns xs, cs' = cs1 ++ [.ins C' ns xs] ∧ cs1.length = e1.cs.length ∧ los e1.cs.length xs = true ∧ (∀ c ∈ cs1, c ∈ e1.cs ∨ c.loD e1.cs.length = true) ∧ P (.ins C' ns xs) { e1 with cs := cs1 }))
  (FinX e1.cs XX)
theorem de_makeX (G : GoodX X.prog X.w X.K X.mg X.base k fn ps sp) (tk : XT X B XX) (hr : Room (k + 1) X.A) (M : Mk X.K C fn) (hm : X.mg x = some (.ref C)) (ha : PA X (ex :: es) (lA X.K B ta)) (hg : Gl X x := by rfl) (hdb : (x == ("__debug__" : Str)) = false := by decide)
    (he : starEach (ex :: es) X.env = (false, eval ex X.env) :: starEach es X.env := by rfl) (hpl : (backTo pos (starEach es X.env)).any (·.1) = false := by rfl) : PE X (.Call (.Name x p) (ex :: es) [] pos) (lE X.K B (eMakeX C XX sp ta)) := by
  obtain ⟨fd, F, bb, kp⟩ := G
  refine PE.imp (pe_make M F hr hg hm bb .nil tk.passes ha hdb he hpl) fun σ H Q ⟨W, e, P, bl, S, t, k⟩ => ⟨W, e, _, bl, S, t, fun ds e1 W1 H1 vs h l S1 r => fun x dx hx hdx hne => ?_⟩
  have hx2 : upd H1 dx (.own x) x = none := by rw [upd_ne (Ne.symm hne)]; exact hx
  have okd : Ok X.K W1 (upd H1 dx (.own x)) e1.cs := by
    have ne : ∀ a ∈ W1.m, a ≠ dx := fun a ha e => S1.ok.fresh hdx (e ▸ ha)
    have neh : ∀ q ∈ W1.h, q.1 ≠ dx := fun q hq e => by
      have := (S1.ok.hd q hq).1
      rw [e, hdx] at this; cases this
    refine ⟨S1.ok.ex.trans (Ex.new hdx), S1.ok.len, S1.ok.nd, fun a ha => by rw [upd_ne (ne a ha)]; exact S1.ok.here a ha, S1.ok.fr, fun n a c e1 e2 => (S1.ok.cl n a c e1 e2).heap (upd_ne (ne a (List.mem_of_getElem? e1))), fun q hq => ?_, S1.ok.hn⟩
    obtain ⟨g1, g2, g3⟩ := S1.ok.hd q hq
    exact ⟨by rw [upd_ne (neh q hq)]; exact g1, g2, g3⟩
  obtain ⟨ok, l2⟩ := okd.newC (o := .ins C dx []) (c := .ins C [] []) hx2 fun W' l => ⟨dx, [], upd_same, rfl, .nil⟩
  have rc : R X.K ⟨W1.F, W1.m ++ [x], W1.h⟩ (.ref x) (.cell e1.cs.length) := .cell (by
    show (W1.m ++ [x])[e1.cs.length]? = some x
    rw [← S1.ok.len, List.getElem?_append_right (Nat.le_refl _)]
    simp)
  rw [List.append_nil]
  refine ⟨_, _, _, _, FinX e1.cs XX, ok, .cons rc (RAll.mono l2 _ _ r), h, fun d cs' W3 H3 v ⟨hd, p⟩ l3 ok3 r3 => ⟨by subst hd; exact r3.non_inv, ?_⟩, fun xn cs' W3 H3 dd px pd l3 ok3 => ?_⟩
  · rcases p with p | ⟨cs1, C', ns, xs, rfl, hl, hx, hc, p⟩
    · exact k _ _ _ _ _ p ((l.tr l2).tr l3) ⟨ok3, S1.sl.mono (l2.tr l3)⟩ (R.mono l3 _ _ rc)
    · have l13 := l2.tr l3
      have tk : (cs1 ++ [Cel.ins C' ns xs]).take e1.cs.length = cs1 := by rw [← hl]; exact List.take_left
      obtain ⟨ok4, l4⟩ := S1.ok.trim ok3 l13 (by rw [tk]; exact hc)
      rw [tk] at ok4
      have rc3 := R.mono l3 _ _ rc
      cases rc3 with
      | cell hm =>
        have hcl : (cs1 ++ [Cel.ins C' ns xs])[e1.cs.length]? = some (Cel.ins C' ns xs) := by
          rw [← hl, List.getElem?_append_right (Nat.le_refl _)]; simp
        obtain ⟨dx', gs, g1, g2, g3⟩ := ok3.cl _ _ _ hm hcl
        have g4 : RAll X.K ⟨W3.F, W3.m.take e1.cs.length, W3.h⟩ (gs.map (·.2)) xs := RAll.low _ _ g3 hx
        have hF : W3.F x = none := (ok3.fr _ _ _ hm hcl).resolve_left fun z => nomatch z
        obtain ⟨ok5, l5⟩ := ok4.addF g1 hF (ok3.old_out hm) (fun q hq e => (ok3.hd q hq).2.2 (e ▸ List.mem_of_getElem? hm))
        subst g2
        exact k _ _ _ _ _ p (l.tr (l4.tr l5)) ⟨ok5, S1.sl.mono (l4.tr l5)⟩ (.ins upd_same (RAll.mono l5 _ _ g4))
  · have l13 := l2.tr l3
    rcases px with px | ⟨hc, px⟩
    · exact ⟨xn, W3, cs', rfl, pd, B.up bl (l.tr l13), ok3, px⟩
    · obtain ⟨ok4, l4⟩ := S1.ok.trim ok3 l13 hc
      exact ⟨xn, ⟨W3.F, W3.m.take e1.cs.length, W3.h⟩, _, rfl, pd, B.up bl (l.tr l4), ok4, px⟩
/-- the callee at any nearness -/
theorem run_inX {pins : List (Addr × Obj)} {σ : L2.St} {H : Hp} {s : Shared} {A : Around} {fd : FuncData} {sp : Sp} {E : XK} {Q : VK} {us : List Value} {vs : List V} (F : FnOk X.prog X.w X.K X.mg X.base (L2.CX X.prog X.w) k fn fd ps sp) (hb : Binds X.K fd ps []) (hr : Room k A)
    (e0 : Env0 X.prog X.w X.K X.mg X.base A X.stack s H) (hx : Passes (L2.CX X.prog X.w) X E) (I : Inv X pins σ H s) (r : Vals vs us) (h : sp vs H Q E) : wpAny (model X.prog X.w) A (call (.ref fn) us) (EP X pins σ Q) X.xe s := by
  have hl : (us ++ []).length = ps.length := by rw [List.append_nil, ← r.length]; exact F.len _ _ _ _ h
  have hbt := hb s us I.kIn hl
  rw [List.append_nil] at hbt
  refine wpAny_call (codeAny_mono (F.run A X.stack s H ⟨us, []⟩ us vs Q E hr e0 hbt r h) fun r s' hq => ?_)
  cases r with
  | error e => exact hx _ _ _ _ _ _ I hq
  | ok fl =>
    cases fl with
    | ret u => exact I.after hq
    | next => exact False.elim hq
    | brk => exact False.elim hq
    | cont => exact False.elim hq
def rTwoX (K : PySem.W.Frag) (B : Bs) (XX : XN → List Cel → Prop) (C C2 : Addr) (sp : SpX) : R2 := fun x y H Q => ∃ a dx gs b dy gt, x = .ref a ∧ H a = some (.ins C dx gs) ∧ y = .ref b ∧ H b = some (.ins C2 dy gt) ∧ spDX K sp [.ref a, .ref b] H Q (wE K B XX)
def qTwoX (C C2 : Addr) (XX : XN → List Cel → Prop) (sp : SpX) : D → D → DE := fun d y e P => (∃ ns xs, insD e.cs d = some (C, ns, xs)) ∧ (∃ ns xs, insD e.cs y = some (C2, ns, xs)) ∧ sp [d, y] e.cs (fun r cs' => P r { e with cs := cs' }) XX
theorem op_binX {C : Addr} {op : Operator} (G : GoodX X.prog X.w X.K X.mg X.base k fn ps sp) (tk : XT X B XX) (hr : Room k X.A) (sm : Sm X.K C (PySem.dunder op.info.2) fn) (hc : PySem.W.selfFirst X.K C = true) : OpR X (binaryOp op) (rTwoX X.K B XX C C sp) := by
  rintro pins s σ H x y v u Q I rx ry ⟨a, dx, gs, b, dy, gt, rfl, ha, rfl, hb, h⟩
  obtain ⟨fd, F, bi, kp⟩ := G
  cases (show v = Value.ref a from rx)
  cases (show u = Value.ref b from ry)
  obtain ⟨od, J⟩ := Inv.inst I ha
  obtain ⟨od2, J2⟩ := Inv.inst I hb
  obtain ⟨m, hF⟩ := I.fr
  refine PySem.W.binop_K hF I.ok.mod.kin J J2.type hc sm.at_ sm.fn (wpAny_mono (run_inX (us := [.ref a, .ref b]) (vs := [V.ref a, V.ref b]) F bi hr I.env0 tk.passes I (.cons rfl (.cons rfl .nil)) h) (fun v s' z => ?_) fun _ _ z => z)
  obtain ⟨v', H', I', rv, q⟩ := z
  exact RelV.cmp rv (P := EP X pins σ Q) ⟨v', H', I', rv, q⟩
/-- such an operation: the world is known all along -/
def OpDX (K : PySem.W.Frag) (B : Bs) (r : R2) (q : D → D → DE) : Prop := ∀ (W : Wd) (H : Hp) (σ : L2.St) (e : En) (x y : V) (d1 d2 : D) (P : D → En → Prop) (Q : VK), B.p W → Sd K W H σ e → R K W x d1 → R K W y d2 → q d1 d2 e P →
  (∀ d e' W' H' v, P d e' → W.le W' → Sd K W' H' σ e' → R K W' v d → Q v H') → r x y H Q
theorem od_twoX {K : PySem.W.Frag} {C C2 : Addr} : OpDX K B (rTwoX K B XX C C2 sp) (qTwoX C C2 XX sp) := fun W H σ e x y d1 d2 P Q bl S r1 r2 ⟨⟨n1, x1, i1⟩, ⟨n2, x2, i2⟩, t⟩ k => by
  obtain ⟨a, dx, gs, rfl, h1, h2, h3⟩ := S.ok.ins r1 i1
  obtain ⟨b, dy, gt, rfl, h1', h2', h3'⟩ := S.ok.ins r2 i2
  exact ⟨a, dx, gs, b, dy, gt, rfl, h1, rfl, h1', W, e.cs, [d1, d2], _, XX, S.ok, .cons r1 (.cons r2 .nil), t, fun d cs' W' H' v p l ok r' => k _ _ _ _ _ p l ⟨ok, S.sl.mono l⟩ r', fun x cs' W' H' d px pd l ok => ⟨x, W', cs', rfl, pd, B.up bl l, ok, px⟩⟩
theorem de_binX {op : Operator} {r : R2} {q : D → D → DE} (ho : OpR X (binaryOp op) r) (hq : OpDX X.K B r q) (ha : PE X a (lE X.K B ta')) (hb : PE X b (lE X.K B tb')) : PE X (.BinOp a op b pos) (lE X.K B (eBin q ta' tb')) :=
  PE.imp (pe_op ho ha hb) fun σ H Q ⟨W, e, P, bl, S, t, k⟩ => ⟨W, e, _, bl, S, t, fun x e1 W1 H1 v1 t1 l1 S1 r1 => ⟨W1, e1, _, (B.up bl l1), S1, t1, fun y e2 W2 H2 v2 t2 l2 S2 r2 =>
    hq W2 H2 σ e2 v1 v2 x y P Q (B.up bl (l1.tr l2)) S2 (R.mono l2 _ _ r1) r2 t2 fun d e3 W3 H3 v3 p l3 S3 r3 => k d e3 W3 H3 v3 p ((l1.tr l2).tr l3) S3 r3⟩⟩
def rSetX (K : PySem.W.Frag) (B : Bs) (XX : XN → List Cel → Prop) (C : Addr) (sp : SpX) : TSet := fun x i v H Q => ∃ a dx gs, x = .ref a ∧ H a = some (.ins C dx gs) ∧ spDX K sp [.ref a, i, v] H (fun _ H' => Q H') (wE K B XX)
theorem set_ownX (G : GoodX X.prog X.w X.K X.mg X.base k fn ps sp) (tk : XT X B XX) (hr : Room k X.A) (sm : Sm X.K C "__setitem__" fn) (hq : PySem.W.noSeq X.K C = true) : PSet X (rSetX X.K B XX C sp) := by
  rintro pins s σ H x i v ov iv u Q I rx ri rv ⟨a, dx, gs, rfl, ha, h⟩
  obtain ⟨fd, F, bi, kp⟩ := G
  cases (show ov = Value.ref a from rx)
  obtain ⟨od, J⟩ := Inv.inst I ha
  obtain ⟨m, hF⟩ := I.fr
  have KX := I.kIn
  unfold setItem sequenceKey callSpecial?
  refine wpAny_holding (wpAny_bind (wpAny_bind (J.type.here ?_)))
  refine wpAny_bind ((PySem.W.anyM_none KX hq).here ?_)
  rw [if_pos (show (!false) = true from rfl)]
  refine wpAny_pure (wpAny_bind ?_)
  refine wpAny_mono (PySem.W.special_fn (Q := fun r s' => r ≠ none ∧ ∃ H', Inv X pins σ H' s' ∧ Q H') KX J sm.at_ (beq_iff_eq.mp sm.fn) (wpAny_mono (run_inX (us := [.ref a, iv, u]) (vs := [V.ref a, i, v]) F bi hr I.env0 tk.passes I (.cons rfl (.cons ri (.cons rv .nil))) h) (fun v s' z => ?_) fun _ _ z => z)) (fun r s' z => ?_) fun _ _ z => z
  · obtain ⟨v', H', I', rv, q⟩ := z
    exact ⟨(fun z => nomatch z), H', I', q⟩
  · obtain ⟨h1, H', I', q⟩ := z
    cases r with
    | none => exact absurd rfl h1
    | some _ => exact wpAny_pure ⟨H', I', q⟩
def sSetX (C : Addr) (XX : XN → List Cel → Prop) (sp : SpX) (tv to ti : DE) : DS := fun P e => tv e fun v e1 => to e1 fun o e2 => ti e2 fun i e3 => (∃ ns xs, insD e3.cs o = some (C, ns, xs)) ∧ sp [o, i, v] e3.cs (fun _ cs' => P.nx { e3 with cs := cs' }) XX
theorem ds_setX (G : GoodX X.prog X.w X.K X.mg X.base k fn ps sp) (tk : XT X B XX) (hr : Room k X.A) (sm : Sm X.K C "__setitem__" fn) (hq : PySem.W.noSeq X.K C = true) (hv : PE X ex (lE X.K B tv)) (ho : PE X o (lE X.K B to)) (hi : PE X ix (lE X.K B ti))
    (ha : ∀ v, assign (.Subscript o ix p2) X.env v = (do
      let ov ← holding [v] (eval o X.env)
      let iv ← holding [v, ov] (eval ix X.env)
      standAt p2
      holding [v, ov, iv] (setItem ov iv v)
      release [v, ov, iv] []) := by intro _; rfl)
    (hs : swapsWithSole [.Subscript o ix p2] ex pos.line X.env = pure false := by rfl) (hw : swappedStores [.Subscript o ix p2] ex X.env = pure none := by rfl)
    (h1 : (assignEach [.Subscript o ix p2] X.env).map (·.2) = [assign (.Subscript o ix p2) X.env] := by rfl) : PS X (.Assign [.Subscript o ix p2] ex pos) (lS X.K B (sSetX C XX sp tv to ti)) := PS.imp (ps_asg hv (pg_sub ho hi (set_ownX G tk hr sm hq) ha) hs hw h1) fun E σ H h => by
  obtain ⟨W, e, P, bl, S, h, c⟩ := lS_un h
  refine ⟨W, e, _, bl, S, h, fun d e1 W1 H1 v t1 l1 S1 r1 => ⟨W1, e1, _, B.up bl l1, S1, t1, fun ob e2 W2 H2 w t2 l2 S2 r2 => ⟨W2, e2, _, B.up bl (l1.tr l2), S2, t2, fun ix e3 W3 H3 x t3 l3 S3 r3 => ?_⟩⟩⟩
  obtain ⟨⟨ns, xs, hi⟩, t3⟩ := t3
  have r23 := R.mono l3 _ _ r2
  have b3 := B.up bl ((l1.tr l2).tr l3)
  obtain ⟨a, dx, gs, rfl, h1', h2', h3'⟩ := S3.ok.ins r23 hi
  exact ⟨a, dx, gs, rfl, h1', W3, e3.cs, [ob, ix, d], _, XX, S3.ok, .cons r23 (.cons r3 (.cons (R.mono (l2.tr l3) _ _ r1) .nil)), t3, fun d' cs' W' H' v' p l ok r' => c.nx _ _ _ _ p (((l1.tr l2).tr l3).tr l) ⟨ok, S3.sl.mono l⟩,
    fun x cs' W' H' d px pd l ok => ⟨x, W', cs', rfl, pd, B.up b3 l, ok, px⟩⟩
end

/-! ### a def that may raise -/
abbrev cxX (P : Program) (w : World) (K : PySem.W.Frag) (mg : Str → Option Value) (base : Heap) (N : List Str) (qual : Str) (scope : Scope) (f : Addr) (cd : Value) (A : Around) (outer : List Env) (s : Shared) (H : Hp) (E : XK) : Cx := cxOf (L2.CX P w) P w K mg base N qual scope f cd A outer s H E
theorem fn_dX {P : Program} {w : World} {K : PySem.W.Frag} {mg : Str → Option Value} {base : Heap} {x qual : Str} {params : Arguments} {body : List Stmt} {scope : Scope} {dvs : List V} {kws : List (Str × V)} {f : Addr} {fd : FuncData} {N ps : List Str} {k : Nat} {sp : SpX} {t : (XN → List Cel → Prop) → DS}
    (F : FunD K x qual params body scope dvs kws f fd) (S : FnScope N ps scope) (len : ∀ ds cs Q QX, sp ds cs Q QX → ds.length = ps.length)
    (der : ∀ (cdv : Value) (A : Around) (outer : List Env) (s : Shared) (H : Hp) (E : XK) (B : Bs) (XX : XN → List Cel → Prop), Room k (A.deeper (envOfC qual scope s.heap.objs.size f cdv)) → XT (cxX P w K mg base N qual scope f cdv A outer s H E) B XX →
      PassesOwn (model P w) (A.deeper (envOfC qual scope s.heap.objs.size f cdv)) (envOfC qual scope s.heap.objs.size f cdv) (cxX P w K mg base N qual scope f cdv A outer s H E).xe → PSs (cxX P w K mg base N qual scope f cdv A outer s H E) body (lS K B (t XX)))
    (vc : ∀ ds cs Q QX, (∀ d ∈ ds, loD cs.length d = true) → (∀ c ∈ cs, c.loD cs.length = true) → sp ds cs Q QX → t (FinX cs QX) (Po.fn cs Q) ⟨startD N ds, cs⟩) : FnOk P w K mg base (L2.CX P w) (k + 1) f fd ps (spDX K sp) := by
  refine F.ok S (fun vs H Q E ⟨W, cs, ds, P', PX, ok, r, h, _⟩ => by rw [r.length]; exact len _ _ _ _ h) fun cdv A outer s H vs Q E hr ⟨W, cs, ds, P', PX, ok, r, h, kk, kx⟩ => ?_
  have tk0 : L2.Takes (cxX P w K mg base N qual scope f cdv A outer s H E) (fun cls d _ H => E cls d H) := L2.takes_of (X := cxX P w K mg base N qual scope f cdv A outer s H E) rfl rfl rfl rfl
  have tk : XT (cxX P w K mg base N qual scope f cdv A outer s H E) (Bs.of W) (FinX cs PX) := L2.Takes.imp tk0 fun cls d σ H' ⟨c, W', cs', e1, e2, bp, ok', px⟩ => by
    subst e1
    rcases px with px | ⟨hc, px⟩
    · exact kx c cs' W' H' d px e2 bp ok'
    · obtain ⟨ok4, l4⟩ := ok.trim ok' bp hc
      exact kx c _ ⟨W'.F, W'.m.take cs.length, W'.h⟩ H' d px e2 l4 ok4
  refine ⟨_, der cdv A outer s H E (Bs.of W) (FinX cs PX) hr tk (passes_of (X := cxX P w K mg base N qual scope f cdv A outer s H E) rfl), W, ⟨startD N ds, cs⟩, _, W.le_refl, ⟨ok, start_ok r⟩, vc ds cs P' PX (fun d hd => ?_) ok.cl_lo h, ?_, fin_ok ok kk, fun _ _ _ _ z => z.elim, fun _ _ _ _ z => z.elim⟩
  · obtain ⟨i, hi, e⟩ := List.mem_iff_getElem.mp hd
    obtain ⟨v, hv, rv⟩ := r.get (i := i) (d := d) (by simp [hi, e])
    rw [← ok.len]
    exact R.lo_of _ _ rv
  · exact fun e' W' H' σ' p l S' => fin_ok ok kk .non e'.cs W' H' .non p l S'.ok .non
theorem good_ofX {P : Program} {w : World} {K : PySem.W.Frag} {mg : Str → Option Value} {base : Heap} {x qual : Str} {params : Arguments} {body : List Stmt} {scope : Scope} {f : Addr} {N ps : List Str} {k : Nat} {sp : SpX} {t : (XN → List Cel → Prop) → DS}
    (F : ∃ fd, FunD K x qual params body scope [] [] f fd) (S : FnScope N ps scope) (len : ∀ ds cs Q QX, sp ds cs Q QX → ds.length = ps.length)
    (bi : ∀ (kV doc pm : Value) (an : Option Addr) (cdv ct : Value) (us : List Value), us.length = ps.length → bindArgs (PySem.W.fnOf x qual params body scope .none kV doc pm an cdv ct) ⟨us, []⟩ = pure (ps.zip us))
    (der : ∀ (cdv : Value) (A : Around) (outer : List Env) (s : Shared) (H : Hp) (E : XK) (B : Bs) (XX : XN → List Cel → Prop), Room k (A.deeper (envOfC qual scope s.heap.objs.size f cdv)) → XT (cxX P w K mg base N qual scope f cdv A outer s H E) B XX →
      PassesOwn (model P w) (A.deeper (envOfC qual scope s.heap.objs.size f cdv)) (envOfC qual scope s.heap.objs.size f cdv) (cxX P w K mg base N qual scope f cdv A outer s H E).xe → PSs (cxX P w K mg base N qual scope f cdv A outer s H E) body (lS K B (t XX)))
    (vc : ∀ ds cs Q QX, (∀ d ∈ ds, loD cs.length d = true) → (∀ c ∈ cs, c.loD cs.length = true) → sp ds cs Q QX → t (FinX cs QX) (Po.fn cs Q) ⟨startD N ds, cs⟩) : GoodX P w K mg base (k + 1) f ps sp := by
  obtain ⟨fd, F⟩ := F
  exact ⟨fd, fn_dX F S len der vc, F.bindsN bi, F.kp⟩

/-! ### try .. except C as n -/
def Po.un (P : Po) (i : Nat) : Po := { nx := fun e => P.nx { e with sl := e.sl.set i none }, rt := P.rt, bk := fun e => P.bk { e with sl := e.sl.set i none }, ct := fun e => P.ct { e with sl := e.sl.set i none } }
def sTryAs (tbl : List (Str × Bool)) (i L : Nat) (tb : (XN → List Cel → Prop) → DS) (ts : XN → Addr → DS) (XXo : XN → List Cel → Prop) : DS := fun P e => ∃ XX, tb XX P e ∧
  ∀ x cs', XX x cs' → ∃ b, (x.c, b) ∈ tbl ∧ (b = true → ∀ a, ts x a (P.un i) ⟨(List.replicate L none).set i (some (.raw (.ref a))), cs'⟩) ∧ (b = false → XXo x cs')
theorem SlO.none_ {K : PySem.W.Frag} {W : Wd} {σ : L2.St} {L : Nat} (h : σ.length = L) : SlO K W σ (List.replicate L none) := ⟨by rw [h, List.length_replicate], fun i d e => by
  rw [List.getElem?_replicate] at e
  split at e <;> cases e⟩
theorem SlO.unset {K : PySem.W.Frag} {W : Wd} {σ : L2.St} {sl : List (Option D)} {i : Nat} (h : SlO K W σ sl) : SlO K W (σ.set i none) (sl.set i none) := by
  refine ⟨by simp [h.1], fun j d e => ?_⟩
  rw [List.getElem?_set] at e
  by_cases hij : i = j
  · subst hij
    rw [if_pos rfl] at e
    split at e <;> cases e
  · rw [if_neg hij] at e
    obtain ⟨v, a, b⟩ := h.2 j d e
    exact ⟨v, by rw [List.getElem?_set_ne hij]; exact a, b⟩
theorem PSs.ofEx {X : Cx} {ss : List Stmt} {α : Type} {t : TS} {q : α → Prop} {u : α → TS} (h : ∀ x, q x → PSs X ss (u x)) (i : ∀ D σ H, t D σ H → ∃ x, q x ∧ u x D σ H) : PSs X ss t := ⟨fun pins s σ H D I w => by
  obtain ⟨x, hq, hu⟩ := i D σ H w
  exact (h x hq).run pins s σ H D I hu⟩
/-- an own exception class: isinstance, and no attribute index of its own -/
structure ExcZ (K : PySem.W.Frag) (D : Addr) : Prop where
  e : ExcC K D
  n : PySem.W.findIn K (.ref D) "index" = some none
theorem ExcZ.xf {K : PySem.W.Frag} {D : Addr} (h : ExcZ K D) : XfC K D := ⟨h.e.hg, h.e.hk, h.e.hs, h.e.hd⟩
theorem ds_tryAs {X : Cx} {B : Bs} {x n : Str} {C : Addr} {i : Nat} {body suite : List Stmt} {b₀ : Stmt} {np pos pos' : Pos} {tbl : List (Str × Bool)} {tb : (XN → List Cel → Prop) → DS} {ts : XN → Addr → DS} {XXo : XN → List Cel → Prop}
    (hs : X.stack = X.env :: X.outer) (hf : X.env.frame = some X.env.locals) (hN : X.N.Nodup) (hi : X.N[i]? = some n) (hln : X.env.kindOf n = some .local) (hm : X.mg x = some (.ref C)) (hg : Gl X x) (tko : XT X B XXo)
    (hx : ∀ p ∈ tbl, PySem.W.exmOne X.K (.ref (He.ga X.K p.1)) (.ref C) = some p.2) (hE : ∀ p ∈ tbl, ExcZ X.K (He.ga X.K p.1))
    (hb : ∀ (B : Bs) (XX : XN → List Cel → Prop) (pn : List (Addr × Obj)) (xe : Value → Shared → Prop), XT (X.tr pn xe) B XX → PassesOwn (model X.prog X.w) X.A X.env xe → PSs (X.tr pn xe) body (lS X.K B (tb XX)))
    (hsu : ∀ (B : Bs) (x : XN) (a : Addr) (oe : Obj) (d : Option Addr) (pn : List (Addr × Obj)), ExcZ X.K (He.ga X.K x.c) → Zc (.ref (He.ga X.K x.c)) d oe → (∃ vs, oe.data = .fields vs) → (∀ W, B.p W → PayOk x.p d W) → PSs (X.suite a ((a, oe) :: pn)) (b₀ :: suite) (lS X.K B (ts x a)))
    (hdb : (x == ("__debug__" : Str)) = false := by decide) :
    PS X (.Try body [.ExceptHandler (some (.Name x np)) (some n) (b₀ :: suite) pos'] [] [] pos) (lS X.K B (sTryAs tbl i X.N.length tb ts XXo)) := by
  refine PS.imp (L2.ps_try_as (x := x) (n := n) (c := .ref C) (i := i) (Wout := fun cls d _ H => wE X.K B XXo cls d H)
    (tb := fun W D σ H => ∃ p : Bs × (XN → List Cel → Prop), (∀ cls d σ H, σ.length = X.N.length → wE X.K p.1 p.2 cls d H → W cls d σ H) ∧ lS X.K p.1 (tb p.2) D σ H)
    (ts := fun a cls d D σ H => ∃ p : Bs × XN, (cls = .ref (He.ga X.K p.2.c) ∧ ExcZ X.K (He.ga X.K p.2.c) ∧ ∀ W, p.1.p W → PayOk p.2.p d W) ∧ lS X.K p.1 (ts p.2 a) D σ H)
    hs hf hN hi hln ⟨hg, hdb, .inl hm⟩ tko (fun W pn xe tk po => ?_) (fun a oe cls d pn hz hfd => ?_)) fun E σ H h => ?_
  · exact PSs.ofEx (q := fun p : Bs × (XN → List Cel → Prop) => ∀ cls d σ H, σ.length = X.N.length → wE X.K p.1 p.2 cls d H → W cls d σ H) (u := fun p => lS X.K p.1 (tb p.2)) (fun p hp => hb p.1 p.2 pn xe (XT.of (X := X.tr pn xe) tk hp) po) fun D σ H h => h
  · exact PSs.ofEx (q := fun p : Bs × XN => cls = .ref (He.ga X.K p.2.c) ∧ ExcZ X.K (He.ga X.K p.2.c) ∧ ∀ W, p.1.p W → PayOk p.2.p d W) (u := fun p => lS X.K p.1 (ts p.2 a)) (fun p ⟨h1, h2, h3⟩ => by
      subst h1
      exact hsu p.1 p.2 a oe d pn h2 hz hfd h3) fun D σ H h => h
  · obtain ⟨W, e, P, bl, S, ⟨XX, h, hc⟩, c⟩ := lS_un h
    refine ⟨(Bs.of W, XX), fun cls d σ' H' hl ⟨cc, W', cs', e1, e2, bp, ok', px⟩ => ?_, lS_mk W.le_refl S h c⟩
    subst e1
    obtain ⟨b, hbm, hy, hn⟩ := hc cc cs' px
    refine ⟨b, hx _ hbm, fun eb a na => ?_, fun eb => ⟨cc, W', cs', rfl, e2, B.up bl bp, ok', hn eb⟩⟩
    refine ⟨(Bs.of W', cc), ⟨rfl, hE _ hbm, fun W1 l1 => e2.mono l1⟩, lS_mk (P := P.un i) W'.le_refl ⟨ok', (SlO.none_ hl).set (.raw (.ref a))⟩ (hy eb a) ?_⟩
    exact ⟨fun e' W2 H2 σ2 p l S2 => c.nx _ _ _ _ p (bp.tr l) ⟨S2.ok, S2.sl.unset⟩, fun d cs W2 H2 v p l ok r => c.rt _ _ _ _ _ p (bp.tr l) ok r, fun e' W2 H2 σ2 p l S2 => c.bk _ _ _ _ p (bp.tr l) ⟨S2.ok, S2.sl.unset⟩, fun e' W2 H2 σ2 p l S2 => c.ct _ _ _ _ p (bp.tr l) ⟨S2.ok, S2.sl.unset⟩⟩
/-! ### the field of what was caught -/
def eXf (x : XN) (a : Addr) (te : DE) : DE := fun e P => te e fun d e1 => d = .raw (.ref a) ∧ ∃ i, x.p = some i ∧ P (.int i) e1
theorem de_xf {X : Cx} {B : Bs} {x : XN} {a : Addr} {oe : Obj} {d : Option Addr} {pn : List (Addr × Obj)} {ex : Expr} {te : DE} {pos : Pos} (T : ExcZ X.K (He.ga X.K x.c)) (hz : Zc (.ref (He.ga X.K x.c)) d oe) (hf : ∃ vs, oe.data = .fields vs)
    (hp : ∀ W, B.p W → PayOk x.p d W) (he : PE (X.suite a ((a, oe) :: pn)) ex (lE X.K B te)) (hb : attributeBase ex "index" X.env (eval ex X.env) = eval ex X.env := by rfl) : PE (X.suite a ((a, oe) :: pn)) (.Attribute ex "index" pos) (lE X.K B (eXf x a te)) :=
  PE.imp (pe_xf T.xf T.n hz hf he hb) fun σ H Q ⟨W, e, P, bl, S, t, k⟩ => ⟨W, e, _, bl, S, t, fun dd e1 W1 H1 v ⟨hd, i, hi, p⟩ l S1 r => by
    subst hd
    cases r
    have h := hp W1 (B.up bl l)
    rw [hi] at h
    obtain ⟨q, e1', e2⟩ := h
    exact ⟨rfl, rfl, q, xnF i, .int i, e1', S1.ok.ex _ _ e2, rfl, k _ _ _ _ _ p l S1 (.int i)⟩⟩
/-! ### raise C(i), C having its own __init__ -/
def spIx (C : Addr) : Sp := fun vs H Q _ => ∃ (a : Addr) (i : Int), vs = [.ref a, .int i] ∧ H a = some (exo a C none) ∧ ∀ dx, H dx = none → dx ≠ a → Q .non (upd (upd H dx (exd dx (xnF i))) a (exo a C (some dx)))
def GoodIx (P : Program) (w : World) (K : PySem.W.Frag) (mg : Str → Option Value) (base : Heap) (k : Nat) (f : Addr) (c : Str) : Prop :=
  ∃ fd, FnOk P w K mg base CX0 k f fd ["self", "index"] (spIx (He.ga K c)) ∧ Binds K fd ["self", "index"] [] ∧ OexC K (He.ga K c) ∧ PySem.W.findIn K (.ref (He.ga K c)) "__init__" = some (some (.ref f)) ∧ PySem.W.typeIn K (.ref f) = some (.type "function")
theorem goodIx_of {P : Program} {w : World} {K : PySem.W.Frag} {mg : Str → Option Value} {base : Heap} {x qual c : Str} {params : Arguments} {body : List Stmt} {scope : Scope} {f : Addr} {k : Nat}
    (F : ∃ fd, FunD K x qual params body scope [] [] f fd) (S : FnScope ["self", "index"] ["self", "index"] scope)
    (bi : ∀ (kV doc pm : Value) (an : Option Addr) (cdv ct : Value) (us : List Value), us.length = 2 → bindArgs (PySem.W.fnOf x qual params body scope .none kV doc pm an cdv ct) ⟨us, []⟩ = pure ((["self", "index"] : List Str).zip us))
    (der : ∀ (cdv : Value) (A : Around) (outer : List Env) (s : Shared) (H : Hp) (E : XK), PSs (cxOf CX0 P w K mg base ["self", "index"] qual scope f cdv A outer s H E) body (tOst K "index" (tVar 0) (tVar 1)))
    (T : OexC K (He.ga K c)) (hno : PySem.W.findIn K (.ref (He.ga K c)) "index" = some none) (sm : Sm K (He.ga K c) "__init__" f) : GoodIx P w K mg base (k + 1) f c := by
  obtain ⟨fd, F⟩ := F
  refine ⟨fd, F.ok S (fun vs H Q E ⟨a, i, e, _⟩ => by rw [e]; rfl) fun cdv A outer s H vs Q E hr ⟨a, i, e, h1, h2⟩ => ⟨tOst K "index" (tVar 0) (tVar 1), der cdv A outer s H E, ?_⟩, F.bindsN bi, T, sm.at_, beq_iff_eq.mp sm.fn⟩
  subst e
  exact ⟨.int i, rfl, .ref a, rfl, a, _, rfl, T, hno, .inl ⟨h1, h2⟩⟩
def sRaiseI (XX : XN → List Cel → Prop) (c : Str) (te : DE) : DS := fun _ e => te e fun d e1 => ∃ i, [d] = [D.int i] ∧ XX ⟨c, some i⟩ e1.cs
theorem ds_raiseI {X : Cx} {B : Bs} {XX : XN → List Cel → Prop} {c : Str} {ex : Expr} {te : DE} {k : Nat} {f : Addr} {p pos apos : Pos} (G : GoodIx X.prog X.w X.K X.mg X.base k f c) (hc : X.calm = true) (tk : XT X B XX) (hr : Room (k + 1) X.A) (gC : X.mg c = some (.ref (He.ga X.K c))) (hg : Gl X c)
    (he : PE X ex (lE X.K B te)) (hdb : (c == ("__debug__" : Str)) = false := by decide) (hse : starEach [ex] X.env = (false, eval ex X.env) :: starEach [] X.env := by rfl) (hpl : (backTo pos (starEach ([] : List Expr) X.env)).any (·.1) = false := by rfl) :
    PS X (.Raise (some (.Call (.Name c p) [ex] [] pos)) none apos) (lS X.K B (sRaiseI XX c te)) := by
  obtain ⟨fd, F, bi, T, iC, tI⟩ := G
  refine PS.imp (L2.ps_raise hc tk (L2.pmk_oex T iC tI F hr bi .nil pass0 hg gC (da_cons he da_nil hse) hdb hse hpl)) fun E σ H h => ?_
  obtain ⟨W, e, P, bl, S, h, _⟩ := lS_un h
  refine ⟨W, e, _, bl, S, (show aCons te aNil e (fun ds e1 => ∃ i, ds = [.int i] ∧ XX ⟨c, some i⟩ e1.cs) from ?_), fun ds e1 W1 H1 vs ⟨i, hd, px⟩ l S1 r => ?_⟩
  · exact h
  subst hd
  obtain ⟨v, rfl, r1⟩ : ∃ v, vs = [v] ∧ R X.K W1 v (.int i) := by
    cases r with
    | cons r1 r2 => cases r2; exact ⟨_, rfl, r1⟩
  cases r1
  refine ⟨by simp, fun a ha => ⟨a, i, rfl, upd_same, fun dx hdx hne => ⟨rfl, dx, xnF i, upd_same, ?_, ?_, ?_⟩⟩⟩
  · rw [upd_ne hne, upd_same]
  · rw [upd_ne hne] at hdx
    exact hdx
  · rw [upd_ne hne] at hdx
    obtain ⟨ok2, l2⟩ := S1.ok.newF (o := .xd (xnF i)) hdx
    have eh : upd (del (upd (upd (upd H1 a (exo a (He.ga X.K c) none)) dx (exd dx (xnF i))) a (exo a (He.ga X.K c) (some dx))) a) dx (.xd (xnF i)) = upd H1 dx (.xd (xnF i)) := by
      funext b
      by_cases h1 : b = dx
      · subst h1
        rw [upd_same, upd_same]
      · rw [upd_ne h1, upd_ne h1]
        by_cases h2 : b = a
        · subst h2
          rw [del_same, ha]
        · rw [del_ne h2, upd_ne h2, upd_ne h1, upd_ne h2]
    rw [eh]
    exact ⟨⟨c, some i⟩, _, e1.cs, rfl, ⟨dx, rfl, upd_same⟩, B.up bl (l.tr l2), ok2, px⟩
/-! ### what the head tells -/
theorem excc_ok {K : PySem.W.Frag} {c : Str} (h : (Fx.excc c).ok K = true) : ExcC K (He.ga K c) := by
  obtain ⟨h1, h2⟩ := He.ba h
  obtain ⟨h3, h4⟩ := He.ba h2
  obtain ⟨h5, h6⟩ := He.ba h4
  obtain ⟨h7, h8⟩ := He.ba h6
  obtain ⟨h9, h10⟩ := He.ba h8
  obtain ⟨h11, h12⟩ := He.ba h10
  obtain ⟨h13, h14⟩ := He.ba h12
  exact ⟨He.eqO_ok h3, He.eqO_ok h5, (He.exc_ok h1).2.2.1, h7, He.eqO_ok h9, He.eqO_ok h11, of_decide_eq_true h13, of_decide_eq_true h14⟩
theorem exci_ok {K : PySem.W.Frag} {c : Str} (h : (Fx.exci c).ok K = true) : ExcC K (He.ga K c) := by
  obtain ⟨h1, h2⟩ := He.ba h
  obtain ⟨h3, h4⟩ := He.ba h2
  obtain ⟨h5, h6⟩ := He.ba h4
  obtain ⟨h7, h8⟩ := He.ba h6
  obtain ⟨h9, h10⟩ := He.ba h8
  obtain ⟨h11, h12⟩ := He.ba h10
  obtain ⟨h13, h14⟩ := He.ba h12
  exact ⟨He.eqO_ok h3, He.eqO_ok h5, of_decide_eq_true h1, h7, He.eqO_ok h9, He.eqO_ok h11, of_decide_eq_true h13, of_decide_eq_true h14⟩
theorem kitb_ok {K : PySem.W.Frag} {T : String} {l : List (Str × Bool)} (h : (Fx.kitb T l).ok K = true) : ∀ p ∈ l, PySem.W.kitOne K (.ref (He.ga K p.1)) (.type T) = some p.2 := fun p m => of_decide_eq_true (List.all_eq_true.mp h p m)
theorem exm_okT {K : PySem.W.Frag} {c : Str} {l : List (Str × Bool)} (h : (Fx.exm c l).ok K = true) : ∀ p ∈ l, PySem.W.exmOne K (.ref (He.ga K p.1)) (.ref (He.ga K c)) = some p.2 := fun p m => of_decide_eq_true (List.all_eq_true.mp h p m)
theorem excL_nil {K : PySem.W.Frag} : ∀ p ∈ ([] : List (Str × Bool)), ExcZ K (He.ga K p.1) := fun _ h => nomatch h
theorem excL_cons {K : PySem.W.Frag} {c : Str} {b : Bool} {l : List (Str × Bool)} (h : ExcZ K (He.ga K c)) (t : ∀ p ∈ l, ExcZ K (He.ga K p.1)) : ∀ p ∈ (c, b) :: l, ExcZ K (He.ga K p.1) := fun p m => by
  rcases List.mem_cons.mp m with rfl | m
  · exact h
  · exact t p m
theorem XT.never {X : Cx} {B : Bs} : XT X B (fun _ _ => False) := fun _ _ ⟨_, _, _, _, _, _, _, _, _, _, _, _, _, _, _, _, _, _, _, _, _, _, _, w⟩ => w.elim
section
variable {XX : XN → List Cel → Prop} {sp : SpX} {ta : DA} {tv to ti te : DE} {e : En} {P : D → En → Prop} {Po' : Po} {C C2 : Addr} {d y tg : D} {ds : List D} {c : Str} {a : Addr} {tbl : List (Str × Bool)}
theorem v_callX (h : ta e fun ds e1 => sp ds e1.cs (fun d cs' => P d { e1 with cs := cs' }) XX) : eCallX XX sp ta e P := h
theorem v_makeX (h : ta e fun ds e1 => sp (.cell e1.cs.length :: ds) (e1.cs ++ [.ins C [] []])
  (fun d cs' => d = .non ∧ (P (.cell e1.cs.length) { e1 with cs := cs' } ∨ ∃ cs1 C' ns xs, cs' = cs1 ++ [.ins C' ns xs] ∧ cs1.length = e1.cs.length ∧ los e1.cs.length xs = true ∧ (∀ c ∈ cs1, c ∈ e1.cs ∨ c.loD e1.cs.length = true) ∧ P (.ins C' ns xs) { e1 with cs := cs1 }))
  (FinX e1.cs XX)) : eMakeX C XX sp ta e P := h
theorem v_setX (h : tv e fun v e1 => to e1 fun o e2 => ti e2 fun i e3 => (∃ ns xs, insD e3.cs o = some (C, ns, xs)) ∧ sp [o, i, v] e3.cs (fun _ cs' => Po'.nx { e3 with cs := cs' }) XX) : sSetX C XX sp tv to ti Po' e := h
theorem v_twoX (h : (∃ ns xs, insD e.cs d = some (C, ns, xs)) ∧ (∃ ns xs, insD e.cs y = some (C2, ns, xs)) ∧ sp [d, y] e.cs (fun r cs' => P r { e with cs := cs' }) XX) : qTwoX C C2 XX sp d y e P := h
theorem v_raise (h : XX ⟨c, none⟩ e.cs) : sRaise XX c Po' e := h
theorem v_raiseI (h : te e fun d e1 => ∃ i, [d] = [D.int i] ∧ XX ⟨c, some i⟩ e1.cs) : sRaiseI XX c te Po' e := h
theorem v_xf {x : XN} (h : te e fun d e1 => d = .raw (.ref a) ∧ ∃ i, x.p = some i ∧ P (.int i) e1) : eXf x a te e P := h
theorem v_tryAs {i L : Nat} {tb : (XN → List Cel → Prop) → DS} {ts : XN → Addr → DS} {XXo : XN → List Cel → Prop} (XX : XN → List Cel → Prop) (h1 : tb XX Po' e)
    (h2 : ∀ x cs', XX x cs' → ∃ b, (x.c, b) ∈ tbl ∧ (b = true → ∀ a, ts x a (Po'.un i) ⟨(List.replicate L none).set i (some (.raw (.ref a))), cs'⟩) ∧ (b = false → XXo x cs')) : sTryAs tbl i L tb ts XXo Po' e := ⟨XX, h1, h2⟩
end
theorem v_unx {P : Po} {i : Nat} {e : En} (h : P.nx { e with sl := e.sl.set i none }) : (P.un i).nx e := h
theorem v_urt {P : Po} {i : Nat} {d : D} {cs : List Cel} (h : P.rt d cs) : (P.un i).rt d cs := h
theorem encB : EqE D.bl 0 where
  ok := fun _ => rfl
  lay := fun _ => rfl
  dep := fun _ => by
    show (PyData.bool _).depth ≤ 0
    simp [PyData.depth]
  eqv := fun a b => by
    show PyData.eqv (.bool a) (.bool b) = _
    simp only [PyData.eqv]
    exact Bool.beq_eq_decide_eq a b
theorem encBL : EqE (fun xs : List Bool => D.lst (xs.map D.bl)) 1 := encB.lst
theorem atI_zero {x : D} {xs : List D} : atI (x :: xs) 0 = some x := atI_nat (j := 0) rfl
theorem atI_one {x y : D} {xs : List D} : atI (x :: y :: xs) 1 = some y := atI_nat (j := 1) rfl
/-! ### a comprehension in a comprehension -/
def relS (scope sc : Scope) : Scope := { scope with names := scope.names.map fun (n, k) => if (k == .free && sc.kind == .function && sc.names.lookup n == some .cell) then (n, .cell) else (n, k) }
theorem blkOk_in {N : List Str} {scope0 sc0 scope : Scope} {env : PySem.Env} {own : List (Str × Nat)} (he : env.scope = sc0) (h : blkC N (relS scope0 sc0) scope own = true) : BlkOk N (relabel scope0 env) scope own := by
  subst he
  exact blkOk_by h
/-! ### isinstance(x, T), x one of an own class, or a plain value -/
def qIsiO (C : Addr) (T : String) : List D → DE
  | [d, .raw (.ty T')] => fun e P => T' = T ∧ (((∃ ns xs, insD e.cs d = some (C, ns, xs)) ∧ P (.bl false) e) ∨ (tyKnown T = true ∧ ∃ a, tyN e.cs d = some a ∧ P (.bl (isTy a T)) e))
  | _ => fun _ _ => False
theorem cd_isiO {K : PySem.W.Frag} {C : Addr} {T : String} (ic : C8.InsC K C) (kt : PySem.W.kitOne K (.ref C) (.type T) = some false) : CallD K (rIsi K) (qIsiO C T) := by
  intro W H σ e vs ds P Q S r t k
  unfold qIsiO at t
  split at t
  · obtain ⟨v, v2, rfl, r1, r2⟩ := r.two
    obtain ⟨rfl, t⟩ := t
    cases r2
    rcases t with ⟨⟨ns, xs, hi⟩, p⟩ | ⟨hT, a, ea, p⟩
    · obtain ⟨a, dx, gs, rfl, h1, h2, h3⟩ := S.ok.ins r1 hi
      exact ⟨.ref a, .ty _, .ref C, _, false, rfl, .ty _, .base (TyOf.ins h1 ic.cl ic.ha ic.hn ic.htk ic.hm), kt, k _ _ _ _ _ p W.le_refl S (.bl _)⟩
    · obtain ⟨ty, mem⟩ := S.ok.ty r1 ea
      exact ⟨v, .ty _, _, _, _, rfl, .ty _, ty, kit_ty (kit_in mem hT), k _ _ _ _ _ p W.le_refl S (.bl _)⟩
  · exact t.elim
theorem v_isiOF {C : Addr} {T : String} {d : D} {e : En} {P : D → En → Prop} (h : ∃ ns xs, insD e.cs d = some (C, ns, xs)) (p : P (.bl false) e) : qIsiO C T [d, .raw (.ty T)] e P := ⟨rfl, .inl ⟨h, p⟩⟩
theorem v_isiOT {C : Addr} {T : String} {d : D} {e : En} {P : D → En → Prop} {a : String} (hT : tyKnown T = true) (h : tyN e.cs d = some a) (p : P (.bl (isTy a T)) e) : qIsiO C T [d, .raw (.ty T)] e P := ⟨rfl, .inr ⟨hT, a, h, p⟩⟩
end DL
/-! isinstance of what was caught, with a field or without; try .. except C without a name -/
namespace DL
open PySem PySem.Spec PyProof.Rows L2
open Evl (Ex)
/-- the caught one's dict, as the heap has it -/
def HasD (d : Option Addr) (H : Hp) : Prop := d = none ∨ ∃ dd fs, d = some dd ∧ H dd = some (.xd fs)
theorem inst_of {X : Cx} {a D : Addr} {oe : Obj} {d : Option Addr} {pn pins : List (Addr × Obj)} {σ : L2.St} {H : Hp} {s : Shared} (I : Inv (X.suite a ((a, oe) :: pn)) pins σ H s) (hz : Zc (.ref D) d oe) (hf : ∃ vs, oe.data = .fields vs) (hd : HasD d H) : ∃ od, PySem.W.InstAt s.heap a oe D od := by
  obtain ⟨hget, _⟩ := I.pin (a, oe) (List.mem_append.mpr (.inl List.mem_cons_self))
  obtain ⟨vs, hv⟩ := hf
  rcases hd with rfl | ⟨dd, fs, rfl, ea⟩
  · refine ⟨none, hget, hz.1, by unfold PySem.W.notCls; rw [hv] <;> rfl, ?_⟩
    rw [hz.2]
    trivial
  · obtain ⟨mA, hns, hr⟩ := (I.hok dd _ ea : ObjOk X.prog X.w H s.heap dd (.xd fs))
    obtain ⟨od, ho, hl⟩ := lookIn_ns hns
    refine ⟨some od, hget, hz.1, by unfold PySem.W.notCls; rw [hv] <;> rfl, ?_⟩
    rw [hz.2]
    exact ho
theorem cls_some {K : PySem.W.Frag} {D : Addr} (h : PySem.W.hasDictIn K D = true) : (PySem.W.clsIn K D).isSome = true := by
  obtain ⟨cd, hc, _⟩ := PySem.W.any_some h
  rw [hc]
  rfl
def rIsEz (K : PySem.W.Frag) (D a : Addr) (d : Option Addr) : List V → Hp → VK → Prop := fun xs H Q => HasD d H ∧ rIsE K D a xs H Q
theorem call_isEz {X : Cx} {a D : Addr} {oe : Obj} {d : Option Addr} {pn : List (Addr × Obj)} (C : ExcC X.K D) (hz : Zc (.ref D) d oe) (hf : ∃ vs, oe.data = .fields vs) : CallR (X.suite a ((a, oe) :: pn)) (.builtin "isinstance") (rIsEz X.K D a d) := by
  intro pins s σ H xs us Q I r ⟨hd, h⟩
  obtain ⟨c, cv, b, rfl, hcv, e, q⟩ := h
  cases r with
  | cons rx rr =>
    cases rr with
    | cons rt rr =>
      cases rr
      cases rx
      have ec := hcv _ rt
      subst ec
      obtain ⟨od, J⟩ := inst_of I hz hf hd
      exact PySem.W.kia_one (PySem.W.kitx_exc (cls_some C.hd) C.hg C.hk C.hs C.ha C.hn C.ht C.hm) I.kIn J e (fun z => nomatch z) fun tk => ⟨.bl b, H, I.kept (t' := tk) fun _ _ z => z, rfl, q⟩
def rIsETz (K : PySem.W.Frag) (D a : Addr) (d : Option Addr) : List V → Hp → VK → Prop := fun xs H Q => HasD d H ∧ ∃ (tp : Addr) (vs : List V) (us : List Value) (b : Bool), xs = [.ref a, .ref tp] ∧ SqT K H tp vs ∧ Paired ClsV vs us ∧ PySem.W.kitAny K (.ref D) us = some b ∧ Q (.bl b) H
theorem call_isETz {X : Cx} {a D : Addr} {oe : Obj} {d : Option Addr} {pn : List (Addr × Obj)} (C : ExcC X.K D) (hz : Zc (.ref D) d oe) (hf : ∃ vs, oe.data = .fields vs) : CallR (X.suite a ((a, oe) :: pn)) (.builtin "isinstance") (rIsETz X.K D a d) := by
  intro pins s σ H xs us Q I r ⟨hd, h⟩
  obtain ⟨tp, vs, ws, b, rfl, hT, k, e, q⟩ := h
  obtain ⟨u1, u2, rfl, r1, r2⟩ := vals2 r
  cases (show u1 = Value.ref a from r1)
  cases (show u2 = Value.ref tp from r2)
  obtain ⟨its, rv, ⟨o, h1, h2, n, h3⟩, _⟩ := I.tuple hT
  have e3 := ClsV.all k rv
  subst e3
  obtain ⟨oc, od0, dt, sl⟩ := o
  simp only at h2 h3
  subst h2 h3
  obtain ⟨od, J⟩ := inst_of I hz hf hd
  exact PySem.W.kia_tup (PySem.W.kitx_exc (cls_some C.hd) C.hg C.hk C.hs C.ha C.hn C.ht C.hm) I.kIn J h1 e (fun z => nomatch z) fun tk => ⟨.bl b, H, I.kept (t' := tk) fun _ _ z => z, rfl, q⟩
/-- the answer for the class c stands in the table -/
def qIsE (x : XN) (a : Addr) (tbl : List (Str × Bool)) (tg : D) : List D → DE := fun ds e P => ∃ d, ds = [.raw (.ref a), d] ∧ d = tg ∧ ∃ b, (x.c, b) ∈ tbl ∧ P (.bl b) e
/-- the same, where the caught one's dict is known -/
def CallDB (K : PySem.W.Frag) (B : Bs) (r : List V → Hp → VK → Prop) (q : List D → DE) : Prop := ∀ (W : Wd) (H : Hp) (σ : L2.St) (e : En) (vs : List V) (ds : List D) (P : D → En → Prop) (Q : VK), B.p W → Sd K W H σ e → RAll K W vs ds → q ds e P →
  (∀ d e' W' H' v, P d e' → W.le W' → Sd K W' H' σ e' → R K W' v d → Q v H') → r vs H Q
section
variable {K : PySem.W.Frag} {X : Cx} {B : Bs} {x : Str} {p pos : Pos} {ex : Expr} {es : List Expr} {ta : DA} {id T : String} {r : List V → Hp → VK → Prop} {q : List D → DE}
theorem de_callBB (hc : CallR X (.builtin id) r) (hq : CallDB X.K B r q) (hg : Gl X x) (hm : X.mg x = none) (hv : bootBuiltins x = some (.builtin id)) (ha : PA X (ex :: es) (lA X.K B ta)) (hn : x ≠ "__name__" := by decide) (hdb : (x == ("__debug__" : Str)) = false := by decide)
    (he : starEach (ex :: es) X.env = (false, eval ex X.env) :: starEach es X.env := by rfl) (hpl : (backTo pos (starEach es X.env)).any (·.1) = false := by rfl) : PE X (.Call (.Name x p) (ex :: es) [] pos) (lE X.K B (eCB q ta)) :=
  PE.imp (pe_callB hc hg hm hv ha hn hdb he hpl) fun σ H Q ⟨W, e, P, bl, S, t, k⟩ =>
    ⟨W, e, _, bl, S, t, fun ds e1 W1 H1 vs t1 l1 S1 r1 => hq W1 H1 σ e1 vs ds P Q (B.up bl l1) S1 r1 t1 fun d e2 W2 H2 v p l2 S2 r2 => k d e2 W2 H2 v p (l1.tr l2) S2 r2⟩
end
theorem hasD_of {x : XN} {d : Option Addr} {W : Wd} {H : Hp} (hp : PayOk x.p d W) (ex : Ex W.F H) : HasD d H := by
  unfold PayOk at hp
  split at hp
  · exact .inl hp
  · obtain ⟨dd, e1, e2⟩ := hp
    exact .inr ⟨dd, _, e1, ex _ _ e2⟩
section
variable {K : PySem.W.Frag} {B : Bs} {x : XN} {a : Addr} {d : Option Addr} {tbl : List (Str × Bool)}
theorem cd_isE {C : Addr} (hp : ∀ W, B.p W → PayOk x.p d W) (h : ∀ p ∈ tbl, PySem.W.kitOne K (.ref (He.ga K p.1)) (.ref C) = some p.2) : CallDB K B (rIsEz K (He.ga K x.c) a d) (qIsE x a tbl (.raw (.ref C))) := by
  rintro W H σ e vs ds P Q bw S r ⟨d, rfl, rfl, b, hb, p⟩ k
  obtain ⟨v, v2, rfl, r1, r2⟩ := r.two
  cases r1
  cases r2
  exact ⟨hasD_of (hp W bw) S.ok.ex, .ref C, .ref C, b, rfl, fun u hu => hu, h _ hb, k _ _ _ _ _ p W.le_refl S (.bl _)⟩
theorem cd_isEB {T : String} (hp : ∀ W, B.p W → PayOk x.p d W) (h : ∀ p ∈ tbl, PySem.W.kitOne K (.ref (He.ga K p.1)) (.type T) = some p.2) : CallDB K B (rIsEz K (He.ga K x.c) a d) (qIsE x a tbl (.raw (.ty T))) := by
  rintro W H σ e vs ds P Q bw S r ⟨d, rfl, rfl, b, hb, p⟩ k
  obtain ⟨v, v2, rfl, r1, r2⟩ := r.two
  cases r1
  cases r2
  exact ⟨hasD_of (hp W bw) S.ok.ex, .ty T, .type T, b, rfl, fun u hu => hu, h _ hb, k _ _ _ _ _ p W.le_refl S (.bl _)⟩
theorem clsv_map {W : Wd} : ∀ {Cs : List Addr} {vs : List V}, RAll K W vs (Cs.map fun C => D.raw (.ref C)) → Paired ClsV vs (Cs.map fun C => Value.ref C)
  | [], _, .nil => .nil
  | C :: Cs, _, .cons r t => by
    cases r
    exact .cons (.own C) (clsv_map t)
theorem cd_isET {Cs : List Addr} (hp : ∀ W, B.p W → PayOk x.p d W) (h : ∀ p ∈ tbl, PySem.W.kitAny K (.ref (He.ga K p.1)) (Cs.map fun C => .ref C) = some p.2) : CallDB K B (rIsETz K (He.ga K x.c) a d) (qIsE x a tbl (.tup (Cs.map fun C => .raw (.ref C)))) := by
  rintro W H σ e vs ds P Q bw S r ⟨d, rfl, rfl, b, hb, p⟩ k
  obtain ⟨v, v2, rfl, r1, r2⟩ := r.two
  cases r1
  cases r2 with
  | tup h1 h2 => exact ⟨hasD_of (hp W bw) S.ok.ex, _, _, _, b, rfl, Evl.ex_t S.ok.ex h1, clsv_map h2, h _ hb, k _ _ _ _ _ p W.le_refl S (.bl _)⟩
end
theorem kito_ok {K : PySem.W.Frag} {c : Str} {l : List (Str × Bool)} (h : (Fx.kito c l).ok K = true) : ∀ p ∈ l, PySem.W.kitOne K (.ref (He.ga K p.1)) (.ref (He.ga K c)) = some p.2 := fun p m => of_decide_eq_true (List.all_eq_true.mp h p m)
theorem kita_ok {K : PySem.W.Frag} {cs : List Str} {l : List (Str × Bool)} (h : (Fx.kita cs l).ok K = true) : ∀ p ∈ l, PySem.W.kitAny K (.ref (He.ga K p.1)) (cs.map fun x => .ref (He.ga K x)) = some p.2 := fun p m => of_decide_eq_true (List.all_eq_true.mp h p m)
theorem bt_ValueError : bootBuiltins "ValueError" = some (.type "ValueError") := by decide +kernel
theorem v_isEX {x : XN} {a : Addr} {tbl : List (Str × Bool)} {tg : D} {ds : List D} {e : En} {P : D → En → Prop} (h : ∃ d, ds = [.raw (.ref a), d] ∧ d = tg ∧ ∃ b, (x.c, b) ∈ tbl ∧ P (.bl b) e) : qIsE x a tbl tg ds e P := h
/-! ### without a name -/
def sTryN (tbl : List (Str × Bool)) (L : Nat) (tb : (XN → List Cel → Prop) → DS) (ts : DS) (XXo : XN → List Cel → Prop) : DS := fun P e => ∃ XX, tb XX P e ∧
  ∀ x cs', XX x cs' → ∃ b, (x.c, b) ∈ tbl ∧ (b = true → ts P ⟨List.replicate L none, cs'⟩) ∧ (b = false → XXo x cs')
theorem ds_tryN {X : Cx} {B : Bs} {x : Str} {C : Addr} {body suite : List Stmt} {b₀ : Stmt} {np pos pos' : Pos} {tbl : List (Str × Bool)} {tb : (XN → List Cel → Prop) → DS} {ts : DS} {XXo : XN → List Cel → Prop}
    (hs : X.stack = X.env :: X.outer) (hf : X.env.frame = some X.env.locals) (hm : X.mg x = some (.ref C)) (hg : Gl X x) (tko : XT X B XXo)
    (hx : ∀ p ∈ tbl, PySem.W.exmOne X.K (.ref (He.ga X.K p.1)) (.ref C) = some p.2)
    (hb : ∀ (B : Bs) (XX : XN → List Cel → Prop) (pn : List (Addr × Obj)) (xe : Value → Shared → Prop), XT (X.tr pn xe) B XX → PassesOwn (model X.prog X.w) X.A X.env xe → PSs (X.tr pn xe) body (lS X.K B (tb XX)))
    (hsu : ∀ (B : Bs) (a : Addr) (oe : Obj) (pn : List (Addr × Obj)), PSs (X.suite a ((a, oe) :: pn)) (b₀ :: suite) (lS X.K B ts))
    (hdb : (x == ("__debug__" : Str)) = false := by decide) :
    PS X (.Try body [.ExceptHandler (some (.Name x np)) none (b₀ :: suite) pos'] [] [] pos) (lS X.K B (sTryN tbl X.N.length tb ts XXo)) := by
  refine PS.imp (L2.ps_try_many (Wout := fun cls d _ H => wE X.K B XXo cls d H)
    (tb := fun W D σ H => ∃ p : Bs × (XN → List Cel → Prop), (∀ cls d σ H, σ.length = X.N.length → wE X.K p.1 p.2 cls d H → W cls d σ H) ∧ lS X.K p.1 (tb p.2) D σ H)
    (l := [(.ref C, fun a cls d D σ H => ∃ p : Bs, lS X.K p ts D σ H)])
    hs hf tko (fun W pn xe tk po => ?_) (.cons ⟨hg, hdb, .inl hm⟩ (fun a oe cls d pn hz hfd => ?_) .nil)) fun E σ H h => ?_
  · exact PSs.ofEx (q := fun p : Bs × (XN → List Cel → Prop) => ∀ cls d σ H, σ.length = X.N.length → wE X.K p.1 p.2 cls d H → W cls d σ H) (u := fun p => lS X.K p.1 (tb p.2)) (fun p hp => hb p.1 p.2 pn xe (XT.of (X := X.tr pn xe) tk hp) po) fun D σ H h => h
  · exact PSs.ofEx (q := fun _ : Bs => True) (u := fun p => lS X.K p ts) (fun p _ => hsu p a oe pn) fun D σ H ⟨p, h⟩ => ⟨p, trivial, h⟩
  · obtain ⟨W, e, P, bl, S, ⟨XX, h, hc⟩, c⟩ := lS_un h
    refine ⟨(Bs.of W, XX), fun cls d σ' H' hl ⟨cc, W', cs', e1, e2, bp, ok', px⟩ => ?_, lS_mk W.le_refl S h c⟩
    subst e1
    obtain ⟨b, hbm, hy, hn⟩ := hc cc cs' px
    refine ⟨b, hx _ hbm, fun eb a na => ?_, fun eb => ⟨cc, W', cs', rfl, e2, B.up bl bp, ok', hn eb⟩⟩
    refine ⟨Bs.any, lS_mk (P := P) trivial ⟨ok', SlO.none_ hl⟩ (hy eb) ?_⟩
    exact ⟨fun e' W2 H2 σ2 p l S2 => c.nx _ _ _ _ p (bp.tr l) S2, fun d cs W2 H2 v p l ok r => c.rt _ _ _ _ _ p (bp.tr l) ok r, fun e' W2 H2 σ2 p l S2 => c.bk _ _ _ _ p (bp.tr l) S2, fun e' W2 H2 σ2 p l S2 => c.ct _ _ _ _ p (bp.tr l) S2⟩
theorem v_tryN {e : En} {Po' : Po} {tbl : List (Str × Bool)} {L : Nat} {tb : (XN → List Cel → Prop) → DS} {ts : DS} {XXo : XN → List Cel → Prop} (XX : XN → List Cel → Prop) (h1 : tb XX Po' e)
    (h2 : ∀ x cs', XX x cs' → ∃ b, (x.c, b) ∈ tbl ∧ (b = true → ts Po' ⟨List.replicate L none, cs'⟩) ∧ (b = false → XXo x cs')) : sTryN tbl L tb ts XXo Po' e := ⟨XX, h1, h2⟩
theorem set_self {cs : List Cel} {n : Nat} {c : Cel} (h : cs[n]? = some c) : cs.set n c = cs := by
  apply List.ext_getElem?
  intro k
  rw [List.getElem?_set]
  by_cases hk : n = k
  · subst hk
    rw [if_pos rfl, if_pos (List.getElem?_eq_some_iff.mp h).1, h]
  · rw [if_neg hk]
end DL
namespace LW
open PySem PySem.Spec PyProof.Rows L2 DL
open Evl (Ex)
abbrev Rw : PySem.W.OpenRow := PySem.W.OpenLaw.row PySem.Challenge.rw_sumslips_k47_whole_results_part_the_slip
def top (i : Nat) : Stmt := PySem.Challenge.pw_sumslips_k47_whole_results_part_the_slip.main.body.getD i (.Pass ⟨0, 0, 0, 0⟩)
abbrev s_law_pool : Stmt := top 39
abbrev N_law_pool : List Str := ["cell", "salt", "number", "mixed", "k"]
theorem sc_law_pool : FnScope N_law_pool ["cell", "salt"] (defScope s_law_pool) := ⟨rfl, rfl, rfl, by decide +kernel, rfl, by decide +kernel, by decide +kernel⟩
abbrev s_law_draw : Stmt := top 40
abbrev N_law_draw : List Str := ["pool", "many", "drawn"]
theorem sc_law_draw : FnScope N_law_draw ["pool", "many"] (defScope s_law_draw) := ⟨rfl, rfl, rfl, by decide +kernel, rfl, by decide +kernel, by decide +kernel⟩
abbrev s_law_power : Stmt := top 41
abbrev N_law_power : List Str := ["base", "many", "found", "k"]
theorem sc_law_power : FnScope N_law_power ["base", "many"] (defScope s_law_power) := ⟨rfl, rfl, rfl, by decide +kernel, rfl, by decide +kernel, by decide +kernel⟩
abbrev s_law_sheet : Stmt := top 44
abbrev N_law_sheet : List Str := ["pool", "most_columns", "least_columns", "base", "rows", "figures", "cols", "i", "j"]
theorem sc_law_sheet : FnScope N_law_sheet ["pool", "most_columns", "least_columns"] (defScope s_law_sheet) := ⟨rfl, rfl, rfl, by decide +kernel, rfl, by decide +kernel, by decide +kernel⟩
abbrev s_law_all_deeds : Stmt := top 42
abbrev N_law_all_deeds : List Str := ["base", "rows", "deeds", "j", "d"]
theorem sc_law_all_deeds : FnScope N_law_all_deeds ["base", "rows"] (defScope s_law_all_deeds) := ⟨rfl, rfl, rfl, by decide +kernel, rfl, by decide +kernel, by decide +kernel⟩
abbrev s_law_some_deeds : Stmt := top 43
abbrev N_law_some_deeds : List Str := ["pool", "base", "rows", "many", "left", "words", "chosen", "k", "word", "some", "act"]
theorem sc_law_some_deeds : FnScope N_law_some_deeds ["pool", "base", "rows", "many"] (defScope s_law_some_deeds) := ⟨rfl, rfl, rfl, by decide +kernel, rfl, by decide +kernel, by decide +kernel⟩
abbrev s_law_beside : Stmt := top 49
abbrev N_law_beside : List Str := ["pool", "base", "rows", "deeds", "other", "way", "act"]
theorem sc_law_beside : FnScope N_law_beside ["pool", "base", "rows", "deeds"] (defScope s_law_beside) := ⟨rfl, rfl, rfl, by decide +kernel, rfl, by decide +kernel, by decide +kernel⟩
abbrev s_is_integer : Stmt := top 10
abbrev N_is_integer : List Str := ["value"]
theorem sc_is_integer : FnScope N_is_integer ["value"] (defScope s_is_integer) := ⟨rfl, rfl, rfl, by decide +kernel, rfl, by decide +kernel, by decide +kernel⟩
abbrev s_number_of_columns : Stmt := top 36
abbrev N_number_of_columns : List Str := ["base", "rows", "many", "j"]
theorem sc_number_of_columns : FnScope N_number_of_columns ["base", "rows"] (defScope s_number_of_columns) := ⟨rfl, rfl, rfl, by decide +kernel, rfl, by decide +kernel, by decide +kernel⟩
abbrev s_is_deed : Stmt := top 16
abbrev N_is_deed : List Str := ["value", "base", "rows", "word", "part"]
theorem sc_is_deed : FnScope N_is_deed ["value", "base", "rows"] (defScope s_is_deed) := ⟨rfl, rfl, rfl, by decide +kernel, rfl, by decide +kernel, by decide +kernel⟩
abbrev s_all_deeds : Stmt := top 15
abbrev N_all_deeds : List Str := ["base", "rows", "deeds", "d", "j"]
theorem sc_all_deeds : FnScope N_all_deeds ["base", "rows"] (defScope s_all_deeds) := ⟨rfl, rfl, rfl, by decide +kernel, rfl, by decide +kernel, by decide +kernel⟩
abbrev s_Kind_init : Stmt := inClass (top 37) 0
abbrev N_Kind_init : List Str := ["self", "base", "rows", "deeds", "most", "held", "deed"]
theorem sc_Kind_init : FnScope N_Kind_init ["self", "base", "rows", "deeds", "most"] (defScope s_Kind_init) := ⟨rfl, rfl, rfl, by decide +kernel, rfl, by decide +kernel, by decide +kernel⟩
abbrev s_law_ordered : Stmt := top 46
abbrev N_law_ordered : List Str := ["many", "deeds", "most", "lists", "pile", "slips", "longer", "at", "act"]
theorem sc_law_ordered : FnScope N_law_ordered ["many", "deeds", "most"] (defScope s_law_ordered) := ⟨rfl, rfl, rfl, by decide +kernel, rfl, by decide +kernel, by decide +kernel⟩
abbrev s_law_run : Stmt := top 45
abbrev N_law_run : List Str := ["base", "cols", "slips", "deeds", "at", "act", "figures", "waiting", "carry", "i", "column", "total", "figure"]
theorem sc_law_run : FnScope N_law_run ["base", "cols", "slips"] (defScope s_law_run) := ⟨rfl, rfl, rfl, by decide +kernel, rfl, by decide +kernel, by decide +kernel⟩
abbrev s_law_outcomes : Stmt := top 47
abbrev N_law_outcomes : List Str := ["base", "cols", "lists", "found", "slips", "run"]
theorem sc_law_outcomes : FnScope N_law_outcomes ["base", "cols", "lists"] (defScope s_law_outcomes) := ⟨rfl, rfl, rfl, by decide +kernel, rfl, by decide +kernel, by decide +kernel⟩
abbrev s_is_column : Stmt := top 11
abbrev N_is_column : List Str := ["value", "base", "rows", "figure"]
theorem sc_is_column : FnScope N_is_column ["value", "base", "rows"] (defScope s_is_column) := ⟨rfl, rfl, rfl, by decide +kernel, rfl, by decide +kernel, by decide +kernel⟩
abbrev s_Sheet_init : Stmt := inClass (top 12) 0
abbrev N_Sheet_init : List Str := ["self", "base", "rows", "columns", "column"]
theorem sc_Sheet_init : FnScope N_Sheet_init ["self", "base", "rows", "columns"] (defScope s_Sheet_init) := ⟨rfl, rfl, rfl, by decide +kernel, rfl, by decide +kernel, by decide +kernel⟩
abbrev s_law_alike_0 : Stmt := top 48
abbrev N_law_alike_0 : List Str := ["told", "due", "k"]
theorem sc_law_alike_0 : FnScope N_law_alike_0 ["told", "due"] (defScope s_law_alike_0) := ⟨rfl, rfl, rfl, by decide +kernel, rfl, by decide +kernel, by decide +kernel⟩
abbrev s_law_alike_1 : Stmt := top 48
abbrev N_law_alike_1 : List Str := ["told", "due", "k"]
theorem sc_law_alike_1 : FnScope N_law_alike_1 ["told", "due"] (defScope s_law_alike_1) := ⟨rfl, rfl, rfl, by decide +kernel, rfl, by decide +kernel, by decide +kernel⟩
abbrev s_law_alike_2 : Stmt := top 48
abbrev N_law_alike_2 : List Str := ["told", "due", "k"]
theorem sc_law_alike_2 : FnScope N_law_alike_2 ["told", "due"] (defScope s_law_alike_2) := ⟨rfl, rfl, rfl, by decide +kernel, rfl, by decide +kernel, by decide +kernel⟩
abbrev s_law_alike_3 : Stmt := top 48
abbrev N_law_alike_3 : List Str := ["told", "due", "k"]
theorem sc_law_alike_3 : FnScope N_law_alike_3 ["told", "due"] (defScope s_law_alike_3) := ⟨rfl, rfl, rfl, by decide +kernel, rfl, by decide +kernel, by decide +kernel⟩
abbrev s_law_alike_4 : Stmt := top 48
abbrev N_law_alike_4 : List Str := ["told", "due", "k"]
theorem sc_law_alike_4 : FnScope N_law_alike_4 ["told", "due"] (defScope s_law_alike_4) := ⟨rfl, rfl, rfl, by decide +kernel, rfl, by decide +kernel, by decide +kernel⟩
abbrev s_check_lot : Stmt := top 25
abbrev N_check_lot : List Str := ["lot", "place", "divisor"]
theorem sc_check_lot : FnScope N_check_lot ["lot"] (defScope s_check_lot) := ⟨rfl, rfl, rfl, by decide +kernel, rfl, by decide +kernel, by decide +kernel⟩
abbrev s_Kind_base : Stmt := inClass (top 37) 1
abbrev N_Kind_base : List Str := ["self"]
theorem sc_Kind_base : FnScope N_Kind_base ["self"] (defScope s_Kind_base) := ⟨rfl, rfl, rfl, by decide +kernel, rfl, by decide +kernel, by decide +kernel⟩
abbrev s_Sheet_base : Stmt := inClass (top 12) 1
abbrev N_Sheet_base : List Str := ["self"]
theorem sc_Sheet_base : FnScope N_Sheet_base ["self"] (defScope s_Sheet_base) := ⟨rfl, rfl, rfl, by decide +kernel, rfl, by decide +kernel, by decide +kernel⟩
abbrev s_Kind_rows : Stmt := inClass (top 37) 2
abbrev N_Kind_rows : List Str := ["self"]
theorem sc_Kind_rows : FnScope N_Kind_rows ["self"] (defScope s_Kind_rows) := ⟨rfl, rfl, rfl, by decide +kernel, rfl, by decide +kernel, by decide +kernel⟩
abbrev s_Sheet_rows : Stmt := inClass (top 12) 2
abbrev N_Sheet_rows : List Str := ["self"]
theorem sc_Sheet_rows : FnScope N_Sheet_rows ["self"] (defScope s_Sheet_rows) := ⟨rfl, rfl, rfl, by decide +kernel, rfl, by decide +kernel, by decide +kernel⟩
abbrev s_check_alike : Stmt := top 27
abbrev N_check_alike : List Str := ["kind", "sheet"]
theorem sc_check_alike : FnScope N_check_alike ["kind", "sheet"] (defScope s_check_alike) := ⟨rfl, rfl, rfl, by decide +kernel, rfl, by decide +kernel, by decide +kernel⟩
abbrev s_Kind_most : Stmt := inClass (top 37) 4
abbrev N_Kind_most : List Str := ["self"]
theorem sc_Kind_most : FnScope N_Kind_most ["self"] (defScope s_Kind_most) := ⟨rfl, rfl, rfl, by decide +kernel, rfl, by decide +kernel, by decide +kernel⟩
abbrev s_Sheet_len : Stmt := inClass (top 12) 5
abbrev N_Sheet_len : List Str := ["self"]
theorem sc_Sheet_len : FnScope N_Sheet_len ["self"] (defScope s_Sheet_len) := ⟨rfl, rfl, rfl, by decide +kernel, rfl, by decide +kernel, by decide +kernel⟩
abbrev s_Kind_deeds : Stmt := inClass (top 37) 3
abbrev N_Kind_deeds : List Str := ["self"]
theorem sc_Kind_deeds : FnScope N_Kind_deeds ["self"] (defScope s_Kind_deeds) := ⟨rfl, rfl, rfl, by decide +kernel, rfl, by decide +kernel, by decide +kernel⟩
abbrev s_further_slips : Stmt := top 29
abbrev N_further_slips : List Str := ["kind", "sheet", "slips", "first", "column", "deed"]
theorem sc_further_slips : FnScope N_further_slips ["kind", "sheet", "slips"] (defScope s_further_slips) := ⟨rfl, rfl, rfl, by decide +kernel, rfl, by decide +kernel, by decide +kernel⟩
abbrev s_Sheet_columns : Stmt := inClass (top 12) 3
abbrev N_Sheet_columns : List Str := ["self"]
theorem sc_Sheet_columns : FnScope N_Sheet_columns ["self"] (defScope s_Sheet_columns) := ⟨rfl, rfl, rfl, by decide +kernel, rfl, by decide +kernel, by decide +kernel⟩
abbrev s_Adding_init : Stmt := inClass (top 21) 0
abbrev N_Adding_init : List Str := ["self", "sheet"]
theorem sc_Adding_init : FnScope N_Adding_init ["self", "sheet"] (defScope s_Adding_init) := ⟨rfl, rfl, rfl, by decide +kernel, rfl, by decide +kernel, by decide +kernel⟩
abbrev s_is_slip : Stmt := top 22
abbrev N_is_slip : List Str := ["value", "sheet", "low"]
theorem sc_is_slip : FnScope N_is_slip ["value", "sheet", "low"] (defScope s_is_slip) := ⟨rfl, rfl, rfl, by decide +kernel, rfl, by decide +kernel, by decide +kernel⟩
abbrev s_Adding_free : Stmt := inClass (top 21) 1
abbrev N_Adding_free : List Str := ["self"]
theorem sc_Adding_free : FnScope N_Adding_free ["self"] (defScope s_Adding_free) := ⟨rfl, rfl, rfl, by decide +kernel, rfl, by decide +kernel, by decide +kernel⟩
abbrev s_InvalidSlips_init : Stmt := inClass (top 8) 0
abbrev N_InvalidSlips_init : List Str := ["self", "index"]
theorem sc_InvalidSlips_init : FnScope N_InvalidSlips_init ["self", "index"] (defScope s_InvalidSlips_init) := ⟨rfl, rfl, rfl, by decide +kernel, rfl, by decide +kernel, by decide +kernel⟩
abbrev s_taken : Stmt := top 17
abbrev N_taken : List Str := ["base", "column", "before", "deed", "figures", "j"]
theorem sc_taken : FnScope N_taken ["base", "column", "before", "deed"] (defScope s_taken) := ⟨rfl, rfl, rfl, by decide +kernel, rfl, by decide +kernel, by decide +kernel⟩
abbrev s_done : Stmt := top 18
abbrev N_done : List Str := ["base", "column", "before", "carry", "deed", "word", "total", "figure", "new_carry"]
theorem sc_done : FnScope N_done ["base", "column", "before", "carry", "deed"] (defScope s_done) := ⟨rfl, rfl, rfl, by decide +kernel, rfl, by decide +kernel, by decide +kernel⟩
abbrev s_Adding_do : Stmt := inClass (top 21) 2
abbrev N_Adding_do : List Str := ["self", "deed", "before", "found", "figures"]
theorem sc_Adding_do : FnScope N_Adding_do ["self", "deed"] (defScope s_Adding_do) := ⟨rfl, rfl, rfl, by decide +kernel, rfl, by decide +kernel, by decide +kernel⟩
abbrev s_Adding_do_until : Stmt := inClass (top 21) 3
abbrev N_Adding_do_until : List Str := ["self", "column"]
theorem sc_Adding_do_until : FnScope N_Adding_do_until ["self", "column"] (defScope s_Adding_do_until) := ⟨rfl, rfl, rfl, by decide +kernel, rfl, by decide +kernel, by decide +kernel⟩
abbrev s_Written_init : Stmt := inClass (top 20) 0
abbrev N_Written_init : List Str := ["self", "base", "figures", "last"]
theorem sc_Written_init : FnScope N_Written_init ["self", "base", "figures", "last"] (defScope s_Written_init) := ⟨rfl, rfl, rfl, by decide +kernel, rfl, by decide +kernel, by decide +kernel⟩
abbrev s_Adding_result : Stmt := inClass (top 21) 4
abbrev N_Adding_result : List Str := ["self"]
theorem sc_Adding_result : FnScope N_Adding_result ["self"] (defScope s_Adding_result) := ⟨rfl, rfl, rfl, by decide +kernel, rfl, by decide +kernel, by decide +kernel⟩
abbrev s_add_with : Stmt := top 23
abbrev N_add_with : List Str := ["sheet", "slips", "adding", "index", "item"]
theorem sc_add_with : FnScope N_add_with ["sheet", "slips"] (defScope s_add_with) := ⟨rfl, rfl, rfl, by decide +kernel, rfl, by decide +kernel, by decide +kernel⟩
abbrev s_outcome : Stmt := top 28
abbrev N_outcome : List Str := ["sheet", "slips"]
theorem sc_outcome : FnScope N_outcome ["sheet", "slips"] (defScope s_outcome) := ⟨rfl, rfl, rfl, by decide +kernel, rfl, by decide +kernel, by decide +kernel⟩
abbrev s_all_outcomes : Stmt := top 30
abbrev N_all_outcomes : List Str := ["kind", "sheet", "found", "pile", "slips", "written"]
theorem sc_all_outcomes : FnScope N_all_outcomes ["kind", "sheet"] (defScope s_all_outcomes) := ⟨rfl, rfl, rfl, by decide +kernel, rfl, by decide +kernel, by decide +kernel⟩
abbrev s_Written_value : Stmt := inClass (top 20) 4
abbrev N_Written_value : List Str := ["self", "total", "figure"]
theorem sc_Written_value : FnScope N_Written_value ["self"] (defScope s_Written_value) := ⟨rfl, rfl, rfl, by decide +kernel, rfl, by decide +kernel, by decide +kernel⟩
abbrev s_Written_rest : Stmt := inClass (top 20) 5
abbrev N_Written_rest : List Str := ["self", "r"]
theorem sc_Written_rest : FnScope N_Written_rest ["self", "r"] (defScope s_Written_rest) := ⟨rfl, rfl, rfl, by decide +kernel, rfl, by decide +kernel, by decide +kernel⟩
abbrev s_slips_shown : Stmt := top 32
abbrev N_slips_shown : List Str := ["kind", "sheet", "lot", "shown", "rests", "slips", "result", "r"]
theorem sc_slips_shown : FnScope N_slips_shown ["kind", "sheet", "lot", "shown"] (defScope s_slips_shown) := ⟨rfl, rfl, rfl, by decide +kernel, rfl, by decide +kernel, by decide +kernel⟩
abbrev s_law_leaves : Stmt := top 50
abbrev N_law_leaves : List Str := ["base", "run", "r", "rest", "value", "figure"]
theorem sc_law_leaves : FnScope N_law_leaves ["base", "run", "r", "rest"] (defScope s_law_leaves) := ⟨rfl, rfl, rfl, by decide +kernel, rfl, by decide +kernel, by decide +kernel⟩
abbrev s_law_shown_right : Stmt := top 51
abbrev N_law_shown_right : List Str := ["kind", "sheet", "base", "lists", "results", "r", "rest", "due", "k"]
theorem sc_law_shown_right : FnScope N_law_shown_right ["kind", "sheet", "base", "lists", "results", "r", "rest"] (defScope s_law_shown_right) := ⟨rfl, rfl, rfl, by decide +kernel, rfl, by decide +kernel, by decide +kernel⟩
abbrev s_Written_base : Stmt := inClass (top 20) 1
abbrev N_Written_base : List Str := ["self"]
theorem sc_Written_base : FnScope N_Written_base ["self"] (defScope s_Written_base) := ⟨rfl, rfl, rfl, by decide +kernel, rfl, by decide +kernel, by decide +kernel⟩
abbrev s_Written_eq : Stmt := inClass (top 20) 7
abbrev N_Written_eq : List Str := ["self", "other"]
theorem sc_Written_eq : FnScope N_Written_eq ["self", "other"] (defScope s_Written_eq) := ⟨rfl, rfl, rfl, by decide +kernel, rfl, by decide +kernel, by decide +kernel⟩
abbrev s_slips_for : Stmt := top 31
abbrev N_slips_for : List Str := ["kind", "sheet", "written", "slips", "result"]
theorem sc_slips_for : FnScope N_slips_for ["kind", "sheet", "written"] (defScope s_slips_for) := ⟨rfl, rfl, rfl, by decide +kernel, rfl, by decide +kernel, by decide +kernel⟩
abbrev s_law_told_right : Stmt := top 52
abbrev N_law_told_right : List Str := ["told", "its", "lists", "results", "slips"]
theorem sc_law_told_right : FnScope N_law_told_right ["told", "its", "lists", "results"] (defScope s_law_told_right) := ⟨rfl, rfl, rfl, by decide +kernel, rfl, by decide +kernel, by decide +kernel⟩
abbrev s_law_holds : Stmt := top 53
abbrev N_law_holds : List Str := ["cell", "pool", "base", "rows", "cols", "some", "deeds", "beside", "mosts", "kind", "other", "lists", "results", "more", "others", "sheet", "r", "rest", "one", "its", "runs", "seen", "many", "k", "written", "told", "due", "act", "n", "run"]
theorem sc_law_holds : FnScope N_law_holds ["cell"] (defScope s_law_holds) := ⟨rfl, rfl, rfl, by decide +kernel, rfl, by decide +kernel, by decide +kernel⟩
abbrev s_law : Stmt := top 54
abbrev N_law : List Str := ["script", "cell"]
theorem sc_law : FnScope N_law ["script"] (defScope s_law) := ⟨rfl, rfl, rfl, by decide +kernel, rfl, by decide +kernel, by decide +kernel⟩
def df_law_pool : DefX := ⟨.glo "_law_pool", "_law_pool", "_law_pool", defArgs s_law_pool, defBody s_law_pool, defScope s_law_pool, [], []⟩
def df_law_draw : DefX := ⟨.glo "_law_draw", "_law_draw", "_law_draw", defArgs s_law_draw, defBody s_law_draw, defScope s_law_draw, [], []⟩
def df_law_power : DefX := ⟨.glo "_law_power", "_law_power", "_law_power", defArgs s_law_power, defBody s_law_power, defScope s_law_power, [], []⟩
def df_law_sheet : DefX := ⟨.glo "_law_sheet", "_law_sheet", "_law_sheet", defArgs s_law_sheet, defBody s_law_sheet, defScope s_law_sheet, [], []⟩
def df_law_all_deeds : DefX := ⟨.glo "_law_all_deeds", "_law_all_deeds", "_law_all_deeds", defArgs s_law_all_deeds, defBody s_law_all_deeds, defScope s_law_all_deeds, [], []⟩
def df_law_some_deeds : DefX := ⟨.glo "_law_some_deeds", "_law_some_deeds", "_law_some_deeds", defArgs s_law_some_deeds, defBody s_law_some_deeds, defScope s_law_some_deeds, [], []⟩
def df_law_beside : DefX := ⟨.glo "_law_beside", "_law_beside", "_law_beside", defArgs s_law_beside, defBody s_law_beside, defScope s_law_beside, [], []⟩
def df_is_integer : DefX := ⟨.glo "is_integer", "is_integer", "is_integer", defArgs s_is_integer, defBody s_is_integer, defScope s_is_integer, [], []⟩
def df_number_of_columns : DefX := ⟨.glo "number_of_columns", "number_of_columns", "number_of_columns", defArgs s_number_of_columns, defBody s_number_of_columns, defScope s_number_of_columns, [], []⟩
def df_is_deed : DefX := ⟨.glo "is_deed", "is_deed", "is_deed", defArgs s_is_deed, defBody s_is_deed, defScope s_is_deed, [], []⟩
def df_all_deeds : DefX := ⟨.glo "all_deeds", "all_deeds", "all_deeds", defArgs s_all_deeds, defBody s_all_deeds, defScope s_all_deeds, [], []⟩
def df_Kind_init : DefX := ⟨.met "Kind" "__init__", "__init__", "Kind.__init__", defArgs s_Kind_init, defBody s_Kind_init, defScope s_Kind_init, [], []⟩
def df_law_ordered : DefX := ⟨.glo "_law_ordered", "_law_ordered", "_law_ordered", defArgs s_law_ordered, defBody s_law_ordered, defScope s_law_ordered, [], []⟩
def df_law_run : DefX := ⟨.glo "_law_run", "_law_run", "_law_run", defArgs s_law_run, defBody s_law_run, defScope s_law_run, [], []⟩
def df_law_outcomes : DefX := ⟨.glo "_law_outcomes", "_law_outcomes", "_law_outcomes", defArgs s_law_outcomes, defBody s_law_outcomes, defScope s_law_outcomes, [], []⟩
def df_is_column : DefX := ⟨.glo "is_column", "is_column", "is_column", defArgs s_is_column, defBody s_is_column, defScope s_is_column, [], []⟩
def df_Sheet_init : DefX := ⟨.met "Sheet" "__init__", "__init__", "Sheet.__init__", defArgs s_Sheet_init, defBody s_Sheet_init, defScope s_Sheet_init, [], []⟩
def df_law_alike_0 : DefX := ⟨.glo "_law_alike", "_law_alike", "_law_alike", defArgs s_law_alike_0, defBody s_law_alike_0, defScope s_law_alike_0, [], []⟩
def df_law_alike_1 : DefX := ⟨.glo "_law_alike", "_law_alike", "_law_alike", defArgs s_law_alike_1, defBody s_law_alike_1, defScope s_law_alike_1, [], []⟩
def df_law_alike_2 : DefX := ⟨.glo "_law_alike", "_law_alike", "_law_alike", defArgs s_law_alike_2, defBody s_law_alike_2, defScope s_law_alike_2, [], []⟩
def df_law_alike_3 : DefX := ⟨.glo "_law_alike", "_law_alike", "_law_alike", defArgs s_law_alike_3, defBody s_law_alike_3, defScope s_law_alike_3, [], []⟩
def df_law_alike_4 : DefX := ⟨.glo "_law_alike", "_law_alike", "_law_alike", defArgs s_law_alike_4, defBody s_law_alike_4, defScope s_law_alike_4, [], []⟩
def df_check_lot : DefX := ⟨.glo "check_lot", "check_lot", "check_lot", defArgs s_check_lot, defBody s_check_lot, defScope s_check_lot, [], []⟩
def df_Kind_base : DefX := ⟨.prp "Kind" "base", "base", "Kind.base", defArgs s_Kind_base, defBody s_Kind_base, defScope s_Kind_base, [], []⟩
def df_Sheet_base : DefX := ⟨.prp "Sheet" "base", "base", "Sheet.base", defArgs s_Sheet_base, defBody s_Sheet_base, defScope s_Sheet_base, [], []⟩
def df_Kind_rows : DefX := ⟨.prp "Kind" "rows", "rows", "Kind.rows", defArgs s_Kind_rows, defBody s_Kind_rows, defScope s_Kind_rows, [], []⟩
def df_Sheet_rows : DefX := ⟨.prp "Sheet" "rows", "rows", "Sheet.rows", defArgs s_Sheet_rows, defBody s_Sheet_rows, defScope s_Sheet_rows, [], []⟩
def df_check_alike : DefX := ⟨.glo "check_alike", "check_alike", "check_alike", defArgs s_check_alike, defBody s_check_alike, defScope s_check_alike, [], []⟩
def df_Kind_most : DefX := ⟨.prp "Kind" "most", "most", "Kind.most", defArgs s_Kind_most, defBody s_Kind_most, defScope s_Kind_most, [], []⟩
def df_Sheet_len : DefX := ⟨.met "Sheet" "__len__", "__len__", "Sheet.__len__", defArgs s_Sheet_len, defBody s_Sheet_len, defScope s_Sheet_len, [], []⟩
def df_Kind_deeds : DefX := ⟨.prp "Kind" "deeds", "deeds", "Kind.deeds", defArgs s_Kind_deeds, defBody s_Kind_deeds, defScope s_Kind_deeds, [], []⟩
def df_further_slips : DefX := ⟨.glo "further_slips", "further_slips", "further_slips", defArgs s_further_slips, defBody s_further_slips, defScope s_further_slips, [], []⟩
def df_Sheet_columns : DefX := ⟨.prp "Sheet" "columns", "columns", "Sheet.columns", defArgs s_Sheet_columns, defBody s_Sheet_columns, defScope s_Sheet_columns, [], []⟩
def df_Adding_init : DefX := ⟨.met "Adding" "__init__", "__init__", "Adding.__init__", defArgs s_Adding_init, defBody s_Adding_init, defScope s_Adding_init, [], []⟩
def df_is_slip : DefX := ⟨.glo "is_slip", "is_slip", "is_slip", defArgs s_is_slip, defBody s_is_slip, defScope s_is_slip, [], []⟩
def df_Adding_free : DefX := ⟨.met "Adding" "free", "free", "Adding.free", defArgs s_Adding_free, defBody s_Adding_free, defScope s_Adding_free, [], []⟩
def df_InvalidSlips_init : DefX := ⟨.met "InvalidSlips" "__init__", "__init__", "InvalidSlips.__init__", defArgs s_InvalidSlips_init, defBody s_InvalidSlips_init, defScope s_InvalidSlips_init, [], []⟩
def df_taken : DefX := ⟨.glo "taken", "taken", "taken", defArgs s_taken, defBody s_taken, defScope s_taken, [], []⟩
def df_done : DefX := ⟨.glo "done", "done", "done", defArgs s_done, defBody s_done, defScope s_done, [], []⟩
def df_Adding_do : DefX := ⟨.met "Adding" "do", "do", "Adding.do", defArgs s_Adding_do, defBody s_Adding_do, defScope s_Adding_do, [], []⟩
def df_Adding_do_until : DefX := ⟨.met "Adding" "do_until", "do_until", "Adding.do_until", defArgs s_Adding_do_until, defBody s_Adding_do_until, defScope s_Adding_do_until, [], []⟩
def df_Written_init : DefX := ⟨.met "Written" "__init__", "__init__", "Written.__init__", defArgs s_Written_init, defBody s_Written_init, defScope s_Written_init, [], []⟩
def df_Adding_result : DefX := ⟨.met "Adding" "result", "result", "Adding.result", defArgs s_Adding_result, defBody s_Adding_result, defScope s_Adding_result, [], []⟩
def df_add_with : DefX := ⟨.glo "add_with", "add_with", "add_with", defArgs s_add_with, defBody s_add_with, defScope s_add_with, [], []⟩
def df_outcome : DefX := ⟨.glo "outcome", "outcome", "outcome", defArgs s_outcome, defBody s_outcome, defScope s_outcome, [], []⟩
def df_all_outcomes : DefX := ⟨.glo "all_outcomes", "all_outcomes", "all_outcomes", defArgs s_all_outcomes, defBody s_all_outcomes, defScope s_all_outcomes, [], []⟩
def df_Written_value : DefX := ⟨.prp "Written" "value", "value", "Written.value", defArgs s_Written_value, defBody s_Written_value, defScope s_Written_value, [], []⟩
def df_Written_rest : DefX := ⟨.met "Written" "rest", "rest", "Written.rest", defArgs s_Written_rest, defBody s_Written_rest, defScope s_Written_rest, [], []⟩
def df_slips_shown : DefX := ⟨.glo "slips_shown", "slips_shown", "slips_shown", defArgs s_slips_shown, defBody s_slips_shown, defScope s_slips_shown, [], []⟩
def df_law_leaves : DefX := ⟨.glo "_law_leaves", "_law_leaves", "_law_leaves", defArgs s_law_leaves, defBody s_law_leaves, defScope s_law_leaves, [], []⟩
def df_law_shown_right : DefX := ⟨.glo "_law_shown_right", "_law_shown_right", "_law_shown_right", defArgs s_law_shown_right, defBody s_law_shown_right, defScope s_law_shown_right, [], []⟩
def df_Written_base : DefX := ⟨.prp "Written" "base", "base", "Written.base", defArgs s_Written_base, defBody s_Written_base, defScope s_Written_base, [], []⟩
def df_Written_eq : DefX := ⟨.met "Written" "__eq__", "__eq__", "Written.__eq__", defArgs s_Written_eq, defBody s_Written_eq, defScope s_Written_eq, [], []⟩
def df_slips_for : DefX := ⟨.glo "slips_for", "slips_for", "slips_for", defArgs s_slips_for, defBody s_slips_for, defScope s_slips_for, [], []⟩
def df_law_told_right : DefX := ⟨.glo "_law_told_right", "_law_told_right", "_law_told_right", defArgs s_law_told_right, defBody s_law_told_right, defScope s_law_told_right, [], []⟩
def df_law_holds : DefX := ⟨.glo "_law_holds", "_law_holds", "_law_holds", defArgs s_law_holds, defBody s_law_holds, defScope s_law_holds, [], []⟩
def df_law : DefX := ⟨.glo "law", "law", "law", defArgs s_law, defBody s_law, defScope s_law, [], []⟩
def fns : List DefX := [df_law_pool, df_law_draw, df_law_power, df_law_sheet, df_law_all_deeds, df_law_some_deeds, df_law_beside, df_is_integer, df_number_of_columns, df_is_deed, df_all_deeds, df_Kind_init, df_law_ordered, df_law_run, df_law_outcomes, df_is_column, df_Sheet_init, df_law_alike_0, df_law_alike_1, df_law_alike_2, df_law_alike_3, df_law_alike_4, df_check_lot, df_Kind_base, df_Sheet_base, df_Kind_rows, df_Sheet_rows, df_check_alike, df_Kind_most, df_Sheet_len, df_Kind_deeds, df_further_slips, df_Sheet_columns, df_Adding_init, df_is_slip, df_Adding_free, df_InvalidSlips_init, df_taken, df_done, df_Adding_do, df_Adding_do_until, df_Written_init, df_Adding_result, df_add_with, df_outcome, df_all_outcomes, df_Written_value, df_Written_rest, df_slips_shown, df_law_leaves, df_law_shown_right, df_Written_base, df_Written_eq, df_slips_for, df_law_told_right, df_law_holds, df_law]
def fxs : List Fx := [.fa (.glo "_law_holds"), .fa (.glo "_law_pool"), .fa (.glo "_law_sheet"), .fa (.glo "_law_some_deeds"), .fa (.glo "_law_draw"), .fa (.glo "_law_all_deeds"), .fa (.glo "_law_beside"), .fa (.glo "Kind"), .fa (.glo "_law_ordered"), .fa (.glo "_law_outcomes"), .fa (.glo "Sheet"), .fa (.glo "_law_shown_right"), .fa (.glo "add_with"), .fa (.glo "slips_for"), .fa (.glo "_law_alike"), .fa (.glo "_law_told_right"), .fa (.glo "_law_power"), .fa (.glo "is_integer"), .fa (.glo "number_of_columns"), .fa (.glo "is_deed"), .fa (.glo "all_deeds"), .fa (.glo "PLAIN"), .fa (.glo "_law_run"), .fa (.glo "is_column"), .fa (.glo "slips_shown"), .fa (.glo "_law_leaves"), .fa (.glo "check_lot"), .fa (.glo "check_alike"), .fa (.glo "all_outcomes"), .fa (.glo "further_slips"), .fa (.glo "outcome"), .fa (.glo "InvalidSlips"), .fa (.glo "Adding"), .fa (.glo "is_slip"), .fa (.glo "done"), .fa (.glo "taken"), .fa (.glo "Written"), .fa (.glo "law"), .fa (.cls "Kind"), .fa (.mkr "Kind"), .fa (.free "list"), .fa (.free "len"), .fa (.cls "Sheet"), .fa (.mkr "Sheet"), .fa (.free "min"), .fa (.free "range"), .fa (.free "int"), .fa (.free "tuple"), .fa (.int "MOST_COLUMNS" 1000), .fa (.free "isinstance"), .fa (.free "all"), .fa (.int "MOST_DEEDS" 8), .fa (.noat "Kind" "held_base"), .fa (.noat "Kind" "held_rows"), .fa (.noat "Kind" "held_deeds"), .fa (.noat "Kind" "held_most"), .fa (.free "bool"), .fa (.free "str"), .tup "PLAIN" [.str "forget", .str "again", .str "swap", .str "out", .str "twice"], .fa (.free "sum"), .fa (.noat "Sheet" "held_base"), .fa (.noat "Sheet" "held_rows"), .fa (.noat "Sheet" "held_columns"), .fa (.noat "Sheet" "size"), .fa (.cls "Written"), .fa (.meth "Written" "rest"), .prop "Kind" "base", .prop "Sheet" "base", .prop "Kind" "rows", .prop "Sheet" "rows", .prop "Kind" "most", .sm "Sheet" "__len__", .prop "Kind" "deeds", .exm "InvalidSlips" [("InvalidSlips", true)], .fa (.cls "Adding"), .fa (.mkr "Adding"), .fa (.free "enumerate"), .fa (.meth "Adding" "free"), .oex "InvalidSlips", .noix "InvalidSlips", .sm "InvalidSlips" "__init__", .fa (.meth "Adding" "do_until"), .fa (.meth "Adding" "do"), .fa (.meth "Adding" "result"), .fa (.noat "Adding" "system"), .prop "Sheet" "columns", .fa (.noat "Adding" "given"), .fa (.noat "Adding" "at"), .fa (.noat "Adding" "written"), .fa (.noat "Adding" "carry"), .fa (.noat "Adding" "waiting"), .fa (.mkr "Written"), .fa (.noat "Written" "held_base"), .fa (.noat "Written" "held_figures"), .fa (.noat "Written" "held_last"), .prop "Written" "value", .prop "Written" "base", .sm "Written" "__eq__", .insc "Written"]
abbrev hk : PySem.W.Hook := hookY 6 fxs fns
section
open PySem PySem.W PySem.Calls PyProof.Rows
local macro_rules | `(tactic| k_head) => `(tactic| o_head LW.hk)
set_option maxHeartbeats 0 in
open_top head1 for PySem.Challenge.rw_sumslips_k47_whole_results_part_the_slip
end
/-! ### what each def promises -/
def isI : D → Bool
  | .int _ => true
  | _ => false
inductive Wo where
  | forget | again | off | read | copy | swap | out | twice
deriving DecidableEq
def Wo.s : Wo → Str
  | .forget => "forget"
  | .again => "again"
  | .off => "off"
  | .read => "read"
  | .copy => "copy"
  | .swap => "swap"
  | .out => "out"
  | .twice => "twice"
abbrev Dd : Type := Wo × List Int
def encD (t : Dd) : D := .tup (.str t.1.s :: t.2.map .int)
def offs (b : Int) : List Dd := (List.range (b - 1).toNat).map fun (i : Nat) => (.off, [1 + (i : Int)])
def reads (b j : Int) : List Dd := (List.range (b - 1).toNat).map fun (i : Nat) => (.read, [j, 1 + (i : Int)])
def copies (r : Int) : List Dd := (List.range r.toNat).map fun (j : Nat) => (.copy, [0 + (j : Int)])
def readsA (b : Int) (k : Nat) : List Dd := (List.range k).flatMap fun (j : Nat) => reads b (0 + (j : Int))
def allD (b r : Int) : List Dd := [(.forget, []), (.again, [])] ++ offs b ++ readsA b r.toNat ++ copies r ++ [(.swap, []), (.out, []), (.twice, [])]
def kiN : List Str := ["held_base", "held_rows", "held_deeds", "held_most"]
def kiD (K : PySem.W.Frag) (b r : Int) (ds : List Dd) (m : Int) : D := .ins (He.ga K "Kind") kiN [.int b, .int r, .lst (ds.map encD), .int m]
structure Gn (b r : Int) : Prop where
  b2 : 2 ≤ b
  b12 : b ≤ 12
  r1 : 1 ≤ r
  r4 : r ≤ 4
  c : b ^ r.toNat ≤ 1000
def isIn {α : Type} [DecidableEq α] (x : α) (xs : List α) : Bool := decide (x ∈ xs)
def keep (b r : Int) (some : List Dd) : List Dd := (allD b r).filter fun t => isIn t some
structure Gk (b r : Int) (some : List Dd) (m : Int) : Prop where
  n : Gn b r
  sub : ∀ t ∈ some, t ∈ allD b r
  nd : some.Nodup
  l1 : 1 ≤ some.length
  l8 : some.length ≤ 8
  m1 : 1 ≤ m
  m3 : m ≤ 3
def sp_is_integer (K : PySem.W.Frag) : Spc := fun ds cs P => ∃ d, ds = [d] ∧ (∃ a, tyN cs d = some a) ∧ P (.bl (isI d)) cs
def sp_number_of_columns (K : PySem.W.Frag) : Spc := fun ds cs P => ∃ b r : Int, ds = [.int b, .int r] ∧ 2 ≤ b ∧ b ≤ 12 ∧ 1 ≤ r ∧ r ≤ 4 ∧ P (.int (b ^ r.toNat)) cs
def sp_all_deeds (K : PySem.W.Frag) : Spc := fun ds cs P => ∃ b r : Int, ds = [.int b, .int r] ∧ 2 ≤ b ∧ b ≤ 12 ∧ 1 ≤ r ∧ r ≤ 4 ∧ P (.lst ((allD b r).map encD)) cs
def sp_Kind_init (K : PySem.W.Frag) : Spc := fun ds cs P => ∃ (n : Nat) (b r m : Int) (d : D) (some_ : List Dd), ds = [.cell n, .int b, .int r, d, .int m] ∧ lk cs d = some (some_.map encD) ∧ (∀ ys, d ≠ .fro ys) ∧ cs[n]? = some (.ins (He.ga K "Kind") [] []) ∧ Gk b r some_ m ∧
  P .non (cs.set n (.ins (He.ga K "Kind") kiN [.int b, .int r, .lst ((keep b r some_).map encD), .int m]))
def sp_Kind_deeds (K : PySem.W.Frag) : Spc := fun ds cs P => ∃ (b r m : Int) (es : List Dd), ds = [kiD K b r es m] ∧ es.length ≤ 8 ∧ fresh (es.map encD) cs P
def sp_Kind_base (K : PySem.W.Frag) : Spc := fun ds cs P => ∃ (b r m : Int) (es : List Dd), ds = [kiD K b r es m] ∧ P (.int b) cs
def sp_Kind_rows (K : PySem.W.Frag) : Spc := fun ds cs P => ∃ (b r m : Int) (es : List Dd), ds = [kiD K b r es m] ∧ P (.int r) cs
def sp_Kind_most (K : PySem.W.Frag) : Spc := fun ds cs P => ∃ (b r m : Int) (es : List Dd), ds = [kiD K b r es m] ∧ P (.int m) cs
structure Gl0 (l : List Int) : Prop where
  nd : l.Nodup
  ge : ∀ x ∈ l, 2 ≤ x ∧ x ≤ 60
  len : l.length ≤ 8
def sp_check_lot (K : PySem.W.Frag) : Spc := fun ds cs P => ∃ (d : D) (l : List Int), ds = [d] ∧ lk cs d = some (l.map .int) ∧ (∀ ys, d ≠ .fro ys) ∧ Gl0 l ∧ P .non cs
def okC (b r : Int) (c : List Int) : Bool := decide ((c.length : Int) = r) && c.all fun n => decide (0 ≤ n) && decide (n < b)
def shN : List Str := ["held_base", "held_rows", "held_columns", "size"]
def shD (K : PySem.W.Frag) (b r : Int) (cols : List (List Int)) : D := .ins (He.ga K "Sheet") shN [.int b, .int r, .lst (cols.map encC), .int cols.length]
def isSh (K : PySem.W.Frag) (cs : List Cel) (d : D) (b r : Int) (cols : List (List Int)) : Prop := ∃ hc, insD cs d = some (He.ga K "Sheet", shN, [.int b, .int r, hc, .int cols.length]) ∧ lk cs hc = some (cols.map encC)
structure Gd (b r : Int) (cols : List (List Int)) : Prop where
  b2 : 2 ≤ b
  b12 : b ≤ 12
  r1 : 1 ≤ r
  r4 : r ≤ 4
  c : ∀ c ∈ cols, okC b r c = true
  n : cols.length ≤ 1000
def adN : List Str := ["system", "given", "at", "written", "carry", "waiting"]
def wrN : List Str := ["held_base", "held_figures", "held_last"]
def wrD (K : PySem.W.Frag) (b : Int) (fs : List Int) (l : Int) : D := .ins (He.ga K "Written") wrN [.int b, .lst (fs.map .int), .int l]
inductive Op where
  | right | forget | again | off (d : Int) | read (j : Nat) (d : Int) | copy (j : Nat) | swap | out | twice
deriving DecidableEq
def encO : Op → D
  | .right => .tup [.str "right"]
  | .forget => .tup [.str "forget"]
  | .again => .tup [.str "again"]
  | .off d => .tup [.str "off", .int d]
  | .read j d => .tup [.str "read", .int (j : Nat), .int d]
  | .copy j => .tup [.str "copy", .int (j : Nat)]
  | .swap => .tup [.str "swap"]
  | .out => .tup [.str "out"]
  | .twice => .tup [.str "twice"]
def encP : Op → D
  | .right => .non
  | o => encO o
def encS (s : Nat × Op) : D := .tup [.int (s.1 : Nat), encO s.2]
def okO (b r : Int) : Op → Prop
  | .off d => 1 ≤ d ∧ d < b
  | .read j d => (j : Int) < r ∧ 1 ≤ d ∧ d < b
  | .copy j => (j : Int) < r
  | _ => True
def takeF (b : Int) (c bf : List Int) : Op → List Int
  | .read j d => c.set j ((c.getD j 0 + d) % b)
  | .copy j => c.set j (bf.getD j 0)
  | _ => c
def tot (b : Int) (c bf : List Int) (o : Op) (k : Int) : Int := (takeF b c bf o).sum + k
def stepT (b : Int) (c bf : List Int) (o : Op) (k : Int) : List Int × Int := match o with
  | .out => ([], k)
  | .forget => ([tot b c bf o k % b], 0)
  | .again => ([tot b c bf o k % b], tot b c bf o k / b + 1)
  | .off d => ([(tot b c bf o k % b + d) % b], tot b c bf o k / b)
  | .twice => ([tot b c bf o k % b, (c.sum + tot b c bf o k / b) % b], (c.sum + tot b c bf o k / b) / b)
  | _ => ([tot b c bf o k % b], tot b c bf o k / b)
def okS (b : Int) (c bf : List Int) (i n : Nat) (o : Op) (k : Int) : Prop := match o with
  | .forget => tot b c bf o k / b ≠ 0
  | .copy _ => i ≠ 0
  | .swap => i + 1 ≠ n
  | _ => True
abbrev St : Type := List Int × Int × Option Int
def adv (st : St) (f : List Int × Int) (o : Op) : St := match st.2.2 with
  | some w => (st.1 ++ (f.1 ++ [w]), f.2, none)
  | none => if o = .swap then (st.1, f.2, some (f.1.headD 0)) else (st.1 ++ f.1, f.2, none)
def colAt (cols : List (List Int)) (i : Nat) : List Int := cols.getD i []
def opAt (ops : List Op) (i : Nat) : Op := ops.getD i .right
def stF (b : Int) (cols : List (List Int)) (ops : List Op) : Nat → St
  | 0 => ([], 0, none)
  | i + 1 => adv (stF b cols ops i) (stepT b (colAt cols i) (colAt cols (i - 1)) (opAt ops i) (stF b cols ops i).2.1) (opAt ops i)
structure Plan (b r : Int) (cols : List (List Int)) (ops : List Op) : Prop where
  len : ops.length = cols.length
  ok : ∀ i, i < cols.length → okO b r (opAt ops i)
  st : ∀ i, i < cols.length → okS b (colAt cols i) (colAt cols (i - 1)) i cols.length (opAt ops i) (stF b cols ops i).2.1
  sw : ∀ i, i + 1 < cols.length → opAt ops i = .swap → opAt ops (i + 1) = .right
def wD : Option Int → D
  | none => .non
  | some w => .int w
def adC (K : PySem.W.Frag) (b : Int) (cols : List (List Int)) (i : Nat) (st : St) : Cel := .ins (He.ga K "Adding") adN [.int b, .lst (cols.map encC), .int (i : Nat), .lst (st.1.map .int), .int st.2.1, wD st.2.2]
def valW (b : Int) (l : Int) : List Int → Int
  | [] => l
  | x :: xs => x + b * valW b l xs
def sp_is_column (K : PySem.W.Frag) : Spc := fun ds cs P => ∃ (c : List Int) (b r : Int), ds = [encC c, .int b, .int r] ∧ c.length ≤ 1000 ∧ P (.bl (okC b r c)) cs
def sp_Sheet_init (K : PySem.W.Frag) : Spc := fun ds cs P => ∃ n d cols b r, ds = [.cell n, .int b, .int r, d] ∧ cs[n]? = some (.ins (He.ga K "Sheet") [] []) ∧ lk cs d = some (cols.map encC) ∧ (∀ ys, d ≠ .fro ys) ∧ Gd b r cols ∧
  (P .non (cs.set n (.ins (He.ga K "Sheet") shN [.int b, .int r, .lst (cols.map encC), .int cols.length])) ∨
    P .non (cs.set n (.ins (He.ga K "Sheet") shN [.int b, .int r, .cell cs.length, .int cols.length]) ++ [.lst (cols.map encC)]))
def sp_Sheet_base (K : PySem.W.Frag) : Spc := fun ds cs P => ∃ (d : D) (b r : Int) (cols : List (List Int)), ds = [d] ∧ isSh K cs d b r cols ∧ P (.int b) cs
def sp_Sheet_rows (K : PySem.W.Frag) : Spc := fun ds cs P => ∃ (d : D) (b r : Int) (cols : List (List Int)), ds = [d] ∧ isSh K cs d b r cols ∧ P (.int r) cs
def sp_Sheet_len (K : PySem.W.Frag) : Spc := fun ds cs P => ∃ (d : D) (b r : Int) (cols : List (List Int)), ds = [d] ∧ isSh K cs d b r cols ∧ P (.int cols.length) cs
def sp_Sheet_columns (K : PySem.W.Frag) : Spc := fun ds cs P => ∃ (d : D) (b r : Int) (cols : List (List Int)), ds = [d] ∧ isSh K cs d b r cols ∧ fresh (cols.map encC) cs P
def sp_Written_init (K : PySem.W.Frag) : Spc := fun ds cs P => ∃ (n : Nat) (b : Int) (fs : List Int) (l : Int), ds = [.cell n, .int b, .lst (fs.map .int), .int l] ∧ cs[n]? = some (.ins (He.ga K "Written") [] []) ∧ P .non (cs.set n (.ins (He.ga K "Written") wrN [.int b, .lst (fs.map .int), .int l]))
def sp_taken (K : PySem.W.Frag) : Spc := fun ds cs P => ∃ (b r : Int) (c bf : List Int) (o : Op) (d : D), ds = [.int b, encC c, d, encP o] ∧ 2 ≤ b ∧ b ≤ 12 ∧ (c.length : Int) = r ∧ c.length ≤ 1000 ∧ okO b r o ∧ ((∃ j, o = .copy j) → d = encC bf ∧ bf.length = c.length) ∧ P (encC (takeF b c bf o)) cs
def sp_done (K : PySem.W.Frag) : Spc := fun ds cs P => ∃ (b r k : Int) (c bf : List Int) (o : Op) (d : D), ds = [.int b, encC c, d, .int k, encP o] ∧ 2 ≤ b ∧ b ≤ 12 ∧ (c.length : Int) = r ∧ c.length ≤ 1000 ∧ okO b r o ∧
  ((((∃ j, o = .copy j) → d = encC bf ∧ bf.length = c.length) ∧ (o = .forget → tot b c bf o k / b ≠ 0) ∧ P (.tup [.lst ((stepT b c bf o k).1.map .int), .int (stepT b c bf o k).2]) cs) ∨
    ((((∃ j, o = .copy j) ∧ d = .non) ∨ (o = .forget ∧ tot b c bf o k / b = 0)) ∧ P .non cs))
def sp_Adding_init (K : PySem.W.Frag) : Spc := fun ds cs P => ∃ (n : Nat) (d : D) (b r : Int) (cols : List (List Int)), ds = [.cell n, d] ∧ cs[n]? = some (.ins (He.ga K "Adding") [] []) ∧ isSh K cs d b r cols ∧ P .non (cs.set n (adC K b cols 0 ([], 0, none)))
def sp_Adding_free (K : PySem.W.Frag) : Spc := fun ds cs P => ∃ (n : Nat) (b : Int) (cols : List (List Int)) (i : Nat) (st : St), ds = [.cell n] ∧ cs[n]? = some (adC K b cols i st) ∧ P (.int ((if st.2.2 = none then i else i + 1 : Nat) : Int)) cs
def sp_Adding_do (K : PySem.W.Frag) : Spc := fun ds cs P => ∃ (n : Nat) (b r : Int) (cols : List (List Int)) (i : Nat) (st : St) (o : Op), ds = [.cell n, encP o] ∧ cs[n]? = some (adC K b cols i st) ∧ Gd b r cols ∧ i < cols.length ∧ okO b r o ∧ (st.2.2 ≠ none → o = .right) ∧ st.1.length ≤ 10000 ∧
  (okS b (colAt cols i) (colAt cols (i - 1)) i cols.length o st.2.1 → P (.bl true) (cs.set n (adC K b cols (i + 1) (adv st (stepT b (colAt cols i) (colAt cols (i - 1)) o st.2.1) o)))) ∧
  (¬ okS b (colAt cols i) (colAt cols (i - 1)) i cols.length o st.2.1 → P (.bl false) cs)
def sp_Adding_do_until (K : PySem.W.Frag) : Spc := fun ds cs P => ∃ (n : Nat) (b r : Int) (cols : List (List Int)) (ops : List Op) (i j : Nat), ds = [.cell n, .int (j : Nat)] ∧ cs[n]? = some (adC K b cols i (stF b cols ops i)) ∧ Gd b r cols ∧ Plan b r cols ops ∧ i ≤ j ∧ j ≤ cols.length ∧ (∀ k, i ≤ k → k < j → opAt ops k = .right) ∧ P .non (cs.set n (adC K b cols j (stF b cols ops j)))
def sp_Adding_result (K : PySem.W.Frag) : Spc := fun ds cs P => ∃ (n : Nat) (b r : Int) (cols : List (List Int)) (ops : List Op) (i : Nat), ds = [.cell n] ∧ cs[n]? = some (adC K b cols i (stF b cols ops i)) ∧ Gd b r cols ∧ Plan b r cols ops ∧ i ≤ cols.length ∧ (∀ k, i ≤ k → k < cols.length → opAt ops k = .right) ∧
  P (wrD K b (stF b cols ops cols.length).1 (stF b cols ops cols.length).2.1) (cs.set n (adC K b cols cols.length (stF b cols ops cols.length)))
def slF : Nat → List Op → List (Nat × Op)
  | _, [] => []
  | k, o :: t => (if o = .right then [] else [(k, o)]) ++ slF (k + 1) t
/-! a deed, asked of any plain value -/
def plT : D → Bool
  | .non => true
  | .bl _ => true
  | .int _ => true
  | .str _ => true
  | .tup _ => true
  | .lst _ => true
  | .dct => true
  | _ => false
def layH : List D → Bool
  | .str w :: _ => (PyData.str w).canLay0
  | _ => true
/-- a plain value, and what it holds -/
def okV : D → Bool
  | .tup xs => decide (xs.length ≤ 1000) && (xs.all plT && layH xs)
  | d => plT d
def plW (w : Str) : Bool := inF (.str w) [.str "forget", .str "again", .str "swap", .str "out", .str "twice"]
def oneN (lo hi : Int) : List D → Bool
  | [.int d] => decide (lo ≤ d) && decide (d < hi)
  | _ => false
def twoN (r b : Int) : List D → Bool
  | [.int j, .int d] => (decide (0 ≤ j) && decide (j < r)) && (decide (1 ≤ d) && decide (d < b))
  | _ => false
def isDd (b r : Int) : D → Bool
  | .tup (.str w :: rest) => rest.all isI && (if plW w = true then rest.isEmpty else if (w == "off") = true then oneN 1 b rest else if (w == "copy") = true then oneN 0 r rest else (w == "read") && twoN r b rest)
  | _ => false
def sp_is_deed (K : PySem.W.Frag) : Spc := fun ds cs P => ∃ (d : D) (b r : Int), ds = [d, .int b, .int r] ∧ okV d = true ∧ P (.bl (isDd b r d)) cs
def okV2 : D → Bool
  | .tup xs => decide (xs.length ≤ 1000) && xs.all okV
  | d => plT d
def isSl (b r : Int) (n : Nat) (l : Int) : D → Bool
  | .tup [.int i, d] => (decide (l ≤ i) && decide (i < (n : Int))) && isDd b r d
  | _ => false
def sp_is_slip (K : PySem.W.Frag) : Spc := fun ds cs P => ∃ (v d : D) (l b r : Int) (cols : List (List Int)), ds = [v, d, .int l] ∧ okV2 v = true ∧ isSh K cs d b r cols ∧ Gd b r cols ∧ P (.bl (isSl b r cols.length l v)) cs
def cutO (n : Nat) (ops : List Op) (l : Nat) : List Op := (List.range n).map fun k => if k < l then opAt ops k else .right
def lowN (ops : List Op) : Nat → Nat
  | 0 => 0
  | k + 1 => ((slF 0 ops).getD k (0, .right)).1 + 1 + (if ((slF 0 ops).getD k (0, .right)).2 = .swap then 1 else 0)
def BadL (b r : Int) (cols : List (List Int)) (ops : List Op) (l : Nat) (v : D) : Prop := isSl b r cols.length l v = false ∨ ∃ (i : Nat) (o : Op), v = encS (i, o) ∧ l ≤ i ∧ i < cols.length ∧ okO b r o ∧ o ≠ .right ∧ ¬ okS b (colAt cols i) (colAt cols (i - 1)) i cols.length o (stF b cols (cutO cols.length ops l) i).2.1
structure BadS (b r : Int) (cols : List (List Int)) (ops : List Op) (items : List D) (x : Nat) : Prop where
  le : x ≤ (slF 0 ops).length
  e : ∃ v rest, items = ((slF 0 ops).take x).map encS ++ v :: rest ∧ okV2 v = true ∧ BadL b r cols ops (lowN ops x) v ∧ rest.length ≤ 2000
def sp_add_with (K : PySem.W.Frag) : SpX := fun ds cs P PX => ∃ (d d2 : D) (b r : Int) (cols : List (List Int)) (ops : List Op) (items : List D), ds = [d, d2] ∧ lk cs d2 = some items ∧ isSh K cs d b r cols ∧ Gd b r cols ∧ Plan b r cols ops ∧
  ((items = (slF 0 ops).map encS ∧ P (wrD K b (stF b cols ops cols.length).1 (stF b cols ops cols.length).2.1) cs) ∨ ∃ x, BadS b r cols ops items x ∧ PX ⟨"InvalidSlips", some ((x : Nat) : Int)⟩ cs)
def sp_Written_value (K : PySem.W.Frag) : Spc := fun ds cs P => ∃ (b : Int) (fs : List Int) (l : Int), ds = [wrD K b fs l] ∧ 2 ≤ b ∧ b ≤ 12 ∧ P (.int (valW b l fs)) cs
def sp_Written_rest (K : PySem.W.Frag) : Spc := fun ds cs P => ∃ (b : Int) (fs : List Int) (l r : Int), ds = [wrD K b fs l, .int r] ∧ 2 ≤ b ∧ b ≤ 12 ∧ 0 < r ∧ P (.int (valW b l fs % r)) cs
/-! ### lists of slips -/
/-- a deed of a kind as a deed of the adding -/
def toO (t : Dd) : Op := match t.1 with
  | .forget => .forget
  | .again => .again
  | .off => .off (t.2.getD 0 0)
  | .read => .read (t.2.getD 0 0).toNat (t.2.getD 1 0)
  | .copy => .copy (t.2.getD 0 0).toNat
  | .swap => .swap
  | .out => .out
  | .twice => .twice
/-- slips: columns and deeds -/
abbrev Sl : Type := List (Nat × Op)
def encSl (S : Sl) : D := .lst (S.map encS)
structure Gs (b r : Int) (n : Nat) (S : Sl) : Prop where
  asc : S.Pairwise fun x y => x.1 < y.1
  lt : ∀ x ∈ S, x.1 < n
  ok : ∀ x ∈ S, okO b r x.2
  ne : ∀ x ∈ S, x.2 ≠ .right
def opIn (S : Sl) (k : Nat) : Op := ((S.find? fun x => decide (x.1 = k)).map (·.2)).getD .right
def opsN (n : Nat) (S : Sl) : List Op := (List.range n).map (opIn S)
/-- what is written with these slips, if they are possible -/
noncomputable def outF (b r : Int) (cols : List (List Int)) (S : Sl) : Option (List Int × Int) := @ite _ (Plan b r cols (opsN cols.length S)) (Classical.propDecidable _) (some ((stF b cols (opsN cols.length S) cols.length).1, (stF b cols (opsN cols.length S) cols.length).2.1)) none
def outD (K : PySem.W.Frag) (b : Int) : Option (List Int × Int) → D
  | none => .non
  | some x => wrD K b x.1 x.2
def outT : Option (List Int × Int) → D
  | none => .non
  | some x => .tup [.lst (x.1.map .int), .int x.2]
def nxC (S : Sl) : Nat := match S.getLast? with
  | none => 0
  | some x => x.1 + 1
/-- the lists with one slip more -/
def fur (n : Nat) (os : List Op) (m : Nat) (S : Sl) : List Sl := if S.length = m then [] else (List.range (n - nxC S)).flatMap fun i => os.map fun o => S ++ [(nxC S + i, o)]
/-- a list and all that begin with it -/
def pre (n : Nat) (os : List Op) (m : Nat) : Nat → Sl → List Sl
  | 0, S => [S]
  | k + 1, S => S :: (fur n os m S).flatMap (pre n os m k)
/-- all lists of one slip or more -/
def ordF (n : Nat) (os : List Op) (m : Nat) : List Sl := (fur n os m []).flatMap (pre n os m m)
/-- a kind's deeds as deeds of the adding -/
structure Go (b r : Int) (os : List Op) : Prop where
  ok : ∀ o ∈ os, okO b r o
  ne : ∀ o ∈ os, o ≠ .right
  l8 : os.length ≤ 8
def sp_outcome (K : PySem.W.Frag) : Spc := fun ds cs P => ∃ (d d2 : D) (b r : Int) (cols : List (List Int)) (S : Sl), ds = [d, d2] ∧ lk cs d2 = some (S.map encS) ∧ isSh K cs d b r cols ∧ Gd b r cols ∧ Gs b r cols.length S ∧ P (outD K b (outF b r cols S)) cs
def sp_further_slips (K : PySem.W.Frag) : Spc := fun ds cs P => ∃ (d : D) (b r : Int) (cols : List (List Int)) (es : List Dd) (m : Nat) (S : Sl), ds = [kiD K b r es (m : Nat), d, encSl S] ∧ isSh K cs d b r cols ∧ (∀ t ∈ es, t ∈ allD b r) ∧ es.length ≤ 8 ∧ S.length ≤ m ∧ m ≤ 3 ∧ cols.length ≤ 1000 ∧ nxC S ≤ 2000 ∧
  P (.lst ((fur cols.length (es.map toO) m S).map encSl)) cs
noncomputable def allF (b r : Int) (cols : List (List Int)) (os : List Op) (m : Nat) : List (Sl × (List Int × Int)) := (ordF cols.length os m).filterMap fun S => (outF b r cols S).map fun x => (S, x)
def encW (K : PySem.W.Frag) (b : Int) (t : Sl × (List Int × Int)) : D := .tup [encSl t.1, wrD K b t.2.1 t.2.2]
structure Gz (n : Nat) (os : List Op) (m : Nat) : Prop where
  n12 : n ≤ 12
  m1 : 1 ≤ m
  m3 : m ≤ 3
  z : (ordF n os m).length ≤ 20000
def sp_all_outcomes (K : PySem.W.Frag) : Spc := fun ds cs P => ∃ (d : D) (b r : Int) (cols : List (List Int)) (es : List Dd) (m : Nat), ds = [kiD K b r es (m : Nat), d] ∧ isSh K cs d b r cols ∧ Gd b r cols ∧ (∀ t ∈ es, t ∈ allD b r) ∧ es.length ≤ 8 ∧ Gz cols.length (es.map toO) m ∧
  P (.lst ((allF b r cols (es.map toO) m).map (encW K b))) cs
def sp_check_alike (K : PySem.W.Frag) : Spc := fun ds cs P => ∃ (d : D) (b r m : Int) (cols : List (List Int)) (es : List Dd), ds = [kiD K b r es m, d] ∧ isSh K cs d b r cols ∧ P .non cs
/-- the lists whose results leave these rests -/
noncomputable def shownF (b r : Int) (cols : List (List Int)) (os : List Op) (m : Nat) (l rs : List Int) : List Sl := ((allF b r cols os m).filter fun t => decide (l.map (fun d => valW b t.2.2 t.2.1 % d) = rs)).map (·.1)
def sp_slips_shown (K : PySem.W.Frag) : Spc := fun ds cs P => ∃ (d : D) (b r : Int) (cols : List (List Int)) (es : List Dd) (m : Nat) (l rs : List Int), ds = [kiD K b r es (m : Nat), d, .lst (l.map .int), .lst (rs.map .int)] ∧ isSh K cs d b r cols ∧ Gd b r cols ∧ (∀ t ∈ es, t ∈ allD b r) ∧ es.length ≤ 8 ∧ Gz cols.length (es.map toO) m ∧ Gl0 l ∧ rs.length ≤ 100 ∧
  P (.lst ((shownF b r cols (es.map toO) m l rs).map encSl)) cs
/-! the law's own -/
/-- a pool -/
abbrev plC (a : Int) : Cel := .lst [.int a]
def sp_law_pool (K : PySem.W.Frag) : Spc := fun ds cs P => ∃ (c : Int) (s : Nat), ds = [.int c, .int (s : Nat)] ∧ s ≤ 1000 ∧ ∀ a : Int, P (.cell cs.length) (cs ++ [plC a])
def sp_law_draw (K : PySem.W.Frag) : Spc := fun ds cs P => ∃ (n : Nat) (m a : Int), ds = [.cell n, .int m] ∧ cs[n]? = some (plC a) ∧ 0 < m ∧ m ≤ 1000000000 ∧ ∀ r a' : Int, 0 ≤ r → r < m → P (.int r) (cs.set n (plC a'))
def sp_law_power (K : PySem.W.Frag) : Spc := fun ds cs P => ∃ b k : Int, ds = [.int b, .int k] ∧ 2 ≤ b ∧ b ≤ 12 ∧ 0 ≤ k ∧ k ≤ 1000 ∧ P (.int (b ^ k.toNat)) cs
def sp_law_all_deeds (K : PySem.W.Frag) : Spc := fun ds cs P => ∃ b r : Int, ds = [.int b, .int r] ∧ 2 ≤ b ∧ b ≤ 12 ∧ 1 ≤ r ∧ r ≤ 4 ∧ fresh ((allD b r).map encD) cs P
def sp_law_some_deeds (K : PySem.W.Frag) : Spc := fun ds cs P => ∃ (n : Nat) (a b r m : Int), ds = [.cell n, .int b, .int r, .int m] ∧ cs[n]? = some (plC a) ∧ 2 ≤ b ∧ b ≤ 12 ∧ 1 ≤ r ∧ r ≤ 4 ∧ 0 ≤ m ∧ m ≤ 8 ∧
  ∀ (ys : List Dd) (a' : Int), ys.Nodup → (∀ t ∈ ys, t ∈ allD b r) → (ys.length : Int) = m → P (.lst (ys.map encD)) (cs.set n (plC a'))
def sp_law_sheet (K : PySem.W.Frag) : Spc := fun ds cs P => ∃ (n : Nat) (a mc lc : Int), ds = [.cell n, .int mc, .int lc] ∧ cs[n]? = some (plC a) ∧ 0 ≤ lc ∧ lc ≤ mc ∧ mc ≤ 100 ∧
  ∀ (b r a' : Int) (cols : List (List Int)), Gd b r cols → Gn b r → lc ≤ cols.length → (cols.length : Int) ≤ mc → P (.tup [.int b, .int r, .lst (cols.map encC)]) (cs.set n (plC a'))
/-- (figures, what waits, carry), or none: none waits just if the slips are possible -/
def sp_law_run (K : PySem.W.Frag) : Spc := fun ds cs P => ∃ (b r : Int) (cols : List (List Int)) (S : Sl), ds = [.int b, .lst (cols.map encC), encSl S] ∧ Gd b r cols ∧ Gs b r cols.length S ∧
  (∀ x, outF b r cols S = some x → P (.tup [.lst (x.1.map .int), .non, .int x.2]) cs) ∧ (outF b r cols S = none → P .non cs ∧ ∀ (fs : List Int) (w k : Int), P (.tup [.lst (fs.map .int), .int w, .int k]) cs)
def sp_law_outcomes (K : PySem.W.Frag) : Spc := fun ds cs P => ∃ (b r : Int) (cols : List (List Int)) (Ss : List Sl), ds = [.int b, .lst (cols.map encC), .lst (Ss.map encSl)] ∧ Gd b r cols ∧ (∀ S ∈ Ss, Gs b r cols.length S) ∧ Ss.length ≤ 20000 ∧
  P (.lst (Ss.map fun S => outT (outF b r cols S))) cs
def sp_law_ordered (K : PySem.W.Frag) : Spc := fun ds cs P => ∃ (n : Nat) (os : List Op) (m : Nat), ds = [.int (n : Nat), .lst (os.map encO), .int (m : Nat)] ∧ Gz n os m ∧ os.length ≤ 8 ∧ (∀ o ∈ os, o ≠ .right) ∧ P (.lst ((ordF n os m).map encSl)) cs
def sp_law_value (K : PySem.W.Frag) : Spc := fun ds cs P => ∃ (b : Int) (fs : List Int) (l : Int), ds = [.int b, .lst (fs.map .int), .int l] ∧ 2 ≤ b ∧ b ≤ 12 ∧ P (.int (valW b l fs)) cs
/-- what stands in it is one plain thing -/
def alA (d : D) : Prop := d = .non ∨ (∃ b, d = .bl b) ∨ (∃ i, d = .int i) ∨ ∃ s : Str, d = .str s ∧ (PyData.str s).canLay0 = true
/-- equal, in so many storeys -/
def alk : Nat → List Cel → D → D → Prop
  | 0, _, d, d' => d = d' ∧ alA d
  | n + 1, cs, d, d' => (d = d' ∧ alA d) ∨ (∃ xs, d = .tup xs ∧ d' = .tup xs ∧ xs.length ≤ 30000 ∧ ∀ x ∈ xs, alk n cs x x) ∨
    ∃ xs, lk cs d = some xs ∧ lk cs d' = some xs ∧ (∀ ys, d ≠ .fro ys) ∧ (∀ ys, d' ≠ .fro ys) ∧ xs.length ≤ 30000 ∧ ∀ x ∈ xs, alk n cs x x
def sp_law_alike_0 (K : PySem.W.Frag) : Spc := fun ds cs P => ∃ d d2, ds = [d, d2] ∧ alk 0 cs d d2 ∧ P (.bl true) cs
def sp_law_alike_1 (K : PySem.W.Frag) : Spc := fun ds cs P => ∃ d d2, ds = [d, d2] ∧ alk 1 cs d d2 ∧ P (.bl true) cs
def sp_law_alike_2 (K : PySem.W.Frag) : Spc := fun ds cs P => ∃ d d2, ds = [d, d2] ∧ alk 2 cs d d2 ∧ P (.bl true) cs
def sp_law_alike_3 (K : PySem.W.Frag) : Spc := fun ds cs P => ∃ d d2, ds = [d, d2] ∧ alk 3 cs d d2 ∧ P (.bl true) cs
def sp_law_alike_4 (K : PySem.W.Frag) : Spc := fun ds cs P => ∃ d d2, ds = [d, d2] ∧ alk 4 cs d d2 ∧ P (.bl true) cs
/-- the lists with which it is written so, beside what they write -/
noncomputable def forF (b r : Int) (cols : List (List Int)) (os : List Op) (m : Nat) (x : List Int × Int) : List (Sl × (List Int × Int)) := (allF b r cols os m).filter fun t => decide (t.2 = x)
def sp_Written_base (K : PySem.W.Frag) : Spc := fun ds cs P => ∃ (b : Int) (fs : List Int) (l : Int), ds = [wrD K b fs l] ∧ P (.int b) cs
def sp_Written_eq (K : PySem.W.Frag) : Spc := fun ds cs P => ∃ (b : Int) (fs : List Int) (l : Int) (t : Int × List Int × Int), ds = [wrD K b fs l, wrD K t.1 t.2.1 t.2.2] ∧ P (.bl (decide ((b, fs, l) = t))) cs
def sp_slips_for (K : PySem.W.Frag) : Spc := fun ds cs P => ∃ (d : D) (b r : Int) (cols : List (List Int)) (es : List Dd) (m : Nat) (x : List Int × Int), ds = [kiD K b r es (m : Nat), d, wrD K b x.1 x.2] ∧ isSh K cs d b r cols ∧ Gd b r cols ∧ (∀ t ∈ es, t ∈ allD b r) ∧ es.length ≤ 8 ∧ Gz cols.length (es.map toO) m ∧
  P (.lst ((forF b r cols (es.map toO) m x).map fun t => encSl t.1)) cs
def lvF (b q rest : Int) : Option (List Int × Int) → Bool
  | none => false
  | some y => decide (valW b y.2 y.1 % q = rest)
def sp_law_leaves (K : PySem.W.Frag) : Spc := fun ds cs P => ∃ (b q rest : Int) (x : Option (List Int × Int)), ds = [.int b, outT x, .int q, .int rest] ∧ 2 ≤ b ∧ b ≤ 12 ∧ 0 < q ∧ P (.bl (lvF b q rest x)) cs
noncomputable def outsD (b r : Int) (cols : List (List Int)) (Ls : List Sl) : D := .lst (Ls.map fun S => outT (outF b r cols S))
def sp_law_shown_right (K : PySem.W.Frag) : Spc := fun ds cs P => ∃ (b r q rest : Int) (cols : List (List Int)) (es : List Dd) (m : Nat), ds = [kiD K b r es (m : Nat), shD K b r cols, .int b, .lst ((ordF cols.length (es.map toO) m).map encSl), outsD b r cols (ordF cols.length (es.map toO) m), .int q, .int rest] ∧
  Gd b r cols ∧ (∀ t ∈ es, t ∈ allD b r) ∧ es.length ≤ 8 ∧ Gz cols.length (es.map toO) m ∧ 2 ≤ q ∧ q ≤ 60 ∧ P (.bl true) cs
def sp_law_told_right (K : PySem.W.Frag) : Spc := fun ds cs P => ∃ (b r : Int) (cols : List (List Int)) (Ts Ls : List Sl) (x : List Int × Int), ds = [.lst (Ts.map encSl), outT (some x), .lst (Ls.map encSl), outsD b r cols Ls] ∧ Ts.length ≤ 20000 ∧ Ls.length ≤ 20000 ∧ (∀ S ∈ Ts, S ∈ Ls ∧ outF b r cols S = some x) ∧ P (.bl true) cs
def sp_law_beside (K : PySem.W.Frag) : Spc := fun ds cs P => ∃ (n : Nat) (a b r : Int) (es : List Dd), ds = [.cell n, .int b, .int r, .lst (es.map encD)] ∧ cs[n]? = some (plC a) ∧ 2 ≤ b ∧ b ≤ 12 ∧ 1 ≤ r ∧ r ≤ 4 ∧ 1 ≤ es.length ∧ es.length ≤ 4 ∧ es.Nodup ∧ (∀ t ∈ es, t ∈ allD b r) ∧
  ∀ (zs : List Dd) (a' : Int), zs.Nodup → (∀ t ∈ zs, t ∈ allD b r) → 1 ≤ zs.length → zs.length ≤ 5 → P (.lst ((keep b r zs).map encD)) (cs.set n (plC a'))
def sp_law_holds (K : PySem.W.Frag) : Spc := fun ds cs P => ∃ c : Int, ds = [.int c] ∧ P (.bl true) cs
def sp_law (K : PySem.W.Frag) : Spc := spLaw
abbrev Lo (ds : List D) (cs : List Cel) : Prop := (∀ d ∈ ds, loD cs.length d = true)
abbrev LoC (cs : List Cel) : Prop := (∀ c ∈ cs, c.loD cs.length = true)
structure Txt (K : PySem.W.Frag) (mg : Str → Option Value) : Prop where
  g_law_holds : mg "_law_holds" = some (.ref (He.ga K "_law_holds"))
  g_law_pool : mg "_law_pool" = some (.ref (He.ga K "_law_pool"))
  g_law_sheet : mg "_law_sheet" = some (.ref (He.ga K "_law_sheet"))
  g_law_some_deeds : mg "_law_some_deeds" = some (.ref (He.ga K "_law_some_deeds"))
  g_law_draw : mg "_law_draw" = some (.ref (He.ga K "_law_draw"))
  g_law_all_deeds : mg "_law_all_deeds" = some (.ref (He.ga K "_law_all_deeds"))
  g_law_beside : mg "_law_beside" = some (.ref (He.ga K "_law_beside"))
  g_Kind : mg "Kind" = some (.ref (He.ga K "Kind"))
  g_law_ordered : mg "_law_ordered" = some (.ref (He.ga K "_law_ordered"))
  g_law_outcomes : mg "_law_outcomes" = some (.ref (He.ga K "_law_outcomes"))
  g_Sheet : mg "Sheet" = some (.ref (He.ga K "Sheet"))
  g_law_shown_right : mg "_law_shown_right" = some (.ref (He.ga K "_law_shown_right"))
  g_add_with : mg "add_with" = some (.ref (He.ga K "add_with"))
  g_slips_for : mg "slips_for" = some (.ref (He.ga K "slips_for"))
  g_law_alike : mg "_law_alike" = some (.ref (He.ga K "_law_alike"))
  g_law_told_right : mg "_law_told_right" = some (.ref (He.ga K "_law_told_right"))
  g_law_power : mg "_law_power" = some (.ref (He.ga K "_law_power"))
  g_is_integer : mg "is_integer" = some (.ref (He.ga K "is_integer"))
  g_number_of_columns : mg "number_of_columns" = some (.ref (He.ga K "number_of_columns"))
  g_is_deed : mg "is_deed" = some (.ref (He.ga K "is_deed"))
  g_all_deeds : mg "all_deeds" = some (.ref (He.ga K "all_deeds"))
  g_PLAIN : mg "PLAIN" = some (.ref (He.ga K "PLAIN"))
  g_law_run : mg "_law_run" = some (.ref (He.ga K "_law_run"))
  g_is_column : mg "is_column" = some (.ref (He.ga K "is_column"))
  g_slips_shown : mg "slips_shown" = some (.ref (He.ga K "slips_shown"))
  g_law_leaves : mg "_law_leaves" = some (.ref (He.ga K "_law_leaves"))
  g_check_lot : mg "check_lot" = some (.ref (He.ga K "check_lot"))
  g_check_alike : mg "check_alike" = some (.ref (He.ga K "check_alike"))
  g_all_outcomes : mg "all_outcomes" = some (.ref (He.ga K "all_outcomes"))
  g_further_slips : mg "further_slips" = some (.ref (He.ga K "further_slips"))
  g_outcome : mg "outcome" = some (.ref (He.ga K "outcome"))
  g_InvalidSlips : mg "InvalidSlips" = some (.ref (He.ga K "InvalidSlips"))
  g_Adding : mg "Adding" = some (.ref (He.ga K "Adding"))
  g_is_slip : mg "is_slip" = some (.ref (He.ga K "is_slip"))
  g_done : mg "done" = some (.ref (He.ga K "done"))
  g_taken : mg "taken" = some (.ref (He.ga K "taken"))
  g_Written : mg "Written" = some (.ref (He.ga K "Written"))
  g_law : mg "law" = some (.ref (He.ga K "law"))
  c_Kind : Cls K (He.ga K "Kind")
  mk_Kind : Mk K (He.ga K "Kind") (He.ma K (He.ga K "Kind") "__init__")
  n_list : mg "list" = none
  n_len : mg "len" = none
  c_Sheet : Cls K (He.ga K "Sheet")
  mk_Sheet : Mk K (He.ga K "Sheet") (He.ma K (He.ga K "Sheet") "__init__")
  n_min : mg "min" = none
  n_range : mg "range" = none
  n_int : mg "int" = none
  n_tuple : mg "tuple" = none
  ig_MOST_COLUMNS : ∃ t, mg "MOST_COLUMNS" = some (.int 1000 t)
  n_isinstance : mg "isinstance" = none
  n_all : mg "all" = none
  ig_MOST_DEEDS : ∃ t, mg "MOST_DEEDS" = some (.int 8 t)
  na_Kind_held_base : NoAttr K (He.ga K "Kind") "held_base"
  na_Kind_held_rows : NoAttr K (He.ga K "Kind") "held_rows"
  na_Kind_held_deeds : NoAttr K (He.ga K "Kind") "held_deeds"
  na_Kind_held_most : NoAttr K (He.ga K "Kind") "held_most"
  n_bool : mg "bool" = none
  n_str : mg "str" = none
  tg_PLAIN : ∀ H, SqT K H (He.ga K "PLAIN") [.str "forget", .str "again", .str "swap", .str "out", .str "twice"]
  n_sum : mg "sum" = none
  na_Sheet_held_base : NoAttr K (He.ga K "Sheet") "held_base"
  na_Sheet_held_rows : NoAttr K (He.ga K "Sheet") "held_rows"
  na_Sheet_held_columns : NoAttr K (He.ga K "Sheet") "held_columns"
  na_Sheet_size : NoAttr K (He.ga K "Sheet") "size"
  c_Written : Cls K (He.ga K "Written")
  m_Written_rest : Meth K (He.ga K "Written") "rest" (He.ma K (He.ga K "Written") "rest")
  p_Kind_base : PropOf K (He.ga K "Kind") "base" (He.ma K (He.ga K "Kind") "base") (pga K (He.ga K "Kind") "base")
  p_Sheet_base : PropOf K (He.ga K "Sheet") "base" (He.ma K (He.ga K "Sheet") "base") (pga K (He.ga K "Sheet") "base")
  p_Kind_rows : PropOf K (He.ga K "Kind") "rows" (He.ma K (He.ga K "Kind") "rows") (pga K (He.ga K "Kind") "rows")
  p_Sheet_rows : PropOf K (He.ga K "Sheet") "rows" (He.ma K (He.ga K "Sheet") "rows") (pga K (He.ga K "Sheet") "rows")
  p_Kind_most : PropOf K (He.ga K "Kind") "most" (He.ma K (He.ga K "Kind") "most") (pga K (He.ga K "Kind") "most")
  sm_Sheet_len : Sm K (He.ga K "Sheet") "__len__" (He.ma K (He.ga K "Sheet") "__len__")
  p_Kind_deeds : PropOf K (He.ga K "Kind") "deeds" (He.ma K (He.ga K "Kind") "deeds") (pga K (He.ga K "Kind") "deeds")
  xm_InvalidSlips : ∀ p ∈ ([("InvalidSlips", true)] : List (Str × Bool)), PySem.W.exmOne K (.ref (He.ga K p.1)) (.ref (He.ga K "InvalidSlips")) = some p.2
  c_Adding : Cls K (He.ga K "Adding")
  mk_Adding : Mk K (He.ga K "Adding") (He.ma K (He.ga K "Adding") "__init__")
  n_enumerate : mg "enumerate" = none
  m_Adding_free : Meth K (He.ga K "Adding") "free" (He.ma K (He.ga K "Adding") "free")
  ox_InvalidSlips : OexC K (He.ga K "InvalidSlips")
  nx_InvalidSlips : PySem.W.findIn K (.ref (He.ga K "InvalidSlips")) "index" = some none
  sm_InvalidSlips_init : Sm K (He.ga K "InvalidSlips") "__init__" (He.ma K (He.ga K "InvalidSlips") "__init__")
  m_Adding_do_until : Meth K (He.ga K "Adding") "do_until" (He.ma K (He.ga K "Adding") "do_until")
  m_Adding_do : Meth K (He.ga K "Adding") "do" (He.ma K (He.ga K "Adding") "do")
  m_Adding_result : Meth K (He.ga K "Adding") "result" (He.ma K (He.ga K "Adding") "result")
  na_Adding_system : NoAttr K (He.ga K "Adding") "system"
  p_Sheet_columns : PropOf K (He.ga K "Sheet") "columns" (He.ma K (He.ga K "Sheet") "columns") (pga K (He.ga K "Sheet") "columns")
  na_Adding_given : NoAttr K (He.ga K "Adding") "given"
  na_Adding_at : NoAttr K (He.ga K "Adding") "at"
  na_Adding_written : NoAttr K (He.ga K "Adding") "written"
  na_Adding_carry : NoAttr K (He.ga K "Adding") "carry"
  na_Adding_waiting : NoAttr K (He.ga K "Adding") "waiting"
  mk_Written : Mk K (He.ga K "Written") (He.ma K (He.ga K "Written") "__init__")
  na_Written_held_base : NoAttr K (He.ga K "Written") "held_base"
  na_Written_held_figures : NoAttr K (He.ga K "Written") "held_figures"
  na_Written_held_last : NoAttr K (He.ga K "Written") "held_last"
  p_Written_value : PropOf K (He.ga K "Written") "value" (He.ma K (He.ga K "Written") "value") (pga K (He.ga K "Written") "value")
  p_Written_base : PropOf K (He.ga K "Written") "base" (He.ma K (He.ga K "Written") "base") (pga K (He.ga K "Written") "base")
  sm_Written_eq : Sm K (He.ga K "Written") "__eq__" (He.ma K (He.ga K "Written") "__eq__")
  ic_Written : C8.InsC K (He.ga K "Written")
  F_law_pool : ∃ fd, FunD K "_law_pool" "_law_pool" (defArgs s_law_pool) (defBody s_law_pool) (defScope s_law_pool) [] [] (He.ga K "_law_pool") fd
  F_law_draw : ∃ fd, FunD K "_law_draw" "_law_draw" (defArgs s_law_draw) (defBody s_law_draw) (defScope s_law_draw) [] [] (He.ga K "_law_draw") fd
  F_law_power : ∃ fd, FunD K "_law_power" "_law_power" (defArgs s_law_power) (defBody s_law_power) (defScope s_law_power) [] [] (He.ga K "_law_power") fd
  F_law_sheet : ∃ fd, FunD K "_law_sheet" "_law_sheet" (defArgs s_law_sheet) (defBody s_law_sheet) (defScope s_law_sheet) [] [] (He.ga K "_law_sheet") fd
  F_law_all_deeds : ∃ fd, FunD K "_law_all_deeds" "_law_all_deeds" (defArgs s_law_all_deeds) (defBody s_law_all_deeds) (defScope s_law_all_deeds) [] [] (He.ga K "_law_all_deeds") fd
  F_law_some_deeds : ∃ fd, FunD K "_law_some_deeds" "_law_some_deeds" (defArgs s_law_some_deeds) (defBody s_law_some_deeds) (defScope s_law_some_deeds) [] [] (He.ga K "_law_some_deeds") fd
  F_law_beside : ∃ fd, FunD K "_law_beside" "_law_beside" (defArgs s_law_beside) (defBody s_law_beside) (defScope s_law_beside) [] [] (He.ga K "_law_beside") fd
  F_is_integer : ∃ fd, FunD K "is_integer" "is_integer" (defArgs s_is_integer) (defBody s_is_integer) (defScope s_is_integer) [] [] (He.ga K "is_integer") fd
  F_number_of_columns : ∃ fd, FunD K "number_of_columns" "number_of_columns" (defArgs s_number_of_columns) (defBody s_number_of_columns) (defScope s_number_of_columns) [] [] (He.ga K "number_of_columns") fd
  F_is_deed : ∃ fd, FunD K "is_deed" "is_deed" (defArgs s_is_deed) (defBody s_is_deed) (defScope s_is_deed) [] [] (He.ga K "is_deed") fd
  F_all_deeds : ∃ fd, FunD K "all_deeds" "all_deeds" (defArgs s_all_deeds) (defBody s_all_deeds) (defScope s_all_deeds) [] [] (He.ga K "all_deeds") fd
  F_Kind_init : ∃ fd, FunD K "__init__" "Kind.__init__" (defArgs s_Kind_init) (defBody s_Kind_init) (defScope s_Kind_init) [] [] (He.ma K (He.ga K "Kind") "__init__") fd
  F_law_ordered : ∃ fd, FunD K "_law_ordered" "_law_ordered" (defArgs s_law_ordered) (defBody s_law_ordered) (defScope s_law_ordered) [] [] (He.ga K "_law_ordered") fd
  F_law_run : ∃ fd, FunD K "_law_run" "_law_run" (defArgs s_law_run) (defBody s_law_run) (defScope s_law_run) [] [] (He.ga K "_law_run") fd
  F_law_outcomes : ∃ fd, FunD K "_law_outcomes" "_law_outcomes" (defArgs s_law_outcomes) (defBody s_law_outcomes) (defScope s_law_outcomes) [] [] (He.ga K "_law_outcomes") fd
  F_is_column : ∃ fd, FunD K "is_column" "is_column" (defArgs s_is_column) (defBody s_is_column) (defScope s_is_column) [] [] (He.ga K "is_column") fd
  F_Sheet_init : ∃ fd, FunD K "__init__" "Sheet.__init__" (defArgs s_Sheet_init) (defBody s_Sheet_init) (defScope s_Sheet_init) [] [] (He.ma K (He.ga K "Sheet") "__init__") fd
  F_law_alike_0 : ∃ fd, FunD K "_law_alike" "_law_alike" (defArgs s_law_alike_0) (defBody s_law_alike_0) (defScope s_law_alike_0) [] [] (He.ga K "_law_alike") fd
  F_law_alike_1 : ∃ fd, FunD K "_law_alike" "_law_alike" (defArgs s_law_alike_1) (defBody s_law_alike_1) (defScope s_law_alike_1) [] [] (He.ga K "_law_alike") fd
  F_law_alike_2 : ∃ fd, FunD K "_law_alike" "_law_alike" (defArgs s_law_alike_2) (defBody s_law_alike_2) (defScope s_law_alike_2) [] [] (He.ga K "_law_alike") fd
  F_law_alike_3 : ∃ fd, FunD K "_law_alike" "_law_alike" (defArgs s_law_alike_3) (defBody s_law_alike_3) (defScope s_law_alike_3) [] [] (He.ga K "_law_alike") fd
  F_law_alike_4 : ∃ fd, FunD K "_law_alike" "_law_alike" (defArgs s_law_alike_4) (defBody s_law_alike_4) (defScope s_law_alike_4) [] [] (He.ga K "_law_alike") fd
  F_check_lot : ∃ fd, FunD K "check_lot" "check_lot" (defArgs s_check_lot) (defBody s_check_lot) (defScope s_check_lot) [] [] (He.ga K "check_lot") fd
  F_Kind_base : ∃ fd, FunD K "base" "Kind.base" (defArgs s_Kind_base) (defBody s_Kind_base) (defScope s_Kind_base) [] [] (pga K (He.ga K "Kind") "base") fd
  F_Sheet_base : ∃ fd, FunD K "base" "Sheet.base" (defArgs s_Sheet_base) (defBody s_Sheet_base) (defScope s_Sheet_base) [] [] (pga K (He.ga K "Sheet") "base") fd
  F_Kind_rows : ∃ fd, FunD K "rows" "Kind.rows" (defArgs s_Kind_rows) (defBody s_Kind_rows) (defScope s_Kind_rows) [] [] (pga K (He.ga K "Kind") "rows") fd
  F_Sheet_rows : ∃ fd, FunD K "rows" "Sheet.rows" (defArgs s_Sheet_rows) (defBody s_Sheet_rows) (defScope s_Sheet_rows) [] [] (pga K (He.ga K "Sheet") "rows") fd
  F_check_alike : ∃ fd, FunD K "check_alike" "check_alike" (defArgs s_check_alike) (defBody s_check_alike) (defScope s_check_alike) [] [] (He.ga K "check_alike") fd
  F_Kind_most : ∃ fd, FunD K "most" "Kind.most" (defArgs s_Kind_most) (defBody s_Kind_most) (defScope s_Kind_most) [] [] (pga K (He.ga K "Kind") "most") fd
  F_Sheet_len : ∃ fd, FunD K "__len__" "Sheet.__len__" (defArgs s_Sheet_len) (defBody s_Sheet_len) (defScope s_Sheet_len) [] [] (He.ma K (He.ga K "Sheet") "__len__") fd
  F_Kind_deeds : ∃ fd, FunD K "deeds" "Kind.deeds" (defArgs s_Kind_deeds) (defBody s_Kind_deeds) (defScope s_Kind_deeds) [] [] (pga K (He.ga K "Kind") "deeds") fd
  F_further_slips : ∃ fd, FunD K "further_slips" "further_slips" (defArgs s_further_slips) (defBody s_further_slips) (defScope s_further_slips) [] [] (He.ga K "further_slips") fd
  F_Sheet_columns : ∃ fd, FunD K "columns" "Sheet.columns" (defArgs s_Sheet_columns) (defBody s_Sheet_columns) (defScope s_Sheet_columns) [] [] (pga K (He.ga K "Sheet") "columns") fd
  F_Adding_init : ∃ fd, FunD K "__init__" "Adding.__init__" (defArgs s_Adding_init) (defBody s_Adding_init) (defScope s_Adding_init) [] [] (He.ma K (He.ga K "Adding") "__init__") fd
  F_is_slip : ∃ fd, FunD K "is_slip" "is_slip" (defArgs s_is_slip) (defBody s_is_slip) (defScope s_is_slip) [] [] (He.ga K "is_slip") fd
  F_Adding_free : ∃ fd, FunD K "free" "Adding.free" (defArgs s_Adding_free) (defBody s_Adding_free) (defScope s_Adding_free) [] [] (He.ma K (He.ga K "Adding") "free") fd
  F_InvalidSlips_init : ∃ fd, FunD K "__init__" "InvalidSlips.__init__" (defArgs s_InvalidSlips_init) (defBody s_InvalidSlips_init) (defScope s_InvalidSlips_init) [] [] (He.ma K (He.ga K "InvalidSlips") "__init__") fd
  F_taken : ∃ fd, FunD K "taken" "taken" (defArgs s_taken) (defBody s_taken) (defScope s_taken) [] [] (He.ga K "taken") fd
  F_done : ∃ fd, FunD K "done" "done" (defArgs s_done) (defBody s_done) (defScope s_done) [] [] (He.ga K "done") fd
  F_Adding_do : ∃ fd, FunD K "do" "Adding.do" (defArgs s_Adding_do) (defBody s_Adding_do) (defScope s_Adding_do) [] [] (He.ma K (He.ga K "Adding") "do") fd
  F_Adding_do_until : ∃ fd, FunD K "do_until" "Adding.do_until" (defArgs s_Adding_do_until) (defBody s_Adding_do_until) (defScope s_Adding_do_until) [] [] (He.ma K (He.ga K "Adding") "do_until") fd
  F_Written_init : ∃ fd, FunD K "__init__" "Written.__init__" (defArgs s_Written_init) (defBody s_Written_init) (defScope s_Written_init) [] [] (He.ma K (He.ga K "Written") "__init__") fd
  F_Adding_result : ∃ fd, FunD K "result" "Adding.result" (defArgs s_Adding_result) (defBody s_Adding_result) (defScope s_Adding_result) [] [] (He.ma K (He.ga K "Adding") "result") fd
  F_add_with : ∃ fd, FunD K "add_with" "add_with" (defArgs s_add_with) (defBody s_add_with) (defScope s_add_with) [] [] (He.ga K "add_with") fd
  F_outcome : ∃ fd, FunD K "outcome" "outcome" (defArgs s_outcome) (defBody s_outcome) (defScope s_outcome) [] [] (He.ga K "outcome") fd
  F_all_outcomes : ∃ fd, FunD K "all_outcomes" "all_outcomes" (defArgs s_all_outcomes) (defBody s_all_outcomes) (defScope s_all_outcomes) [] [] (He.ga K "all_outcomes") fd
  F_Written_value : ∃ fd, FunD K "value" "Written.value" (defArgs s_Written_value) (defBody s_Written_value) (defScope s_Written_value) [] [] (pga K (He.ga K "Written") "value") fd
  F_Written_rest : ∃ fd, FunD K "rest" "Written.rest" (defArgs s_Written_rest) (defBody s_Written_rest) (defScope s_Written_rest) [] [] (He.ma K (He.ga K "Written") "rest") fd
  F_slips_shown : ∃ fd, FunD K "slips_shown" "slips_shown" (defArgs s_slips_shown) (defBody s_slips_shown) (defScope s_slips_shown) [] [] (He.ga K "slips_shown") fd
  F_law_leaves : ∃ fd, FunD K "_law_leaves" "_law_leaves" (defArgs s_law_leaves) (defBody s_law_leaves) (defScope s_law_leaves) [] [] (He.ga K "_law_leaves") fd
  F_law_shown_right : ∃ fd, FunD K "_law_shown_right" "_law_shown_right" (defArgs s_law_shown_right) (defBody s_law_shown_right) (defScope s_law_shown_right) [] [] (He.ga K "_law_shown_right") fd
  F_Written_base : ∃ fd, FunD K "base" "Written.base" (defArgs s_Written_base) (defBody s_Written_base) (defScope s_Written_base) [] [] (pga K (He.ga K "Written") "base") fd
  F_Written_eq : ∃ fd, FunD K "__eq__" "Written.__eq__" (defArgs s_Written_eq) (defBody s_Written_eq) (defScope s_Written_eq) [] [] (He.ma K (He.ga K "Written") "__eq__") fd
  F_slips_for : ∃ fd, FunD K "slips_for" "slips_for" (defArgs s_slips_for) (defBody s_slips_for) (defScope s_slips_for) [] [] (He.ga K "slips_for") fd
  F_law_told_right : ∃ fd, FunD K "_law_told_right" "_law_told_right" (defArgs s_law_told_right) (defBody s_law_told_right) (defScope s_law_told_right) [] [] (He.ga K "_law_told_right") fd
  F_law_holds : ∃ fd, FunD K "_law_holds" "_law_holds" (defArgs s_law_holds) (defBody s_law_holds) (defScope s_law_holds) [] [] (He.ga K "_law_holds") fd
  F_law : ∃ fd, FunD K "law" "law" (defArgs s_law) (defBody s_law) (defScope s_law) [] [] (He.ga K "law") fd
section
variable {P : Program} {w : World} {K : PySem.W.Frag} {mg : Str → Option Value} {base : Heap}
def t_law_pool (K : PySem.W.Frag) : DS := (sSeq (sIf (eTest (eBin qGe (eV 0) (eBin (qPow) (eC (.int 10)) (eC (.int 18))))) (sRet (eLst true (aCons (eBin (qSub) (eV 0) (eBin (qPow) (eC (.int 10)) (eC (.int 18)))) aNil))) sNext) (sSeq (sAsg (eBin (qAdd false) (eBin (qAdd false) (eBin (qMod) (eCB qInt (aCons (eV 0) aNil)) (eC (.int 1000003))) (eBin (qMul) (eC (.int 17)) (eV 1))) (eC (.int 3))) 2) (sSeq (sAsg (eC (.int 0)) 3) (sSeq (sFor (iR1 (aCons (eC (.int 14)) aNil)) (.one 4) (sSeq (sAsg (eBin (qMod) (eCB qInt (aCons (eBin (qAdd false) (eBin (qAdd false) (eBin (qMul) (eV 2) (eV 2)) (eBin (qMul) (eC (.int 65539)) (eV 2))) (eBin (qMul) (eC (.int 104729)) (eBin (qAdd false) (eV 4) (eC (.int 1))))) aNil)) (eC (.int 2147483629))) 2) (sAsg (eBin (qAdd false) (eBin (qMul) (eV 3) (eC (.int 1000033))) (eBin (qMod) (eCB qInt (aCons (eBin (qFdiv) (eV 2) (eC (.int 7))) aNil)) (eC (.int 1000033)))) 3))) (sRet (eLst true (aCons (eV 3) aNil)))))))
theorem d_law_pool (T : Txt K mg) : ∀ (cdv : Value) (A : Around) (outer : List Env) (s : Shared) (H : Hp) (E : XK) (B : Bs), Room 1 (A.deeper (envOfC "_law_pool" (defScope s_law_pool) s.heap.objs.size (He.ga K "_law_pool") cdv)) → PSs (cx0 P w K mg base N_law_pool "_law_pool" (defScope s_law_pool) (He.ga K "_law_pool") cdv A outer s H E) (defBody s_law_pool) (lS K B (t_law_pool K)) := by
  intro cdv A outer s H E B hr
  exact (dss_cons (ds_if (dt_cmp op_ge od_ge (dv 0) (de_bin op_pow od_pow de_int de_int) (nomark _)) (dss_one (ds_ret (de_lst (o := true) (da_cons (de_bin op_sub od_sub (dv 0) (de_bin op_pow od_pow de_int de_int)) da_nil)))) dss_nil) (dss_cons (ds_set (i := 2) sc_law_pool.nd rfl (Or.inl rfl) (de_bin op_addA (od_add (o := false)) (de_bin op_addA (od_add (o := false)) (de_bin op_mod od_mod (de_callTy call_intA cd_int rfl T.n_int bt_int (da_cons (dv 0) da_nil)) de_int) (de_bin op_mulA od_mul de_int (dv 1))) de_int)) (dss_cons (ds_set (i := 3) sc_law_pool.nd rfl (Or.inl rfl) de_int) (dss_cons (ds_for (tg := (.one 4)) PassesOwn.never rfl (di_range1 rfl T.n_range (da_cons de_int da_nil)) (pg_name (i := 4) sc_law_pool.nd rfl (Or.inl rfl)) (dss_cons (ds_set (i := 2) sc_law_pool.nd rfl (Or.inl rfl) (de_bin op_mod od_mod (de_callTy call_intA cd_int rfl T.n_int bt_int (da_cons (de_bin op_addA (od_add (o := false)) (de_bin op_addA (od_add (o := false)) (de_bin op_mulA od_mul (dv 2) (dv 2)) (de_bin op_mulA od_mul de_int (dv 2))) (de_bin op_mulA od_mul de_int (de_bin op_addA (od_add (o := false)) (dv 4) de_int))) da_nil)) de_int)) (dss_one (ds_set (i := 3) sc_law_pool.nd rfl (Or.inl rfl) (de_bin op_addA (od_add (o := false)) (de_bin op_mulA od_mul (dv 3) de_int) (de_bin op_mod od_mod (de_callTy call_intA cd_int rfl T.n_int bt_int (da_cons (de_bin op_fdivA od_fdiv (dv 2) de_int) da_nil)) de_int)))))) (dss_one (ds_ret (de_lst (o := true) (da_cons (dv 3) da_nil))))))))
def t_law_draw (K : PySem.W.Frag) : DS := (sSeq (sAsg (eBin (qMod) (eCB qInt (aCons (eBin qIx (eV 0) (eC (.int 0))) aNil)) (eV 1)) 2) (sSeq (sSub (eBin (qFdiv) (eBin qIx (eV 0) (eC (.int 0))) (eV 1)) (eV 0) (eC (.int 0))) (sRet (eV 2))))
theorem d_law_draw (T : Txt K mg) : ∀ (cdv : Value) (A : Around) (outer : List Env) (s : Shared) (H : Hp) (E : XK) (B : Bs), Room 1 (A.deeper (envOfC "_law_draw" (defScope s_law_draw) s.heap.objs.size (He.ga K "_law_draw") cdv)) → PSs (cx0 P w K mg base N_law_draw "_law_draw" (defScope s_law_draw) (He.ga K "_law_draw") cdv A outer s H E) (defBody s_law_draw) (lS K B (t_law_draw K)) := by
  intro cdv A outer s H E B hr
  exact (dss_cons (ds_set (i := 2) sc_law_draw.nd rfl (Or.inl rfl) (de_bin op_mod od_mod (de_callTy call_intA cd_int rfl T.n_int bt_int (da_cons (de_ix (dv 0) de_int (fun _ _ => rfl)) da_nil)) (dv 1))) (dss_cons (ds_sub (de_bin op_fdivA od_fdiv (de_ix (dv 0) de_int (fun _ _ => rfl)) (dv 1)) (dv 0) de_int) (dss_one (ds_ret (dv 2)))))
def t_law_power (K : PySem.W.Frag) : DS := (sSeq (sAsg (eC (.int 1)) 2) (sSeq (sFor (iR1 (aCons (eV 1) aNil)) (.one 3) (sAsg (eBin (qMul) (eV 2) (eV 0)) 2)) (sRet (eV 2))))
theorem d_law_power (T : Txt K mg) : ∀ (cdv : Value) (A : Around) (outer : List Env) (s : Shared) (H : Hp) (E : XK) (B : Bs), Room 1 (A.deeper (envOfC "_law_power" (defScope s_law_power) s.heap.objs.size (He.ga K "_law_power") cdv)) → PSs (cx0 P w K mg base N_law_power "_law_power" (defScope s_law_power) (He.ga K "_law_power") cdv A outer s H E) (defBody s_law_power) (lS K B (t_law_power K)) := by
  intro cdv A outer s H E B hr
  exact (dss_cons (ds_set (i := 2) sc_law_power.nd rfl (Or.inl rfl) de_int) (dss_cons (ds_for (tg := (.one 3)) PassesOwn.never rfl (di_range1 rfl T.n_range (da_cons (dv 1) da_nil)) (pg_name (i := 3) sc_law_power.nd rfl (Or.inl rfl)) (dss_one (ds_set (i := 2) sc_law_power.nd rfl (Or.inl rfl) (de_bin op_mulA od_mul (dv 2) (dv 0))))) (dss_one (ds_ret (dv 2)))))
def t_law_sheet (K : PySem.W.Frag) : DS := (sSeq (sAsg (eBin (qAdd false) (eC (.int 2)) (eCall (sp_law_draw K) (aCons (eV 0) (aCons (eC (.int 11)) aNil)))) 3) (sSeq (sAsg (eBin (qAdd false) (eC (.int 1)) (eCall (sp_law_draw K) (aCons (eV 0) (aCons (eC (.int 4)) aNil)))) 4) (sSeq (sWhile (eTest (eBin qGt (eCall (sp_law_power K) (aCons (eV 3) (aCons (eV 4) aNil))) (eC (.int 1000)))) (sAsg (eBin (qSub) (eV 4) (eC (.int 1))) 4)) (sSeq (sAsg (eBin qIx (eLst false (aCons (eV 3) (aCons (eV 3) (aCons (eC (.int 2)) aNil)))) (eCall (sp_law_draw K) (aCons (eV 0) (aCons (eC (.int 3)) aNil)))) 5) (sSeq (sAsg (eLst true aNil) 6) (sSeq (sFor (iR1 (aCons (eBin (qAdd false) (eV 2) (eCall (sp_law_draw K) (aCons (eV 0) (aCons (eBin (qSub) (eBin (qAdd false) (eV 1) (eC (.int 1))) (eV 2)) aNil)))) aNil)) (.one 7) (sDrop (eBM qApp (eV 6) (aCons (eCB qTuple (aCons (eLc false (iR1 (aCons (eV 4) aNil)) (.one 8) dYes (eBin (qSub) (eBin (qSub) (eV 3) (eC (.int 1))) (eCall (sp_law_draw K) (aCons (eV 0) (aCons (eV 5) aNil)))) [8]) aNil)) aNil)))) (sRet (eFz (eTup (aCons (eV 3) (aCons (eV 4) (aCons (eV 6) aNil))))))))))))
theorem d_law_sheet (T : Txt K mg) (G_law_draw : Good P w K mg base 2 (He.ga K "_law_draw") ["pool", "many"] (sp_law_draw K)) (G_law_power : Good P w K mg base 2 (He.ga K "_law_power") ["base", "many"] (sp_law_power K)) : ∀ (cdv : Value) (A : Around) (outer : List Env) (s : Shared) (H : Hp) (E : XK) (B : Bs), Room 4 (A.deeper (envOfC "_law_sheet" (defScope s_law_sheet) s.heap.objs.size (He.ga K "_law_sheet") cdv)) → PSs (cx0 P w K mg base N_law_sheet "_law_sheet" (defScope s_law_sheet) (He.ga K "_law_sheet") cdv A outer s H E) (defBody s_law_sheet) (lS K B (t_law_sheet K)) := by
  intro cdv A outer s H E B hr
  exact (dss_cons (ds_set (i := 3) sc_law_sheet.nd rfl (Or.inr rfl) (de_bin op_addA (od_add (o := false)) de_int (de_callG G_law_draw (hr.mono (by decide)) T.g_law_draw (da_cons (dv 0) (da_cons de_int da_nil))))) (dss_cons (ds_set (i := 4) sc_law_sheet.nd rfl (Or.inl rfl) (de_bin op_addA (od_add (o := false)) de_int (de_callG G_law_draw (hr.mono (by decide)) T.g_law_draw (da_cons (dv 0) (da_cons de_int da_nil))))) (dss_cons (ds_while PassesOwn.never (dt_cmp op_gt od_gt (de_callG G_law_power (hr.mono (by decide)) T.g_law_power (da_cons (dv 3) (da_cons (dv 4) da_nil))) de_int (nomark _)) (dss_one (ds_set (i := 4) sc_law_sheet.nd rfl (Or.inl rfl) (de_bin op_sub od_sub (dv 4) de_int)))) (dss_cons (ds_set (i := 5) sc_law_sheet.nd rfl (Or.inr rfl) (de_ix (de_lst (o := false) (da_cons (dv 3) (da_cons (dv 3) (da_cons de_int da_nil)))) (de_callG G_law_draw (hr.mono (by decide)) T.g_law_draw (da_cons (dv 0) (da_cons de_int da_nil))) (fun _ _ => rfl))) (dss_cons (ds_set (i := 6) sc_law_sheet.nd rfl (Or.inl rfl) (de_lst (o := true) da_nil)) (dss_cons (ds_for (tg := (.one 7)) PassesOwn.never rfl (di_range1 rfl T.n_range (da_cons (de_bin op_addA (od_add (o := false)) (dv 2) (de_callG G_law_draw (hr.mono (by decide)) T.g_law_draw (da_cons (dv 0) (da_cons (de_bin op_sub od_sub (de_bin op_addA (od_add (o := false)) (dv 1) de_int) (dv 2)) da_nil)))) da_nil)) (pg_name (i := 7) sc_law_sheet.nd rfl (Or.inl rfl)) (dss_one (ds_expr (de_bm PySem.F.plainAttrs_list PySem.F.slot_list_append PySem.F.type_list_append mt_append md_app (dv 6) (da_cons (de_callTy call_tupleA cd_tuple rfl T.n_tuple bt_tuple (da_cons (de_lc (o := false) (own := [("j", 8)]) (tg := (.one 8)) rfl sc_law_sheet.nd (di_range1 rfl T.n_range (da_cons (dv 4) da_nil)) (blkOk_by (own := [("j", 8)]) (N := N_law_sheet) (sc := defScope s_law_sheet) (by decide +kernel)) (by decide) (fun _ _ _ _ _ => (pg_name (i := 8) sc_law_sheet.nd rfl (Or.inl rfl))) (fun _ _ _ _ _ => dts_nil) (fun _ _ _ _ _ => (de_bin op_sub od_sub (de_bin op_sub od_sub (dv 3) de_int) (de_callG G_law_draw (hr.mono (by decide)) T.g_law_draw (da_cons (dv 0) (da_cons (dv 5) da_nil)))))) da_nil)) da_nil))))) (dss_one (ds_ret (de_fz (de_tup (da_cons (dv 3) (da_cons (dv 4) (da_cons (dv 6) da_nil)))))))))))))
def t_law_all_deeds (K : PySem.W.Frag) : DS := (sSeq (sAsg (eBin (qAdd true) (eLst false (aCons (eTup (aCons (eC (.str "forget")) aNil)) (aCons (eTup (aCons (eC (.str "again")) aNil)) aNil))) (eLc false (iR2 (aCons (eC (.int 1)) (aCons (eV 0) aNil))) (.one 4) dYes (eTup (aCons (eC (.str "off")) (aCons (eV 4) aNil))) [4])) 2) (sSeq (sFor (iR1 (aCons (eV 1) aNil)) (.one 3) (sDrop (eBM qExt (eV 2) (aCons (eLc false (iR2 (aCons (eC (.int 1)) (aCons (eV 0) aNil))) (.one 4) dYes (eTup (aCons (eC (.str "read")) (aCons (eV 3) (aCons (eV 4) aNil)))) [4]) aNil)))) (sRet (eBin (qAdd true) (eBin (qAdd false) (eV 2) (eLc false (iR1 (aCons (eV 1) aNil)) (.one 3) dYes (eTup (aCons (eC (.str "copy")) (aCons (eV 3) aNil))) [3])) (eLst false (aCons (eTup (aCons (eC (.str "swap")) aNil)) (aCons (eTup (aCons (eC (.str "out")) aNil)) (aCons (eTup (aCons (eC (.str "twice")) aNil)) aNil))))))))
theorem d_law_all_deeds (T : Txt K mg) : ∀ (cdv : Value) (A : Around) (outer : List Env) (s : Shared) (H : Hp) (E : XK) (B : Bs), Room 1 (A.deeper (envOfC "_law_all_deeds" (defScope s_law_all_deeds) s.heap.objs.size (He.ga K "_law_all_deeds") cdv)) → PSs (cx0 P w K mg base N_law_all_deeds "_law_all_deeds" (defScope s_law_all_deeds) (He.ga K "_law_all_deeds") cdv A outer s H E) (defBody s_law_all_deeds) (lS K B (t_law_all_deeds K)) := by
  intro cdv A outer s H E B hr
  exact (dss_cons (ds_set (i := 2) sc_law_all_deeds.nd rfl (Or.inl rfl) (de_bin op_addA (od_add (o := true)) (de_lst (o := false) (da_cons (de_tup (da_cons de_str da_nil)) (da_cons (de_tup (da_cons de_str da_nil)) da_nil))) (de_lc (o := false) (own := [("d", 4)]) (tg := (.one 4)) rfl sc_law_all_deeds.nd (di_range2 rfl T.n_range (da_cons de_int (da_cons (dv 0) da_nil))) (blkOk_by (own := [("d", 4)]) (N := N_law_all_deeds) (sc := defScope s_law_all_deeds) (by decide +kernel)) (by decide) (fun _ _ _ _ _ => (pg_name (i := 4) sc_law_all_deeds.nd rfl (Or.inl rfl))) (fun _ _ _ _ _ => dts_nil) (fun _ _ _ _ _ => (de_tup (da_cons de_str (da_cons (dv 4) da_nil))))))) (dss_cons (ds_for (tg := (.one 3)) PassesOwn.never rfl (di_range1 rfl T.n_range (da_cons (dv 1) da_nil)) (pg_name (i := 3) sc_law_all_deeds.nd rfl (Or.inr rfl)) (dss_one (ds_expr (de_bm PySem.F.plainAttrs_list PySem.F.slot_list_extend PySem.F.type_list_extend mt_extend md_ext (dv 2) (da_cons (de_lc (o := false) (own := [("d", 4)]) (tg := (.one 4)) rfl sc_law_all_deeds.nd (di_range2 rfl T.n_range (da_cons de_int (da_cons (dv 0) da_nil))) (blkOk_by (own := [("d", 4)]) (N := N_law_all_deeds) (sc := defScope s_law_all_deeds) (by decide +kernel)) (by decide) (fun _ _ _ _ _ => (pg_name (i := 4) sc_law_all_deeds.nd rfl (Or.inl rfl))) (fun _ _ _ _ _ => dts_nil) (fun _ _ _ _ _ => (de_tup (da_cons de_str (da_cons (dv 3) (da_cons (dv 4) da_nil)))))) da_nil))))) (dss_one (ds_ret (de_bin op_addA (od_add (o := true)) (de_bin op_addA (od_add (o := false)) (dv 2) (de_lc (o := false) (own := [("j", 3)]) (tg := (.one 3)) rfl sc_law_all_deeds.nd (di_range1 rfl T.n_range (da_cons (dv 1) da_nil)) (blkOk_by (own := [("j", 3)]) (N := N_law_all_deeds) (sc := defScope s_law_all_deeds) (by decide +kernel)) (by decide) (fun _ _ _ _ _ => (pg_name (i := 3) sc_law_all_deeds.nd rfl (Or.inl rfl))) (fun _ _ _ _ _ => dts_nil) (fun _ _ _ _ _ => (de_tup (da_cons de_str (da_cons (dv 3) da_nil)))))) (de_lst (o := false) (da_cons (de_tup (da_cons de_str da_nil)) (da_cons (de_tup (da_cons de_str da_nil)) (da_cons (de_tup (da_cons de_str da_nil)) da_nil)))))))))
def t_law_some_deeds (K : PySem.W.Frag) : DS := (sSeq (sAsg (eCall (sp_law_all_deeds K) (aCons (eV 1) (aCons (eV 2) aNil))) 4) (sSeq (sAsg (eLst false (aCons (eC (.str "forget")) (aCons (eC (.str "again")) (aCons (eC (.str "off")) (aCons (eC (.str "read")) (aCons (eC (.str "copy")) (aCons (eC (.str "swap")) (aCons (eC (.str "out")) (aCons (eC (.str "twice")) aNil))))))))) 5) (sSeq (sAsg (eLst true aNil) 6) (sSeq (sFor (iR1 (aCons (eV 3) aNil)) (.one 7) (sSeq (sAsg (eBin qIx (eV 5) (eCall (sp_law_draw K) (aCons (eV 0) (aCons (eC (.int 8)) aNil)))) 8) (sSeq (sAsg (eLc false (iS (eV 4)) (.one 10) (eTest (eBin qEq (eBin qIx (eV 10) (eC (.int 0))) (eV 8))) (eV 10) [10]) 9) (sSeq (sIf (eTest (eBin qEq (eV 9) (eLst false aNil))) (sAsg (eCB (qList false) (aCons (eV 4) aNil)) 9) sNext) (sSeq (sAsg (eBin qIx (eV 9) (eCall (sp_law_draw K) (aCons (eV 0) (aCons (eCB qLen (aCons (eV 9) aNil)) aNil)))) 10) (sSeq (sDrop (eBM qRem (eV 4) (aCons (eV 10) aNil))) (sDrop (eBM qApp (eV 6) (aCons (eV 10) aNil))))))))) (sRet (eV 6))))))
theorem d_law_some_deeds (T : Txt K mg) (G_law_all_deeds : Good P w K mg base 2 (He.ga K "_law_all_deeds") ["base", "rows"] (sp_law_all_deeds K)) (G_law_draw : Good P w K mg base 2 (He.ga K "_law_draw") ["pool", "many"] (sp_law_draw K)) : ∀ (cdv : Value) (A : Around) (outer : List Env) (s : Shared) (H : Hp) (E : XK) (B : Bs), Room 4 (A.deeper (envOfC "_law_some_deeds" (defScope s_law_some_deeds) s.heap.objs.size (He.ga K "_law_some_deeds") cdv)) → PSs (cx0 P w K mg base N_law_some_deeds "_law_some_deeds" (defScope s_law_some_deeds) (He.ga K "_law_some_deeds") cdv A outer s H E) (defBody s_law_some_deeds) (lS K B (t_law_some_deeds K)) := by
  intro cdv A outer s H E B hr
  exact (dss_cons (ds_set (i := 4) sc_law_some_deeds.nd rfl (Or.inl rfl) (de_callG G_law_all_deeds (hr.mono (by decide)) T.g_law_all_deeds (da_cons (dv 1) (da_cons (dv 2) da_nil)))) (dss_cons (ds_set (i := 5) sc_law_some_deeds.nd rfl (Or.inl rfl) (de_lst (o := false) (da_cons de_str (da_cons de_str (da_cons de_str (da_cons de_str (da_cons de_str (da_cons de_str (da_cons de_str (da_cons de_str da_nil)))))))))) (dss_cons (ds_set (i := 6) sc_law_some_deeds.nd rfl (Or.inl rfl) (de_lst (o := true) da_nil)) (dss_cons (ds_for (tg := (.one 7)) PassesOwn.never rfl (di_range1 rfl T.n_range (da_cons (dv 3) da_nil)) (pg_name (i := 7) sc_law_some_deeds.nd rfl (Or.inl rfl)) (dss_cons (ds_set (i := 8) sc_law_some_deeds.nd rfl (Or.inr rfl) (de_ix (dv 5) (de_callG G_law_draw (hr.mono (by decide)) T.g_law_draw (da_cons (dv 0) (da_cons de_int da_nil))) (fun _ _ => rfl))) (dss_cons (ds_setLc (o := false) (i := 9) (own := [("act", 10)]) (tg := (.one 10)) rfl sc_law_some_deeds.nd rfl rfl (sw_true rfl rfl rfl (by decide +kernel)) (di_any (dv 4)) (blkOk_by (own := [("act", 10)]) (N := N_law_some_deeds) (sc := defScope s_law_some_deeds) (by decide +kernel)) (by decide) (fun _ _ _ _ _ => (pg_name (i := 10) sc_law_some_deeds.nd rfl (Or.inl rfl))) (fun _ _ _ _ _ => (dts_one (dt_cmp (op_eqD hr.units) od_eq (de_ix (dv 10) de_int (fun _ _ => rfl)) (dv 8) (nomark _)))) (fun _ _ _ _ _ => (dv 10))) (dss_cons (ds_if (dt_cmp (op_eqD hr.units) od_eq (dv 9) (de_lst (o := false) da_nil) (nomark _)) (dss_one (ds_set (i := 9) sc_law_some_deeds.nd rfl (Or.inl rfl) (de_callTy call_listA (cd_list (o := false)) rfl T.n_list bt_list (da_cons (dv 4) da_nil)))) dss_nil) (dss_cons (ds_set (i := 10) sc_law_some_deeds.nd rfl (Or.inl rfl) (de_ix (dv 9) (de_callG G_law_draw (hr.mono (by decide)) T.g_law_draw (da_cons (dv 0) (da_cons (de_callB call_lenA cd_len rfl T.n_len bt_len (da_cons (dv 9) da_nil)) da_nil))) (fun _ _ => rfl))) (dss_cons (ds_expr (de_bm PySem.F.plainAttrs_list PySem.F.slot_list_remove PySem.F.type_list_remove (mt_remD (units5 hr)) md_rem (dv 4) (da_cons (dv 10) da_nil))) (dss_one (ds_expr (de_bm PySem.F.plainAttrs_list PySem.F.slot_list_append PySem.F.type_list_append mt_append md_app (dv 6) (da_cons (dv 10) da_nil)))))))))) (dss_one (ds_ret (dv 6)))))))
def t_law_beside (K : PySem.W.Frag) : DS := (sSeq (sAsg (eCall (sp_law_some_deeds K) (aCons (eV 0) (aCons (eV 1) (aCons (eV 2) (aCons (eBin (qAdd false) (eC (.int 1)) (eCall (sp_law_draw K) (aCons (eV 0) (aCons (eC (.int 4)) aNil)))) aNil))))) 4) (sSeq (sAsg (eCall (sp_law_draw K) (aCons (eV 0) (aCons (eC (.int 3)) aNil))) 5) (sSeq (sIf (dAnd (eTest (eBin qEq (eV 5) (eC (.int 0)))) (eTest (eBin qGt (eCB qLen (aCons (eV 3) aNil)) (eC (.int 1))))) (sAsg (eSl false (eV 3) (oSome (eC (.int 1))) oNone) 4) sNext) (sSeq (sIf (eTest (eBin qEq (eV 5) (eC (.int 1)))) (sAsg (eBin (qAdd false) (eV 3) (eSl false (eLc false (iS (eV 4)) (.one 6) (eTest (eBin (qIn true) (eV 6) (eV 3))) (eV 6) [6]) oNone (oSome (eC (.int 1))))) 4) sNext) (sRet (eLc false (iS (eCall (sp_law_all_deeds K) (aCons (eV 1) (aCons (eV 2) aNil)))) (.one 6) (eTest (eBin (qIn false) (eV 6) (eV 4))) (eV 6) [6]))))))
theorem d_law_beside (T : Txt K mg) (G_law_some_deeds : Good P w K mg base 5 (He.ga K "_law_some_deeds") ["pool", "base", "rows", "many"] (sp_law_some_deeds K)) (G_law_draw : Good P w K mg base 2 (He.ga K "_law_draw") ["pool", "many"] (sp_law_draw K)) (G_law_all_deeds : Good P w K mg base 2 (He.ga K "_law_all_deeds") ["base", "rows"] (sp_law_all_deeds K)) : ∀ (cdv : Value) (A : Around) (outer : List Env) (s : Shared) (H : Hp) (E : XK) (B : Bs), Room 7 (A.deeper (envOfC "_law_beside" (defScope s_law_beside) s.heap.objs.size (He.ga K "_law_beside") cdv)) → PSs (cx0 P w K mg base N_law_beside "_law_beside" (defScope s_law_beside) (He.ga K "_law_beside") cdv A outer s H E) (defBody s_law_beside) (lS K B (t_law_beside K)) := by
  intro cdv A outer s H E B hr
  exact (dss_cons (ds_set (i := 4) sc_law_beside.nd rfl (Or.inr rfl) (de_callG G_law_some_deeds (hr.mono (by decide)) T.g_law_some_deeds (da_cons (dv 0) (da_cons (dv 1) (da_cons (dv 2) (da_cons (de_bin op_addA (od_add (o := false)) de_int (de_callG G_law_draw (hr.mono (by decide)) T.g_law_draw (da_cons (dv 0) (da_cons de_int da_nil)))) da_nil)))))) (dss_cons (ds_set (i := 5) sc_law_beside.nd rfl (Or.inl rfl) (de_callG G_law_draw (hr.mono (by decide)) T.g_law_draw (da_cons (dv 0) (da_cons de_int da_nil)))) (dss_cons (ds_if (PW.pt (dw_and (dt_cmp (op_eqD hr.units) od_eq (dv 5) de_int (nomark _)) (dw_and1 (dt_cmp op_gt od_gt (de_callB call_lenA cd_len rfl T.n_len bt_len (da_cons (dv 3) da_nil)) de_int (nomark _))))) (dss_one (ds_set (i := 4) sc_law_beside.nd rfl (Or.inr rfl) (de_slice (o := false) (dv 3) (do_some de_int) do_none))) dss_nil) (dss_cons (ds_if (dt_cmp (op_eqD hr.units) od_eq (dv 5) de_int (nomark _)) (dss_one (ds_set (i := 4) sc_law_beside.nd rfl (Or.inr rfl) (de_bin op_addA (od_add (o := false)) (dv 3) (de_slice (o := false) (de_lc (o := false) (own := [("act", 6)]) (tg := (.one 6)) rfl sc_law_beside.nd (di_any (dv 4)) (blkOk_by (own := [("act", 6)]) (N := N_law_beside) (sc := defScope s_law_beside) (by decide +kernel)) (by decide) (fun _ _ _ _ _ => (pg_name (i := 6) sc_law_beside.nd rfl (Or.inl rfl))) (fun _ _ _ _ _ => (dts_one (dt_cmp (op_notInA (units5 hr)) od_in (dv 6) (dv 3) rfl))) (fun _ _ _ _ _ => (dv 6))) do_none (do_some de_int))))) dss_nil) (dss_one (ds_ret (de_lc (o := false) (own := [("act", 6)]) (tg := (.one 6)) rfl sc_law_beside.nd (di_any (de_callG G_law_all_deeds (hr.mono (by decide)) T.g_law_all_deeds (da_cons (dv 1) (da_cons (dv 2) da_nil)))) (blkOk_by (own := [("act", 6)]) (N := N_law_beside) (sc := defScope s_law_beside) (by decide +kernel)) (by decide) (fun _ _ _ _ _ => (pg_name (i := 6) sc_law_beside.nd rfl (Or.inl rfl))) (fun _ _ _ _ _ => (dts_one (dt_cmp (op_inA (units5 hr)) od_in (dv 6) (dv 4) rfl))) (fun _ _ _ _ _ => (dv 6)))))))))
def t_is_integer (K : PySem.W.Frag) : DS := (sRet (eAnd (eCB qIsi (aCons (eV 0) (aCons (eC (.raw (.ty "int"))) aNil))) (eNot (eCB qIsi (aCons (eV 0) (aCons (eC (.raw (.ty "bool"))) aNil))))))
theorem d_is_integer (T : Txt K mg) : ∀ (cdv : Value) (A : Around) (outer : List Env) (s : Shared) (H : Hp) (E : XK) (B : Bs), Room 1 (A.deeper (envOfC "is_integer" (defScope s_is_integer) s.heap.objs.size (He.ga K "is_integer") cdv)) → PSs (cx0 P w K mg base N_is_integer "is_integer" (defScope s_is_integer) (He.ga K "is_integer") cdv A outer s H E) (defBody s_is_integer) (lS K B (t_is_integer K)) := by
  intro cdv A outer s H E B hr
  exact (dss_one (ds_ret (de_and (de_callB call_isi cd_isi rfl T.n_isinstance bt_isinstance (da_cons (dv 0) (da_cons (de_ty rfl T.n_int bt_int) da_nil))) (de_one (de_not (de_callB call_isi cd_isi rfl T.n_isinstance bt_isinstance (da_cons (dv 0) (da_cons (de_ty rfl T.n_bool bt_bool) da_nil))))))))
def t_number_of_columns (K : PySem.W.Frag) : DS := (sSeq (sAsg (eC (.int 1)) 2) (sSeq (sFor (iR1 (aCons (eV 1) aNil)) (.one 3) (sAsg (eBin (qMul) (eV 2) (eV 0)) 2)) (sRet (eV 2))))
theorem d_number_of_columns (T : Txt K mg) : ∀ (cdv : Value) (A : Around) (outer : List Env) (s : Shared) (H : Hp) (E : XK) (B : Bs), Room 1 (A.deeper (envOfC "number_of_columns" (defScope s_number_of_columns) s.heap.objs.size (He.ga K "number_of_columns") cdv)) → PSs (cx0 P w K mg base N_number_of_columns "number_of_columns" (defScope s_number_of_columns) (He.ga K "number_of_columns") cdv A outer s H E) (defBody s_number_of_columns) (lS K B (t_number_of_columns K)) := by
  intro cdv A outer s H E B hr
  exact (dss_cons (ds_set (i := 2) sc_number_of_columns.nd rfl (Or.inl rfl) de_int) (dss_cons (ds_for (tg := (.one 3)) PassesOwn.never rfl (di_range1 rfl T.n_range (da_cons (dv 1) da_nil)) (pg_name (i := 3) sc_number_of_columns.nd rfl (Or.inl rfl)) (dss_one (ds_set (i := 2) sc_number_of_columns.nd rfl (Or.inl rfl) (de_bin op_mulA od_mul (dv 2) (dv 0))))) (dss_one (ds_ret (dv 2)))))
def t_is_deed (K : PySem.W.Frag) : DS := (sSeq (sIf (dOr (dNot (eTru (eCB qIsi (aCons (eV 0) (aCons (eC (.raw (.ty "tuple"))) aNil))))) (dOr (eTest (eBin qEq (eCB qLen (aCons (eV 0) aNil)) (eC (.int 0)))) (dNot (eTru (eCB qIsi (aCons (eBin qIx (eV 0) (eC (.int 0))) (aCons (eC (.raw (.ty "str"))) aNil))))))) (sRet (eC (.bl false))) sNext) (sSeq (sIf (dNot (eTru (eCB qAll (aCons (eLc false (iS (eSl false (eV 0) (oSome (eC (.int 1))) oNone)) (.one 4) dYes (eCall (sp_is_integer K) (aCons (eV 4) aNil)) [4]) aNil)))) (sRet (eC (.bl false))) sNext) (sSeq (sAsg (eBin qIx (eV 0) (eC (.int 0))) 3) (sSeq (sIf (eTest (eBin (qIn false) (eV 3) (eC (.tup [.str "forget", .str "again", .str "swap", .str "out", .str "twice"])))) (sRet (eBin qEq (eCB qLen (aCons (eV 0) aNil)) (eC (.int 1)))) sNext) (sSeq (sIf (eTest (eBin qEq (eV 3) (eC (.str "off")))) (sRet (eAnd (eBin qEq (eCB qLen (aCons (eV 0) aNil)) (eC (.int 2))) (eChain qLe qLt (eC (.int 1)) (eBin qIx (eV 0) (eC (.int 1))) (eV 1)))) sNext) (sSeq (sIf (eTest (eBin qEq (eV 3) (eC (.str "copy")))) (sRet (eAnd (eBin qEq (eCB qLen (aCons (eV 0) aNil)) (eC (.int 2))) (eChain qLe qLt (eC (.int 0)) (eBin qIx (eV 0) (eC (.int 1))) (eV 2)))) sNext) (sRet (eAnd (eBin qEq (eV 3) (eC (.str "read"))) (eAnd (eBin qEq (eCB qLen (aCons (eV 0) aNil)) (eC (.int 3))) (eAnd (eChain qLe qLt (eC (.int 0)) (eBin qIx (eV 0) (eC (.int 1))) (eV 2)) (eChain qLe qLt (eC (.int 1)) (eBin qIx (eV 0) (eC (.int 2))) (eV 1))))))))))))
theorem d_is_deed (T : Txt K mg) (G_is_integer : Good P w K mg base 2 (He.ga K "is_integer") ["value"] (sp_is_integer K)) : ∀ (cdv : Value) (A : Around) (outer : List Env) (s : Shared) (H : Hp) (E : XK) (B : Bs), Room 4 (A.deeper (envOfC "is_deed" (defScope s_is_deed) s.heap.objs.size (He.ga K "is_deed") cdv)) → PSs (cx0 P w K mg base N_is_deed "is_deed" (defScope s_is_deed) (He.ga K "is_deed") cdv A outer s H E) (defBody s_is_deed) (lS K B (t_is_deed K)) := by
  intro cdv A outer s H E B hr
  exact (dss_cons (ds_if (PW.pt (dw_or (dt_not (dt_tru (de_callB call_isi cd_isi rfl T.n_isinstance bt_isinstance (da_cons (dv 0) (da_cons (de_ty rfl T.n_tuple bt_tuple) da_nil))))) (dw_or (dt_cmp (op_eqD hr.units) od_eq (de_callB call_lenA cd_len rfl T.n_len bt_len (da_cons (dv 0) da_nil)) de_int (nomark _)) (dw_or1 (dt_not (dt_tru (de_callB call_isi cd_isi rfl T.n_isinstance bt_isinstance (da_cons (de_ix (dv 0) de_int (fun _ _ => rfl)) (da_cons (de_ty rfl T.n_str bt_str) da_nil))))))))) (dss_one (ds_ret de_bl)) dss_nil) (dss_cons (ds_if (dt_not (dt_tru (de_callB (cr_all rfl) cd_all rfl T.n_all bt_all (da_cons (de_lc (o := false) (own := [("part", 4)]) (tg := (.one 4)) rfl sc_is_deed.nd (di_any (de_slice (o := false) (dv 0) (do_some de_int) do_none)) (blkOk_by (own := [("part", 4)]) (N := N_is_deed) (sc := defScope s_is_deed) (by decide +kernel)) (by decide) (fun _ _ _ _ _ => (pg_name (i := 4) sc_is_deed.nd rfl (Or.inl rfl))) (fun _ _ _ _ _ => dts_nil) (fun _ _ _ _ _ => (de_callG G_is_integer (hr.mono (by decide)) T.g_is_integer (da_cons (dv 4) da_nil)))) da_nil)))) (dss_one (ds_ret de_bl)) dss_nil) (dss_cons (ds_set (i := 3) sc_is_deed.nd rfl (Or.inl rfl) (de_ix (dv 0) de_int (fun _ _ => rfl))) (dss_cons (ds_if (dt_cmp (op_inA (units5 hr)) od_in (dv 3) (de_tupG rfl T.g_PLAIN T.tg_PLAIN (fun _ => (.cons (.str _) (.cons (.str _) (.cons (.str _) (.cons (.str _) (.cons (.str _) .nil))))))) rfl) (dss_one (ds_ret (de_cmp (op_eqD hr.units) od_eq (de_callB call_lenA cd_len rfl T.n_len bt_len (da_cons (dv 0) da_nil)) de_int (nomark _)))) dss_nil) (dss_cons (ds_if (dt_cmp (op_eqD hr.units) od_eq (dv 3) de_str (nomark _)) (dss_one (ds_ret (de_and (de_cmp (op_eqD hr.units) od_eq (de_callB call_lenA cd_len rfl T.n_len bt_len (da_cons (dv 0) da_nil)) de_int (nomark _)) (de_one (de_chain op_le op_lt od_le od_lt de_int (de_ix (dv 0) de_int (fun _ _ => rfl)) (dv 1)))))) dss_nil) (dss_cons (ds_if (dt_cmp (op_eqD hr.units) od_eq (dv 3) de_str (nomark _)) (dss_one (ds_ret (de_and (de_cmp (op_eqD hr.units) od_eq (de_callB call_lenA cd_len rfl T.n_len bt_len (da_cons (dv 0) da_nil)) de_int (nomark _)) (de_one (de_chain op_le op_lt od_le od_lt de_int (de_ix (dv 0) de_int (fun _ _ => rfl)) (dv 2)))))) dss_nil) (dss_one (ds_ret (de_and (de_cmp (op_eqD hr.units) od_eq (dv 3) de_str (nomark _)) (de_and (de_cmp (op_eqD hr.units) od_eq (de_callB call_lenA cd_len rfl T.n_len bt_len (da_cons (dv 0) da_nil)) de_int (nomark _)) (de_and (de_chain op_le op_lt od_le od_lt de_int (de_ix (dv 0) de_int (fun _ _ => rfl)) (dv 2)) (de_one (de_chain op_le op_lt od_le od_lt de_int (de_ix (dv 0) de_int (fun _ _ => rfl)) (dv 1))))))))))))))
def t_all_deeds (K : PySem.W.Frag) : DS := (sSeq (sAsg (eLst false (aCons (eTup (aCons (eC (.str "forget")) aNil)) (aCons (eTup (aCons (eC (.str "again")) aNil)) aNil))) 2) (sSeq (sAsg (eBin (qAdd false) (eV 2) (eLc false (iR2 (aCons (eC (.int 1)) (aCons (eV 0) aNil))) (.one 3) dYes (eTup (aCons (eC (.str "off")) (aCons (eV 3) aNil))) [3])) 2) (sSeq (sAsg (eBin (qAdd false) (eV 2) (eLc2 false (iR1 (aCons (eV 1) aNil)) (.one 4) dYes (iR2 (aCons (eC (.int 1)) (aCons (eV 0) aNil))) (.one 3) dYes (eTup (aCons (eC (.str "read")) (aCons (eV 4) (aCons (eV 3) aNil)))) [4, 3] [3])) 2) (sSeq (sAsg (eBin (qAdd false) (eV 2) (eLc false (iR1 (aCons (eV 1) aNil)) (.one 4) dYes (eTup (aCons (eC (.str "copy")) (aCons (eV 4) aNil))) [4])) 2) (sRet (eBin (qAdd false) (eV 2) (eLst false (aCons (eTup (aCons (eC (.str "swap")) aNil)) (aCons (eTup (aCons (eC (.str "out")) aNil)) (aCons (eTup (aCons (eC (.str "twice")) aNil)) aNil))))))))))
theorem d_all_deeds (T : Txt K mg) : ∀ (cdv : Value) (A : Around) (outer : List Env) (s : Shared) (H : Hp) (E : XK) (B : Bs), Room 1 (A.deeper (envOfC "all_deeds" (defScope s_all_deeds) s.heap.objs.size (He.ga K "all_deeds") cdv)) → PSs (cx0 P w K mg base N_all_deeds "all_deeds" (defScope s_all_deeds) (He.ga K "all_deeds") cdv A outer s H E) (defBody s_all_deeds) (lS K B (t_all_deeds K)) := by
  intro cdv A outer s H E B hr
  exact (dss_cons (ds_set (i := 2) sc_all_deeds.nd rfl (Or.inl rfl) (de_lst (o := false) (da_cons (de_tup (da_cons de_str da_nil)) (da_cons (de_tup (da_cons de_str da_nil)) da_nil)))) (dss_cons (ds_set (i := 2) sc_all_deeds.nd rfl (Or.inl rfl) (de_bin op_addA (od_add (o := false)) (dv 2) (de_lc (o := false) (own := [("d", 3)]) (tg := (.one 3)) rfl sc_all_deeds.nd (di_range2 rfl T.n_range (da_cons de_int (da_cons (dv 0) da_nil))) (blkOk_by (own := [("d", 3)]) (N := N_all_deeds) (sc := defScope s_all_deeds) (by decide +kernel)) (by decide) (fun _ _ _ _ _ => (pg_name (i := 3) sc_all_deeds.nd rfl (Or.inl rfl))) (fun _ _ _ _ _ => dts_nil) (fun _ _ _ _ _ => (de_tup (da_cons de_str (da_cons (dv 3) da_nil))))))) (dss_cons (ds_set (i := 2) sc_all_deeds.nd rfl (Or.inl rfl) (de_bin op_addA (od_add (o := false)) (dv 2) (de_lc2 (o := false) (own := [("j", 4), ("d", 3)]) (tg := (.one 4)) (tg1 := (.one 3)) (vs1 := [3]) rfl sc_all_deeds.nd (di_range1 rfl T.n_range (da_cons (dv 1) da_nil)) (blkOk_by (own := [("j", 4), ("d", 3)]) (N := N_all_deeds) (sc := defScope s_all_deeds) (by decide +kernel)) (by decide) (by decide) (by decide) (fun _ _ _ _ _ => (pg_name (i := 4) sc_all_deeds.nd rfl (Or.inl rfl))) (fun _ _ _ _ _ => dts_nil) (fun _ _ _ _ _ => (di_range2 rfl T.n_range (da_cons de_int (da_cons (dv 0) da_nil)))) (fun _ _ _ _ _ => (pg_name (i := 3) sc_all_deeds.nd rfl (Or.inl rfl))) (fun _ _ _ _ _ => dts_nil) (fun _ _ _ _ _ => (de_tup (da_cons de_str (da_cons (dv 4) (da_cons (dv 3) da_nil)))))))) (dss_cons (ds_set (i := 2) sc_all_deeds.nd rfl (Or.inl rfl) (de_bin op_addA (od_add (o := false)) (dv 2) (de_lc (o := false) (own := [("j", 4)]) (tg := (.one 4)) rfl sc_all_deeds.nd (di_range1 rfl T.n_range (da_cons (dv 1) da_nil)) (blkOk_by (own := [("j", 4)]) (N := N_all_deeds) (sc := defScope s_all_deeds) (by decide +kernel)) (by decide) (fun _ _ _ _ _ => (pg_name (i := 4) sc_all_deeds.nd rfl (Or.inl rfl))) (fun _ _ _ _ _ => dts_nil) (fun _ _ _ _ _ => (de_tup (da_cons de_str (da_cons (dv 4) da_nil))))))) (dss_one (ds_ret (de_bin op_addA (od_add (o := false)) (dv 2) (de_lst (o := false) (da_cons (de_tup (da_cons de_str da_nil)) (da_cons (de_tup (da_cons de_str da_nil)) (da_cons (de_tup (da_cons de_str da_nil)) da_nil)))))))))))
def t_Kind_init (K : PySem.W.Frag) : DS := (sSeq (sIf (dOr (dNot (eTru (eCall (sp_is_integer K) (aCons (eV 1) aNil)))) (dNot (eTest (eChain qLe qLe (eC (.int 2)) (eV 1) (eC (.int 12)))))) sNever sNext) (sSeq (sIf (dOr (dNot (eTru (eCall (sp_is_integer K) (aCons (eV 2) aNil)))) (dNot (eTest (eChain qLe qLe (eC (.int 1)) (eV 2) (eC (.int 4)))))) sNever sNext) (sSeq (sIf (eTest (eBin qGt (eCall (sp_number_of_columns K) (aCons (eV 1) (aCons (eV 2) aNil))) (eC (.int 1000)))) sNever sNext) (sSeq (sIf (dOr (dNot (eTru (eCB qIsi (aCons (eV 3) (aCons (eC (.raw (.ty "list"))) aNil))))) (dNot (eTru (eCB qAll (aCons (eLc false (iS (eV 3)) (.one 6) dYes (eCall (sp_is_deed K) (aCons (eV 6) (aCons (eV 1) (aCons (eV 2) aNil)))) [6]) aNil))))) sNever sNext) (sSeq (sAsg (eLc false (iS (eCall (sp_all_deeds K) (aCons (eV 1) (aCons (eV 2) aNil)))) (.one 6) (eTest (eBin (qIn false) (eV 6) (eV 3))) (eV 6) [6]) 5) (sSeq (sIf (dOr (eTest (eBin qNe (eCB qLen (aCons (eV 5) aNil)) (eCB qLen (aCons (eV 3) aNil)))) (dNot (eTest (eChain qLe qLe (eC (.int 1)) (eCB qLen (aCons (eV 5) aNil)) (eC (.int 8)))))) sNever sNext) (sSeq (sIf (dOr (dNot (eTru (eCall (sp_is_integer K) (aCons (eV 4) aNil)))) (dNot (eTest (eChain qLe qLe (eC (.int 1)) (eV 4) (eC (.int 3)))))) sNever sNext) (sSeq (sFldD (He.ga K "Kind") "held_base" (eV 0) (eV 1)) (sSeq (sFldD (He.ga K "Kind") "held_rows" (eV 0) (eV 2)) (sSeq (sFldD (He.ga K "Kind") "held_deeds" (eV 0) (eV 5)) (sFldD (He.ga K "Kind") "held_most" (eV 0) (eV 4))))))))))))
theorem d_Kind_init (T : Txt K mg) (G_is_integer : Good P w K mg base 2 (He.ga K "is_integer") ["value"] (sp_is_integer K)) (G_number_of_columns : Good P w K mg base 2 (He.ga K "number_of_columns") ["base", "rows"] (sp_number_of_columns K)) (G_is_deed : Good P w K mg base 5 (He.ga K "is_deed") ["value", "base", "rows"] (sp_is_deed K)) (G_all_deeds : Good P w K mg base 2 (He.ga K "all_deeds") ["base", "rows"] (sp_all_deeds K)) : ∀ (cdv : Value) (A : Around) (outer : List Env) (s : Shared) (H : Hp) (E : XK) (B : Bs), Room 7 (A.deeper (envOfC "Kind.__init__" (defScope s_Kind_init) s.heap.objs.size (He.ma K (He.ga K "Kind") "__init__") cdv)) → PSs (cx0 P w K mg base N_Kind_init "Kind.__init__" (defScope s_Kind_init) (He.ma K (He.ga K "Kind") "__init__") cdv A outer s H E) (defBody s_Kind_init) (lS K B (t_Kind_init K)) := by
  intro cdv A outer s H E B hr
  exact (dss_cons (ds_if (PW.pt (dw_or (dt_not (dt_tru (de_callG G_is_integer (hr.mono (by decide)) T.g_is_integer (da_cons (dv 1) da_nil)))) (dw_or1 (dt_not (dt_chain op_le op_le od_le od_le de_int (dv 1) de_int))))) (dss_one ds_never) dss_nil) (dss_cons (ds_if (PW.pt (dw_or (dt_not (dt_tru (de_callG G_is_integer (hr.mono (by decide)) T.g_is_integer (da_cons (dv 2) da_nil)))) (dw_or1 (dt_not (dt_chain op_le op_le od_le od_le de_int (dv 2) de_int))))) (dss_one ds_never) dss_nil) (dss_cons (ds_if (dt_cmp op_gt od_gt (de_callG G_number_of_columns (hr.mono (by decide)) T.g_number_of_columns (da_cons (dv 1) (da_cons (dv 2) da_nil))) (de_intG rfl T.ig_MOST_COLUMNS) (nomark _)) (dss_one ds_never) dss_nil) (dss_cons (ds_if (PW.pt (dw_or (dt_not (dt_tru (de_callB call_isi cd_isi rfl T.n_isinstance bt_isinstance (da_cons (dv 3) (da_cons (de_ty rfl T.n_list bt_list) da_nil))))) (dw_or1 (dt_not (dt_tru (de_callB (cr_all rfl) cd_all rfl T.n_all bt_all (da_cons (de_lc (o := false) (own := [("deed", 6)]) (tg := (.one 6)) rfl sc_Kind_init.nd (di_any (dv 3)) (blkOk_by (own := [("deed", 6)]) (N := N_Kind_init) (sc := defScope s_Kind_init) (by decide +kernel)) (by decide) (fun _ _ _ _ _ => (pg_name (i := 6) sc_Kind_init.nd rfl (Or.inl rfl))) (fun _ _ _ _ _ => dts_nil) (fun _ _ _ _ _ => (de_callG G_is_deed (hr.mono (by decide)) T.g_is_deed (da_cons (dv 6) (da_cons (dv 1) (da_cons (dv 2) da_nil)))))) da_nil))))))) (dss_one ds_never) dss_nil) (dss_cons (ds_setLc (o := false) (i := 5) (own := [("deed", 6)]) (tg := (.one 6)) rfl sc_Kind_init.nd rfl rfl (sw_true rfl rfl rfl (by decide +kernel)) (di_any (de_callG G_all_deeds (hr.mono (by decide)) T.g_all_deeds (da_cons (dv 1) (da_cons (dv 2) da_nil)))) (blkOk_by (own := [("deed", 6)]) (N := N_Kind_init) (sc := defScope s_Kind_init) (by decide +kernel)) (by decide) (fun _ _ _ _ _ => (pg_name (i := 6) sc_Kind_init.nd rfl (Or.inl rfl))) (fun _ _ _ _ _ => (dts_one (dt_cmp (op_inA (units5 hr)) od_in (dv 6) (dv 3) rfl))) (fun _ _ _ _ _ => (dv 6))) (dss_cons (ds_if (PW.pt (dw_or (dt_cmp (op_neD hr.units) od_ne (de_callB call_lenA cd_len rfl T.n_len bt_len (da_cons (dv 5) da_nil)) (de_callB call_lenA cd_len rfl T.n_len bt_len (da_cons (dv 3) da_nil)) (nomark _)) (dw_or1 (dt_not (dt_chain op_le op_le od_le od_le de_int (de_callB call_lenA cd_len rfl T.n_len bt_len (da_cons (dv 5) da_nil)) (de_intG rfl T.ig_MOST_DEEDS)))))) (dss_one ds_never) dss_nil) (dss_cons (ds_if (PW.pt (dw_or (dt_not (dt_tru (de_callG G_is_integer (hr.mono (by decide)) T.g_is_integer (da_cons (dv 4) da_nil)))) (dw_or1 (dt_not (dt_chain op_le op_le od_le od_le de_int (dv 4) de_int))))) (dss_one ds_never) dss_nil) (dss_cons (ds_fld T.c_Kind T.na_Kind_held_base (dv 0) (dv 1)) (dss_cons (ds_fld T.c_Kind T.na_Kind_held_rows (dv 0) (dv 2)) (dss_cons (ds_fld T.c_Kind T.na_Kind_held_deeds (dv 0) (dv 5)) (dss_one (ds_fld T.c_Kind T.na_Kind_held_most (dv 0) (dv 4)))))))))))))
def t_law_ordered (K : PySem.W.Frag) : DS := (sSeq (sAsg (eLst true aNil) 3) (sSeq (sAsg (eLst true (aCons (eLst false aNil) aNil)) 4) (sSeq (sWhile (eTest (eBin qNe (eV 4) (eLst false aNil))) (sSeq (sAsg (eBM0 qPop0 (eV 4)) 5) (sSeq (sIf (eTest (eBin qNe (eV 5) (eLst false aNil))) (sDrop (eBM qApp (eV 3) (aCons (eV 5) aNil))) sNext) (sIf (eTest (eBin qLt (eCB qLen (aCons (eV 5) aNil)) (eV 2))) (sSeq (sAsg (eLst true aNil) 6) (sSeq (sFor (iR2 (aCons (eIf (eTest (eBin qNe (eV 5) (eLst false aNil))) (eBin (qAdd false) (eBin qIx (eBin qIx (eV 5) (eNeg (eC (.int 1)))) (eC (.int 0))) (eC (.int 1))) (eC (.int 0))) (aCons (eV 0) aNil))) (.one 7) (sDrop (eBM qExt (eV 6) (aCons (eLc false (iS (eV 1)) (.one 8) dYes (eBin (qAdd false) (eV 5) (eLst false (aCons (eTup (aCons (eV 7) (aCons (eV 8) aNil))) aNil))) [8]) aNil)))) (sDrop (eBM qExt (eV 4) (aCons (eRev false (eV 6)) aNil))))) sNext)))) (sRet (eV 3)))))
theorem d_law_ordered (T : Txt K mg) : ∀ (cdv : Value) (A : Around) (outer : List Env) (s : Shared) (H : Hp) (E : XK) (B : Bs), Room 1 (A.deeper (envOfC "_law_ordered" (defScope s_law_ordered) s.heap.objs.size (He.ga K "_law_ordered") cdv)) → PSs (cx0 P w K mg base N_law_ordered "_law_ordered" (defScope s_law_ordered) (He.ga K "_law_ordered") cdv A outer s H E) (defBody s_law_ordered) (lS K B (t_law_ordered K)) := by
  intro cdv A outer s H E B hr
  exact (dss_cons (ds_set (i := 3) sc_law_ordered.nd rfl (Or.inl rfl) (de_lst (o := true) da_nil)) (dss_cons (ds_set (i := 4) sc_law_ordered.nd rfl (Or.inl rfl) (de_lst (o := true) (da_cons (de_lst (o := false) da_nil) da_nil))) (dss_cons (ds_while PassesOwn.never (dt_cmp (op_neD hr.units) od_ne (dv 4) (de_lst (o := false) da_nil) (nomark _)) (dss_cons (ds_set (i := 5) sc_law_ordered.nd rfl (Or.inr rfl) (de_bm0 PySem.F.plainAttrs_list PySem.F.slot_list_pop PySem.F.type_list_pop mt_pop md_pop0 (dv 4))) (dss_cons (ds_if (dt_cmp (op_neD hr.units) od_ne (dv 5) (de_lst (o := false) da_nil) (nomark _)) (dss_one (ds_expr (de_bm PySem.F.plainAttrs_list PySem.F.slot_list_append PySem.F.type_list_append mt_append md_app (dv 3) (da_cons (dv 5) da_nil)))) dss_nil) (dss_one (ds_if (dt_cmp op_lt od_lt (de_callB call_lenA cd_len rfl T.n_len bt_len (da_cons (dv 5) da_nil)) (dv 2) (nomark _)) (dss_cons (ds_set (i := 6) sc_law_ordered.nd rfl (Or.inl rfl) (de_lst (o := true) da_nil)) (dss_cons (ds_for (tg := (.one 7)) PassesOwn.never rfl (di_range2 rfl T.n_range (da_cons (de_if (dt_cmp (op_neD hr.units) od_ne (dv 5) (de_lst (o := false) da_nil) (nomark _)) (de_bin op_addA (od_add (o := false)) (de_ix (de_ix (dv 5) (de_neg de_int) (fun _ _ => rfl)) de_int (fun _ _ => rfl)) de_int) de_int) (da_cons (dv 0) da_nil))) (pg_name (i := 7) sc_law_ordered.nd rfl (Or.inr rfl)) (dss_one (ds_expr (de_bm PySem.F.plainAttrs_list PySem.F.slot_list_extend PySem.F.type_list_extend mt_extend md_ext (dv 6) (da_cons (de_lc (o := false) (own := [("act", 8)]) (tg := (.one 8)) rfl sc_law_ordered.nd (di_any (dv 1)) (blkOk_by (own := [("act", 8)]) (N := N_law_ordered) (sc := defScope s_law_ordered) (by decide +kernel)) (by decide) (fun _ _ _ _ _ => (pg_name (i := 8) sc_law_ordered.nd rfl (Or.inl rfl))) (fun _ _ _ _ _ => dts_nil) (fun _ _ _ _ _ => (de_bin op_addA (od_add (o := false)) (dv 5) (de_lst (o := false) (da_cons (de_tup (da_cons (dv 7) (da_cons (dv 8) da_nil))) da_nil))))) da_nil))))) (dss_one (ds_expr (de_bm PySem.F.plainAttrs_list PySem.F.slot_list_extend PySem.F.type_list_extend mt_extend md_ext (dv 4) (da_cons (de_rev (o := false) (dv 6)) da_nil)))))) dss_nil))))) (dss_one (ds_ret (dv 3))))))
def u_law_run_3 (K : PySem.W.Frag) : DS := (sSeq (sIf (dAnd (eTest (eBin qEq (eBin qIx (eV 5) (eC (.int 0))) (eC (.str "forget")))) (eTest (eBin qEq (eV 8) (eC (.int 0))))) (sRet (eC .non)) sNext) (sSeq (sIf (eTest (eBin qEq (eBin qIx (eV 5) (eC (.int 0))) (eC (.str "forget")))) (sAsg (eC (.int 0)) 8) sNext) (sSeq (sIf (eTest (eBin qEq (eBin qIx (eV 5) (eC (.int 0))) (eC (.str "again")))) (sAsg (eBin (qAdd false) (eV 8) (eC (.int 1))) 8) sNext) (sIf (eTest (eBin qEq (eBin qIx (eV 5) (eC (.int 0))) (eC (.str "twice")))) (sSeq (sAsg (eBin (qAdd false) (eCB qSum (aCons (eV 10) aNil)) (eV 8)) 11) (sSeq (sDrop (eBM qApp (eV 6) (aCons (eBin (qMod) (eCB qInt (aCons (eV 11) aNil)) (eV 0)) aNil))) (sAsg (eBin (qFdiv) (eV 11) (eV 0)) 8))) sNext))))
def u_law_run_2 (K : PySem.W.Frag) : DS := (sSeq (sDrop (eBM qApp (eV 6) (aCons (eV 12) aNil))) (sSeq (sIf (eTest (eBin qIsNot (eV 7) (eC .non))) (sSeq (sDrop (eBM qApp (eV 6) (aCons (eV 7) aNil))) (sAsg (eC .non) 7)) sNext) (u_law_run_3 K)))
def u_law_run_1 (K : PySem.W.Frag) : DS := (sSeq (sPar 12 8 (aCons (eBin (qMod) (eCB qInt (aCons (eV 11) aNil)) (eV 0)) (aCons (eBin (qFdiv) (eV 11) (eV 0)) aNil))) (sSeq (sIf (eTest (eBin qEq (eBin qIx (eV 5) (eC (.int 0))) (eC (.str "swap")))) (sSeq (sAsg (eV 12) 7) sCont) sNext) (sSeq (sIf (eTest (eBin qEq (eBin qIx (eV 5) (eC (.int 0))) (eC (.str "off")))) (sAsg (eBin (qMod) (eCB qInt (aCons (eBin (qAdd false) (eV 12) (eBin qIx (eV 5) (eC (.int 1)))) aNil)) (eV 0)) 12) sNext) (u_law_run_2 K))))
def u_law_run_0 (K : PySem.W.Frag) : DS := (sSeq (sIf (eTest (eBin qEq (eBin qIx (eV 5) (eC (.int 0))) (eC (.str "out")))) sCont sNext) (sSeq (sAsg (eCB (qList true) (aCons (eBin qIx (eV 1) (eV 9)) aNil)) 10) (sSeq (sIf (eTest (eBin qEq (eBin qIx (eV 5) (eC (.int 0))) (eC (.str "copy")))) (sSub (eBin qIx (eBin qIx (eV 1) (eBin (qSub) (eV 9) (eC (.int 1)))) (eBin qIx (eV 5) (eC (.int 1)))) (eV 10) (eBin qIx (eV 5) (eC (.int 1)))) sNext) (sSeq (sIf (eTest (eBin qEq (eBin qIx (eV 5) (eC (.int 0))) (eC (.str "read")))) (sSub (eBin (qMod) (eCB qInt (aCons (eBin (qAdd false) (eBin qIx (eV 10) (eBin qIx (eV 5) (eC (.int 1)))) (eBin qIx (eV 5) (eC (.int 2)))) aNil)) (eV 0)) (eV 10) (eBin qIx (eV 5) (eC (.int 1)))) sNext) (sSeq (sAsg (eBin (qAdd false) (eCB qSum (aCons (eV 10) aNil)) (eV 8)) 11) (u_law_run_1 K))))))
def t_law_run (K : PySem.W.Frag) : DS := (sSeq (sAsg eDnew 3) (sSeq (sFor (iS (eV 2)) (.tup [4, 5]) (sDput (eV 3) (eV 4) (eV 5))) (sSeq (sPar3 6 7 8 (aCons (eLst true aNil) (aCons (eC .non) (aCons (eC (.int 0)) aNil)))) (sSeq (sFor (iR1 (aCons (eCB qLen (aCons (eV 1) aNil)) aNil)) (.one 9) (sSeq (sAsg (eDget (eV 3) (eV 9) (eTup (aCons (eC (.str "rightly")) aNil))) 5) (sSeq (sIf (dOr (dAnd (eTest (eDin (eV 9) (eV 3))) (eTest (eBin qIsNot (eV 7) (eC .non)))) (dAnd (eTest (eBin qEq (eBin qIx (eV 5) (eC (.int 0))) (eC (.str "copy")))) (eTest (eBin qEq (eV 9) (eC (.int 0)))))) (sRet (eC .non)) sNext) (u_law_run_0 K)))) (sRet (eFz (eTup (aCons (eV 6) (aCons (eV 7) (aCons (eV 8) aNil))))))))))
theorem d_law_run (T : Txt K mg) : ∀ (cdv : Value) (A : Around) (outer : List Env) (s : Shared) (H : Hp) (E : XK) (B : Bs), Room 1 (A.deeper (envOfC "_law_run" (defScope s_law_run) s.heap.objs.size (He.ga K "_law_run") cdv)) → PSs (cx0 P w K mg base N_law_run "_law_run" (defScope s_law_run) (He.ga K "_law_run") cdv A outer s H E) (defBody s_law_run) (lS K B (t_law_run K)) := by
  intro cdv A outer s H E B hr
  have h : PSs (cx0 P w K mg base N_law_run "_law_run" (defScope s_law_run) (He.ga K "_law_run") cdv A outer s H E) (defBody s_law_run) (lS K B (sSeq (sAsg eDnew 3) (sSeq (sFor (iS (eV 2)) (.tup [4, 5]) (sDput (eV 3) (eV 4) (eV 5))) (sSeq (sPar3 6 7 8 (aCons (eLst true aNil) (aCons (eC .non) (aCons (eC (.int 0)) aNil)))) (sSeq (sFor (iR1 (aCons (eCB qLen (aCons (eV 1) aNil)) aNil)) (.one 9) (sSeq (sAsg (eDget (eV 3) (eV 9) (eTup (aCons (eC (.str "rightly")) aNil))) 5) (sSeq (sIf (dOr (dAnd (eTest (eDin (eV 9) (eV 3))) (eTest (eBin qIsNot (eV 7) (eC .non)))) (dAnd (eTest (eBin qEq (eBin qIx (eV 5) (eC (.int 0))) (eC (.str "copy")))) (eTest (eBin qEq (eV 9) (eC (.int 0)))))) (sRet (eC .non)) sNext) (sSeq (sIf (eTest (eBin qEq (eBin qIx (eV 5) (eC (.int 0))) (eC (.str "out")))) sCont sNext) (sSeq (sAsg (eCB (qList true) (aCons (eBin qIx (eV 1) (eV 9)) aNil)) 10) (sSeq (sIf (eTest (eBin qEq (eBin qIx (eV 5) (eC (.int 0))) (eC (.str "copy")))) (sSub (eBin qIx (eBin qIx (eV 1) (eBin (qSub) (eV 9) (eC (.int 1)))) (eBin qIx (eV 5) (eC (.int 1)))) (eV 10) (eBin qIx (eV 5) (eC (.int 1)))) sNext) (sSeq (sIf (eTest (eBin qEq (eBin qIx (eV 5) (eC (.int 0))) (eC (.str "read")))) (sSub (eBin (qMod) (eCB qInt (aCons (eBin (qAdd false) (eBin qIx (eV 10) (eBin qIx (eV 5) (eC (.int 1)))) (eBin qIx (eV 5) (eC (.int 2)))) aNil)) (eV 0)) (eV 10) (eBin qIx (eV 5) (eC (.int 1)))) sNext) (sSeq (sAsg (eBin (qAdd false) (eCB qSum (aCons (eV 10) aNil)) (eV 8)) 11) (sSeq (sPar 12 8 (aCons (eBin (qMod) (eCB qInt (aCons (eV 11) aNil)) (eV 0)) (aCons (eBin (qFdiv) (eV 11) (eV 0)) aNil))) (sSeq (sIf (eTest (eBin qEq (eBin qIx (eV 5) (eC (.int 0))) (eC (.str "swap")))) (sSeq (sAsg (eV 12) 7) sCont) sNext) (sSeq (sIf (eTest (eBin qEq (eBin qIx (eV 5) (eC (.int 0))) (eC (.str "off")))) (sAsg (eBin (qMod) (eCB qInt (aCons (eBin (qAdd false) (eV 12) (eBin qIx (eV 5) (eC (.int 1)))) aNil)) (eV 0)) 12) sNext) (sSeq (sDrop (eBM qApp (eV 6) (aCons (eV 12) aNil))) (sSeq (sIf (eTest (eBin qIsNot (eV 7) (eC .non))) (sSeq (sDrop (eBM qApp (eV 6) (aCons (eV 7) aNil))) (sAsg (eC .non) 7)) sNext) (sSeq (sIf (dAnd (eTest (eBin qEq (eBin qIx (eV 5) (eC (.int 0))) (eC (.str "forget")))) (eTest (eBin qEq (eV 8) (eC (.int 0))))) (sRet (eC .non)) sNext) (sSeq (sIf (eTest (eBin qEq (eBin qIx (eV 5) (eC (.int 0))) (eC (.str "forget")))) (sAsg (eC (.int 0)) 8) sNext) (sSeq (sIf (eTest (eBin qEq (eBin qIx (eV 5) (eC (.int 0))) (eC (.str "again")))) (sAsg (eBin (qAdd false) (eV 8) (eC (.int 1))) 8) sNext) (sIf (eTest (eBin qEq (eBin qIx (eV 5) (eC (.int 0))) (eC (.str "twice")))) (sSeq (sAsg (eBin (qAdd false) (eCB qSum (aCons (eV 10) aNil)) (eV 8)) 11) (sSeq (sDrop (eBM qApp (eV 6) (aCons (eBin (qMod) (eCB qInt (aCons (eV 11) aNil)) (eV 0)) aNil))) (sAsg (eBin (qFdiv) (eV 11) (eV 0)) 8))) sNext))))))))))))))))) (sRet (eFz (eTup (aCons (eV 6) (aCons (eV 7) (aCons (eV 8) aNil))))))))))) := (dss_cons (ds_set (i := 3) sc_law_run.nd rfl (Or.inl rfl) de_dnew) (dss_cons (ds_for (tg := (.tup [4, 5])) PassesOwn.never rfl (di_any (dv 2)) (pg_tup rfl (pgs_cons (pg_name (i := 4) sc_law_run.nd rfl (Or.inl rfl)) (pgs_cons (pg_name (i := 5) sc_law_run.nd rfl (Or.inl rfl)) pgs_nil))) (dss_one (ds_dput (units1 hr) (dv 5) (dv 3) (dv 4)))) (dss_cons (ds_par3 (i := 6) (j := 7) (l := 8) rfl sc_law_run.nd rfl rfl rfl (by decide) (by decide) (by decide) rfl rfl rfl (da_cons (de_lst (o := true) da_nil) (da_cons de_non (da_cons de_int da_nil)))) (dss_cons (ds_for (tg := (.one 9)) PassesOwn.never rfl (di_range1 rfl T.n_range (da_cons (de_callB call_lenA cd_len rfl T.n_len bt_len (da_cons (dv 1) da_nil)) da_nil)) (pg_name (i := 9) sc_law_run.nd rfl (Or.inl rfl)) (dss_cons (ds_set (i := 5) sc_law_run.nd rfl (Or.inl rfl) (de_dget (units1 hr) (dv 3) (dv 9) (de_tup (da_cons de_str da_nil)) ⟨rfl, rfl, rfl, rfl⟩)) (dss_cons (ds_if (PW.pt (dw_or (PW.pt (dw_and (dt_din (units1 hr) (dv 9) (dv 3) rfl) (dw_and1 (dt_cmp op_isNotA od_isNot (dv 7) de_non (nomark _))))) (dw_or1 (PW.pt (dw_and (dt_cmp (op_eqD hr.units) od_eq (de_ix (dv 5) de_int (fun _ _ => rfl)) de_str (nomark _)) (dw_and1 (dt_cmp (op_eqD hr.units) od_eq (dv 9) de_int (nomark _)))))))) (dss_one (ds_ret de_non)) dss_nil) (dss_cons (ds_if (dt_cmp (op_eqD hr.units) od_eq (de_ix (dv 5) de_int (fun _ _ => rfl)) de_str (nomark _)) (dss_one ds_continue) dss_nil) (dss_cons (ds_set (i := 10) sc_law_run.nd rfl (Or.inl rfl) (de_callTy call_listA (cd_list (o := true)) rfl T.n_list bt_list (da_cons (de_ix (dv 1) (dv 9) (fun _ _ => rfl)) da_nil))) (dss_cons (ds_if (dt_cmp (op_eqD hr.units) od_eq (de_ix (dv 5) de_int (fun _ _ => rfl)) de_str (nomark _)) (dss_one (ds_sub (de_ix (de_ix (dv 1) (de_bin op_sub od_sub (dv 9) de_int) (fun _ _ => rfl)) (de_ix (dv 5) de_int (fun _ _ => rfl)) (fun _ _ => rfl)) (dv 10) (de_ix (dv 5) de_int (fun _ _ => rfl)))) dss_nil) (dss_cons (ds_if (dt_cmp (op_eqD hr.units) od_eq (de_ix (dv 5) de_int (fun _ _ => rfl)) de_str (nomark _)) (dss_one (ds_sub (de_bin op_mod od_mod (de_callTy call_intA cd_int rfl T.n_int bt_int (da_cons (de_bin op_addA (od_add (o := false)) (de_ix (dv 10) (de_ix (dv 5) de_int (fun _ _ => rfl)) (fun _ _ => rfl)) (de_ix (dv 5) de_int (fun _ _ => rfl))) da_nil)) (dv 0)) (dv 10) (de_ix (dv 5) de_int (fun _ _ => rfl)))) dss_nil) (dss_cons (ds_set (i := 11) sc_law_run.nd rfl (Or.inl rfl) (de_bin op_addA (od_add (o := false)) (de_callB (call_sumA rfl) cd_sum rfl T.n_sum bt_sum (da_cons (dv 10) da_nil)) (dv 8))) (dss_cons (ds_par (i := 12) (j := 8) rfl sc_law_run.nd rfl rfl (by decide) rfl rfl (da_cons (de_bin op_mod od_mod (de_callTy call_intA cd_int rfl T.n_int bt_int (da_cons (dv 11) da_nil)) (dv 0)) (da_cons (de_bin op_fdivA od_fdiv (dv 11) (dv 0)) da_nil))) (dss_cons (ds_if (dt_cmp (op_eqD hr.units) od_eq (de_ix (dv 5) de_int (fun _ _ => rfl)) de_str (nomark _)) (dss_cons (ds_set (i := 7) sc_law_run.nd rfl (Or.inl rfl) (dv 12)) (dss_one ds_continue)) dss_nil) (dss_cons (ds_if (dt_cmp (op_eqD hr.units) od_eq (de_ix (dv 5) de_int (fun _ _ => rfl)) de_str (nomark _)) (dss_one (ds_set (i := 12) sc_law_run.nd rfl (Or.inl rfl) (de_bin op_mod od_mod (de_callTy call_intA cd_int rfl T.n_int bt_int (da_cons (de_bin op_addA (od_add (o := false)) (dv 12) (de_ix (dv 5) de_int (fun _ _ => rfl))) da_nil)) (dv 0)))) dss_nil) (dss_cons (ds_expr (de_bm PySem.F.plainAttrs_list PySem.F.slot_list_append PySem.F.type_list_append mt_append md_app (dv 6) (da_cons (dv 12) da_nil))) (dss_cons (ds_if (dt_cmp op_isNotA od_isNot (dv 7) de_non (nomark _)) (dss_cons (ds_expr (de_bm PySem.F.plainAttrs_list PySem.F.slot_list_append PySem.F.type_list_append mt_append md_app (dv 6) (da_cons (dv 7) da_nil))) (dss_one (ds_set (i := 7) sc_law_run.nd rfl (Or.inl rfl) de_non))) dss_nil) (dss_cons (ds_if (PW.pt (dw_and (dt_cmp (op_eqD hr.units) od_eq (de_ix (dv 5) de_int (fun _ _ => rfl)) de_str (nomark _)) (dw_and1 (dt_cmp (op_eqD hr.units) od_eq (dv 8) de_int (nomark _))))) (dss_one (ds_ret de_non)) dss_nil) (dss_cons (ds_if (dt_cmp (op_eqD hr.units) od_eq (de_ix (dv 5) de_int (fun _ _ => rfl)) de_str (nomark _)) (dss_one (ds_set (i := 8) sc_law_run.nd rfl (Or.inl rfl) de_int)) dss_nil) (dss_cons (ds_if (dt_cmp (op_eqD hr.units) od_eq (de_ix (dv 5) de_int (fun _ _ => rfl)) de_str (nomark _)) (dss_one (ds_set (i := 8) sc_law_run.nd rfl (Or.inl rfl) (de_bin op_addA (od_add (o := false)) (dv 8) de_int))) dss_nil) (dss_one (ds_if (dt_cmp (op_eqD hr.units) od_eq (de_ix (dv 5) de_int (fun _ _ => rfl)) de_str (nomark _)) (dss_cons (ds_set (i := 11) sc_law_run.nd rfl (Or.inl rfl) (de_bin op_addA (od_add (o := false)) (de_callB (call_sumA rfl) cd_sum rfl T.n_sum bt_sum (da_cons (dv 10) da_nil)) (dv 8))) (dss_cons (ds_expr (de_bm PySem.F.plainAttrs_list PySem.F.slot_list_append PySem.F.type_list_append mt_append md_app (dv 6) (da_cons (de_bin op_mod od_mod (de_callTy call_intA cd_int rfl T.n_int bt_int (da_cons (dv 11) da_nil)) (dv 0)) da_nil))) (dss_one (ds_set (i := 8) sc_law_run.nd rfl (Or.inl rfl) (de_bin op_fdivA od_fdiv (dv 11) (dv 0)))))) dss_nil)))))))))))))))))) (dss_one (ds_ret (de_fz (de_tup (da_cons (dv 6) (da_cons (dv 7) (da_cons (dv 8) da_nil)))))))))))
  exact h
def t_law_outcomes (K : PySem.W.Frag) : DS := (sSeq (sAsg (eLst true aNil) 3) (sSeq (sFor (iS (eV 2)) (.one 4) (sSeq (sAsg (eCall (sp_law_run K) (aCons (eV 0) (aCons (eV 1) (aCons (eV 4) aNil)))) 5) (sSeq (sIf (dAnd (eTest (eBin qIsNot (eV 5) (eC .non))) (eTest (eBin qIsNot (eBin qIx (eV 5) (eC (.int 1))) (eC .non)))) (sAsg (eC .non) 5) sNext) (sSeq (sIf (eTest (eBin qIsNot (eV 5) (eC .non))) (sAsg (eTup (aCons (eBin qIx (eV 5) (eC (.int 0))) (aCons (eBin qIx (eV 5) (eC (.int 2))) aNil))) 5) sNext) (sDrop (eBM qApp (eV 3) (aCons (eV 5) aNil))))))) (sRet (eV 3))))
theorem d_law_outcomes (T : Txt K mg) (G_law_run : Good P w K mg base 2 (He.ga K "_law_run") ["base", "cols", "slips"] (sp_law_run K)) : ∀ (cdv : Value) (A : Around) (outer : List Env) (s : Shared) (H : Hp) (E : XK) (B : Bs), Room 4 (A.deeper (envOfC "_law_outcomes" (defScope s_law_outcomes) s.heap.objs.size (He.ga K "_law_outcomes") cdv)) → PSs (cx0 P w K mg base N_law_outcomes "_law_outcomes" (defScope s_law_outcomes) (He.ga K "_law_outcomes") cdv A outer s H E) (defBody s_law_outcomes) (lS K B (t_law_outcomes K)) := by
  intro cdv A outer s H E B hr
  exact (dss_cons (ds_set (i := 3) sc_law_outcomes.nd rfl (Or.inl rfl) (de_lst (o := true) da_nil)) (dss_cons (ds_for (tg := (.one 4)) PassesOwn.never rfl (di_any (dv 2)) (pg_name (i := 4) sc_law_outcomes.nd rfl (Or.inl rfl)) (dss_cons (ds_set (i := 5) sc_law_outcomes.nd rfl (Or.inl rfl) (de_callG G_law_run (hr.mono (by decide)) T.g_law_run (da_cons (dv 0) (da_cons (dv 1) (da_cons (dv 4) da_nil))))) (dss_cons (ds_if (PW.pt (dw_and (dt_cmp op_isNotA od_isNot (dv 5) de_non (nomark _)) (dw_and1 (dt_cmp op_isNotA od_isNot (de_ix (dv 5) de_int (fun _ _ => rfl)) de_non (nomark _))))) (dss_one (ds_set (i := 5) sc_law_outcomes.nd rfl (Or.inl rfl) de_non)) dss_nil) (dss_cons (ds_if (dt_cmp op_isNotA od_isNot (dv 5) de_non (nomark _)) (dss_one (ds_set (i := 5) sc_law_outcomes.nd rfl (Or.inl rfl) (de_tup (da_cons (de_ix (dv 5) de_int (fun _ _ => rfl)) (da_cons (de_ix (dv 5) de_int (fun _ _ => rfl)) da_nil))))) dss_nil) (dss_one (ds_expr (de_bm PySem.F.plainAttrs_list PySem.F.slot_list_append PySem.F.type_list_append mt_append md_app (dv 3) (da_cons (dv 5) da_nil)))))))) (dss_one (ds_ret (dv 3)))))
def t_is_column (K : PySem.W.Frag) : DS := (sSeq (sIf (dOr (dNot (eTru (eCB qIsi (aCons (eV 0) (aCons (eC (.raw (.ty "tuple"))) aNil))))) (eTest (eBin qNe (eCB qLen (aCons (eV 0) aNil)) (eV 2)))) (sRet (eC (.bl false))) sNext) (sRet (eCB qAll (aCons (eLc false (iS (eV 0)) (.one 3) dYes (eAnd (eCall (sp_is_integer K) (aCons (eV 3) aNil)) (eChain qLe qLt (eC (.int 0)) (eV 3) (eV 1))) [3]) aNil))))
theorem d_is_column (T : Txt K mg) (G_is_integer : Good P w K mg base 2 (He.ga K "is_integer") ["value"] (sp_is_integer K)) : ∀ (cdv : Value) (A : Around) (outer : List Env) (s : Shared) (H : Hp) (E : XK) (B : Bs), Room 4 (A.deeper (envOfC "is_column" (defScope s_is_column) s.heap.objs.size (He.ga K "is_column") cdv)) → PSs (cx0 P w K mg base N_is_column "is_column" (defScope s_is_column) (He.ga K "is_column") cdv A outer s H E) (defBody s_is_column) (lS K B (t_is_column K)) := by
  intro cdv A outer s H E B hr
  exact (dss_cons (ds_if (PW.pt (dw_or (dt_not (dt_tru (de_callB call_isi cd_isi rfl T.n_isinstance bt_isinstance (da_cons (dv 0) (da_cons (de_ty rfl T.n_tuple bt_tuple) da_nil))))) (dw_or1 (dt_cmp (op_neD hr.units) od_ne (de_callB call_lenA cd_len rfl T.n_len bt_len (da_cons (dv 0) da_nil)) (dv 2) (nomark _))))) (dss_one (ds_ret de_bl)) dss_nil) (dss_one (ds_ret (de_callB (cr_all rfl) cd_all rfl T.n_all bt_all (da_cons (de_lc (o := false) (own := [("figure", 3)]) (tg := (.one 3)) rfl sc_is_column.nd (di_any (dv 0)) (blkOk_by (own := [("figure", 3)]) (N := N_is_column) (sc := defScope s_is_column) (by decide +kernel)) (by decide) (fun _ _ _ _ _ => (pg_name (i := 3) sc_is_column.nd rfl (Or.inl rfl))) (fun _ _ _ _ _ => dts_nil) (fun _ _ _ _ _ => (de_and (de_callG G_is_integer (hr.mono (by decide)) T.g_is_integer (da_cons (dv 3) da_nil)) (de_one (de_chain op_le op_lt od_le od_lt de_int (dv 3) (dv 1)))))) da_nil)))))
def t_Sheet_init (K : PySem.W.Frag) : DS := (sSeq (sIf (dOr (dNot (eTru (eCall (sp_is_integer K) (aCons (eV 1) aNil)))) (dNot (eTest (eChain qLe qLe (eC (.int 2)) (eV 1) (eC (.int 12)))))) sNever sNext) (sSeq (sIf (dOr (dNot (eTru (eCall (sp_is_integer K) (aCons (eV 2) aNil)))) (dNot (eTest (eChain qLe qLe (eC (.int 1)) (eV 2) (eC (.int 4)))))) sNever sNext) (sSeq (sIf (dOr (dNot (eTru (eCB qIsi (aCons (eV 3) (aCons (eC (.raw (.ty "list"))) aNil))))) (dNot (eTru (eCB qAll (aCons (eLc false (iS (eV 3)) (.one 4) dYes (eCall (sp_is_column K) (aCons (eV 4) (aCons (eV 1) (aCons (eV 2) aNil)))) [4]) aNil))))) sNever sNext) (sSeq (sFldD (He.ga K "Sheet") "held_base" (eV 0) (eV 1)) (sSeq (sFldD (He.ga K "Sheet") "held_rows" (eV 0) (eV 2)) (sSeq (sFldD (He.ga K "Sheet") "held_columns" (eV 0) (eCB qListE (aCons (eV 3) aNil))) (sFldD (He.ga K "Sheet") "size" (eV 0) (eCB qLen (aCons (eV 3) aNil)))))))))
theorem d_Sheet_init (T : Txt K mg) (G_is_integer : Good P w K mg base 2 (He.ga K "is_integer") ["value"] (sp_is_integer K)) (G_is_column : Good P w K mg base 5 (He.ga K "is_column") ["value", "base", "rows"] (sp_is_column K)) : ∀ (cdv : Value) (A : Around) (outer : List Env) (s : Shared) (H : Hp) (E : XK) (B : Bs), Room 7 (A.deeper (envOfC "Sheet.__init__" (defScope s_Sheet_init) s.heap.objs.size (He.ma K (He.ga K "Sheet") "__init__") cdv)) → PSs (cx0 P w K mg base N_Sheet_init "Sheet.__init__" (defScope s_Sheet_init) (He.ma K (He.ga K "Sheet") "__init__") cdv A outer s H E) (defBody s_Sheet_init) (lS K B (t_Sheet_init K)) := by
  intro cdv A outer s H E B hr
  exact (dss_cons (ds_if (PW.pt (dw_or (dt_not (dt_tru (de_callG G_is_integer (hr.mono (by decide)) T.g_is_integer (da_cons (dv 1) da_nil)))) (dw_or1 (dt_not (dt_chain op_le op_le od_le od_le de_int (dv 1) de_int))))) (dss_one ds_never) dss_nil) (dss_cons (ds_if (PW.pt (dw_or (dt_not (dt_tru (de_callG G_is_integer (hr.mono (by decide)) T.g_is_integer (da_cons (dv 2) da_nil)))) (dw_or1 (dt_not (dt_chain op_le op_le od_le od_le de_int (dv 2) de_int))))) (dss_one ds_never) dss_nil) (dss_cons (ds_if (PW.pt (dw_or (dt_not (dt_tru (de_callB call_isi cd_isi rfl T.n_isinstance bt_isinstance (da_cons (dv 3) (da_cons (de_ty rfl T.n_list bt_list) da_nil))))) (dw_or1 (dt_not (dt_tru (de_callB (cr_all rfl) cd_all rfl T.n_all bt_all (da_cons (de_lc (o := false) (own := [("column", 4)]) (tg := (.one 4)) rfl sc_Sheet_init.nd (di_any (dv 3)) (blkOk_by (own := [("column", 4)]) (N := N_Sheet_init) (sc := defScope s_Sheet_init) (by decide +kernel)) (by decide) (fun _ _ _ _ _ => (pg_name (i := 4) sc_Sheet_init.nd rfl (Or.inl rfl))) (fun _ _ _ _ _ => dts_nil) (fun _ _ _ _ _ => (de_callG G_is_column (hr.mono (by decide)) T.g_is_column (da_cons (dv 4) (da_cons (dv 1) (da_cons (dv 2) da_nil)))))) da_nil))))))) (dss_one ds_never) dss_nil) (dss_cons (ds_fld T.c_Sheet T.na_Sheet_held_base (dv 0) (dv 1)) (dss_cons (ds_fld T.c_Sheet T.na_Sheet_held_rows (dv 0) (dv 2)) (dss_cons (ds_fld T.c_Sheet T.na_Sheet_held_columns (dv 0) (de_callTy call_listA cd_listE rfl T.n_list bt_list (da_cons (dv 3) da_nil))) (dss_one (ds_fld T.c_Sheet T.na_Sheet_size (dv 0) (de_callB call_lenA cd_len rfl T.n_len bt_len (da_cons (dv 3) da_nil))))))))))
def t_law_alike_0 (K : PySem.W.Frag) : DS := (sSeq (sIf (eTru (eCB qIsi2 (aCons (eV 1) (aCons (eTup (aCons (eC (.raw (.ty "list"))) (aCons (eC (.raw (.ty "tuple"))) aNil))) aNil)))) (sSeq (sIf (dOr (eTest (eBin qNe (eCB qIsi (aCons (eV 0) (aCons (eC (.raw (.ty "list"))) aNil))) (eCB qIsi (aCons (eV 1) (aCons (eC (.raw (.ty "list"))) aNil))))) (eTest (eBin qNe (eCB qIsi (aCons (eV 0) (aCons (eC (.raw (.ty "tuple"))) aNil))) (eCB qIsi (aCons (eV 1) (aCons (eC (.raw (.ty "tuple"))) aNil)))))) (sRet (eC (.bl false))) sNext) (sSeq (sIf (eTest (eBin qNe (eCB qLen (aCons (eV 0) aNil)) (eCB qLen (aCons (eV 1) aNil)))) (sRet (eC (.bl false))) sNext) (sSeq (sFor (iR1 (aCons (eCB qLen (aCons (eV 1) aNil)) aNil)) (.one 2) (sIf (dNot (eTru eNever)) (sRet (eC (.bl false))) sNext)) (sRet (eC (.bl true)))))) sNext) (sSeq (sIf (eTru (eCB qIsi (aCons (eV 1) (aCons (eC (.raw (.ty "str"))) aNil)))) (sRet (eAnd (eCB qIsi (aCons (eV 0) (aCons (eC (.raw (.ty "str"))) aNil))) (eBin qEq (eV 0) (eV 1)))) sNext) (sSeq (sIf (dAnd (eTru (eCB qIsi (aCons (eV 1) (aCons (eC (.raw (.ty "int"))) aNil)))) (dNot (eTru (eCB qIsi (aCons (eV 1) (aCons (eC (.raw (.ty "bool"))) aNil)))))) (sRet (eAnd (eCB qIsi (aCons (eV 0) (aCons (eC (.raw (.ty "int"))) aNil))) (eAnd (eNot (eCB qIsi (aCons (eV 0) (aCons (eC (.raw (.ty "bool"))) aNil)))) (eBin qEq (eV 0) (eV 1))))) sNext) (sRet (eAnd (eBin qEq (eCB qIsi (aCons (eV 0) (aCons (eC (.raw (.ty "bool"))) aNil))) (eCB qIsi (aCons (eV 1) (aCons (eC (.raw (.ty "bool"))) aNil)))) (eAnd (eBin qEq (eV 0) (eV 1)) (eBin qEq (eBin qIs (eV 0) (eC .non)) (eBin qIs (eV 1) (eC .non)))))))))
theorem d_law_alike_0 (T : Txt K mg) : ∀ (cdv : Value) (A : Around) (outer : List Env) (s : Shared) (H : Hp) (E : XK) (B : Bs), Room 1 (A.deeper (envOfC "_law_alike" (defScope s_law_alike_0) s.heap.objs.size (He.ga K "_law_alike") cdv)) → PSs (cx0 P w K mg base N_law_alike_0 "_law_alike" (defScope s_law_alike_0) (He.ga K "_law_alike") cdv A outer s H E) (defBody s_law_alike_0) (lS K B (t_law_alike_0 K)) := by
  intro cdv A outer s H E B hr
  exact (dss_cons (ds_if (dt_tru (de_callB call_isiS cd_isi2 rfl T.n_isinstance bt_isinstance (da_cons (dv 1) (da_cons (de_tup (da_cons (de_ty rfl T.n_list bt_list) (da_cons (de_ty rfl T.n_tuple bt_tuple) da_nil))) da_nil)))) (dss_cons (ds_if (PW.pt (dw_or (dt_cmp (op_neD hr.units) od_ne (de_callB call_isi cd_isi rfl T.n_isinstance bt_isinstance (da_cons (dv 0) (da_cons (de_ty rfl T.n_list bt_list) da_nil))) (de_callB call_isi cd_isi rfl T.n_isinstance bt_isinstance (da_cons (dv 1) (da_cons (de_ty rfl T.n_list bt_list) da_nil))) (nomark _)) (dw_or1 (dt_cmp (op_neD hr.units) od_ne (de_callB call_isi cd_isi rfl T.n_isinstance bt_isinstance (da_cons (dv 0) (da_cons (de_ty rfl T.n_tuple bt_tuple) da_nil))) (de_callB call_isi cd_isi rfl T.n_isinstance bt_isinstance (da_cons (dv 1) (da_cons (de_ty rfl T.n_tuple bt_tuple) da_nil))) (nomark _))))) (dss_one (ds_ret de_bl)) dss_nil) (dss_cons (ds_if (dt_cmp (op_neD hr.units) od_ne (de_callB call_lenA cd_len rfl T.n_len bt_len (da_cons (dv 0) da_nil)) (de_callB call_lenA cd_len rfl T.n_len bt_len (da_cons (dv 1) da_nil)) (nomark _)) (dss_one (ds_ret de_bl)) dss_nil) (dss_cons (ds_for (tg := (.one 2)) PassesOwn.never rfl (di_range1 rfl T.n_range (da_cons (de_callB call_lenA cd_len rfl T.n_len bt_len (da_cons (dv 1) da_nil)) da_nil)) (pg_name (i := 2) sc_law_alike_0.nd rfl (Or.inl rfl)) (dss_one (ds_if (dt_not (dt_tru de_never)) (dss_one (ds_ret de_bl)) dss_nil))) (dss_one (ds_ret de_bl))))) dss_nil) (dss_cons (ds_if (dt_tru (de_callB call_isi cd_isi rfl T.n_isinstance bt_isinstance (da_cons (dv 1) (da_cons (de_ty rfl T.n_str bt_str) da_nil)))) (dss_one (ds_ret (de_and (de_callB call_isi cd_isi rfl T.n_isinstance bt_isinstance (da_cons (dv 0) (da_cons (de_ty rfl T.n_str bt_str) da_nil))) (de_one (de_cmp (op_eqD hr.units) od_eq (dv 0) (dv 1) (nomark _)))))) dss_nil) (dss_cons (ds_if (PW.pt (dw_and (dt_tru (de_callB call_isi cd_isi rfl T.n_isinstance bt_isinstance (da_cons (dv 1) (da_cons (de_ty rfl T.n_int bt_int) da_nil)))) (dw_and1 (dt_not (dt_tru (de_callB call_isi cd_isi rfl T.n_isinstance bt_isinstance (da_cons (dv 1) (da_cons (de_ty rfl T.n_bool bt_bool) da_nil)))))))) (dss_one (ds_ret (de_and (de_callB call_isi cd_isi rfl T.n_isinstance bt_isinstance (da_cons (dv 0) (da_cons (de_ty rfl T.n_int bt_int) da_nil))) (de_and (de_not (de_callB call_isi cd_isi rfl T.n_isinstance bt_isinstance (da_cons (dv 0) (da_cons (de_ty rfl T.n_bool bt_bool) da_nil)))) (de_one (de_cmp (op_eqD hr.units) od_eq (dv 0) (dv 1) (nomark _))))))) dss_nil) (dss_one (ds_ret (de_and (de_cmp (op_eqD hr.units) od_eq (de_callB call_isi cd_isi rfl T.n_isinstance bt_isinstance (da_cons (dv 0) (da_cons (de_ty rfl T.n_bool bt_bool) da_nil))) (de_callB call_isi cd_isi rfl T.n_isinstance bt_isinstance (da_cons (dv 1) (da_cons (de_ty rfl T.n_bool bt_bool) da_nil))) (nomark _)) (de_and (de_cmp (op_eqD hr.units) od_eq (dv 0) (dv 1) (nomark _)) (de_one (de_cmp (op_eqD hr.units) od_eq (de_cmp op_isA od_is (dv 0) de_non (nomark _)) (de_cmp op_isA od_is (dv 1) de_non (nomark _)) (nomark _))))))))))
def t_law_alike_1 (K : PySem.W.Frag) : DS := (sSeq (sIf (eTru (eCB qIsi2 (aCons (eV 1) (aCons (eTup (aCons (eC (.raw (.ty "list"))) (aCons (eC (.raw (.ty "tuple"))) aNil))) aNil)))) (sSeq (sIf (dOr (eTest (eBin qNe (eCB qIsi (aCons (eV 0) (aCons (eC (.raw (.ty "list"))) aNil))) (eCB qIsi (aCons (eV 1) (aCons (eC (.raw (.ty "list"))) aNil))))) (eTest (eBin qNe (eCB qIsi (aCons (eV 0) (aCons (eC (.raw (.ty "tuple"))) aNil))) (eCB qIsi (aCons (eV 1) (aCons (eC (.raw (.ty "tuple"))) aNil)))))) (sRet (eC (.bl false))) sNext) (sSeq (sIf (eTest (eBin qNe (eCB qLen (aCons (eV 0) aNil)) (eCB qLen (aCons (eV 1) aNil)))) (sRet (eC (.bl false))) sNext) (sSeq (sFor (iR1 (aCons (eCB qLen (aCons (eV 1) aNil)) aNil)) (.one 2) (sIf (dNot (eTru (eCall (sp_law_alike_0 K) (aCons (eBin qIx (eV 0) (eV 2)) (aCons (eBin qIx (eV 1) (eV 2)) aNil))))) (sRet (eC (.bl false))) sNext)) (sRet (eC (.bl true)))))) sNext) (sSeq (sIf (eTru (eCB qIsi (aCons (eV 1) (aCons (eC (.raw (.ty "str"))) aNil)))) (sRet (eAnd (eCB qIsi (aCons (eV 0) (aCons (eC (.raw (.ty "str"))) aNil))) (eBin qEq (eV 0) (eV 1)))) sNext) (sSeq (sIf (dAnd (eTru (eCB qIsi (aCons (eV 1) (aCons (eC (.raw (.ty "int"))) aNil)))) (dNot (eTru (eCB qIsi (aCons (eV 1) (aCons (eC (.raw (.ty "bool"))) aNil)))))) (sRet (eAnd (eCB qIsi (aCons (eV 0) (aCons (eC (.raw (.ty "int"))) aNil))) (eAnd (eNot (eCB qIsi (aCons (eV 0) (aCons (eC (.raw (.ty "bool"))) aNil)))) (eBin qEq (eV 0) (eV 1))))) sNext) (sRet (eAnd (eBin qEq (eCB qIsi (aCons (eV 0) (aCons (eC (.raw (.ty "bool"))) aNil))) (eCB qIsi (aCons (eV 1) (aCons (eC (.raw (.ty "bool"))) aNil)))) (eAnd (eBin qEq (eV 0) (eV 1)) (eBin qEq (eBin qIs (eV 0) (eC .non)) (eBin qIs (eV 1) (eC .non)))))))))
theorem d_law_alike_1 (T : Txt K mg) (G_law_alike_0 : Good P w K mg base 2 (He.ga K "_law_alike") ["told", "due"] (sp_law_alike_0 K)) : ∀ (cdv : Value) (A : Around) (outer : List Env) (s : Shared) (H : Hp) (E : XK) (B : Bs), Room 4 (A.deeper (envOfC "_law_alike" (defScope s_law_alike_1) s.heap.objs.size (He.ga K "_law_alike") cdv)) → PSs (cx0 P w K mg base N_law_alike_1 "_law_alike" (defScope s_law_alike_1) (He.ga K "_law_alike") cdv A outer s H E) (defBody s_law_alike_1) (lS K B (t_law_alike_1 K)) := by
  intro cdv A outer s H E B hr
  exact (dss_cons (ds_if (dt_tru (de_callB call_isiS cd_isi2 rfl T.n_isinstance bt_isinstance (da_cons (dv 1) (da_cons (de_tup (da_cons (de_ty rfl T.n_list bt_list) (da_cons (de_ty rfl T.n_tuple bt_tuple) da_nil))) da_nil)))) (dss_cons (ds_if (PW.pt (dw_or (dt_cmp (op_neD hr.units) od_ne (de_callB call_isi cd_isi rfl T.n_isinstance bt_isinstance (da_cons (dv 0) (da_cons (de_ty rfl T.n_list bt_list) da_nil))) (de_callB call_isi cd_isi rfl T.n_isinstance bt_isinstance (da_cons (dv 1) (da_cons (de_ty rfl T.n_list bt_list) da_nil))) (nomark _)) (dw_or1 (dt_cmp (op_neD hr.units) od_ne (de_callB call_isi cd_isi rfl T.n_isinstance bt_isinstance (da_cons (dv 0) (da_cons (de_ty rfl T.n_tuple bt_tuple) da_nil))) (de_callB call_isi cd_isi rfl T.n_isinstance bt_isinstance (da_cons (dv 1) (da_cons (de_ty rfl T.n_tuple bt_tuple) da_nil))) (nomark _))))) (dss_one (ds_ret de_bl)) dss_nil) (dss_cons (ds_if (dt_cmp (op_neD hr.units) od_ne (de_callB call_lenA cd_len rfl T.n_len bt_len (da_cons (dv 0) da_nil)) (de_callB call_lenA cd_len rfl T.n_len bt_len (da_cons (dv 1) da_nil)) (nomark _)) (dss_one (ds_ret de_bl)) dss_nil) (dss_cons (ds_for (tg := (.one 2)) PassesOwn.never rfl (di_range1 rfl T.n_range (da_cons (de_callB call_lenA cd_len rfl T.n_len bt_len (da_cons (dv 1) da_nil)) da_nil)) (pg_name (i := 2) sc_law_alike_1.nd rfl (Or.inl rfl)) (dss_one (ds_if (dt_not (dt_tru (de_callG G_law_alike_0 (hr.mono (by decide)) T.g_law_alike (da_cons (de_ix (dv 0) (dv 2) (fun _ _ => rfl)) (da_cons (de_ix (dv 1) (dv 2) (fun _ _ => rfl)) da_nil))))) (dss_one (ds_ret de_bl)) dss_nil))) (dss_one (ds_ret de_bl))))) dss_nil) (dss_cons (ds_if (dt_tru (de_callB call_isi cd_isi rfl T.n_isinstance bt_isinstance (da_cons (dv 1) (da_cons (de_ty rfl T.n_str bt_str) da_nil)))) (dss_one (ds_ret (de_and (de_callB call_isi cd_isi rfl T.n_isinstance bt_isinstance (da_cons (dv 0) (da_cons (de_ty rfl T.n_str bt_str) da_nil))) (de_one (de_cmp (op_eqD hr.units) od_eq (dv 0) (dv 1) (nomark _)))))) dss_nil) (dss_cons (ds_if (PW.pt (dw_and (dt_tru (de_callB call_isi cd_isi rfl T.n_isinstance bt_isinstance (da_cons (dv 1) (da_cons (de_ty rfl T.n_int bt_int) da_nil)))) (dw_and1 (dt_not (dt_tru (de_callB call_isi cd_isi rfl T.n_isinstance bt_isinstance (da_cons (dv 1) (da_cons (de_ty rfl T.n_bool bt_bool) da_nil)))))))) (dss_one (ds_ret (de_and (de_callB call_isi cd_isi rfl T.n_isinstance bt_isinstance (da_cons (dv 0) (da_cons (de_ty rfl T.n_int bt_int) da_nil))) (de_and (de_not (de_callB call_isi cd_isi rfl T.n_isinstance bt_isinstance (da_cons (dv 0) (da_cons (de_ty rfl T.n_bool bt_bool) da_nil)))) (de_one (de_cmp (op_eqD hr.units) od_eq (dv 0) (dv 1) (nomark _))))))) dss_nil) (dss_one (ds_ret (de_and (de_cmp (op_eqD hr.units) od_eq (de_callB call_isi cd_isi rfl T.n_isinstance bt_isinstance (da_cons (dv 0) (da_cons (de_ty rfl T.n_bool bt_bool) da_nil))) (de_callB call_isi cd_isi rfl T.n_isinstance bt_isinstance (da_cons (dv 1) (da_cons (de_ty rfl T.n_bool bt_bool) da_nil))) (nomark _)) (de_and (de_cmp (op_eqD hr.units) od_eq (dv 0) (dv 1) (nomark _)) (de_one (de_cmp (op_eqD hr.units) od_eq (de_cmp op_isA od_is (dv 0) de_non (nomark _)) (de_cmp op_isA od_is (dv 1) de_non (nomark _)) (nomark _))))))))))
def t_law_alike_2 (K : PySem.W.Frag) : DS := (sSeq (sIf (eTru (eCB qIsi2 (aCons (eV 1) (aCons (eTup (aCons (eC (.raw (.ty "list"))) (aCons (eC (.raw (.ty "tuple"))) aNil))) aNil)))) (sSeq (sIf (dOr (eTest (eBin qNe (eCB qIsi (aCons (eV 0) (aCons (eC (.raw (.ty "list"))) aNil))) (eCB qIsi (aCons (eV 1) (aCons (eC (.raw (.ty "list"))) aNil))))) (eTest (eBin qNe (eCB qIsi (aCons (eV 0) (aCons (eC (.raw (.ty "tuple"))) aNil))) (eCB qIsi (aCons (eV 1) (aCons (eC (.raw (.ty "tuple"))) aNil)))))) (sRet (eC (.bl false))) sNext) (sSeq (sIf (eTest (eBin qNe (eCB qLen (aCons (eV 0) aNil)) (eCB qLen (aCons (eV 1) aNil)))) (sRet (eC (.bl false))) sNext) (sSeq (sFor (iR1 (aCons (eCB qLen (aCons (eV 1) aNil)) aNil)) (.one 2) (sIf (dNot (eTru (eCall (sp_law_alike_1 K) (aCons (eBin qIx (eV 0) (eV 2)) (aCons (eBin qIx (eV 1) (eV 2)) aNil))))) (sRet (eC (.bl false))) sNext)) (sRet (eC (.bl true)))))) sNext) (sSeq (sIf (eTru (eCB qIsi (aCons (eV 1) (aCons (eC (.raw (.ty "str"))) aNil)))) (sRet (eAnd (eCB qIsi (aCons (eV 0) (aCons (eC (.raw (.ty "str"))) aNil))) (eBin qEq (eV 0) (eV 1)))) sNext) (sSeq (sIf (dAnd (eTru (eCB qIsi (aCons (eV 1) (aCons (eC (.raw (.ty "int"))) aNil)))) (dNot (eTru (eCB qIsi (aCons (eV 1) (aCons (eC (.raw (.ty "bool"))) aNil)))))) (sRet (eAnd (eCB qIsi (aCons (eV 0) (aCons (eC (.raw (.ty "int"))) aNil))) (eAnd (eNot (eCB qIsi (aCons (eV 0) (aCons (eC (.raw (.ty "bool"))) aNil)))) (eBin qEq (eV 0) (eV 1))))) sNext) (sRet (eAnd (eBin qEq (eCB qIsi (aCons (eV 0) (aCons (eC (.raw (.ty "bool"))) aNil))) (eCB qIsi (aCons (eV 1) (aCons (eC (.raw (.ty "bool"))) aNil)))) (eAnd (eBin qEq (eV 0) (eV 1)) (eBin qEq (eBin qIs (eV 0) (eC .non)) (eBin qIs (eV 1) (eC .non)))))))))
theorem d_law_alike_2 (T : Txt K mg) (G_law_alike_1 : Good P w K mg base 5 (He.ga K "_law_alike") ["told", "due"] (sp_law_alike_1 K)) : ∀ (cdv : Value) (A : Around) (outer : List Env) (s : Shared) (H : Hp) (E : XK) (B : Bs), Room 7 (A.deeper (envOfC "_law_alike" (defScope s_law_alike_2) s.heap.objs.size (He.ga K "_law_alike") cdv)) → PSs (cx0 P w K mg base N_law_alike_2 "_law_alike" (defScope s_law_alike_2) (He.ga K "_law_alike") cdv A outer s H E) (defBody s_law_alike_2) (lS K B (t_law_alike_2 K)) := by
  intro cdv A outer s H E B hr
  exact (dss_cons (ds_if (dt_tru (de_callB call_isiS cd_isi2 rfl T.n_isinstance bt_isinstance (da_cons (dv 1) (da_cons (de_tup (da_cons (de_ty rfl T.n_list bt_list) (da_cons (de_ty rfl T.n_tuple bt_tuple) da_nil))) da_nil)))) (dss_cons (ds_if (PW.pt (dw_or (dt_cmp (op_neD hr.units) od_ne (de_callB call_isi cd_isi rfl T.n_isinstance bt_isinstance (da_cons (dv 0) (da_cons (de_ty rfl T.n_list bt_list) da_nil))) (de_callB call_isi cd_isi rfl T.n_isinstance bt_isinstance (da_cons (dv 1) (da_cons (de_ty rfl T.n_list bt_list) da_nil))) (nomark _)) (dw_or1 (dt_cmp (op_neD hr.units) od_ne (de_callB call_isi cd_isi rfl T.n_isinstance bt_isinstance (da_cons (dv 0) (da_cons (de_ty rfl T.n_tuple bt_tuple) da_nil))) (de_callB call_isi cd_isi rfl T.n_isinstance bt_isinstance (da_cons (dv 1) (da_cons (de_ty rfl T.n_tuple bt_tuple) da_nil))) (nomark _))))) (dss_one (ds_ret de_bl)) dss_nil) (dss_cons (ds_if (dt_cmp (op_neD hr.units) od_ne (de_callB call_lenA cd_len rfl T.n_len bt_len (da_cons (dv 0) da_nil)) (de_callB call_lenA cd_len rfl T.n_len bt_len (da_cons (dv 1) da_nil)) (nomark _)) (dss_one (ds_ret de_bl)) dss_nil) (dss_cons (ds_for (tg := (.one 2)) PassesOwn.never rfl (di_range1 rfl T.n_range (da_cons (de_callB call_lenA cd_len rfl T.n_len bt_len (da_cons (dv 1) da_nil)) da_nil)) (pg_name (i := 2) sc_law_alike_2.nd rfl (Or.inl rfl)) (dss_one (ds_if (dt_not (dt_tru (de_callG G_law_alike_1 (hr.mono (by decide)) T.g_law_alike (da_cons (de_ix (dv 0) (dv 2) (fun _ _ => rfl)) (da_cons (de_ix (dv 1) (dv 2) (fun _ _ => rfl)) da_nil))))) (dss_one (ds_ret de_bl)) dss_nil))) (dss_one (ds_ret de_bl))))) dss_nil) (dss_cons (ds_if (dt_tru (de_callB call_isi cd_isi rfl T.n_isinstance bt_isinstance (da_cons (dv 1) (da_cons (de_ty rfl T.n_str bt_str) da_nil)))) (dss_one (ds_ret (de_and (de_callB call_isi cd_isi rfl T.n_isinstance bt_isinstance (da_cons (dv 0) (da_cons (de_ty rfl T.n_str bt_str) da_nil))) (de_one (de_cmp (op_eqD hr.units) od_eq (dv 0) (dv 1) (nomark _)))))) dss_nil) (dss_cons (ds_if (PW.pt (dw_and (dt_tru (de_callB call_isi cd_isi rfl T.n_isinstance bt_isinstance (da_cons (dv 1) (da_cons (de_ty rfl T.n_int bt_int) da_nil)))) (dw_and1 (dt_not (dt_tru (de_callB call_isi cd_isi rfl T.n_isinstance bt_isinstance (da_cons (dv 1) (da_cons (de_ty rfl T.n_bool bt_bool) da_nil)))))))) (dss_one (ds_ret (de_and (de_callB call_isi cd_isi rfl T.n_isinstance bt_isinstance (da_cons (dv 0) (da_cons (de_ty rfl T.n_int bt_int) da_nil))) (de_and (de_not (de_callB call_isi cd_isi rfl T.n_isinstance bt_isinstance (da_cons (dv 0) (da_cons (de_ty rfl T.n_bool bt_bool) da_nil)))) (de_one (de_cmp (op_eqD hr.units) od_eq (dv 0) (dv 1) (nomark _))))))) dss_nil) (dss_one (ds_ret (de_and (de_cmp (op_eqD hr.units) od_eq (de_callB call_isi cd_isi rfl T.n_isinstance bt_isinstance (da_cons (dv 0) (da_cons (de_ty rfl T.n_bool bt_bool) da_nil))) (de_callB call_isi cd_isi rfl T.n_isinstance bt_isinstance (da_cons (dv 1) (da_cons (de_ty rfl T.n_bool bt_bool) da_nil))) (nomark _)) (de_and (de_cmp (op_eqD hr.units) od_eq (dv 0) (dv 1) (nomark _)) (de_one (de_cmp (op_eqD hr.units) od_eq (de_cmp op_isA od_is (dv 0) de_non (nomark _)) (de_cmp op_isA od_is (dv 1) de_non (nomark _)) (nomark _))))))))))
def t_law_alike_3 (K : PySem.W.Frag) : DS := (sSeq (sIf (eTru (eCB qIsi2 (aCons (eV 1) (aCons (eTup (aCons (eC (.raw (.ty "list"))) (aCons (eC (.raw (.ty "tuple"))) aNil))) aNil)))) (sSeq (sIf (dOr (eTest (eBin qNe (eCB qIsi (aCons (eV 0) (aCons (eC (.raw (.ty "list"))) aNil))) (eCB qIsi (aCons (eV 1) (aCons (eC (.raw (.ty "list"))) aNil))))) (eTest (eBin qNe (eCB qIsi (aCons (eV 0) (aCons (eC (.raw (.ty "tuple"))) aNil))) (eCB qIsi (aCons (eV 1) (aCons (eC (.raw (.ty "tuple"))) aNil)))))) (sRet (eC (.bl false))) sNext) (sSeq (sIf (eTest (eBin qNe (eCB qLen (aCons (eV 0) aNil)) (eCB qLen (aCons (eV 1) aNil)))) (sRet (eC (.bl false))) sNext) (sSeq (sFor (iR1 (aCons (eCB qLen (aCons (eV 1) aNil)) aNil)) (.one 2) (sIf (dNot (eTru (eCall (sp_law_alike_2 K) (aCons (eBin qIx (eV 0) (eV 2)) (aCons (eBin qIx (eV 1) (eV 2)) aNil))))) (sRet (eC (.bl false))) sNext)) (sRet (eC (.bl true)))))) sNext) (sSeq (sIf (eTru (eCB qIsi (aCons (eV 1) (aCons (eC (.raw (.ty "str"))) aNil)))) (sRet (eAnd (eCB qIsi (aCons (eV 0) (aCons (eC (.raw (.ty "str"))) aNil))) (eBin qEq (eV 0) (eV 1)))) sNext) (sSeq (sIf (dAnd (eTru (eCB qIsi (aCons (eV 1) (aCons (eC (.raw (.ty "int"))) aNil)))) (dNot (eTru (eCB qIsi (aCons (eV 1) (aCons (eC (.raw (.ty "bool"))) aNil)))))) (sRet (eAnd (eCB qIsi (aCons (eV 0) (aCons (eC (.raw (.ty "int"))) aNil))) (eAnd (eNot (eCB qIsi (aCons (eV 0) (aCons (eC (.raw (.ty "bool"))) aNil)))) (eBin qEq (eV 0) (eV 1))))) sNext) (sRet (eAnd (eBin qEq (eCB qIsi (aCons (eV 0) (aCons (eC (.raw (.ty "bool"))) aNil))) (eCB qIsi (aCons (eV 1) (aCons (eC (.raw (.ty "bool"))) aNil)))) (eAnd (eBin qEq (eV 0) (eV 1)) (eBin qEq (eBin qIs (eV 0) (eC .non)) (eBin qIs (eV 1) (eC .non)))))))))
theorem d_law_alike_3 (T : Txt K mg) (G_law_alike_2 : Good P w K mg base 8 (He.ga K "_law_alike") ["told", "due"] (sp_law_alike_2 K)) : ∀ (cdv : Value) (A : Around) (outer : List Env) (s : Shared) (H : Hp) (E : XK) (B : Bs), Room 10 (A.deeper (envOfC "_law_alike" (defScope s_law_alike_3) s.heap.objs.size (He.ga K "_law_alike") cdv)) → PSs (cx0 P w K mg base N_law_alike_3 "_law_alike" (defScope s_law_alike_3) (He.ga K "_law_alike") cdv A outer s H E) (defBody s_law_alike_3) (lS K B (t_law_alike_3 K)) := by
  intro cdv A outer s H E B hr
  exact (dss_cons (ds_if (dt_tru (de_callB call_isiS cd_isi2 rfl T.n_isinstance bt_isinstance (da_cons (dv 1) (da_cons (de_tup (da_cons (de_ty rfl T.n_list bt_list) (da_cons (de_ty rfl T.n_tuple bt_tuple) da_nil))) da_nil)))) (dss_cons (ds_if (PW.pt (dw_or (dt_cmp (op_neD hr.units) od_ne (de_callB call_isi cd_isi rfl T.n_isinstance bt_isinstance (da_cons (dv 0) (da_cons (de_ty rfl T.n_list bt_list) da_nil))) (de_callB call_isi cd_isi rfl T.n_isinstance bt_isinstance (da_cons (dv 1) (da_cons (de_ty rfl T.n_list bt_list) da_nil))) (nomark _)) (dw_or1 (dt_cmp (op_neD hr.units) od_ne (de_callB call_isi cd_isi rfl T.n_isinstance bt_isinstance (da_cons (dv 0) (da_cons (de_ty rfl T.n_tuple bt_tuple) da_nil))) (de_callB call_isi cd_isi rfl T.n_isinstance bt_isinstance (da_cons (dv 1) (da_cons (de_ty rfl T.n_tuple bt_tuple) da_nil))) (nomark _))))) (dss_one (ds_ret de_bl)) dss_nil) (dss_cons (ds_if (dt_cmp (op_neD hr.units) od_ne (de_callB call_lenA cd_len rfl T.n_len bt_len (da_cons (dv 0) da_nil)) (de_callB call_lenA cd_len rfl T.n_len bt_len (da_cons (dv 1) da_nil)) (nomark _)) (dss_one (ds_ret de_bl)) dss_nil) (dss_cons (ds_for (tg := (.one 2)) PassesOwn.never rfl (di_range1 rfl T.n_range (da_cons (de_callB call_lenA cd_len rfl T.n_len bt_len (da_cons (dv 1) da_nil)) da_nil)) (pg_name (i := 2) sc_law_alike_3.nd rfl (Or.inl rfl)) (dss_one (ds_if (dt_not (dt_tru (de_callG G_law_alike_2 (hr.mono (by decide)) T.g_law_alike (da_cons (de_ix (dv 0) (dv 2) (fun _ _ => rfl)) (da_cons (de_ix (dv 1) (dv 2) (fun _ _ => rfl)) da_nil))))) (dss_one (ds_ret de_bl)) dss_nil))) (dss_one (ds_ret de_bl))))) dss_nil) (dss_cons (ds_if (dt_tru (de_callB call_isi cd_isi rfl T.n_isinstance bt_isinstance (da_cons (dv 1) (da_cons (de_ty rfl T.n_str bt_str) da_nil)))) (dss_one (ds_ret (de_and (de_callB call_isi cd_isi rfl T.n_isinstance bt_isinstance (da_cons (dv 0) (da_cons (de_ty rfl T.n_str bt_str) da_nil))) (de_one (de_cmp (op_eqD hr.units) od_eq (dv 0) (dv 1) (nomark _)))))) dss_nil) (dss_cons (ds_if (PW.pt (dw_and (dt_tru (de_callB call_isi cd_isi rfl T.n_isinstance bt_isinstance (da_cons (dv 1) (da_cons (de_ty rfl T.n_int bt_int) da_nil)))) (dw_and1 (dt_not (dt_tru (de_callB call_isi cd_isi rfl T.n_isinstance bt_isinstance (da_cons (dv 1) (da_cons (de_ty rfl T.n_bool bt_bool) da_nil)))))))) (dss_one (ds_ret (de_and (de_callB call_isi cd_isi rfl T.n_isinstance bt_isinstance (da_cons (dv 0) (da_cons (de_ty rfl T.n_int bt_int) da_nil))) (de_and (de_not (de_callB call_isi cd_isi rfl T.n_isinstance bt_isinstance (da_cons (dv 0) (da_cons (de_ty rfl T.n_bool bt_bool) da_nil)))) (de_one (de_cmp (op_eqD hr.units) od_eq (dv 0) (dv 1) (nomark _))))))) dss_nil) (dss_one (ds_ret (de_and (de_cmp (op_eqD hr.units) od_eq (de_callB call_isi cd_isi rfl T.n_isinstance bt_isinstance (da_cons (dv 0) (da_cons (de_ty rfl T.n_bool bt_bool) da_nil))) (de_callB call_isi cd_isi rfl T.n_isinstance bt_isinstance (da_cons (dv 1) (da_cons (de_ty rfl T.n_bool bt_bool) da_nil))) (nomark _)) (de_and (de_cmp (op_eqD hr.units) od_eq (dv 0) (dv 1) (nomark _)) (de_one (de_cmp (op_eqD hr.units) od_eq (de_cmp op_isA od_is (dv 0) de_non (nomark _)) (de_cmp op_isA od_is (dv 1) de_non (nomark _)) (nomark _))))))))))
def t_law_alike_4 (K : PySem.W.Frag) : DS := (sSeq (sIf (eTru (eCB qIsi2 (aCons (eV 1) (aCons (eTup (aCons (eC (.raw (.ty "list"))) (aCons (eC (.raw (.ty "tuple"))) aNil))) aNil)))) (sSeq (sIf (dOr (eTest (eBin qNe (eCB qIsi (aCons (eV 0) (aCons (eC (.raw (.ty "list"))) aNil))) (eCB qIsi (aCons (eV 1) (aCons (eC (.raw (.ty "list"))) aNil))))) (eTest (eBin qNe (eCB qIsi (aCons (eV 0) (aCons (eC (.raw (.ty "tuple"))) aNil))) (eCB qIsi (aCons (eV 1) (aCons (eC (.raw (.ty "tuple"))) aNil)))))) (sRet (eC (.bl false))) sNext) (sSeq (sIf (eTest (eBin qNe (eCB qLen (aCons (eV 0) aNil)) (eCB qLen (aCons (eV 1) aNil)))) (sRet (eC (.bl false))) sNext) (sSeq (sFor (iR1 (aCons (eCB qLen (aCons (eV 1) aNil)) aNil)) (.one 2) (sIf (dNot (eTru (eCall (sp_law_alike_3 K) (aCons (eBin qIx (eV 0) (eV 2)) (aCons (eBin qIx (eV 1) (eV 2)) aNil))))) (sRet (eC (.bl false))) sNext)) (sRet (eC (.bl true)))))) sNext) (sSeq (sIf (eTru (eCB qIsi (aCons (eV 1) (aCons (eC (.raw (.ty "str"))) aNil)))) (sRet (eAnd (eCB qIsi (aCons (eV 0) (aCons (eC (.raw (.ty "str"))) aNil))) (eBin qEq (eV 0) (eV 1)))) sNext) (sSeq (sIf (dAnd (eTru (eCB qIsi (aCons (eV 1) (aCons (eC (.raw (.ty "int"))) aNil)))) (dNot (eTru (eCB qIsi (aCons (eV 1) (aCons (eC (.raw (.ty "bool"))) aNil)))))) (sRet (eAnd (eCB qIsi (aCons (eV 0) (aCons (eC (.raw (.ty "int"))) aNil))) (eAnd (eNot (eCB qIsi (aCons (eV 0) (aCons (eC (.raw (.ty "bool"))) aNil)))) (eBin qEq (eV 0) (eV 1))))) sNext) (sRet (eAnd (eBin qEq (eCB qIsi (aCons (eV 0) (aCons (eC (.raw (.ty "bool"))) aNil))) (eCB qIsi (aCons (eV 1) (aCons (eC (.raw (.ty "bool"))) aNil)))) (eAnd (eBin qEq (eV 0) (eV 1)) (eBin qEq (eBin qIs (eV 0) (eC .non)) (eBin qIs (eV 1) (eC .non)))))))))
theorem d_law_alike_4 (T : Txt K mg) (G_law_alike_3 : Good P w K mg base 11 (He.ga K "_law_alike") ["told", "due"] (sp_law_alike_3 K)) : ∀ (cdv : Value) (A : Around) (outer : List Env) (s : Shared) (H : Hp) (E : XK) (B : Bs), Room 13 (A.deeper (envOfC "_law_alike" (defScope s_law_alike_4) s.heap.objs.size (He.ga K "_law_alike") cdv)) → PSs (cx0 P w K mg base N_law_alike_4 "_law_alike" (defScope s_law_alike_4) (He.ga K "_law_alike") cdv A outer s H E) (defBody s_law_alike_4) (lS K B (t_law_alike_4 K)) := by
  intro cdv A outer s H E B hr
  exact (dss_cons (ds_if (dt_tru (de_callB call_isiS cd_isi2 rfl T.n_isinstance bt_isinstance (da_cons (dv 1) (da_cons (de_tup (da_cons (de_ty rfl T.n_list bt_list) (da_cons (de_ty rfl T.n_tuple bt_tuple) da_nil))) da_nil)))) (dss_cons (ds_if (PW.pt (dw_or (dt_cmp (op_neD hr.units) od_ne (de_callB call_isi cd_isi rfl T.n_isinstance bt_isinstance (da_cons (dv 0) (da_cons (de_ty rfl T.n_list bt_list) da_nil))) (de_callB call_isi cd_isi rfl T.n_isinstance bt_isinstance (da_cons (dv 1) (da_cons (de_ty rfl T.n_list bt_list) da_nil))) (nomark _)) (dw_or1 (dt_cmp (op_neD hr.units) od_ne (de_callB call_isi cd_isi rfl T.n_isinstance bt_isinstance (da_cons (dv 0) (da_cons (de_ty rfl T.n_tuple bt_tuple) da_nil))) (de_callB call_isi cd_isi rfl T.n_isinstance bt_isinstance (da_cons (dv 1) (da_cons (de_ty rfl T.n_tuple bt_tuple) da_nil))) (nomark _))))) (dss_one (ds_ret de_bl)) dss_nil) (dss_cons (ds_if (dt_cmp (op_neD hr.units) od_ne (de_callB call_lenA cd_len rfl T.n_len bt_len (da_cons (dv 0) da_nil)) (de_callB call_lenA cd_len rfl T.n_len bt_len (da_cons (dv 1) da_nil)) (nomark _)) (dss_one (ds_ret de_bl)) dss_nil) (dss_cons (ds_for (tg := (.one 2)) PassesOwn.never rfl (di_range1 rfl T.n_range (da_cons (de_callB call_lenA cd_len rfl T.n_len bt_len (da_cons (dv 1) da_nil)) da_nil)) (pg_name (i := 2) sc_law_alike_4.nd rfl (Or.inl rfl)) (dss_one (ds_if (dt_not (dt_tru (de_callG G_law_alike_3 (hr.mono (by decide)) T.g_law_alike (da_cons (de_ix (dv 0) (dv 2) (fun _ _ => rfl)) (da_cons (de_ix (dv 1) (dv 2) (fun _ _ => rfl)) da_nil))))) (dss_one (ds_ret de_bl)) dss_nil))) (dss_one (ds_ret de_bl))))) dss_nil) (dss_cons (ds_if (dt_tru (de_callB call_isi cd_isi rfl T.n_isinstance bt_isinstance (da_cons (dv 1) (da_cons (de_ty rfl T.n_str bt_str) da_nil)))) (dss_one (ds_ret (de_and (de_callB call_isi cd_isi rfl T.n_isinstance bt_isinstance (da_cons (dv 0) (da_cons (de_ty rfl T.n_str bt_str) da_nil))) (de_one (de_cmp (op_eqD hr.units) od_eq (dv 0) (dv 1) (nomark _)))))) dss_nil) (dss_cons (ds_if (PW.pt (dw_and (dt_tru (de_callB call_isi cd_isi rfl T.n_isinstance bt_isinstance (da_cons (dv 1) (da_cons (de_ty rfl T.n_int bt_int) da_nil)))) (dw_and1 (dt_not (dt_tru (de_callB call_isi cd_isi rfl T.n_isinstance bt_isinstance (da_cons (dv 1) (da_cons (de_ty rfl T.n_bool bt_bool) da_nil)))))))) (dss_one (ds_ret (de_and (de_callB call_isi cd_isi rfl T.n_isinstance bt_isinstance (da_cons (dv 0) (da_cons (de_ty rfl T.n_int bt_int) da_nil))) (de_and (de_not (de_callB call_isi cd_isi rfl T.n_isinstance bt_isinstance (da_cons (dv 0) (da_cons (de_ty rfl T.n_bool bt_bool) da_nil)))) (de_one (de_cmp (op_eqD hr.units) od_eq (dv 0) (dv 1) (nomark _))))))) dss_nil) (dss_one (ds_ret (de_and (de_cmp (op_eqD hr.units) od_eq (de_callB call_isi cd_isi rfl T.n_isinstance bt_isinstance (da_cons (dv 0) (da_cons (de_ty rfl T.n_bool bt_bool) da_nil))) (de_callB call_isi cd_isi rfl T.n_isinstance bt_isinstance (da_cons (dv 1) (da_cons (de_ty rfl T.n_bool bt_bool) da_nil))) (nomark _)) (de_and (de_cmp (op_eqD hr.units) od_eq (dv 0) (dv 1) (nomark _)) (de_one (de_cmp (op_eqD hr.units) od_eq (de_cmp op_isA od_is (dv 0) de_non (nomark _)) (de_cmp op_isA od_is (dv 1) de_non (nomark _)) (nomark _))))))))))
def t_check_lot (K : PySem.W.Frag) : DS := (sSeq (sIf (dNot (eTru (eCB qIsi (aCons (eV 0) (aCons (eC (.raw (.ty "list"))) aNil))))) sNever sNext) (sFor (iR1 (aCons (eCB qLen (aCons (eV 0) aNil)) aNil)) (.one 1) (sSeq (sAsg (eBin qIx (eV 0) (eV 1)) 2) (sSeq (sIf (dOr (dNot (eTru (eCB qIsi (aCons (eV 2) (aCons (eC (.raw (.ty "int"))) aNil))))) (dOr (eTru (eCB qIsi (aCons (eV 2) (aCons (eC (.raw (.ty "bool"))) aNil)))) (eTest (eBin qLt (eV 2) (eC (.int 2)))))) sNever sNext) (sIf (eTest (eBin (qIn false) (eV 2) (eSl false (eV 0) oNone (oSome (eV 1))))) sNever sNext)))))
theorem d_check_lot (T : Txt K mg) : ∀ (cdv : Value) (A : Around) (outer : List Env) (s : Shared) (H : Hp) (E : XK) (B : Bs), Room 1 (A.deeper (envOfC "check_lot" (defScope s_check_lot) s.heap.objs.size (He.ga K "check_lot") cdv)) → PSs (cx0 P w K mg base N_check_lot "check_lot" (defScope s_check_lot) (He.ga K "check_lot") cdv A outer s H E) (defBody s_check_lot) (lS K B (t_check_lot K)) := by
  intro cdv A outer s H E B hr
  exact (dss_cons (ds_if (dt_not (dt_tru (de_callB call_isi cd_isi rfl T.n_isinstance bt_isinstance (da_cons (dv 0) (da_cons (de_ty rfl T.n_list bt_list) da_nil))))) (dss_one ds_never) dss_nil) (dss_one (ds_for (tg := (.one 1)) PassesOwn.never rfl (di_range1 rfl T.n_range (da_cons (de_callB call_lenA cd_len rfl T.n_len bt_len (da_cons (dv 0) da_nil)) da_nil)) (pg_name (i := 1) sc_check_lot.nd rfl (Or.inl rfl)) (dss_cons (ds_set (i := 2) sc_check_lot.nd rfl (Or.inl rfl) (de_ix (dv 0) (dv 1) (fun _ _ => rfl))) (dss_cons (ds_if (PW.pt (dw_or (dt_not (dt_tru (de_callB call_isi cd_isi rfl T.n_isinstance bt_isinstance (da_cons (dv 2) (da_cons (de_ty rfl T.n_int bt_int) da_nil))))) (dw_or (dt_tru (de_callB call_isi cd_isi rfl T.n_isinstance bt_isinstance (da_cons (dv 2) (da_cons (de_ty rfl T.n_bool bt_bool) da_nil)))) (dw_or1 (dt_cmp op_lt od_lt (dv 2) de_int (nomark _)))))) (dss_one ds_never) dss_nil) (dss_one (ds_if (dt_cmp (op_inA (units5 hr)) od_in (dv 2) (de_slice (o := false) (dv 0) do_none (do_some (dv 1))) rfl) (dss_one ds_never) dss_nil)))))))
def t_Kind_base (K : PySem.W.Frag) : DS := (sRet (eFld (He.ga K "Kind") "held_base" (eV 0)))
theorem d_Kind_base (T : Txt K mg) : ∀ (cdv : Value) (A : Around) (outer : List Env) (s : Shared) (H : Hp) (E : XK) (B : Bs), Room 1 (A.deeper (envOfC "Kind.base" (defScope s_Kind_base) s.heap.objs.size (pga K (He.ga K "Kind") "base") cdv)) → PSs (cx0 P w K mg base N_Kind_base "Kind.base" (defScope s_Kind_base) (pga K (He.ga K "Kind") "base") cdv A outer s H E) (defBody s_Kind_base) (lS K B (t_Kind_base K)) := by
  intro cdv A outer s H E B hr
  exact (dss_one (ds_ret (de_fld T.c_Kind T.na_Kind_held_base (dv 0))))
def t_Sheet_base (K : PySem.W.Frag) : DS := (sRet (eFld (He.ga K "Sheet") "held_base" (eV 0)))
theorem d_Sheet_base (T : Txt K mg) : ∀ (cdv : Value) (A : Around) (outer : List Env) (s : Shared) (H : Hp) (E : XK) (B : Bs), Room 1 (A.deeper (envOfC "Sheet.base" (defScope s_Sheet_base) s.heap.objs.size (pga K (He.ga K "Sheet") "base") cdv)) → PSs (cx0 P w K mg base N_Sheet_base "Sheet.base" (defScope s_Sheet_base) (pga K (He.ga K "Sheet") "base") cdv A outer s H E) (defBody s_Sheet_base) (lS K B (t_Sheet_base K)) := by
  intro cdv A outer s H E B hr
  exact (dss_one (ds_ret (de_fld T.c_Sheet T.na_Sheet_held_base (dv 0))))
def t_Kind_rows (K : PySem.W.Frag) : DS := (sRet (eFld (He.ga K "Kind") "held_rows" (eV 0)))
theorem d_Kind_rows (T : Txt K mg) : ∀ (cdv : Value) (A : Around) (outer : List Env) (s : Shared) (H : Hp) (E : XK) (B : Bs), Room 1 (A.deeper (envOfC "Kind.rows" (defScope s_Kind_rows) s.heap.objs.size (pga K (He.ga K "Kind") "rows") cdv)) → PSs (cx0 P w K mg base N_Kind_rows "Kind.rows" (defScope s_Kind_rows) (pga K (He.ga K "Kind") "rows") cdv A outer s H E) (defBody s_Kind_rows) (lS K B (t_Kind_rows K)) := by
  intro cdv A outer s H E B hr
  exact (dss_one (ds_ret (de_fld T.c_Kind T.na_Kind_held_rows (dv 0))))
def t_Sheet_rows (K : PySem.W.Frag) : DS := (sRet (eFld (He.ga K "Sheet") "held_rows" (eV 0)))
theorem d_Sheet_rows (T : Txt K mg) : ∀ (cdv : Value) (A : Around) (outer : List Env) (s : Shared) (H : Hp) (E : XK) (B : Bs), Room 1 (A.deeper (envOfC "Sheet.rows" (defScope s_Sheet_rows) s.heap.objs.size (pga K (He.ga K "Sheet") "rows") cdv)) → PSs (cx0 P w K mg base N_Sheet_rows "Sheet.rows" (defScope s_Sheet_rows) (pga K (He.ga K "Sheet") "rows") cdv A outer s H E) (defBody s_Sheet_rows) (lS K B (t_Sheet_rows K)) := by
  intro cdv A outer s H E B hr
  exact (dss_one (ds_ret (de_fld T.c_Sheet T.na_Sheet_held_rows (dv 0))))
def t_check_alike (K : PySem.W.Frag) : DS := (sIf (dOr (eTest (eBin qNe (eProp (He.ga K "Kind") (sp_Kind_base K) (eV 0)) (eProp (He.ga K "Sheet") (sp_Sheet_base K) (eV 1)))) (eTest (eBin qNe (eProp (He.ga K "Kind") (sp_Kind_rows K) (eV 0)) (eProp (He.ga K "Sheet") (sp_Sheet_rows K) (eV 1))))) sNever sNext)
theorem d_check_alike (T : Txt K mg) (G_Kind_base : Good P w K mg base 2 (pga K (He.ga K "Kind") "base") ["self"] (sp_Kind_base K)) (G_Sheet_base : Good P w K mg base 2 (pga K (He.ga K "Sheet") "base") ["self"] (sp_Sheet_base K)) (G_Kind_rows : Good P w K mg base 2 (pga K (He.ga K "Kind") "rows") ["self"] (sp_Kind_rows K)) (G_Sheet_rows : Good P w K mg base 2 (pga K (He.ga K "Sheet") "rows") ["self"] (sp_Sheet_rows K)) : ∀ (cdv : Value) (A : Around) (outer : List Env) (s : Shared) (H : Hp) (E : XK) (B : Bs), Room 4 (A.deeper (envOfC "check_alike" (defScope s_check_alike) s.heap.objs.size (He.ga K "check_alike") cdv)) → PSs (cx0 P w K mg base N_check_alike "check_alike" (defScope s_check_alike) (He.ga K "check_alike") cdv A outer s H E) (defBody s_check_alike) (lS K B (t_check_alike K)) := by
  intro cdv A outer s H E B hr
  exact (dss_one (ds_if (PW.pt (dw_or (dt_cmp (op_neD hr.units) od_ne (de_propG G_Kind_base (hr.mono (by decide)) T.c_Kind T.p_Kind_base (dv 0)) (de_propG G_Sheet_base (hr.mono (by decide)) T.c_Sheet T.p_Sheet_base (dv 1)) (nomark _)) (dw_or1 (dt_cmp (op_neD hr.units) od_ne (de_propG G_Kind_rows (hr.mono (by decide)) T.c_Kind T.p_Kind_rows (dv 0)) (de_propG G_Sheet_rows (hr.mono (by decide)) T.c_Sheet T.p_Sheet_rows (dv 1)) (nomark _))))) (dss_one ds_never) dss_nil))
def t_Kind_most (K : PySem.W.Frag) : DS := (sRet (eFld (He.ga K "Kind") "held_most" (eV 0)))
theorem d_Kind_most (T : Txt K mg) : ∀ (cdv : Value) (A : Around) (outer : List Env) (s : Shared) (H : Hp) (E : XK) (B : Bs), Room 1 (A.deeper (envOfC "Kind.most" (defScope s_Kind_most) s.heap.objs.size (pga K (He.ga K "Kind") "most") cdv)) → PSs (cx0 P w K mg base N_Kind_most "Kind.most" (defScope s_Kind_most) (pga K (He.ga K "Kind") "most") cdv A outer s H E) (defBody s_Kind_most) (lS K B (t_Kind_most K)) := by
  intro cdv A outer s H E B hr
  exact (dss_one (ds_ret (de_fld T.c_Kind T.na_Kind_held_most (dv 0))))
def t_Sheet_len (K : PySem.W.Frag) : DS := (sRet (eCB qLen (aCons (eFld (He.ga K "Sheet") "held_columns" (eV 0)) aNil)))
theorem d_Sheet_len (T : Txt K mg) : ∀ (cdv : Value) (A : Around) (outer : List Env) (s : Shared) (H : Hp) (E : XK) (B : Bs), Room 1 (A.deeper (envOfC "Sheet.__len__" (defScope s_Sheet_len) s.heap.objs.size (He.ma K (He.ga K "Sheet") "__len__") cdv)) → PSs (cx0 P w K mg base N_Sheet_len "Sheet.__len__" (defScope s_Sheet_len) (He.ma K (He.ga K "Sheet") "__len__") cdv A outer s H E) (defBody s_Sheet_len) (lS K B (t_Sheet_len K)) := by
  intro cdv A outer s H E B hr
  exact (dss_one (ds_ret (de_callB call_lenA cd_len rfl T.n_len bt_len (da_cons (de_fld T.c_Sheet T.na_Sheet_held_columns (dv 0)) da_nil))))
def t_Kind_deeds (K : PySem.W.Frag) : DS := (sRet (eCB (qList true) (aCons (eFld (He.ga K "Kind") "held_deeds" (eV 0)) aNil)))
theorem d_Kind_deeds (T : Txt K mg) : ∀ (cdv : Value) (A : Around) (outer : List Env) (s : Shared) (H : Hp) (E : XK) (B : Bs), Room 1 (A.deeper (envOfC "Kind.deeds" (defScope s_Kind_deeds) s.heap.objs.size (pga K (He.ga K "Kind") "deeds") cdv)) → PSs (cx0 P w K mg base N_Kind_deeds "Kind.deeds" (defScope s_Kind_deeds) (pga K (He.ga K "Kind") "deeds") cdv A outer s H E) (defBody s_Kind_deeds) (lS K B (t_Kind_deeds K)) := by
  intro cdv A outer s H E B hr
  exact (dss_one (ds_ret (de_callTy call_listA (cd_list (o := true)) rfl T.n_list bt_list (da_cons (de_fld T.c_Kind T.na_Kind_held_deeds (dv 0)) da_nil))))
def t_further_slips (K : PySem.W.Frag) : DS := (sSeq (sIf (eTest (eBin qEq (eCB qLen (aCons (eV 2) aNil)) (eProp (He.ga K "Kind") (sp_Kind_most K) (eV 0)))) (sRet (eLst false aNil)) sNext) (sSeq (sAsg (eC (.int 0)) 3) (sSeq (sIf (eTru (eV 2)) (sAsg (eBin (qAdd false) (eBin qIx (eBin qIx (eV 2) (eNeg (eC (.int 1)))) (eC (.int 0))) (eC (.int 1))) 3) sNext) (sRet (eLc2 false (iR2 (aCons (eV 3) (aCons (eCB (qLenO (He.ga K "Sheet") (sp_Sheet_len K)) (aCons (eV 1) aNil)) aNil))) (.one 4) dYes (iS (eProp (He.ga K "Kind") (sp_Kind_deeds K) (eV 0))) (.one 5) dYes (eLst false (aStar (eV 2) (aCons (eTup (aCons (eV 4) (aCons (eV 5) aNil))) aNil))) [4, 5] [5])))))
theorem d_further_slips (T : Txt K mg) (G_Kind_most : Good P w K mg base 2 (pga K (He.ga K "Kind") "most") ["self"] (sp_Kind_most K)) (G_Sheet_len : Good P w K mg base 2 (He.ma K (He.ga K "Sheet") "__len__") ["self"] (sp_Sheet_len K)) (G_Kind_deeds : Good P w K mg base 2 (pga K (He.ga K "Kind") "deeds") ["self"] (sp_Kind_deeds K)) : ∀ (cdv : Value) (A : Around) (outer : List Env) (s : Shared) (H : Hp) (E : XK) (B : Bs), Room 4 (A.deeper (envOfC "further_slips" (defScope s_further_slips) s.heap.objs.size (He.ga K "further_slips") cdv)) → PSs (cx0 P w K mg base N_further_slips "further_slips" (defScope s_further_slips) (He.ga K "further_slips") cdv A outer s H E) (defBody s_further_slips) (lS K B (t_further_slips K)) := by
  intro cdv A outer s H E B hr
  exact (dss_cons (ds_if (dt_cmp (op_eqD hr.units) od_eq (de_callB call_lenA cd_len rfl T.n_len bt_len (da_cons (dv 2) da_nil)) (de_propG G_Kind_most (hr.mono (by decide)) T.c_Kind T.p_Kind_most (dv 0)) (nomark _)) (dss_one (ds_ret (de_lst (o := false) da_nil))) dss_nil) (dss_cons (ds_set (i := 3) sc_further_slips.nd rfl (Or.inl rfl) de_int) (dss_cons (ds_if (dt_tru (dv 2)) (dss_one (ds_set (i := 3) sc_further_slips.nd rfl (Or.inl rfl) (de_bin op_addA (od_add (o := false)) (de_ix (de_ix (dv 2) (de_neg de_int) (fun _ _ => rfl)) de_int (fun _ _ => rfl)) de_int))) dss_nil) (dss_one (ds_ret (de_lc2 (o := false) (own := [("column", 4), ("deed", 5)]) (tg := (.one 4)) (tg1 := (.one 5)) (vs1 := [5]) rfl sc_further_slips.nd (di_range2 rfl T.n_range (da_cons (dv 3) (da_cons (de_callB (call_lenO G_Sheet_len (hr.mono (by decide)) T.sm_Sheet_len) cd_lenO rfl T.n_len bt_len (da_cons (dv 1) da_nil)) da_nil))) (blkOk_by (own := [("column", 4), ("deed", 5)]) (N := N_further_slips) (sc := defScope s_further_slips) (by decide +kernel)) (by decide) (by decide) (by decide) (fun _ _ _ _ _ => (pg_name (i := 4) sc_further_slips.nd rfl (Or.inl rfl))) (fun _ _ _ _ _ => dts_nil) (fun _ _ _ _ _ => (di_any (de_propG G_Kind_deeds (hr.mono (by decide)) T.c_Kind T.p_Kind_deeds (dv 0)))) (fun _ _ _ _ _ => (pg_name (i := 5) sc_further_slips.nd rfl (Or.inl rfl))) (fun _ _ _ _ _ => dts_nil) (fun _ _ _ _ _ => (de_lst (o := false) (da_star (dv 2) (da_cons (de_tup (da_cons (dv 4) (da_cons (dv 5) da_nil))) da_nil))))))))))
def t_Sheet_columns (K : PySem.W.Frag) : DS := (sRet (eCB (qList true) (aCons (eFld (He.ga K "Sheet") "held_columns" (eV 0)) aNil)))
theorem d_Sheet_columns (T : Txt K mg) : ∀ (cdv : Value) (A : Around) (outer : List Env) (s : Shared) (H : Hp) (E : XK) (B : Bs), Room 1 (A.deeper (envOfC "Sheet.columns" (defScope s_Sheet_columns) s.heap.objs.size (pga K (He.ga K "Sheet") "columns") cdv)) → PSs (cx0 P w K mg base N_Sheet_columns "Sheet.columns" (defScope s_Sheet_columns) (pga K (He.ga K "Sheet") "columns") cdv A outer s H E) (defBody s_Sheet_columns) (lS K B (t_Sheet_columns K)) := by
  intro cdv A outer s H E B hr
  exact (dss_one (ds_ret (de_callTy call_listA (cd_list (o := true)) rfl T.n_list bt_list (da_cons (de_fld T.c_Sheet T.na_Sheet_held_columns (dv 0)) da_nil))))
def t_Adding_init (K : PySem.W.Frag) : DS := (sSeq (sFldD (He.ga K "Adding") "system" (eV 0) (eProp (He.ga K "Sheet") (sp_Sheet_base K) (eV 1))) (sSeq (sFldD (He.ga K "Adding") "given" (eV 0) (eProp (He.ga K "Sheet") (sp_Sheet_columns K) (eV 1))) (sSeq (sFldD (He.ga K "Adding") "at" (eV 0) (eC (.int 0))) (sSeq (sFldD (He.ga K "Adding") "written" (eV 0) (eLst false aNil)) (sSeq (sFldD (He.ga K "Adding") "carry" (eV 0) (eC (.int 0))) (sFldD (He.ga K "Adding") "waiting" (eV 0) (eC .non)))))))
theorem d_Adding_init (T : Txt K mg) (G_Sheet_base : Good P w K mg base 2 (pga K (He.ga K "Sheet") "base") ["self"] (sp_Sheet_base K)) (G_Sheet_columns : Good P w K mg base 2 (pga K (He.ga K "Sheet") "columns") ["self"] (sp_Sheet_columns K)) : ∀ (cdv : Value) (A : Around) (outer : List Env) (s : Shared) (H : Hp) (E : XK) (B : Bs), Room 4 (A.deeper (envOfC "Adding.__init__" (defScope s_Adding_init) s.heap.objs.size (He.ma K (He.ga K "Adding") "__init__") cdv)) → PSs (cx0 P w K mg base N_Adding_init "Adding.__init__" (defScope s_Adding_init) (He.ma K (He.ga K "Adding") "__init__") cdv A outer s H E) (defBody s_Adding_init) (lS K B (t_Adding_init K)) := by
  intro cdv A outer s H E B hr
  exact (dss_cons (ds_fld T.c_Adding T.na_Adding_system (dv 0) (de_propG G_Sheet_base (hr.mono (by decide)) T.c_Sheet T.p_Sheet_base (dv 1))) (dss_cons (ds_fld T.c_Adding T.na_Adding_given (dv 0) (de_propG G_Sheet_columns (hr.mono (by decide)) T.c_Sheet T.p_Sheet_columns (dv 1))) (dss_cons (ds_fld T.c_Adding T.na_Adding_at (dv 0) de_int) (dss_cons (ds_fld T.c_Adding T.na_Adding_written (dv 0) (de_lst (o := false) da_nil)) (dss_cons (ds_fld T.c_Adding T.na_Adding_carry (dv 0) de_int) (dss_one (ds_fld T.c_Adding T.na_Adding_waiting (dv 0) de_non)))))))
def t_is_slip (K : PySem.W.Frag) : DS := (sSeq (sIf (dOr (dNot (eTru (eCB qIsi (aCons (eV 0) (aCons (eC (.raw (.ty "tuple"))) aNil))))) (dOr (eTest (eBin qNe (eCB qLen (aCons (eV 0) aNil)) (eC (.int 2)))) (dNot (eTru (eCall (sp_is_integer K) (aCons (eBin qIx (eV 0) (eC (.int 0))) aNil)))))) (sRet (eC (.bl false))) sNext) (sRet (eAnd (eChain qLe qLt (eV 2) (eBin qIx (eV 0) (eC (.int 0))) (eCB (qLenO (He.ga K "Sheet") (sp_Sheet_len K)) (aCons (eV 1) aNil))) (eCall (sp_is_deed K) (aCons (eBin qIx (eV 0) (eC (.int 1))) (aCons (eProp (He.ga K "Sheet") (sp_Sheet_base K) (eV 1)) (aCons (eProp (He.ga K "Sheet") (sp_Sheet_rows K) (eV 1)) aNil)))))))
theorem d_is_slip (T : Txt K mg) (G_is_integer : Good P w K mg base 2 (He.ga K "is_integer") ["value"] (sp_is_integer K)) (G_Sheet_len : Good P w K mg base 2 (He.ma K (He.ga K "Sheet") "__len__") ["self"] (sp_Sheet_len K)) (G_is_deed : Good P w K mg base 5 (He.ga K "is_deed") ["value", "base", "rows"] (sp_is_deed K)) (G_Sheet_rows : Good P w K mg base 2 (pga K (He.ga K "Sheet") "rows") ["self"] (sp_Sheet_rows K)) (G_Sheet_base : Good P w K mg base 2 (pga K (He.ga K "Sheet") "base") ["self"] (sp_Sheet_base K)) : ∀ (cdv : Value) (A : Around) (outer : List Env) (s : Shared) (H : Hp) (E : XK) (B : Bs), Room 7 (A.deeper (envOfC "is_slip" (defScope s_is_slip) s.heap.objs.size (He.ga K "is_slip") cdv)) → PSs (cx0 P w K mg base N_is_slip "is_slip" (defScope s_is_slip) (He.ga K "is_slip") cdv A outer s H E) (defBody s_is_slip) (lS K B (t_is_slip K)) := by
  intro cdv A outer s H E B hr
  exact (dss_cons (ds_if (PW.pt (dw_or (dt_not (dt_tru (de_callB call_isi cd_isi rfl T.n_isinstance bt_isinstance (da_cons (dv 0) (da_cons (de_ty rfl T.n_tuple bt_tuple) da_nil))))) (dw_or (dt_cmp (op_neD hr.units) od_ne (de_callB call_lenA cd_len rfl T.n_len bt_len (da_cons (dv 0) da_nil)) de_int (nomark _)) (dw_or1 (dt_not (dt_tru (de_callG G_is_integer (hr.mono (by decide)) T.g_is_integer (da_cons (de_ix (dv 0) de_int (fun _ _ => rfl)) da_nil)))))))) (dss_one (ds_ret de_bl)) dss_nil) (dss_one (ds_ret (de_and (de_chain op_le op_lt od_le od_lt (dv 2) (de_ix (dv 0) de_int (fun _ _ => rfl)) (de_callB (call_lenO G_Sheet_len (hr.mono (by decide)) T.sm_Sheet_len) cd_lenO rfl T.n_len bt_len (da_cons (dv 1) da_nil))) (de_one (de_callG G_is_deed (hr.mono (by decide)) T.g_is_deed (da_cons (de_ix (dv 0) de_int (fun _ _ => rfl)) (da_cons (de_propG G_Sheet_base (hr.mono (by decide)) T.c_Sheet T.p_Sheet_base (dv 1)) (da_cons (de_propG G_Sheet_rows (hr.mono (by decide)) T.c_Sheet T.p_Sheet_rows (dv 1)) da_nil)))))))))
def t_Adding_free (K : PySem.W.Frag) : DS := (sSeq (sIf (eTest (eBin qIs (eFld (He.ga K "Adding") "waiting" (eV 0)) (eC .non))) (sRet (eFld (He.ga K "Adding") "at" (eV 0))) sNext) (sRet (eBin (qAdd false) (eFld (He.ga K "Adding") "at" (eV 0)) (eC (.int 1)))))
theorem d_Adding_free (T : Txt K mg) : ∀ (cdv : Value) (A : Around) (outer : List Env) (s : Shared) (H : Hp) (E : XK) (B : Bs), Room 1 (A.deeper (envOfC "Adding.free" (defScope s_Adding_free) s.heap.objs.size (He.ma K (He.ga K "Adding") "free") cdv)) → PSs (cx0 P w K mg base N_Adding_free "Adding.free" (defScope s_Adding_free) (He.ma K (He.ga K "Adding") "free") cdv A outer s H E) (defBody s_Adding_free) (lS K B (t_Adding_free K)) := by
  intro cdv A outer s H E B hr
  exact (dss_cons (ds_if (dt_cmp op_isA od_is (de_fld T.c_Adding T.na_Adding_waiting (dv 0)) de_non (nomark _)) (dss_one (ds_ret (de_fld T.c_Adding T.na_Adding_at (dv 0)))) dss_nil) (dss_one (ds_ret (de_bin op_addA (od_add (o := false)) (de_fld T.c_Adding T.na_Adding_at (dv 0)) de_int))))
theorem d_InvalidSlips_init : ∀ (cdv : Value) (A : Around) (outer : List Env) (s : Shared) (H : Hp) (E : XK), PSs (cxOf CX0 P w K mg base ["self", "index"] "InvalidSlips.__init__" (defScope s_InvalidSlips_init) (He.ma K (He.ga K "InvalidSlips") "__init__") cdv A outer s H E) (defBody s_InvalidSlips_init) (tOst K "index" (tVar 0) (tVar 1)) := by
  intro cdv A outer s H E
  exact pss_one (ps_ost (pe_var rfl (Or.inl rfl)) (pe_var rfl (Or.inl rfl)))
def t_taken (K : PySem.W.Frag) : DS := (sSeq (sIf (dOr (eTest (eBin qIs (eV 3) (eC .non))) (eTest (eBin (qIn true) (eBin qIx (eV 3) (eC (.int 0))) (eTup (aCons (eC (.str "read")) (aCons (eC (.str "copy")) aNil)))))) (sRet (eV 1)) sNext) (sSeq (sAsg (eCB (qList true) (aCons (eV 1) aNil)) 4) (sSeq (sAsg (eBin qIx (eV 3) (eC (.int 1))) 5) (sSeq (sIf (eTest (eBin qEq (eBin qIx (eV 3) (eC (.int 0))) (eC (.str "read")))) (sSub (eBin (qMod) (eBin (qAdd false) (eBin qIx (eV 4) (eV 5)) (eBin qIx (eV 3) (eC (.int 2)))) (eV 0)) (eV 4) (eV 5)) (sSub (eBin qIx (eV 2) (eV 5)) (eV 4) (eV 5))) (sRet (eCB qTuple (aCons (eV 4) aNil)))))))
theorem d_taken (T : Txt K mg) : ∀ (cdv : Value) (A : Around) (outer : List Env) (s : Shared) (H : Hp) (E : XK) (B : Bs), Room 1 (A.deeper (envOfC "taken" (defScope s_taken) s.heap.objs.size (He.ga K "taken") cdv)) → PSs (cx0 P w K mg base N_taken "taken" (defScope s_taken) (He.ga K "taken") cdv A outer s H E) (defBody s_taken) (lS K B (t_taken K)) := by
  intro cdv A outer s H E B hr
  exact (dss_cons (ds_if (PW.pt (dw_or (dt_cmp op_isA od_is (dv 3) de_non (nomark _)) (dw_or1 (dt_cmp (op_notInA (units5 hr)) od_in (de_ix (dv 3) de_int (fun _ _ => rfl)) (de_tup (da_cons de_str (da_cons de_str da_nil))) rfl)))) (dss_one (ds_ret (dv 1))) dss_nil) (dss_cons (ds_set (i := 4) sc_taken.nd rfl (Or.inl rfl) (de_callTy call_listA (cd_list (o := true)) rfl T.n_list bt_list (da_cons (dv 1) da_nil))) (dss_cons (ds_set (i := 5) sc_taken.nd rfl (Or.inl rfl) (de_ix (dv 3) de_int (fun _ _ => rfl))) (dss_cons (ds_if (dt_cmp (op_eqD hr.units) od_eq (de_ix (dv 3) de_int (fun _ _ => rfl)) de_str (nomark _)) (dss_one (ds_sub (de_bin op_mod od_mod (de_bin op_addA (od_add (o := false)) (de_ix (dv 4) (dv 5) (fun _ _ => rfl)) (de_ix (dv 3) de_int (fun _ _ => rfl))) (dv 0)) (dv 4) (dv 5))) (dss_one (ds_sub (de_ix (dv 2) (dv 5) (fun _ _ => rfl)) (dv 4) (dv 5)))) (dss_one (ds_ret (de_callTy call_tupleA cd_tuple rfl T.n_tuple bt_tuple (da_cons (dv 4) da_nil))))))))
def t_done (K : PySem.W.Frag) : DS := (sSeq (sAsg (eC .non) 5) (sSeq (sIf (eTest (eBin qIsNot (eV 4) (eC .non))) (sAsg (eBin qIx (eV 4) (eC (.int 0))) 5) sNext) (sSeq (sIf (eTest (eBin qEq (eV 5) (eC (.str "out")))) (sRet (eTup (aCons (eLst false aNil) (aCons (eV 3) aNil)))) sNext) (sSeq (sIf (dAnd (eTest (eBin qEq (eV 5) (eC (.str "copy")))) (eTest (eBin qIs (eV 2) (eC .non)))) (sRet (eC .non)) sNext) (sSeq (sAsg (eBin (qAdd false) (eCB qSum (aCons (eCall (sp_taken K) (aCons (eV 0) (aCons (eV 1) (aCons (eV 2) (aCons (eV 4) aNil))))) aNil)) (eV 3)) 6) (sSeq (sAsg (eBin (qMod) (eV 6) (eV 0)) 7) (sSeq (sAsg (eBin (qFdiv) (eV 6) (eV 0)) 8) (sSeq (sIf (eTest (eBin qEq (eV 5) (eC (.str "forget")))) (sSeq (sIf (eTest (eBin qEq (eV 8) (eC (.int 0)))) (sRet (eC .non)) sNext) (sRet (eTup (aCons (eLst false (aCons (eV 7) aNil)) (aCons (eC (.int 0)) aNil))))) sNext) (sSeq (sIf (eTest (eBin qEq (eV 5) (eC (.str "again")))) (sRet (eTup (aCons (eLst false (aCons (eV 7) aNil)) (aCons (eBin (qAdd false) (eV 8) (eC (.int 1))) aNil)))) sNext) (sSeq (sIf (eTest (eBin qEq (eV 5) (eC (.str "off")))) (sRet (eTup (aCons (eLst false (aCons (eBin (qMod) (eBin (qAdd false) (eV 7) (eBin qIx (eV 4) (eC (.int 1)))) (eV 0)) aNil)) (aCons (eV 8) aNil)))) sNext) (sSeq (sIf (eTest (eBin qEq (eV 5) (eC (.str "twice")))) (sSeq (sAsg (eBin (qAdd false) (eCB qSum (aCons (eV 1) aNil)) (eV 8)) 6) (sRet (eTup (aCons (eLst false (aCons (eV 7) (aCons (eBin (qMod) (eV 6) (eV 0)) aNil))) (aCons (eBin (qFdiv) (eV 6) (eV 0)) aNil))))) sNext) (sRet (eTup (aCons (eLst false (aCons (eV 7) aNil)) (aCons (eV 8) aNil)))))))))))))))
theorem d_done (T : Txt K mg) (G_taken : Good P w K mg base 2 (He.ga K "taken") ["base", "column", "before", "deed"] (sp_taken K)) : ∀ (cdv : Value) (A : Around) (outer : List Env) (s : Shared) (H : Hp) (E : XK) (B : Bs), Room 4 (A.deeper (envOfC "done" (defScope s_done) s.heap.objs.size (He.ga K "done") cdv)) → PSs (cx0 P w K mg base N_done "done" (defScope s_done) (He.ga K "done") cdv A outer s H E) (defBody s_done) (lS K B (t_done K)) := by
  intro cdv A outer s H E B hr
  exact (dss_cons (ds_set (i := 5) sc_done.nd rfl (Or.inl rfl) de_non) (dss_cons (ds_if (dt_cmp op_isNotA od_isNot (dv 4) de_non (nomark _)) (dss_one (ds_set (i := 5) sc_done.nd rfl (Or.inl rfl) (de_ix (dv 4) de_int (fun _ _ => rfl)))) dss_nil) (dss_cons (ds_if (dt_cmp (op_eqD hr.units) od_eq (dv 5) de_str (nomark _)) (dss_one (ds_ret (de_tup (da_cons (de_lst (o := false) da_nil) (da_cons (dv 3) da_nil))))) dss_nil) (dss_cons (ds_if (PW.pt (dw_and (dt_cmp (op_eqD hr.units) od_eq (dv 5) de_str (nomark _)) (dw_and1 (dt_cmp op_isA od_is (dv 2) de_non (nomark _))))) (dss_one (ds_ret de_non)) dss_nil) (dss_cons (ds_set (i := 6) sc_done.nd rfl (Or.inl rfl) (de_bin op_addA (od_add (o := false)) (de_callB (call_sumA rfl) cd_sum rfl T.n_sum bt_sum (da_cons (de_callG G_taken (hr.mono (by decide)) T.g_taken (da_cons (dv 0) (da_cons (dv 1) (da_cons (dv 2) (da_cons (dv 4) da_nil))))) da_nil)) (dv 3))) (dss_cons (ds_set (i := 7) sc_done.nd rfl (Or.inl rfl) (de_bin op_mod od_mod (dv 6) (dv 0))) (dss_cons (ds_set (i := 8) sc_done.nd rfl (Or.inl rfl) (de_bin op_fdivA od_fdiv (dv 6) (dv 0))) (dss_cons (ds_if (dt_cmp (op_eqD hr.units) od_eq (dv 5) de_str (nomark _)) (dss_cons (ds_if (dt_cmp (op_eqD hr.units) od_eq (dv 8) de_int (nomark _)) (dss_one (ds_ret de_non)) dss_nil) (dss_one (ds_ret (de_tup (da_cons (de_lst (o := false) (da_cons (dv 7) da_nil)) (da_cons de_int da_nil)))))) dss_nil) (dss_cons (ds_if (dt_cmp (op_eqD hr.units) od_eq (dv 5) de_str (nomark _)) (dss_one (ds_ret (de_tup (da_cons (de_lst (o := false) (da_cons (dv 7) da_nil)) (da_cons (de_bin op_addA (od_add (o := false)) (dv 8) de_int) da_nil))))) dss_nil) (dss_cons (ds_if (dt_cmp (op_eqD hr.units) od_eq (dv 5) de_str (nomark _)) (dss_one (ds_ret (de_tup (da_cons (de_lst (o := false) (da_cons (de_bin op_mod od_mod (de_bin op_addA (od_add (o := false)) (dv 7) (de_ix (dv 4) de_int (fun _ _ => rfl))) (dv 0)) da_nil)) (da_cons (dv 8) da_nil))))) dss_nil) (dss_cons (ds_if (dt_cmp (op_eqD hr.units) od_eq (dv 5) de_str (nomark _)) (dss_cons (ds_set (i := 6) sc_done.nd rfl (Or.inl rfl) (de_bin op_addA (od_add (o := false)) (de_callB (call_sumA rfl) cd_sum rfl T.n_sum bt_sum (da_cons (dv 1) da_nil)) (dv 8))) (dss_one (ds_ret (de_tup (da_cons (de_lst (o := false) (da_cons (dv 7) (da_cons (de_bin op_mod od_mod (dv 6) (dv 0)) da_nil))) (da_cons (de_bin op_fdivA od_fdiv (dv 6) (dv 0)) da_nil)))))) dss_nil) (dss_one (ds_ret (de_tup (da_cons (de_lst (o := false) (da_cons (dv 7) da_nil)) (da_cons (dv 8) da_nil))))))))))))))))
def u_Adding_do_1 (K : PySem.W.Frag) : DS := (sSeq (sIf (eTest (eBin qIsNot (eFld (He.ga K "Adding") "waiting" (eV 0)) (eC .non))) (sSeq (sAsg (eBin (qAdd false) (eV 4) (eLst false (aCons (eFld (He.ga K "Adding") "waiting" (eV 0)) aNil))) 4) (sFldU (He.ga K "Adding") "waiting" (eV 0) (eC .non))) (sIf (eTest (eBin qEq (eV 1) (eTup (aCons (eC (.str "swap")) aNil)))) (sSeq (sFldU (He.ga K "Adding") "waiting" (eV 0) (eBin qIx (eV 4) (eC (.int 0)))) (sAsg (eLst false aNil) 4)) sNext)) (sSeq (sFldU (He.ga K "Adding") "written" (eV 0) (eBin (qAdd false) (eFld (He.ga K "Adding") "written" (eV 0)) (eV 4))) (sRet (eC (.bl true)))))
def u_Adding_do_2 (K : PySem.W.Frag) : DS := (sSeq (sAsg (eCall (sp_done K) (aCons (eFld (He.ga K "Adding") "system" (eV 0)) (aCons (eBin qIx (eFld (He.ga K "Adding") "given" (eV 0)) (eFld (He.ga K "Adding") "at" (eV 0))) (aCons (eV 2) (aCons (eFld (He.ga K "Adding") "carry" (eV 0)) (aCons (eV 1) aNil)))))) 3) (sSeq (sIf (eTest (eBin qIs (eV 3) (eC .non))) (sRet (eC (.bl false))) sNext) (sSeq (sAsgG (eV 3) (gT 2 (gC (gN 4) (gC (gF (He.ga K "Adding") "carry" (eV 0)) gZ)))) (sSeq (sFldA (He.ga K "Adding") "at" qAddI (eV 0) (eC (.int 1))) (u_Adding_do_1 K)))))
def u_Adding_do_0 (K : PySem.W.Frag) : DS := (sSeq (sIf (dAnd (eTest (eBin qEq (eV 1) (eTup (aCons (eC (.str "swap")) aNil)))) (eTest (eBin qEq (eBin (qAdd false) (eFld (He.ga K "Adding") "at" (eV 0)) (eC (.int 1))) (eCB qLen (aCons (eFld (He.ga K "Adding") "given" (eV 0)) aNil))))) (sRet (eC (.bl false))) sNext) (u_Adding_do_2 K))
def t_Adding_do (K : PySem.W.Frag) : DS := (sSeq (sAsg (eC .non) 2) (sSeq (sIf (eTest (eBin qGt (eFld (He.ga K "Adding") "at" (eV 0)) (eC (.int 0)))) (sAsg (eBin qIx (eFld (He.ga K "Adding") "given" (eV 0)) (eBin (qSub) (eFld (He.ga K "Adding") "at" (eV 0)) (eC (.int 1)))) 2) sNext) (u_Adding_do_0 K)))
theorem d_Adding_do (T : Txt K mg) (G_done : Good P w K mg base 5 (He.ga K "done") ["base", "column", "before", "carry", "deed"] (sp_done K)) : ∀ (cdv : Value) (A : Around) (outer : List Env) (s : Shared) (H : Hp) (E : XK) (B : Bs), Room 7 (A.deeper (envOfC "Adding.do" (defScope s_Adding_do) s.heap.objs.size (He.ma K (He.ga K "Adding") "do") cdv)) → PSs (cx0 P w K mg base N_Adding_do "Adding.do" (defScope s_Adding_do) (He.ma K (He.ga K "Adding") "do") cdv A outer s H E) (defBody s_Adding_do) (lS K B (t_Adding_do K)) := by
  intro cdv A outer s H E B hr
  have h : PSs (cx0 P w K mg base N_Adding_do "Adding.do" (defScope s_Adding_do) (He.ma K (He.ga K "Adding") "do") cdv A outer s H E) (defBody s_Adding_do) (lS K B (sSeq (sAsg (eC .non) 2) (sSeq (sIf (eTest (eBin qGt (eFld (He.ga K "Adding") "at" (eV 0)) (eC (.int 0)))) (sAsg (eBin qIx (eFld (He.ga K "Adding") "given" (eV 0)) (eBin (qSub) (eFld (He.ga K "Adding") "at" (eV 0)) (eC (.int 1)))) 2) sNext) (sSeq (sIf (dAnd (eTest (eBin qEq (eV 1) (eTup (aCons (eC (.str "swap")) aNil)))) (eTest (eBin qEq (eBin (qAdd false) (eFld (He.ga K "Adding") "at" (eV 0)) (eC (.int 1))) (eCB qLen (aCons (eFld (He.ga K "Adding") "given" (eV 0)) aNil))))) (sRet (eC (.bl false))) sNext) (sSeq (sAsg (eCall (sp_done K) (aCons (eFld (He.ga K "Adding") "system" (eV 0)) (aCons (eBin qIx (eFld (He.ga K "Adding") "given" (eV 0)) (eFld (He.ga K "Adding") "at" (eV 0))) (aCons (eV 2) (aCons (eFld (He.ga K "Adding") "carry" (eV 0)) (aCons (eV 1) aNil)))))) 3) (sSeq (sIf (eTest (eBin qIs (eV 3) (eC .non))) (sRet (eC (.bl false))) sNext) (sSeq (sAsgG (eV 3) (gT 2 (gC (gN 4) (gC (gF (He.ga K "Adding") "carry" (eV 0)) gZ)))) (sSeq (sFldA (He.ga K "Adding") "at" qAddI (eV 0) (eC (.int 1))) (sSeq (sIf (eTest (eBin qIsNot (eFld (He.ga K "Adding") "waiting" (eV 0)) (eC .non))) (sSeq (sAsg (eBin (qAdd false) (eV 4) (eLst false (aCons (eFld (He.ga K "Adding") "waiting" (eV 0)) aNil))) 4) (sFldU (He.ga K "Adding") "waiting" (eV 0) (eC .non))) (sIf (eTest (eBin qEq (eV 1) (eTup (aCons (eC (.str "swap")) aNil)))) (sSeq (sFldU (He.ga K "Adding") "waiting" (eV 0) (eBin qIx (eV 4) (eC (.int 0)))) (sAsg (eLst false aNil) 4)) sNext)) (sSeq (sFldU (He.ga K "Adding") "written" (eV 0) (eBin (qAdd false) (eFld (He.ga K "Adding") "written" (eV 0)) (eV 4))) (sRet (eC (.bl true))))))))))))) := (dss_cons (ds_set (i := 2) sc_Adding_do.nd rfl (Or.inl rfl) de_non) (dss_cons (ds_if (dt_cmp op_gt od_gt (de_fld T.c_Adding T.na_Adding_at (dv 0)) de_int (nomark _)) (dss_one (ds_set (i := 2) sc_Adding_do.nd rfl (Or.inl rfl) (de_ix (de_fld T.c_Adding T.na_Adding_given (dv 0)) (de_bin op_sub od_sub (de_fld T.c_Adding T.na_Adding_at (dv 0)) de_int) (fun _ _ => rfl)))) dss_nil) (dss_cons (ds_if (PW.pt (dw_and (dt_cmp (op_eqD hr.units) od_eq (dv 1) (de_tup (da_cons de_str da_nil)) (nomark _)) (dw_and1 (dt_cmp (op_eqD hr.units) od_eq (de_bin op_addA (od_add (o := false)) (de_fld T.c_Adding T.na_Adding_at (dv 0)) de_int) (de_callB call_lenA cd_len rfl T.n_len bt_len (da_cons (de_fld T.c_Adding T.na_Adding_given (dv 0)) da_nil)) (nomark _))))) (dss_one (ds_ret de_bl)) dss_nil) (dss_cons (ds_set (i := 3) sc_Adding_do.nd rfl (Or.inl rfl) (de_callG G_done (hr.mono (by decide)) T.g_done (da_cons (de_fld T.c_Adding T.na_Adding_system (dv 0)) (da_cons (de_ix (de_fld T.c_Adding T.na_Adding_given (dv 0)) (de_fld T.c_Adding T.na_Adding_at (dv 0)) (fun _ _ => rfl)) (da_cons (dv 2) (da_cons (de_fld T.c_Adding T.na_Adding_carry (dv 0)) (da_cons (dv 1) da_nil))))))) (dss_cons (ds_if (dt_cmp op_isA od_is (dv 3) de_non (nomark _)) (dss_one (ds_ret de_bl)) dss_nil) (dss_cons (ds_asgG (dv 3) (dg_tup rfl (dg_cons (dg_name (i := 4) sc_Adding_do.nd rfl (Or.inl rfl)) (dg_cons (dg_fld T.c_Adding T.na_Adding_carry (dv 0)) dg_nil)))) (dss_cons (ds_fldA T.c_Adding T.na_Adding_at (dv 0) de_int in_add od_inadd) (dss_cons (ds_if (dt_cmp op_isNotA od_isNot (de_fld T.c_Adding T.na_Adding_waiting (dv 0)) de_non (nomark _)) (dss_cons (ds_set (i := 4) sc_Adding_do.nd rfl (Or.inl rfl) (de_bin op_addA (od_add (o := false)) (dv 4) (de_lst (o := false) (da_cons (de_fld T.c_Adding T.na_Adding_waiting (dv 0)) da_nil)))) (dss_one (ds_fldU T.c_Adding T.na_Adding_waiting (dv 0) de_non))) (dss_one (ds_if (dt_cmp (op_eqD hr.units) od_eq (dv 1) (de_tup (da_cons de_str da_nil)) (nomark _)) (dss_cons (ds_fldU T.c_Adding T.na_Adding_waiting (dv 0) (de_ix (dv 4) de_int (fun _ _ => rfl))) (dss_one (ds_set (i := 4) sc_Adding_do.nd rfl (Or.inl rfl) (de_lst (o := false) da_nil)))) dss_nil))) (dss_cons (ds_fldU T.c_Adding T.na_Adding_written (dv 0) (de_bin op_addA (od_add (o := false)) (de_fld T.c_Adding T.na_Adding_written (dv 0)) (dv 4))) (dss_one (ds_ret de_bl)))))))))))
  exact h
def t_Adding_do_until (K : PySem.W.Frag) : DS := (sWhile (eTest (eBin qLt (eFld (He.ga K "Adding") "at" (eV 0)) (eV 1))) (sDrop (eMeth (He.ga K "Adding") "do" (sp_Adding_do K) (eV 0) (aCons (eC .non) aNil))))
theorem d_Adding_do_until (T : Txt K mg) (G_Adding_do : Good P w K mg base 8 (He.ma K (He.ga K "Adding") "do") ["self", "deed"] (sp_Adding_do K)) : ∀ (cdv : Value) (A : Around) (outer : List Env) (s : Shared) (H : Hp) (E : XK) (B : Bs), Room 10 (A.deeper (envOfC "Adding.do_until" (defScope s_Adding_do_until) s.heap.objs.size (He.ma K (He.ga K "Adding") "do_until") cdv)) → PSs (cx0 P w K mg base N_Adding_do_until "Adding.do_until" (defScope s_Adding_do_until) (He.ma K (He.ga K "Adding") "do_until") cdv A outer s H E) (defBody s_Adding_do_until) (lS K B (t_Adding_do_until K)) := by
  intro cdv A outer s H E B hr
  exact (dss_one (ds_while PassesOwn.never (dt_cmp op_lt od_lt (de_fld T.c_Adding T.na_Adding_at (dv 0)) (dv 1) (nomark _)) (dss_one (ds_expr (de_methG G_Adding_do (hr.mono (by decide)) T.c_Adding T.m_Adding_do (dv 0) (da_cons de_non da_nil))))))
def t_Written_init (K : PySem.W.Frag) : DS := (sSeq (sFldD (He.ga K "Written") "held_base" (eV 0) (eV 1)) (sSeq (sFldD (He.ga K "Written") "held_figures" (eV 0) (eCB (qList false) (aCons (eV 2) aNil))) (sFldD (He.ga K "Written") "held_last" (eV 0) (eV 3))))
theorem d_Written_init (T : Txt K mg) : ∀ (cdv : Value) (A : Around) (outer : List Env) (s : Shared) (H : Hp) (E : XK) (B : Bs), Room 1 (A.deeper (envOfC "Written.__init__" (defScope s_Written_init) s.heap.objs.size (He.ma K (He.ga K "Written") "__init__") cdv)) → PSs (cx0 P w K mg base N_Written_init "Written.__init__" (defScope s_Written_init) (He.ma K (He.ga K "Written") "__init__") cdv A outer s H E) (defBody s_Written_init) (lS K B (t_Written_init K)) := by
  intro cdv A outer s H E B hr
  exact (dss_cons (ds_fld T.c_Written T.na_Written_held_base (dv 0) (dv 1)) (dss_cons (ds_fld T.c_Written T.na_Written_held_figures (dv 0) (de_callTy call_listA (cd_list (o := false)) rfl T.n_list bt_list (da_cons (dv 2) da_nil))) (dss_one (ds_fld T.c_Written T.na_Written_held_last (dv 0) (dv 3)))))
def t_Adding_result (K : PySem.W.Frag) : DS := (sSeq (sDrop (eMeth (He.ga K "Adding") "do_until" (sp_Adding_do_until K) (eV 0) (aCons (eCB qLen (aCons (eFld (He.ga K "Adding") "given" (eV 0)) aNil)) aNil))) (sRet (eMake (He.ga K "Written") (sp_Written_init K) (aCons (eFld (He.ga K "Adding") "system" (eV 0)) (aCons (eFld (He.ga K "Adding") "written" (eV 0)) (aCons (eFld (He.ga K "Adding") "carry" (eV 0)) aNil))))))
theorem d_Adding_result (T : Txt K mg) (G_Adding_do_until : Good P w K mg base 11 (He.ma K (He.ga K "Adding") "do_until") ["self", "column"] (sp_Adding_do_until K)) (G_Written_init : Good P w K mg base 2 (He.ma K (He.ga K "Written") "__init__") ["self", "base", "figures", "last"] (sp_Written_init K)) : ∀ (cdv : Value) (A : Around) (outer : List Env) (s : Shared) (H : Hp) (E : XK) (B : Bs), Room 13 (A.deeper (envOfC "Adding.result" (defScope s_Adding_result) s.heap.objs.size (He.ma K (He.ga K "Adding") "result") cdv)) → PSs (cx0 P w K mg base N_Adding_result "Adding.result" (defScope s_Adding_result) (He.ma K (He.ga K "Adding") "result") cdv A outer s H E) (defBody s_Adding_result) (lS K B (t_Adding_result K)) := by
  intro cdv A outer s H E B hr
  exact (dss_cons (ds_expr (de_methG G_Adding_do_until (hr.mono (by decide)) T.c_Adding T.m_Adding_do_until (dv 0) (da_cons (de_callB call_lenA cd_len rfl T.n_len bt_len (da_cons (de_fld T.c_Adding T.na_Adding_given (dv 0)) da_nil)) da_nil))) (dss_one (ds_ret (de_makeG G_Written_init (hr.mono (by decide)) T.mk_Written T.g_Written (da_cons (de_fld T.c_Adding T.na_Adding_system (dv 0)) (da_cons (de_fld T.c_Adding T.na_Adding_written (dv 0)) (da_cons (de_fld T.c_Adding T.na_Adding_carry (dv 0)) da_nil)))))))
def t_add_with (K : PySem.W.Frag) (XX : XN → List Cel → Prop) : DS := (sSeq (sAsg (eMake (He.ga K "Adding") (sp_Adding_init K) (aCons (eV 0) aNil)) 2) (sSeq (sFor (iEn (aCons (eV 1) aNil)) (.tup [3, 4]) (sSeq (sIf (dNot (eTru (eCall (sp_is_slip K) (aCons (eV 4) (aCons (eV 0) (aCons (eMeth (He.ga K "Adding") "free" (sp_Adding_free K) (eV 2) aNil) aNil)))))) (sRaiseI XX "InvalidSlips" (eV 3)) sNext) (sSeq (sDrop (eMeth (He.ga K "Adding") "do_until" (sp_Adding_do_until K) (eV 2) (aCons (eBin qIx (eV 4) (eC (.int 0))) aNil))) (sIf (dNot (eTru (eMeth (He.ga K "Adding") "do" (sp_Adding_do K) (eV 2) (aCons (eBin qIx (eV 4) (eC (.int 1))) aNil)))) (sRaiseI XX "InvalidSlips" (eV 3)) sNext)))) (sRet (eMeth (He.ga K "Adding") "result" (sp_Adding_result K) (eV 2) aNil))))
theorem d_add_with (T : Txt K mg) (G_Adding_init : Good P w K mg base 5 (He.ma K (He.ga K "Adding") "__init__") ["self", "sheet"] (sp_Adding_init K)) (G_is_slip : Good P w K mg base 8 (He.ga K "is_slip") ["value", "sheet", "low"] (sp_is_slip K)) (G_Adding_free : Good P w K mg base 2 (He.ma K (He.ga K "Adding") "free") ["self"] (sp_Adding_free K)) (G_InvalidSlips_init : GoodIx P w K mg base 2 (He.ma K (He.ga K "InvalidSlips") "__init__") "InvalidSlips") (G_Adding_do_until : Good P w K mg base 11 (He.ma K (He.ga K "Adding") "do_until") ["self", "column"] (sp_Adding_do_until K)) (G_Adding_do : Good P w K mg base 8 (He.ma K (He.ga K "Adding") "do") ["self", "deed"] (sp_Adding_do K)) (G_Adding_result : Good P w K mg base 14 (He.ma K (He.ga K "Adding") "result") ["self"] (sp_Adding_result K)) : ∀ (cdv : Value) (A : Around) (outer : List Env) (s : Shared) (H : Hp) (E : XK) (B : Bs) (XX : XN → List Cel → Prop), Room 16 (A.deeper (envOfC "add_with" (defScope s_add_with) s.heap.objs.size (He.ga K "add_with") cdv)) → XT (cxX P w K mg base N_add_with "add_with" (defScope s_add_with) (He.ga K "add_with") cdv A outer s H E) B XX → PassesOwn (model P w) (A.deeper (envOfC "add_with" (defScope s_add_with) s.heap.objs.size (He.ga K "add_with") cdv)) (envOfC "add_with" (defScope s_add_with) s.heap.objs.size (He.ga K "add_with") cdv) (cxX P w K mg base N_add_with "add_with" (defScope s_add_with) (He.ga K "add_with") cdv A outer s H E).xe → PSs (cxX P w K mg base N_add_with "add_with" (defScope s_add_with) (He.ga K "add_with") cdv A outer s H E) (defBody s_add_with) (lS K B (t_add_with K XX)) := by
  intro cdv A outer s H E B XX hr tk po
  exact (dss_cons (ds_set (i := 2) sc_add_with.nd rfl (Or.inl rfl) (de_makeG G_Adding_init (hr.mono (by decide)) T.mk_Adding T.g_Adding (da_cons (dv 0) da_nil))) (dss_cons (ds_for (tg := (.tup [3, 4])) po rfl (di_enum rfl T.n_enumerate (da_cons (dv 1) da_nil)) (pg_tup rfl (pgs_cons (pg_name (i := 3) sc_add_with.nd rfl (Or.inl rfl)) (pgs_cons (pg_name (i := 4) sc_add_with.nd rfl (Or.inl rfl)) pgs_nil))) (dss_cons (ds_if (dt_not (dt_tru (de_callG G_is_slip (hr.mono (by decide)) T.g_is_slip (da_cons (dv 4) (da_cons (dv 0) (da_cons (de_methG0 G_Adding_free (hr.mono (by decide)) T.c_Adding T.m_Adding_free (dv 2)) da_nil)))))) (dss_one (ds_raiseI G_InvalidSlips_init rfl tk (hr.mono (by decide)) T.g_InvalidSlips rfl (dv 3))) dss_nil) (dss_cons (ds_expr (de_methG G_Adding_do_until (hr.mono (by decide)) T.c_Adding T.m_Adding_do_until (dv 2) (da_cons (de_ix (dv 4) de_int (fun _ _ => rfl)) da_nil))) (dss_one (ds_if (dt_not (dt_tru (de_methG G_Adding_do (hr.mono (by decide)) T.c_Adding T.m_Adding_do (dv 2) (da_cons (de_ix (dv 4) de_int (fun _ _ => rfl)) da_nil)))) (dss_one (ds_raiseI G_InvalidSlips_init rfl tk (hr.mono (by decide)) T.g_InvalidSlips rfl (dv 3))) dss_nil))))) (dss_one (ds_ret (de_methG0 G_Adding_result (hr.mono (by decide)) T.c_Adding T.m_Adding_result (dv 2))))))
def t_outcome (K : PySem.W.Frag) : DS := (sTryN [("InvalidSlips", true)] (List.length N_outcome) (fun XX => (sRet (eCallX XX (sp_add_with K) (aCons (eV 0) (aCons (eV 1) aNil))))) (sRet (eC .non)) (fun _ _ => False))
theorem d_outcome (T : Txt K mg) (G_add_with : GoodX P w K mg base 17 (He.ga K "add_with") ["sheet", "slips"] (sp_add_with K)) : ∀ (cdv : Value) (A : Around) (outer : List Env) (s : Shared) (H : Hp) (E : XK) (B : Bs), Room 19 (A.deeper (envOfC "outcome" (defScope s_outcome) s.heap.objs.size (He.ga K "outcome") cdv)) → PSs (cx0 P w K mg base N_outcome "outcome" (defScope s_outcome) (He.ga K "outcome") cdv A outer s H E) (defBody s_outcome) (lS K B (t_outcome K)) := by
  intro cdv A outer s H E B hr
  exact (dss_one (ds_tryN (tbl := [("InvalidSlips", true)]) (tb := fun XX => (sRet (eCallX XX (sp_add_with K) (aCons (eV 0) (aCons (eV 1) aNil))))) (ts := (sRet (eC .non))) rfl rfl T.g_InvalidSlips rfl XT.never T.xm_InvalidSlips (fun B XX pn xe tk po => (dss_one (ds_ret (de_callX G_add_with tk (hr.mono (by decide)) T.g_add_with (da_cons (dv 0) (da_cons (dv 1) da_nil)))))) (fun B a oe pn => (dss_one (ds_ret de_non)))))
def t_all_outcomes (K : PySem.W.Frag) : DS := (sSeq (sAsg (eLst true aNil) 2) (sSeq (sAsg (eRev true (eCall (sp_further_slips K) (aCons (eV 0) (aCons (eV 1) (aCons (eLst false aNil) aNil))))) 3) (sSeq (sWhile (eTru (eV 3)) (sSeq (sAsg (eBM0 qPop0 (eV 3)) 4) (sSeq (sAsg (eCall (sp_outcome K) (aCons (eV 1) (aCons (eV 4) aNil))) 5) (sIf (eTest (eBin qIsNot (eV 5) (eC .non))) (sSeq (sDrop (eBM qApp (eV 2) (aCons (eTup (aCons (eV 4) (aCons (eV 5) aNil))) aNil))) (sDrop (eBM qExt (eV 3) (aCons (eRev false (eCall (sp_further_slips K) (aCons (eV 0) (aCons (eV 1) (aCons (eV 4) aNil))))) aNil)))) sNext)))) (sRet (eV 2)))))
theorem d_all_outcomes (T : Txt K mg) (G_further_slips : Good P w K mg base 5 (He.ga K "further_slips") ["kind", "sheet", "slips"] (sp_further_slips K)) (G_outcome : Good P w K mg base 20 (He.ga K "outcome") ["sheet", "slips"] (sp_outcome K)) : ∀ (cdv : Value) (A : Around) (outer : List Env) (s : Shared) (H : Hp) (E : XK) (B : Bs), Room 22 (A.deeper (envOfC "all_outcomes" (defScope s_all_outcomes) s.heap.objs.size (He.ga K "all_outcomes") cdv)) → PSs (cx0 P w K mg base N_all_outcomes "all_outcomes" (defScope s_all_outcomes) (He.ga K "all_outcomes") cdv A outer s H E) (defBody s_all_outcomes) (lS K B (t_all_outcomes K)) := by
  intro cdv A outer s H E B hr
  exact (dss_cons (ds_set (i := 2) sc_all_outcomes.nd rfl (Or.inl rfl) (de_lst (o := true) da_nil)) (dss_cons (ds_set (i := 3) sc_all_outcomes.nd rfl (Or.inl rfl) (de_rev (o := true) (de_callG G_further_slips (hr.mono (by decide)) T.g_further_slips (da_cons (dv 0) (da_cons (dv 1) (da_cons (de_lst (o := false) da_nil) da_nil)))))) (dss_cons (ds_while PassesOwn.never (dt_tru (dv 3)) (dss_cons (ds_set (i := 4) sc_all_outcomes.nd rfl (Or.inl rfl) (de_bm0 PySem.F.plainAttrs_list PySem.F.slot_list_pop PySem.F.type_list_pop mt_pop md_pop0 (dv 3))) (dss_cons (ds_set (i := 5) sc_all_outcomes.nd rfl (Or.inl rfl) (de_callG G_outcome (hr.mono (by decide)) T.g_outcome (da_cons (dv 1) (da_cons (dv 4) da_nil)))) (dss_one (ds_if (dt_cmp op_isNotA od_isNot (dv 5) de_non (nomark _)) (dss_cons (ds_expr (de_bm PySem.F.plainAttrs_list PySem.F.slot_list_append PySem.F.type_list_append mt_append md_app (dv 2) (da_cons (de_tup (da_cons (dv 4) (da_cons (dv 5) da_nil))) da_nil))) (dss_one (ds_expr (de_bm PySem.F.plainAttrs_list PySem.F.slot_list_extend PySem.F.type_list_extend mt_extend md_ext (dv 3) (da_cons (de_rev (o := false) (de_callG G_further_slips (hr.mono (by decide)) T.g_further_slips (da_cons (dv 0) (da_cons (dv 1) (da_cons (dv 4) da_nil))))) da_nil))))) dss_nil))))) (dss_one (ds_ret (dv 2))))))
def t_Written_value (K : PySem.W.Frag) : DS := (sSeq (sAsg (eFld (He.ga K "Written") "held_last" (eV 0)) 1) (sSeq (sFor (iS (eRev false (eFld (He.ga K "Written") "held_figures" (eV 0)))) (.one 2) (sAsg (eBin (qAdd false) (eBin (qMul) (eV 1) (eFld (He.ga K "Written") "held_base" (eV 0))) (eV 2)) 1)) (sRet (eV 1))))
theorem d_Written_value (T : Txt K mg) : ∀ (cdv : Value) (A : Around) (outer : List Env) (s : Shared) (H : Hp) (E : XK) (B : Bs), Room 1 (A.deeper (envOfC "Written.value" (defScope s_Written_value) s.heap.objs.size (pga K (He.ga K "Written") "value") cdv)) → PSs (cx0 P w K mg base N_Written_value "Written.value" (defScope s_Written_value) (pga K (He.ga K "Written") "value") cdv A outer s H E) (defBody s_Written_value) (lS K B (t_Written_value K)) := by
  intro cdv A outer s H E B hr
  exact (dss_cons (ds_set (i := 1) sc_Written_value.nd rfl (Or.inl rfl) (de_fld T.c_Written T.na_Written_held_last (dv 0))) (dss_cons (ds_for (tg := (.one 2)) PassesOwn.never rfl (di_any (de_rev (o := false) (de_fld T.c_Written T.na_Written_held_figures (dv 0)))) (pg_name (i := 2) sc_Written_value.nd rfl (Or.inl rfl)) (dss_one (ds_set (i := 1) sc_Written_value.nd rfl (Or.inl rfl) (de_bin op_addA (od_add (o := false)) (de_bin op_mulA od_mul (dv 1) (de_fld T.c_Written T.na_Written_held_base (dv 0))) (dv 2))))) (dss_one (ds_ret (dv 1)))))
def t_Written_rest (K : PySem.W.Frag) : DS := (sRet (eBin (qMod) (eProp (He.ga K "Written") (sp_Written_value K) (eV 0)) (eV 1)))
theorem d_Written_rest (T : Txt K mg) (G_Written_value : Good P w K mg base 2 (pga K (He.ga K "Written") "value") ["self"] (sp_Written_value K)) : ∀ (cdv : Value) (A : Around) (outer : List Env) (s : Shared) (H : Hp) (E : XK) (B : Bs), Room 4 (A.deeper (envOfC "Written.rest" (defScope s_Written_rest) s.heap.objs.size (He.ma K (He.ga K "Written") "rest") cdv)) → PSs (cx0 P w K mg base N_Written_rest "Written.rest" (defScope s_Written_rest) (He.ma K (He.ga K "Written") "rest") cdv A outer s H E) (defBody s_Written_rest) (lS K B (t_Written_rest K)) := by
  intro cdv A outer s H E B hr
  exact (dss_one (ds_ret (de_bin op_mod od_mod (de_propG G_Written_value (hr.mono (by decide)) T.c_Written T.p_Written_value (dv 0)) (dv 1))))
def t_slips_shown (K : PySem.W.Frag) : DS := (sSeq (sDrop (eCall (sp_check_lot K) (aCons (eV 2) aNil))) (sSeq (sDrop (eCall (sp_check_alike K) (aCons (eV 0) (aCons (eV 1) aNil)))) (sSeq (sAsg (eCB (qList false) (aCons (eV 3) aNil)) 4) (sRet (eLc false (iS (eCall (sp_all_outcomes K) (aCons (eV 0) (aCons (eV 1) aNil)))) (.tup [5, 6]) (eTest (eBin qEq (eLc false (iS (eV 2)) (.one 7) dYes (eMeth (He.ga K "Written") "rest" (sp_Written_rest K) (eV 6) (aCons (eV 7) aNil)) [7]) (eV 4))) (eV 5) [5, 6])))))
theorem d_slips_shown (T : Txt K mg) (G_check_lot : Good P w K mg base 2 (He.ga K "check_lot") ["lot"] (sp_check_lot K)) (G_check_alike : Good P w K mg base 5 (He.ga K "check_alike") ["kind", "sheet"] (sp_check_alike K)) (G_all_outcomes : Good P w K mg base 23 (He.ga K "all_outcomes") ["kind", "sheet"] (sp_all_outcomes K)) (G_Written_rest : Good P w K mg base 5 (He.ma K (He.ga K "Written") "rest") ["self", "r"] (sp_Written_rest K)) : ∀ (cdv : Value) (A : Around) (outer : List Env) (s : Shared) (H : Hp) (E : XK) (B : Bs), Room 25 (A.deeper (envOfC "slips_shown" (defScope s_slips_shown) s.heap.objs.size (He.ga K "slips_shown") cdv)) → PSs (cx0 P w K mg base N_slips_shown "slips_shown" (defScope s_slips_shown) (He.ga K "slips_shown") cdv A outer s H E) (defBody s_slips_shown) (lS K B (t_slips_shown K)) := by
  intro cdv A outer s H E B hr
  exact (dss_cons (ds_expr (de_callG G_check_lot (hr.mono (by decide)) T.g_check_lot (da_cons (dv 2) da_nil))) (dss_cons (ds_expr (de_callG G_check_alike (hr.mono (by decide)) T.g_check_alike (da_cons (dv 0) (da_cons (dv 1) da_nil)))) (dss_cons (ds_set (i := 4) sc_slips_shown.nd rfl (Or.inr rfl) (de_callTy call_listA (cd_list (o := false)) rfl T.n_list bt_list (da_cons (dv 3) da_nil))) (dss_one (ds_ret (de_lc (o := false) (own := [("slips", 5), ("result", 6)]) (tg := (.tup [5, 6])) rfl sc_slips_shown.nd (di_any (de_callG G_all_outcomes (hr.mono (by decide)) T.g_all_outcomes (da_cons (dv 0) (da_cons (dv 1) da_nil)))) (blkOk_by (own := [("slips", 5), ("result", 6)]) (N := N_slips_shown) (sc := defScope s_slips_shown) (by decide +kernel)) (by decide) (fun _ _ _ _ _ => (pg_tup rfl (pgs_cons (pg_name (i := 5) sc_slips_shown.nd rfl (Or.inl rfl)) (pgs_cons (pg_name (i := 6) sc_slips_shown.nd rfl (Or.inr rfl)) pgs_nil)))) (fun _ _ _ _ _ => (dts_one (dt_cmp (op_eqD hr.units) od_eq (de_lc (o := false) (own := [("r", 7)]) (tg := (.one 7)) rfl sc_slips_shown.nd (di_any (dv 2)) (blkOk_in (own := [("r", 7)]) (N := N_slips_shown) (sc0 := defScope s_slips_shown) rfl (by decide +kernel)) (by decide) (fun _ _ _ _ _ => (pg_name (i := 7) sc_slips_shown.nd rfl (Or.inl rfl))) (fun _ _ _ _ _ => dts_nil) (fun _ _ _ _ _ => (de_methG G_Written_rest (hr.mono (by decide)) T.c_Written T.m_Written_rest (dv 6) (da_cons (dv 7) da_nil)))) (dv 4) (nomark _)))) (fun _ _ _ _ _ => (dv 5))))))))
def t_law_leaves (K : PySem.W.Frag) : DS := (sSeq (sIf (eTest (eBin qIs (eV 1) (eC .non))) (sRet (eC (.bl false))) sNext) (sSeq (sAsg (eBin qIx (eV 1) (eC (.int 1))) 4) (sSeq (sFor (iS (eRev false (eBin qIx (eV 1) (eC (.int 0))))) (.one 5) (sAsg (eBin (qAdd false) (eBin (qMul) (eV 4) (eV 0)) (eV 5)) 4)) (sRet (eBin qEq (eBin (qMod) (eCB qInt (aCons (eV 4) aNil)) (eV 2)) (eV 3))))))
theorem d_law_leaves (T : Txt K mg) : ∀ (cdv : Value) (A : Around) (outer : List Env) (s : Shared) (H : Hp) (E : XK) (B : Bs), Room 1 (A.deeper (envOfC "_law_leaves" (defScope s_law_leaves) s.heap.objs.size (He.ga K "_law_leaves") cdv)) → PSs (cx0 P w K mg base N_law_leaves "_law_leaves" (defScope s_law_leaves) (He.ga K "_law_leaves") cdv A outer s H E) (defBody s_law_leaves) (lS K B (t_law_leaves K)) := by
  intro cdv A outer s H E B hr
  exact (dss_cons (ds_if (dt_cmp op_isA od_is (dv 1) de_non (nomark _)) (dss_one (ds_ret de_bl)) dss_nil) (dss_cons (ds_set (i := 4) sc_law_leaves.nd rfl (Or.inl rfl) (de_ix (dv 1) de_int (fun _ _ => rfl))) (dss_cons (ds_for (tg := (.one 5)) PassesOwn.never rfl (di_any (de_rev (o := false) (de_ix (dv 1) de_int (fun _ _ => rfl)))) (pg_name (i := 5) sc_law_leaves.nd rfl (Or.inl rfl)) (dss_one (ds_set (i := 4) sc_law_leaves.nd rfl (Or.inl rfl) (de_bin op_addA (od_add (o := false)) (de_bin op_mulA od_mul (dv 4) (dv 0)) (dv 5))))) (dss_one (ds_ret (de_cmp (op_eqD hr.units) od_eq (de_bin op_mod od_mod (de_callTy call_intA cd_int rfl T.n_int bt_int (da_cons (dv 4) da_nil)) (dv 2)) (dv 3) (nomark _)))))))
def t_law_shown_right (K : PySem.W.Frag) : DS := (sSeq (sAsg (eLc false (iR1 (aCons (eCB qLen (aCons (eV 3) aNil)) aNil)) (.one 8) (eTest (eBin qIsNot (eBin qIx (eV 4) (eV 8)) (eC .non))) (eBin qIx (eV 3) (eV 8)) [8]) 7) (sSeq (sIf (dNot (eTru (eCall (sp_law_alike_4 K) (aCons (eCall (sp_slips_shown K) (aCons (eV 0) (aCons (eV 1) (aCons (eLst false aNil) (aCons (eLst false aNil) aNil))))) (aCons (eV 7) aNil))))) (sRet (eC (.bl false))) sNext) (sSeq (sAsg (eLc false (iR1 (aCons (eCB qLen (aCons (eV 3) aNil)) aNil)) (.one 8) (eTru (eCall (sp_law_leaves K) (aCons (eV 2) (aCons (eBin qIx (eV 4) (eV 8)) (aCons (eV 5) (aCons (eV 6) aNil)))))) (eBin qIx (eV 3) (eV 8)) [8]) 7) (sRet (eCall (sp_law_alike_4 K) (aCons (eCall (sp_slips_shown K) (aCons (eV 0) (aCons (eV 1) (aCons (eLst false (aCons (eV 5) aNil)) (aCons (eLst false (aCons (eV 6) aNil)) aNil))))) (aCons (eV 7) aNil)))))))
theorem d_law_shown_right (T : Txt K mg) (G_law_alike_4 : Good P w K mg base 14 (He.ga K "_law_alike") ["told", "due"] (sp_law_alike_4 K)) (G_slips_shown : Good P w K mg base 26 (He.ga K "slips_shown") ["kind", "sheet", "lot", "shown"] (sp_slips_shown K)) (G_law_leaves : Good P w K mg base 2 (He.ga K "_law_leaves") ["base", "run", "r", "rest"] (sp_law_leaves K)) : ∀ (cdv : Value) (A : Around) (outer : List Env) (s : Shared) (H : Hp) (E : XK) (B : Bs), Room 28 (A.deeper (envOfC "_law_shown_right" (defScope s_law_shown_right) s.heap.objs.size (He.ga K "_law_shown_right") cdv)) → PSs (cx0 P w K mg base N_law_shown_right "_law_shown_right" (defScope s_law_shown_right) (He.ga K "_law_shown_right") cdv A outer s H E) (defBody s_law_shown_right) (lS K B (t_law_shown_right K)) := by
  intro cdv A outer s H E B hr
  exact (dss_cons (ds_setLc (o := false) (i := 7) (own := [("k", 8)]) (tg := (.one 8)) rfl sc_law_shown_right.nd rfl rfl (sw_true rfl rfl rfl (by decide +kernel)) (di_range1 rfl T.n_range (da_cons (de_callB call_lenA cd_len rfl T.n_len bt_len (da_cons (dv 3) da_nil)) da_nil)) (blkOk_by (own := [("k", 8)]) (N := N_law_shown_right) (sc := defScope s_law_shown_right) (by decide +kernel)) (by decide) (fun _ _ _ _ _ => (pg_name (i := 8) sc_law_shown_right.nd rfl (Or.inl rfl))) (fun _ _ _ _ _ => (dts_one (dt_cmp op_isNotA od_isNot (de_ix (dv 4) (dv 8) (fun _ _ => rfl)) de_non (nomark _)))) (fun _ _ _ _ _ => (de_ix (dv 3) (dv 8) (fun _ _ => rfl)))) (dss_cons (ds_if (dt_not (dt_tru (de_callG G_law_alike_4 (hr.mono (by decide)) T.g_law_alike (da_cons (de_callG G_slips_shown (hr.mono (by decide)) T.g_slips_shown (da_cons (dv 0) (da_cons (dv 1) (da_cons (de_lst (o := false) da_nil) (da_cons (de_lst (o := false) da_nil) da_nil))))) (da_cons (dv 7) da_nil))))) (dss_one (ds_ret de_bl)) dss_nil) (dss_cons (ds_setLc (o := false) (i := 7) (own := [("k", 8)]) (tg := (.one 8)) rfl sc_law_shown_right.nd rfl rfl (sw_true rfl rfl rfl (by decide +kernel)) (di_range1 rfl T.n_range (da_cons (de_callB call_lenA cd_len rfl T.n_len bt_len (da_cons (dv 3) da_nil)) da_nil)) (blkOk_by (own := [("k", 8)]) (N := N_law_shown_right) (sc := defScope s_law_shown_right) (by decide +kernel)) (by decide) (fun _ _ _ _ _ => (pg_name (i := 8) sc_law_shown_right.nd rfl (Or.inl rfl))) (fun _ _ _ _ _ => (dts_one (dt_tru (de_callG G_law_leaves (hr.mono (by decide)) T.g_law_leaves (da_cons (dv 2) (da_cons (de_ix (dv 4) (dv 8) (fun _ _ => rfl)) (da_cons (dv 5) (da_cons (dv 6) da_nil)))))))) (fun _ _ _ _ _ => (de_ix (dv 3) (dv 8) (fun _ _ => rfl)))) (dss_one (ds_ret (de_callG G_law_alike_4 (hr.mono (by decide)) T.g_law_alike (da_cons (de_callG G_slips_shown (hr.mono (by decide)) T.g_slips_shown (da_cons (dv 0) (da_cons (dv 1) (da_cons (de_lst (o := false) (da_cons (dv 5) da_nil)) (da_cons (de_lst (o := false) (da_cons (dv 6) da_nil)) da_nil))))) (da_cons (dv 7) da_nil))))))))
def t_Written_base (K : PySem.W.Frag) : DS := (sRet (eFld (He.ga K "Written") "held_base" (eV 0)))
theorem d_Written_base (T : Txt K mg) : ∀ (cdv : Value) (A : Around) (outer : List Env) (s : Shared) (H : Hp) (E : XK) (B : Bs), Room 1 (A.deeper (envOfC "Written.base" (defScope s_Written_base) s.heap.objs.size (pga K (He.ga K "Written") "base") cdv)) → PSs (cx0 P w K mg base N_Written_base "Written.base" (defScope s_Written_base) (pga K (He.ga K "Written") "base") cdv A outer s H E) (defBody s_Written_base) (lS K B (t_Written_base K)) := by
  intro cdv A outer s H E B hr
  exact (dss_one (ds_ret (de_fld T.c_Written T.na_Written_held_base (dv 0))))
def t_Written_eq (K : PySem.W.Frag) : DS := (sSeq (sIf (dNot (eTru (eCB (qIsiC (He.ga K "Written")) (aCons (eV 1) (aCons (eC (.raw (.ref (He.ga K "Written")))) aNil))))) (sRet (eC (.bl false))) sNext) (sRet (eBin qEq (eTup (aCons (eFld (He.ga K "Written") "held_base" (eV 0)) (aCons (eFld (He.ga K "Written") "held_figures" (eV 0)) (aCons (eFld (He.ga K "Written") "held_last" (eV 0)) aNil)))) (eTup (aCons (eFld (He.ga K "Written") "held_base" (eV 1)) (aCons (eFld (He.ga K "Written") "held_figures" (eV 1)) (aCons (eFld (He.ga K "Written") "held_last" (eV 1)) aNil)))))))
theorem d_Written_eq (T : Txt K mg) : ∀ (cdv : Value) (A : Around) (outer : List Env) (s : Shared) (H : Hp) (E : XK) (B : Bs), Room 1 (A.deeper (envOfC "Written.__eq__" (defScope s_Written_eq) s.heap.objs.size (He.ma K (He.ga K "Written") "__eq__") cdv)) → PSs (cx0 P w K mg base N_Written_eq "Written.__eq__" (defScope s_Written_eq) (He.ma K (He.ga K "Written") "__eq__") cdv A outer s H E) (defBody s_Written_eq) (lS K B (t_Written_eq K)) := by
  intro cdv A outer s H E B hr
  exact (dss_cons (ds_if (dt_not (dt_tru (de_callB (C8.call_isC T.ic_Written) cd_isiC rfl T.n_isinstance bt_isinstance (da_cons (dv 1) (da_cons (de_cls rfl T.g_Written) da_nil))))) (dss_one (ds_ret de_bl)) dss_nil) (dss_one (ds_ret (de_cmp (op_eqD hr.units) od_eq (de_tup (da_cons (de_fld T.c_Written T.na_Written_held_base (dv 0)) (da_cons (de_fld T.c_Written T.na_Written_held_figures (dv 0)) (da_cons (de_fld T.c_Written T.na_Written_held_last (dv 0)) da_nil)))) (de_tup (da_cons (de_fld T.c_Written T.na_Written_held_base (dv 1)) (da_cons (de_fld T.c_Written T.na_Written_held_figures (dv 1)) (da_cons (de_fld T.c_Written T.na_Written_held_last (dv 1)) da_nil)))) (nomark _)))))
def t_slips_for (K : PySem.W.Frag) : DS := (sSeq (sDrop (eCall (sp_check_alike K) (aCons (eV 0) (aCons (eV 1) aNil)))) (sSeq (sIf (eTest (eBin qNe (eProp (He.ga K "Written") (sp_Written_base K) (eV 2)) (eProp (He.ga K "Sheet") (sp_Sheet_base K) (eV 1)))) sNever sNext) (sRet (eLc false (iS (eCall (sp_all_outcomes K) (aCons (eV 0) (aCons (eV 1) aNil)))) (.tup [3, 4]) (eTest (eBin (qTwo (He.ga K "Written") (He.ga K "Written") (sp_Written_eq K)) (eV 4) (eV 2))) (eV 3) [3, 4]))))
theorem d_slips_for (T : Txt K mg) (G_check_alike : Good P w K mg base 5 (He.ga K "check_alike") ["kind", "sheet"] (sp_check_alike K)) (G_Written_base : Good P w K mg base 2 (pga K (He.ga K "Written") "base") ["self"] (sp_Written_base K)) (G_Sheet_base : Good P w K mg base 2 (pga K (He.ga K "Sheet") "base") ["self"] (sp_Sheet_base K)) (G_all_outcomes : Good P w K mg base 23 (He.ga K "all_outcomes") ["kind", "sheet"] (sp_all_outcomes K)) (G_Written_eq : Good P w K mg base 2 (He.ma K (He.ga K "Written") "__eq__") ["self", "other"] (sp_Written_eq K)) : ∀ (cdv : Value) (A : Around) (outer : List Env) (s : Shared) (H : Hp) (E : XK) (B : Bs), Room 25 (A.deeper (envOfC "slips_for" (defScope s_slips_for) s.heap.objs.size (He.ga K "slips_for") cdv)) → PSs (cx0 P w K mg base N_slips_for "slips_for" (defScope s_slips_for) (He.ga K "slips_for") cdv A outer s H E) (defBody s_slips_for) (lS K B (t_slips_for K)) := by
  intro cdv A outer s H E B hr
  exact (dss_cons (ds_expr (de_callG G_check_alike (hr.mono (by decide)) T.g_check_alike (da_cons (dv 0) (da_cons (dv 1) da_nil)))) (dss_cons (ds_if (dt_cmp (op_neD hr.units) od_ne (de_propG G_Written_base (hr.mono (by decide)) T.c_Written T.p_Written_base (dv 2)) (de_propG G_Sheet_base (hr.mono (by decide)) T.c_Sheet T.p_Sheet_base (dv 1)) (nomark _)) (dss_one ds_never) dss_nil) (dss_one (ds_ret (de_lc (o := false) (own := [("slips", 3), ("result", 4)]) (tg := (.tup [3, 4])) rfl sc_slips_for.nd (di_any (de_callG G_all_outcomes (hr.mono (by decide)) T.g_all_outcomes (da_cons (dv 0) (da_cons (dv 1) da_nil)))) (blkOk_by (own := [("slips", 3), ("result", 4)]) (N := N_slips_for) (sc := defScope s_slips_for) (by decide +kernel)) (by decide) (fun _ _ _ _ _ => (pg_tup rfl (pgs_cons (pg_name (i := 3) sc_slips_for.nd rfl (Or.inl rfl)) (pgs_cons (pg_name (i := 4) sc_slips_for.nd rfl (Or.inl rfl)) pgs_nil)))) (fun _ _ _ _ _ => (dts_one (dt_cmp (op_cmpO G_Written_eq (hr.mono (by decide)) hr.units0 T.sm_Written_eq) od_two (dv 4) (dv 2) (nomark _)))) (fun _ _ _ _ _ => (dv 3)))))))
def t_law_told_right (K : PySem.W.Frag) : DS := (sSeq (sIf (dOr (dNot (eTru (eCB qIsi (aCons (eV 0) (aCons (eC (.raw (.ty "list"))) aNil))))) (eTest (eBin qNe (eLc false (iS (eV 0)) (.one 4) (eTest (eBin (qIn true) (eV 4) (eV 2))) (eV 4) [4]) (eLst false aNil)))) (sRet (eC (.bl false))) sNext) (sRet (eBin qEq (eLc false (iS (eV 0)) (.one 4) (eTest (eBin qNe (eBin qIx (eV 3) (eBM qIdxD (eV 2) (aCons (eV 4) aNil))) (eV 1))) (eV 4) [4]) (eLst false aNil))))
theorem d_law_told_right (T : Txt K mg) : ∀ (cdv : Value) (A : Around) (outer : List Env) (s : Shared) (H : Hp) (E : XK) (B : Bs), Room 1 (A.deeper (envOfC "_law_told_right" (defScope s_law_told_right) s.heap.objs.size (He.ga K "_law_told_right") cdv)) → PSs (cx0 P w K mg base N_law_told_right "_law_told_right" (defScope s_law_told_right) (He.ga K "_law_told_right") cdv A outer s H E) (defBody s_law_told_right) (lS K B (t_law_told_right K)) := by
  intro cdv A outer s H E B hr
  exact (dss_cons (ds_if (PW.pt (dw_or (dt_not (dt_tru (de_callB call_isi cd_isi rfl T.n_isinstance bt_isinstance (da_cons (dv 0) (da_cons (de_ty rfl T.n_list bt_list) da_nil))))) (dw_or1 (dt_cmp (op_neD hr.units) od_ne (de_lc (o := false) (own := [("slips", 4)]) (tg := (.one 4)) rfl sc_law_told_right.nd (di_any (dv 0)) (blkOk_by (own := [("slips", 4)]) (N := N_law_told_right) (sc := defScope s_law_told_right) (by decide +kernel)) (by decide) (fun _ _ _ _ _ => (pg_name (i := 4) sc_law_told_right.nd rfl (Or.inl rfl))) (fun _ _ _ _ _ => (dts_one (dt_cmp (op_notInA (units5 hr)) od_in (dv 4) (dv 2) rfl))) (fun _ _ _ _ _ => (dv 4))) (de_lst (o := false) da_nil) (nomark _))))) (dss_one (ds_ret de_bl)) dss_nil) (dss_one (ds_ret (de_cmp (op_eqD hr.units) od_eq (de_lc (o := false) (own := [("slips", 4)]) (tg := (.one 4)) rfl sc_law_told_right.nd (di_any (dv 0)) (blkOk_by (own := [("slips", 4)]) (N := N_law_told_right) (sc := defScope s_law_told_right) (by decide +kernel)) (by decide) (fun _ _ _ _ _ => (pg_name (i := 4) sc_law_told_right.nd rfl (Or.inl rfl))) (fun _ _ _ _ _ => (dts_one (dt_cmp (op_neD hr.units) od_ne (de_ix (dv 3) (de_bm PySem.F.plainAttrs_list PySem.F.slot_list_index PySem.F.type_list_index (mt_indexD (units5 hr)) md_idxD (dv 2) (da_cons (dv 4) da_nil)) (fun _ _ => rfl)) (dv 1) (nomark _)))) (fun _ _ _ _ _ => (dv 4))) (de_lst (o := false) da_nil) (nomark _)))))
def u_law_holds_0 (K : PySem.W.Frag) : DS := (sSeq (sAsg (eLst true aNil) 21) (sSeq (sAsg (eC (.int 0)) 22) (sSeq (sFor (iR1 (aCons (eCB qLen (aCons (eV 11) aNil)) aNil)) (.one 23) (sIf (dAnd (eTest (eBin qIsNot (eBin qIx (eV 12) (eV 23)) (eC .non))) (eTest (eBin (qIn true) (eBin qIx (eV 12) (eV 23)) (eV 21)))) (sSeq (sDrop (eBM qApp (eV 21) (aCons (eBin qIx (eV 12) (eV 23)) aNil))) (sSeq (sAsg (eCallX (fun _ _ => False) (sp_add_with K) (aCons (eV 15) (aCons (eCB (qList false) (aCons (eBin qIx (eV 11) (eV 23)) aNil)) aNil))) 24) (sSeq (sAsg (eCall (sp_slips_for K) (aCons (eV 9) (aCons (eV 15) (aCons (eV 24) aNil)))) 25) (sSeq (sAsg (eLc false (iR1 (aCons (eCB qLen (aCons (eV 13) aNil)) aNil)) (.one 28) (eTest (eBin qEq (eBin qIx (eV 14) (eV 28)) (eBin qIx (eV 12) (eV 23)))) (eBin qIx (eV 13) (eV 28)) [28]) 26) (sSeq (sIf (dNot (eTru (eCall (sp_law_alike_4 K) (aCons (eCall (sp_slips_for K) (aCons (eV 10) (aCons (eV 15) (aCons (eV 24) aNil)))) (aCons (eV 26) aNil))))) (sRet (eC (.bl false))) sNext) (sSeq (sIf (dOr (dNot (eTru (eCall (sp_law_told_right K) (aCons (eV 25) (aCons (eBin qIx (eV 12) (eV 23)) (aCons (eV 11) (aCons (eV 12) aNil))))))) (eTest (eBin qNe (eBM qCntD (eV 25) (aCons (eBin qIx (eV 11) (eV 23)) aNil)) (eC (.int 1))))) (sRet (eC (.bl false))) sNext) (sAsg (eBin (qAdd false) (eV 22) (eCB qLen (aCons (eV 25) aNil))) 22))))))) sNext)) (sRet (eBin qEq (eV 22) (eCB qLen (aCons (eLc false (iS (eV 12)) (.one 29) (eTest (eBin qIsNot (eV 29) (eC .non))) (eV 29) [29]) aNil)))))))
def u_law_holds_1 (K : PySem.W.Frag) : DS := (sSeq (sAsg (eMake (He.ga K "Sheet") (sp_Sheet_init K) (aCons (eV 2) (aCons (eV 3) (aCons (eCB (qList false) (aCons (eV 4) aNil)) aNil)))) 15) (sSeq (sAsg (eBin (qAdd false) (eC (.int 2)) (eCall (sp_law_draw K) (aCons (eV 1) (aCons (eC (.int 59)) aNil)))) 16) (sSeq (sAsg (eCall (sp_law_draw K) (aCons (eV 1) (aCons (eCB qMin2 (aCons (eV 16) (aCons (eC (.int 12)) aNil))) aNil))) 17) (sSeq (sFor (iS (eLst false (aCons (eTup (aCons (eV 9) (aCons (eV 11) (aCons (eV 12) aNil)))) (aCons (eTup (aCons (eV 10) (aCons (eV 13) (aCons (eV 14) aNil)))) (aCons (eTup (aCons (eV 9) (aCons (eV 11) (aCons (eV 12) aNil)))) aNil))))) (.tup [18, 19, 20]) (sIf (dNot (eTru (eCall (sp_law_shown_right K) (aCons (eV 18) (aCons (eV 15) (aCons (eV 2) (aCons (eV 19) (aCons (eV 20) (aCons (eV 16) (aCons (eV 17) aNil)))))))))) (sRet (eC (.bl false))) sNext)) (u_law_holds_0 K)))))
def t_law_holds (K : PySem.W.Frag) : DS := (sSeq (sAsg (eCall (sp_law_pool K) (aCons (eV 0) (aCons (eC (.int 47)) aNil))) 1) (sSeq (sAsgT (eCall (sp_law_sheet K) (aCons (eV 1) (aCons (eC (.int 4)) (aCons (eC (.int 1)) aNil)))) (.tup [2, 3, 4])) (sSeq (sAsg (eCall (sp_law_some_deeds K) (aCons (eV 1) (aCons (eV 2) (aCons (eV 3) (aCons (eBin (qAdd false) (eC (.int 1)) (eCall (sp_law_draw K) (aCons (eV 1) (aCons (eC (.int 4)) aNil)))) aNil))))) 5) (sSeq (sAsg (eLc false (iS (eCall (sp_law_all_deeds K) (aCons (eV 2) (aCons (eV 3) aNil)))) (.one 27) (eTest (eBin (qIn false) (eV 27) (eV 5))) (eV 27) [27]) 6) (sSeq (sAsg (eCall (sp_law_beside K) (aCons (eV 1) (aCons (eV 2) (aCons (eV 3) (aCons (eV 6) aNil))))) 7) (sSeq (sAsg (eLst false (aCons (eBin (qAdd false) (eC (.int 1)) (eCall (sp_law_draw K) (aCons (eV 1) (aCons (eC (.int 2)) aNil)))) (aCons (eBin (qAdd false) (eC (.int 1)) (eCall (sp_law_draw K) (aCons (eV 1) (aCons (eC (.int 2)) aNil)))) aNil))) 8) (sSeq (sAsg (eMake (He.ga K "Kind") (sp_Kind_init K) (aCons (eV 2) (aCons (eV 3) (aCons (eV 5) (aCons (eBin qIx (eV 8) (eC (.int 0))) aNil))))) 9) (sSeq (sAsg (eMake (He.ga K "Kind") (sp_Kind_init K) (aCons (eV 2) (aCons (eV 3) (aCons (eCB (qList false) (aCons (eV 7) aNil)) (aCons (eBin qIx (eV 8) (eC (.int 1))) aNil))))) 10) (sSeq (sAsg (eCall (sp_law_ordered K) (aCons (eCB qLen (aCons (eV 4) aNil)) (aCons (eV 6) (aCons (eBin qIx (eV 8) (eC (.int 0))) aNil)))) 11) (sSeq (sAsg (eCall (sp_law_outcomes K) (aCons (eV 2) (aCons (eV 4) (aCons (eV 11) aNil)))) 12) (sSeq (sAsg (eCall (sp_law_ordered K) (aCons (eCB qLen (aCons (eV 4) aNil)) (aCons (eV 7) (aCons (eBin qIx (eV 8) (eC (.int 1))) aNil)))) 13) (sSeq (sAsg (eCall (sp_law_outcomes K) (aCons (eV 2) (aCons (eV 4) (aCons (eV 13) aNil)))) 14) (u_law_holds_1 K)))))))))))))
theorem d_law_holds (T : Txt K mg) (G_law_pool : Good P w K mg base 2 (He.ga K "_law_pool") ["cell", "salt"] (sp_law_pool K)) (G_law_sheet : Good P w K mg base 5 (He.ga K "_law_sheet") ["pool", "most_columns", "least_columns"] (sp_law_sheet K)) (G_law_some_deeds : Good P w K mg base 5 (He.ga K "_law_some_deeds") ["pool", "base", "rows", "many"] (sp_law_some_deeds K)) (G_law_draw : Good P w K mg base 2 (He.ga K "_law_draw") ["pool", "many"] (sp_law_draw K)) (G_law_all_deeds : Good P w K mg base 2 (He.ga K "_law_all_deeds") ["base", "rows"] (sp_law_all_deeds K)) (G_law_beside : Good P w K mg base 8 (He.ga K "_law_beside") ["pool", "base", "rows", "deeds"] (sp_law_beside K)) (G_Kind_init : Good P w K mg base 8 (He.ma K (He.ga K "Kind") "__init__") ["self", "base", "rows", "deeds", "most"] (sp_Kind_init K)) (G_law_ordered : Good P w K mg base 2 (He.ga K "_law_ordered") ["many", "deeds", "most"] (sp_law_ordered K)) (G_law_outcomes : Good P w K mg base 5 (He.ga K "_law_outcomes") ["base", "cols", "lists"] (sp_law_outcomes K)) (G_Sheet_init : Good P w K mg base 8 (He.ma K (He.ga K "Sheet") "__init__") ["self", "base", "rows", "columns"] (sp_Sheet_init K)) (G_law_shown_right : Good P w K mg base 29 (He.ga K "_law_shown_right") ["kind", "sheet", "base", "lists", "results", "r", "rest"] (sp_law_shown_right K)) (G_add_with : GoodX P w K mg base 17 (He.ga K "add_with") ["sheet", "slips"] (sp_add_with K)) (G_slips_for : Good P w K mg base 26 (He.ga K "slips_for") ["kind", "sheet", "written"] (sp_slips_for K)) (G_law_alike_4 : Good P w K mg base 14 (He.ga K "_law_alike") ["told", "due"] (sp_law_alike_4 K)) (G_law_told_right : Good P w K mg base 2 (He.ga K "_law_told_right") ["told", "its", "lists", "results"] (sp_law_told_right K)) : ∀ (cdv : Value) (A : Around) (outer : List Env) (s : Shared) (H : Hp) (E : XK) (B : Bs), Room 31 (A.deeper (envOfC "_law_holds" (defScope s_law_holds) s.heap.objs.size (He.ga K "_law_holds") cdv)) → PSs (cx0 P w K mg base N_law_holds "_law_holds" (defScope s_law_holds) (He.ga K "_law_holds") cdv A outer s H E) (defBody s_law_holds) (lS K B (t_law_holds K)) := by
  intro cdv A outer s H E B hr
  have h : PSs (cx0 P w K mg base N_law_holds "_law_holds" (defScope s_law_holds) (He.ga K "_law_holds") cdv A outer s H E) (defBody s_law_holds) (lS K B (sSeq (sAsg (eCall (sp_law_pool K) (aCons (eV 0) (aCons (eC (.int 47)) aNil))) 1) (sSeq (sAsgT (eCall (sp_law_sheet K) (aCons (eV 1) (aCons (eC (.int 4)) (aCons (eC (.int 1)) aNil)))) (.tup [2, 3, 4])) (sSeq (sAsg (eCall (sp_law_some_deeds K) (aCons (eV 1) (aCons (eV 2) (aCons (eV 3) (aCons (eBin (qAdd false) (eC (.int 1)) (eCall (sp_law_draw K) (aCons (eV 1) (aCons (eC (.int 4)) aNil)))) aNil))))) 5) (sSeq (sAsg (eLc false (iS (eCall (sp_law_all_deeds K) (aCons (eV 2) (aCons (eV 3) aNil)))) (.one 27) (eTest (eBin (qIn false) (eV 27) (eV 5))) (eV 27) [27]) 6) (sSeq (sAsg (eCall (sp_law_beside K) (aCons (eV 1) (aCons (eV 2) (aCons (eV 3) (aCons (eV 6) aNil))))) 7) (sSeq (sAsg (eLst false (aCons (eBin (qAdd false) (eC (.int 1)) (eCall (sp_law_draw K) (aCons (eV 1) (aCons (eC (.int 2)) aNil)))) (aCons (eBin (qAdd false) (eC (.int 1)) (eCall (sp_law_draw K) (aCons (eV 1) (aCons (eC (.int 2)) aNil)))) aNil))) 8) (sSeq (sAsg (eMake (He.ga K "Kind") (sp_Kind_init K) (aCons (eV 2) (aCons (eV 3) (aCons (eV 5) (aCons (eBin qIx (eV 8) (eC (.int 0))) aNil))))) 9) (sSeq (sAsg (eMake (He.ga K "Kind") (sp_Kind_init K) (aCons (eV 2) (aCons (eV 3) (aCons (eCB (qList false) (aCons (eV 7) aNil)) (aCons (eBin qIx (eV 8) (eC (.int 1))) aNil))))) 10) (sSeq (sAsg (eCall (sp_law_ordered K) (aCons (eCB qLen (aCons (eV 4) aNil)) (aCons (eV 6) (aCons (eBin qIx (eV 8) (eC (.int 0))) aNil)))) 11) (sSeq (sAsg (eCall (sp_law_outcomes K) (aCons (eV 2) (aCons (eV 4) (aCons (eV 11) aNil)))) 12) (sSeq (sAsg (eCall (sp_law_ordered K) (aCons (eCB qLen (aCons (eV 4) aNil)) (aCons (eV 7) (aCons (eBin qIx (eV 8) (eC (.int 1))) aNil)))) 13) (sSeq (sAsg (eCall (sp_law_outcomes K) (aCons (eV 2) (aCons (eV 4) (aCons (eV 13) aNil)))) 14) (sSeq (sAsg (eMake (He.ga K "Sheet") (sp_Sheet_init K) (aCons (eV 2) (aCons (eV 3) (aCons (eCB (qList false) (aCons (eV 4) aNil)) aNil)))) 15) (sSeq (sAsg (eBin (qAdd false) (eC (.int 2)) (eCall (sp_law_draw K) (aCons (eV 1) (aCons (eC (.int 59)) aNil)))) 16) (sSeq (sAsg (eCall (sp_law_draw K) (aCons (eV 1) (aCons (eCB qMin2 (aCons (eV 16) (aCons (eC (.int 12)) aNil))) aNil))) 17) (sSeq (sFor (iS (eLst false (aCons (eTup (aCons (eV 9) (aCons (eV 11) (aCons (eV 12) aNil)))) (aCons (eTup (aCons (eV 10) (aCons (eV 13) (aCons (eV 14) aNil)))) (aCons (eTup (aCons (eV 9) (aCons (eV 11) (aCons (eV 12) aNil)))) aNil))))) (.tup [18, 19, 20]) (sIf (dNot (eTru (eCall (sp_law_shown_right K) (aCons (eV 18) (aCons (eV 15) (aCons (eV 2) (aCons (eV 19) (aCons (eV 20) (aCons (eV 16) (aCons (eV 17) aNil)))))))))) (sRet (eC (.bl false))) sNext)) (sSeq (sAsg (eLst true aNil) 21) (sSeq (sAsg (eC (.int 0)) 22) (sSeq (sFor (iR1 (aCons (eCB qLen (aCons (eV 11) aNil)) aNil)) (.one 23) (sIf (dAnd (eTest (eBin qIsNot (eBin qIx (eV 12) (eV 23)) (eC .non))) (eTest (eBin (qIn true) (eBin qIx (eV 12) (eV 23)) (eV 21)))) (sSeq (sDrop (eBM qApp (eV 21) (aCons (eBin qIx (eV 12) (eV 23)) aNil))) (sSeq (sAsg (eCallX (fun _ _ => False) (sp_add_with K) (aCons (eV 15) (aCons (eCB (qList false) (aCons (eBin qIx (eV 11) (eV 23)) aNil)) aNil))) 24) (sSeq (sAsg (eCall (sp_slips_for K) (aCons (eV 9) (aCons (eV 15) (aCons (eV 24) aNil)))) 25) (sSeq (sAsg (eLc false (iR1 (aCons (eCB qLen (aCons (eV 13) aNil)) aNil)) (.one 28) (eTest (eBin qEq (eBin qIx (eV 14) (eV 28)) (eBin qIx (eV 12) (eV 23)))) (eBin qIx (eV 13) (eV 28)) [28]) 26) (sSeq (sIf (dNot (eTru (eCall (sp_law_alike_4 K) (aCons (eCall (sp_slips_for K) (aCons (eV 10) (aCons (eV 15) (aCons (eV 24) aNil)))) (aCons (eV 26) aNil))))) (sRet (eC (.bl false))) sNext) (sSeq (sIf (dOr (dNot (eTru (eCall (sp_law_told_right K) (aCons (eV 25) (aCons (eBin qIx (eV 12) (eV 23)) (aCons (eV 11) (aCons (eV 12) aNil))))))) (eTest (eBin qNe (eBM qCntD (eV 25) (aCons (eBin qIx (eV 11) (eV 23)) aNil)) (eC (.int 1))))) (sRet (eC (.bl false))) sNext) (sAsg (eBin (qAdd false) (eV 22) (eCB qLen (aCons (eV 25) aNil))) 22))))))) sNext)) (sRet (eBin qEq (eV 22) (eCB qLen (aCons (eLc false (iS (eV 12)) (.one 29) (eTest (eBin qIsNot (eV 29) (eC .non))) (eV 29) [29]) aNil)))))))))))))))))))))))) := (dss_cons (ds_set (i := 1) sc_law_holds.nd rfl (Or.inl rfl) (de_callG G_law_pool (hr.mono (by decide)) T.g_law_pool (da_cons (dv 0) (da_cons de_int da_nil)))) (dss_cons (ds_asgT (tg := (.tup [2, 3, 4])) (de_callG G_law_sheet (hr.mono (by decide)) T.g_law_sheet (da_cons (dv 1) (da_cons de_int (da_cons de_int da_nil)))) (pg_tup rfl (pgs_cons (pg_name (i := 2) sc_law_holds.nd rfl (Or.inl rfl)) (pgs_cons (pg_name (i := 3) sc_law_holds.nd rfl (Or.inl rfl)) (pgs_cons (pg_name (i := 4) sc_law_holds.nd rfl (Or.inl rfl)) pgs_nil))))) (dss_cons (ds_set (i := 5) sc_law_holds.nd rfl (Or.inr rfl) (de_callG G_law_some_deeds (hr.mono (by decide)) T.g_law_some_deeds (da_cons (dv 1) (da_cons (dv 2) (da_cons (dv 3) (da_cons (de_bin op_addA (od_add (o := false)) de_int (de_callG G_law_draw (hr.mono (by decide)) T.g_law_draw (da_cons (dv 1) (da_cons de_int da_nil)))) da_nil)))))) (dss_cons (ds_setLc (o := false) (i := 6) (own := [("act", 27)]) (tg := (.one 27)) rfl sc_law_holds.nd rfl rfl (sw_true rfl rfl rfl (by decide +kernel)) (di_any (de_callG G_law_all_deeds (hr.mono (by decide)) T.g_law_all_deeds (da_cons (dv 2) (da_cons (dv 3) da_nil)))) (blkOk_by (own := [("act", 27)]) (N := N_law_holds) (sc := defScope s_law_holds) (by decide +kernel)) (by decide) (fun _ _ _ _ _ => (pg_name (i := 27) sc_law_holds.nd rfl (Or.inl rfl))) (fun _ _ _ _ _ => (dts_one (dt_cmp (op_inA (units5 hr)) od_in (dv 27) (dv 5) rfl))) (fun _ _ _ _ _ => (dv 27))) (dss_cons (ds_set (i := 7) sc_law_holds.nd rfl (Or.inl rfl) (de_callG G_law_beside (hr.mono (by decide)) T.g_law_beside (da_cons (dv 1) (da_cons (dv 2) (da_cons (dv 3) (da_cons (dv 6) da_nil)))))) (dss_cons (ds_set (i := 8) sc_law_holds.nd rfl (Or.inl rfl) (de_lst (o := false) (da_cons (de_bin op_addA (od_add (o := false)) de_int (de_callG G_law_draw (hr.mono (by decide)) T.g_law_draw (da_cons (dv 1) (da_cons de_int da_nil)))) (da_cons (de_bin op_addA (od_add (o := false)) de_int (de_callG G_law_draw (hr.mono (by decide)) T.g_law_draw (da_cons (dv 1) (da_cons de_int da_nil)))) da_nil)))) (dss_cons (ds_set (i := 9) sc_law_holds.nd rfl (Or.inl rfl) (de_makeG G_Kind_init (hr.mono (by decide)) T.mk_Kind T.g_Kind (da_cons (dv 2) (da_cons (dv 3) (da_cons (dv 5) (da_cons (de_ix (dv 8) de_int (fun _ _ => rfl)) da_nil)))))) (dss_cons (ds_set (i := 10) sc_law_holds.nd rfl (Or.inl rfl) (de_makeG G_Kind_init (hr.mono (by decide)) T.mk_Kind T.g_Kind (da_cons (dv 2) (da_cons (dv 3) (da_cons (de_callTy call_listA (cd_list (o := false)) rfl T.n_list bt_list (da_cons (dv 7) da_nil)) (da_cons (de_ix (dv 8) de_int (fun _ _ => rfl)) da_nil)))))) (dss_cons (ds_set (i := 11) sc_law_holds.nd rfl (Or.inl rfl) (de_callG G_law_ordered (hr.mono (by decide)) T.g_law_ordered (da_cons (de_callB call_lenA cd_len rfl T.n_len bt_len (da_cons (dv 4) da_nil)) (da_cons (dv 6) (da_cons (de_ix (dv 8) de_int (fun _ _ => rfl)) da_nil))))) (dss_cons (ds_set (i := 12) sc_law_holds.nd rfl (Or.inr rfl) (de_callG G_law_outcomes (hr.mono (by decide)) T.g_law_outcomes (da_cons (dv 2) (da_cons (dv 4) (da_cons (dv 11) da_nil))))) (dss_cons (ds_set (i := 13) sc_law_holds.nd rfl (Or.inr rfl) (de_callG G_law_ordered (hr.mono (by decide)) T.g_law_ordered (da_cons (de_callB call_lenA cd_len rfl T.n_len bt_len (da_cons (dv 4) da_nil)) (da_cons (dv 7) (da_cons (de_ix (dv 8) de_int (fun _ _ => rfl)) da_nil))))) (dss_cons (ds_set (i := 14) sc_law_holds.nd rfl (Or.inr rfl) (de_callG G_law_outcomes (hr.mono (by decide)) T.g_law_outcomes (da_cons (dv 2) (da_cons (dv 4) (da_cons (dv 13) da_nil))))) (dss_cons (ds_set (i := 15) sc_law_holds.nd rfl (Or.inl rfl) (de_makeG G_Sheet_init (hr.mono (by decide)) T.mk_Sheet T.g_Sheet (da_cons (dv 2) (da_cons (dv 3) (da_cons (de_callTy call_listA (cd_list (o := false)) rfl T.n_list bt_list (da_cons (dv 4) da_nil)) da_nil))))) (dss_cons (ds_set (i := 16) sc_law_holds.nd rfl (Or.inl rfl) (de_bin op_addA (od_add (o := false)) de_int (de_callG G_law_draw (hr.mono (by decide)) T.g_law_draw (da_cons (dv 1) (da_cons de_int da_nil))))) (dss_cons (ds_set (i := 17) sc_law_holds.nd rfl (Or.inl rfl) (de_callG G_law_draw (hr.mono (by decide)) T.g_law_draw (da_cons (dv 1) (da_cons (de_callB (call_min2 rfl) cd_min2 rfl T.n_min bt_min (da_cons (dv 16) (da_cons de_int da_nil))) da_nil)))) (dss_cons (ds_for (tg := (.tup [18, 19, 20])) PassesOwn.never rfl (di_any (de_lst (o := false) (da_cons (de_tup (da_cons (dv 9) (da_cons (dv 11) (da_cons (dv 12) da_nil)))) (da_cons (de_tup (da_cons (dv 10) (da_cons (dv 13) (da_cons (dv 14) da_nil)))) (da_cons (de_tup (da_cons (dv 9) (da_cons (dv 11) (da_cons (dv 12) da_nil)))) da_nil))))) (pg_tup rfl (pgs_cons (pg_name (i := 18) sc_law_holds.nd rfl (Or.inl rfl)) (pgs_cons (pg_name (i := 19) sc_law_holds.nd rfl (Or.inl rfl)) (pgs_cons (pg_name (i := 20) sc_law_holds.nd rfl (Or.inl rfl)) pgs_nil)))) (dss_one (ds_if (dt_not (dt_tru (de_callG G_law_shown_right (hr.mono (by decide)) T.g_law_shown_right (da_cons (dv 18) (da_cons (dv 15) (da_cons (dv 2) (da_cons (dv 19) (da_cons (dv 20) (da_cons (dv 16) (da_cons (dv 17) da_nil)))))))))) (dss_one (ds_ret de_bl)) dss_nil))) (dss_cons (ds_set (i := 21) sc_law_holds.nd rfl (Or.inl rfl) (de_lst (o := true) da_nil)) (dss_cons (ds_set (i := 22) sc_law_holds.nd rfl (Or.inl rfl) de_int) (dss_cons (ds_for (tg := (.one 23)) PassesOwn.never rfl (di_range1 rfl T.n_range (da_cons (de_callB call_lenA cd_len rfl T.n_len bt_len (da_cons (dv 11) da_nil)) da_nil)) (pg_name (i := 23) sc_law_holds.nd rfl (Or.inr rfl)) (dss_one (ds_if (PW.pt (dw_and (dt_cmp op_isNotA od_isNot (de_ix (dv 12) (dv 23) (fun _ _ => rfl)) de_non (nomark _)) (dw_and1 (dt_cmp (op_notInA (units5 hr)) od_in (de_ix (dv 12) (dv 23) (fun _ _ => rfl)) (dv 21) rfl)))) (dss_cons (ds_expr (de_bm PySem.F.plainAttrs_list PySem.F.slot_list_append PySem.F.type_list_append mt_append md_app (dv 21) (da_cons (de_ix (dv 12) (dv 23) (fun _ _ => rfl)) da_nil))) (dss_cons (ds_set (i := 24) sc_law_holds.nd rfl (Or.inl rfl) (de_callX G_add_with XT.never (hr.mono (by decide)) T.g_add_with (da_cons (dv 15) (da_cons (de_callTy call_listA (cd_list (o := false)) rfl T.n_list bt_list (da_cons (de_ix (dv 11) (dv 23) (fun _ _ => rfl)) da_nil)) da_nil)))) (dss_cons (ds_set (i := 25) sc_law_holds.nd rfl (Or.inl rfl) (de_callG G_slips_for (hr.mono (by decide)) T.g_slips_for (da_cons (dv 9) (da_cons (dv 15) (da_cons (dv 24) da_nil))))) (dss_cons (ds_setLc (o := false) (i := 26) (own := [("n", 28)]) (tg := (.one 28)) rfl sc_law_holds.nd rfl rfl (sw_true rfl rfl rfl (by decide +kernel)) (di_range1 rfl T.n_range (da_cons (de_callB call_lenA cd_len rfl T.n_len bt_len (da_cons (dv 13) da_nil)) da_nil)) (blkOk_by (own := [("n", 28)]) (N := N_law_holds) (sc := defScope s_law_holds) (by decide +kernel)) (by decide) (fun _ _ _ _ _ => (pg_name (i := 28) sc_law_holds.nd rfl (Or.inl rfl))) (fun _ _ _ _ _ => (dts_one (dt_cmp (op_eqD hr.units) od_eq (de_ix (dv 14) (dv 28) (fun _ _ => rfl)) (de_ix (dv 12) (dv 23) (fun _ _ => rfl)) (nomark _)))) (fun _ _ _ _ _ => (de_ix (dv 13) (dv 28) (fun _ _ => rfl)))) (dss_cons (ds_if (dt_not (dt_tru (de_callG G_law_alike_4 (hr.mono (by decide)) T.g_law_alike (da_cons (de_callG G_slips_for (hr.mono (by decide)) T.g_slips_for (da_cons (dv 10) (da_cons (dv 15) (da_cons (dv 24) da_nil)))) (da_cons (dv 26) da_nil))))) (dss_one (ds_ret de_bl)) dss_nil) (dss_cons (ds_if (PW.pt (dw_or (dt_not (dt_tru (de_callG G_law_told_right (hr.mono (by decide)) T.g_law_told_right (da_cons (dv 25) (da_cons (de_ix (dv 12) (dv 23) (fun _ _ => rfl)) (da_cons (dv 11) (da_cons (dv 12) da_nil))))))) (dw_or1 (dt_cmp (op_neD hr.units) od_ne (de_bm PySem.F.plainAttrs_list PySem.F.slot_list_count PySem.F.type_list_count (mt_cntD (units5 hr)) md_cntD (dv 25) (da_cons (de_ix (dv 11) (dv 23) (fun _ _ => rfl)) da_nil)) de_int (nomark _))))) (dss_one (ds_ret de_bl)) dss_nil) (dss_one (ds_set (i := 22) sc_law_holds.nd rfl (Or.inl rfl) (de_bin op_addA (od_add (o := false)) (dv 22) (de_callB call_lenA cd_len rfl T.n_len bt_len (da_cons (dv 25) da_nil))))))))))) dss_nil))) (dss_one (ds_ret (de_cmp (op_eqD hr.units) od_eq (dv 22) (de_callB call_lenA cd_len rfl T.n_len bt_len (da_cons (de_lc (o := false) (own := [("run", 29)]) (tg := (.one 29)) rfl sc_law_holds.nd (di_any (dv 12)) (blkOk_by (own := [("run", 29)]) (N := N_law_holds) (sc := defScope s_law_holds) (by decide +kernel)) (by decide) (fun _ _ _ _ _ => (pg_name (i := 29) sc_law_holds.nd rfl (Or.inl rfl))) (fun _ _ _ _ _ => (dts_one (dt_cmp op_isNotA od_isNot (dv 29) de_non (nomark _)))) (fun _ _ _ _ _ => (dv 29))) da_nil)) (nomark _)))))))))))))))))))))))
  exact h
def t_law (K : PySem.W.Frag) : DS := (sSeq (sFor (iS (eSl false (eBin (qCatF false) (eV 0) (eLst false (aCons (eC (.int 4)) aNil))) oNone (oSome (eC (.int 2))))) (.one 1) (sIf (dNot (eTru (eCall (sp_law_holds K) (aCons (eV 1) aNil)))) (sRet (eC (.bl false))) sNext)) (sRet (eC (.bl true))))
theorem d_law (T : Txt K mg) (G_law_holds : Good P w K mg base 32 (He.ga K "_law_holds") ["cell"] (sp_law_holds K)) : ∀ (cdv : Value) (A : Around) (outer : List Env) (s : Shared) (H : Hp) (E : XK) (B : Bs), Room 34 (A.deeper (envOfC "law" (defScope s_law) s.heap.objs.size (He.ga K "law") cdv)) → PSs (cx0 P w K mg base N_law "law" (defScope s_law) (He.ga K "law") cdv A outer s H E) (defBody s_law) (lS K B (t_law K)) := by
  intro cdv A outer s H E B hr
  exact (dss_cons (ds_for (tg := (.one 1)) PassesOwn.never rfl (di_any (de_slice (o := false) (de_bin op_catF (od_catF (o := false)) (dv 0) (de_lst (o := false) (da_cons de_int da_nil))) do_none (do_some de_int))) (pg_name (i := 1) sc_law.nd rfl (Or.inl rfl)) (dss_one (ds_if (dt_not (dt_tru (de_callG G_law_holds (hr.mono (by decide)) T.g_law_holds (da_cons (dv 1) da_nil)))) (dss_one (ds_ret de_bl)) dss_nil))) (dss_one (ds_ret de_bl)))
end
local macro_rules | `(tactic| walk_at "v") => `(tactic| repeat' (first
  | ((with_reducible refine v_varX ?_); (refine ⟨_, rfl, ?_⟩))
  | with_reducible refine v_c ?_
  | with_reducible refine v_seq ?_
  | with_reducible refine v_bin ?_
  | with_reducible refine v_asg ?_
  | with_reducible refine v_acons ?_
  | with_reducible refine v_anil ?_
  | with_reducible refine v_test ?_
  | with_reducible refine v_bl ?_
  | with_reducible refine v_in ?_
  | with_reducible refine v_call ?_
  | with_reducible refine v_cb ?_
  | with_reducible refine v_if ?_
  | with_reducible refine v_ret ?_
  | with_reducible refine v_addI ?_
  | with_reducible refine v_subI ?_
  | with_reducible refine v_eqI ?_
  | with_reducible refine v_neI ?_
  | with_reducible refine v_ltI ?_
  | with_reducible refine v_leI ?_
  | with_reducible refine v_gtI ?_
  | with_reducible refine v_geI ?_
  | with_reducible refine v_intI ?_
  | with_reducible refine v_intB ?_
  | with_reducible refine v_T ?_
  | with_reducible refine v_F ?_
  | with_reducible refine v_dnot ?_
  | with_reducible refine v_dand ?_
  | with_reducible refine v_dor ?_
  | with_reducible refine v_dyes ?_
  | with_reducible refine v_enot ?_
  | with_reducible refine v_eand ?_
  | with_reducible refine v_eor ?_
  | with_reducible refine v_eif ?_
  | with_reducible refine v_chain ?_
  | with_reducible refine v_tru ?_
  | with_reducible refine v_tup ?_
  | with_reducible refine v_lst ?_
  | with_reducible refine v_lc ?_
  | with_reducible refine v_for ?_
  | ((with_reducible refine v_j1X ?_); (refine ⟨by omega, ?_⟩))
  | ((with_reducible refine v_j2X ?_); (refine ⟨by omega, ?_⟩))
  | with_reducible refine v_newF ?_
  | with_reducible refine v_newC ?_
  | with_reducible refine v_sl ?_
  | with_reducible refine v_onone ?_
  | with_reducible refine v_osome ?_
  | with_reducible refine v_bm ?_
  | with_reducible refine v_bm0 ?_
  | with_reducible refine v_next ?_
  | with_reducible refine v_drop ?_
  | with_reducible refine v_retN ?_
  | with_reducible refine v_asgT ?_
  | with_reducible refine v_iS ?_
  | with_reducible refine v_iR1 ?_
  | with_reducible refine v_iR2 ?_
  | with_reducible refine v_prop ?_
  | with_reducible refine v_fld ?_
  | with_reducible refine v_meth ?_
  | with_reducible refine v_make ?_
  | with_reducible refine v_nthn ?_
  | with_reducible refine v_rthn ?_
  | with_reducible refine v_bthn ?_
  | with_reducible refine v_cthn ?_
  | with_reducible refine v_nlp ?_
  | with_reducible refine v_rlp ?_
  | with_reducible refine v_blp ?_
  | with_reducible refine v_clp ?_
  | with_reducible refine v_nfn ?_
  | with_reducible refine v_rfn ?_
  | ((with_reducible refine v_isXT ?_); (refine ⟨_, (by first | exact rfl | assumption), ?_⟩); (refine ⟨rfl, rfl, ?_⟩))
  | ((with_reducible refine v_isXF ?_); (refine ⟨_, (by first | exact rfl | assumption), ?_⟩); (refine ⟨rfl, rfl, ?_⟩))
  | ((with_reducible refine v_ixTX ?_); (refine ⟨_, rfl, ?_⟩))
  | ((with_reducible refine v_ixCx ?_); (refine ⟨_, _, (by first | assumption | exact DL.app_get | exact DL.set_get (by first | assumption | exact DL.app_get | exact DL.set_get (by first | assumption | exact DL.app_get | exact DL.set_get (by first | assumption | exact DL.app_get | exact DL.set_get (by first | assumption | exact DL.app_get | exact DL.set_get (by first | assumption | exact DL.app_get) | exact DL.app_get_lt (by first | assumption | exact DL.app_get)) | exact DL.app_get_lt (by first | assumption | exact DL.app_get | exact DL.set_get (by first | assumption | exact DL.app_get) | exact DL.app_get_lt (by first | assumption | exact DL.app_get))) | exact DL.app_get_lt (by first | assumption | exact DL.app_get | exact DL.set_get (by first | assumption | exact DL.app_get | exact DL.set_get (by first | assumption | exact DL.app_get) | exact DL.app_get_lt (by first | assumption | exact DL.app_get)) | exact DL.app_get_lt (by first | assumption | exact DL.app_get | exact DL.set_get (by first | assumption | exact DL.app_get) | exact DL.app_get_lt (by first | assumption | exact DL.app_get)))) | exact DL.app_get_lt (by first | assumption | exact DL.app_get | exact DL.set_get (by first | assumption | exact DL.app_get | exact DL.set_get (by first | assumption | exact DL.app_get | exact DL.set_get (by first | assumption | exact DL.app_get) | exact DL.app_get_lt (by first | assumption | exact DL.app_get)) | exact DL.app_get_lt (by first | assumption | exact DL.app_get | exact DL.set_get (by first | assumption | exact DL.app_get) | exact DL.app_get_lt (by first | assumption | exact DL.app_get))) | exact DL.app_get_lt (by first | assumption | exact DL.app_get | exact DL.set_get (by first | assumption | exact DL.app_get | exact DL.set_get (by first | assumption | exact DL.app_get) | exact DL.app_get_lt (by first | assumption | exact DL.app_get)) | exact DL.app_get_lt (by first | assumption | exact DL.app_get | exact DL.set_get (by first | assumption | exact DL.app_get) | exact DL.app_get_lt (by first | assumption | exact DL.app_get))))) | exact DL.app_get_lt (by first | assumption | exact DL.app_get | exact DL.set_get (by first | assumption | exact DL.app_get | exact DL.set_get (by first | assumption | exact DL.app_get | exact DL.set_get (by first | assumption | exact DL.app_get | exact DL.set_get (by first | assumption | exact DL.app_get) | exact DL.app_get_lt (by first | assumption | exact DL.app_get)) | exact DL.app_get_lt (by first | assumption | exact DL.app_get | exact DL.set_get (by first | assumption | exact DL.app_get) | exact DL.app_get_lt (by first | assumption | exact DL.app_get))) | exact DL.app_get_lt (by first | assumption | exact DL.app_get | exact DL.set_get (by first | assumption | exact DL.app_get | exact DL.set_get (by first | assumption | exact DL.app_get) | exact DL.app_get_lt (by first | assumption | exact DL.app_get)) | exact DL.app_get_lt (by first | assumption | exact DL.app_get | exact DL.set_get (by first | assumption | exact DL.app_get) | exact DL.app_get_lt (by first | assumption | exact DL.app_get)))) | exact DL.app_get_lt (by first | assumption | exact DL.app_get | exact DL.set_get (by first | assumption | exact DL.app_get | exact DL.set_get (by first | assumption | exact DL.app_get | exact DL.set_get (by first | assumption | exact DL.app_get) | exact DL.app_get_lt (by first | assumption | exact DL.app_get)) | exact DL.app_get_lt (by first | assumption | exact DL.app_get | exact DL.set_get (by first | assumption | exact DL.app_get) | exact DL.app_get_lt (by first | assumption | exact DL.app_get))) | exact DL.app_get_lt (by first | assumption | exact DL.app_get | exact DL.set_get (by first | assumption | exact DL.app_get | exact DL.set_get (by first | assumption | exact DL.app_get) | exact DL.app_get_lt (by first | assumption | exact DL.app_get)) | exact DL.app_get_lt (by first | assumption | exact DL.app_get | exact DL.set_get (by first | assumption | exact DL.app_get) | exact DL.app_get_lt (by first | assumption | exact DL.app_get)))))), rfl, ?_⟩))
  | ((with_reducible refine v_szX ?_); (refine ⟨rfl, ?_⟩))
  | ((with_reducible refine v_fdivX ?_); (refine ⟨.inl ⟨by omega, by omega⟩, ?_⟩))
  | ((with_reducible refine v_mulX ?_); (first | refine ⟨.inl (.inr ⟨by omega, by omega⟩), ?_⟩ | refine ⟨.inl (.inl ⟨by omega, by omega⟩), ?_⟩))
  | ((with_reducible refine v_powX ?_); (refine ⟨⟨by decide, by decide, by decide⟩, ?_⟩))
  | ((with_reducible refine v_modX ?_); (refine ⟨by omega, ?_⟩))
  | with_reducible refine v_sub ?_
  | with_reducible refine v_rev ?_
  | with_reducible refine v_tupT ?_
  | ((with_reducible refine v_subX ?_); refine ⟨_, _, _, _, rfl, (by first | assumption | exact DL.app_get | exact DL.set_get (by first | assumption | exact DL.app_get | exact DL.set_get (by first | assumption | exact DL.app_get | exact DL.set_get (by first | assumption | exact DL.app_get | exact DL.set_get (by first | assumption | exact DL.app_get | exact DL.set_get (by first | assumption | exact DL.app_get) | exact DL.app_get_lt (by first | assumption | exact DL.app_get)) | exact DL.app_get_lt (by first | assumption | exact DL.app_get | exact DL.set_get (by first | assumption | exact DL.app_get) | exact DL.app_get_lt (by first | assumption | exact DL.app_get))) | exact DL.app_get_lt (by first | assumption | exact DL.app_get | exact DL.set_get (by first | assumption | exact DL.app_get | exact DL.set_get (by first | assumption | exact DL.app_get) | exact DL.app_get_lt (by first | assumption | exact DL.app_get)) | exact DL.app_get_lt (by first | assumption | exact DL.app_get | exact DL.set_get (by first | assumption | exact DL.app_get) | exact DL.app_get_lt (by first | assumption | exact DL.app_get)))) | exact DL.app_get_lt (by first | assumption | exact DL.app_get | exact DL.set_get (by first | assumption | exact DL.app_get | exact DL.set_get (by first | assumption | exact DL.app_get | exact DL.set_get (by first | assumption | exact DL.app_get) | exact DL.app_get_lt (by first | assumption | exact DL.app_get)) | exact DL.app_get_lt (by first | assumption | exact DL.app_get | exact DL.set_get (by first | assumption | exact DL.app_get) | exact DL.app_get_lt (by first | assumption | exact DL.app_get))) | exact DL.app_get_lt (by first | assumption | exact DL.app_get | exact DL.set_get (by first | assumption | exact DL.app_get | exact DL.set_get (by first | assumption | exact DL.app_get) | exact DL.app_get_lt (by first | assumption | exact DL.app_get)) | exact DL.app_get_lt (by first | assumption | exact DL.app_get | exact DL.set_get (by first | assumption | exact DL.app_get) | exact DL.app_get_lt (by first | assumption | exact DL.app_get))))) | exact DL.app_get_lt (by first | assumption | exact DL.app_get | exact DL.set_get (by first | assumption | exact DL.app_get | exact DL.set_get (by first | assumption | exact DL.app_get | exact DL.set_get (by first | assumption | exact DL.app_get | exact DL.set_get (by first | assumption | exact DL.app_get) | exact DL.app_get_lt (by first | assumption | exact DL.app_get)) | exact DL.app_get_lt (by first | assumption | exact DL.app_get | exact DL.set_get (by first | assumption | exact DL.app_get) | exact DL.app_get_lt (by first | assumption | exact DL.app_get))) | exact DL.app_get_lt (by first | assumption | exact DL.app_get | exact DL.set_get (by first | assumption | exact DL.app_get | exact DL.set_get (by first | assumption | exact DL.app_get) | exact DL.app_get_lt (by first | assumption | exact DL.app_get)) | exact DL.app_get_lt (by first | assumption | exact DL.app_get | exact DL.set_get (by first | assumption | exact DL.app_get) | exact DL.app_get_lt (by first | assumption | exact DL.app_get)))) | exact DL.app_get_lt (by first | assumption | exact DL.app_get | exact DL.set_get (by first | assumption | exact DL.app_get | exact DL.set_get (by first | assumption | exact DL.app_get | exact DL.set_get (by first | assumption | exact DL.app_get) | exact DL.app_get_lt (by first | assumption | exact DL.app_get)) | exact DL.app_get_lt (by first | assumption | exact DL.app_get | exact DL.set_get (by first | assumption | exact DL.app_get) | exact DL.app_get_lt (by first | assumption | exact DL.app_get))) | exact DL.app_get_lt (by first | assumption | exact DL.app_get | exact DL.set_get (by first | assumption | exact DL.app_get | exact DL.set_get (by first | assumption | exact DL.app_get) | exact DL.app_get_lt (by first | assumption | exact DL.app_get)) | exact DL.app_get_lt (by first | assumption | exact DL.app_get | exact DL.set_get (by first | assumption | exact DL.app_get) | exact DL.app_get_lt (by first | assumption | exact DL.app_get)))))), rfl, rfl, ?_⟩)
  | with_reducible refine v_break ?_
  | with_reducible refine v_cont ?_
  | with_reducible refine v_truB' ?_
  | with_reducible refine v_nT ?_
  | with_reducible refine v_nF ?_
  | ((with_reducible refine v_itF ?_); (refine ⟨_, (by first | exact rfl | assumption), ?_⟩))
  | ((with_reducible refine v_itC ?_); (refine ⟨_, (by first | assumption | exact DL.app_get | exact DL.set_get (by first | assumption | exact DL.app_get | exact DL.set_get (by first | assumption | exact DL.app_get | exact DL.set_get (by first | assumption | exact DL.app_get | exact DL.set_get (by first | assumption | exact DL.app_get | exact DL.set_get (by first | assumption | exact DL.app_get) | exact DL.app_get_lt (by first | assumption | exact DL.app_get)) | exact DL.app_get_lt (by first | assumption | exact DL.app_get | exact DL.set_get (by first | assumption | exact DL.app_get) | exact DL.app_get_lt (by first | assumption | exact DL.app_get))) | exact DL.app_get_lt (by first | assumption | exact DL.app_get | exact DL.set_get (by first | assumption | exact DL.app_get | exact DL.set_get (by first | assumption | exact DL.app_get) | exact DL.app_get_lt (by first | assumption | exact DL.app_get)) | exact DL.app_get_lt (by first | assumption | exact DL.app_get | exact DL.set_get (by first | assumption | exact DL.app_get) | exact DL.app_get_lt (by first | assumption | exact DL.app_get)))) | exact DL.app_get_lt (by first | assumption | exact DL.app_get | exact DL.set_get (by first | assumption | exact DL.app_get | exact DL.set_get (by first | assumption | exact DL.app_get | exact DL.set_get (by first | assumption | exact DL.app_get) | exact DL.app_get_lt (by first | assumption | exact DL.app_get)) | exact DL.app_get_lt (by first | assumption | exact DL.app_get | exact DL.set_get (by first | assumption | exact DL.app_get) | exact DL.app_get_lt (by first | assumption | exact DL.app_get))) | exact DL.app_get_lt (by first | assumption | exact DL.app_get | exact DL.set_get (by first | assumption | exact DL.app_get | exact DL.set_get (by first | assumption | exact DL.app_get) | exact DL.app_get_lt (by first | assumption | exact DL.app_get)) | exact DL.app_get_lt (by first | assumption | exact DL.app_get | exact DL.set_get (by first | assumption | exact DL.app_get) | exact DL.app_get_lt (by first | assumption | exact DL.app_get))))) | exact DL.app_get_lt (by first | assumption | exact DL.app_get | exact DL.set_get (by first | assumption | exact DL.app_get | exact DL.set_get (by first | assumption | exact DL.app_get | exact DL.set_get (by first | assumption | exact DL.app_get | exact DL.set_get (by first | assumption | exact DL.app_get) | exact DL.app_get_lt (by first | assumption | exact DL.app_get)) | exact DL.app_get_lt (by first | assumption | exact DL.app_get | exact DL.set_get (by first | assumption | exact DL.app_get) | exact DL.app_get_lt (by first | assumption | exact DL.app_get))) | exact DL.app_get_lt (by first | assumption | exact DL.app_get | exact DL.set_get (by first | assumption | exact DL.app_get | exact DL.set_get (by first | assumption | exact DL.app_get) | exact DL.app_get_lt (by first | assumption | exact DL.app_get)) | exact DL.app_get_lt (by first | assumption | exact DL.app_get | exact DL.set_get (by first | assumption | exact DL.app_get) | exact DL.app_get_lt (by first | assumption | exact DL.app_get)))) | exact DL.app_get_lt (by first | assumption | exact DL.app_get | exact DL.set_get (by first | assumption | exact DL.app_get | exact DL.set_get (by first | assumption | exact DL.app_get | exact DL.set_get (by first | assumption | exact DL.app_get) | exact DL.app_get_lt (by first | assumption | exact DL.app_get)) | exact DL.app_get_lt (by first | assumption | exact DL.app_get | exact DL.set_get (by first | assumption | exact DL.app_get) | exact DL.app_get_lt (by first | assumption | exact DL.app_get))) | exact DL.app_get_lt (by first | assumption | exact DL.app_get | exact DL.set_get (by first | assumption | exact DL.app_get | exact DL.set_get (by first | assumption | exact DL.app_get) | exact DL.app_get_lt (by first | assumption | exact DL.app_get)) | exact DL.app_get_lt (by first | assumption | exact DL.app_get | exact DL.set_get (by first | assumption | exact DL.app_get) | exact DL.app_get_lt (by first | assumption | exact DL.app_get)))))), ?_⟩))
  | ((with_reducible refine v_insX ?_); (refine ⟨_, _, _, (by first | assumption | exact DL.ins_cell (by first | assumption | exact DL.app_get | exact DL.set_get (by first | assumption | exact DL.app_get | exact DL.set_get (by first | assumption | exact DL.app_get | exact DL.set_get (by first | assumption | exact DL.app_get | exact DL.set_get (by first | assumption | exact DL.app_get) | exact DL.app_get_lt (by first | assumption | exact DL.app_get)) | exact DL.app_get_lt (by first | assumption | exact DL.app_get | exact DL.set_get (by first | assumption | exact DL.app_get) | exact DL.app_get_lt (by first | assumption | exact DL.app_get))) | exact DL.app_get_lt (by first | assumption | exact DL.app_get | exact DL.set_get (by first | assumption | exact DL.app_get | exact DL.set_get (by first | assumption | exact DL.app_get) | exact DL.app_get_lt (by first | assumption | exact DL.app_get)) | exact DL.app_get_lt (by first | assumption | exact DL.app_get | exact DL.set_get (by first | assumption | exact DL.app_get) | exact DL.app_get_lt (by first | assumption | exact DL.app_get)))) | exact DL.app_get_lt (by first | assumption | exact DL.app_get | exact DL.set_get (by first | assumption | exact DL.app_get | exact DL.set_get (by first | assumption | exact DL.app_get | exact DL.set_get (by first | assumption | exact DL.app_get) | exact DL.app_get_lt (by first | assumption | exact DL.app_get)) | exact DL.app_get_lt (by first | assumption | exact DL.app_get | exact DL.set_get (by first | assumption | exact DL.app_get) | exact DL.app_get_lt (by first | assumption | exact DL.app_get))) | exact DL.app_get_lt (by first | assumption | exact DL.app_get | exact DL.set_get (by first | assumption | exact DL.app_get | exact DL.set_get (by first | assumption | exact DL.app_get) | exact DL.app_get_lt (by first | assumption | exact DL.app_get)) | exact DL.app_get_lt (by first | assumption | exact DL.app_get | exact DL.set_get (by first | assumption | exact DL.app_get) | exact DL.app_get_lt (by first | assumption | exact DL.app_get)))))), rfl, ?_⟩))
  | ((with_reducible refine v_insP ?_); (refine ⟨⟨_, _, (by first | assumption | exact DL.ins_cell (by first | assumption | exact DL.app_get | exact DL.set_get (by first | assumption | exact DL.app_get | exact DL.set_get (by first | assumption | exact DL.app_get | exact DL.set_get (by first | assumption | exact DL.app_get | exact DL.set_get (by first | assumption | exact DL.app_get) | exact DL.app_get_lt (by first | assumption | exact DL.app_get)) | exact DL.app_get_lt (by first | assumption | exact DL.app_get | exact DL.set_get (by first | assumption | exact DL.app_get) | exact DL.app_get_lt (by first | assumption | exact DL.app_get))) | exact DL.app_get_lt (by first | assumption | exact DL.app_get | exact DL.set_get (by first | assumption | exact DL.app_get | exact DL.set_get (by first | assumption | exact DL.app_get) | exact DL.app_get_lt (by first | assumption | exact DL.app_get)) | exact DL.app_get_lt (by first | assumption | exact DL.app_get | exact DL.set_get (by first | assumption | exact DL.app_get) | exact DL.app_get_lt (by first | assumption | exact DL.app_get)))) | exact DL.app_get_lt (by first | assumption | exact DL.app_get | exact DL.set_get (by first | assumption | exact DL.app_get | exact DL.set_get (by first | assumption | exact DL.app_get | exact DL.set_get (by first | assumption | exact DL.app_get) | exact DL.app_get_lt (by first | assumption | exact DL.app_get)) | exact DL.app_get_lt (by first | assumption | exact DL.app_get | exact DL.set_get (by first | assumption | exact DL.app_get) | exact DL.app_get_lt (by first | assumption | exact DL.app_get))) | exact DL.app_get_lt (by first | assumption | exact DL.app_get | exact DL.set_get (by first | assumption | exact DL.app_get | exact DL.set_get (by first | assumption | exact DL.app_get) | exact DL.app_get_lt (by first | assumption | exact DL.app_get)) | exact DL.app_get_lt (by first | assumption | exact DL.app_get | exact DL.set_get (by first | assumption | exact DL.app_get) | exact DL.app_get_lt (by first | assumption | exact DL.app_get))))))⟩, ?_⟩))
  | ((with_reducible refine v_lkX ?_); (refine ⟨_, (by first | exact rfl | assumption), ?_⟩))
  | with_reducible refine v_fldS ?_
  | ((with_reducible refine v_fldX ?_); refine ⟨_, _, _, rfl, (by first | assumption | exact DL.app_get | exact DL.set_get (by first | assumption | exact DL.app_get | exact DL.set_get (by first | assumption | exact DL.app_get | exact DL.set_get (by first | assumption | exact DL.app_get | exact DL.set_get (by first | assumption | exact DL.app_get | exact DL.set_get (by first | assumption | exact DL.app_get) | exact DL.app_get_lt (by first | assumption | exact DL.app_get)) | exact DL.app_get_lt (by first | assumption | exact DL.app_get | exact DL.set_get (by first | assumption | exact DL.app_get) | exact DL.app_get_lt (by first | assumption | exact DL.app_get))) | exact DL.app_get_lt (by first | assumption | exact DL.app_get | exact DL.set_get (by first | assumption | exact DL.app_get | exact DL.set_get (by first | assumption | exact DL.app_get) | exact DL.app_get_lt (by first | assumption | exact DL.app_get)) | exact DL.app_get_lt (by first | assumption | exact DL.app_get | exact DL.set_get (by first | assumption | exact DL.app_get) | exact DL.app_get_lt (by first | assumption | exact DL.app_get)))) | exact DL.app_get_lt (by first | assumption | exact DL.app_get | exact DL.set_get (by first | assumption | exact DL.app_get | exact DL.set_get (by first | assumption | exact DL.app_get | exact DL.set_get (by first | assumption | exact DL.app_get) | exact DL.app_get_lt (by first | assumption | exact DL.app_get)) | exact DL.app_get_lt (by first | assumption | exact DL.app_get | exact DL.set_get (by first | assumption | exact DL.app_get) | exact DL.app_get_lt (by first | assumption | exact DL.app_get))) | exact DL.app_get_lt (by first | assumption | exact DL.app_get | exact DL.set_get (by first | assumption | exact DL.app_get | exact DL.set_get (by first | assumption | exact DL.app_get) | exact DL.app_get_lt (by first | assumption | exact DL.app_get)) | exact DL.app_get_lt (by first | assumption | exact DL.app_get | exact DL.set_get (by first | assumption | exact DL.app_get) | exact DL.app_get_lt (by first | assumption | exact DL.app_get))))) | exact DL.app_get_lt (by first | assumption | exact DL.app_get | exact DL.set_get (by first | assumption | exact DL.app_get | exact DL.set_get (by first | assumption | exact DL.app_get | exact DL.set_get (by first | assumption | exact DL.app_get | exact DL.set_get (by first | assumption | exact DL.app_get) | exact DL.app_get_lt (by first | assumption | exact DL.app_get)) | exact DL.app_get_lt (by first | assumption | exact DL.app_get | exact DL.set_get (by first | assumption | exact DL.app_get) | exact DL.app_get_lt (by first | assumption | exact DL.app_get))) | exact DL.app_get_lt (by first | assumption | exact DL.app_get | exact DL.set_get (by first | assumption | exact DL.app_get | exact DL.set_get (by first | assumption | exact DL.app_get) | exact DL.app_get_lt (by first | assumption | exact DL.app_get)) | exact DL.app_get_lt (by first | assumption | exact DL.app_get | exact DL.set_get (by first | assumption | exact DL.app_get) | exact DL.app_get_lt (by first | assumption | exact DL.app_get)))) | exact DL.app_get_lt (by first | assumption | exact DL.app_get | exact DL.set_get (by first | assumption | exact DL.app_get | exact DL.set_get (by first | assumption | exact DL.app_get | exact DL.set_get (by first | assumption | exact DL.app_get) | exact DL.app_get_lt (by first | assumption | exact DL.app_get)) | exact DL.app_get_lt (by first | assumption | exact DL.app_get | exact DL.set_get (by first | assumption | exact DL.app_get) | exact DL.app_get_lt (by first | assumption | exact DL.app_get))) | exact DL.app_get_lt (by first | assumption | exact DL.app_get | exact DL.set_get (by first | assumption | exact DL.app_get | exact DL.set_get (by first | assumption | exact DL.app_get) | exact DL.app_get_lt (by first | assumption | exact DL.app_get)) | exact DL.app_get_lt (by first | assumption | exact DL.app_get | exact DL.set_get (by first | assumption | exact DL.app_get) | exact DL.app_get_lt (by first | assumption | exact DL.app_get)))))), by decide, by decide, ?_⟩)
  | with_reducible refine v_isN0 ?_
  | with_reducible refine v_isnN0 ?_
  | ((with_reducible refine v_isN1 ?_); (refine ⟨rfl, rfl, ?_⟩))
  | ((with_reducible refine v_isnN1 ?_); (refine ⟨rfl, rfl, ?_⟩))
  | ((with_reducible refine v_eqNF ?_); (refine ⟨⟨rfl, rfl, rfl⟩, (by first | rfl | decide +kernel), (by first | rfl | decide +kernel), (by first | rfl | decide +kernel), ?_⟩))
  | ((with_reducible refine v_eqNT ?_); (refine ⟨⟨rfl, rfl, rfl⟩, (by first | rfl | decide +kernel), (by first | rfl | decide +kernel), (by first | rfl | decide +kernel), ?_⟩))
  | ((with_reducible refine v_neNF ?_); (refine ⟨⟨rfl, rfl, rfl⟩, (by first | rfl | decide +kernel), (by first | rfl | decide +kernel), (by first | rfl | decide +kernel), ?_⟩))
  | ((with_reducible refine v_neNT ?_); (refine ⟨⟨rfl, rfl, rfl⟩, (by first | rfl | decide +kernel), (by first | rfl | decide +kernel), (by first | rfl | decide +kernel), ?_⟩))
  | with_reducible refine v_asgG ?_
  | with_reducible refine v_gN ?_
  | with_reducible refine v_gF ?_
  | with_reducible refine v_gZ ?_
  | with_reducible refine v_gC ?_
  | ((with_reducible refine v_gT ?_); (refine ⟨rfl, ?_⟩))
  | ((with_reducible refine v_updF ?_); (refine ⟨_, _, _, _, rfl, (by first | assumption | exact DL.app_get | exact DL.set_get (by first | assumption | exact DL.app_get | exact DL.set_get (by first | assumption | exact DL.app_get | exact DL.set_get (by first | assumption | exact DL.app_get | exact DL.set_get (by first | assumption | exact DL.app_get | exact DL.set_get (by first | assumption | exact DL.app_get) | exact DL.app_get_lt (by first | assumption | exact DL.app_get)) | exact DL.app_get_lt (by first | assumption | exact DL.app_get | exact DL.set_get (by first | assumption | exact DL.app_get) | exact DL.app_get_lt (by first | assumption | exact DL.app_get))) | exact DL.app_get_lt (by first | assumption | exact DL.app_get | exact DL.set_get (by first | assumption | exact DL.app_get | exact DL.set_get (by first | assumption | exact DL.app_get) | exact DL.app_get_lt (by first | assumption | exact DL.app_get)) | exact DL.app_get_lt (by first | assumption | exact DL.app_get | exact DL.set_get (by first | assumption | exact DL.app_get) | exact DL.app_get_lt (by first | assumption | exact DL.app_get)))) | exact DL.app_get_lt (by first | assumption | exact DL.app_get | exact DL.set_get (by first | assumption | exact DL.app_get | exact DL.set_get (by first | assumption | exact DL.app_get | exact DL.set_get (by first | assumption | exact DL.app_get) | exact DL.app_get_lt (by first | assumption | exact DL.app_get)) | exact DL.app_get_lt (by first | assumption | exact DL.app_get | exact DL.set_get (by first | assumption | exact DL.app_get) | exact DL.app_get_lt (by first | assumption | exact DL.app_get))) | exact DL.app_get_lt (by first | assumption | exact DL.app_get | exact DL.set_get (by first | assumption | exact DL.app_get | exact DL.set_get (by first | assumption | exact DL.app_get) | exact DL.app_get_lt (by first | assumption | exact DL.app_get)) | exact DL.app_get_lt (by first | assumption | exact DL.app_get | exact DL.set_get (by first | assumption | exact DL.app_get) | exact DL.app_get_lt (by first | assumption | exact DL.app_get))))) | exact DL.app_get_lt (by first | assumption | exact DL.app_get | exact DL.set_get (by first | assumption | exact DL.app_get | exact DL.set_get (by first | assumption | exact DL.app_get | exact DL.set_get (by first | assumption | exact DL.app_get | exact DL.set_get (by first | assumption | exact DL.app_get) | exact DL.app_get_lt (by first | assumption | exact DL.app_get)) | exact DL.app_get_lt (by first | assumption | exact DL.app_get | exact DL.set_get (by first | assumption | exact DL.app_get) | exact DL.app_get_lt (by first | assumption | exact DL.app_get))) | exact DL.app_get_lt (by first | assumption | exact DL.app_get | exact DL.set_get (by first | assumption | exact DL.app_get | exact DL.set_get (by first | assumption | exact DL.app_get) | exact DL.app_get_lt (by first | assumption | exact DL.app_get)) | exact DL.app_get_lt (by first | assumption | exact DL.app_get | exact DL.set_get (by first | assumption | exact DL.app_get) | exact DL.app_get_lt (by first | assumption | exact DL.app_get)))) | exact DL.app_get_lt (by first | assumption | exact DL.app_get | exact DL.set_get (by first | assumption | exact DL.app_get | exact DL.set_get (by first | assumption | exact DL.app_get | exact DL.set_get (by first | assumption | exact DL.app_get) | exact DL.app_get_lt (by first | assumption | exact DL.app_get)) | exact DL.app_get_lt (by first | assumption | exact DL.app_get | exact DL.set_get (by first | assumption | exact DL.app_get) | exact DL.app_get_lt (by first | assumption | exact DL.app_get))) | exact DL.app_get_lt (by first | assumption | exact DL.app_get | exact DL.set_get (by first | assumption | exact DL.app_get | exact DL.set_get (by first | assumption | exact DL.app_get) | exact DL.app_get_lt (by first | assumption | exact DL.app_get)) | exact DL.app_get_lt (by first | assumption | exact DL.app_get | exact DL.set_get (by first | assumption | exact DL.app_get) | exact DL.app_get_lt (by first | assumption | exact DL.app_get)))))), by decide, rfl, ?_⟩))
  | with_reducible refine v_fldU ?_
  | with_reducible refine v_fldA ?_
  | with_reducible refine v_addII ?_
  | ((with_reducible refine v_methX ?_); (refine ⟨⟨_, _, (by first | assumption | exact DL.ins_cell (by first | assumption | exact DL.app_get | exact DL.set_get (by first | assumption | exact DL.app_get | exact DL.set_get (by first | assumption | exact DL.app_get | exact DL.set_get (by first | assumption | exact DL.app_get | exact DL.set_get (by first | assumption | exact DL.app_get) | exact DL.app_get_lt (by first | assumption | exact DL.app_get)) | exact DL.app_get_lt (by first | assumption | exact DL.app_get | exact DL.set_get (by first | assumption | exact DL.app_get) | exact DL.app_get_lt (by first | assumption | exact DL.app_get))) | exact DL.app_get_lt (by first | assumption | exact DL.app_get | exact DL.set_get (by first | assumption | exact DL.app_get | exact DL.set_get (by first | assumption | exact DL.app_get) | exact DL.app_get_lt (by first | assumption | exact DL.app_get)) | exact DL.app_get_lt (by first | assumption | exact DL.app_get | exact DL.set_get (by first | assumption | exact DL.app_get) | exact DL.app_get_lt (by first | assumption | exact DL.app_get)))) | exact DL.app_get_lt (by first | assumption | exact DL.app_get | exact DL.set_get (by first | assumption | exact DL.app_get | exact DL.set_get (by first | assumption | exact DL.app_get | exact DL.set_get (by first | assumption | exact DL.app_get) | exact DL.app_get_lt (by first | assumption | exact DL.app_get)) | exact DL.app_get_lt (by first | assumption | exact DL.app_get | exact DL.set_get (by first | assumption | exact DL.app_get) | exact DL.app_get_lt (by first | assumption | exact DL.app_get))) | exact DL.app_get_lt (by first | assumption | exact DL.app_get | exact DL.set_get (by first | assumption | exact DL.app_get | exact DL.set_get (by first | assumption | exact DL.app_get) | exact DL.app_get_lt (by first | assumption | exact DL.app_get)) | exact DL.app_get_lt (by first | assumption | exact DL.app_get | exact DL.set_get (by first | assumption | exact DL.app_get) | exact DL.app_get_lt (by first | assumption | exact DL.app_get)))))), by decide⟩, ?_⟩))
  | with_reducible refine v_while ?_
  | with_reducible refine v_setO ?_
  | with_reducible refine v_en ?_
  | with_reducible refine v_oneD ?_
  | ((with_reducible refine v_itLF ?_); (refine ⟨_, rfl, ?_⟩))
  | ((with_reducible refine v_tgX ?_); (refine ⟨_, rfl, ?_⟩))
  | with_reducible refine v_neg ?_
  | with_reducible refine v_oneI ?_
  | with_reducible refine v_isnB ?_
  | with_reducible refine v_isB ?_
  | with_reducible refine v_lc2 ?_
  | with_reducible refine v_max2 ?_
  | with_reducible refine v_min2 ?_
  | with_reducible refine v_callX ?_
  | with_reducible refine v_makeX ?_
  | with_reducible refine v_setX ?_
  | with_reducible refine v_twoX ?_
  | ((with_reducible refine v_isEX ?_); (refine ⟨_, rfl, rfl, _, List.mem_cons_self, ?_⟩))
  | with_reducible refine v_raise ?_
  | ((with_reducible refine v_par ?_); skip)
  | with_reducible refine v_raiseI ?_
  | with_reducible refine v_xf ?_
  | with_reducible refine v_unx ?_
  | with_reducible refine v_urt ?_
  | with_reducible refine v_dct ?_
  | with_reducible refine v_dnew ?_
  | with_reducible refine v_dput ?_
  | with_reducible refine v_dget ?_
  | with_reducible refine v_din ?_
  | with_reducible refine v_star ?_
  | with_reducible refine v_par3 ?_
  | with_reducible refine v_fz ?_))
local macro_rules | `(tactic| walk_at "w") => `(tactic| (walk_at "v"; all_goals try dsimp only [List.set]))
section
variable {K : PySem.W.Frag}
theorem len_is_integer : ∀ ds cs Q, sp_is_integer K ds cs Q → ds.length = 1 := by rintro ds cs Q ⟨_, rfl, _⟩; rfl
theorem vc_is_integer : ∀ ds cs Q, Lo ds cs → LoC cs → sp_is_integer K ds cs Q → t_is_integer K (Po.fn cs Q) ⟨startD N_is_integer ds, cs⟩ := by
  rintro ds cs Q hd hc ⟨d, rfl, ⟨a, ha⟩, q⟩
  unfold t_is_integer
  cases d
  case cell n =>
    cases tyN_cell ha
    walk_at "v"
    exact .inl q
  all_goals first | (cases ha; done) | (walk_at "v"; exact Or.inl q)
theorem log_lt {n k : Nat} (h : n < 2 ^ k) (hk : 0 < k) : n.log2 < k := by
  rcases Nat.eq_zero_or_pos n with rfl | hp
  · exact hk
  · exact (Nat.log2_lt (by omega)).mpr h
theorem fdiv_ok {a b : Int} (h0 : 0 < b) (h1 : b ≤ 1000000000000000000000000000000) : FdivOk a b := .inr ⟨h0, Nat.lt_trans (log_lt (k := 100) (by omega) (by decide)) (by decide)⟩
theorem st_is_column {a b c : D} : startD N_is_column [a, b, c] = [some a, some b, some c, none] := rfl
theorem okC_rep {b r z : Int} (hr : 0 ≤ r) (h0 : 0 ≤ z) (hb : z < b) : okC b r (List.replicate r.toNat z) = true := by
  unfold okC
  simp only [List.length_replicate, Bool.and_eq_true, decide_eq_true_eq, List.all_eq_true, List.mem_replicate]
  refine ⟨by omega, ?_⟩
  rintro n ⟨_, rfl⟩
  exact ⟨h0, hb⟩
theorem okC_of {b r : Int} {c : List Int} (hl : (c.length : Int) = r) (h : ∀ y ∈ c, 0 ≤ y ∧ y < b) : okC b r c = true := by
  unfold okC
  simp only [Bool.and_eq_true, decide_eq_true_eq, List.all_eq_true]
  exact ⟨hl, h⟩
theorem len_is_column : ∀ ds cs Q, sp_is_column K ds cs Q → ds.length = 3 := by rintro ds cs Q ⟨_, _, _, rfl, _⟩; rfl
theorem vc_is_column : ∀ ds cs Q, Lo ds cs → LoC cs → sp_is_column K ds cs Q → t_is_column K (Po.fn cs Q) ⟨startD N_is_column ds, cs⟩ := by
  rintro ds cs Q hd hc ⟨c, b, r, rfl, hz, q⟩
  rw [st_is_column]
  unfold t_is_column
  walk_at "v"
  refine v_lenL (xs := c.map .int) rfl (fun _ z => nomatch z) ?_
  walk_at "v"
  rw [List.length_map]
  refine v_itdn (fun h => ?_) (fun h => ?_)
  · walk_at "v"
    have e : okC b r c = false := by unfold okC; rw [decide_eq_false h, Bool.false_and]
    rw [e] at q
    exact .inl q
  · walk_at "v"
    refine v_lcY c D.int (fun n => .bl (decide (0 ≤ n) && decide (n < b))) rfl (by omega) (fun Q' i x hx q' => ⟨_, rfl, ?_⟩) ?_
    · walk_at "v"
      refine ⟨.int x, rfl, ⟨_, rfl⟩, ?_⟩
      refine ⟨true, rfl, ?_⟩
      walk_at "v"
      refine v_itd (fun h => ?_) (fun h => ?_)
      · walk_at "v"
        rw [decide_eq_true h, Bool.true_and] at q'
        exact q'
      · rw [decide_eq_false h, Bool.false_and] at q'
        exact q'
    · walk_at "v"
      refine v_allL (bs := c.map fun n => decide (0 ≤ n) && decide (n < b)) (by rw [List.map_map]; rfl) ?_
      walk_at "v"
      have e : ((c.map fun n => decide (0 ≤ n) && decide (n < b)).all fun b => b) = okC b r c := by
        unfold okC
        rw [decide_eq_true h, Bool.true_and, List.all_map]
        rfl
      rw [e]
      exact .inl q
theorem st_Sheet_init {a b c d : D} : startD N_Sheet_init [a, b, c, d] = [some a, some b, some c, some d, none] := rfl
theorem Gd.len {b r : Int} {cols : List (List Int)} (g : Gd b r cols) {c : List Int} (h : c ∈ cols) : c.length ≤ 4 := by
  have h1 := g.c c h
  have h2 := g.r4
  unfold okC at h1
  simp only [Bool.and_eq_true, decide_eq_true_eq] at h1
  omega
theorem all_true {α : Type} (f : α → Bool) : ∀ xs : List α, (∀ x ∈ xs, f x = true) → ((xs.map f).all fun b => b) = true
  | [], _ => rfl
  | x :: xs, h => by
    rw [List.map_cons, List.all_cons, h x (List.mem_cons_self ..), Bool.true_and]
    exact all_true f xs fun y hy => h y (List.mem_cons_of_mem _ hy)
theorem len_Sheet_init : ∀ ds cs Q, sp_Sheet_init K ds cs Q → ds.length = 4 := by rintro ds cs Q ⟨_, _, _, _, _, rfl, _⟩; rfl
theorem vc_Sheet_init : ∀ ds cs Q, Lo ds cs → LoC cs → sp_Sheet_init K ds cs Q → t_Sheet_init K (Po.fn cs Q) ⟨startD N_Sheet_init ds, cs⟩ := by
  rintro ds cs Q hd hc ⟨n, d, cols, b, r, rfl, hn, hs, hf, g, q⟩
  have hz := g.n
  have g1 := g.b2
  have g2 := g.b12
  have g3 := g.r1
  have g4 := g.r4
  have hty := ty_lk hs hf
  rw [st_Sheet_init]
  unfold t_Sheet_init
  walk_at "v"
  refine ⟨.int b, rfl, ⟨_, rfl⟩, ?_⟩
  walk_at "v"
  refine v_F ?_
  walk_at "v"
  refine v_itd (fun h => ?_) (fun h => absurd g1 h)
  walk_at "v"
  rw [decide_eq_true g2]
  walk_at "v"
  refine ⟨.int r, rfl, ⟨_, rfl⟩, ?_⟩
  walk_at "v"
  refine v_F ?_
  walk_at "v"
  refine v_itd (fun h => ?_) (fun h => absurd g3 h)
  walk_at "v"
  rw [decide_eq_true g4]
  walk_at "v"
  refine v_itK hs fun G hG => ?_
  refine v_lcY cols encC (fun c => .bl (okC b r c)) rfl (by omega) (fun Q' i x hx q' => ⟨_, rfl, ?_⟩) ?_ hG
  · walk_at "v"
    have := g.len (List.mem_of_getElem? hx)
    exact ⟨x, b, r, rfl, by omega, q'⟩
  walk_at "v"
  refine v_allL (bs := cols.map (okC b r)) (by rw [List.map_map]; rfl) ?_
  rw [all_true _ _ g.c]
  walk_at "v"
  rcases q with q | q
  · refine .inl ⟨_, seq_lk (lk_set (lk_set hs hn fun _ z => nomatch z) (set_get hn) fun _ z => nomatch z), ?_⟩
    walk_at "v"
    refine v_lenK (lk_set (lk_set (lk_set hs hn fun _ z => nomatch z) (set_get hn) fun _ z => nomatch z) (set_get (set_get hn)) fun _ z => nomatch z) ?_
    walk_at "v"
    simp only [List.set_set, List.length_map]
    exact .inl q
  · refine .inr ⟨_, seq_lk (lk_set (lk_set hs hn fun _ z => nomatch z) (set_get hn) fun _ z => nomatch z), ?_⟩
    have hnl := (List.getElem?_eq_some_iff.mp hn).1
    have hg2 : ((cs.set n (.ins (He.ga K "Sheet") ["held_base"] [.int b])).set n (.ins (He.ga K "Sheet") ["held_base", "held_rows"] [.int b, .int r]) ++ [Cel.lst (cols.map encC)])[n]? = some (.ins (He.ga K "Sheet") ["held_base", "held_rows"] [.int b, .int r]) := app_get_lt (set_get (set_get hn))
    walk_at "v"
    refine v_lenK (lk_set (lk_app (lk_set (lk_set hs hn fun _ z => nomatch z) (set_get hn) fun _ z => nomatch z)) hg2 fun _ z => nomatch z) ?_
    walk_at "v"
    simp only [List.set_append, List.length_set, hnl, if_true, List.set_set, List.length_map]
    exact .inl q
theorem len_Sheet_base : ∀ ds cs Q, sp_Sheet_base K ds cs Q → ds.length = 1 := by rintro ds cs Q ⟨_, _, _, _, rfl, _⟩; rfl
theorem vc_Sheet_base : ∀ ds cs Q, Lo ds cs → LoC cs → sp_Sheet_base K ds cs Q → t_Sheet_base K (Po.fn cs Q) ⟨startD N_Sheet_base ds, cs⟩ := by
  rintro ds cs Q hd hc ⟨d, b, r, cols, rfl, ⟨hc1, hi, hl⟩, q⟩
  unfold t_Sheet_base
  walk_at "v"
  exact .inl q
theorem len_Sheet_rows : ∀ ds cs Q, sp_Sheet_rows K ds cs Q → ds.length = 1 := by rintro ds cs Q ⟨_, _, _, _, rfl, _⟩; rfl
theorem vc_Sheet_rows : ∀ ds cs Q, Lo ds cs → LoC cs → sp_Sheet_rows K ds cs Q → t_Sheet_rows K (Po.fn cs Q) ⟨startD N_Sheet_rows ds, cs⟩ := by
  rintro ds cs Q hd hc ⟨d, b, r, cols, rfl, ⟨hc1, hi, hl⟩, q⟩
  unfold t_Sheet_rows
  walk_at "v"
  exact .inl q
theorem len_Sheet_len : ∀ ds cs Q, sp_Sheet_len K ds cs Q → ds.length = 1 := by rintro ds cs Q ⟨_, _, _, _, rfl, _⟩; rfl
theorem vc_Sheet_len : ∀ ds cs Q, Lo ds cs → LoC cs → sp_Sheet_len K ds cs Q → t_Sheet_len K (Po.fn cs Q) ⟨startD N_Sheet_len ds, cs⟩ := by
  rintro ds cs Q hd hc ⟨d, b, r, cols, rfl, ⟨hc1, hi, hl⟩, q⟩
  unfold t_Sheet_len
  walk_at "v"
  refine v_lenK hl ?_
  walk_at "v"
  rw [List.length_map]
  exact .inl q
theorem len_Sheet_columns : ∀ ds cs Q, sp_Sheet_columns K ds cs Q → ds.length = 1 := by rintro ds cs Q ⟨_, _, _, _, rfl, _⟩; rfl
theorem vc_Sheet_columns : ∀ ds cs Q, Lo ds cs → LoC cs → sp_Sheet_columns K ds cs Q → t_Sheet_columns K (Po.fn cs Q) ⟨startD N_Sheet_columns ds, cs⟩ := by
  rintro ds cs Q hd hc ⟨d, b, r, cols, rfl, ⟨hc1, hi, hl⟩, q⟩
  unfold t_Sheet_columns
  walk_at "v"
  refine v_listL (seq_lk hl) ?_
  walk_at "v"
  exact own_back (los_encC _) q
theorem okC_sum {b r : Int} {c : List Int} (hb : b ≤ 12) (hr : r ≤ 4) (h : okC b r c = true) : 0 ≤ c.sum ∧ c.sum ≤ 44 := by
  unfold okC at h
  simp only [Bool.and_eq_true, decide_eq_true_eq, List.all_eq_true] at h
  obtain ⟨h1, h2⟩ := h
  have : ∀ xs : List Int, (∀ x ∈ xs, 0 ≤ x ∧ x < b) → 0 ≤ xs.sum ∧ xs.sum ≤ 11 * (xs.length : Int) := by
    intro xs
    induction xs with
    | nil => intro _; simp
    | cons x xs ih =>
      intro h
      have h3 := h x (List.mem_cons_self ..)
      have h4 := ih fun y hy => h y (List.mem_cons_of_mem _ hy)
      simp only [List.sum_cons, List.length_cons]
      omega
  have := this c h2
  omega
theorem app_set {cs : List Cel} {c0 c : Cel} : (cs ++ [c0]).set cs.length c = cs ++ [c] := by simp
theorem lo_wrD {k : Nat} (K : PySem.W.Frag) (b : Int) (fs : List Int) (l : Int) : loD k (wrD K b fs l) = true := by
  show (true && (los _ _ && (true && true))) = true
  rw [los_int] <;> rfl
theorem isSh_set {cs : List Cel} {d : D} {b r : Int} {cols : List (List Int)} {n : Nat} {C : Addr} {ns : List Str} {xs : List D} {c : Cel} (h : isSh K cs d b r cols) (hn : cs[n]? = some (.ins C ns xs)) (hne : ns ≠ shN) : isSh K (cs.set n c) d b r cols := by
  obtain ⟨hc, hi, hl⟩ := h
  refine ⟨hc, ?_, lk_set hl hn fun _ z => nomatch z⟩
  cases d with
  | cell m =>
    by_cases e : n = m
    · subst e
      rw [ins_cell hn] at hi
      cases hi
      exact absurd rfl hne
    · have hi' : (match cs[m]? with | some (.ins C ns xs) => some (C, ns, xs) | _ => none) = some (He.ga K "Sheet", shN, [.int b, .int r, hc, .int cols.length]) := hi
      show (match (cs.set n c)[m]? with | some (.ins C ns xs) => some (C, ns, xs) | _ => none) = _
      rw [List.getElem?_set_ne e]
      exact hi'
  | _ => exact hi
theorem ins_app {cs more : List Cel} {d : D} {z : Addr × List Str × List D} (h : insD cs d = some z) : insD (cs ++ more) d = some z := by
  cases d with
  | cell m =>
    have h' : (match cs[m]? with | some (.ins C ns xs) => some (C, ns, xs) | _ => none) = some z := h
    have hlt : m < cs.length := by
      rcases Nat.lt_or_ge m cs.length with q | q
      · exact q
      · rw [List.getElem?_eq_none q] at h'
        cases h'
    show (match (cs ++ more)[m]? with | some (.ins C ns xs) => some (C, ns, xs) | _ => none) = some z
    rw [List.getElem?_append_left hlt]
    exact h'
  | _ => exact h
theorem isSh_app {cs : List Cel} {c : Cel} {d : D} {b r : Int} {cols : List (List Int)} (h : isSh K cs d b r cols) : isSh K (cs ++ [c]) d b r cols := by
  obtain ⟨hc, hi, hl⟩ := h
  exact ⟨hc, ins_app hi, lk_app hl⟩
theorem len_Written_init : ∀ ds cs Q, sp_Written_init K ds cs Q → ds.length = 4 := by rintro ds cs Q ⟨_, _, _, _, rfl, _⟩; rfl
theorem vc_Written_init : ∀ ds cs Q, Lo ds cs → LoC cs → sp_Written_init K ds cs Q → t_Written_init K (Po.fn cs Q) ⟨startD N_Written_init ds, cs⟩ := by
  rintro ds cs Q hd hc ⟨n, b, fs, l, rfl, hn, q⟩
  unfold t_Written_init
  walk_at "v"
  refine v_listL rfl ?_
  walk_at "v"
  simp only [List.set_set]
  exact .inl q
theorem isSh_shD {cs : List Cel} {b r : Int} {cols : List (List Int)} : isSh K cs (shD K b r cols) b r cols := ⟨_, rfl, rfl⟩
theorem los_sh {k : Nat} {b r : Int} {cols : List (List Int)} : los k [.int b, .int r, .lst (cols.map encC), .int cols.length] = true := by
  show (true && (true && (los k (cols.map encC) && (true && true)))) = true
  rw [los_encC] <;> rfl
theorem app_get' {cs : List Cel} {n : Nat} {c : Cel} (h : n = cs.length) : (cs ++ [c])[n]? = some c := by subst h; exact app_get
theorem set_other {cs : List Cel} {m n : Nat} {c c0 : Cel} (h : cs[n]? = some c0) (hne : m ≠ n) : (cs.set m c)[n]? = some c0 := by
  rw [List.getElem?_set_ne hne]
  exact h
theorem set_self {cs : List Cel} {n : Nat} {c : Cel} (h : cs[n]? = some c) : cs.set n c = cs := by
  obtain ⟨hl, rfl⟩ := List.getElem?_eq_some_iff.mp h
  exact List.set_getElem_self hl
theorem st_wvalue {a : D} : startD N_Written_value [a] = [some a, none, none] := rfl
theorem len_Written_value : ∀ ds cs Q, sp_Written_value K ds cs Q → ds.length = 1 := by rintro ds cs Q ⟨_, _, _, rfl, _⟩; rfl
theorem vc_Written_value : ∀ ds cs Q, Lo ds cs → LoC cs → sp_Written_value K ds cs Q → t_Written_value K (Po.fn cs Q) ⟨startD N_Written_value ds, cs⟩ := by
  rintro ds cs Q hd hc ⟨b, fs, l, rfl, b2, b12, q⟩
  have hi : insD cs (wrD K b fs l) = some (He.ga K "Written", wrN, [.int b, .lst (fs.map .int), .int l]) := rfl
  rw [st_wvalue]
  unfold t_Written_value
  walk_at "v"
  refine ⟨fun i e => i ≤ fs.length ∧ ∃ x, e = ⟨[some (wrD K b fs l), some (.int (valW b l (fs.drop (fs.length - i)))), x], cs⟩, ⟨Nat.zero_le _, none, by simp [valW]⟩, ?_, ?_⟩
  · rintro i y e2 hy ⟨hi', x, rfl⟩
    rw [← List.map_reverse, List.getElem?_map, Option.map_eq_some_iff] at hy
    obtain ⟨c, hcc, rfl⟩ := hy
    have hlt := (List.getElem?_eq_some_iff.mp hcc).1
    rw [List.length_reverse] at hlt
    refine ⟨trivial, _, rfl, ?_⟩
    walk_at "v"
    refine ⟨hlt, some (.int c), ?_⟩
    rw [List.getElem?_reverse hlt] at hcc
    have e : fs.drop (fs.length - (i + 1)) = c :: fs.drop (fs.length - i) := by
      have h1 : fs.length - (i + 1) < fs.length := by omega
      rw [List.drop_eq_getElem_cons h1, show fs.length - (i + 1) + 1 = fs.length - i by omega]
      rw [show fs.length - 1 - i = fs.length - (i + 1) by omega, List.getElem?_eq_getElem h1] at hcc
      cases hcc
      rfl
    rw [e, valW, Int.add_comm c, Int.mul_comm b]
    rfl
  · rintro e2 ⟨hi', x, rfl⟩
    refine ⟨trivial, ?_⟩
    walk_at "v"
    simp
    exact .inl q
theorem len_Written_rest : ∀ ds cs Q, sp_Written_rest K ds cs Q → ds.length = 2 := by rintro ds cs Q ⟨_, _, _, _, rfl, _⟩; rfl
theorem vc_Written_rest : ∀ ds cs Q, Lo ds cs → LoC cs → sp_Written_rest K ds cs Q → t_Written_rest K (Po.fn cs Q) ⟨startD N_Written_rest ds, cs⟩ := by
  rintro ds cs Q hd hc ⟨b, fs, l, r, rfl, h1, h2, h3, q⟩
  have hi : insD cs (wrD K b fs l) = some (He.ga K "Written", wrN, [.int b, .lst (fs.map .int), .int l]) := rfl
  unfold t_Written_rest
  walk_at "v"
  refine ⟨b, fs, l, rfl, h1, h2, ?_⟩
  walk_at "v"
  exact .inl q
def opW : Op → Str
  | .right => "right"
  | .forget => "forget"
  | .again => "again"
  | .off _ => "off"
  | .read _ _ => "read"
  | .copy _ => "copy"
  | .swap => "swap"
  | .out => "out"
  | .twice => "twice"
def opN : Op → List Int
  | .off d => [d]
  | .read j d => [(j : Int), d]
  | .copy j => [(j : Int)]
  | _ => []
theorem encO_eq (o : Op) : encO o = .tup (.str (opW o) :: (opN o).map .int) := by cases o <;> rfl
theorem opW_lay (o : Op) : (PyData.str (opW o)).canLay0 = true := by cases o <;> dsimp only [opW] <;> first | rfl | decide +kernel
theorem shs_int (n : Nat) (ns : List Int) : Shs n (ns.map .int) := .all fun d hd => by
  obtain ⟨i, _, rfl⟩ := List.mem_map.mp hd
  exact (Sh.int i).mono (Nat.zero_le _)
theorem sh_O (o : Op) : Sh 1 (encO o) := by rw [encO_eq]; exact .tup (.cons (Sh.str (opW_lay _)) (shs_int 0 _))
theorem eqv_right (a : Op) : PyData.eqv (toP (encO a)) (toP (.tup [.str "right"])) = decide (a = .right) := by cases a <;> first | rfl | decide +kernel
theorem eqv_swap (a : Op) : PyData.eqv (toP (encO a)) (toP (.tup [.str "swap"])) = decide (a = .swap) := by cases a <;> first | rfl | decide +kernel
theorem eqv_out (a : Op) : PyData.eqv (toP (encO a)) (toP (.tup [.str "out"])) = decide (a = .out) := by cases a <;> first | rfl | decide +kernel
theorem eqv_twice (a : Op) : PyData.eqv (toP (encO a)) (toP (.tup [.str "twice"])) = decide (a = .twice) := by cases a <;> first | rfl | decide +kernel
theorem eqv_swapP (a : Op) : PyData.eqv (toP (encP a)) (toP (.tup [.str "swap"])) = decide (a = .swap) := by cases a <;> first | rfl | decide +kernel
theorem encP_eq {o : Op} (h : o ≠ .right) : encP o = encO o := by cases o <;> first | exact absurd rfl h | rfl
theorem sh_P (o : Op) : Sh 1 (encP o) := by
  by_cases h : o = .right
  · subst h
    exact Sh.non.mono (by decide)
  · rw [encP_eq h]
    exact sh_O o
theorem drf_O {cs : List Cel} (o : Op) : drf cs (encO o) = encO o := by rw [encO_eq]; rfl
theorem drf_P {cs : List Cel} (o : Op) : drf cs (encP o) = encP o := by cases o <;> rfl
theorem noInt_O (o : Op) : noInt (encO o) = true := by rw [encO_eq]; rfl
theorem noInt_P (o : Op) : noInt (encP o) = true := by cases o <;> rfl
theorem lo_O {k : Nat} (o : Op) : loD k (encO o) = true := by
  rw [encO_eq]
  show (true && los k ((opN o).map .int)) = true
  rw [los_int] <;> rfl
theorem los_O {k : Nat} (ts : List Op) : los k (ts.map encO) = true := los_map lo_O ts
theorem v_eqOr (p : P (.bl (decide (a = .right))) e) : qEq (encO a) (.tup [.str "right"]) e P := v_eqP (k := decide (a = .right)) ⟨by rw [noInt_O]; rfl, by rw [drf_O]; exact (sh_O a).shp, (sh_O .right).shp, by rw [drf_O]; exact eqv_right a, p⟩
theorem v_neOr (p : P (.bl (!decide (a = .right))) e) : qNe (encO a) (.tup [.str "right"]) e P := v_neP (k := decide (a = .right)) ⟨by rw [noInt_O]; rfl, by rw [drf_O]; exact (sh_O a).shp, (sh_O .right).shp, by rw [drf_O]; exact eqv_right a, p⟩
theorem v_eqOt (p : P (.bl (decide (a = .twice))) e) : qEq (encO a) (.tup [.str "twice"]) e P := v_eqP (k := decide (a = .twice)) ⟨by rw [noInt_O]; rfl, by rw [drf_O]; exact (sh_O a).shp, (sh_O .twice).shp, by rw [drf_O]; exact eqv_twice a, p⟩
theorem v_eqOo (p : P (.bl (decide (a = .out))) e) : qEq (encO a) (.tup [.str "out"]) e P := v_eqP (k := decide (a = .out)) ⟨by rw [noInt_O]; rfl, by rw [drf_O]; exact (sh_O a).shp, (sh_O .out).shp, by rw [drf_O]; exact eqv_out a, p⟩
theorem v_neOo (p : P (.bl (!decide (a = .out))) e) : qNe (encO a) (.tup [.str "out"]) e P := v_neP (k := decide (a = .out)) ⟨by rw [noInt_O]; rfl, by rw [drf_O]; exact (sh_O a).shp, (sh_O .out).shp, by rw [drf_O]; exact eqv_out a, p⟩
theorem v_eqPs (p : P (.bl (decide (a = .swap))) e) : qEq (encP a) (.tup [.str "swap"]) e P := v_eqP (k := decide (a = .swap)) ⟨by rw [noInt_P]; rfl, by rw [drf_P]; exact (sh_P a).shp, (sh_O .swap).shp, by rw [drf_P]; exact eqv_swapP a, p⟩
theorem cut_tl (x : D) (xs : List D) : cutD (x :: xs) (some 1) none = xs := by
  have h := cut_from (α := D) (fun d => d) (x :: xs) 1
  simp only [List.map_id'] at h
  exact h
theorem v_slT1 {o : Bool} {x : D} {xs : List D} {e : En} {P : D → En → Prop} (p : P (.tup xs) e) : qSl o (.tup (x :: xs)) (some 1) none e P := by
  refine ⟨fun z => ?_, by rw [cut_tl]; exact p⟩
  have h1 := z.1
  have h2 := HT.sIx_nat (x :: xs).length 0 1
  rw [show ((1 : Nat) : Int) = 1 from rfl, h1] at h2
  simp at h2
def opPl : Op → Bool
  | .forget => true
  | .again => true
  | .swap => true
  | .out => true
  | .twice => true
  | _ => false
theorem opN_len (o : Op) : (opN o).length ≤ 2 := by cases o <;> simp [opN]
theorem plT_ty {d : D} (h : plT d = true) (cs : List Cel) : ∃ t, tyN cs d = some t := by
  cases d <;> first | exact ⟨_, rfl⟩ | cases h
theorem okV_plT {d : D} (h : okV d = true) : plT d = true := by
  cases d <;> first | rfl | exact h
theorem okV_tup {xs : List D} (h : okV (.tup xs) = true) : xs.length ≤ 1000 ∧ (∀ x ∈ xs, plT x = true) ∧ layH xs = true := by
  have h' : (decide (xs.length ≤ 1000) && (xs.all plT && layH xs)) = true := h
  rw [Bool.and_eq_true, Bool.and_eq_true, decide_eq_true_eq, List.all_eq_true] at h'
  exact ⟨h'.1, h'.2.1, h'.2.2⟩
theorem shp_str {w : Str} (h : (PyData.str w).canLay0 = true) : shp (.str w) = true := (Sh.str h).shp
theorem v_eqS2 {a c : Str} {e : En} {P : D → En → Prop} (ha : (PyData.str a).canLay0 = true) (hc : (PyData.str c).canLay0 = true) (p : P (.bl (a == c)) e) : qEq (.str a) (.str c) e P := ⟨shp_str ha, shp_str hc, p⟩
theorem cut_tl1 (x : D) (xs : List D) : cutD (x :: xs) (some 1) none = xs := by
  have := cut_from (fun d : D => d) (x :: xs) 1
  simpa using this
theorem v_slT2 {o : Bool} {x : D} {xs : List D} {e : En} {P : D → En → Prop} (p : P (.tup xs) e) : qSl o (.tup (x :: xs)) (some 1) none e P := by
  refine ⟨fun z => ?_, by rw [cut_tl1]; exact p⟩
  have h1 := z.1
  have h2 := HT.sIx_nat (x :: xs).length 0 1
  rw [show ((1 : Nat) : Int) = 1 from rfl, h1] at h2
  simp at h2
theorem st_is_deed {a b c : D} : startD N_is_deed [a, b, c] = [some a, some b, some c, none, none] := rfl
theorem len_is_deed : ∀ ds cs Q, sp_is_deed K ds cs Q → ds.length = 3 := by rintro ds cs Q ⟨_, _, _, rfl, _⟩; rfl
theorem isI_int {d : D} (h : isI d = true) : ∃ i, d = .int i := by
  cases d <;> first | exact ⟨_, rfl⟩ | cases h
theorem vc_is_deed : ∀ ds cs Q, Lo ds cs → LoC cs → sp_is_deed K ds cs Q → t_is_deed K (Po.fn cs Q) ⟨startD N_is_deed ds, cs⟩ := by
  rintro ds cs Q hd hc ⟨d, b, r, rfl, hv, q⟩
  clear hd
  rw [st_is_deed]
  by_cases ht : ∃ xs, d = .tup xs
  · obtain ⟨xs, rfl⟩ := ht
    obtain ⟨hz, hp, hl⟩ := okV_tup hv
    cases xs with
    | nil =>
      unfold t_is_deed
      walk_at "v"
      refine v_lenL (xs := []) rfl (fun _ z => nomatch z) ?_
      walk_at "v"
      exact .inl q
    | cons x rest =>
      have hx := plT_ty (hp x List.mem_cons_self)
      have hlen : (x :: rest).length = rest.length + 1 := rfl
      unfold t_is_deed
      walk_at "v"
      refine v_lenL (xs := x :: rest) rfl (fun _ z => nomatch z) ?_
      rw [hlen]
      walk_at "v"
      rw [decide_eq_false (by omega)]
      walk_at "v"
      refine v_ixTX ⟨_, atI_nat (j := 0) rfl, ?_⟩
      by_cases hs : ∃ w, x = .str w
      · obtain ⟨w, rfl⟩ := hs
        walk_at "v"
        refine v_slT2 ?_
        walk_at "v"
        refine v_lcY rest (fun d => d) (fun d => .bl (isI d)) (by simp) (by rw [hlen] at hz; omega) (fun Q' i x hx q' => ⟨_, rfl, ?_⟩) ?_
        · walk_at "v"
          obtain ⟨t, ht⟩ := plT_ty (hp x (List.mem_cons_of_mem _ (List.mem_of_getElem? hx))) cs
          exact ⟨x, rfl, ⟨t, ht⟩, q'⟩
        walk_at "v"
        refine v_allL (bs := rest.map isI) (by rw [List.map_map]; rfl) ?_
        have ea : ((rest.map isI).all fun b => b) = rest.all isI := by rw [List.all_map]; rfl
        rw [ea]
        have eD : isDd b r (.tup (.str w :: rest)) = (rest.all isI && (if plW w = true then rest.isEmpty else if (w == "off") = true then oneN 1 b rest else if (w == "copy") = true then oneN 0 r rest else (w == "read") && twoN r b rest)) := rfl
        rw [eD] at q
        cases hi : rest.all isI with
        | false =>
          rw [hi, Bool.false_and] at q
          walk_at "v"
          exact .inl q
        | true =>
          rw [hi, Bool.true_and] at q
          rw [List.all_eq_true] at hi
          have lw : (PyData.str w).canLay0 = true := hl
          walk_at "v"
          refine v_ixTX ⟨_, atI_nat (j := 0) rfl, ?_⟩
          walk_at "v"
          refine .inl ⟨rfl, _, rfl, rfl, ?_⟩
          rw [show (if (false : Bool) = true then !inF (.str w) [.str "forget", .str "again", .str "swap", .str "out", .str "twice"] else inF (.str w) [.str "forget", .str "again", .str "swap", .str "out", .str "twice"]) = plW w from rfl]
          cases hw : plW w with
          | true =>
            rw [hw, if_pos rfl] at q
            walk_at "v"
            refine v_lenL (xs := .str w :: rest) rfl (fun _ z => nomatch z) ?_
            walk_at "v"
            rw [show decide ((((D.str w :: rest).length : Nat) : Int) = 1) = rest.isEmpty by cases rest with | nil => rfl | cons y ys => exact decide_eq_false (by simp only [List.length_cons]; omega)]
            exact .inl q
          | false =>
            rw [hw, if_neg Bool.false_ne_true] at q
            walk_at "v"
            refine v_eqS2 lw (by first | rfl | decide +kernel) ?_
            walk_at "v"
            cases ho : (w == ("off" : Str)) with
            | true =>
              rw [ho, if_pos rfl] at q
              walk_at "v"
              refine v_lenL (xs := .str w :: rest) rfl (fun _ z => nomatch z) ?_
              walk_at "v"
              match rest, hi, q with
              | [], _, q => walk_at "v"; refine v_F ?_; exact .inl q
              | [y], hi, q =>
                obtain ⟨i, rfl⟩ := isI_int (hi y List.mem_cons_self)
                refine v_T ?_
                walk_at "v"
                refine v_ite (fun h => ?_) (fun h => ?_)
                · have q : Q (.bl (decide (1 ≤ i) && decide (i < b))) cs := q
                  rw [h, Bool.true_and] at q
                  walk_at "v"
                  exact .inl q
                · have q : Q (.bl (decide (1 ≤ i) && decide (i < b))) cs := q
                  rw [h, Bool.false_and] at q
                  exact .inl q
              | y :: z :: ys, _, q =>
                rw [decide_eq_false (by simp; omega)]
                refine v_F ?_
                rw [show oneN 1 b (y :: z :: ys) = false by cases y <;> rfl] at q
                exact .inl q
            | false =>
              rw [ho, if_neg Bool.false_ne_true] at q
              walk_at "v"
              refine v_eqS2 lw (by first | rfl | decide +kernel) ?_
              walk_at "v"
              cases hcp : (w == ("copy" : Str)) with
              | true =>
                rw [hcp, if_pos rfl] at q
                walk_at "v"
                refine v_lenL (xs := .str w :: rest) rfl (fun _ z => nomatch z) ?_
                walk_at "v"
                match rest, hi, q with
                | [], _, q => refine v_F ?_; exact .inl q
                | [y], hi, q =>
                  obtain ⟨i, rfl⟩ := isI_int (hi y List.mem_cons_self)
                  refine v_T ?_
                  walk_at "v"
                  refine v_ite (fun h => ?_) (fun h => ?_)
                  · have q : Q (.bl (decide (0 ≤ i) && decide (i < r))) cs := q
                    rw [h, Bool.true_and] at q
                    walk_at "v"
                    exact .inl q
                  · have q : Q (.bl (decide (0 ≤ i) && decide (i < r))) cs := q
                    rw [h, Bool.false_and] at q
                    exact .inl q
                | y :: z :: ys, _, q =>
                  rw [decide_eq_false (by simp; omega)]
                  refine v_F ?_
                  rw [show oneN 0 r (y :: z :: ys) = false by cases y <;> rfl] at q
                  exact .inl q
              | false =>
                rw [hcp, if_neg Bool.false_ne_true] at q
                walk_at "v"
                refine v_eqS2 lw (by first | rfl | decide +kernel) ?_
                walk_at "v"
                cases hrd : (w == ("read" : Str)) with
                | false =>
                  rw [hrd, Bool.false_and] at q
                  refine v_F ?_
                  exact .inl q
                | true =>
                  rw [hrd, Bool.true_and] at q
                  refine v_T ?_
                  walk_at "v"
                  refine v_lenL (xs := .str w :: rest) rfl (fun _ z => nomatch z) ?_
                  walk_at "v"
                  match rest, hi, q with
                  | [], _, q => refine v_F ?_; exact .inl q
                  | [y], _, q => refine v_F ?_; cases y <;> exact .inl q
                  | [y, z], hi, q =>
                    obtain ⟨i, rfl⟩ := isI_int (hi y List.mem_cons_self)
                    obtain ⟨j, rfl⟩ := isI_int (hi z (List.mem_cons_of_mem _ List.mem_cons_self))
                    refine v_T ?_
                    walk_at "v"
                    have q : Q (.bl ((decide (0 ≤ i) && decide (i < r)) && (decide (1 ≤ j) && decide (j < b)))) cs := q
                    refine v_ite (fun h => ?_) (fun h => ?_)
                    · rw [h, Bool.true_and] at q
                      walk_at "v"
                      refine v_ite (fun h => ?_) (fun h => ?_)
                      · rw [h, Bool.true_and] at q
                        walk_at "v"
                        refine v_ite (fun h => ?_) (fun h => ?_)
                        · rw [h, Bool.true_and] at q
                          walk_at "v"
                          exact .inl q
                        · rw [h, Bool.false_and] at q
                          exact .inl q
                      · rw [h, Bool.false_and] at q
                        walk_at "v"
                        exact .inl q
                    · rw [h, Bool.false_and, Bool.false_and] at q
                      walk_at "v"
                      exact .inl q
                  | y :: z :: u :: ys, _, q =>
                    rw [decide_eq_false (by simp; omega)]
                    refine v_F ?_
                    have e : twoN r b (y :: z :: u :: ys) = false := by cases y <;> cases z <;> rfl
                    rw [e] at q
                    exact .inl q
      · obtain ⟨t, ht⟩ := hx cs
        have hns : ∀ w, x ≠ .str w := fun w z => hs ⟨w, z⟩
        have e : isDd b r (.tup (x :: rest)) = false := by cases x <;> first | rfl | exact absurd rfl (hns _)
        rw [e] at q
        have f : isTy t "str" = false := by
          cases x <;> first | (cases ht; rfl) | exact absurd rfl (hns _) | (have := hp _ List.mem_cons_self; cases this)
        walk_at "v"
        refine v_isiF rfl ht f ?_
        walk_at "v"
        exact .inl q
  · have hnt : ∀ xs, d ≠ .tup xs := fun xs z => ht ⟨xs, z⟩
    obtain ⟨t, ht⟩ := plT_ty (okV_plT hv) cs
    have e : isDd b r d = false := by cases d <;> first | rfl | exact absurd rfl (hnt _)
    rw [e] at q
    have f : isTy t "tuple" = false := by
      have hp := okV_plT hv
      cases d <;> first | (cases ht; rfl) | exact absurd rfl (hnt _) | cases hp
    unfold t_is_deed
    walk_at "v"
    refine v_isiF rfl ht f ?_
    walk_at "v"
    exact .inl q
theorem st_taken {a b c d : D} : startD N_taken [a, b, c, d] = [some a, some b, some c, some d, none, none] := rfl
theorem len_taken : ∀ ds cs Q, sp_taken K ds cs Q → ds.length = 4 := by rintro ds cs Q ⟨_, _, _, _, _, _, rfl, _⟩; rfl
theorem getD_get {xs : List Int} {j : Nat} (h : j < xs.length) : xs[j]? = some (xs.getD j 0) := by
  rw [List.getD_eq_getElem?_getD, List.getElem?_eq_getElem h]
  rfl
theorem vc_taken : ∀ ds cs Q, Lo ds cs → LoC cs → sp_taken K ds cs Q → t_taken K (Po.fn cs Q) ⟨startD N_taken ds, cs⟩ := by
  rintro ds cs Q hd hc ⟨b, r, c, bf, o, d, rfl, b2, b12, hr, hz, ho, hb, q⟩
  clear hd
  rw [st_taken]
  unfold t_taken
  cases o
  case right =>
    show (sSeq _ _) _ ⟨[some (.int b), some (encC c), some d, some .non, none, none], cs⟩
    walk_at "v"
    exact .inl q
  case read j e =>
    obtain ⟨j2, d1, d2⟩ := ho
    have hj : j < c.length := by omega
    show (sSeq _ _) _ ⟨[some (.int b), some (encC c), some d, some (.tup [.str "read", .int (j : Nat), .int e]), none, none], cs⟩
    walk_at "w"
    refine .inl ⟨rfl, _, rfl, rfl, ?_⟩
    refine ⟨false, rfl, ?_⟩
    walk_at "w"
    refine v_listL (xs := c.map .int) rfl ?_
    walk_at "w"
    refine v_ixK (lk_cell app_get) (atI_map (getD_get hj)) ?_
    walk_at "w"
    refine ⟨_, _, (j : Nat), j, rfl, app_get, rfl, Evl.ixN_nat (by simpa using hj), ?_⟩
    rw [app_set, ← List.map_set]
    walk_at "w"
    refine v_tupK (lk_cell app_get) ?_
    walk_at "w"
    exact trim_back (by simp) (lo_encC _) q
  case copy j =>
    have j2 : (j : Int) < r := ho
    have hj : j < c.length := by omega
    obtain ⟨rfl, hbl⟩ := hb ⟨j, rfl⟩
    have hj2 : j < bf.length := by omega
    show (sSeq _ _) _ ⟨[some (.int b), some (encC c), some (encC bf), some (.tup [.str "copy", .int (j : Nat)]), none, none], cs⟩
    walk_at "w"
    refine .inl ⟨rfl, _, rfl, rfl, ?_⟩
    refine ⟨false, rfl, ?_⟩
    walk_at "w"
    refine v_listL (xs := c.map .int) rfl ?_
    walk_at "w"
    refine v_ixTX ⟨_, atI_map (getD_get hj2), ?_⟩
    walk_at "w"
    refine ⟨_, _, (j : Nat), j, rfl, app_get, rfl, Evl.ixN_nat (by simpa using hj), ?_⟩
    rw [app_set, ← List.map_set]
    walk_at "w"
    refine v_tupK (lk_cell app_get) ?_
    walk_at "w"
    exact trim_back (by simp) (lo_encC _) q
  case off e =>
    show (sSeq _ _) _ ⟨[some (.int b), some (encC c), some d, some (.tup [.str "off", .int e]), none, none], cs⟩
    walk_at "w"
    refine .inl ⟨rfl, _, rfl, rfl, ?_⟩
    refine ⟨true, rfl, ?_⟩
    walk_at "w"
    exact .inl q
  all_goals
    show (sSeq _ _) _ ⟨[some (.int b), some (encC c), some d, some (.tup [.str _]), none, none], cs⟩
    walk_at "w"
    refine .inl ⟨rfl, _, rfl, rfl, ?_⟩
    refine ⟨true, rfl, ?_⟩
    walk_at "w"
    exact .inl q
theorem st_done {a b c d e : D} : startD N_done [a, b, c, d, e] = [some a, some b, some c, some d, some e, none, none, none, none] := rfl
theorem len_done : ∀ ds cs Q, sp_done K ds cs Q → ds.length = 5 := by rintro ds cs Q ⟨_, _, _, _, _, _, _, rfl, _⟩; rfl
theorem vc_done : ∀ ds cs Q, Lo ds cs → LoC cs → sp_done K ds cs Q → t_done K (Po.fn cs Q) ⟨startD N_done ds, cs⟩ := by
  rintro ds cs Q hd hc ⟨b, r, k, c, bf, o, d, rfl, b2, b12, hr, hz, ho, q⟩
  clear hd
  rw [st_done]
  unfold t_done
  rcases q with ⟨hb, hf, q⟩ | ⟨⟨⟨j, rfl⟩, rfl⟩ | ⟨rfl, hf⟩, q⟩
  rotate_left
  · show (sSeq _ _) _ ⟨[some (.int b), some (encC c), some (.non), some (.int k), some (.tup [.str "copy", .int (j : Nat)]), none, none, none, none], cs⟩
    walk_at "w"
    exact .inl q
  · show (sSeq _ _) _ ⟨[some (.int b), some (encC c), some d, some (.int k), some (.tup [.str "forget"]), none, none, none, none], cs⟩
    walk_at "w"
    refine ⟨b, r, c, bf, .forget, d, rfl, b2, b12, hr, hz, ho, (fun ⟨j, z⟩ => nomatch z), ?_⟩
    walk_at "w"
    refine v_sumL (ns := takeF b c bf .forget) rfl ?_
    walk_at "w"
    rw [show decide (((takeF b c bf .forget).sum + k) / b = 0) = true from decide_eq_true hf]
    walk_at "w"
    exact .inl q
  cases o
  case right =>
    show (sSeq _ _) _ ⟨[some (.int b), some (encC c), some d, some (.int k), some (.non), none, none, none, none], cs⟩
    walk_at "w"
    refine ⟨b, r, c, bf, .right, d, rfl, b2, b12, hr, hz, ho, hb, ?_⟩
    walk_at "w"
    refine v_sumL (ns := takeF b c bf .right) rfl ?_
    walk_at "w"
    exact .inl q
  case forget =>
    show (sSeq _ _) _ ⟨[some (.int b), some (encC c), some d, some (.int k), some (.tup [.str "forget"]), none, none, none, none], cs⟩
    walk_at "w"
    refine ⟨b, r, c, bf, .forget, d, rfl, b2, b12, hr, hz, ho, hb, ?_⟩
    walk_at "w"
    refine v_sumL (ns := takeF b c bf .forget) rfl ?_
    walk_at "w"
    rw [show decide (((takeF b c bf .forget).sum + k) / b = 0) = false from decide_eq_false (hf rfl)]
    walk_at "w"
    exact .inl q
  case again =>
    show (sSeq _ _) _ ⟨[some (.int b), some (encC c), some d, some (.int k), some (.tup [.str "again"]), none, none, none, none], cs⟩
    walk_at "w"
    refine ⟨b, r, c, bf, .again, d, rfl, b2, b12, hr, hz, ho, hb, ?_⟩
    walk_at "w"
    refine v_sumL (ns := takeF b c bf .again) rfl ?_
    walk_at "w"
    exact .inl q
  case off e =>
    show (sSeq _ _) _ ⟨[some (.int b), some (encC c), some d, some (.int k), some (.tup [.str "off", .int e]), none, none, none, none], cs⟩
    walk_at "w"
    refine ⟨b, r, c, bf, (.off e), d, rfl, b2, b12, hr, hz, ho, hb, ?_⟩
    walk_at "w"
    refine v_sumL (ns := takeF b c bf (.off e)) rfl ?_
    walk_at "w"
    exact .inl q
  case read j e =>
    show (sSeq _ _) _ ⟨[some (.int b), some (encC c), some d, some (.int k), some (.tup [.str "read", .int (j : Nat), .int e]), none, none, none, none], cs⟩
    walk_at "w"
    refine ⟨b, r, c, bf, (.read j e), d, rfl, b2, b12, hr, hz, ho, hb, ?_⟩
    walk_at "w"
    refine v_sumL (ns := takeF b c bf (.read j e)) rfl ?_
    walk_at "w"
    exact .inl q
  case copy j =>
    obtain ⟨rfl, hbl⟩ := hb ⟨j, rfl⟩
    show (sSeq _ _) _ ⟨[some (.int b), some (encC c), some (encC bf), some (.int k), some (.tup [.str "copy", .int (j : Nat)]), none, none, none, none], cs⟩
    walk_at "w"
    refine ⟨b, r, c, bf, .copy j, _, rfl, b2, b12, hr, hz, ho, hb, ?_⟩
    walk_at "w"
    refine v_sumL (ns := takeF b c bf (.copy j)) rfl ?_
    walk_at "w"
    exact .inl q
  case swap =>
    show (sSeq _ _) _ ⟨[some (.int b), some (encC c), some d, some (.int k), some (.tup [.str "swap"]), none, none, none, none], cs⟩
    walk_at "w"
    refine ⟨b, r, c, bf, .swap, d, rfl, b2, b12, hr, hz, ho, hb, ?_⟩
    walk_at "w"
    refine v_sumL (ns := takeF b c bf .swap) rfl ?_
    walk_at "w"
    exact .inl q
  case out =>
    show (sSeq _ _) _ ⟨[some (.int b), some (encC c), some d, some (.int k), some (.tup [.str "out"]), none, none, none, none], cs⟩
    walk_at "w"
    exact .inl q
  case twice =>
    show (sSeq _ _) _ ⟨[some (.int b), some (encC c), some d, some (.int k), some (.tup [.str "twice"]), none, none, none, none], cs⟩
    walk_at "w"
    refine ⟨b, r, c, bf, .twice, d, rfl, b2, b12, hr, hz, ho, hb, ?_⟩
    walk_at "w"
    refine v_sumL (ns := takeF b c bf .twice) rfl ?_
    walk_at "w"
    refine v_sumL (ns := c) rfl ?_
    walk_at "w"
    exact .inl q
theorem colAt_get {cols : List (List Int)} {i : Nat} (h : i < cols.length) : cols[i]? = some (colAt cols i) := by
  unfold colAt
  rw [List.getD_eq_getElem?_getD, List.getElem?_eq_getElem h]
  rfl
theorem colAt_mem {cols : List (List Int)} {i : Nat} (h : i < cols.length) : colAt cols i ∈ cols := List.mem_of_getElem? (colAt_get h)
theorem Gd.clen {b r : Int} {cols : List (List Int)} (g : Gd b r cols) {i : Nat} (h : i < cols.length) : ((colAt cols i).length : Int) = r := by
  have h1 := g.c _ (colAt_mem h)
  unfold okC at h1
  simp only [Bool.and_eq_true, decide_eq_true_eq] at h1
  exact h1.1
section
theorem st_ainit {a b : D} : startD N_Adding_init [a, b] = [some a, some b] := rfl
theorem len_Adding_init : ∀ ds cs Q, sp_Adding_init K ds cs Q → ds.length = 2 := by rintro ds cs Q ⟨_, _, _, _, _, rfl, _⟩; rfl
theorem vc_Adding_init : ∀ ds cs Q, Lo ds cs → LoC cs → sp_Adding_init K ds cs Q → t_Adding_init K (Po.fn cs Q) ⟨startD N_Adding_init ds, cs⟩ := by
  rintro ds cs Q hd hc ⟨n, d, b, r, cols, rfl, hn, hs, q⟩
  rw [st_ainit]
  unfold t_Adding_init
  have hs2 := hs
  obtain ⟨hc1, hi, hl⟩ := hs2
  walk_at "v"
  refine ⟨d, b, r, cols, rfl, hs, ?_⟩
  walk_at "v"
  have hs' : isSh K (cs.set n (.ins (He.ga K "Adding") ["system"] [.int b])) d b r cols := isSh_set hs hn (by decide)
  have hs3 := hs'
  obtain ⟨hc2, hi2, hl2⟩ := hs3
  refine ⟨⟨_, _, hi2⟩, d, b, r, cols, rfl, hs', .inl ?_⟩
  walk_at "v"
  simp only [List.set_set]
  exact .inl q
theorem len_Adding_free : ∀ ds cs Q, sp_Adding_free K ds cs Q → ds.length = 1 := by rintro ds cs Q ⟨_, _, _, _, _, rfl, _⟩; rfl
theorem vc_Adding_free : ∀ ds cs Q, Lo ds cs → LoC cs → sp_Adding_free K ds cs Q → t_Adding_free K (Po.fn cs Q) ⟨startD N_Adding_free ds, cs⟩ := by
  rintro ds cs Q hd hc ⟨n, b, cols, i, ⟨ws, c, w⟩, rfl, hn, q⟩
  unfold t_Adding_free
  unfold adC at hn
  cases w with
  | none =>
    dsimp only [wD] at hn
    walk_at "v"
    exact .inl q
  | some w =>
    dsimp only [wD] at hn
    walk_at "v"
    rw [if_neg (fun z => nomatch z)] at q
    exact .inl q
section
variable {Po' : Po} {x2 x3 : Option D} {cs : List Cel} {n : Nat} {b c iv : Int} {cols : List (List Int)} {ws f : List Int} {w : Option Int} {o : Op}
theorem w_do_1 (hn : cs[n]? = some (.ins (He.ga K "Adding") adN [.int b, .lst (cols.map encC), .int iv, .lst (ws.map .int), .int c, wD w])) (hwo : w ≠ none → o = .right) (hf : o = .swap → f ≠ []) (hl : ws.length ≤ 10000) (hl2 : f.length ≤ 10)
    (k : ∀ e : En, Po'.rt (.bl true) (cs.set n (.ins (He.ga K "Adding") adN [.int b, .lst (cols.map encC), .int iv, .lst ((adv (ws, 0, w) (f, c) o).1.map .int), .int c, wD (adv (ws, 0, w) (f, c) o).2.2]))) :
    u_Adding_do_1 K Po' ⟨[some (.cell n), some (encP o), x2, x3, some (.lst (f.map .int))], cs⟩ := by
  unfold u_Adding_do_1
  cases w with
  | some w0 =>
    dsimp only [wD] at hn
    walk_at "w"
    refine v_addL ⟨by simp; omega, ?_⟩
    walk_at "w"
    refine v_addL ⟨by simp; omega, ?_⟩
    walk_at "w"
    simp only [List.set_set]
    have := k ⟨[], []⟩
    unfold adv at this
    dsimp only [wD] at this
    rw [List.map_append, List.map_append] at this
    exact this
  | none =>
    dsimp only [wD] at hn
    walk_at "w"
    refine v_eqPs ?_
    walk_at "w"
    by_cases h : o = .swap
    · rw [decide_eq_true h]
      obtain ⟨x, t, rfl⟩ := List.exists_cons_of_ne_nil (hf h)
      walk_at "w"
      refine v_ixK rfl (atI_nat (j := 0) rfl) ?_
      walk_at "w"
      refine v_addL ⟨by simp; omega, ?_⟩
      walk_at "w"
      simp only [List.set_set, List.append_nil]
      have := k ⟨[], []⟩
      unfold adv at this
      dsimp only at this
      rw [if_pos h] at this
      exact this
    · rw [decide_eq_false h]
      walk_at "w"
      refine v_addL ⟨by simp; omega, ?_⟩
      walk_at "w"
      have := k ⟨[], []⟩
      unfold adv at this
      dsimp only at this
      rw [if_neg h, List.map_append] at this
      exact this
end
theorem stepT_len (b : Int) (c bf : List Int) (o : Op) (k : Int) : (stepT b c bf o k).1.length ≤ 2 := by cases o <;> simp [stepT]
theorem adv_carry (st : St) (f : List Int × Int) (o : Op) : (adv st f o).2.1 = f.2 := by
  unfold adv
  split
  · rfl
  · split <;> rfl
theorem adv_c0 (ws : List Int) (c c' : Int) (w : Option Int) (f : List Int × Int) (o : Op) : adv (ws, c, w) f o = adv (ws, c', w) f o := rfl
theorem st_do {a b : D} : startD N_Adding_do [a, b] = [some a, some b, none, none, none] := rfl
theorem len_Adding_do : ∀ ds cs Q, sp_Adding_do K ds cs Q → ds.length = 2 := by rintro ds cs Q ⟨_, _, _, _, _, _, _, rfl, _⟩; rfl
theorem vc_Adding_do : ∀ ds cs Q, Lo ds cs → LoC cs → sp_Adding_do K ds cs Q → t_Adding_do K (Po.fn cs Q) ⟨startD N_Adding_do ds, cs⟩ := by
  rintro ds cs Q hd hc ⟨n, b, r, cols, i, ⟨ws, c, w⟩, o, rfl, hn, g, hi, ho, hw, hl, q, qn⟩
  have hz := g.n
  unfold adC at hn
  dsimp only at hn hw hl q qn
  by_cases hs : okS b (colAt cols i) (colAt cols (i - 1)) i cols.length o c
  rotate_left
  · have q := qn hs
    have fin : ∀ d, ((∃ j, o = .copy j) → d = .non) → u_Adding_do_0 K (Po.fn cs Q) ⟨[some (.cell n), some (encP o), some d, none, none], cs⟩ := by
      intro d hdd
      have hcl := g.clen hi
      have hr4 := g.r4
      unfold u_Adding_do_0
      walk_at "w"
      refine v_eqPs ?_
      walk_at "w"
      by_cases h : o = .swap
      · rw [decide_eq_true h]
        walk_at "w"
        refine v_lenK rfl ?_
        rw [List.length_map]
        walk_at "w"
        have hsw : i + 1 = cols.length := by
          subst h
          exact Decidable.not_not.mp hs
        rw [decide_eq_true (by omega)]
        walk_at "w"
        exact .inl q
      · rw [decide_eq_false h]
        walk_at "w"
        unfold u_Adding_do_2
        walk_at "w"
        refine v_ixK rfl (atI_map (colAt_get hi)) ?_
        walk_at "w"
        refine ⟨b, r, c, colAt cols i, colAt cols (i - 1), o, d, rfl, g.b2, g.b12, hcl, by omega, ho, .inr ⟨?_, ?_⟩⟩
        · cases o <;> first | exact absurd trivial hs | exact absurd rfl h | exact .inl ⟨⟨_, rfl⟩, hdd ⟨_, rfl⟩⟩ | exact .inr ⟨rfl, Decidable.not_not.mp hs⟩
        walk_at "w"
        exact .inl q
    rw [st_do]
    unfold t_Adding_do
    walk_at "w"
    refine v_itd (fun h => ?_) (fun h => ?_)
    · walk_at "w"
      rw [show ((i : Int) - 1) = ((i - 1 : Nat) : Int) by omega]
      refine v_ixK rfl (atI_map (colAt_get (by omega))) ?_
      walk_at "w"
      refine fin _ fun ⟨j, hj⟩ => ?_
      subst hj
      have : i = 0 := Decidable.not_not.mp hs
      omega
    · walk_at "w"
      exact fin _ fun _ => rfl
  have q := q hs
  have fin : ∀ d, ((∃ j, o = .copy j) → d = encC (colAt cols (i - 1))) → u_Adding_do_0 K (Po.fn cs Q) ⟨[some (.cell n), some (encP o), some d, none, none], cs⟩ := by
    intro d hdd
    have hcl := g.clen hi
    have hr4 := g.r4
    unfold u_Adding_do_0
    walk_at "w"
    refine v_eqPs ?_
    have go : ∀ P : Prop, P → P := fun _ h => h
    walk_at "w"
    have rest : ∀ (Po1 : Po), (∀ e : En, Po1.rt (.bl true) (cs.set n (adC K b cols (i + 1) (adv (ws, c, w) (stepT b (colAt cols i) (colAt cols (i - 1)) o c) o)))) → u_Adding_do_2 K Po1 ⟨[some (.cell n), some (encP o), some d, none, none], cs⟩ := by
      intro Po1 hk
      unfold u_Adding_do_2
      walk_at "w"
      refine v_ixK rfl (atI_map (colAt_get hi)) ?_
      walk_at "w"
      refine ⟨b, r, c, colAt cols i, colAt cols (i - 1), o, d, rfl, g.b2, g.b12, hcl, by omega, ho, .inl ⟨fun h => ?_, fun h => ?_, ?_⟩⟩
      · obtain ⟨j, rfl⟩ := h
        have h0 : i ≠ 0 := hs
        exact ⟨hdd ⟨j, rfl⟩, by have := g.clen (i := i - 1) (by omega); omega⟩
      · subst h
        exact hs
      walk_at "w"
      rw [List.set_set]
      have ea : adC K b cols (i + 1) (adv (ws, c, w) (stepT b (colAt cols i) (colAt cols (i - 1)) o c) o) = .ins (He.ga K "Adding") adN [.int b, .lst (cols.map encC), .int ((i : Int) + 1), .lst ((adv (ws, 0, w) ((stepT b (colAt cols i) (colAt cols (i - 1)) o c).1, (stepT b (colAt cols i) (colAt cols (i - 1)) o c).2) o).1.map .int), .int (stepT b (colAt cols i) (colAt cols (i - 1)) o c).2, wD (adv (ws, 0, w) ((stepT b (colAt cols i) (colAt cols (i - 1)) o c).1, (stepT b (colAt cols i) (colAt cols (i - 1)) o c).2) o).2.2] := by
        unfold adC
        rw [adv_carry]
        rfl
      refine w_do_1 (set_get hn) hw (fun h => ?_) hl (Nat.le_trans (stepT_len ..) (by decide)) (fun e => ?_)
      · subst h
        simp [stepT]
      · rw [List.set_set, ← ea]
        exact hk e
    by_cases h : o = .swap
    · rw [decide_eq_true h]
      walk_at "w"
      refine v_lenK rfl ?_
      rw [List.length_map]
      walk_at "w"
      have hsw : i + 1 ≠ cols.length := by subst h; exact hs
      rw [decide_eq_false (by omega)]
      walk_at "w"
      exact rest _ fun e => .inl q
    · rw [decide_eq_false h]
      walk_at "w"
      exact rest _ fun e => .inl q
  rw [st_do]
  unfold t_Adding_do
  walk_at "w"
  refine v_itd (fun h => ?_) (fun h => ?_)
  · walk_at "w"
    rw [show ((i : Int) - 1) = ((i - 1 : Nat) : Int) by omega]
    refine v_ixK rfl (atI_map (colAt_get (by omega))) ?_
    walk_at "w"
    exact fin _ fun _ => rfl
  · walk_at "w"
    exact fin _ fun ⟨j, hj⟩ => by subst hj; exact absurd (show i = 0 by omega) hs
end
theorem stF_len (b : Int) (cols : List (List Int)) (ops : List Op) : ∀ k : Nat, (stF b cols ops k).1.length + (if (stF b cols ops k).2.2 = none then 0 else 1) ≤ 2 * k
  | 0 => by simp [stF]
  | k + 1 => by
    have ih := stF_len b cols ops k
    have h1 := stepT_len b (colAt cols k) (colAt cols (k - 1)) (opAt ops k) (stF b cols ops k).2.1
    rw [stF]
    generalize stepT b (colAt cols k) (colAt cols (k - 1)) (opAt ops k) (stF b cols ops k).2.1 = f at h1
    generalize stF b cols ops k = st at ih
    unfold adv
    cases hw : st.2.2 with
    | some w =>
      rw [hw] at ih
      simp at ih ⊢
      omega
    | none =>
      rw [hw] at ih
      dsimp only
      split
      · simp at ih ⊢
        omega
      · simp at ih ⊢
        omega
theorem stF_len' (b : Int) (cols : List (List Int)) (ops : List Op) (k : Nat) : (stF b cols ops k).1.length ≤ 2 * k := by
  have := stF_len b cols ops k
  omega
theorem stF_wait {b : Int} {cols : List (List Int)} {ops : List Op} : ∀ {k : Nat}, (stF b cols ops k).2.2 ≠ none → 0 < k ∧ opAt ops (k - 1) = .swap
  | 0, h => absurd rfl h
  | k + 1, h => by
    refine ⟨Nat.succ_pos _, ?_⟩
    show opAt ops k = .swap
    rw [stF] at h
    unfold adv at h
    split at h
    · exact absurd rfl h
    · split at h
      · assumption
      · exact absurd rfl h
theorem Plan.wait {b r : Int} {cols : List (List Int)} {ops : List Op} (P : Plan b r cols ops) {k : Nat} (hk : k < cols.length) (h : (stF b cols ops k).2.2 ≠ none) : opAt ops k = .right := by
  obtain ⟨h1, h2⟩ := stF_wait h
  have := P.sw (k - 1) (by omega) h2
  rwa [show k - 1 + 1 = k by omega] at this
theorem st_until {a b : D} : startD N_Adding_do_until [a, b] = [some a, some b] := rfl
theorem len_Adding_do_until : ∀ ds cs Q, sp_Adding_do_until K ds cs Q → ds.length = 2 := by rintro ds cs Q ⟨_, _, _, _, _, _, _, rfl, _⟩; rfl
theorem adC_ins {b : Int} {cols : List (List Int)} {i : Nat} {st : St} {cs : List Cel} {n : Nat} (h : cs[n]? = some (adC K b cols i st)) : cs[n]? = some (.ins (He.ga K "Adding") adN [.int b, .lst (cols.map encC), .int (i : Nat), .lst (st.1.map .int), .int st.2.1, wD st.2.2]) := h
theorem vc_Adding_do_until : ∀ ds cs Q, Lo ds cs → LoC cs → sp_Adding_do_until K ds cs Q → t_Adding_do_until K (Po.fn cs Q) ⟨startD N_Adding_do_until ds, cs⟩ := by
  rintro ds cs Q hd hc ⟨n, b, r, cols, ops, i, j, rfl, hn, g, P, hi, hj, hr, q⟩
  have hz := g.n
  rw [st_until]
  unfold t_Adding_do_until
  walk_at "v"
  refine ⟨fun m e => ∃ k : Nat, m + k = j ∧ i ≤ k ∧ e = ⟨[some (.cell n), some (.int (j : Nat))], cs.set n (adC K b cols k (stF b cols ops k))⟩, ⟨j - i, i, by omega, Nat.le_refl _, ?_⟩, ?_⟩
  · rw [set_self hn]
  · rintro m e ⟨k, hm, hk, rfl⟩
    have hn' := set_get (c := adC K b cols k (stF b cols ops k)) hn
    have hn2 := adC_ins hn'
    walk_at "v"
    refine v_itd (fun h => ?_) (fun h => ?_)
    · have hk2 : k < j := by omega
      have hop := hr k hk hk2
      have hl := stF_len' b cols ops k
      walk_at "v"
      refine ⟨n, b, r, cols, k, stF b cols ops k, .right, rfl, hn', g, by omega, trivial, fun _ => rfl, by omega, fun _ => ?_, fun z => absurd trivial z⟩
      walk_at "v"
      refine ⟨m - 1, by omega, k + 1, by omega, by omega, ?_⟩
      rw [List.set_set, stF, hop]
    · walk_at "v"
      have : k = j := by omega
      subst this
      exact .inl q
theorem len_Adding_result : ∀ ds cs Q, sp_Adding_result K ds cs Q → ds.length = 1 := by rintro ds cs Q ⟨_, _, _, _, _, _, rfl, _⟩; rfl
theorem vc_Adding_result : ∀ ds cs Q, Lo ds cs → LoC cs → sp_Adding_result K ds cs Q → t_Adding_result K (Po.fn cs Q) ⟨startD N_Adding_result ds, cs⟩ := by
  rintro ds cs Q hd hc ⟨n, b, r, cols, ops, i, rfl, hn, g, P, hi, hr, q⟩
  have hn2 := adC_ins hn
  unfold t_Adding_result
  walk_at "v"
  refine v_lenK (d := .lst (cols.map encC)) rfl ?_
  rw [List.length_map]
  walk_at "v"
  refine ⟨n, b, r, cols, ops, i, cols.length, rfl, hn, g, P, hi, Nat.le_refl _, hr, ?_⟩
  have hn' := set_get (c := adC K b cols cols.length (stF b cols ops cols.length)) hn
  have hn3 := adC_ins hn'
  walk_at "v"
  refine ⟨_, b, _, _, rfl, app_get, rfl, .inr ⟨_, _, _, _, app_set, rfl, ?_, fun c hc => .inl hc, ?_⟩⟩
  · show (true && (los _ _ && (true && true))) = true
    rw [los_int] <;> rfl
  walk_at "v"
  exact .inl q
theorem enumD_get : ∀ {xs : List D} {k i : Nat} {d : D}, (enumD k xs)[i]? = some d → ∃ x, xs[i]? = some x ∧ d = .tup [.int ((k + i : Nat) : Int), x]
  | [], _, _, _, h => by simp [enumD] at h
  | x :: xs, k, 0, d, h => by
    simp [enumD] at h
    exact ⟨x, rfl, by rw [← h]; rfl⟩
  | x :: xs, k, i + 1, d, h => by
    simp [enumD] at h
    obtain ⟨y, h1, h2⟩ := enumD_get h
    exact ⟨y, by simpa using h1, by rw [h2]; congr 3; omega⟩
theorem enumD_len : ∀ (xs : List D) (k : Nat), (enumD k xs).length = xs.length
  | [], _ => rfl
  | x :: xs, k => congrArg (· + 1) (enumD_len xs (k + 1))
theorem slF_cons : ∀ {xs : List Op} {a j : Nat} {o : Op} {t : List (Nat × Op)}, slF a xs = (j, o) :: t → ∃ m, j = a + m ∧ xs[m]? = some o ∧ o ≠ .right ∧ (∀ i, i < m → xs[i]? = some .right) ∧ t = slF (j + 1) (xs.drop (m + 1))
  | [], _, _, _, _, h => nomatch h
  | x :: xs, a, j, o, t, h => by
    rw [slF] at h
    by_cases hx : x = .right
    · rw [if_pos hx] at h
      obtain ⟨m, h1, h2, h3, h4, h5⟩ := slF_cons h
      refine ⟨m + 1, by omega, by simpa using h2, h3, fun i hi => ?_, by simpa using h5⟩
      cases i with
      | zero => simp [hx]
      | succ i => simpa using h4 i (by omega)
    · rw [if_neg hx] at h
      simp only [List.cons_append, List.nil_append, List.cons.injEq, Prod.mk.injEq] at h
      obtain ⟨⟨rfl, rfl⟩, rfl⟩ := h
      exact ⟨0, rfl, rfl, hx, fun i hi => absurd hi (by omega), rfl⟩
theorem slF_nil : ∀ {xs : List Op} {a : Nat}, slF a xs = [] → ∀ i, i < xs.length → xs[i]? = some .right
  | [], _, _, i, hi => absurd hi (by simp)
  | x :: xs, a, h, i, hi => by
    rw [slF] at h
    by_cases hx : x = .right
    · rw [if_pos hx] at h
      cases i with
      | zero => simp [hx]
      | succ i => simpa using slF_nil h i (by simpa using hi)
    · rw [if_neg hx] at h
      cases h
theorem opAt_drop {ops : List Op} {a m : Nat} {o : Op} (h : (ops.drop a)[m]? = some o) : opAt ops (a + m) = o := by
  rw [List.getElem?_drop] at h
  unfold opAt
  rw [List.getD_eq_getElem?_getD, h]
  rfl
theorem v_itLK {d : D} {xs : List D} {e : En} {P : List D → (List Cel → Prop) → En → Prop} (h : lk e.cs d = some xs) (p : ∀ G : List Cel → Prop, (∀ cs', lk cs' d = some xs → G cs') → P xs G e) : itL d e P := by
  cases d with
  | lst ys => cases h; exact .inl ⟨_, rfl, p _ fun _ _ => trivial⟩
  | fro ys => cases h; exact .inl ⟨_, rfl, p _ fun _ _ => trivial⟩
  | cell n => exact .inr ⟨n, xs, rfl, lk_cell_iff h, p _ fun _ h => lk_cell_iff h⟩
  | _ => cases h
theorem stF_congr {b : Int} {cols : List (List Int)} {ops ops' : List Op} : ∀ {i : Nat}, (∀ k, k < i → opAt ops k = opAt ops' k) → stF b cols ops i = stF b cols ops' i
  | 0, _ => rfl
  | i + 1, h => by
    rw [stF, stF, stF_congr fun k hk => h k (by omega), h i (by omega)]
theorem opAt_app {ops : List Op} {o : Op} {k : Nat} (h : k < ops.length) : opAt (ops ++ [o]) k = opAt ops k := by
  unfold opAt
  rw [List.getD_eq_getElem?_getD, List.getD_eq_getElem?_getD, List.getElem?_append_left h]
theorem opAt_end {ops : List Op} {o : Op} : opAt (ops ++ [o]) ops.length = o := by
  unfold opAt
  rw [List.getD_eq_getElem?_getD]
  simp
theorem opAt_get {ops : List Op} {k : Nat} (h : k < ops.length) : ops[k]? = some (opAt ops k) := by
  unfold opAt
  rw [List.getD_eq_getElem?_getD, List.getElem?_eq_getElem h]
  rfl
structure PlanI (b r : Int) (cols : List (List Int)) (ops : List Op) (i : Nat) : Prop where
  len : ops.length = i
  ok : ∀ k, k < i → okO b r (opAt ops k)
  st : ∀ k, k < i → okS b (colAt cols k) (colAt cols (k - 1)) k cols.length (opAt ops k) (stF b cols ops k).2.1
  sw : ∀ k, k + 1 < i → opAt ops k = .swap → opAt ops (k + 1) = .right
theorem PlanI.snoc {b r : Int} {cols : List (List Int)} {ops : List Op} {i : Nat} {o : Op} (P : PlanI b r cols ops i) (ho : okO b r o) (hs : okS b (colAt cols i) (colAt cols (i - 1)) i cols.length o (stF b cols ops i).2.1) (hsw : o ≠ .right → i = 0 ∨ opAt ops (i - 1) ≠ .swap) : PlanI b r cols (ops ++ [o]) (i + 1) := by
  have hl := P.len
  have e1 : ∀ k, k < i → opAt (ops ++ [o]) k = opAt ops k := fun k hk => opAt_app (by omega)
  have e2 : opAt (ops ++ [o]) i = o := by rw [← hl]; exact opAt_end
  have e3 : ∀ k, k ≤ i → stF b cols (ops ++ [o]) k = stF b cols ops k := fun k hk => stF_congr fun j hj => e1 j (by omega)
  refine ⟨by simp [hl], fun k hk => ?_, fun k hk => ?_, fun k hk h => ?_⟩
  · rcases Nat.lt_succ_iff_lt_or_eq.mp hk with h | rfl
    · rw [e1 k h]
      exact P.ok k h
    · rw [e2]
      exact ho
  · rcases Nat.lt_succ_iff_lt_or_eq.mp hk with h | rfl
    · rw [e1 k h, e3 k (by omega)]
      exact P.st k h
    · rw [e2, e3 k (Nat.le_refl _)]
      exact hs
  · rcases Nat.lt_succ_iff_lt_or_eq.mp hk with h2 | h2
    · rw [e1 (k + 1) h2]
      rw [e1 k (by omega)] at h
      exact P.sw k h2 h
    · subst h2
      rw [e2]
      rw [e1 k (by omega)] at h
      by_cases hr : o = .right
      · exact hr
      · rcases hsw hr with z | z
        · omega
        · exact absurd h z
theorem PlanI.plan {b r : Int} {cols : List (List Int)} {ops : List Op} (P : PlanI b r cols ops cols.length) : Plan b r cols ops := ⟨P.len, P.ok, P.st, P.sw⟩
theorem set_app_lt {cs : List Cel} {n : Nat} {c0 c c1 : Cel} (h : cs[n]? = some c0) : (cs ++ [c1]).set n c = cs.set n c ++ [c1] := by
  have := (List.getElem?_eq_some_iff.mp h).1
  rw [List.set_append_left _ _ this]
theorem slF_append : ∀ (xs ys : List Op) (k : Nat), slF k (xs ++ ys) = slF k xs ++ slF (k + xs.length) ys
  | [], ys, k => rfl
  | x :: xs, ys, k => by
    rw [List.cons_append, slF, slF, slF_append xs ys (k + 1), List.append_assoc, List.length_cons, show k + 1 + xs.length = k + (xs.length + 1) by omega]
theorem atI0 {α : Type} {f : α → D} {xs : List α} {i : Nat} {y : α} (h : xs[i]? = some y) : atI (xs.map f) (0 + (i : Int)) = some (f y) := by rw [Int.zero_add]; exact atI_map h
theorem slF_len : ∀ (xs : List Op) (k : Nat), (slF k xs).length ≤ xs.length
  | [], _ => Nat.le_refl _
  | x :: xs, k => by
    have := slF_len xs (k + 1)
    rw [slF, List.length_append, List.length_cons]
    split <;> simp <;> omega
theorem okC_iff {b r : Int} {c : List Int} : okC b r c = true ↔ (c.length : Int) = r ∧ ∀ x ∈ c, 0 ≤ x ∧ x < b := by
  unfold okC
  simp only [Bool.and_eq_true, decide_eq_true_eq, List.all_eq_true]
theorem cut_to {α : Type} (f : α → D) (xs : List α) (k : Nat) : cutD (xs.map f) none (some (k : Int)) = (xs.take k).map f := by
  unfold DL.cutD
  rw [HT.sIx_none, HT.sIx_nat, List.length_map, List.drop_zero, Nat.sub_zero, ← List.map_take]
  congr 1
  rcases Nat.le_total k xs.length with h | h
  · rw [Nat.min_eq_left h]
  · rw [Nat.min_eq_right h, List.take_of_length_le (Nat.le_refl _), List.take_of_length_le h]
theorem sh_S (s : Nat × Op) : Sh 2 (encS s) := .tup (.cons ((Sh.int _).mono (by decide)) (.cons ((sh_O _).mono (by decide)) .nil))
theorem sh_SL (ss : List (Nat × Op)) : Sh 3 (.lst (ss.map encS)) := .lst (.all fun d hd => by
  obtain ⟨s, _, rfl⟩ := List.mem_map.mp hd
  exact sh_S s)
theorem plW_opW : ∀ o : Op, plW (opW o) = (match o with | .forget => true | .again => true | .swap => true | .out => true | .twice => true | _ => false) := by
  intro o
  cases o <;> first | rfl | decide +kernel
theorem isI_all (ns : List Int) : (ns.map D.int).all isI = true := by
  rw [List.all_map, List.all_eq_true]
  intro x _
  rfl
theorem isDd_O {b r : Int} {o : Op} (h : okO b r o) (hr : o ≠ .right) : isDd b r (encO o) = true := by
  rw [encO_eq]
  show ((((opN o).map D.int).all isI) && (if plW (opW o) = true then ((opN o).map D.int).isEmpty else if (opW o == "off") = true then oneN 1 b ((opN o).map D.int) else if (opW o == "copy") = true then oneN 0 r ((opN o).map D.int) else (opW o == "read") && twoN r b ((opN o).map D.int))) = true
  rw [isI_all, Bool.true_and, plW_opW]
  cases o with
  | right => exact absurd rfl hr
  | off d =>
    obtain ⟨h1, h2⟩ := h
    show (if (("off" : Str) == "off") = true then oneN 1 b [.int d] else if (("off" : Str) == "copy") = true then oneN 0 r [.int d] else (("off" : Str) == "read") && twoN r b [.int d]) = true
    rw [if_pos (by decide +kernel)]
    show (decide (1 ≤ d) && decide (d < b)) = true
    rw [decide_eq_true h1, decide_eq_true h2]
    rfl
  | read j d =>
    obtain ⟨h0, h1, h2⟩ := h
    show (if (("read" : Str) == "off") = true then oneN 1 b [.int (j : Int), .int d] else if (("read" : Str) == "copy") = true then oneN 0 r [.int (j : Int), .int d] else (("read" : Str) == "read") && twoN r b [.int (j : Int), .int d]) = true
    rw [if_neg (by decide +kernel), if_neg (by decide +kernel), show (("read" : Str) == "read") = true by decide +kernel, Bool.true_and]
    show ((decide (0 ≤ (j : Int)) && decide ((j : Int) < r)) && (decide (1 ≤ d) && decide (d < b))) = true
    rw [decide_eq_true (by omega), decide_eq_true h0, decide_eq_true h1, decide_eq_true h2]
    rfl
  | copy j =>
    have h0 : (j : Int) < r := h
    show (if (("copy" : Str) == "off") = true then oneN 1 b [.int (j : Int)] else if (("copy" : Str) == "copy") = true then oneN 0 r [.int (j : Int)] else (("copy" : Str) == "read") && twoN r b [.int (j : Int)]) = true
    rw [if_neg (by decide +kernel), if_pos (by decide +kernel)]
    show (decide (0 ≤ (j : Int)) && decide ((j : Int) < r)) = true
    rw [decide_eq_true (by omega), decide_eq_true h0]
    rfl
  | _ => rfl
theorem okV_O (o : Op) : okV (encO o) = true := by
  rw [encO_eq]
  show (decide ((D.str (opW o) :: (opN o).map .int).length ≤ 1000) && ((D.str (opW o) :: (opN o).map .int).all plT && (PyData.str (opW o)).canLay0)) = true
  have h := opN_len o
  rw [opW_lay, decide_eq_true (by simp; omega), Bool.true_and, Bool.and_true, List.all_eq_true]
  intro x hx
  rcases List.mem_cons.mp hx with rfl | hx
  · rfl
  · obtain ⟨i, _, rfl⟩ := List.mem_map.mp hx
    rfl
theorem okV2_S (s : Nat × Op) : okV2 (encS s) = true := by
  show (true && (true && (okV (encO s.2) && true))) = true
  rw [okV_O]
  rfl
theorem isSl_S {b r l : Int} {n i : Nat} {o : Op} (h : okO b r o) (hr : o ≠ .right) (hl : l ≤ i) (hi : i < n) : isSl b r n l (encS (i, o)) = true := by
  show ((decide (l ≤ ((i : Nat) : Int)) && decide (((i : Nat) : Int) < (n : Int))) && isDd b r (encO o)) = true
  rw [isDd_O h hr, decide_eq_true hl, decide_eq_true (by omega)]
  rfl
theorem okV2_plT {d : D} (h : okV2 d = true) : plT d = true := by
  cases d <;> first | rfl | exact h
theorem okV2_tup {xs : List D} (h : okV2 (.tup xs) = true) : xs.length ≤ 1000 ∧ ∀ x ∈ xs, okV x = true := by
  have h' : (decide (xs.length ≤ 1000) && xs.all okV) = true := h
  rwa [Bool.and_eq_true, decide_eq_true_eq, List.all_eq_true] at h'
theorem st_is_slip {a b c : D} : startD N_is_slip [a, b, c] = [some a, some b, some c] := rfl
theorem len_is_slip : ∀ ds cs Q, sp_is_slip K ds cs Q → ds.length = 3 := by rintro ds cs Q ⟨_, _, _, _, _, _, rfl, _⟩; rfl
theorem vc_is_slip : ∀ ds cs Q, Lo ds cs → LoC cs → sp_is_slip K ds cs Q → t_is_slip K (Po.fn cs Q) ⟨startD N_is_slip ds, cs⟩ := by
  rintro ds cs Q hd hc ⟨v, d, l, b, r, cols, rfl, hv, hs, g, q⟩
  clear hd
  obtain ⟨_, hi2, _⟩ := id hs
  have hz := g.n
  rw [st_is_slip]
  by_cases ht : ∃ xs, v = .tup xs
  · obtain ⟨xs, rfl⟩ := ht
    obtain ⟨hl, hp⟩ := okV2_tup hv
    unfold t_is_slip
    walk_at "w"
    refine v_lenL (xs := xs) rfl (fun _ z => nomatch z) ?_
    walk_at "w"
    by_cases h2 : xs.length = 2
    · obtain ⟨x, y, rfl⟩ : ∃ x y, xs = [x, y] := by
        match xs, h2 with
        | [x, y], _ => exact ⟨x, y, rfl⟩
      refine v_F ?_
      walk_at "w"
      have hx := hp x List.mem_cons_self
      obtain ⟨t, ht⟩ := plT_ty (okV_plT hx) cs
      refine ⟨x, rfl, ⟨t, ht⟩, ?_⟩
      refine ⟨isI x, rfl, ?_⟩
      by_cases hI : isI x = true
      · obtain ⟨i, rfl⟩ := isI_int hI
        refine v_F ?_
        walk_at "w"
        have q : Q (.bl ((decide (l ≤ i) && decide (i < (cols.length : Int))) && isDd b r y)) cs := q
        refine v_ite (fun h => ?_) (fun h => ?_)
        · rw [h, Bool.true_and] at q
          walk_at "w"
          refine ⟨⟨_, _, hi2⟩, d, b, r, cols, rfl, hs, ⟨_, rfl, by omega, by omega⟩, ?_⟩
          walk_at "w"
          refine v_ite (fun h => ?_) (fun h => ?_)
          · rw [h, Bool.true_and] at q
            walk_at "w"
            refine ⟨d, b, r, cols, rfl, hs, ?_⟩
            walk_at "w"
            refine ⟨d, b, r, cols, rfl, hs, ?_⟩
            walk_at "w"
            exact ⟨y, b, r, rfl, hp y (List.mem_cons_of_mem _ List.mem_cons_self), .inl q⟩
          · rw [h, Bool.false_and] at q
            walk_at "w"
            exact .inl q
        · rw [h, Bool.false_and, Bool.false_and] at q
          walk_at "w"
          exact .inl q
      · rw [Bool.not_eq_true] at hI
        rw [hI]
        have e : isSl b r cols.length l (.tup [x, y]) = false := by cases x <;> first | rfl | cases hI
        rw [e] at q
        walk_at "w"
        exact .inl q
    · have e : isSl b r cols.length l (.tup xs) = false := by
        match xs, h2 with
        | [], _ => rfl
        | [x], _ => cases x <;> rfl
        | [x, y], h => exact absurd rfl h
        | x :: y :: z :: u, _ => cases x <;> rfl
      rw [e] at q
      rw [decide_eq_false (by omega)]
      walk_at "w"
      exact .inl q
  · have hnt : ∀ xs, v ≠ .tup xs := fun xs z => ht ⟨xs, z⟩
    obtain ⟨t, ht⟩ := plT_ty (okV2_plT hv) cs
    have e : isSl b r cols.length l v = false := by cases v <;> first | rfl | exact absurd rfl (hnt _)
    rw [e] at q
    have f : isTy t "tuple" = false := by
      have hp := okV2_plT hv
      cases v <;> first | (cases ht; rfl) | exact absurd rfl (hnt _) | cases hp
    unfold t_is_slip
    walk_at "v"
    refine v_isiF rfl ht f ?_
    walk_at "v"
    exact .inl q
theorem cutO_len (n : Nat) (ops : List Op) (l : Nat) : (cutO n ops l).length = n := by unfold cutO; rw [List.length_map, List.length_range]
theorem cutO_lt {n l k : Nat} {ops : List Op} (hk : k < n) (h : k < l) : opAt (cutO n ops l) k = opAt ops k := by
  unfold opAt cutO
  rw [List.getD_eq_getElem?_getD, List.getElem?_map, List.getElem?_range hk]
  show (if k < l then opAt ops k else Op.right) = _
  rw [if_pos h]
  rfl
theorem cutO_ge {n l k : Nat} {ops : List Op} (h : l ≤ k) : opAt (cutO n ops l) k = .right := by
  unfold opAt cutO
  rw [List.getD_eq_getElem?_getD, List.getElem?_map]
  rcases Nat.lt_or_ge k n with z | z
  · rw [List.getElem?_range z]
    show (if k < l then opAt ops k else Op.right) = _
    rw [if_neg (by omega)]
  · rw [List.getElem?_eq_none (by rw [List.length_range]; exact z)]
    rfl
theorem cutO_st {i : Nat} (h : i ≤ l) (hn : i ≤ cols.length) : stF b cols (cutO cols.length ops l) i = stF b cols ops i := stF_congr fun k hk => cutO_lt (by omega) (by omega)
theorem cutO_plan (P : Plan b r cols ops) : Plan b r cols (cutO cols.length ops l) := by
  refine ⟨cutO_len .., fun i hi => ?_, fun i hi => ?_, fun i hi h => ?_⟩
  · rcases Nat.lt_or_ge i l with z | z
    · rw [cutO_lt hi z]
      exact P.ok i hi
    · rw [cutO_ge z]
      trivial
  · rcases Nat.lt_or_ge i l with z | z
    · rw [cutO_lt hi z, cutO_st (by omega) (by omega)]
      exact P.st i hi
    · rw [cutO_ge z]
      trivial
  · rcases Nat.lt_or_ge (i + 1) l with z | z
    · rw [cutO_lt hi z]
      rw [cutO_lt (by omega) (by omega)] at h
      exact P.sw i hi h
    · exact cutO_ge z
theorem swap_waits (P : Plan b r cols ops) {k : Nat} (hk : k < cols.length) (h : opAt ops k = .swap) : (stF b cols ops (k + 1)).2.2 ≠ none := by
  have hw : (stF b cols ops k).2.2 = none := by
    cases hw : (stF b cols ops k).2.2 with
    | none => rfl
    | some w =>
      have := P.wait hk (by rw [hw]; exact fun z => nomatch z)
      rw [h] at this
      cases this
  rw [stF]
  unfold adv
  rw [hw, if_pos h]
  exact fun z => nomatch z
theorem noswap_waits {k : Nat} (h : opAt ops k ≠ .swap) : (stF b cols ops (k + 1)).2.2 = none := by
  cases hw : (stF b cols ops (k + 1)).2.2 with
  | none => rfl
  | some w =>
    have := (stF_wait (b := b) (cols := cols) (ops := ops) (k := k + 1) (by rw [hw]; exact fun z => nomatch z)).2
    exact absurd this h
end
section
variable {K : PySem.W.Frag}
theorem st_add_with {a b : D} : startD N_add_with [a, b] = [some a, some b, none, none, none] := rfl
theorem len_add_with : ∀ ds cs Q QX, sp_add_with K ds cs Q QX → ds.length = 2 := by rintro ds cs Q QX ⟨_, _, _, _, _, _, _, rfl, _⟩; rfl
theorem lowN_succ {ops : List Op} {i j : Nat} {o : Op} (h : (slF 0 ops)[i]? = some (j, o)) : lowN ops (i + 1) = j + 1 + (if o = .swap then 1 else 0) := by
  show ((slF 0 ops).getD i (0, .right)).1 + 1 + (if ((slF 0 ops).getD i (0, .right)).2 = .swap then 1 else 0) = _
  rw [List.getD_eq_getElem?_getD, h]
  rfl
theorem vc_add_with : ∀ ds cs Q QX, Lo ds cs → LoC cs → sp_add_with K ds cs Q QX → t_add_with K (FinX cs QX) (Po.fn cs Q) ⟨startD N_add_with ds, cs⟩ := by
  rintro ds cs Q QX hd hc ⟨d, d2, b, r, cols, ops, items, rfl, hk, hs, g, P, q⟩
  have hz := g.n
  have hlen := P.len
  -- how many are good, and what stands behind
  obtain ⟨m, hm, hgood, q⟩ : ∃ m, m ≤ (slF 0 ops).length ∧ (∀ i, i < m → items[i]? = ((slF 0 ops)[i]?).map encS) ∧ ((items.length = m ∧ m = (slF 0 ops).length ∧ Q (wrD K b (stF b cols ops cols.length).1 (stF b cols ops cols.length).2.1) cs) ∨
      ∃ v, items[m]? = some v ∧ okV2 v = true ∧ BadL b r cols ops (lowN ops m) v ∧ QX ⟨"InvalidSlips", some ((m : Nat) : Int)⟩ cs) := by
    rcases q with ⟨rfl, q⟩ | ⟨x, ⟨hx, v, rest, rfl, h1, h2, _⟩, q⟩
    · exact ⟨(slF 0 ops).length, Nat.le_refl _, fun i _ => List.getElem?_map, .inl ⟨List.length_map _, rfl, q⟩⟩
    · have hl : (((slF 0 ops).take x).map encS).length = x := by rw [List.length_map, List.length_take]; omega
      refine ⟨x, hx, fun i hi => ?_, .inr ⟨v, ?_, h1, h2, q⟩⟩
      · rw [List.getElem?_append_left (by rw [hl]; exact hi), List.getElem?_map, List.getElem?_take_of_lt hi]
      · rw [List.getElem?_append_right (by rw [hl]; exact Nat.le_refl _), hl, Nat.sub_self]
        rfl
  rw [st_add_with]
  unfold t_add_with
  walk_at "v"
  refine ⟨_, d, b, r, cols, rfl, app_get, isSh_app hs, rfl, .inl ?_⟩
  rw [show ({ sl := [some d, some d2, none, none, none], cs := cs } : En).cs = cs from rfl, app_set]
  walk_at "v"
  refine v_itLK (lk_app hk) fun G hG => ?_
  dsimp only [List.set]
  refine ⟨fun i e => ∃ (a : Nat) (x3 x4 : Option D), a ≤ cols.length ∧ i ≤ m ∧ (slF 0 ops).drop i = slF a (ops.drop a) ∧ (if (stF b cols ops a).2.2 = none then a else a + 1 : Nat) = lowN ops i ∧ e = ⟨[some d, some d2, some (.cell cs.length), x3, x4], cs ++ [adC K b cols a (stF b cols ops a)]⟩, ⟨0, none, none, Nat.zero_le _, Nat.zero_le _, rfl, rfl, rfl⟩, ?_, ?_⟩
  · rintro i y e2 hy ⟨a, x3, x4, ha, him, hdrop, hlow, rfl⟩
    obtain ⟨x, hx, rfl⟩ := enumD_get hy
    have hsA : isSh K (cs ++ [adC K b cols a (stF b cols ops a)]) d b r cols := isSh_app hs
    have hn2 : (cs ++ [adC K b cols a (stF b cols ops a)])[cs.length]? = some (.ins (He.ga K "Adding") adN [.int b, .lst (cols.map encC), .int (a : Nat), .lst ((stF b cols ops a).1.map .int), .int (stF b cols ops a).2.1, wD (stF b cols ops a).2.2]) := app_get
    refine ⟨hG _ (lk_app hk), _, rfl, ?_⟩
    have trim : ∀ (c : Cel), (cs ++ [c]).take cs.length = cs := fun c => List.take_left
    rcases Nat.lt_or_ge i m with hi | hi
    · -- a good one
      obtain ⟨⟨j, o⟩, hjo⟩ : ∃ s, (slF 0 ops)[i]? = some s := ⟨_, List.getElem?_eq_getElem (show i < (slF 0 ops).length by omega)⟩
      have hxe : x = encS (j, o) := by
        have := hgood i hi
        rw [hx, hjo] at this
        exact Option.some.inj this
      subst hxe
      have hil := (List.getElem?_eq_some_iff.mp hjo).1
      have hdc : (slF 0 ops).drop i = (j, o) :: (slF 0 ops).drop (i + 1) := by
        rw [List.drop_eq_getElem_cons hil]
        rw [List.getElem?_eq_getElem hil] at hjo
        rw [Option.some.inj hjo]
      rw [hdc] at hdrop
      obtain ⟨mm, h1, h2, h3, h4, h5⟩ := slF_cons hdrop.symm
      have hml := (List.getElem?_eq_some_iff.mp h2).1
      rw [List.length_drop] at hml
      have hj : j < cols.length := by omega
      have hoj : opAt ops j = o := by rw [h1]; exact opAt_drop h2
      have hright : ∀ k, a ≤ k → k < j → opAt ops k = .right := fun k k1 k2 => by
        have := opAt_drop (h4 (k - a) (by omega))
        rwa [show a + (k - a) = k by omega] at this
      have hfree : (if (stF b cols ops a).2.2 = none then a else a + 1 : Nat) ≤ j := by
        by_cases hw : (stF b cols ops a).2.2 = none
        · rw [if_pos hw]
          omega
        · rw [if_neg hw]
          have := P.wait (k := a) (by omega) hw
          by_cases he : a = j
          · subst he
            exact absurd (hoj.symm.trans this) h3
          · omega
      have hok : okO b r o := by rw [← hoj]; exact P.ok j hj
      walk_at "w"
      refine ⟨cs.length, b, cols, a, stF b cols ops a, rfl, app_get, ?_⟩
      walk_at "w"
      refine ⟨_, d, _, b, r, cols, rfl, okV2_S _, hsA, g, ?_⟩
      rw [isSl_S hok h3 (by omega) hj]
      rw [show encS (j, o) = .tup [.int ((j : Nat) : Int), encO o] from rfl]
      walk_at "w"
      refine ⟨cs.length, b, r, cols, ops, a, j, rfl, app_get, g, P, by omega, by omega, hright, ?_⟩
      rw [app_set]
      have hn3 : (cs ++ [adC K b cols j (stF b cols ops j)])[cs.length]? = some (.ins (He.ga K "Adding") adN [.int b, .lst (cols.map encC), .int (j : Nat), .lst ((stF b cols ops j).1.map .int), .int (stF b cols ops j).2.1, wD (stF b cols ops j).2.2]) := app_get
      have hl := stF_len' b cols ops j
      walk_at "w"
      refine ⟨cs.length, b, r, cols, j, stF b cols ops j, o, by rw [encP_eq h3], app_get, g, hj, hok, fun hw => hoj ▸ P.wait hj hw, by omega, fun _ => ?_, fun z => absurd (by rw [← hoj]; exact P.st j hj) z⟩
      rw [app_set]
      walk_at "w"
      refine ⟨j + 1, some (.int ((0 + i : Nat) : Int)), some (encS (j, o)), by omega, hi, ?_, ?_, ?_⟩
      · rw [h5, List.drop_drop]
        congr 2
        omega
      · rw [lowN_succ hjo]
        by_cases hsw : o = .swap
        · rw [if_pos hsw, if_neg (swap_waits P hj (hoj.trans hsw))]
        · rw [if_neg hsw, if_pos (noswap_waits (by rw [hoj]; exact hsw))]
      · rw [stF, hoj]
        rfl
    · -- the bad one
      obtain rfl : i = m := by omega
      rcases q with ⟨h1, _⟩ | ⟨v, hv, ov, hb, q⟩
      · have := (List.getElem?_eq_some_iff.mp hx).1
        omega
      rw [hx] at hv
      cases hv
      have qx : FinX cs QX ⟨"InvalidSlips", some ((i : Nat) : Int)⟩ (cs ++ [adC K b cols a (stF b cols ops a)]) := .inr ⟨by rw [trim]; exact fun c hc => .inl hc, by rw [trim]; exact q⟩
      walk_at "w"
      refine ⟨cs.length, b, cols, a, stF b cols ops a, rfl, app_get, ?_⟩
      rw [hlow]
      walk_at "w"
      refine ⟨_, d, _, b, r, cols, rfl, ov, hsA, g, ?_⟩
      by_cases hsl : isSl b r cols.length (lowN ops i : Nat) x = false
      · rw [hsl]
        walk_at "w"
        refine ⟨_, rfl, ?_⟩
        rw [Nat.zero_add]
        exact qx
      rcases hb with hb | ⟨j, o, rfl, hlj, hj, hok, hr, hns⟩
      · exact absurd hb hsl
      rw [Bool.not_eq_false] at hsl
      rw [hsl]
      rw [show encS (j, o) = .tup [.int ((j : Nat) : Int), encO o] from rfl]
      walk_at "w"
      have hal : a ≤ lowN ops i := by rw [← hlow]; split <;> omega
      have e0 : stF b cols (cutO cols.length ops (lowN ops i)) a = stF b cols ops a := cutO_st hal ha
      have PC := cutO_plan (l := lowN ops i) P
      have hrt : ∀ k, a ≤ k → k < j → opAt (cutO cols.length ops (lowN ops i)) k = .right := fun k k1 k2 => by
        rcases Nat.lt_or_ge k (lowN ops i) with z | z
        · have hw : (stF b cols ops a).2.2 ≠ none := fun hw => by
            rw [if_pos hw] at hlow
            omega
          rw [if_neg hw] at hlow
          obtain rfl : k = a := by omega
          rw [cutO_lt (by omega) z]
          exact P.wait (by omega) hw
        · exact cutO_ge z
      refine ⟨cs.length, b, r, cols, cutO cols.length ops (lowN ops i), a, j, rfl, ?_, g, PC, by omega, by omega, hrt, ?_⟩
      · rw [e0]
        exact app_get
      rw [app_set]
      have hw : (stF b cols (cutO cols.length ops (lowN ops i)) j).2.2 = none := by
        cases hw : (stF b cols (cutO cols.length ops (lowN ops i)) j).2.2 with
        | none => rfl
        | some w =>
          obtain ⟨h1, h2⟩ := stF_wait (b := b) (cols := cols) (ops := cutO cols.length ops (lowN ops i)) (k := j) (by rw [hw]; exact fun z => nomatch z)
          rcases Nat.lt_or_ge (j - 1) (lowN ops i) with z | z
          · have hjl : j = lowN ops i := by omega
            by_cases hwa : (stF b cols ops a).2.2 = none
            · rw [if_pos hwa] at hlow
              have : j = a := by omega
              subst this
              rw [e0, hwa] at hw
              cases hw
            · rw [if_neg hwa] at hlow
              have e1 : j - 1 = a := by omega
              rw [e1, cutO_lt (by omega) (by omega), P.wait (by omega) hwa] at h2
              cases h2
          · rw [cutO_ge z] at h2
            cases h2
      have hl0 := stF_len' b cols (cutO cols.length ops (lowN ops i)) j
      generalize stF b cols (cutO cols.length ops (lowN ops i)) j = st at hw hns hl0 ⊢
      have hn3 : (cs ++ [adC K b cols j st])[cs.length]? = some (.ins (He.ga K "Adding") adN [.int b, .lst (cols.map encC), .int (j : Nat), .lst (st.1.map .int), .int st.2.1, wD st.2.2]) := app_get
      walk_at "w"
      refine ⟨cs.length, b, r, cols, j, st, o, by rw [encP_eq hr], app_get, g, hj, hok, fun z => absurd hw z, by omega, fun z => absurd z hns, fun _ => ?_⟩
      walk_at "w"
      refine ⟨_, rfl, ?_⟩
      rw [Nat.zero_add]
      exact .inr ⟨by rw [trim]; exact fun c hc => .inl hc, by rw [trim]; exact q⟩
  · rintro e2 ⟨a, x3, x4, ha, him, hdrop, hlow, rfl⟩
    rw [enumD_len] at him hdrop
    rcases q with ⟨h1, h2, q⟩ | ⟨v, hv, _⟩
    rotate_left
    · have := (List.getElem?_eq_some_iff.mp hv).1
      omega
    rw [h1, h2, List.drop_length] at hdrop
    have hright : ∀ k, a ≤ k → k < cols.length → opAt ops k = .right := fun k k1 k2 => by
      have := opAt_drop (slF_nil hdrop.symm (k - a) (by rw [List.length_drop]; omega))
      rwa [show a + (k - a) = k by omega] at this
    have hn2 : (cs ++ [adC K b cols a (stF b cols ops a)])[cs.length]? = some (.ins (He.ga K "Adding") adN [.int b, .lst (cols.map encC), .int (a : Nat), .lst ((stF b cols ops a).1.map .int), .int (stF b cols ops a).2.1, wD (stF b cols ops a).2.2]) := app_get
    refine ⟨hG _ (lk_app hk), ?_⟩
    walk_at "w"
    refine ⟨_, b, r, cols, ops, a, rfl, app_get, g, P, ha, hright, ?_⟩
    exact trim_back (by simp) (lo_wrD ..) q
end
section
variable {K : PySem.W.Frag}
theorem Wo.s_inj : ∀ a b : Wo, (PyData.eqv (.str a.s) (.str b.s)) = decide (a = b) := by
  intro a b
  cases a <;> cases b <;> first | rfl | decide +kernel
theorem Wo.lay : ∀ a : Wo, (PyData.str a.s).canLay0 = true := by
  intro a
  cases a <;> first | rfl | decide +kernel
theorem sh_D (t : Dd) : Sh 1 (encD t) := .tup (.cons (Sh.str (Wo.lay _)) (shs_int 0 _))
theorem eqv_D (s t : Dd) : PyData.eqv (toP (encD s)) (toP (encD t)) = decide (s = t) := by
  obtain ⟨a, xs⟩ := s
  obtain ⟨b, ys⟩ := t
  have h1 := Wo.s_inj a b
  have h2 := encI.eqvs xs ys
  show (PyData.eqv (.str a.s) (.str b.s) && PyData.eqvAll (toPs (xs.map .int)) (toPs (ys.map .int))) = _
  rw [h1, h2]
  simp [Prod.mk.injEq]
theorem encDE : EqE encD 1 := ⟨fun t => (sh_D t).ok, fun t => (sh_D t).lay, fun t => (sh_D t).dep, eqv_D⟩
theorem lo_D {k : Nat} (t : Dd) : loD k (encD t) = true := by
  show (true && los k (t.2.map .int)) = true
  rw [los_int] <;> rfl
theorem los_D {k : Nat} (ts : List Dd) : los k (ts.map encD) = true := los_map lo_D ts
theorem any_mem {α : Type} [DecidableEq α] {enc : α → D} {n : Nat} (h : EqE enc n) (a : α) : ∀ xs : List α, ((toPs (xs.map enc)).any fun z => PyData.eqv z (toP (enc a))) = decide (a ∈ xs)
  | [] => rfl
  | x :: xs => by
    show (PyData.eqv (toP (enc x)) (toP (enc a)) || (toPs (xs.map enc)).any fun z => PyData.eqv z (toP (enc a))) = _
    rw [h.eqv, any_mem h a xs]
    simp [eq_comm]
theorem v_inE {α : Type} [DecidableEq α] {enc : α → D} {n : Nat} (h : EqE enc n) {a : α} {xs : List α} {e : En} {P : D → En → Prop} {x y : D} (hx : drf e.cs x = enc a) (hy : drf e.cs y = .lst (xs.map enc)) (p : P (.bl (isIn a xs)) e) (hn : n + 1 ≤ 64 := by decide) : qIn false x y e P := by
  refine .inr ⟨_, hy, ?_, h.lst.shp hn xs, ?_⟩
  · rw [hx]
    exact h.shp (by omega) a
  · rw [hx, any_mem h]
    exact p
theorem v_lcF {P : D → En → Prop} {tg : Tg} {tt : DT} {te : DE} {vs : List Nat} {o : Bool} {G : List Cel → Prop} {α : Type} {ds : List D} {e1 : En} (xs : List α) (enc f : α → D) (pr : α → Bool) (hd : ds = xs.map enc) (hz : xs.length ≤ 100000)
  (turn : ∀ (Q : List Cel → Prop) (Q2 : D → List Cel → Prop) (i : Nat) (x : α), xs[i]? = some x → (pr x = false → Q e1.cs) → (pr x = true → Q2 (f x) e1.cs) → ∃ sl', setTg tg (enc x) (wipeD e1.sl vs) = some sl' ∧ tt ⟨sl', e1.cs⟩ fun b e2 => if b = true then te e2 fun y e3 => Q2 y e3.cs else Q e2.cs)
  (done : newL o ((xs.filter pr).map f) ⟨e1.sl, e1.cs⟩ P) (g : G e1.cs := by first | trivial | assumption) : ds.length ≤ sizeLine ∧ ∃ I : Nat → List D → List Cel → Prop, I 0 [] e1.cs ∧
  (∀ i d acc cs, ds[i]? = some d → I i acc cs → G cs ∧ ∃ sl', setTg tg d (wipeD e1.sl vs) = some sl' ∧ tt ⟨sl', cs⟩ fun b e2 => if b = true then te e2 fun y e3 => I (i + 1) (acc ++ [y]) e3.cs else I (i + 1) acc e2.cs) ∧
  ∀ acc cs, acc.length ≤ ds.length → I ds.length acc cs → G cs ∧ newL o acc ⟨e1.sl, cs⟩ P := by
  subst hd
  refine ⟨sz_le (by simpa using hz), fun i acc cs => acc = ((xs.take i).filter pr).map f ∧ cs = e1.cs, ⟨rfl, rfl⟩, ?_, ?_⟩
  · rintro i d acc cs hi ⟨rfl, rfl⟩
    simp only [List.getElem?_map, Option.map_eq_some_iff] at hi
    obtain ⟨x, hx, rfl⟩ := hi
    refine ⟨g, turn (fun cs => ((xs.take i).filter pr).map f = ((xs.take (i + 1)).filter pr).map f ∧ cs = e1.cs) (fun y cs => ((xs.take i).filter pr).map f ++ [y] = ((xs.take (i + 1)).filter pr).map f ∧ cs = e1.cs) i x hx (fun h => ⟨?_, rfl⟩) fun h => ⟨?_, rfl⟩⟩
    · rw [List.take_add_one, hx]
      simp [h]
    · rw [List.take_add_one, hx]
      simp [h]
  · rintro acc cs _ ⟨rfl, rfl⟩
    exact ⟨g, by simpa using done⟩
def isD (b r : Int) (t : Dd) : Prop := match t.1 with
  | .off => ∃ d, t.2 = [d] ∧ 1 ≤ d ∧ d < b
  | .read => ∃ j d, t.2 = [j, d] ∧ 0 ≤ j ∧ j < r ∧ 1 ≤ d ∧ d < b
  | .copy => ∃ j, t.2 = [j] ∧ 0 ≤ j ∧ j < r
  | _ => t.2 = []
theorem isD_of {b r : Int} {t : Dd} (h : t ∈ allD b r) : isD b r t := by
  unfold allD at h
  simp only [List.mem_append, List.mem_cons, List.not_mem_nil, or_false] at h
  rcases h with (((h | h) | h) | h) | h
  · rcases h with rfl | rfl <;> rfl
  · obtain ⟨i, hi, rfl⟩ := List.mem_map.mp h
    have := List.mem_range.mp hi
    exact ⟨_, rfl, by omega, by omega⟩
  · obtain ⟨j, hj, h⟩ := List.mem_flatMap.mp h
    obtain ⟨i, hi, rfl⟩ := List.mem_map.mp h
    have := List.mem_range.mp hi
    have := List.mem_range.mp hj
    exact ⟨_, _, rfl, by omega, by omega, by omega, by omega⟩
  · obtain ⟨i, hi, rfl⟩ := List.mem_map.mp h
    have := List.mem_range.mp hi
    exact ⟨_, rfl, by omega, by omega⟩
  · rcases h with rfl | rfl | rfl <;> rfl
theorem isD.len {b r : Int} {t : Dd} (h : isD b r t) : t.2.length ≤ 2 := by
  obtain ⟨w, l⟩ := t
  cases w <;> simp only [isD] at h <;> first | (obtain ⟨_, rfl, _⟩ := h; simp; done) | (obtain ⟨_, _, rfl, _⟩ := h; simp; done) | (subst h; simp)
theorem allD_nd_all : ∀ b : Nat, b < 13 → ∀ r : Nat, r < 5 → (allD (b : Int) (r : Int)).Nodup := by decide +kernel
theorem allD_nd {b r : Int} (h1 : 2 ≤ b) (h2 : b ≤ 12) (h3 : 1 ≤ r) (h4 : r ≤ 4) : (allD b r).Nodup := by
  have := allD_nd_all b.toNat (by omega) r.toNat (by omega)
  rw [show ((b.toNat : Nat) : Int) = b by omega, show ((r.toNat : Nat) : Int) = r by omega] at this
  exact this
theorem allD_len_all : ∀ b : Nat, b < 13 → 2 ≤ b → ∀ r : Nat, r < 5 → 1 ≤ r → 8 ≤ (allD (b : Int) (r : Int)).length ∧ (allD (b : Int) (r : Int)).length ≤ 100 := by decide +kernel
theorem allD_len {b r : Int} (h1 : 2 ≤ b) (h2 : b ≤ 12) (h3 : 1 ≤ r) (h4 : r ≤ 4) : 8 ≤ (allD b r).length ∧ (allD b r).length ≤ 100 := by
  have := allD_len_all b.toNat (by omega) (by omega) r.toNat (by omega) (by omega)
  rw [show ((b.toNat : Nat) : Int) = b by omega, show ((r.toNat : Nat) : Int) = r by omega] at this
  exact this
theorem filter_len {α : Type} [DecidableEq α] : ∀ {xs ys : List α}, xs.Nodup → ys.Nodup → (∀ t ∈ ys, t ∈ xs) → (xs.filter fun t => isIn t ys).length = ys.length := by
  intro xs ys hx hy hs
  have p : (xs.filter fun t => isIn t ys).Perm ys := by
    rw [List.perm_ext_iff_of_nodup (hx.filter _) hy]
    intro a
    rw [List.mem_filter, isIn, decide_eq_true_eq]
    exact ⟨fun h => h.2, fun h => ⟨hs a h, h⟩⟩
  exact p.length_eq
theorem st_noc {a b : D} : startD N_number_of_columns [a, b] = [some a, some b, none, none] := rfl
theorem len_number_of_columns : ∀ ds cs Q, sp_number_of_columns K ds cs Q → ds.length = 2 := by rintro ds cs Q ⟨_, _, rfl, _⟩; rfl
theorem vc_number_of_columns : ∀ ds cs Q, Lo ds cs → LoC cs → sp_number_of_columns K ds cs Q → t_number_of_columns K (Po.fn cs Q) ⟨startD N_number_of_columns ds, cs⟩ := by
  rintro ds cs Q hd hc ⟨b, r, rfl, b2, b12, r1, r4, q⟩
  rw [st_noc]
  unfold t_number_of_columns
  walk_at "v"
  refine ⟨fun i e => ∃ x, e = ⟨[some (.int b), some (.int r), some (.int (b ^ i)), x], cs⟩, ⟨none, by simp⟩, ?_, ?_⟩
  · rintro i d e2 hi ⟨x, rfl⟩
    refine ⟨trivial, _, rfl, ?_⟩
    walk_at "v"
    exact ⟨_, by rw [← Int.pow_succ]; rfl⟩
  · rintro e2 ⟨x, rfl⟩
    refine ⟨trivial, ?_⟩
    rw [intsD_len]
    walk_at "v"
    exact .inl q
theorem st_power {a b : D} : startD N_law_power [a, b] = [some a, some b, none, none] := rfl
theorem len_law_power : ∀ ds cs Q, sp_law_power K ds cs Q → ds.length = 2 := by rintro ds cs Q ⟨_, _, rfl, _⟩; rfl
theorem vc_law_power : ∀ ds cs Q, Lo ds cs → LoC cs → sp_law_power K ds cs Q → t_law_power K (Po.fn cs Q) ⟨startD N_law_power ds, cs⟩ := by
  rintro ds cs Q hd hc ⟨b, r, rfl, b2, b12, r1, r4, q⟩
  rw [st_power]
  unfold t_law_power
  walk_at "v"
  refine ⟨fun i e => ∃ x, e = ⟨[some (.int b), some (.int r), some (.int (b ^ i)), x], cs⟩, ⟨none, by simp⟩, ?_, ?_⟩
  · rintro i d e2 hi ⟨x, rfl⟩
    refine ⟨trivial, _, rfl, ?_⟩
    walk_at "v"
    exact ⟨_, by rw [← Int.pow_succ]; rfl⟩
  · rintro e2 ⟨x, rfl⟩
    refine ⟨trivial, ?_⟩
    rw [intsD_len]
    walk_at "v"
    exact .inl q
theorem offs_map (b : Int) : (List.range (b - 1).toNat).map (fun (i : Nat) => encD (.off, [1 + (i : Int)])) = (offs b).map encD := by
  unfold offs
  rw [List.map_map]
  rfl
theorem copies_map (r : Int) : (List.range r.toNat).map (fun (i : Nat) => encD (.copy, [0 + (i : Int)])) = (copies r).map encD := by
  unfold copies
  rw [List.map_map]
  rfl
theorem reads_map (b j : Int) : (List.range (b - 1).toNat).map (fun (i : Nat) => encD (.read, [j, 1 + (i : Int)])) = (reads b j).map encD := by
  unfold reads
  rw [List.map_map]
  rfl
theorem readsA_succ (b : Int) (k : Nat) : readsA b (k + 1) = readsA b k ++ reads b (0 + (k : Int)) := by
  unfold readsA
  rw [List.range_succ, List.flatMap_append]
  simp
theorem reads_len (b j : Int) : (reads b j).length = (b - 1).toNat := by simp [reads]
theorem readsA_len (b : Int) : ∀ k : Nat, (readsA b k).length = k * (b - 1).toNat
  | 0 => by simp [readsA]
  | k + 1 => by rw [readsA_succ, List.length_append, readsA_len b k, reads_len, Nat.succ_mul]
theorem mul_44 {b : Int} {k : Nat} (h1 : b ≤ 12) (h2 : k ≤ 4) : k * (b - 1).toNat ≤ 44 := by
  have h3 : (b - 1).toNat ≤ 11 := by omega
  exact Nat.le_trans (Nat.mul_le_mul h2 h3) (by decide)
theorem offs_len (b : Int) : (offs b).length = (b - 1).toNat := by simp [offs]
theorem copies_len (r : Int) : (copies r).length = r.toNat := by simp [copies]
theorem st_all_deeds {a b : D} : startD N_all_deeds [a, b] = [some a, some b, none, none, none] := rfl
theorem len_all_deeds : ∀ ds cs Q, sp_all_deeds K ds cs Q → ds.length = 2 := by rintro ds cs Q ⟨_, _, rfl, _⟩; rfl
theorem vc_all_deeds : ∀ ds cs Q, Lo ds cs → LoC cs → sp_all_deeds K ds cs Q → t_all_deeds K (Po.fn cs Q) ⟨startD N_all_deeds ds, cs⟩ := by
  rintro ds cs Q hd hc ⟨b, r, rfl, b2, b12, r1, r4, q⟩
  have lo := offs_len b
  have lc := copies_len r
  have lr := readsA_len b r.toNat
  have l44 := mul_44 b12 (show r.toNat ≤ 4 by omega)
  rw [← lr] at l44
  rw [st_all_deeds]
  unfold t_all_deeds
  walk_at "v"
  refine v_lcY (List.range (b - 1).toNat) (fun (i : Nat) => .int (1 + (i : Int))) (fun (i : Nat) => encD (.off, [1 + (i : Int)])) rfl (by simp; omega) (fun Q' i x hx q' => ⟨_, rfl, by walk_at "v"; exact q'⟩) ?_
  rw [offs_map]
  walk_at "v"
  refine v_addL ⟨by simp; omega, ?_⟩
  rw [show [D.tup [D.str "forget"], D.tup [D.str "again"]] = [((.forget, []) : Dd), (.again, [])].map encD from rfl, ← List.map_append]
  walk_at "v"
  refine ⟨fun i acc cs' => acc = (readsA b i).map encD ∧ cs' = cs, ⟨rfl, rfl⟩, ?_, ?_⟩
  · rintro i d acc cs' hi ⟨rfl, rfl⟩
    obtain ⟨hi1, rfl⟩ := intsD_get hi
    refine ⟨trivial, _, rfl, ?_⟩
    unfold dYes
    refine iteT ?_
    walk_at "v"
    refine ⟨fun j acc1 cs1 => acc1 = (readsA b i ++ (reads b (0 + (i : Int))).take j).map encD ∧ cs1 = cs', ⟨by simp, rfl⟩, ?_, ?_⟩
    · rintro j d acc1 cs1 hj ⟨rfl, rfl⟩
      obtain ⟨hj1, rfl⟩ := intsD_get hj
      refine ⟨trivial, _, rfl, ?_⟩
      refine iteT ?_
      walk_at "v"
      have h1 := readsA_len b i
      have h2 := mul_44 b12 (show i ≤ 4 by omega)
      refine ⟨Nat.lt_of_le_of_lt (show _ ≤ 1000 by rw [List.length_map, List.length_append, List.length_take, reads_len]; omega) (by decide), ?_, rfl⟩
      have e : (reads b (0 + (i : Int))).take (j + 1) = (reads b (0 + (i : Int))).take j ++ [(.read, [0 + (i : Int), 1 + (j : Int)])] := by
        rw [List.take_add_one]
        congr 1
        unfold reads
        rw [List.getElem?_map, List.getElem?_range hj1]
        rfl
      rw [e, ← List.append_assoc, List.map_append (l₁ := readsA b i ++ (reads b (0 + (i : Int))).take j)]
      rfl
    · rintro acc1 cs1 ⟨rfl, rfl⟩
      rw [intsD_len]
      refine ⟨trivial, ?_, rfl⟩
      rw [readsA_succ, List.take_of_length_le (by rw [reads_len]; exact Nat.le_refl _)]
  · rintro acc cs' ⟨rfl, rfl⟩
    rw [intsD_len]
    refine ⟨trivial, ?_⟩
    walk_at "v"
    refine v_addL ⟨by simp; omega, ?_⟩
    rw [← List.map_append]
    walk_at "v"
    refine v_lcY (List.range r.toNat) (fun (i : Nat) => .int (0 + (i : Int))) (fun (i : Nat) => encD (.copy, [0 + (i : Int)])) rfl (by simp; omega) (fun Q' i x hx q' => ⟨_, rfl, by walk_at "v"; exact q'⟩) ?_
    rw [copies_map]
    walk_at "v"
    refine v_addL ⟨by simp; omega, ?_⟩
    rw [← List.map_append]
    walk_at "v"
    refine v_addL ⟨by simp; omega, ?_⟩
    rw [show [D.tup [D.str "swap"], D.tup [D.str "out"], D.tup [D.str "twice"]] = [((.swap, []) : Dd), (.out, []), (.twice, [])].map encD from rfl, ← List.map_append]
    walk_at "v"
    exact .inl q
theorem perm_at {α : Type} : ∀ {l : List α} {k : Nat} {y : α}, l[k]? = some y → (y :: l.eraseIdx k).Perm l
  | [], _, _, h => by simp at h
  | x :: xs, 0, y, h => by
    simp at h
    subst h
    exact .refl _
  | x :: xs, k + 1, y, h => by
    simp at h
    exact (List.Perm.swap x y _).trans ((perm_at h).cons x)
theorem map_erase {α β : Type} (f : α → β) : ∀ (l : List α) (k : Nat), (l.map f).eraseIdx k = (l.eraseIdx k).map f
  | [], _ => rfl
  | x :: xs, 0 => rfl
  | x :: xs, k + 1 => congrArg (f x :: ·) (map_erase f xs k)
theorem perm_move {α : Type} {left ys es : List α} {k : Nat} {y : α} (h : (left ++ ys).Perm es) (hk : left[k]? = some y) : (left.eraseIdx k ++ (ys ++ [y])).Perm es := by
  refine List.Perm.trans ?_ h
  have h1 := perm_at hk
  refine List.Perm.trans ?_ (h1.append_right ys)
  rw [← List.append_assoc]
  refine List.Perm.trans List.perm_append_comm ?_
  simp
theorem plW_Wo : ∀ w : Wo, plW w.s = (match w with | .off => false | .read => false | .copy => false | _ => true) := by
  intro w
  cases w <;> first | rfl | decide +kernel
theorem isDd_eq (b r : Int) (t : Dd) : isDd b r (encD t) = (((t.2.map D.int).all isI) && (if plW t.1.s = true then (t.2.map D.int).isEmpty else if (t.1.s == "off") = true then oneN 1 b (t.2.map D.int) else if (t.1.s == "copy") = true then oneN 0 r (t.2.map D.int) else (t.1.s == "read") && twoN r b (t.2.map D.int))) := rfl
theorem isDd_D {b r : Int} {t : Dd} (h : t ∈ allD b r) : isDd b r (encD t) = true := by
  have hd := isD_of h
  obtain ⟨w, l⟩ := t
  rw [isDd_eq, isI_all, Bool.true_and, plW_Wo]
  cases w <;> simp only [isD] at hd
  case off =>
    obtain ⟨d, rfl, h1, h2⟩ := hd
    show (if (("off" : Str) == "off") = true then oneN 1 b [.int d] else if (("off" : Str) == "copy") = true then oneN 0 r [.int d] else (("off" : Str) == "read") && twoN r b [.int d]) = true
    rw [if_pos (by decide +kernel)]
    show (decide (1 ≤ d) && decide (d < b)) = true
    rw [decide_eq_true h1, decide_eq_true h2]
    rfl
  case read =>
    obtain ⟨j, d, rfl, h0, h00, h1, h2⟩ := hd
    show (if (("read" : Str) == "off") = true then oneN 1 b [.int j, .int d] else if (("read" : Str) == "copy") = true then oneN 0 r [.int j, .int d] else (("read" : Str) == "read") && twoN r b [.int j, .int d]) = true
    rw [if_neg (by decide +kernel), if_neg (by decide +kernel), show (("read" : Str) == "read") = true by decide +kernel, Bool.true_and]
    show ((decide (0 ≤ j) && decide (j < r)) && (decide (1 ≤ d) && decide (d < b))) = true
    rw [decide_eq_true h0, decide_eq_true h00, decide_eq_true h1, decide_eq_true h2]
    rfl
  case copy =>
    obtain ⟨j, rfl, h0, h1⟩ := hd
    show (if (("copy" : Str) == "off") = true then oneN 1 b [.int j] else if (("copy" : Str) == "copy") = true then oneN 0 r [.int j] else (("copy" : Str) == "read") && twoN r b [.int j]) = true
    rw [if_neg (by decide +kernel), if_pos (by decide +kernel)]
    show (decide (0 ≤ j) && decide (j < r)) = true
    rw [decide_eq_true h0, decide_eq_true h1]
    rfl
  all_goals
    subst hd
    rfl
theorem okV_D (t : Dd) (hl : t.2.length ≤ 100) : okV (encD t) = true := by
  show (decide ((D.str t.1.s :: t.2.map .int).length ≤ 1000) && ((D.str t.1.s :: t.2.map .int).all plT && (PyData.str t.1.s).canLay0)) = true
  rw [Wo.lay, decide_eq_true (by simp; omega), Bool.true_and, Bool.and_true, List.all_eq_true]
  intro x hx
  rcases List.mem_cons.mp hx with rfl | hx
  · rfl
  · obtain ⟨i, _, rfl⟩ := List.mem_map.mp hx
    rfl
theorem allD_mem {b r : Int} {t : Dd} (h1 : 2 ≤ b) (h : isD b r t) : t ∈ allD b r := by
  obtain ⟨w, l⟩ := t
  unfold allD
  simp only [List.mem_append, List.mem_cons, List.not_mem_nil, or_false]
  cases w <;> simp only [isD] at h
  case off =>
    obtain ⟨d, rfl, h2, h3⟩ := h
    refine .inl (.inl (.inl (.inr (List.mem_map.mpr ⟨(d - 1).toNat, List.mem_range.mpr (by omega), ?_⟩))))
    rw [show 1 + (((d - 1).toNat : Nat) : Int) = d by omega]
  case read =>
    obtain ⟨j, d, rfl, h2, h3, h4, h5⟩ := h
    refine .inl (.inl (.inr (List.mem_flatMap.mpr ⟨j.toNat, List.mem_range.mpr (by omega), List.mem_map.mpr ⟨(d - 1).toNat, List.mem_range.mpr (by omega), ?_⟩⟩)))
    rw [show 1 + (((d - 1).toNat : Nat) : Int) = d by omega, show 0 + ((j.toNat : Nat) : Int) = j by omega]
  case copy =>
    obtain ⟨j, rfl, h2, h3⟩ := h
    refine .inl (.inr (List.mem_map.mpr ⟨j.toNat, List.mem_range.mpr (by omega), ?_⟩))
    rw [show 0 + ((j.toNat : Nat) : Int) = j by omega]
  case forget => subst h; exact .inl (.inl (.inl (.inl (.inl rfl))))
  case again => subst h; exact .inl (.inl (.inl (.inl (.inr rfl))))
  case swap => subst h; exact .inr (.inl rfl)
  case out => subst h; exact .inr (.inr (.inl rfl))
  case twice => subst h; exact .inr (.inr (.inr rfl))
theorem str_eq {a c : Str} (h : (a == c) = true) : a = c := eq_of_beq h
theorem plW_mem {w : Str} (h : plW w = true) : w = "forget" ∨ w = "again" ∨ w = "swap" ∨ w = "out" ∨ w = "twice" := by
  have h' : ((("forget" : Str) == w) || ((("again" : Str) == w) || ((("swap" : Str) == w) || ((("out" : Str) == w) || ((("twice" : Str) == w) || false))))) = true := h
  simp only [Bool.or_eq_true, Bool.or_false] at h'
  rcases h' with h | h | h | h | h
  · exact .inl (str_eq h).symm
  · exact .inr (.inl (str_eq h).symm)
  · exact .inr (.inr (.inl (str_eq h).symm))
  · exact .inr (.inr (.inr (.inl (str_eq h).symm)))
  · exact .inr (.inr (.inr (.inr (str_eq h).symm)))
theorem oneN_inv {lo hi : Int} {xs : List D} (h : oneN lo hi xs = true) : ∃ d, xs = [.int d] ∧ lo ≤ d ∧ d < hi := by
  unfold oneN at h
  split at h
  · rw [Bool.and_eq_true, decide_eq_true_eq, decide_eq_true_eq] at h
    exact ⟨_, rfl, h.1, h.2⟩
  · cases h
theorem twoN_inv {r b : Int} {xs : List D} (h : twoN r b xs = true) : ∃ j d, xs = [.int j, .int d] ∧ 0 ≤ j ∧ j < r ∧ 1 ≤ d ∧ d < b := by
  unfold twoN at h
  split at h
  · simp only [Bool.and_eq_true, decide_eq_true_eq] at h
    exact ⟨_, _, rfl, h.1.1, h.1.2, h.2.1, h.2.2⟩
  · cases h
theorem isDd_inv {b r : Int} {v : D} (hb : 2 ≤ b) (h : isDd b r v = true) : ∃ t ∈ allD b r, v = encD t := by
  unfold isDd at h
  split at h
  · rename_i w rest
    rw [Bool.and_eq_true] at h
    obtain ⟨_, h⟩ := h
    by_cases hp : plW w = true
    · rw [if_pos hp] at h
      have : rest = [] := by cases rest with | nil => rfl | cons _ _ => cases h
      subst this
      rcases plW_mem hp with rfl | rfl | rfl | rfl | rfl
      · exact ⟨(.forget, []), allD_mem hb rfl, rfl⟩
      · exact ⟨(.again, []), allD_mem hb rfl, rfl⟩
      · exact ⟨(.swap, []), allD_mem hb rfl, rfl⟩
      · exact ⟨(.out, []), allD_mem hb rfl, rfl⟩
      · exact ⟨(.twice, []), allD_mem hb rfl, rfl⟩
    · rw [if_neg hp] at h
      by_cases ho : (w == "off") = true
      · rw [if_pos ho] at h
        obtain ⟨d, rfl, h1, h2⟩ := oneN_inv h
        cases str_eq ho
        exact ⟨(.off, [d]), allD_mem hb ⟨d, rfl, h1, h2⟩, rfl⟩
      · rw [if_neg ho] at h
        by_cases hc : (w == "copy") = true
        · rw [if_pos hc] at h
          obtain ⟨d, rfl, h1, h2⟩ := oneN_inv h
          cases str_eq hc
          exact ⟨(.copy, [d]), allD_mem hb ⟨d, rfl, h1, h2⟩, rfl⟩
        · rw [if_neg hc, Bool.and_eq_true] at h
          obtain ⟨j, d, rfl, h1, h2, h3, h4⟩ := twoN_inv h.2
          cases str_eq h.1
          exact ⟨(.read, [j, d]), allD_mem hb ⟨j, d, rfl, h1, h2, h3, h4⟩, rfl⟩
  · cases h
theorem encD_inj {s t : Dd} (h : encD s = encD t) : s = t := by
  have := eqv_D s t
  rw [h] at this
  have h2 := eqv_D t t
  rw [this] at h2
  simpa using h2
theorem st_Kind_init {a b c d f : D} : startD N_Kind_init [a, b, c, d, f] = [some a, some b, some c, some d, some f, none, none] := rfl
theorem len_Kind_init : ∀ ds cs Q, sp_Kind_init K ds cs Q → ds.length = 5 := by rintro ds cs Q ⟨_, _, _, _, _, _, rfl, _⟩; rfl
theorem keep_len {b r m : Int} {s : List Dd} (g : Gk b r s m) : (keep b r s).length = s.length := filter_len (allD_nd g.n.b2 g.n.b12 g.n.r1 g.n.r4) g.nd g.sub
theorem vc_Kind_init : ∀ ds cs Q, Lo ds cs → LoC cs → sp_Kind_init K ds cs Q → t_Kind_init K (Po.fn cs Q) ⟨startD N_Kind_init ds, cs⟩ := by
  rintro ds cs Q hd hc ⟨n, b, r, m, d, s, rfl, hs, hf, hn, g, q⟩
  have g1 := g.n.b2
  have g2 := g.n.b12
  have g3 := g.n.r1
  have g4 := g.n.r4
  have gl := g.l8
  have g0 := g.l1
  have g5 := g.m1
  have g6 := g.m3
  have al := (allD_len g1 g2 g3 g4).2
  have hty := ty_lk hs hf
  rw [st_Kind_init]
  unfold t_Kind_init
  walk_at "w"
  refine ⟨.int b, rfl, ⟨_, rfl⟩, ?_⟩
  walk_at "w"
  refine v_F ?_
  walk_at "w"
  refine v_itd (fun h => ?_) (fun h => absurd g1 h)
  walk_at "w"
  rw [decide_eq_true g2]
  walk_at "w"
  refine ⟨.int r, rfl, ⟨_, rfl⟩, ?_⟩
  walk_at "w"
  refine v_F ?_
  walk_at "w"
  refine v_itd (fun h => ?_) (fun h => absurd g3 h)
  walk_at "w"
  rw [decide_eq_true g4]
  walk_at "w"
  refine ⟨b, r, rfl, g1, g2, g3, g4, ?_⟩
  walk_at "w"
  rw [decide_eq_false (by have := g.n.c; omega)]
  walk_at "w"
  refine v_itK hs fun G hG => ?_
  refine v_lcY s encD (fun _ => .bl true) rfl (by omega) (fun Q' i x hx q' => ⟨_, rfl, ?_⟩) ?_ hG
  · walk_at "w"
    refine ⟨encD x, b, r, rfl, okV_D x (by have := (isD_of (g.sub x (List.mem_of_getElem? hx))).len; omega), ?_⟩
    rw [isDd_D (g.sub x (List.mem_of_getElem? hx))]
    exact q'
  walk_at "w"
  refine v_allL (bs := s.map fun _ => true) (by rw [List.map_map]; rfl) ?_
  have ea : ((s.map fun _ => true).all fun b => b) = true := by simp
  rw [ea]
  walk_at "w"
  refine ⟨b, r, rfl, g1, g2, g3, g4, ?_⟩
  walk_at "v"
  refine v_lcF (allD b r) encD encD (fun t => isIn t s) rfl (by omega) (fun Q' Q2 i x hx k1 k2 => ⟨_, rfl, ?_⟩) ?_
  · walk_at "w"
    refine v_inE encDE (a := x) (xs := s) rfl (drf_lk hs) ?_
    walk_at "w"
    cases h : isIn x s
    · refine iteF ?_
      exact k1 h
    · refine iteT ?_
      walk_at "w"
      exact k2 h
  have kl := keep_len g
  rw [show (allD b r).filter (fun t => isIn t s) = keep b r s from rfl]
  walk_at "w"
  refine v_lenK rfl ?_
  rw [List.length_map, kl]
  walk_at "w"
  refine v_lenK hs ?_
  rw [List.length_map]
  walk_at "w"
  rw [decide_eq_true rfl]
  walk_at "w"
  refine v_lenK rfl ?_
  rw [List.length_map, kl]
  walk_at "w"
  rw [decide_eq_true (by omega)]
  walk_at "w"
  rw [decide_eq_true (by omega)]
  walk_at "w"
  refine ⟨.int m, rfl, ⟨_, rfl⟩, ?_⟩
  walk_at "w"
  refine v_F ?_
  walk_at "w"
  rw [decide_eq_true g5]
  walk_at "w"
  rw [decide_eq_true g6]
  walk_at "v"
  simp only [List.set_set]
  exact .inl q
theorem len_Kind_deeds : ∀ ds cs Q, sp_Kind_deeds K ds cs Q → ds.length = 1 := by rintro ds cs Q ⟨_, _, _, _, rfl, _⟩; rfl
theorem vc_Kind_deeds : ∀ ds cs Q, Lo ds cs → LoC cs → sp_Kind_deeds K ds cs Q → t_Kind_deeds K (Po.fn cs Q) ⟨startD N_Kind_deeds ds, cs⟩ := by
  rintro ds cs Q hd hc ⟨b, r, m, es, rfl, hl, q⟩
  have hi : insD cs (kiD K b r es m) = some (He.ga K "Kind", kiN, [.int b, .int r, .lst (es.map encD), .int m]) := rfl
  unfold t_Kind_deeds
  walk_at "v"
  refine v_listL (xs := es.map encD) rfl ?_
  walk_at "v"
  exact own_back (los_D _) q
theorem len_Kind_most : ∀ ds cs Q, sp_Kind_most K ds cs Q → ds.length = 1 := by rintro ds cs Q ⟨_, _, _, _, rfl, _⟩; rfl
theorem vc_Kind_most : ∀ ds cs Q, Lo ds cs → LoC cs → sp_Kind_most K ds cs Q → t_Kind_most K (Po.fn cs Q) ⟨startD N_Kind_most ds, cs⟩ := by
  rintro ds cs Q hd hc ⟨b, r, m, es, rfl, q⟩
  have hi : insD cs (kiD K b r es m) = some (He.ga K "Kind", kiN, [.int b, .int r, .lst (es.map encD), .int m]) := rfl
  unfold t_Kind_most
  walk_at "v"
  exact .inl q
theorem len_Kind_base : ∀ ds cs Q, sp_Kind_base K ds cs Q → ds.length = 1 := by rintro ds cs Q ⟨_, _, _, _, rfl, _⟩; rfl
theorem vc_Kind_base : ∀ ds cs Q, Lo ds cs → LoC cs → sp_Kind_base K ds cs Q → t_Kind_base K (Po.fn cs Q) ⟨startD N_Kind_base ds, cs⟩ := by
  rintro ds cs Q hd hc ⟨b, r, m, es, rfl, q⟩
  have hi : insD cs (kiD K b r es m) = some (He.ga K "Kind", kiN, [.int b, .int r, .lst (es.map encD), .int m]) := rfl
  unfold t_Kind_base
  walk_at "v"
  exact .inl q
theorem len_Kind_rows : ∀ ds cs Q, sp_Kind_rows K ds cs Q → ds.length = 1 := by rintro ds cs Q ⟨_, _, _, _, rfl, _⟩; rfl
theorem vc_Kind_rows : ∀ ds cs Q, Lo ds cs → LoC cs → sp_Kind_rows K ds cs Q → t_Kind_rows K (Po.fn cs Q) ⟨startD N_Kind_rows ds, cs⟩ := by
  rintro ds cs Q hd hc ⟨b, r, m, es, rfl, q⟩
  have hi : insD cs (kiD K b r es m) = some (He.ga K "Kind", kiN, [.int b, .int r, .lst (es.map encD), .int m]) := rfl
  unfold t_Kind_rows
  walk_at "v"
  exact .inl q
theorem st_check {a : D} : startD N_check_lot [a] = [some a, none, none] := rfl
theorem lk_ty {cs : List Cel} {d : D} {xs : List D} (h : lk cs d = some xs) (hf : ∀ ys, d ≠ .fro ys) : tyN cs d = some "list" := ty_lk h hf
theorem len_check_lot : ∀ ds cs Q, sp_check_lot K ds cs Q → ds.length = 1 := by rintro ds cs Q ⟨_, _, rfl, _⟩; rfl
theorem vc_check_lot : ∀ ds cs Q, Lo ds cs → LoC cs → sp_check_lot K ds cs Q → t_check_lot K (Po.fn cs Q) ⟨startD N_check_lot ds, cs⟩ := by
  rintro ds cs Q hd hc ⟨d, l, rfl, hl, hf, g, q⟩
  have ht := lk_ty hl hf
  have g8 := g.len
  rw [st_check]
  unfold t_check_lot
  walk_at "w"
  refine v_lenK hl ?_
  rw [List.length_map]
  walk_at "w"
  refine ⟨fun i e => ∃ x1 x2, e = ⟨[some d, x1, x2], cs⟩, ⟨_, _, rfl⟩, ?_, ?_⟩
  · rintro i y e2 hi ⟨x1, x2, rfl⟩
    obtain ⟨hi1, rfl⟩ := intsD_get hi
    have hi3 : i < l.length := by omega
    have hm := g.ge _ (List.getElem_mem hi3)
    refine ⟨trivial, _, rfl, ?_⟩
    rw [Int.zero_add]
    walk_at "w"
    refine v_ixK hl (atI_map (List.getElem?_eq_getElem hi3)) ?_
    walk_at "w"
    rw [decide_eq_false (by omega)]
    walk_at "w"
    refine v_slL hl (fun _ z => by subst z; cases hl) (fun _ z => by subst z; cases hl) ?_
    rw [cut_to]
    walk_at "w"
    refine v_inE encI (a := l[i]) (xs := l.take i) rfl rfl ?_
    have hni : isIn l[i] (l.take i) = false := by
      unfold isIn
      refine decide_eq_false fun hmem => ?_
      obtain ⟨j, hj, e⟩ := List.mem_iff_getElem.mp hmem
      rw [List.length_take] at hj
      rw [List.getElem_take] at e
      exact List.pairwise_iff_getElem.mp g.nd j i (by omega) hi3 (by omega) e
    rw [hni]
    walk_at "w"
    exact ⟨_, _, rfl⟩
  · rintro e2 ⟨x1, x2, rfl⟩
    refine ⟨trivial, ?_⟩
    walk_at "w"
    exact .inl q
end
section
variable {b r : Int} {cols : List (List Int)} {n : Nat} {S T : Sl} {i : Nat} {o : Op}
/-! slips that ascend, and the deeds of all columns -/
theorem find_asc : ∀ {S : Sl} (_ : S.Pairwise fun x y => x.1 < y.1) (k : Nat), S.filter (fun x => decide (k ≤ x.1)) = (match S.find? fun x => decide (x.1 = k) with | none => [] | some x => [x]) ++ S.filter (fun x => decide (k + 1 ≤ x.1))
  | [], _, _ => rfl
  | y :: T, h, k => by
    obtain ⟨h1, h2⟩ := List.pairwise_cons.mp h
    have ih := find_asc h2 k
    by_cases e : y.1 = k
    · have e1 : (y :: T).find? (fun x => decide (x.1 = k)) = some y := by rw [List.find?_cons, decide_eq_true e]
      rw [e1, List.filter_cons, if_pos (by rw [decide_eq_true_eq]; omega), List.filter_cons, if_neg (by rw [decide_eq_true_eq]; omega)]
      show y :: T.filter _ = y :: T.filter _
      congr 1
      refine List.filter_congr fun x hx => ?_
      have := h1 x hx
      rw [decide_eq_true (by omega), decide_eq_true (by omega)]
    · have e1 : (y :: T).find? (fun x => decide (x.1 = k)) = T.find? (fun x => decide (x.1 = k)) := by rw [List.find?_cons, decide_eq_false e]
      rw [e1]
      by_cases hk : y.1 < k
      · rw [List.filter_cons, if_neg (by rw [decide_eq_true_eq]; omega), List.filter_cons, if_neg (by rw [decide_eq_true_eq]; omega)]
        exact ih
      · have e2 : T.find? (fun x => decide (x.1 = k)) = none := by
          rw [List.find?_eq_none]
          intro x hx
          have := h1 x hx
          rw [decide_eq_true_eq]
          omega
        rw [e2] at ih ⊢
        rw [List.filter_cons, if_pos (by rw [decide_eq_true_eq]; omega), List.filter_cons, if_pos (by rw [decide_eq_true_eq]; omega)]
        show y :: T.filter _ = y :: T.filter _
        rw [ih]
        rfl
theorem slF_range (g : Gs b r n S) : ∀ (d k : Nat), k + d = n → slF k ((List.range' k d).map (opIn S)) = S.filter (fun x => decide (k ≤ x.1))
  | 0, k, h => by
    symm
    rw [List.range'_zero, List.map_nil, slF, List.filter_eq_nil_iff]
    intro x hx
    have := g.lt x hx
    rw [decide_eq_true_eq]
    omega
  | d + 1, k, h => by
    rw [List.range'_succ, List.map_cons, slF, slF_range g d (k + 1) (by omega), find_asc g.asc k]
    congr 1
    unfold opIn
    cases hf : S.find? fun x => decide (x.1 = k) with
    | none => rfl
    | some x =>
      have hx := List.mem_of_find?_eq_some hf
      have hk : x.1 = k := of_decide_eq_true (List.find?_some (p := fun x : Nat × Op => decide (x.1 = k)) hf)
      show (if x.2 = Op.right then [] else [(k, x.2)]) = [x]
      rw [if_neg (g.ne x hx), ← hk]
theorem slF_opsN (g : Gs b r n S) : slF 0 (opsN n S) = S := by
  have h := slF_range g n 0 (by omega)
  rw [← List.range_eq_range'] at h
  show slF 0 ((List.range n).map (opIn S)) = S
  rw [h, List.filter_eq_self]
  intro x _
  exact decide_eq_true (Nat.zero_le _)
theorem opsN_len : (opsN n S).length = n := by unfold opsN; rw [List.length_map, List.length_range]
theorem opAt_N (h : i < n) : opAt (opsN n S) i = opIn S i := by
  unfold opAt opsN
  rw [List.getD_eq_getElem?_getD, List.getElem?_map, List.getElem?_range h]
  rfl
theorem opAt_ge (h : n ≤ i) : opAt (opsN n S) i = .right := by
  unfold opAt
  rw [List.getD_eq_getElem?_getD, List.getElem?_eq_none (by rw [opsN_len]; exact h)]
  rfl
theorem opIn_right (h : ∀ x ∈ S, x.1 ≠ i) : opIn S i = .right := by
  unfold opIn
  rw [List.find?_eq_none.mpr fun x hx => by rw [decide_eq_true_eq]; exact h x hx]
  rfl
theorem opIn_mem (g : Gs b r n S) (h : opIn S i ≠ .right) : (i, opIn S i) ∈ S := by
  unfold opIn at h ⊢
  cases hf : S.find? fun x => decide (x.1 = i) with
  | none => rw [hf] at h; exact absurd rfl h
  | some x =>
    have hx := List.mem_of_find?_eq_some hf
    have hk : x.1 = i := of_decide_eq_true (List.find?_some (p := fun x : Nat × Op => decide (x.1 = i)) hf)
    show (i, x.2) ∈ S
    rw [← hk]
    exact hx
theorem opIn_of (g : Gs b r n S) (h : (i, o) ∈ S) : opIn S i = o := by
  unfold opIn
  cases hf : S.find? fun x => decide (x.1 = i) with
  | none => exact absurd (decide_eq_true (rfl : (i, o).1 = i)) (List.find?_eq_none.mp hf _ h)
  | some x =>
    have hx := List.mem_of_find?_eq_some hf
    have hk : x.1 = i := of_decide_eq_true (List.find?_some (p := fun x : Nat × Op => decide (x.1 = i)) hf)
    show x.2 = o
    obtain ⟨p, hp, e1⟩ := List.mem_iff_getElem.mp hx
    obtain ⟨q, hq, e2⟩ := List.mem_iff_getElem.mp h
    have hpw := List.pairwise_iff_getElem.mp g.asc
    rcases Nat.lt_trichotomy p q with z | z | z
    · have := hpw p q hp hq z
      rw [e1, e2, hk] at this
      exact absurd this (Nat.lt_irrefl _)
    · subst z
      rw [e1] at e2
      rw [e2]
    · have := hpw q p hq hp z
      rw [e1, e2, hk] at this
      exact absurd this (Nat.lt_irrefl _)
theorem opIn_app (h : ∀ x ∈ T, x.1 ≠ i) : opIn (S ++ T) i = opIn S i := by
  unfold opIn
  have e : T.find? (fun x => decide (x.1 = i)) = none := List.find?_eq_none.mpr fun x hx => by rw [decide_eq_true_eq]; exact h x hx
  rw [List.find?_append, e, Option.or_none]
theorem Gs.left (g : Gs b r n (S ++ T)) : Gs b r n S := ⟨(List.pairwise_append.mp g.asc).1, fun x hx => g.lt x (List.mem_append_left _ hx), fun x hx => g.ok x (List.mem_append_left _ hx), fun x hx => g.ne x (List.mem_append_left _ hx)⟩
theorem nxC_le (g : Gs b r n S) : ∀ x ∈ S, x.1 < nxC S := by
  intro x hx
  unfold nxC
  cases hl : S.getLast? with
  | none => rw [List.getLast?_eq_none_iff] at hl; subst hl; cases hx
  | some y =>
    obtain ⟨S0, rfl⟩ := List.getLast?_eq_some_iff.mp hl
    show x.1 < y.1 + 1
    rcases List.mem_append.mp hx with h | h
    · have := (List.pairwise_append.mp g.asc).2.2 x h y List.mem_cons_self
      omega
    · rw [List.mem_singleton.mp h]
      omega
theorem nxC_T (g : Gs b r n (S ++ T)) : ∀ x ∈ T, nxC S ≤ x.1 := by
  intro x hx
  unfold nxC
  cases hl : S.getLast? with
  | none => exact Nat.zero_le _
  | some y =>
    have hy := List.mem_of_getLast? hl
    exact (List.pairwise_append.mp g.asc).2.2 y hy x hx
theorem nxC_n (g : Gs b r n S) : nxC S ≤ n := by
  unfold nxC
  cases hl : S.getLast? with
  | none => exact Nat.zero_le _
  | some y => exact g.lt y (List.mem_of_getLast? hl)
/-- the shorter list is the longer one, cut -/
theorem opsN_cut (g : Gs b r n (S ++ T)) {l : Nat} (h1 : nxC S ≤ l) (h2 : ∀ x ∈ T, l ≤ x.1) : opsN n S = cutO n (opsN n (S ++ T)) l := by
  unfold cutO
  show (List.range n).map (opIn S) = _
  refine List.map_congr_left fun k hk => ?_
  have hk := List.mem_range.mp hk
  by_cases hl : k < l
  · rw [if_pos hl, opAt_N hk, opIn_app fun x hx => by have := h2 x hx; omega]
  · rw [if_neg hl]
    exact opIn_right fun x hx => by have := nxC_le g.left x hx; omega
theorem plan_left (g : Gs b r cols.length (S ++ T)) (P : Plan b r cols (opsN cols.length (S ++ T))) : Plan b r cols (opsN cols.length S) := by
  rw [opsN_cut g (Nat.le_refl _) (nxC_T g)]
  exact cutO_plan P
theorem lowN_opsN (g : Gs b r n S) : lowN (opsN n S) S.length = nxC S + (match S.getLast? with | some x => if x.2 = .swap then 1 else 0 | none => 0) := by
  unfold nxC
  cases hl : S.getLast? with
  | none =>
    rw [List.getLast?_eq_none_iff] at hl
    subst hl
    rfl
  | some y =>
    obtain ⟨S0, rfl⟩ := List.getLast?_eq_some_iff.mp hl
    rw [List.length_append, List.length_singleton]
    have e := lowN_succ (ops := opsN n (S0 ++ [y])) (i := S0.length) (j := y.1) (o := y.2) (by rw [slF_opsN g]; simp)
    exact e
theorem okS_right {c bf : List Int} {k : Int} : okS b c bf i n .right k := trivial
/-- one more: it is possible, or it is refused -/
theorem plan_snoc (g : Gs b r cols.length (S ++ [(i, o)])) (P : Plan b r cols (opsN cols.length S)) : Plan b r cols (opsN cols.length (S ++ [(i, o)])) ∨ BadL b r cols (opsN cols.length S) (lowN (opsN cols.length S) S.length) (encS (i, o)) := by
  have hi : i < cols.length := g.lt (i, o) (by simp)
  have ho : okO b r o := g.ok (i, o) (by simp)
  have hne : o ≠ .right := g.ne (i, o) (by simp)
  have hS : nxC S ≤ i := nxC_T g (i, o) (by simp)
  have hlow := lowN_opsN g.left
  by_cases hl : lowN (opsN cols.length S) S.length ≤ i
  · by_cases hs : okS b (colAt cols i) (colAt cols (i - 1)) i cols.length o (stF b cols (opsN cols.length S) i).2.1
    · refine .inl ⟨opsN_len, ?_, ?_, ?_⟩
      · intro k hk
        rw [opAt_N hk]
        by_cases z : opIn (S ++ [(i, o)]) k = .right
        · rw [z]; trivial
        · exact g.ok _ (opIn_mem g z)
      · intro k hk
        have eq : ∀ j, j < i → opAt (opsN cols.length (S ++ [(i, o)])) j = opAt (opsN cols.length S) j := fun j hj => by
          rw [opAt_N (by omega), opAt_N (by omega), opIn_app fun x hx => by rw [List.mem_singleton.mp hx]; show i ≠ j; omega]
        rcases Nat.lt_trichotomy k i with z | z | z
        · rw [eq k z, stF_congr fun j hj => eq j (by omega)]
          exact P.st k hk
        · subst z
          rw [stF_congr fun j hj => eq j hj, opAt_N hk, opIn_of g (o := o) (by simp)]
          exact hs
        · rw [opAt_N hk, opIn_right]
          · trivial
          · intro x hx
            have := nxC_le g x hx
            have e : nxC (S ++ [(i, o)]) = i + 1 := by unfold nxC; rw [List.getLast?_append, List.getLast?_singleton]; rfl
            omega
      · intro k hk hsw
        rcases Nat.lt_trichotomy (k + 1) i with z | z | z
        · rw [opAt_N (by omega), opIn_app fun x hx => by rw [List.mem_singleton.mp hx]; show i ≠ k; omega, ← opAt_N (n := cols.length) (i := k) (by omega)] at hsw
          rw [opAt_N (by omega), opIn_app fun x hx => by rw [List.mem_singleton.mp hx]; show i ≠ k + 1; omega, ← opAt_N (n := cols.length) (i := k + 1) (by omega)]
          exact P.sw k hk hsw
        · exfalso
          rw [opAt_N (by omega), opIn_app fun x hx => by rw [List.mem_singleton.mp hx]; show i ≠ k; omega] at hsw
          have hm := opIn_mem g.left (i := k) (by rw [hsw]; exact fun z => nomatch z)
          rw [hsw] at hm
          have h1 := nxC_le g.left _ hm
          have h1 : k < nxC S := h1
          -- the last one is this swap
          cases hl2 : S.getLast? with
          | none => rw [List.getLast?_eq_none_iff] at hl2; subst hl2; cases hm
          | some y =>
            have e1 : nxC S = y.1 + 1 := by unfold nxC; rw [hl2]
            have hy := List.mem_of_getLast? hl2
            have e2 : y.1 = k := by omega
            have e3 : y.2 = .swap := by
              have h2 := opIn_of g.left (i := y.1) (o := y.2) hy
              have h3 := opIn_of g.left hm
              rw [e2] at h2
              exact h2.symm.trans h3
            rw [hl2] at hlow
            dsimp only at hlow
            rw [if_pos e3] at hlow
            omega
        · by_cases hk2 : k = i
          · subst hk2
            rw [opAt_N hk]
            exact opIn_right fun x hx => by
              have := nxC_le g x hx
              have e : nxC (S ++ [(k, o)]) = k + 1 := by unfold nxC; rw [List.getLast?_append, List.getLast?_singleton]; rfl
              omega
          · exfalso
            rw [opAt_N (by omega), opIn_right] at hsw
            · cases hsw
            · intro x hx
              have := nxC_le g x hx
              have e : nxC (S ++ [(i, o)]) = i + 1 := by unfold nxC; rw [List.getLast?_append, List.getLast?_singleton]; rfl
              omega
    · refine .inr (.inr ⟨i, o, rfl, hl, hi, ho, hne, ?_⟩)
      have e : cutO cols.length (opsN cols.length S) (lowN (opsN cols.length S) S.length) = opsN cols.length S := by
        have h2 := opsN_cut (S := S) (T := []) (l := lowN (opsN cols.length S) S.length) (by rw [List.append_nil]; exact g.left) (by omega) (fun x hx => nomatch hx)
        rw [List.append_nil] at h2
        exact h2.symm
      rw [e]
      exact hs
  · refine .inr (.inl ?_)
    show isSl b r cols.length _ (.tup [.int (i : Nat), encO o]) = false
    show ((decide (((lowN (opsN cols.length S) S.length : Nat) : Int) ≤ (i : Nat)) && decide (((i : Nat) : Int) < (cols.length : Int))) && isDd b r (encO o)) = false
    rw [decide_eq_false (by omega)]
    rfl
theorem plan_nil : Plan b r cols (opsN cols.length []) := by
  have e : ∀ k, opAt (opsN cols.length []) k = .right := fun k => by
    by_cases h : k < cols.length
    · rw [opAt_N h]; rfl
    · exact opAt_ge (by omega)
  exact ⟨opsN_len, fun k _ => by rw [e k]; trivial, fun k _ => by rw [e k]; trivial, fun k _ _ => e _⟩
/-- possible, or refused at some place -/
theorem plan_or (g : Gs b r cols.length S) (hz : S.length ≤ 1000) : Plan b r cols (opsN cols.length S) ∨ (¬ Plan b r cols (opsN cols.length S) ∧ ∃ x ops, Plan b r cols ops ∧ BadS b r cols ops (S.map encS) x) := by
  by_cases h : Plan b r cols (opsN cols.length S)
  · exact .inl h
  refine .inr ⟨h, ?_⟩
  have step : ∀ k, k ≤ S.length → Plan b r cols (opsN cols.length (S.take k)) ∨ ∃ x ops, Plan b r cols ops ∧ BadS b r cols ops (S.map encS) x := by
    intro k
    induction k with
    | zero => exact fun _ => .inl (by rw [List.take_zero]; exact plan_nil)
    | succ k ih =>
      intro hk
      rcases ih (by omega) with P | P
      · have hk' : k < S.length := hk
        have e : S.take (k + 1) = S.take k ++ [S[k]] := by rw [List.take_add_one, List.getElem?_eq_getElem hk']; rfl
        have e0 : S = S.take k ++ S[k] :: S.drop (k + 1) := by rw [← List.drop_eq_getElem_cons hk', List.take_append_drop]
        have g1 : Gs b r cols.length (S.take k ++ [S[k]]) := by
          have g2 : Gs b r cols.length (S.take (k + 1) ++ S.drop (k + 1)) := by rw [List.take_append_drop]; exact g
          rw [← e]
          exact g2.left
        have hlen : (S.take k).length = k := by rw [List.length_take]; omega
        rcases plan_snoc (i := S[k].1) (o := S[k].2) g1 P with q | q
        · exact .inl (by rw [e]; exact q)
        · refine .inr ⟨k, _, P, ⟨?_, encS S[k], (S.drop (k + 1)).map encS, ?_, ?_, ?_, ?_⟩⟩
          · rw [slF_opsN g1.left, hlen]
            exact Nat.le_refl _
          · rw [slF_opsN g1.left, List.take_of_length_le (by rw [hlen]; exact Nat.le_refl _)]
            conv => lhs; rw [e0]
            rw [List.map_append, List.map_cons]
          · exact okV2_S _
          · rw [hlen] at q
            exact q
          · rw [List.length_map, List.length_drop]
            omega
      · exact .inr P
  rcases step S.length (Nat.le_refl _) with P | P
  · rw [List.take_length] at P
    exact absurd P h
  · exact P
theorem outF_some (h : Plan b r cols (opsN cols.length S)) : outF b r cols S = some ((stF b cols (opsN cols.length S) cols.length).1, (stF b cols (opsN cols.length S) cols.length).2.1) := by unfold outF; rw [if_pos h]
theorem outF_none (h : ¬ Plan b r cols (opsN cols.length S)) : outF b r cols S = none := by unfold outF; rw [if_neg h]
theorem outF_left (g : Gs b r cols.length (S ++ T)) (h : (outF b r cols (S ++ T)).isSome = true) : (outF b r cols S).isSome = true := by
  by_cases hp : Plan b r cols (opsN cols.length (S ++ T))
  · rw [outF_some (plan_left g hp)] <;> rfl
  · rw [outF_none hp] at h; cases h
end
section
variable {b r : Int} {cols : List (List Int)} {n m : Nat} {S T : Sl} {os : List Op}
theorem flatMap_cong {α β : Type} {f g : α → List β} : ∀ {xs : List α}, (∀ x ∈ xs, f x = g x) → xs.flatMap f = xs.flatMap g
  | [], _ => rfl
  | x :: xs, h => by
    rw [List.flatMap_cons, List.flatMap_cons, h x List.mem_cons_self, flatMap_cong fun y hy => h y (List.mem_cons_of_mem _ hy)]
theorem nxC_snoc (S : Sl) (x : Nat × Op) : nxC (S ++ [x]) = x.1 + 1 := by unfold nxC; rw [List.getLast?_append, List.getLast?_singleton]; rfl
theorem fur_mem (g : Gs b r n S) (go : Go b r os) (h : T ∈ fur n os m S) : ∃ i o, T = S ++ [(i, o)] ∧ nxC S ≤ i ∧ i < n ∧ o ∈ os ∧ Gs b r n T := by
  unfold fur at h
  split at h
  · cases h
  · obtain ⟨k, hk, h2⟩ := List.mem_flatMap.mp h
    obtain ⟨o, ho, rfl⟩ := List.mem_map.mp h2
    have hk := List.mem_range.mp hk
    refine ⟨nxC S + k, o, rfl, by omega, by omega, ho, ⟨?_, ?_, ?_, ?_⟩⟩
    · refine List.pairwise_append.mpr ⟨g.asc, List.pairwise_singleton _ _, fun x hx y hy => ?_⟩
      rw [List.mem_singleton.mp hy]
      have := nxC_le g x hx
      show x.1 < nxC S + k
      omega
    · intro x hx
      rcases List.mem_append.mp hx with z | z
      · exact g.lt x z
      · rw [List.mem_singleton.mp z]; show nxC S + k < n; omega
    · intro x hx
      rcases List.mem_append.mp hx with z | z
      · exact g.ok x z
      · rw [List.mem_singleton.mp z]; exact go.ok o ho
    · intro x hx
      rcases List.mem_append.mp hx with z | z
      · exact g.ne x z
      · rw [List.mem_singleton.mp z]; exact go.ne o ho
theorem fur_len (hm : S.length ≤ m) (h : T ∈ fur n os m S) : T.length = S.length + 1 ∧ T.length ≤ m := by
  unfold fur at h
  split at h
  · cases h
  · rename_i hne
    obtain ⟨k, hk, h2⟩ := List.mem_flatMap.mp h
    obtain ⟨o, ho, rfl⟩ := List.mem_map.mp h2
    rw [List.length_append, List.length_singleton]
    omega
theorem pre_full (h : S.length = m) : ∀ k, pre n os m k S = [S]
  | 0 => rfl
  | k + 1 => by
    have e : fur n os m S = [] := by unfold fur; rw [if_pos h]
    rw [pre, e]
    rfl
theorem pre_fuel : ∀ (d : Nat) (S : Sl) (k : Nat), S.length + d = m → d ≤ k → pre n os m k S = pre n os m d S
  | 0, S, k, h, _ => by rw [pre_full (by omega) k, pre_full (by omega) 0]
  | d + 1, S, 0, _, hk => by omega
  | d + 1, S, k + 1, h, hk => by
    rw [pre, pre]
    congr 1
    refine flatMap_cong fun T hT => ?_
    have := fur_len (by omega) hT
    exact pre_fuel d T k (by omega) (by omega)
/-- a list and all that begin with it, however deep -/
def preM (n : Nat) (os : List Op) (m : Nat) (S : Sl) : List Sl := pre n os m (m - S.length) S
theorem preM_eq (hm : S.length ≤ m) : preM n os m S = S :: (fur n os m S).flatMap (preM n os m) := by
  unfold preM
  by_cases h : S.length = m
  · rw [pre_full h]
    have e : fur n os m S = [] := by unfold fur; rw [if_pos h]
    rw [e]
    rfl
  · obtain ⟨d, hd⟩ : ∃ d, m - S.length = d + 1 := ⟨m - S.length - 1, by omega⟩
    rw [hd, pre]
    congr 1
    refine flatMap_cong fun T hT => ?_
    have := fur_len hm hT
    rw [show m - T.length = d by omega]
theorem ordF_eq : ordF n os m = (fur n os m []).flatMap (preM n os m) := by
  unfold ordF preM
  refine flatMap_cong fun T hT => ?_
  have := fur_len (Nat.zero_le _) hT
  exact pre_fuel (m - T.length) T m (by omega) (by omega)
theorem pre_mem (go : Go b r os) : ∀ (k : Nat) (S : Sl), Gs b r n S → S.length ≤ m → T ∈ pre n os m k S → (∃ U, T = S ++ U) ∧ Gs b r n T ∧ T.length ≤ m ∧ ((∀ x ∈ S, x.2 ∈ os) → ∀ x ∈ T, x.2 ∈ os)
  | 0, S, g, hm, h => by
    rw [List.mem_singleton.mp h]
    exact ⟨⟨[], by simp⟩, g, hm, fun z => z⟩
  | k + 1, S, g, hm, h => by
    rw [pre] at h
    rcases List.mem_cons.mp h with rfl | h
    · exact ⟨⟨[], by simp⟩, g, hm, fun z => z⟩
    · obtain ⟨T1, h1, h2⟩ := List.mem_flatMap.mp h
      obtain ⟨i, o, rfl, _, _, ho, g1⟩ := fur_mem g go h1
      have hl := (fur_len hm h1).2
      obtain ⟨⟨U, rfl⟩, g2, hl2, hx⟩ := pre_mem go k _ g1 hl h2
      refine ⟨⟨[(i, o)] ++ U, by simp⟩, g2, hl2, fun z => hx fun x hx => ?_⟩
      rcases List.mem_append.mp hx with q | q
      · exact z x q
      · rw [List.mem_singleton.mp q]; exact ho
theorem Gs.nil : Gs b r n [] := ⟨.nil, (fun _ h => nomatch h), (fun _ h => nomatch h), (fun _ h => nomatch h)⟩
theorem ordF_mem (go : Go b r os) (h : T ∈ ordF n os m) : Gs b r n T ∧ T ≠ [] ∧ T.length ≤ m ∧ ∀ x ∈ T, x.2 ∈ os := by
  unfold ordF at h
  obtain ⟨T1, h1, h2⟩ := List.mem_flatMap.mp h
  obtain ⟨i, o, rfl, _, _, ho, g1⟩ := fur_mem .nil go h1
  have hl := (fur_len (Nat.zero_le _) h1).2
  obtain ⟨⟨U, rfl⟩, g2, hl2, hx⟩ := pre_mem go m _ g1 hl h2
  refine ⟨g2, by simp, hl2, hx fun x hx => ?_⟩
  rw [List.nil_append] at hx
  rw [List.mem_singleton.mp hx]
  exact ho
/-- what a list writes, beside it -/
noncomputable def outP (b r : Int) (cols : List (List Int)) (S : Sl) : Option (Sl × (List Int × Int)) := (outF b r cols S).map fun x => (S, x)
theorem pre_none (go : Go b r os) (g : Gs b r cols.length S) (hm : S.length ≤ m) (h : outF b r cols S = none) (k : Nat) : (pre cols.length os m k S).filterMap (outP b r cols) = [] := by
  rw [List.filterMap_eq_nil_iff]
  intro T hT
  obtain ⟨⟨U, rfl⟩, g2, _, _⟩ := pre_mem go k S g hm hT
  unfold outP
  cases he : outF b r cols (S ++ U) with
  | none => rfl
  | some x =>
    have := outF_left g2 (by rw [he]; rfl)
    rw [h] at this
    cases this
theorem preM_pos (hm : S.length ≤ m) : 1 ≤ (preM n os m S).length := by rw [preM_eq hm]; simp
/-- no more lists in a pile than may come -/
theorem flat_len {α : Type} {f : Sl → List α} : ∀ {xs : List Sl}, (∀ S ∈ xs, 1 ≤ (f S).length) → xs.length ≤ (xs.flatMap f).length
  | [], _ => Nat.le_refl _
  | x :: xs, h => by
    have h1 := h x List.mem_cons_self
    have h2 := flat_len (xs := xs) fun S hS => h S (List.mem_cons_of_mem _ hS)
    rw [List.flatMap_cons, List.length_append, List.length_cons]
    omega
end
theorem lkP_cell {cs : List Cel} {n : Nat} {xs : List D} (h : cs[n]? = some (.lst xs)) : lkP cs (.cell n) = some xs := by
  show (match cs[n]? with
    | some (.lst xs) => some xs
    | _ => none) = some xs
  rw [h]
theorem v_addK {x y : D} {xs ys : List D} {o : Bool} {e : En} {P : D → En → Prop} (h1 : lkP e.cs x = some xs) (h2 : lkP e.cs y = some ys) (hz : xs.length + ys.length ≤ 100000) (p : newL o (xs ++ ys) e P) : qAdd o x y e P := by
  have hz' := Nat.le_trans hz (show 100000 ≤ sizeLine by decide)
  unfold qAdd
  split
  · cases h1
  · cases h1
  · cases h1
  · exact ⟨xs, ys, h1, h2, hz', p⟩
theorem Gs.len {b r : Int} {n : Nat} {S : Sl} (g : Gs b r n S) : S.length ≤ n := by
  have h := slF_len (opsN n S) 0
  rw [slF_opsN g, opsN_len] at h
  exact h
section
variable {K : PySem.W.Frag}
theorem st_lpool {a b : D} : startD N_law_pool [a, b] = [some a, some b, none, none, none] := rfl
theorem len_law_pool : ∀ ds cs Q, sp_law_pool K ds cs Q → ds.length = 2 := by rintro ds cs Q ⟨_, _, rfl, _⟩; rfl
theorem vc_law_pool : ∀ ds cs Q, Lo ds cs → LoC cs → sp_law_pool K ds cs Q → t_law_pool K (Po.fn cs Q) ⟨startD N_law_pool ds, cs⟩ := by
  rintro ds cs Q hd hc ⟨c, s, rfl, hs, q⟩
  rw [st_lpool]
  unfold t_law_pool
  walk_at "w"
  refine v_itd (fun h => ?_) (fun h => ?_)
  · walk_at "w"
    exact .inl (q _)
  · walk_at "w"
    have m0 : 0 ≤ c % 1000003 := Int.emod_nonneg _ (by decide)
    have m1 : c % 1000003 < 1000003 := Int.emod_lt_of_pos _ (by decide)
    refine ⟨fun i e => ∃ (x y : Int) (z : Option D), 0 ≤ x ∧ x < 2147483700 ∧ e = ⟨[some (.int c), some (.int (s : Nat)), some (.int x), some (.int y), z], cs⟩, ⟨_, _, none, by omega, by omega, rfl⟩, ?_, ?_⟩
    · rintro i d e2 hi ⟨x, y, z, h1, h2, rfl⟩
      obtain ⟨hi1, rfl⟩ := intsD_get hi
      refine ⟨trivial, _, rfl, ?_⟩
      walk_at "w"
      exact ⟨_, _, _, Int.emod_nonneg _ (by decide), Int.lt_trans (Int.emod_lt_of_pos _ (by decide)) (by decide), rfl⟩
    · rintro e2 ⟨x, y, z, _, _, rfl⟩
      refine ⟨trivial, ?_⟩
      walk_at "w"
      exact .inl (q _)
theorem st_ldraw {a b : D} : startD N_law_draw [a, b] = [some a, some b, none] := rfl
theorem len_law_draw : ∀ ds cs Q, sp_law_draw K ds cs Q → ds.length = 2 := by rintro ds cs Q ⟨_, _, _, rfl, _⟩; rfl
theorem vc_law_draw : ∀ ds cs Q, Lo ds cs → LoC cs → sp_law_draw K ds cs Q → t_law_draw K (Po.fn cs Q) ⟨startD N_law_draw ds, cs⟩ := by
  rintro ds cs Q hd hc ⟨n, m, a, rfl, hn, h0, hm, q⟩
  rw [st_ldraw]
  unfold t_law_draw
  walk_at "v"
  exact .inl (q _ _ (Int.emod_nonneg _ (by omega)) (Int.emod_lt_of_pos _ h0))
theorem st_lall {a b : D} : startD N_law_all_deeds [a, b] = [some a, some b, none, none, none] := rfl
theorem len_law_all_deeds : ∀ ds cs Q, sp_law_all_deeds K ds cs Q → ds.length = 2 := by rintro ds cs Q ⟨_, _, rfl, _⟩; rfl
theorem vc_law_all_deeds : ∀ ds cs Q, Lo ds cs → LoC cs → sp_law_all_deeds K ds cs Q → t_law_all_deeds K (Po.fn cs Q) ⟨startD N_law_all_deeds ds, cs⟩ := by
  rintro ds cs Q hd hc ⟨b, r, rfl, b2, b12, r1, r4, q⟩
  have lo := offs_len b
  have lc := copies_len r
  have lr := readsA_len b r.toNat
  have l44 := mul_44 b12 (show r.toNat ≤ 4 by omega)
  rw [← lr] at l44
  rw [st_lall]
  unfold t_law_all_deeds
  walk_at "v"
  refine v_lcY (List.range (b - 1).toNat) (fun (i : Nat) => .int (1 + (i : Int))) (fun (i : Nat) => encD (.off, [1 + (i : Int)])) rfl (by simp; omega) (fun Q' i x hx q' => ⟨_, rfl, by walk_at "v"; exact q'⟩) ?_
  rw [offs_map]
  walk_at "v"
  refine v_addL ⟨by simp; omega, ?_⟩
  rw [show [D.tup [D.str "forget"], D.tup [D.str "again"]] = [((.forget, []) : Dd), (.again, [])].map encD from rfl, ← List.map_append]
  walk_at "v"
  refine ⟨fun i e => ∃ x, e = ⟨[some (.int b), some (.int r), some (.cell cs.length), x, none], cs ++ [.lst (([((.forget, []) : Dd), (.again, [])] ++ offs b ++ readsA b i).map encD)]⟩, ⟨none, by simp [readsA]⟩, ?_, ?_⟩
  · rintro i d e2 hi ⟨x, rfl⟩
    obtain ⟨hi1, rfl⟩ := intsD_get hi
    refine ⟨trivial, _, rfl, ?_⟩
    have h1 := readsA_len b i
    have h2 := mul_44 b12 (show i ≤ 4 by omega)
    walk_at "v"
    refine ⟨⟨_, lk_cell app_get⟩, ?_⟩
    walk_at "v"
    refine v_lcY (List.range (b - 1).toNat) (fun (i : Nat) => .int (1 + (i : Int))) (fun (k : Nat) => encD (.read, [0 + (i : Int), 1 + (k : Int)])) rfl (by simp; omega) (fun Q' i x hx q' => ⟨_, rfl, by walk_at "v"; exact q'⟩) ?_
    rw [reads_map]
    walk_at "v"
    refine ⟨_, _, _, _, rfl, rfl, app_get, rfl, by simp [reads_len]; omega, ?_⟩
    rw [app_set, ← List.map_append]
    walk_at "v"
    refine ⟨some (.int (0 + (i : Int))), ?_⟩
    rw [readsA_succ, ← List.append_assoc]
    rfl
  · rintro e2 ⟨x, rfl⟩
    rw [intsD_len]
    refine ⟨trivial, ?_⟩
    walk_at "v"
    refine v_lcY (List.range r.toNat) (fun (i : Nat) => .int (0 + (i : Int))) (fun (i : Nat) => encD (.copy, [0 + (i : Int)])) rfl (by simp; omega) (fun Q' i x hx q' => ⟨_, rfl, by walk_at "v"; exact q'⟩) ?_
    rw [copies_map]
    walk_at "v"
    refine v_addK (lkP_cell app_get) rfl (by simp; omega) ?_
    rw [← List.map_append]
    walk_at "v"
    refine v_addL ⟨by simp; omega, ?_⟩
    rw [show [D.tup [D.str "swap"], D.tup [D.str "out"], D.tup [D.str "twice"]] = [((.swap, []) : Dd), (.out, []), (.twice, [])].map encD from rfl, ← List.map_append]
    walk_at "v"
    have et : ((cs ++ [Cel.lst (([((.forget, []) : Dd), (.again, [])] ++ offs b ++ readsA b r.toNat).map encD)]) ++ [Cel.lst ((allD b r).map encD)]).take cs.length = cs := by simp
    refine .inr (.inr ⟨_, (allD b r).map encD, rfl, by simp, app_get, los_D _, fun c h => .inl ?_, ?_⟩)
    · have h : c ∈ ((cs ++ [Cel.lst (([((.forget, []) : Dd), (.again, [])] ++ offs b ++ readsA b r.toNat).map encD)]) ++ [Cel.lst ((allD b r).map encD)]).take cs.length := h
      rw [et] at h
      exact h
    · show Q (.lst ((allD b r).map encD)) (((cs ++ [Cel.lst (([((.forget, []) : Dd), (.again, [])] ++ offs b ++ readsA b r.toNat).map encD)]) ++ [Cel.lst ((allD b r).map encD)]).take cs.length) ∨ Q (.cell cs.length) (((cs ++ [Cel.lst (([((.forget, []) : Dd), (.again, [])] ++ offs b ++ readsA b r.toNat).map encD)]) ++ [Cel.lst ((allD b r).map encD)]).take cs.length ++ [.lst ((allD b r).map encD)])
      rw [et]
      exact q
theorem st_chk {a b : D} : startD N_check_alike [a, b] = [some a, some b] := rfl
theorem len_check_alike : ∀ ds cs Q, sp_check_alike K ds cs Q → ds.length = 2 := by rintro ds cs Q ⟨_, _, _, _, _, _, rfl, _⟩; rfl
theorem vc_check_alike : ∀ ds cs Q, Lo ds cs → LoC cs → sp_check_alike K ds cs Q → t_check_alike K (Po.fn cs Q) ⟨startD N_check_alike ds, cs⟩ := by
  rintro ds cs Q hd hc ⟨d, b, r, m, cols, es, rfl, hs, q⟩
  rw [st_chk]
  unfold t_check_alike
  have hs0 := hs
  obtain ⟨hc0, hi, hl⟩ := hs0
  walk_at "v"
  refine ⟨⟨_, _, rfl⟩, b, r, m, es, rfl, ?_⟩
  walk_at "v"
  refine ⟨d, b, r, cols, rfl, hs, ?_⟩
  walk_at "v"
  rw [decide_eq_true (rfl : b = b)]
  walk_at "v"
  refine ⟨⟨_, _, rfl⟩, b, r, m, es, rfl, ?_⟩
  walk_at "v"
  refine ⟨d, b, r, cols, rfl, hs, ?_⟩
  walk_at "v"
  rw [decide_eq_true (rfl : r = r)]
  walk_at "v"
  exact .inl q
theorem st_outc {a b : D} : startD N_outcome [a, b] = [some a, some b] := rfl
theorem len_outcome : ∀ ds cs Q, sp_outcome K ds cs Q → ds.length = 2 := by rintro ds cs Q ⟨_, _, _, _, _, _, rfl, _⟩; rfl
theorem vc_outcome : ∀ ds cs Q, Lo ds cs → LoC cs → sp_outcome K ds cs Q → t_outcome K (Po.fn cs Q) ⟨startD N_outcome ds, cs⟩ := by
  rintro ds cs Q hd hc ⟨d, d2, b, r, cols, S, rfl, hk, hs, g, gs, q⟩
  rw [st_outc]
  unfold t_outcome
  rcases plan_or gs (Nat.le_trans gs.len g.n) with P | ⟨nP, x, ops, P, hb⟩
  · rw [outF_some P] at q
    refine v_tryN (fun _ _ => False) ?_ (fun _ _ z => z.elim)
    walk_at "w"
    exact ⟨d, d2, b, r, cols, _, _, rfl, hk, hs, g, P, .inl ⟨by rw [slF_opsN gs], .inl q⟩⟩
  · rw [outF_none nP] at q
    refine v_tryN (fun y cs' => y.c = "InvalidSlips" ∧ cs' = cs) ?_ ?_
    · walk_at "w"
      exact ⟨d, d2, b, r, cols, ops, _, rfl, hk, hs, g, P, .inr ⟨x, hb, rfl, rfl⟩⟩
    · rintro y cs' ⟨e, rfl⟩
      refine ⟨true, by rw [e]; exact List.mem_cons_self, fun _ => ?_, fun z => nomatch z⟩
      walk_at "w"
      exact .inl q
end
section
variable {K : PySem.W.Frag}
theorem s3a {cs : List Cel} {n : Nat} {c0 c A B : Cel} (h : cs[n]? = some c0) : ((cs ++ [A]) ++ [B]).set n c = (cs.set n c ++ [A]) ++ [B] := by
  have := (List.getElem?_eq_some_iff.mp h).1
  rw [List.set_append_left _ _ (by simp; omega), List.set_append_left _ _ this]
theorem s3b {cs : List Cel} {c A B : Cel} : ((cs ++ [A]) ++ [B]).set cs.length c = (cs ++ [c]) ++ [B] := by
  rw [List.set_append_left _ _ (by simp)]
  simp
theorem s3c {cs : List Cel} {c A B : Cel} : ((cs ++ [A]) ++ [B]).set (cs.length + 1) c = (cs ++ [A]) ++ [c] := by
  rw [List.set_append_right _ _ (by simp)]
  simp
theorem g3a {cs : List Cel} {n : Nat} {c0 A B : Cel} (h : cs[n]? = some c0) : ((cs ++ [A]) ++ [B])[n]? = some c0 := app_get_lt (app_get_lt h)
theorem g3b {cs : List Cel} {A B : Cel} : ((cs ++ [A]) ++ [B])[cs.length]? = some A := app_get_lt app_get
theorem g3c {cs : List Cel} {A B : Cel} : ((cs ++ [A]) ++ [B])[cs.length + 1]? = some B := by simp
theorem toO_enc {b r : Int} {t : Dd} (h : t ∈ allD b r) : encO (toO t) = encD t ∧ okO b r (toO t) ∧ toO t ≠ .right := by
  have hd := isD_of h
  obtain ⟨w, l⟩ := t
  cases w <;> simp only [isD] at hd
  case off =>
    obtain ⟨d, rfl, h1, h2⟩ := hd
    exact ⟨rfl, ⟨h1, h2⟩, fun z => nomatch z⟩
  case read =>
    obtain ⟨j, d, rfl, h0, h00, h1, h2⟩ := hd
    refine ⟨?_, ⟨?_, h1, h2⟩, fun z => nomatch z⟩
    · show D.tup [.str "read", .int ((j.toNat : Nat) : Int), .int d] = D.tup [.str "read", .int j, .int d]
      rw [Int.toNat_of_nonneg h0]
    · show ((j.toNat : Nat) : Int) < r
      rw [Int.toNat_of_nonneg h0]
      exact h00
  case copy =>
    obtain ⟨j, rfl, h0, h1⟩ := hd
    refine ⟨?_, ?_, fun z => nomatch z⟩
    · show D.tup [.str "copy", .int ((j.toNat : Nat) : Int)] = D.tup [.str "copy", .int j]
      rw [Int.toNat_of_nonneg h0]
    · show ((j.toNat : Nat) : Int) < r
      rw [Int.toNat_of_nonneg h0]
      exact h1
  all_goals
    subst hd
    exact ⟨rfl, trivial, fun z => nomatch z⟩
theorem toO_map {b r : Int} {es : List Dd} (h : ∀ t ∈ es, t ∈ allD b r) : es.map encD = (es.map toO).map encO := by
  rw [List.map_map]
  exact List.map_congr_left fun t ht => (toO_enc (h t ht)).1.symm
theorem st_fsl {a b c : D} : startD N_further_slips [a, b, c] = [some a, some b, some c, none, none, none] := rfl
theorem len_further_slips : ∀ ds cs Q, sp_further_slips K ds cs Q → ds.length = 3 := by rintro ds cs Q ⟨_, _, _, _, _, _, _, rfl, _⟩; rfl
theorem vc_further_slips : ∀ ds cs Q, Lo ds cs → LoC cs → sp_further_slips K ds cs Q → t_further_slips K (Po.fn cs Q) ⟨startD N_further_slips ds, cs⟩ := by
  rintro ds cs Q hd hc ⟨d, b, r, cols, es, m, S, rfl, hs, hes, hl8, hm, m3, hz, hnx, q⟩
  rw [st_fsl]
  unfold t_further_slips
  walk_at "w"
  refine v_lenK (xs := S.map encS) rfl ?_
  walk_at "w"
  refine ⟨⟨_, _, rfl⟩, b, r, (m : Int), es, rfl, ?_⟩
  walk_at "w"
  refine v_itd (fun h => ?_) (fun h => ?_)
  · walk_at "w"
    refine .inl ?_
    have e : fur cols.length (es.map toO) m S = [] := by unfold fur; rw [if_pos (by rw [List.length_map] at h; omega)]
    rw [e] at q
    exact q
  have hne : ¬ S.length = m := fun z => h (by rw [List.length_map, z])
  have eF : fur cols.length (es.map toO) m S = (List.range (cols.length - nxC S)).flatMap fun i => (es.map toO).map fun o => S ++ [(nxC S + i, o)] := by unfold fur; rw [if_neg hne]
  rw [eF] at q
  have fin : (sRet (eLc2 false (iR2 (aCons (eV 3) (aCons (eCB (qLenO (He.ga K "Sheet") (sp_Sheet_len K)) (aCons (eV 1) aNil)) aNil))) (.one 4) dYes (iS (eProp (He.ga K "Kind") (sp_Kind_deeds K) (eV 0))) (.one 5) dYes (eLst false (aStar (eV 2) (aCons (eTup (aCons (eV 4) (aCons (eV 5) aNil))) aNil))) [4, 5] [5])) (Po.fn cs Q) ⟨[some (kiD K b r es (m : Nat)), some d, some (encSl S), some (.int (nxC S : Nat)), none, none], cs⟩ := by
    have hs0 := hs
    obtain ⟨hc0, hi, hl⟩ := hs0
    have hnx : nxC S ≤ 2000 := hnx
    walk_at "w"
    refine ⟨⟨_, _, hi⟩, d, b, r, cols, rfl, hs, ⟨_, rfl, by omega, by omega⟩, ?_⟩
    walk_at "w"
    refine ⟨_, _, rfl, ⟨by omega, by omega, by omega, by omega⟩, ?_⟩
    rw [show ((cols.length : Int) - ((nxC S : Nat) : Int)).toNat = cols.length - nxC S by omega]
    refine ⟨fun i acc cs' => acc = ((List.range i).flatMap fun k => es.map fun t => encSl (S ++ [(nxC S + k, toO t)])) ∧ cs' = cs, ⟨rfl, rfl⟩, ?_, ?_⟩
    · rintro i x acc cs' hx ⟨ha, rfl⟩
      obtain ⟨hi1, rfl⟩ := intsD_get hx
      refine ⟨trivial, _, rfl, ?_⟩
      walk_at "w"
      refine ⟨⟨_, _, rfl⟩, b, r, (m : Int), es, rfl, hl8, .inl ?_⟩
      walk_at "w"
      have hz2 : acc.length ≤ 8000 := by
        rw [ha, List.length_flatMap]
        have : ((List.range i).map fun k => (es.map fun t => encSl (S ++ [(nxC S + k, toO t)])).length).sum = i * es.length := by
          simp only [List.length_map]
          rw [List.map_const', List.sum_replicate_nat, List.length_range]
        rw [this]
        have := Nat.mul_le_mul (show i ≤ 1000 by omega) hl8
        omega
      refine ⟨fun j acc1 cs1 => acc1 = acc ++ ((es.take j).map fun t => encSl (S ++ [(nxC S + i, toO t)])) ∧ cs1 = cs', ⟨by simp, rfl⟩, ?_, ?_⟩
      · rintro j y acc1 cs1 hy ⟨ha1, rfl⟩
        rw [List.getElem?_map, Option.map_eq_some_iff] at hy
        obtain ⟨t, ht, rfl⟩ := hy
        refine ⟨trivial, _, rfl, ?_⟩
        walk_at "w"
        refine ⟨_, rfl, ?_⟩
        walk_at "w"
        refine ⟨sz_le (by rw [List.length_append, List.length_map, List.length_singleton]; omega), ?_⟩
        walk_at "w"
        have hj := (List.getElem?_eq_some_iff.mp ht).1
        refine ⟨Nat.lt_of_le_of_lt (show _ ≤ 9000 by rw [ha1, List.length_append, List.length_map, List.length_take]; omega) (by decide), ?_, rfl⟩
        rw [ha1, List.append_assoc, List.take_add_one, ht]
        congr 1
        rw [List.map_append]
        congr 1
        show [D.lst _] = [encSl _]
        unfold encSl
        rw [List.map_append]
        have e1 : encS (nxC S + i, toO t) = D.tup [.int (((nxC S : Nat) : Int) + (i : Int)), encD t] := by
          rw [← (toO_enc (hes t (List.mem_of_getElem? ht))).1]
          rfl
        rw [List.map_singleton, e1]
      · rintro acc1 cs1 ⟨ha1, rfl⟩
        refine ⟨trivial, ?_, rfl⟩
        rw [ha1, ha, List.length_map, List.take_length, List.range_succ, List.flatMap_append, List.flatMap_singleton]
    · rintro acc cs' ⟨ha, rfl⟩
      refine ⟨trivial, ?_⟩
      rw [intsD_len] at ha
      walk_at "w"
      refine .inl ?_
      rw [ha]
      rw [List.map_flatMap] at q
      have e : (fun i => List.map encSl (((es.map toO).map fun o => S ++ [(nxC S + i, o)]))) = fun k => es.map fun t => encSl (S ++ [(nxC S + k, toO t)]) := by
        funext k
        rw [List.map_map, List.map_map]
        rfl
      rw [e] at q
      exact q
  generalize (sRet (eLc2 false (iR2 (aCons (eV 3) (aCons (eCB (qLenO (He.ga K "Sheet") (sp_Sheet_len K)) (aCons (eV 1) aNil)) aNil))) (.one 4) dYes (iS (eProp (He.ga K "Kind") (sp_Kind_deeds K) (eV 0))) (.one 5) dYes (eLst false (aStar (eV 2) (aCons (eTup (aCons (eV 4) (aCons (eV 5) aNil))) aNil))) [4, 5] [5])) = T at fin ⊢
  cases hS : S.getLast? with
  | none =>
    have e0 := List.getLast?_eq_none_iff.mp hS
    subst e0
    walk_at "w"
    refine ⟨false, rfl, ?_⟩
    walk_at "w"
    exact fin
  | some x =>
    obtain ⟨S0, e0⟩ := List.getLast?_eq_some_iff.mp hS
    walk_at "w"
    refine ⟨true, by rw [e0]; unfold encSl; rw [List.map_append]; simp [tru, lk], ?_⟩
    walk_at "w"
    have hlast : atI (S.map encS) (-1) = some (encS x) := atI_end (by rw [← List.getLast?_eq_getElem?]; exact hS)
    refine v_ixK (xs := S.map encS) rfl hlast ?_
    rw [show encS x = .tup [.int (x.1 : Nat), encO x.2] from rfl]
    walk_at "w"
    have e1 : nxC S = x.1 + 1 := by unfold nxC; rw [hS]
    rw [e1] at fin
    exact fin
theorem lo_S {k : Nat} (x : Nat × Op) : loD k (encS x) = true := by
  show (true && (loD k (encO x.2) && true)) = true
  rw [lo_O]
  rfl
theorem lo_Sl {k : Nat} (S : Sl) : loD k (encSl S) = true := los_map (fun x => lo_S x) S
theorem lo_W {k : Nat} {b : Int} (t : Sl × (List Int × Int)) : loD k (encW K b t) = true := by
  show (loD k (encSl t.1) && (loD k (wrD K b t.2.1 t.2.2) && true)) = true
  rw [lo_Sl, lo_wrD]
  rfl
theorem st_allo {a b : D} : startD N_all_outcomes [a, b] = [some a, some b, none, none, none, none] := rfl
theorem len_all_outcomes : ∀ ds cs Q, sp_all_outcomes K ds cs Q → ds.length = 2 := by rintro ds cs Q ⟨_, _, _, _, _, _, rfl, _⟩; rfl
theorem vc_all_outcomes : ∀ ds cs Q, Lo ds cs → LoC cs → sp_all_outcomes K ds cs Q → t_all_outcomes K (Po.fn cs Q) ⟨startD N_all_outcomes ds, cs⟩ := by
  rintro ds cs Q hd hc ⟨d, b, r, cols, es, m, rfl, hs, g, hes, hl8, hz, q⟩
  rw [st_allo]
  unfold t_all_outcomes
  have go : Go b r (es.map toO) := ⟨fun o ho => by obtain ⟨t, ht, rfl⟩ := List.mem_map.mp ho; exact (toO_enc (hes t ht)).2.1, fun o ho => by obtain ⟨t, ht, rfl⟩ := List.mem_map.mp ho; exact (toO_enc (hes t ht)).2.2, by rw [List.length_map]; exact hl8⟩
  have hn := hz.n12
  have hm3 := hz.m3
  have hz0 := hz.z
  rw [ordF_eq] at hz0
  walk_at "w"
  refine ⟨d, b, r, cols, es, m, [], rfl, isSh_app hs, hes, hl8, Nat.zero_le _, hm3, by omega, by decide, _, rfl, ?_⟩
  rw [← List.map_reverse]
  walk_at "w"
  have eA : allF b r cols (es.map toO) m = ((fur cols.length (es.map toO) m []).flatMap (preM cols.length (es.map toO) m)).filterMap (outP b r cols) := by unfold allF; rw [ordF_eq]; rfl
  rw [eA] at q
  refine ⟨fun k e => ∃ (found : List (Sl × (List Int × Int))) (pile : List Sl) (y z : Option D), (∀ S ∈ pile, Gs b r cols.length S ∧ S.length ≤ m) ∧ k = (pile.reverse.flatMap (preM cols.length (es.map toO) m)).length ∧ found.length + k ≤ 20000 ∧
    found ++ (pile.reverse.flatMap (preM cols.length (es.map toO) m)).filterMap (outP b r cols) = ((fur cols.length (es.map toO) m []).flatMap (preM cols.length (es.map toO) m)).filterMap (outP b r cols) ∧
    e = ⟨[some (kiD K b r es (m : Nat)), some d, some (.cell cs.length), some (.cell (cs.length + 1)), y, z], (cs ++ [.lst (found.map (encW K b))]) ++ [.lst (pile.map encSl)]⟩, ⟨_, [], (fur cols.length (es.map toO) m []).reverse, none, none, ?_, rfl, by simpa using hz0, by simp, by simp⟩, ?_⟩
  · intro S hS
    rw [List.mem_reverse] at hS
    obtain ⟨i, o, rfl, _, _, ho, g1⟩ := fur_mem .nil go hS
    exact ⟨g1, (fur_len (Nat.zero_le _) hS).2⟩
  · rintro k e1 ⟨found, pile, y, z, hp, rfl, hsz, heq, rfl⟩
    walk_at "w"
    rcases List.eq_nil_or_concat pile with rfl | ⟨P, S, rfl⟩
    · refine ⟨false, by show (lk _ _).map _ = _; rw [lk_cell g3c]; rfl, ?_⟩
      walk_at "w"
      rw [List.reverse_nil, List.flatMap_nil, List.filterMap_nil, List.append_nil] at heq
      rw [← heq] at q
      have et : ((cs ++ [Cel.lst (found.map (encW K b))]) ++ [Cel.lst (([] : List Sl).map encSl)]).take cs.length = cs := by simp
      refine .inr (.inr ⟨_, _, rfl, Nat.le_refl _, g3b, los_map (fun t => lo_W t) found, fun c h => ?_, .inl ?_⟩)
      · rw [et] at h
        exact .inl h
      · rw [et]
        exact q
    rw [List.concat_eq_append] at hp hsz heq ⊢
    obtain ⟨gS, hSm⟩ := hp S (by simp)
    have ePM := preM_eq (n := cols.length) (os := es.map toO) hSm
    have eR : (P ++ [S]).reverse.flatMap (preM cols.length (es.map toO) m) = preM cols.length (es.map toO) m S ++ P.reverse.flatMap (preM cols.length (es.map toO) m) := by rw [List.reverse_append, List.reverse_singleton, List.singleton_append, List.flatMap_cons]
    rw [eR] at hsz heq
    rw [List.length_append] at hsz
    have hpos := preM_pos (n := cols.length) (os := es.map toO) hSm
    have hP : ∀ T ∈ P, Gs b r cols.length T ∧ T.length ≤ m := fun T hT => hp T (List.mem_append_left _ hT)
    have hPl : P.length ≤ (P.reverse.flatMap (preM cols.length (es.map toO) m)).length := by
      have := flat_len (f := preM cols.length (es.map toO) m) (xs := P.reverse) fun T hT => preM_pos (hP T (List.mem_reverse.mp hT)).2
      rw [List.length_reverse] at this
      exact this
    rw [List.map_append, List.map_singleton]
    refine ⟨true, by show (lk _ _).map _ = _; rw [lk_cell g3c]; simp, ?_⟩
    walk_at "w"
    refine ⟨⟨_, lk_cell g3c⟩, _, _, encSl S, rfl, rfl, g3c, by simp, ?_⟩
    rw [s3c, List.dropLast_concat]
    walk_at "w"
    refine ⟨d, _, b, r, cols, S, rfl, rfl, isSh_app (isSh_app hs), g, gS, ?_⟩
    walk_at "w"
    cases ho : outF b r cols S with
    | none =>
      dsimp only [outD]
      walk_at "w"
      refine ⟨_, ?_, found, P, _, _, hP, rfl, ?_, ?_, rfl⟩
      · rw [eR, List.length_append]
        omega
      · omega
      · rw [List.filterMap_append] at heq
        have e0 : (preM cols.length (es.map toO) m S).filterMap (outP b r cols) = [] := pre_none go gS hSm ho _
        rw [e0, List.nil_append] at heq
        exact heq
    | some x =>
      walk_at "w"
      refine ⟨⟨_, lk_cell g3b⟩, ?_⟩
      walk_at "w"
      refine ⟨_, _, _, rfl, rfl, g3b, Nat.lt_of_le_of_lt (show _ ≤ 20000 by rw [List.length_map]; omega) (by decide), ?_⟩
      rw [s3b]
      walk_at "w"
      refine ⟨⟨_, lk_cell g3c⟩, ?_⟩
      walk_at "w"
      have hnS := nxC_n gS
      refine ⟨d, b, r, cols, es, m, S, rfl, isSh_app (isSh_app hs), hes, hl8, hSm, hm3, by omega, by omega, _, rfl, ?_⟩
      have hFS : ∀ T ∈ fur cols.length (es.map toO) m S, Gs b r cols.length T ∧ T.length ≤ m := fun T hT => by
        obtain ⟨i, o, e, _, _, _, g1⟩ := fur_mem gS go hT
        exact ⟨g1, (fur_len hSm hT).2⟩
      have hFl := flat_len (f := preM cols.length (es.map toO) m) (xs := fur cols.length (es.map toO) m S) fun T hT => preM_pos (hFS T hT).2
      rw [ePM, List.length_cons] at hsz
      walk_at "w"
      refine ⟨_, _, _, _, rfl, rfl, g3c, rfl, by rw [List.length_map, List.length_reverse, List.length_map]; omega, ?_⟩
      rw [s3c, ← List.map_reverse, ← List.map_append]
      walk_at "w"
      have eR2 : (P ++ (fur cols.length (es.map toO) m S).reverse).reverse.flatMap (preM cols.length (es.map toO) m) = (fur cols.length (es.map toO) m S).flatMap (preM cols.length (es.map toO) m) ++ P.reverse.flatMap (preM cols.length (es.map toO) m) := by rw [List.reverse_append, List.reverse_reverse, List.flatMap_append]
      refine ⟨_, ?_, found ++ [(S, x)], P ++ (fur cols.length (es.map toO) m S).reverse, some (encSl S), some (outD K b (some x)), ?_, rfl, ?_, ?_, ?_⟩
      · rw [eR, eR2, ePM, List.length_append, List.length_append, List.length_cons]
        omega
      · intro T hT
        rcases List.mem_append.mp hT with z | z
        · exact hP T z
        · exact hFS T (List.mem_reverse.mp z)
      · rw [eR2, List.length_append, List.length_append, List.length_singleton]
        omega
      · rw [eR2, ← heq, ePM, List.cons_append, List.filterMap_cons]
        have e1 : outP b r cols S = some (S, x) := by unfold outP; rw [ho]; rfl
        rw [e1]
        simp
      · rw [show (found ++ [(S, x)]).map (encW K b) = found.map (encW K b) ++ [encW K b (S, x)] by rw [List.map_append]; rfl]
        rfl
theorem st_shown {a b c d : D} : startD N_slips_shown [a, b, c, d] = [some a, some b, some c, some d, none, none, none, none] := rfl
theorem len_slips_shown : ∀ ds cs Q, sp_slips_shown K ds cs Q → ds.length = 4 := by rintro ds cs Q ⟨_, _, _, _, _, _, _, _, rfl, _⟩; rfl
theorem vc_slips_shown : ∀ ds cs Q, Lo ds cs → LoC cs → sp_slips_shown K ds cs Q → t_slips_shown K (Po.fn cs Q) ⟨startD N_slips_shown ds, cs⟩ := by
  rintro ds cs Q hd hc ⟨d, b, r, cols, es, m, l, rs, rfl, hs, g, hes, hl8, hz, gl, hrs, q⟩
  rw [st_shown]
  unfold t_slips_shown
  walk_at "w"
  refine ⟨_, l, rfl, rfl, (fun _ z => nomatch z), gl, ?_⟩
  walk_at "w"
  refine ⟨d, b, r, _, cols, es, rfl, hs, ?_⟩
  walk_at "w"
  refine v_listL (xs := rs.map .int) rfl ?_
  walk_at "w"
  refine ⟨d, b, r, cols, es, m, rfl, hs, g, hes, hl8, hz, ?_⟩
  walk_at "w"
  have hal : (allF b r cols (es.map toO) m).length ≤ 20000 := Nat.le_trans (List.length_filterMap_le _ _) hz.z
  have b2 := g.b2
  have b12 := g.b12
  refine v_lcF (e1 := ⟨_, _⟩) (allF b r cols (es.map toO) m) (encW K b) (fun t => encSl t.1) (fun t => decide (l.map (fun d => valW b t.2.2 t.2.1 % d) = rs)) rfl (by omega) (fun Q1 Q2 i x hx h1 h2 => ?_) ?_
  · refine ⟨_, rfl, ?_⟩
    walk_at "w"
    refine v_lcY (e1 := ⟨_, _⟩) l .int (fun d => .int (valW b x.2.2 x.2.1 % d)) rfl (by have := gl.len; omega) (fun Q' i y hy q' => ?_) ?_
    · refine ⟨_, rfl, ?_⟩
      walk_at "w"
      have := gl.ge y (List.mem_of_getElem? hy)
      refine ⟨⟨_, _, rfl, by decide⟩, ?_⟩
      walk_at "w"
      refine ⟨b, x.2.1, x.2.2, y, rfl, b2, b12, by omega, ?_⟩
      exact q'
    · walk_at "w"
      refine v_eqE encI.lst (a := l.map fun d => valW b x.2.2 x.2.1 % d) (b := rs) (by rw [List.map_map]; rfl) rfl ?_
      refine ⟨_, rfl, ?_⟩
      by_cases hh : decide (l.map (fun d => valW b x.2.2 x.2.1 % d) = rs) = true
      · rw [if_pos hh]
        walk_at "w"
        exact h2 hh
      · rw [if_neg hh]
        exact h1 (Bool.not_eq_true _ ▸ hh)
  · unfold shownF at q
    rw [List.map_map] at q
    exact .inl q
end
section
variable {b r : Int} {cols : List (List Int)} {S : Sl} {i : Nat} {o : Op}
/-- no slip is refused ahead of column i (a swap at the last one aside) -/
def fineR (b : Int) (cols : List (List Int)) (ops : List Op) (i : Nat) : Prop := ∀ k, k < i → ((stF b cols ops k).2.2 ≠ none → opAt ops k = .right) ∧ ((∃ j, opAt ops k = .copy j) → k ≠ 0) ∧ (opAt ops k = .forget → tot b (colAt cols k) (colAt cols (k - 1)) .forget (stF b cols ops k).2.1 / b ≠ 0)
theorem plan_fine {ops : List Op} (P : Plan b r cols ops) {i : Nat} (hi : i ≤ cols.length) : fineR b cols ops i := by
  intro k hk
  have hs := P.st k (by omega)
  refine ⟨fun hw => ?_, fun ⟨j, hj⟩ => ?_, fun hf => ?_⟩
  · cases k with
    | zero => exact absurd rfl hw
    | succ k =>
      by_cases hsw : opAt ops k = .swap
      · exact P.sw k (by omega) hsw
      · exact absurd (noswap_waits (b := b) (cols := cols) hsw) hw
  · rw [hj] at hs
    exact hs
  · rw [hf] at hs
    exact hs
theorem fine_wait {ops : List Op} (F : fineR b cols ops i) {k : Nat} (hk : k < i) (h : opAt ops k = .swap) : (stF b cols ops (k + 1)).2.2 ≠ none := by
  have h1 : (stF b cols ops k).2.2 = none := by
    cases hw : (stF b cols ops k).2.2 with
    | none => rfl
    | some w =>
      have := (F k hk).1 (by rw [hw]; exact fun z => nomatch z)
      rw [h] at this
      cases this
  rw [stF, h]
  unfold adv
  rw [h1]
  exact fun z => nomatch z
theorem fine_plan (g : Gs b r cols.length S) (F : fineR b cols (opsN cols.length S) cols.length) (hw : (stF b cols (opsN cols.length S) cols.length).2.2 = none) : Plan b r cols (opsN cols.length S) := by
  refine ⟨opsN_len, fun k hk => ?_, fun k hk => ?_, fun k hk hsw => ?_⟩
  · rw [opAt_N hk]
    by_cases z : opIn S k = .right
    · rw [z]; trivial
    · exact g.ok _ (opIn_mem g z)
  · obtain ⟨f1, f2, f3⟩ := F k hk
    cases ho : opAt (opsN cols.length S) k with
    | forget => exact f3 ho
    | copy j => exact f2 ⟨j, ho⟩
    | swap =>
      show k + 1 ≠ cols.length
      intro e
      have := fine_wait F hk ho
      rw [e] at this
      exact this hw
    | _ => trivial
  · exact (F (k + 1) hk).1 (fine_wait F (by omega) hsw)
theorem plan_nowait (P : Plan b r cols (opsN cols.length S)) : (stF b cols (opsN cols.length S) cols.length).2.2 = none := by
  cases hn : cols.length with
  | zero => rfl
  | succ k =>
    rw [hn] at P
    have hs := P.st k (by omega)
    refine noswap_waits fun hsw => ?_
    rw [hsw] at hs
    exact hs hn.symm
/-- the dict of deeds -/
def dicS (S : Sl) : List (Int × D) := S.map fun x => ((x.1 : Int), encO x.2)
theorem getI_S : ∀ S : Sl, getI (dicS S) (i : Int) = (S.find? fun x => decide (x.1 = i)).map fun x => encO x.2
  | [] => rfl
  | x :: S => by
    show (if ((x.1 : Nat) : Int) = (i : Int) then some (encO x.2) else getI (dicS S) i) = _
    rw [List.find?_cons, getI_S S]
    by_cases h : x.1 = i
    · rw [if_pos (by rw [h]), decide_eq_true h]
      rfl
    · rw [if_neg (by omega), decide_eq_false h]
def actD : Op → D
  | .right => .tup [.str "rightly"]
  | o => encO o
theorem actD_ne (h : o ≠ .right) : actD o = encO o := by cases o <;> first | exact absurd rfl h | rfl
theorem getI_act (g : Gs b r cols.length S) : (getI (dicS S) (i : Int)).getD (.tup [.str "rightly"]) = actD (opIn S i) ∧ (getI (dicS S) (i : Int)).isSome = !decide (opIn S i = .right) := by
  rw [getI_S]
  unfold opIn
  cases hf : S.find? fun x => decide (x.1 = i) with
  | none => exact ⟨rfl, rfl⟩
  | some x =>
    have := g.ne x (List.mem_of_find?_eq_some hf)
    refine ⟨(actD_ne this).symm, ?_⟩
    show true = !decide (x.2 = .right)
    rw [decide_eq_false this]
    rfl
theorem putI_S (g : Gs b r cols.length S) {k : Nat} {x : Nat × Op} (h : S[k]? = some x) : putI (dicS (S.take k)) (x.1 : Int) (encO x.2) = dicS (S.take (k + 1)) := by
  have hk := (List.getElem?_eq_some_iff.mp h).1
  have e : ((dicS (S.take k)).any fun p => decide (p.1 = (x.1 : Int))) = false := by
    rw [List.any_eq_false]
    intro p hp
    obtain ⟨y, hy, rfl⟩ := List.mem_map.mp hp
    have hpw := g.asc
    have e0 : S = S.take k ++ x :: S.drop (k + 1) := by
      have e2 := List.drop_eq_getElem_cons hk
      rw [List.getElem?_eq_getElem hk, Option.some_inj] at h
      rw [h] at e2
      rw [← e2, List.take_append_drop]
    rw [e0] at hpw
    have := (List.pairwise_append.mp hpw).2.2 y hy x List.mem_cons_self
    rw [decide_eq_true_eq]
    show ¬ ((y.1 : Nat) : Int) = (x.1 : Int)
    omega
  unfold putI
  rw [e, if_neg Bool.false_ne_true, List.take_add_one, h]
  unfold dicS
  rw [List.map_append]
  rfl
end
section
variable {K : PySem.W.Frag} {Po' : Po} {x0 x1 x2 x3 x4 x9 x11 x12 : Option D} {f m : Nat} {b k : Int} {o : Op} {ws c : List Int} {cs1 : List Cel}
/-- the carry and the figures behind a column -/
def k3 (b : Int) (c : List Int) (o : Op) (k : Int) : Int := match o with
  | .forget => 0
  | .again => k + 1
  | .twice => (c.sum + k) / b
  | _ => k
def w3 (b : Int) (c : List Int) (o : Op) (k : Int) : List Int := match o with
  | .twice => [(c.sum + k) % b]
  | _ => []
theorem w_run_3 {W : D} (b2 : 2 ≤ b) (b12 : b ≤ 12) (hf : cs1[f]? = some (.lst (ws.map .int))) (hm : cs1[m]? = some (.lst (c.map .int))) (hl : ws.length ≤ 10000) (hcl : c.length ≤ 1000)
    (h0 : o = .forget → k = 0 → Po'.rt .non cs1)
    (h1 : (o = .forget → k ≠ 0) → ∀ x11' : Option D, Po'.nx ⟨[some (.int b), x1, x2, x3, x4, some (actD o), some (.cell f), some W, some (.int (k3 b c o k)), x9, some (.cell m), x11', x12], cs1.set f (.lst ((ws ++ w3 b c o k).map .int))⟩) :
    u_law_run_3 K Po' ⟨[some (.int b), x1, x2, x3, x4, some (actD o), some (.cell f), some W, some (.int k), x9, some (.cell m), x11, x12], cs1⟩ := by
  have keep : cs1.set f (.lst ((ws ++ ([] : List Int)).map .int)) = cs1 := by rw [List.append_nil]; exact set_self hf
  unfold u_law_run_3
  cases o
  case forget =>
    dsimp only [actD, encO] at h1 ⊢
    walk_at "w"
    refine v_itd (fun h => ?_) (fun h => ?_)
    · walk_at "w"
      exact h0 rfl h
    · walk_at "w"
      have z := h1 (fun _ => h) x11
      rw [show w3 b c .forget k = [] from rfl, keep] at z
      exact z
  case twice =>
    dsimp only [actD, encO] at h1 ⊢
    walk_at "w"
    refine v_sumL (ns := c) (by show lk cs1 (.cell m) = _; exact lk_cell hm) ?_
    walk_at "w"
    refine ⟨⟨_, lk_cell hf⟩, ?_⟩
    walk_at "w"
    refine ⟨_, _, _, rfl, rfl, hf, Nat.lt_of_le_of_lt (show _ ≤ 20000 by rw [List.length_map]; omega) (by decide), ?_⟩
    walk_at "w"
    have e : ws.map D.int ++ [D.int ((c.sum + k) % b)] = (ws ++ [(c.sum + k) % b]).map .int := by rw [List.map_append]; rfl
    rw [e]
    exact h1 (fun z => nomatch z) _
  all_goals
    dsimp only [actD, encO] at h1 ⊢
    walk_at "w"
    have z := h1 (fun z => nomatch z) x11
    rw [← keep]
    exact z
def oW : Option Int → List Int
  | none => []
  | some w => [w]
theorem w_run_2 {w : Option Int} {fg : Int} (b2 : 2 ≤ b) (b12 : b ≤ 12) (hfm : f ≠ m) (hf : cs1[f]? = some (.lst (ws.map .int))) (hm : cs1[m]? = some (.lst (c.map .int))) (hl : ws.length ≤ 9000) (hcl : c.length ≤ 1000)
    (h0 : o = .forget → k = 0 → ∀ xs, Po'.rt .non (cs1.set f (.lst xs)))
    (h1 : (o = .forget → k ≠ 0) → ∀ x11' : Option D, Po'.nx ⟨[some (.int b), x1, x2, x3, x4, some (actD o), some (.cell f), some .non, some (.int (k3 b c o k)), x9, some (.cell m), x11', some (.int fg)], cs1.set f (.lst ((ws ++ [fg] ++ oW w ++ w3 b c o k).map .int))⟩) :
    u_law_run_2 K Po' ⟨[some (.int b), x1, x2, x3, x4, some (actD o), some (.cell f), some (wD w), some (.int k), x9, some (.cell m), x11, some (.int fg)], cs1⟩ := by
  unfold u_law_run_2
  walk_at "w"
  refine ⟨⟨_, lk_cell hf⟩, ?_⟩
  walk_at "w"
  refine ⟨_, _, _, rfl, rfl, hf, Nat.lt_of_le_of_lt (show _ ≤ 20000 by rw [List.length_map]; omega) (by decide), ?_⟩
  have e1 : ws.map D.int ++ [D.int fg] = (ws ++ [fg]).map .int := by rw [List.map_append]; rfl
  rw [e1]
  have hf1 : (cs1.set f (.lst ((ws ++ [fg]).map .int)))[f]? = some (.lst ((ws ++ [fg]).map .int)) := set_get hf
  cases w with
  | none =>
    dsimp only [wD]
    walk_at "w"
    refine w_run_3 b2 b12 hf1 (set_other hm hfm) (by rw [List.length_append, List.length_singleton]; omega) hcl (fun z1 z2 => h0 z1 z2 _) fun hk x11' => ?_
    have z := h1 hk x11'
    rw [List.set_set]
    rw [show ws ++ [fg] ++ oW none = ws ++ [fg] from List.append_nil _] at z
    exact z
  | some v =>
    dsimp only [wD]
    walk_at "w"
    refine ⟨⟨_, lk_cell hf1⟩, ?_⟩
    walk_at "w"
    refine ⟨_, _, _, rfl, rfl, hf1, Nat.lt_of_le_of_lt (show _ ≤ 20000 by rw [List.length_map, List.length_append, List.length_singleton]; omega) (by decide), ?_⟩
    have e2 : (ws ++ [fg]).map D.int ++ [D.int v] = (ws ++ [fg] ++ [v]).map .int := by rw [List.map_append (l₂ := [v])]; rfl
    rw [e2, List.set_set]
    walk_at "w"
    have hf2 : (cs1.set f (.lst ((ws ++ [fg] ++ [v]).map .int)))[f]? = some (.lst ((ws ++ [fg] ++ [v]).map .int)) := set_get hf
    refine w_run_3 b2 b12 hf2 (set_other hm hfm) (by rw [List.length_append, List.length_append, List.length_singleton, List.length_singleton]; omega) hcl (fun z1 z2 => h0 z1 z2 _) fun hk x11' => ?_
    have z := h1 hk x11'
    rw [List.set_set]
    exact z
def f1 (b tt : Int) : Op → Int
  | .off d => (tt % b + d) % b
  | _ => tt % b
theorem w_run_1 {w : Option Int} {tt : Int} (b2 : 2 ≤ b) (b12 : b ≤ 12) (hfm : f ≠ m) (hf : cs1[f]? = some (.lst (ws.map .int))) (hm : cs1[m]? = some (.lst (c.map .int))) (hl : ws.length ≤ 9000) (hcl : c.length ≤ 1000)
    (hs : o = .swap → Po'.ct ⟨[some (.int b), x1, x2, x3, x4, some (actD o), some (.cell f), some (.int (tt % b)), some (.int (tt / b)), x9, some (.cell m), some (.int tt), some (.int (tt % b))], cs1⟩)
    (h0 : o = .forget → tt / b = 0 → ∀ xs, Po'.rt .non (cs1.set f (.lst xs)))
    (h1 : o ≠ .swap → (o = .forget → tt / b ≠ 0) → ∀ x11' : Option D, Po'.nx ⟨[some (.int b), x1, x2, x3, x4, some (actD o), some (.cell f), some .non, some (.int (k3 b c o (tt / b))), x9, some (.cell m), x11', some (.int (f1 b tt o))], cs1.set f (.lst ((ws ++ [f1 b tt o] ++ oW w ++ w3 b c o (tt / b)).map .int))⟩) :
    u_law_run_1 K Po' ⟨[some (.int b), x1, x2, x3, x4, some (actD o), some (.cell f), some (wD w), some (.int k), x9, some (.cell m), some (.int tt), x12], cs1⟩ := by
  unfold u_law_run_1
  cases o
  case swap =>
    dsimp only [actD, encO] at hs ⊢
    walk_at "w"
    refine ⟨_, _, rfl, ?_⟩
    walk_at "w"
    exact hs rfl
  case off d =>
    have e : actD (.off d) = .tup [.str "off", .int d] := rfl
    rw [e]
    walk_at "w"
    refine ⟨_, _, rfl, ?_⟩
    walk_at "w"
    rw [← e]
    exact w_run_2 b2 b12 hfm hf hm hl hcl h0 (h1 (fun z => nomatch z))
  all_goals
    dsimp only [actD, encO]
    walk_at "w"
    refine ⟨_, _, rfl, ?_⟩
    walk_at "w"
    first
      | exact w_run_2 (o := .right) b2 b12 hfm hf hm hl hcl h0 (h1 (fun z => nomatch z))
      | exact w_run_2 (o := .forget) b2 b12 hfm hf hm hl hcl h0 (h1 (fun z => nomatch z))
      | exact w_run_2 (o := .again) b2 b12 hfm hf hm hl hcl h0 (h1 (fun z => nomatch z))
      | exact w_run_2 (o := .out) b2 b12 hfm hf hm hl hcl h0 (h1 (fun z => nomatch z))
      | exact w_run_2 (o := .twice) b2 b12 hfm hf hm hl hcl h0 (h1 (fun z => nomatch z))
      | exact w_run_2 (o := .read _ _) b2 b12 hfm hf hm hl hcl h0 (h1 (fun z => nomatch z))
      | exact w_run_2 (o := .copy _) b2 b12 hfm hf hm hl hcl h0 (h1 (fun z => nomatch z))
end
section
variable {K : PySem.W.Frag} {Po' : Po} {x2 x3 x4 x10 x11 x12 : Option D} {f i : Nat} {b r k : Int} {o : Op} {ws : List Int} {cols : List (List Int)} {cs1 : List Cel}
theorem takeF_len (b : Int) (c bf : List Int) (o : Op) : (takeF b c bf o).length = c.length := by cases o <;> simp [takeF]
theorem w_run_0 {w : Option Int} (g : Gd b r cols) (hi : i < cols.length) (ho : okO b r o) (hcp : (∃ j, o = .copy j) → i ≠ 0) (hf : cs1[f]? = some (.lst (ws.map .int))) (hl : ws.length ≤ 9000)
    (hout : o = .out → Po'.ct ⟨[some (.int b), some (.lst (cols.map encC)), x2, x3, x4, some (actD o), some (.cell f), some (wD w), some (.int k), some (.int (i : Int)), x10, x11, x12], cs1⟩)
    (hs : o = .swap → ∀ y10 y11 y12, Po'.ct ⟨[some (.int b), some (.lst (cols.map encC)), x2, x3, x4, some (actD o), some (.cell f), some (.int (tot b (colAt cols i) (colAt cols (i - 1)) o k % b)), some (.int (tot b (colAt cols i) (colAt cols (i - 1)) o k / b)), some (.int (i : Int)), y10, y11, y12], cs1 ++ [.lst ((takeF b (colAt cols i) (colAt cols (i - 1)) o).map .int)]⟩)
    (h0 : o = .forget → tot b (colAt cols i) (colAt cols (i - 1)) o k / b = 0 → ∀ xs y, Po'.rt .non ((cs1 ++ [y]).set f (.lst xs)))
    (h1 : o ≠ .out → o ≠ .swap → (o = .forget → tot b (colAt cols i) (colAt cols (i - 1)) o k / b ≠ 0) → ∀ y y10 y11 y12, Po'.nx ⟨[some (.int b), some (.lst (cols.map encC)), x2, x3, x4, some (actD o), some (.cell f), some .non, some (.int (k3 b (takeF b (colAt cols i) (colAt cols (i - 1)) o) o (tot b (colAt cols i) (colAt cols (i - 1)) o k / b))), some (.int (i : Int)), y10, y11, y12],
      (cs1 ++ [y]).set f (.lst ((ws ++ [f1 b (tot b (colAt cols i) (colAt cols (i - 1)) o k) o] ++ oW w ++ w3 b (takeF b (colAt cols i) (colAt cols (i - 1)) o) o (tot b (colAt cols i) (colAt cols (i - 1)) o k / b)).map .int))⟩) :
    u_law_run_0 K Po' ⟨[some (.int b), some (.lst (cols.map encC)), x2, x3, x4, some (actD o), some (.cell f), some (wD w), some (.int k), some (.int (i : Int)), x10, x11, x12], cs1⟩ := by
  have b2 := g.b2
  have b12 := g.b12
  have hfl := (List.getElem?_eq_some_iff.mp hf).1
  have hcl : (takeF b (colAt cols i) (colAt cols (i - 1)) o).length ≤ 1000 := by
    rw [takeF_len]
    have := g.clen hi
    have := g.r4
    omega
  have fin : ∀ y11 y12 : Option D, u_law_run_1 K Po' ⟨[some (.int b), some (.lst (cols.map encC)), x2, x3, x4, some (actD o), some (.cell f), some (wD w), some (.int k), some (.int (i : Int)), some (.cell cs1.length), some (.int (tot b (colAt cols i) (colAt cols (i - 1)) o k)), y12], cs1 ++ [.lst ((takeF b (colAt cols i) (colAt cols (i - 1)) o).map .int)]⟩ ∨ o = .out := by
    intro y11 y12
    by_cases hno : o = .out
    · exact .inr hno
    exact .inl (w_run_1 b2 b12 (Nat.ne_of_lt hfl) (app_get_lt hf) app_get hl hcl (fun z => hs z _ _ _) (fun z1 z2 xs => h0 z1 z2 xs _) fun z1 z2 x11' => h1 hno z1 z2 _ _ _ _)
  unfold u_law_run_0
  generalize u_law_run_1 K = T at fin ⊢
  cases o
  case out =>
    dsimp only [actD, encO] at hout ⊢
    walk_at "w"
    exact hout rfl
  case copy j =>
    have e : actD (.copy j) = .tup [.str "copy", .int (j : Nat)] := rfl
    have j2 : (j : Int) < r := ho
    have i0 := hcp ⟨j, rfl⟩
    have hl := g.clen hi
    have hj : j < (colAt cols i).length := by omega
    have hi1 : i - 1 < cols.length := by omega
    have hl1 := g.clen hi1
    have hj2 : j < (colAt cols (i - 1)).length := by omega
    have e1 : (i : Int) - 1 = ((i - 1 : Nat) : Int) := by omega
    rw [e] at fin ⊢
    walk_at "w"
    refine v_ixK (xs := cols.map encC) rfl (atI_map (colAt_get hi)) ?_
    walk_at "w"
    refine v_listL (xs := (colAt cols i).map .int) rfl ?_
    walk_at "w"
    rw [e1]
    refine v_ixK (xs := cols.map encC) rfl (atI_map (colAt_get hi1)) ?_
    walk_at "w"
    refine v_ixTX ⟨_, atI_map (getD_get hj2), ?_⟩
    walk_at "w"
    refine ⟨_, _, (j : Nat), j, rfl, app_get, rfl, Evl.ixN_nat (by simpa using hj), ?_⟩
    rw [app_set, ← List.map_set]
    walk_at "w"
    refine v_sumL (ns := takeF b (colAt cols i) (colAt cols (i - 1)) (.copy j)) (by show lk (cs1 ++ _) (.cell _) = _; exact lk_cell app_get) ?_
    walk_at "w"
    exact (fin x11 x12).resolve_right (fun z => nomatch z)
  case read j d =>
    have e : actD (.read j d) = .tup [.str "read", .int (j : Nat), .int d] := rfl
    obtain ⟨j2, d1, d2⟩ := ho
    have hl := g.clen hi
    have hj : j < (colAt cols i).length := by omega
    rw [e] at fin ⊢
    walk_at "w"
    refine v_ixK (xs := cols.map encC) rfl (atI_map (colAt_get hi)) ?_
    walk_at "w"
    refine v_listL (xs := (colAt cols i).map .int) rfl ?_
    walk_at "w"
    refine v_ixK (lk_cell app_get) (atI_map (getD_get hj)) ?_
    walk_at "w"
    refine ⟨_, _, (j : Nat), j, rfl, app_get, rfl, Evl.ixN_nat (by simpa using hj), ?_⟩
    rw [app_set, ← List.map_set]
    walk_at "w"
    refine v_sumL (ns := takeF b (colAt cols i) (colAt cols (i - 1)) (.read j d)) (by show lk (cs1 ++ _) (.cell _) = _; exact lk_cell app_get) ?_
    walk_at "w"
    exact (fin x11 x12).resolve_right (fun z => nomatch z)
  all_goals
    dsimp only [actD, encO] at fin ⊢
    walk_at "w"
    refine v_ixK (xs := cols.map encC) rfl (atI_map (colAt_get hi)) ?_
    walk_at "w"
    refine v_listL (xs := (colAt cols i).map .int) rfl ?_
    walk_at "w"
    refine v_sumL (ns := colAt cols i) (by show lk (cs1 ++ _) (.cell _) = _; exact lk_cell app_get) ?_
    walk_at "w"
    exact (fin x11 x12).resolve_right (fun z => nomatch z)
end
section
variable {K : PySem.W.Frag}
theorem adv_out {b k : Int} {c bf ws : List Int} : adv (ws, k, none) (stepT b c bf .out k) .out = (ws, k, none) := by simp [adv, stepT]
theorem adv_swap {b k : Int} {c bf ws : List Int} : adv (ws, k, none) (stepT b c bf .swap k) .swap = (ws, tot b c bf .swap k / b, some (tot b c bf .swap k % b)) := by simp [adv, stepT]
theorem adv_else {b k : Int} {c bf ws : List Int} {w : Option Int} {o : Op} (hw : w ≠ none → o = .right) (h1 : o ≠ .out) (h2 : o ≠ .swap) :
    adv (ws, k, w) (stepT b c bf o k) o = (ws ++ [f1 b (tot b c bf o k) o] ++ oW w ++ w3 b (takeF b c bf o) o (tot b c bf o k / b), k3 b (takeF b c bf o) o (tot b c bf o k / b), none) := by
  cases w with
  | some v =>
    cases hw (fun z => nomatch z)
    simp [adv, stepT, f1, oW, w3, k3]
  | none =>
    cases o <;> first | exact absurd rfl h1 | exact absurd rfl h2 | simp [adv, stepT, f1, oW, w3, k3, takeF]
theorem stF_len3 {b : Int} {cols : List (List Int)} {ops : List Op} : ∀ i, (stF b cols ops i).1.length ≤ 4 * i
  | 0 => Nat.zero_le _
  | i + 1 => by
    have ih := stF_len3 (b := b) (cols := cols) (ops := ops) i
    rw [stF]
    generalize stF b cols ops i = st at ih ⊢
    obtain ⟨ws, k, w⟩ := st
    dsimp only at ih ⊢
    have h2 : (stepT b (colAt cols i) (colAt cols (i - 1)) (opAt ops i) k).1.length ≤ 2 := by cases opAt ops i <;> simp [stepT]
    unfold adv
    cases w with
    | some v =>
      dsimp only
      rw [List.length_append, List.length_append, List.length_singleton]
      omega
    | none =>
      dsimp only
      split
      · show ws.length ≤ _
        omega
      · show (ws ++ _).length ≤ _
        rw [List.length_append]
        omega
theorem st_lrun {a b c : D} : startD N_law_run [a, b, c] = [some a, some b, some c, none, none, none, none, none, none, none, none, none, none] := rfl
theorem len_law_run : ∀ ds cs Q, sp_law_run K ds cs Q → ds.length = 3 := by rintro ds cs Q ⟨_, _, _, _, rfl, _⟩; rfl
theorem vc_law_run : ∀ ds cs Q, Lo ds cs → LoC cs → sp_law_run K ds cs Q → t_law_run K (Po.fn cs Q) ⟨startD N_law_run ds, cs⟩ := by
  rintro ds cs Q hd hc ⟨b, r, cols, S, rfl, g, gs, q1, q2⟩
  have b2 := g.b2
  have b12 := g.b12
  rw [st_lrun]
  unfold t_law_run
  walk_at "w"
  refine ⟨fun k e => ∃ y z, e = ⟨[some (.int b), some (.lst (cols.map encC)), some (encSl S), some (.cell cs.length), y, z, none, none, none, none, none, none, none], cs ++ [.dic (dicS (S.take k))]⟩, ⟨none, none, rfl⟩, ?_, ?_⟩
  · rintro k x e1 hx ⟨y, z, rfl⟩
    rw [List.getElem?_map, Option.map_eq_some_iff] at hx
    obtain ⟨s, hs, rfl⟩ := hx
    refine ⟨trivial, _, rfl, ?_⟩
    walk_at "w"
    have hl := gs.len
    have hn := g.n
    refine ⟨_, _, _, rfl, rfl, app_get, Nat.lt_of_le_of_lt (show _ ≤ 1000 by unfold dicS; rw [List.length_map, List.length_take]; omega) (by decide), ?_⟩
    rw [app_set, putI_S gs hs]
    walk_at "w"
    exact ⟨_, _, rfl⟩
  · rintro e1 ⟨y, z, rfl⟩
    rw [List.length_map, List.take_length]
    refine ⟨trivial, ?_⟩
    walk_at "w"
    refine ⟨_, _, _, rfl, ?_⟩
    have el : (cs ++ [Cel.dic (dicS S)]).length = cs.length + 1 := by simp
    rw [el]
    walk_at "w"
    have hn := g.n
    refine v_lenK (e := ⟨_, _⟩) (xs := cols.map encC) rfl ?_
    rw [List.length_map]
    walk_at "w"
    refine ⟨fun i e => ∃ (x4 x5 x9 x10 x11 x12 : Option D) (cs1 : List Cel), fineR b cols (opsN cols.length S) i ∧ cs1.take cs.length = cs ∧ cs1[cs.length]? = some (.dic (dicS S)) ∧ cs1[cs.length + 1]? = some (.lst ((stF b cols (opsN cols.length S) i).1.map .int)) ∧
      e = ⟨[some (.int b), some (.lst (cols.map encC)), some (encSl S), some (.cell cs.length), x4, x5, some (.cell (cs.length + 1)), some (wD (stF b cols (opsN cols.length S) i).2.2), some (.int (stF b cols (opsN cols.length S) i).2.1), x9, x10, x11, x12], cs1⟩, ?_, ?_, ?_⟩
    · exact ⟨y, z, none, none, none, none, (cs ++ [.dic (dicS S)]) ++ [.lst []], (fun k hk => absurd hk (Nat.not_lt_zero _)), by simp, g3b, g3c, rfl⟩
    · rintro i d e1 hi ⟨x4, x5, x9, x10, x11, x12, cs1, F, ht, hD, hf, rfl⟩
      obtain ⟨hi1, rfl⟩ := intsD_get hi
      rw [show (((cols.length : Nat) : Int)).toNat = cols.length from rfl] at hi1
      refine ⟨trivial, _, rfl, ?_⟩
      rw [Int.zero_add]
      walk_at "w"
      refine ⟨⟨_, _, rfl, hD⟩, ?_⟩
      walk_at "w"
      refine ⟨_, _, _, rfl, rfl, hD, ?_⟩
      rw [(getI_act gs).1]
      have hop : opAt (opsN cols.length S) i = opIn S i := opAt_N hi1
      have hst := stF_len3 (b := b) (cols := cols) (ops := opsN cols.length S) i
      have hns : stF b cols (opsN cols.length S) (i + 1) = adv (stF b cols (opsN cols.length S) i) (stepT b (colAt cols i) (colAt cols (i - 1)) (opIn S i) (stF b cols (opsN cols.length S) i).2.1) (opIn S i) := by rw [stF, hop]
      have hF1 : ((stF b cols (opsN cols.length S) i).2.2 ≠ none → opIn S i = .right) → ((∃ j, opIn S i = .copy j) → i ≠ 0) → (opIn S i = .forget → tot b (colAt cols i) (colAt cols (i - 1)) .forget (stF b cols (opsN cols.length S) i).2.1 / b ≠ 0) → fineR b cols (opsN cols.length S) (i + 1) := by
        intro z1 z2 z3 k hk
        by_cases hki : k = i
        · subst hki
          rw [hop]
          exact ⟨z1, z2, z3⟩
        · exact F k (by omega)
      have hbad : ¬ fineR b cols (opsN cols.length S) (i + 1) → outF b r cols S = none := fun z => outF_none fun P => z (plan_fine P (by omega))
      have hgo : okO b r (opIn S i) := by
        by_cases z : opIn S i = .right
        · rw [z]; trivial
        · exact gs.ok _ (opIn_mem gs z)
      have hdin := (getI_act (i := i) gs).2
      generalize hst0 : stF b cols (opsN cols.length S) i = st at hst hns hF1 hf ⊢
      have hbad1 : (st.2.2 ≠ none → opIn S i = .right) → False ∨ True := fun _ => .inr trivial
      obtain ⟨ws, k, w⟩ := st
      dsimp only at hst hns hF1 hf ⊢
      generalize ho : opIn S i = o at hop hns hF1 hgo hdin ⊢
      have hb0 : o ≠ .right → w ≠ none → outF b r cols S = none := fun h1 h2 => hbad fun G => by
        have := (G i (by omega)).1
        rw [hst0, hop] at this
        exact h1 (this h2)
      have hb1 : (∃ j, o = .copy j) → i = 0 → outF b r cols S = none := fun h1 h2 => hbad fun G => by
        have := (G i (by omega)).2.1
        rw [hop] at this
        exact this h1 h2
      have hb2 : o = .forget → tot b (colAt cols i) (colAt cols (i - 1)) .forget k / b = 0 → outF b r cols S = none := fun h1 h2 => hbad fun G => by
        have := (G i (by omega)).2.2
        rw [hst0, hop] at this
        exact this h1 h2
      -- the column itself
      have main : (w ≠ none → o = .right) → ((∃ j, o = .copy j) → i ≠ 0) → ∀ y5 : Option D, u_law_run_0 K (((Po.fn cs Q).thn (sRet (eFz (eTup (aCons (eV 6) (aCons (eV 7) (aCons (eV 8) aNil))))))).lp fun e => ∃ (x4 x5 x9 x10 x11 x12 : Option D) (cs1 : List Cel), fineR b cols (opsN cols.length S) (i + 1) ∧ cs1.take cs.length = cs ∧ cs1[cs.length]? = some (.dic (dicS S)) ∧ cs1[cs.length + 1]? = some (.lst ((stF b cols (opsN cols.length S) (i + 1)).1.map .int)) ∧
          e = ⟨[some (.int b), some (.lst (cols.map encC)), some (encSl S), some (.cell cs.length), x4, x5, some (.cell (cs.length + 1)), some (wD (stF b cols (opsN cols.length S) (i + 1)).2.2), some (.int (stF b cols (opsN cols.length S) (i + 1)).2.1), x9, x10, x11, x12], cs1⟩)
          ⟨[some (.int b), some (.lst (cols.map encC)), some (encSl S), some (.cell cs.length), x4, some (actD o), some (.cell (cs.length + 1)), some (wD w), some (.int k), some (.int (i : Int)), x10, x11, x12], cs1⟩ := by
        intro z1 z2 y5
        rw [hns]
        have hcl := (List.getElem?_eq_some_iff.mp hf).1
        have et : ∀ y c, ((cs1 ++ [y]).set (cs.length + 1) c).take cs.length = cs := fun y c => by
          rw [List.set_append_left _ _ hcl, List.take_append_of_le_length (by rw [List.length_set]; omega), List.take_set, ht]
          exact List.set_eq_of_length_le (by omega)
        refine w_run_0 g hi1 hgo z2 hf (by omega) ?_ ?_ ?_ ?_
        · rintro rfl
          have hw : w = none := by
            cases w with
            | none => rfl
            | some v => exact absurd (z1 (fun z => nomatch z)) (fun z => nomatch z)
          subst hw
          rw [adv_out]
          walk_at "w"
          exact ⟨_, _, _, _, _, _, cs1, hF1 z1 z2 (fun z => nomatch z), ht, hD, hf, rfl⟩
        · rintro rfl y10 y11 y12
          have hw : w = none := by
            cases w with
            | none => rfl
            | some v => exact absurd (z1 (fun z => nomatch z)) (fun z => nomatch z)
          subst hw
          rw [adv_swap]
          walk_at "w"
          exact ⟨_, _, _, _, _, _, cs1 ++ [_], hF1 z1 z2 (fun z => nomatch z), by rw [List.take_append_of_le_length (by omega)]; exact ht, app_get_lt hD, app_get_lt hf, rfl⟩
        · rintro rfl hk xs y
          walk_at "w"
          exact trim_back (et _ _) rfl (q2 (hb2 rfl hk)).1
        · intro n1 n2 n3 y y10 y11 y12
          rw [adv_else z1 n1 n2]
          walk_at "w"
          refine ⟨_, _, _, _, _, _, _, hF1 z1 z2 (fun e => by subst e; exact n3 rfl), et _ _, ?_, set_get (app_get_lt hf), rfl⟩
          exact set_other (app_get_lt hD) (by omega)
      generalize u_law_run_0 K = T at main ⊢
      walk_at "w"
      refine ⟨_, _, _, rfl, rfl, hD, _, rfl, ?_⟩
      rw [hdin]
      by_cases hr : o = .right
      · subst hr
        rw [show (!decide (Op.right = Op.right)) = false from rfl]
        dsimp only [actD] at main ⊢
        walk_at "w"
        exact main (fun _ => rfl) (fun ⟨_, z⟩ => nomatch z) none
      · rw [decide_eq_false hr]
        rw [show (!false) = true from rfl]
        cases w with
        | some v =>
          dsimp only [wD]
          walk_at "w"
          exact trim_back ht rfl (q2 (hb0 hr (fun z => nomatch z))).1
        | none =>
          cases o
          case copy j =>
            have e : actD (.copy j) = .tup [.str "copy", .int (j : Nat)] := rfl
            rw [e] at main ⊢
            dsimp only [wD] at main ⊢
            walk_at "w"
            refine v_itd (fun h => ?_) (fun h => ?_)
            · walk_at "w"
              exact trim_back ht rfl (q2 (hb1 ⟨j, rfl⟩ (by omega))).1
            · walk_at "w"
              exact main (fun z => absurd rfl z) (fun _ z => h (by rw [z]; rfl)) none
          case right => exact absurd rfl hr
          all_goals
            dsimp only [wD, actD, encO] at main ⊢
            walk_at "w"
            exact main (fun z => absurd rfl z) (fun ⟨_, z⟩ => nomatch z) none
    · rintro e1 ⟨x4, x5, x9, x10, x11, x12, cs1, F, ht, hD, hf, rfl⟩
      rw [intsD_len, show (((cols.length : Nat) : Int)).toNat = cols.length from rfl] at F hf ⊢
      refine ⟨trivial, ?_⟩
      walk_at "w"
      have et : (cs1.set (cs.length + 1) .dead).take cs.length = cs := by
        rw [List.take_set, ht]
        exact List.set_eq_of_length_le (by omega)
      have q3 : Q (.tup [.lst ((stF b cols (opsN cols.length S) cols.length).1.map .int), wD (stF b cols (opsN cols.length S) cols.length).2.2, .int (stF b cols (opsN cols.length S) cols.length).2.1]) cs := by
        cases hw : (stF b cols (opsN cols.length S) cols.length).2.2 with
        | none => exact q1 _ (outF_some (fine_plan gs F hw))
        | some w =>
          refine (q2 (outF_none fun P => ?_)).2 _ w _
          have := plan_nowait P
          rw [hw] at this
          cases this
      generalize stF b cols (opsN cols.length S) cols.length = st at hf q3 ⊢
      obtain ⟨ws, k, w⟩ := st
      dsimp only at hf q3 ⊢
      refine ⟨.tup [.lst (ws.map .int), wD w, .int k], _, Fzs.one hf (by
        have e : subC (cs.length + 1) (ws.map .int) (.tup [.cell (cs.length + 1), wD w, .int k]) = .tup [.lst (ws.map .int), wD w, .int k] := by cases w <;> simp [subC, subCs, wD]
        rw [e]
        exact .nil), ?_⟩
      refine trim_back et ?_ q3
      show (los _ (ws.map .int) && (loD _ (wD w) && true)) = true
      rw [los_int]
      cases w <;> rfl
end
section
variable {K : PySem.W.Frag}
theorem st_louts {a b c : D} : startD N_law_outcomes [a, b, c] = [some a, some b, some c, none, none, none] := rfl
theorem len_law_outcomes : ∀ ds cs Q, sp_law_outcomes K ds cs Q → ds.length = 3 := by rintro ds cs Q ⟨_, _, _, _, rfl, _⟩; rfl
theorem lo_outT {k : Nat} (x : Option (List Int × Int)) : loD k (outT x) = true := by
  cases x with
  | none => rfl
  | some x =>
    show (los k (x.1.map .int) && (true && true)) = true
    rw [los_int]
    rfl
theorem vc_law_outcomes : ∀ ds cs Q, Lo ds cs → LoC cs → sp_law_outcomes K ds cs Q → t_law_outcomes K (Po.fn cs Q) ⟨startD N_law_outcomes ds, cs⟩ := by
  rintro ds cs Q hd hc ⟨b, r, cols, Ss, rfl, g, gs, hz, q⟩
  rw [st_louts]
  unfold t_law_outcomes
  walk_at "w"
  refine ⟨fun i e => ∃ x4 x5, e = ⟨[some (.int b), some (.lst (cols.map encC)), some (.lst (Ss.map encSl)), some (.cell cs.length), x4, x5], cs ++ [.lst ((Ss.take i).map fun S => outT (outF b r cols S))]⟩, ⟨none, none, rfl⟩, ?_, ?_⟩
  · rintro i d e1 hi ⟨x4, x5, rfl⟩
    rw [List.getElem?_map, Option.map_eq_some_iff] at hi
    obtain ⟨S, hS, rfl⟩ := hi
    have hlt := (List.getElem?_eq_some_iff.mp hS).1
    refine ⟨trivial, _, rfl, ?_⟩
    walk_at "w"
    have fin : ∀ d5 : D, d5 = outT (outF b r cols S) → (sDrop (eBM qApp (eV 3) (aCons (eV 5) aNil))) ((((Po.fn cs Q).thn (sRet (eV 3)))).lp fun e => ∃ x4 x5, e = ⟨[some (.int b), some (.lst (cols.map encC)), some (.lst (Ss.map encSl)), some (.cell cs.length), x4, x5], cs ++ [.lst ((Ss.take (i + 1)).map fun S => outT (outF b r cols S))]⟩) ⟨[some (.int b), some (.lst (cols.map encC)), some (.lst (Ss.map encSl)), some (.cell cs.length), some (encSl S), some d5], cs ++ [.lst ((Ss.take i).map fun S => outT (outF b r cols S))]⟩ := by
      rintro d5 rfl
      walk_at "w"
      refine ⟨⟨_, lk_cell app_get⟩, ?_⟩
      walk_at "w"
      refine ⟨_, _, _, rfl, rfl, app_get, Nat.lt_of_le_of_lt (show _ ≤ 20000 by rw [List.length_map, List.length_take]; omega) (by decide), ?_⟩
      rw [app_set]
      walk_at "w"
      refine ⟨some (encSl S), some (outT (outF b r cols S)), ?_⟩
      rw [List.take_add_one, hS, List.map_append]
      rfl
    generalize (sDrop (eBM qApp (eV 3) (aCons (eV 5) aNil))) = T at fin ⊢
    refine ⟨b, r, cols, S, rfl, g, gs S (List.mem_of_getElem? hS), fun x hx => ?_, fun hn => ⟨?_, fun fs w k => ?_⟩⟩
    · rw [hx] at fin
      walk_at "w"
      exact fin _ rfl
    · rw [hn] at fin
      walk_at "w"
      exact fin _ rfl
    · rw [hn] at fin
      walk_at "w"
      exact fin _ rfl
  · rintro e1 ⟨x4, x5, rfl⟩
    rw [List.length_map, List.take_length]
    refine ⟨trivial, ?_⟩
    walk_at "w"
    refine own_back (los_map (fun S => lo_outT _) Ss) (.inl q)
theorem st_lord {a b c : D} : startD N_law_ordered [a, b, c] = [some a, some b, some c, none, none, none, none, none, none] := rfl
theorem len_law_ordered : ∀ ds cs Q, sp_law_ordered K ds cs Q → ds.length = 3 := by rintro ds cs Q ⟨_, _, _, rfl, _⟩; rfl
theorem sh_Sl (S : Sl) : Sh 3 (encSl S) := sh_SL S
theorem sh_SLs (Ss : List Sl) : Sh 4 (.lst (Ss.map encSl)) := .lst (.all fun d hd => by
  obtain ⟨s, _, rfl⟩ := List.mem_map.mp hd
  exact sh_Sl s)
theorem eqv_nil (xs : List D) : PyData.eqv (toP (.lst xs)) (toP (.lst [])) = xs.isEmpty := by cases xs <;> rfl
theorem v_neE {x : D} {xs : List D} {n : Nat} {e : En} {P : D → En → Prop} (hx : drf e.cs x = .lst xs) (hs : Sh n (.lst xs)) (p : P (.bl (!xs.isEmpty)) e) (hn : n ≤ 64 := by decide) : qNe x (.lst []) e P :=
  v_neP ⟨by cases x <;> rfl, by rw [hx]; exact hs.shp hn, rfl, by rw [hx]; exact eqv_nil xs, p⟩
theorem w_ord {Po' : Po} {x3 x6 x7 x8 : Option D} {n m p : Nat} {os : List Op} {S : Sl} {P : List Sl} {cs3 : List Cel} (hn : n ≤ 12) (hm3 : m ≤ 3) (hSm : S.length ≤ m) (hnx : nxC S ≤ 12) (hl8 : os.length ≤ 8) (hPl : P.length ≤ 30000) (hp : cs3[p]? = some (.lst (P.map encSl)))
    (h : ∀ y6 y7 y8 cs4, cs4.take p = cs3.take p → cs4[p]? = some (.lst ((P ++ (fur n os m S).reverse).map encSl)) → Po'.nx ⟨[some (.int (n : Nat)), some (.lst (os.map encO)), some (.int (m : Nat)), x3, some (.cell p), some (encSl S), y6, y7, y8], cs4⟩) :
    (sIf (eTest (eBin qLt (eCB qLen (aCons (eV 5) aNil)) (eV 2))) (sSeq (sAsg (eLst true aNil) 6) (sSeq (sFor (iR2 (aCons (eIf (eTest (eBin qNe (eV 5) (eLst false aNil))) (eBin (qAdd false) (eBin qIx (eBin qIx (eV 5) (eNeg (eC (.int 1)))) (eC (.int 0))) (eC (.int 1))) (eC (.int 0))) (aCons (eV 0) aNil))) (.one 7) (sDrop (eBM qExt (eV 6) (aCons (eLc false (iS (eV 1)) (.one 8) dYes (eBin (qAdd false) (eV 5) (eLst false (aCons (eTup (aCons (eV 7) (aCons (eV 8) aNil))) aNil))) [8]) aNil)))) (sDrop (eBM qExt (eV 4) (aCons (eRev false (eV 6)) aNil))))) sNext) Po' ⟨[some (.int (n : Nat)), some (.lst (os.map encO)), some (.int (m : Nat)), x3, some (.cell p), some (encSl S), x6, x7, x8], cs3⟩ := by
  walk_at "w"
  refine v_lenK (xs := S.map encS) rfl ?_
  rw [List.length_map]
  walk_at "w"
  have hpl := (List.getElem?_eq_some_iff.mp hp).1
  refine v_itd (fun hlt => ?_) (fun hlt => ?_)
  · have hne : ¬ S.length = m := by omega
    have eF : fur n os m S = (List.range (n - nxC S)).flatMap fun i => os.map fun o => S ++ [(nxC S + i, o)] := by unfold fur; rw [if_neg hne]
    rw [eF] at h
    have first : ∀ (P2 : D → En → Prop), P2 (.int (nxC S : Nat)) ⟨[some (.int (n : Nat)), some (.lst (os.map encO)), some (.int (m : Nat)), x3, some (.cell p), some (encSl S), some (.cell cs3.length), x7, x8], cs3 ++ [.lst []]⟩ → (eIf (eTest (eBin qNe (eV 5) (eLst false aNil))) (eBin (qAdd false) (eBin qIx (eBin qIx (eV 5) (eNeg (eC (.int 1)))) (eC (.int 0))) (eC (.int 1))) (eC (.int 0))) ⟨[some (.int (n : Nat)), some (.lst (os.map encO)), some (.int (m : Nat)), x3, some (.cell p), some (encSl S), some (.cell cs3.length), x7, x8], cs3 ++ [.lst []]⟩ P2 := by
      intro P2 p2
      walk_at "w"
      refine v_neE (xs := S.map encS) (n := 3) rfl (sh_SL S) ?_
      refine ⟨_, rfl, ?_⟩
      cases hS : S.getLast? with
      | none =>
        have e0 := List.getLast?_eq_none_iff.mp hS
        subst e0
        rw [if_neg (by simp)]
        walk_at "w"
        exact p2
      | some x =>
        obtain ⟨S0, e0⟩ := List.getLast?_eq_some_iff.mp hS
        rw [if_pos (by rw [e0, List.map_append]; simp)]
        have hlast : atI (S.map encS) (-1) = some (encS x) := atI_end (by rw [← List.getLast?_eq_getElem?]; exact hS)
        have e1 : nxC S = x.1 + 1 := by unfold nxC; rw [hS]
        walk_at "w"
        refine v_ixK (xs := S.map encS) rfl hlast ?_
        rw [show encS x = .tup [.int (x.1 : Nat), encO x.2] from rfl]
        walk_at "w"
        rw [e1] at p2
        exact p2
    generalize (eIf (eTest (eBin qNe (eV 5) (eLst false aNil))) (eBin (qAdd false) (eBin qIx (eBin qIx (eV 5) (eNeg (eC (.int 1)))) (eC (.int 0))) (eC (.int 1))) (eC (.int 0))) = E at first ⊢
    walk_at "w"
    refine first _ ?_
    walk_at "w"
    rw [show (((n : Nat) : Int) - ((nxC S : Nat) : Int)).toNat = n - nxC S by omega]
    refine ⟨fun i e => ∃ y7 y8, e = ⟨[some (.int (n : Nat)), some (.lst (os.map encO)), some (.int (m : Nat)), x3, some (.cell p), some (encSl S), some (.cell cs3.length), y7, y8], cs3 ++ [.lst (((List.range i).flatMap fun k => os.map fun o => S ++ [(nxC S + k, o)]).map encSl)]⟩, ⟨_, _, rfl⟩, ?_, ?_⟩
    · rintro i d e1 hi ⟨y7, y8, rfl⟩
      obtain ⟨hi1, rfl⟩ := intsD_get hi
      refine ⟨trivial, _, rfl, ?_⟩
      have hz2 : (((List.range i).flatMap fun k => os.map fun o => S ++ [(nxC S + k, o)])).length ≤ 100 := by
        rw [List.length_flatMap]
        simp only [List.length_map]
        rw [List.map_const', List.sum_replicate_nat, List.length_range]
        have := Nat.mul_le_mul (show i ≤ 12 by omega) hl8
        omega
      walk_at "w"
      refine ⟨⟨_, lk_cell app_get⟩, ?_⟩
      walk_at "w"
      refine v_lcY (e1 := ⟨_, _⟩) os encO (fun o => encSl (S ++ [(nxC S + i, o)])) rfl (by omega) (fun Q' i2 o ho q' => ?_) ?_
      · refine ⟨_, rfl, ?_⟩
        walk_at "w"
        refine v_addL ⟨by rw [List.length_map, List.length_singleton]; omega, ?_⟩
        walk_at "w"
        have e1 : encSl (S ++ [(nxC S + i, o)]) = .lst (S.map encS ++ [.tup [.int (((nxC S : Nat) : Int) + (i : Int)), encO o]]) := by
          unfold encSl
          rw [List.map_append]
          rfl
        rw [← e1]
        exact q'
      · walk_at "w"
        refine ⟨_, _, _, _, rfl, rfl, app_get, rfl, by rw [List.length_map, List.length_map]; omega, ?_⟩
        rw [app_set]
        walk_at "w"
        refine ⟨some (.int (((nxC S : Nat) : Int) + (i : Int))), y8, ?_⟩
        rw [List.range_succ, List.flatMap_append, List.flatMap_singleton, List.map_append (l₂ := os.map _), List.map_map]
        rfl
    · rintro e1 ⟨y7, y8, rfl⟩
      rw [intsD_len]
      refine ⟨trivial, ?_⟩
      walk_at "w"
      refine ⟨⟨_, lk_cell (app_get_lt hp)⟩, ?_⟩
      walk_at "w"
      refine ⟨_, lk_cell app_get, ?_⟩
      walk_at "w"
      have hz3 : ((List.range (n - nxC S)).flatMap fun k => os.map fun o => S ++ [(nxC S + k, o)]).length ≤ 100 := by
        rw [List.length_flatMap]
        simp only [List.length_map]
        rw [List.map_const', List.sum_replicate_nat, List.length_range]
        have := Nat.mul_le_mul (show n - nxC S ≤ 12 by omega) hl8
        omega
      refine ⟨_, _, _, _, rfl, rfl, app_get_lt hp, rfl, by rw [List.length_map, List.length_reverse, List.length_map]; omega, ?_⟩
      rw [← List.map_reverse, ← List.map_append]
      walk_at "w"
      refine h _ _ _ _ ?_ (set_get (app_get_lt hp))
      rw [List.take_set, List.take_append_of_le_length (by omega)]
      exact List.set_eq_of_length_le (by rw [List.length_take]; omega)
  · have hne : S.length = m := by omega
    have eF : fur n os m S = [] := by unfold fur; rw [if_pos hne]
    rw [eF, List.reverse_nil, List.append_nil] at h
    walk_at "w"
    exact h _ _ _ _ rfl hp
theorem pre_len {n m : Nat} {os : List Op} {T : Sl} : ∀ {k : Nat} {S : Sl}, T ∈ pre n os m k S → S.length ≤ T.length
  | 0, S, h => by rw [List.mem_singleton.mp h]; exact Nat.le_refl _
  | k + 1, S, h => by
    rw [pre] at h
    rcases List.mem_cons.mp h with rfl | h
    · exact Nat.le_refl _
    · obtain ⟨T1, h1, h2⟩ := List.mem_flatMap.mp h
      have := pre_len h2
      unfold fur at h1
      split at h1
      · cases h1
      · obtain ⟨i, _, h3⟩ := List.mem_flatMap.mp h1
        obtain ⟨o, _, rfl⟩ := List.mem_map.mp h3
        rw [List.length_append] at this
        omega
/-- the pile's walk: all lists in their order -/
theorem vc_law_ordered : ∀ ds cs Q, Lo ds cs → LoC cs → sp_law_ordered K ds cs Q → t_law_ordered K (Po.fn cs Q) ⟨startD N_law_ordered ds, cs⟩ := by
  rintro ds cs Q hd hc ⟨n, os, m, rfl, hz, hl8, hne, q⟩
  have hn := hz.n12
  have hm1 := hz.m1
  have hm3 := hz.m3
  have hz0 := hz.z
  rw [ordF_eq] at hz0 q
  rw [st_lord]
  unfold t_law_ordered
  walk_at "w"
  have el : (cs ++ [Cel.lst []]).length = cs.length + 1 := by simp
  rw [el]
  have e0 : preM n os m [] = [] :: (fur n os m []).flatMap (preM n os m) := preM_eq (Nat.zero_le _)
  refine ⟨fun k e => ∃ (lists pile : List Sl) (y z w v : Option D) (cs1 : List Cel), (∀ S ∈ pile, S.length ≤ m ∧ nxC S ≤ 12) ∧ k = (pile.reverse.flatMap (preM n os m)).length ∧ lists.length + k ≤ 20001 ∧
    lists ++ (pile.reverse.flatMap (preM n os m)).filter (fun S => !S.isEmpty) = (fur n os m []).flatMap (preM n os m) ∧
    cs1.take cs.length = cs ∧ cs1[cs.length]? = some (.lst (lists.map encSl)) ∧ cs1[cs.length + 1]? = some (.lst (pile.map encSl)) ∧
    e = ⟨[some (.int (n : Nat)), some (.lst (os.map encO)), some (.int (m : Nat)), some (.cell cs.length), some (.cell (cs.length + 1)), y, z, w, v], cs1⟩, ?_, ?_⟩
  · refine ⟨_, [], [[]], none, none, none, none, (cs ++ [.lst []]) ++ [.lst [encSl []]], ?_, rfl, ?_, ?_, by simp, g3b, g3c, rfl⟩
    · intro S hS
      rw [List.mem_singleton.mp hS]
      exact ⟨Nat.zero_le _, by decide⟩
    · rw [List.reverse_singleton, List.flatMap_singleton, e0]
      simp only [List.length_cons, List.length_nil]
      omega
    · rw [List.reverse_singleton, List.flatMap_singleton, e0, List.nil_append, List.filter_cons, if_neg (by simp), List.filter_eq_self]
      intro T hT
      obtain ⟨T1, h1, h2⟩ := List.mem_flatMap.mp hT
      have hl := (fur_len (Nat.zero_le _) h1).1
      have := pre_len h2
      cases T with
      | nil =>
        rw [hl] at this
        exact absurd this (Nat.not_succ_le_zero _)
      | cons _ _ => rfl
  · rintro k e1 ⟨lists, pile, y, z, w, v, cs1, hp, rfl, hsz, heq, ht, hL, hQ, rfl⟩
    have tailW := fun (x3 x6 x7 x8 : Option D) (S : Sl) (P : List Sl) (cs3 : List Cel) (Po' : Po) => @w_ord Po' x3 x6 x7 x8 n m (cs.length + 1) os S P cs3 hn hm3
    generalize (sIf (eTest (eBin qLt (eCB qLen (aCons (eV 5) aNil)) (eV 2))) (sSeq (sAsg (eLst true aNil) 6) (sSeq (sFor (iR2 (aCons (eIf (eTest (eBin qNe (eV 5) (eLst false aNil))) (eBin (qAdd false) (eBin qIx (eBin qIx (eV 5) (eNeg (eC (.int 1)))) (eC (.int 0))) (eC (.int 1))) (eC (.int 0))) (aCons (eV 0) aNil))) (.one 7) (sDrop (eBM qExt (eV 6) (aCons (eLc false (iS (eV 1)) (.one 8) dYes (eBin (qAdd false) (eV 5) (eLst false (aCons (eTup (aCons (eV 7) (aCons (eV 8) aNil))) aNil))) [8]) aNil)))) (sDrop (eBM qExt (eV 4) (aCons (eRev false (eV 6)) aNil))))) sNext) = T at tailW ⊢
    walk_at "w"
    refine v_neE (drf_cell hQ) (sh_SLs pile) ?_
    refine ⟨_, rfl, ?_⟩
    rcases List.eq_nil_or_concat pile with rfl | ⟨P, S, rfl⟩
    · rw [List.map_nil, List.isEmpty_nil, Bool.not_true, if_neg Bool.false_ne_true]
      rw [List.reverse_nil, List.flatMap_nil, List.filter_nil, List.append_nil] at heq
      rw [← heq] at q
      walk_at "w"
      refine .inr (.inr ⟨_, _, rfl, Nat.le_refl _, hL, los_map (fun t => lo_Sl t) lists, fun c h => ?_, .inl ?_⟩)
      · rw [ht] at h
        exact .inl h
      · rw [ht]
        exact q
    rw [List.concat_eq_append] at hp hsz heq hQ ⊢
    obtain ⟨hSm, hnx⟩ := hp S (by simp)
    have ePM := preM_eq (n := n) (os := os) hSm
    have eR : (P ++ [S]).reverse.flatMap (preM n os m) = preM n os m S ++ P.reverse.flatMap (preM n os m) := by rw [List.reverse_append, List.reverse_singleton, List.singleton_append, List.flatMap_cons]
    rw [eR] at hsz heq
    rw [List.length_append, ePM, List.length_cons] at hsz
    rw [ePM] at heq
    have hP : ∀ T ∈ P, T.length ≤ m ∧ nxC T ≤ 12 := fun T hT => hp T (List.mem_append_left _ hT)
    have hPl : P.length ≤ (P.reverse.flatMap (preM n os m)).length := by
      have := flat_len (f := preM n os m) (xs := P.reverse) fun T hT => preM_pos (hP T (List.mem_reverse.mp hT)).1
      rw [List.length_reverse] at this
      exact this
    have hFl := flat_len (f := preM n os m) (xs := fur n os m S) fun T hT => preM_pos (fur_len hSm hT).2
    have hQl := (List.getElem?_eq_some_iff.mp hQ).1
    rw [List.map_append, List.map_singleton] at hQ ⊢
    rw [if_pos (by simp)]
    walk_at "w"
    refine ⟨⟨_, lk_cell hQ⟩, _, _, encSl S, rfl, rfl, hQ, by simp, ?_⟩
    rw [List.dropLast_concat]
    walk_at "w"
    refine v_neE (xs := S.map encS) (n := 3) rfl (sh_SL S) ?_
    refine ⟨_, rfl, ?_⟩
    have eR2 : (P ++ (fur n os m S).reverse).reverse.flatMap (preM n os m) = (fur n os m S).flatMap (preM n os m) ++ P.reverse.flatMap (preM n os m) := by rw [List.reverse_append, List.reverse_reverse, List.flatMap_append]
    have hF12 : ∀ T ∈ P ++ (fur n os m S).reverse, T.length ≤ m ∧ nxC T ≤ 12 := by
      intro T hT
      rcases List.mem_append.mp hT with z | z
      · exact hP T z
      · have z := List.mem_reverse.mp z
        refine ⟨(fur_len hSm z).2, ?_⟩
        unfold fur at z
        split at z
        · cases z
        · obtain ⟨i, hi, h3⟩ := List.mem_flatMap.mp z
          obtain ⟨o, _, rfl⟩ := List.mem_map.mp h3
          rw [nxC_snoc]
          have := List.mem_range.mp hi
          show nxC S + i + 1 ≤ 12
          omega
    have g0 : (cs1.set (cs.length + 1) (.lst (P.map encSl)))[cs.length]? = some (.lst (lists.map encSl)) := set_other hL (by omega)
    have t0 : (cs1.set (cs.length + 1) (.lst (P.map encSl))).take cs.length = cs := by
      rw [List.take_set, ht]
      exact List.set_eq_of_length_le (by omega)
    have fin : ∀ (L2 : List Sl) (cs3 : List Cel), cs3.take cs.length = cs → cs3[cs.length]? = some (.lst (L2.map encSl)) → cs3[cs.length + 1]? = some (.lst (P.map encSl)) → L2 = lists ++ (if S.isEmpty then [] else [S]) → L2.length ≤ lists.length + 1 → T (((Po.fn cs Q).thn (sRet (eV 3))).lp fun e3 => ∃ m', m' < ((P ++ [S]).reverse.flatMap (preM n os m)).length ∧ ∃ (lists pile : List Sl) (y z w v : Option D) (cs1 : List Cel), (∀ S ∈ pile, S.length ≤ m ∧ nxC S ≤ 12) ∧ m' = (pile.reverse.flatMap (preM n os m)).length ∧ lists.length + m' ≤ 20001 ∧
        lists ++ (pile.reverse.flatMap (preM n os m)).filter (fun S => !S.isEmpty) = (fur n os m []).flatMap (preM n os m) ∧
        cs1.take cs.length = cs ∧ cs1[cs.length]? = some (.lst (lists.map encSl)) ∧ cs1[cs.length + 1]? = some (.lst (pile.map encSl)) ∧
        e3 = ⟨[some (.int (n : Nat)), some (.lst (os.map encO)), some (.int (m : Nat)), some (.cell cs.length), some (.cell (cs.length + 1)), y, z, w, v], cs1⟩)
        ⟨[some (.int (n : Nat)), some (.lst (os.map encO)), some (.int (m : Nat)), some (.cell cs.length), some (.cell (cs.length + 1)), some (encSl S), z, w, v], cs3⟩ := by
      intro L2 cs3 h1 h2 h3 h4 h5
      refine tailW _ _ _ _ S P cs3 _ hSm hnx hl8 (by omega) h3 fun y6 y7 y8 cs4 k1 k2 => ?_
      walk_at "w"
      have t4 : cs4.take cs.length = cs := by
        have := congrArg (List.take cs.length) k1
        rw [List.take_take, List.take_take, Nat.min_eq_left (by omega), h1] at this
        exact this
      have g4 : cs4[cs.length]? = some (.lst (L2.map encSl)) := by
        have e1 : (cs4.take (cs.length + 1))[cs.length]? = cs4[cs.length]? := List.getElem?_take_of_lt (by omega)
        have e2 : (cs3.take (cs.length + 1))[cs.length]? = cs3[cs.length]? := List.getElem?_take_of_lt (by omega)
        rw [← e1, k1, e2, h2]
      refine ⟨_, ?_, L2, P ++ (fur n os m S).reverse, _, _, _, _, cs4, hF12, rfl, ?_, ?_, t4, g4, k2, rfl⟩
      · rw [eR, eR2, ePM, List.length_append, List.length_append, List.length_cons]
        omega
      · rw [eR2, List.length_append]
        omega
      · rw [eR2, ← heq, h4, List.cons_append, List.filter_cons]
        cases S with
        | nil => simp
        | cons x S => simp
    cases hSe : S with
    | nil =>
      rw [hSe] at fin
      rw [if_neg (by simp)]
      walk_at "w"
      exact fin lists _ t0 g0 (set_get hQ) (by simp) (by omega)
    | cons x S2 =>
      rw [hSe] at fin
      rw [if_pos (by simp)]
      walk_at "w"
      refine ⟨⟨_, lk_cell g0⟩, ?_⟩
      walk_at "w"
      refine ⟨_, _, _, rfl, rfl, g0, Nat.lt_of_le_of_lt (show _ ≤ 30000 by rw [List.length_map]; omega) (by decide), ?_⟩
      walk_at "w"
      refine fin (lists ++ [x :: S2]) _ ?_ ?_ ?_ (by simp) (by rw [List.length_append, List.length_singleton]; omega)
      · rw [List.take_set, t0]
        exact List.set_eq_of_length_le (by omega)
      · rw [set_get g0, List.map_append]
        rfl
      · exact set_other (set_get hQ) (by omega)
end
section
variable {K : PySem.W.Frag}
def Wos : List Wo := [.forget, .again, .off, .read, .copy, .swap, .out, .twice]
theorem wo_beq (a c : Wo) : (a.s == c.s) = decide (a = c) := by cases a <;> cases c <;> first | rfl | decide +kernel
theorem fst_at {xs : List Dd} {y : Dd} {j : Nat} (h : xs[j]? = some y) (hn : xs.Nodup) : FstAt (xs.map encD) (encD y) j := by
  refine ⟨⟨encD y, by rw [List.getElem?_map, h] <;> rfl, by rw [eqv_D]; exact decide_eq_true rfl⟩, fun m z hm hz => ?_⟩
  rw [List.getElem?_map] at hz
  obtain ⟨t, ht, rfl⟩ := Option.map_eq_some_iff.mp hz
  rw [eqv_D]
  refine decide_eq_false fun e => ?_
  subst e
  obtain ⟨h1, e1⟩ := List.getElem?_eq_some_iff.mp h
  obtain ⟨h2, e2⟩ := List.getElem?_eq_some_iff.mp ht
  have := (List.getElem_inj hn).mp (e1.trans e2.symm)
  omega
theorem sh_Ds (ts : List Dd) : Sh 2 (.lst (ts.map encD)) := .lst (.all fun d hd => by
  obtain ⟨t, _, rfl⟩ := List.mem_map.mp hd
  exact sh_D t)
theorem v_eqE0 {x : D} {xs : List D} {n : Nat} {e : En} {P : D → En → Prop} (hx : drf e.cs x = .lst xs) (hs : Sh n (.lst xs)) (p : P (.bl xs.isEmpty) e) (hn : n ≤ 64 := by decide) : qEq x (.lst []) e P :=
  v_eqP ⟨by cases x <;> rfl, by rw [hx]; exact hs.shp hn, rfl, by rw [hx]; exact eqv_nil xs, p⟩
theorem st_lsome {a b c d : D} : startD N_law_some_deeds [a, b, c, d] = [some a, some b, some c, some d, none, none, none, none, none, none, none] := rfl
theorem len_law_some_deeds : ∀ ds cs Q, sp_law_some_deeds K ds cs Q → ds.length = 4 := by rintro ds cs Q ⟨_, _, _, _, _, rfl, _⟩; rfl
theorem vc_law_some_deeds : ∀ ds cs Q, Lo ds cs → LoC cs → sp_law_some_deeds K ds cs Q → t_law_some_deeds K (Po.fn cs Q) ⟨startD N_law_some_deeds ds, cs⟩ := by
  rintro ds cs Q hd hc ⟨n, a, b, r, m, rfl, hn, b2, b12, r1, r4, m0, m8, q⟩
  have hnd := allD_nd b2 b12 r1 r4
  have hlen8 := allD_len b2 b12 r1 r4
  rw [st_lsome]
  unfold t_law_some_deeds
  walk_at "w"
  refine ⟨b, r, rfl, b2, b12, r1, r4, .inr ?_⟩
  walk_at "w"
  have el : (cs ++ [Cel.lst ((allD b r).map encD)]).length = cs.length + 1 := by simp
  rw [el]
  rw [show [D.str "forget", D.str "again", D.str "off", D.str "read", D.str "copy", D.str "swap", D.str "out", D.str "twice"] = Wos.map (fun a => D.str a.s) from rfl]
  refine ⟨fun i e => ∃ (left ys : List Dd) (cs0 : List Cel) (a' : Int) (x7 x8 x9 x10 : Option D), (left ++ ys).Perm (allD b r) ∧ ys.length = i ∧ cs0.length = cs.length ∧ cs0 = cs.set n (plC a') ∧
    e = ⟨[some (.cell n), some (.int b), some (.int r), some (.int m), some (.cell cs0.length), some (.lst (Wos.map fun a => D.str a.s)), some (.cell (cs0.length + 1)), x7, x8, x9, x10], (cs0 ++ [.lst (left.map encD)]) ++ [.lst (ys.map encD)]⟩, ⟨allD b r, [], cs, a, none, none, none, none, by simp, rfl, rfl, (set_self hn).symm, rfl⟩, ?_, ?_⟩
  · rintro i d e2 hi ⟨left, ys, cs0, a', x7, x8, x9, x10, hp, hl, hl0, he, rfl⟩
    obtain ⟨hi1, rfl⟩ := intsD_get hi
    have hplen := hp.length_eq
    rw [List.length_append] at hplen
    have hd0 : cs0[n]? = some (plC a') := by rw [he]; exact set_get hn
    have hleft : left ≠ [] := by
      rintro rfl
      simp at hplen
      omega
    have hpn := hp.nodup_iff.mpr hnd
    have hln := (List.nodup_append.mp hpn).1
    refine ⟨trivial, _, rfl, ?_⟩
    walk_at "w"
    refine ⟨n, 8, a', rfl, g3a hd0, by decide, by decide, fun w a2 w0 w1 => ?_⟩
    rw [s3a hd0]
    have e1 : (cs0.set n (plC a2)).length = cs0.length := List.length_set ..
    rw [show cs0.set n (plC a2) = cs.set n (plC a2) by rw [he, List.set_set]] at e1 ⊢
    generalize hcs1 : cs.set n (plC a2) = cs1 at e1
    rw [← e1]
    have hd1 : cs1[n]? = some (plC a2) := by rw [← hcs1]; exact set_get hn
    obtain ⟨k, rfl⟩ : ∃ k : Nat, w = (k : Int) := ⟨w.toNat, by omega⟩
    have hk : k < Wos.length := by show k < 8; omega
    refine v_ixK (xs := Wos.map fun a => D.str a.s) rfl (atI_map (List.getElem?_eq_getElem hk)) ?_
    generalize Wos[k] = c
    walk_at "w"
    refine v_lcF (e1 := ⟨_, _⟩) left encD encD (fun t => decide (t.1 = c)) rfl (by omega) (fun Q1 Q2 i2 t ht h1 h2 => ?_) ?_ g3b
    · refine ⟨_, rfl, ?_⟩
      rw [show encD t = .tup (.str t.1.s :: t.2.map .int) from rfl] at h2 ⊢
      walk_at "w"
      refine v_ixTX ⟨_, atI_nat (j := 0) rfl, ?_⟩
      walk_at "w"
      refine v_eqS2 (Wo.lay _) (Wo.lay _) ?_
      rw [wo_beq]
      refine ⟨_, rfl, ?_⟩
      by_cases hh : t.1 = c
      · rw [if_pos (decide_eq_true hh)]
        walk_at "w"
        exact h2 (decide_eq_true hh)
      · rw [if_neg (by rw [decide_eq_false hh]; exact Bool.false_ne_true)]
        exact h1 (decide_eq_false hh)
    · have fin : ∀ G : List Dd, G ≠ [] → G.length ≤ 100 → (∀ t ∈ G, t ∈ left) → (sSeq (sAsg (eBin qIx (eV 9) (eCall (sp_law_draw K) (aCons (eV 0) (aCons (eCB qLen (aCons (eV 9) aNil)) aNil)))) 10) (sSeq (sDrop (eBM qRem (eV 4) (aCons (eV 10) aNil))) (sDrop (eBM qApp (eV 6) (aCons (eV 10) aNil))))) (((Po.fn cs Q).thn (sRet (eV 6))).lp fun e => ∃ (left ys : List Dd) (cs0 : List Cel) (a' : Int) (x7 x8 x9 x10 : Option D), (left ++ ys).Perm (allD b r) ∧ ys.length = i + 1 ∧ cs0.length = cs.length ∧ cs0 = cs.set n (plC a') ∧
          e = ⟨[some (.cell n), some (.int b), some (.int r), some (.int m), some (.cell cs0.length), some (.lst (Wos.map fun a => D.str a.s)), some (.cell (cs0.length + 1)), x7, x8, x9, x10], (cs0 ++ [.lst (left.map encD)]) ++ [.lst (ys.map encD)]⟩)
          ⟨[some (.cell n), some (.int b), some (.int r), some (.int m), some (.cell cs1.length), some (.lst (Wos.map fun a => D.str a.s)), some (.cell (cs1.length + 1)), some (.int (0 + (i : Int))), some (.str c.s), some (.lst (G.map encD)), x10], (cs1 ++ [.lst (left.map encD)]) ++ [.lst (ys.map encD)]⟩ := by
        intro G hG hG1 hGl
        have hGlen : 0 < G.length := List.length_pos_iff.mpr hG
        walk_at "w"
        refine v_lenK (xs := G.map encD) rfl ?_
        rw [List.length_map]
        walk_at "w"
        refine ⟨n, (G.length : Int), a2, rfl, g3a hd1, by omega, by omega, fun w2 a3 w20 w21 => ?_⟩
        rw [s3a hd1]
        have e2 : (cs1.set n (plC a3)).length = cs1.length := List.length_set ..
        rw [show cs1.set n (plC a3) = cs.set n (plC a3) by rw [← hcs1, List.set_set]] at e2 ⊢
        generalize hcs2 : cs.set n (plC a3) = cs2 at e2
        rw [← e2]
        obtain ⟨k2, rfl⟩ : ∃ k : Nat, w2 = (k : Int) := ⟨w2.toNat, by omega⟩
        have hk2 : k2 < G.length := by omega
        have hg : G[k2]? = some G[k2] := List.getElem?_eq_getElem hk2
        generalize G[k2] = y at hg
        obtain ⟨j, hj⟩ := List.mem_iff_getElem?.mp (hGl y (List.mem_of_getElem? hg))
        refine v_ixK (xs := G.map encD) rfl (atI_map hg) ?_
        walk_at "w"
        refine ⟨⟨_, lk_cell g3b⟩, ?_⟩
        walk_at "w"
        refine ⟨_, _, encD y, j, rfl, rfl, g3b, (sh_Ds left).shp, (sh_D y).shp, fst_at hj hln, ?_⟩
        rw [s3b]
        walk_at "w"
        refine ⟨⟨_, lk_cell g3c⟩, ?_⟩
        walk_at "w"
        refine ⟨_, _, _, rfl, rfl, g3c, Nat.lt_of_le_of_lt (show _ ≤ 1000 by rw [List.length_map]; omega) (by decide), ?_⟩
        rw [s3c]
        walk_at "w"
        refine ⟨left.eraseIdx j, ys ++ [y], cs2, a3, some (.int (0 + (i : Int))), some (.str c.s), some (.lst (G.map encD)), some (encD y), perm_move hp hj, by simp [hl], by omega, hcs2.symm, ?_⟩
        rw [List.map_append, ← map_erase]
        rfl
      generalize (sSeq (sAsg (eBin qIx (eV 9) (eCall (sp_law_draw K) (aCons (eV 0) (aCons (eCB qLen (aCons (eV 9) aNil)) aNil)))) 10) (sSeq (sDrop (eBM qRem (eV 4) (aCons (eV 10) aNil))) (sDrop (eBM qApp (eV 6) (aCons (eV 10) aNil))))) = T at fin ⊢
      walk_at "w"
      refine v_eqE0 (xs := (left.filter fun t => decide (t.1 = c)).map encD) rfl (sh_Ds _) ?_
      refine ⟨_, rfl, ?_⟩
      by_cases hF : (left.filter fun t => decide (t.1 = c)) = []
      · rw [hF]
        rw [if_pos (show (([] : List Dd).map encD).isEmpty = true from rfl)]
        walk_at "w"
        refine v_listL (xs := left.map encD) (by show lk _ (.cell _) = _; exact lk_cell g3b) ?_
        walk_at "w"
        exact fin left hleft (by omega) (fun _ h => h)
      · rw [if_neg (by simpa using hF)]
        walk_at "w"
        exact fin _ hF (Nat.le_trans (List.length_filter_le _ _) (by omega)) (fun t ht => (List.mem_filter.mp ht).1)
  · rintro e2 ⟨left, ys, cs0, a', x7, x8, x9, x10, hp, hl, hl0, he, rfl⟩
    rw [intsD_len] at hl
    refine ⟨trivial, ?_⟩
    walk_at "w"
    have et : ((cs0 ++ [Cel.lst (left.map encD)]) ++ [Cel.lst (ys.map encD)]).take cs.length = cs0 := by rw [← hl0]; simp
    have hnp := hp.nodup_iff.mpr hnd
    refine .inr (.inr ⟨_, _, rfl, by omega, g3c, los_D ys, fun c h => ?_, .inl ?_⟩)
    · have h : c ∈ ((cs0 ++ [Cel.lst (left.map encD)]) ++ [Cel.lst (ys.map encD)]).take cs.length := h
      rw [et, he] at h
      exact set_lo rfl c h
    · show Q _ (((cs0 ++ [Cel.lst (left.map encD)]) ++ [Cel.lst (ys.map encD)]).take cs.length)
      rw [et, he]
      exact q ys a' (List.nodup_append.mp hnp).2.1 (fun t ht => hp.mem_iff.mp (List.mem_append_right _ ht)) (by omega)
end
section
variable {K : PySem.W.Frag}
theorem st_lsheet {a b c : D} : startD N_law_sheet [a, b, c] = [some a, some b, some c, none, none, none, none, none, none] := rfl
theorem len_law_sheet : ∀ ds cs Q, sp_law_sheet K ds cs Q → ds.length = 3 := by rintro ds cs Q ⟨_, _, _, _, rfl, _⟩; rfl
theorem fig_at {b : Int} (b2 : 2 ≤ b) {w : Int} (w0 : 0 ≤ w) (w1 : w < 3) : ∃ f : Int, atI [D.int b, D.int b, D.int 2] w = some (.int f) ∧ 2 ≤ f ∧ f ≤ b := by
  have h : w = 0 ∨ w = 1 ∨ w = 2 := by omega
  rcases h with rfl | rfl | rfl
  · exact ⟨b, rfl, b2, Int.le_refl _⟩
  · exact ⟨b, rfl, b2, Int.le_refl _⟩
  · exact ⟨2, rfl, by decide, b2⟩
theorem vc_law_sheet : ∀ ds cs Q, Lo ds cs → LoC cs → sp_law_sheet K ds cs Q → t_law_sheet K (Po.fn cs Q) ⟨startD N_law_sheet ds, cs⟩ := by
  rintro ds cs Q hd hc ⟨n, a, mc, lc, rfl, hn, l0, l1, l2, q⟩
  rw [st_lsheet]
  unfold t_law_sheet
  walk_at "w"
  refine ⟨n, 11, a, rfl, hn, by decide, by decide, fun w a1 w0 w1 => ?_⟩
  walk_at "w"
  refine ⟨n, 4, a1, rfl, set_get hn, by decide, by decide, fun w2 a2 w20 w21 => ?_⟩
  rw [List.set_set]
  walk_at "w"
  obtain ⟨b, hb⟩ : ∃ b : Int, b = 2 + w := ⟨_, rfl⟩
  rw [← hb]
  have b2 : 2 ≤ b := by omega
  have b12 : b ≤ 12 := by omega
  refine ⟨fun k e => ∃ r : Int, 1 ≤ r ∧ r ≤ 4 ∧ k = r.toNat ∧ e = ⟨[some (.cell n), some (.int mc), some (.int lc), some (.int b), some (.int r), none, none, none, none], cs.set n (plC a2)⟩, ⟨_, 1 + w2, by omega, by omega, rfl, rfl⟩, ?_⟩
  rintro k e1 ⟨r, r1, r4, rfl, rfl⟩
  walk_at "w"
  refine ⟨b, r, rfl, b2, b12, by omega, by omega, ?_⟩
  walk_at "w"
  refine v_itd (fun h => ?_) (fun h => ?_)
  · walk_at "w"
    have hr : r ≠ 1 := by
      rintro rfl
      have : b ^ (1 : Int).toNat = b := Int.pow_succ b 0 |>.trans (by simp)
      omega
    exact ⟨_, by omega, r - 1, by omega, by omega, rfl, rfl⟩
  walk_at "w"
  have gn : Gn b r := ⟨b2, b12, r1, r4, by omega⟩
  refine ⟨n, 3, a2, rfl, set_get hn, by decide, by decide, fun w3 a3 w30 w31 => ?_⟩
  rw [List.set_set]
  obtain ⟨f, hf, f2, fb⟩ := fig_at b2 w30 w31
  refine v_ixK (xs := [D.int b, D.int b, D.int 2]) rfl hf ?_
  walk_at "w"
  have hn3 : (cs.set n (plC a3))[n]? = some (plC a3) := set_get hn
  refine ⟨n, mc + 1 - lc, a3, rfl, app_get_lt hn3, by omega, by omega, fun w4 a4 w40 w41 => ?_⟩
  have hln := (List.getElem?_eq_some_iff.mp hn).1
  rw [set_app_lt hn3, List.set_set, show (cs.set n (plC a3)).length = (cs.set n (plC a4)).length by rw [List.length_set, List.length_set]]
  generalize hcs4 : cs.set n (plC a4) = cs4
  have hl4 : cs4.length = cs.length := by rw [← hcs4, List.length_set]
  walk_at "w"
  refine ⟨fun i e => ∃ (cols : List (List Int)) (a' : Int) (cs0 : List Cel) (x7 x8 : Option D), cols.length = i ∧ (∀ c ∈ cols, okC b r c = true) ∧ cs0 = cs.set n (plC a') ∧ cs0.length = cs.length ∧
    e = ⟨[some (.cell n), some (.int mc), some (.int lc), some (.int b), some (.int r), some (.int f), some (.cell cs.length), x7, x8], cs0 ++ [.lst (cols.map encC)]⟩, ⟨[], a4, cs4, none, none, rfl, (fun _ z => nomatch z), hcs4.symm, hl4, by rw [hl4]; rfl⟩, ?_, ?_⟩
  · rintro i d e1 hi ⟨cols, a', cs0, x7, x8, hcl, hok, hcs0, hl0, rfl⟩
    obtain ⟨hi1, rfl⟩ := intsD_get hi
    have h0 : cs0[n]? = some (plC a') := by rw [hcs0]; exact set_get hn
    refine ⟨trivial, _, rfl, ?_⟩
    walk_at "w"
    refine ⟨⟨_, lk_cell (by rw [← hl0]; exact app_get)⟩, ?_⟩
    walk_at "w"
    refine ⟨sz_le (by rw [intsD_len]; omega), fun i2 acc cs' => ∃ (c : List Int) (a2 : Int), acc = c.map .int ∧ c.length = i2 ∧ (∀ y ∈ c, 0 ≤ y ∧ y < b) ∧ cs' = cs0.set n (plC a2) ++ [.lst (cols.map encC)], ⟨[], a', rfl, rfl, (fun _ z => nomatch z), by rw [set_self h0]⟩, ?_, ?_⟩
    · rintro i2 d acc cs' hi2 ⟨c, a2, rfl, hc2, hcb, rfl⟩
      refine ⟨trivial, _, rfl, ?_⟩
      unfold dYes
      walk_at "w"
      refine ⟨n, f, a2, rfl, app_get_lt (set_get h0), by omega, by omega, fun y a5 y0 y1 => ?_⟩
      rw [set_app_lt (set_get h0), List.set_set]
      walk_at "w"
      refine ⟨c ++ [b - 1 - y], a5, by simp, by simp [hc2], ?_, rfl⟩
      intro z hz
      rcases List.mem_append.mp hz with h | h
      · exact hcb z h
      · rw [List.mem_singleton.mp h]
        omega
    · rintro acc cs' hz ⟨c, a2, rfl, hc2, hcb, rfl⟩
      rw [intsD_len] at hc2
      refine ⟨trivial, ?_⟩
      walk_at "w"
      refine v_tupK rfl ?_
      walk_at "w"
      have hx : (cs0.set n (plC a2)).length = cs.length := by rw [List.length_set, hl0]
      refine ⟨_, _, _, rfl, rfl, by rw [← hx]; exact app_get, Nat.lt_of_le_of_lt (show _ ≤ 1000 by rw [List.length_map]; omega) (by decide), ?_⟩
      rw [show (cs0.set n (plC a2) ++ [Cel.lst (cols.map encC)]).set cs.length (.lst (cols.map encC ++ [D.tup (c.map .int)])) = cs0.set n (plC a2) ++ [.lst ((cols ++ [c]).map encC)] by rw [← hx, app_set, List.map_append]; rfl]
      walk_at "w"
      refine ⟨cols ++ [c], a2, cs0.set n (plC a2), some (.int (0 + (i : Int))), x8, by simp [hcl], ?_, by rw [hcs0, List.set_set], hx, rfl⟩
      intro z hz2
      rcases List.mem_append.mp hz2 with h | h
      · exact hok z h
      · rw [List.mem_singleton.mp h]
        exact okC_of (by omega) hcb
  · rintro e1 ⟨cols, a', cs0, x7, x8, hcl, hok, hcs0, hl0, rfl⟩
    rw [intsD_len] at hcl
    refine ⟨trivial, ?_⟩
    walk_at "w"
    refine ⟨.tup [.int b, .int r, .lst (cols.map encC)], _, Fzs.one (n := cs.length) (xs := cols.map encC) (by rw [← hl0]; exact app_get) (by
      have e : subC cs.length (cols.map encC) (.tup [.int b, .int r, .cell cs.length]) = .tup [.int b, .int r, .lst (cols.map encC)] := by simp [subC, subCs]
      rw [e]
      exact .nil), ?_⟩
    have et : ((cs0 ++ [Cel.lst (cols.map encC)]).set cs.length .dead).take cs.length = cs0 := by
      rw [← hl0, app_set, List.take_left]
    have gd : Gd b r cols := ⟨b2, b12, r1, r4, hok, by omega⟩
    refine .inr (.inl ⟨?_, fun c h => ?_, ?_⟩)
    · show (true && (true && (los _ (cols.map encC) && true))) = true
      rw [los_encC]
      rfl
    · rw [et, hcs0] at h
      exact set_lo rfl c h
    · rw [et, hcs0]
      exact q _ _ _ _ gd gn (by omega) (by omega)
end
section
variable {K : PySem.W.Frag}
theorem opW_eqv (a c : Op) : PyData.eqv (.str (opW a)) (.str (opW c)) = decide (opW a = opW c) := by cases a <;> cases c <;> first | rfl | decide +kernel
theorem op_ext (a c : Op) : a = c ↔ opW a = opW c ∧ opN a = opN c := by
  constructor
  · rintro rfl
    exact ⟨rfl, rfl⟩
  · rintro ⟨h1, h2⟩
    cases a <;> cases c <;> first | rfl | (exfalso; dsimp only [opW] at h1; revert h1; decide +kernel) | (simp [opN] at h2; simp [h2]; done) | (simp [opN] at h2; simp [h2]; omega)
theorem eqv_O (a c : Op) : PyData.eqv (toP (encO a)) (toP (encO c)) = decide (a = c) := by
  rw [encO_eq, encO_eq]
  show (PyData.eqv (.str (opW a)) (.str (opW c)) && PyData.eqvAll (toPs ((opN a).map .int)) (toPs ((opN c).map .int))) = _
  rw [opW_eqv, encI.eqvs, ← Bool.decide_and]
  exact decide_eq_decide.mpr (op_ext a c).symm
theorem encOE : EqE encO 1 := ⟨fun t => (sh_O t).ok, fun t => (sh_O t).lay, fun t => (sh_O t).dep, eqv_O⟩
theorem v_ninE {α : Type} [DecidableEq α] {enc : α → D} {n : Nat} (h : EqE enc n) {a : α} {xs : List α} {e : En} {P : D → En → Prop} {x y : D} (hx : drf e.cs x = enc a) (hy : drf e.cs y = .lst (xs.map enc)) (p : P (.bl (!isIn a xs)) e) (hn : n + 1 ≤ 64 := by decide) : qIn true x y e P := by
  refine .inr ⟨_, hy, ?_, h.lst.shp hn xs, ?_⟩
  · rw [hx]
    exact h.shp (by omega) a
  · rw [hx, any_mem h]
    exact p
theorem eqv_S (x y : Nat × Op) : PyData.eqv (toP (encS x)) (toP (encS y)) = decide (x = y) := by
  obtain ⟨a, o⟩ := x
  obtain ⟨c, p⟩ := y
  show (decide ((a : Int) = (c : Int)) && (PyData.eqv (toP (encO o)) (toP (encO p)) && true)) = _
  rw [eqv_O, Bool.and_true, ← Bool.decide_and]
  exact decide_eq_decide.mpr ⟨fun h => by rw [show a = c by omega, h.2], fun h => by cases h; exact ⟨rfl, rfl⟩⟩
theorem encSE : EqE encS 2 := ⟨fun t => (sh_S t).ok, fun t => (sh_S t).lay, fun t => (sh_S t).dep, eqv_S⟩
theorem encSlE : EqE encSl 3 := encSE.lst
theorem sh_oT (x : Option (List Int × Int)) : Sh 2 (outT x) := by
  cases x with
  | none => exact Sh.non.mono (Nat.zero_le _)
  | some x => exact .tup (.cons (.lst (shs_int 0 _)) (.cons ((Sh.int _).mono (Nat.zero_le _)) .nil))
theorem eqv_oT (x y : Option (List Int × Int)) : PyData.eqv (toP (outT x)) (toP (outT y)) = decide (x = y) := by
  cases x with
  | none =>
    cases y with
    | none => rfl
    | some y => rfl
  | some x =>
    cases y with
    | none => rfl
    | some y =>
      obtain ⟨a, k⟩ := x
      obtain ⟨c, l⟩ := y
      show (PyData.eqvAll (toPs (a.map .int)) (toPs (c.map .int)) && (decide (k = l) && true)) = _
      rw [encI.eqvs, Bool.and_true, ← Bool.decide_and]
      exact decide_eq_decide.mpr ⟨fun h => by rw [h.1, h.2], fun h => by cases h; exact ⟨rfl, rfl⟩⟩
theorem encTE' : EqE outT 2 := ⟨fun t => (sh_oT t).ok, fun t => (sh_oT t).lay, fun t => (sh_oT t).dep, eqv_oT⟩
end
section
/-! all lists are different -/
/-- pairwise of blocks -/
theorem pw_flat {α β : Type} {R : β → β → Prop} {f : α → List β} : ∀ {xs : List α}, (∀ x ∈ xs, (f x).Pairwise R) → xs.Pairwise (fun x y => ∀ a ∈ f x, ∀ b ∈ f y, R a b) → (xs.flatMap f).Pairwise R
  | [], _, _ => .nil
  | x :: xs, h1, h2 => by
    obtain ⟨h3, h4⟩ := List.pairwise_cons.mp h2
    rw [List.flatMap_cons]
    refine List.pairwise_append.mpr ⟨h1 x List.mem_cons_self, pw_flat (fun y hy => h1 y (List.mem_cons_of_mem _ hy)) h4, fun a ha b hb => ?_⟩
    obtain ⟨y, hy, hb⟩ := List.mem_flatMap.mp hb
    exact h3 y hy a ha b hb
theorem pre_ext {n m : Nat} {os : List Op} {T : Sl} : ∀ {k : Nat} {S : Sl}, T ∈ pre n os m k S → ∃ U, T = S ++ U
  | 0, S, h => ⟨[], by rw [List.mem_singleton.mp h, List.append_nil]⟩
  | k + 1, S, h => by
    rw [pre] at h
    rcases List.mem_cons.mp h with rfl | h
    · exact ⟨[], by simp⟩
    · obtain ⟨T1, h1, h2⟩ := List.mem_flatMap.mp h
      obtain ⟨U, rfl⟩ := pre_ext h2
      unfold fur at h1
      split at h1
      · cases h1
      · obtain ⟨i, _, h3⟩ := List.mem_flatMap.mp h1
        obtain ⟨o, _, rfl⟩ := List.mem_map.mp h3
        exact ⟨[(nxC S + i, o)] ++ U, by simp⟩
/-- the lists with one slip more come in their order -/
theorem fur_pw {n m : Nat} {os : List Op} (hnd : os.Nodup) (S : Sl) : (fur n os m S).Pairwise (fun T1 T2 => ∃ x y, T1 = S ++ [x] ∧ T2 = S ++ [y] ∧ (x.1 < y.1 ∨ (x.1 = y.1 ∧ os.idxOf x.2 < os.idxOf y.2))) := by
  unfold fur
  split
  · exact .nil
  · refine pw_flat (fun i _ => ?_) ?_
    · rw [List.pairwise_map, List.pairwise_iff_getElem]
      intro p q hp hq hpq
      refine ⟨_, _, rfl, rfl, .inr ⟨rfl, ?_⟩⟩
      show os.idxOf os[p] < os.idxOf os[q]
      rw [hnd.idxOf_getElem p hp, hnd.idxOf_getElem q hq]
      exact hpq
    · refine List.Pairwise.imp ?_ (List.pairwise_lt_range)
      intro i j hij a ha b hb
      obtain ⟨o, _, rfl⟩ := List.mem_map.mp ha
      obtain ⟨o2, _, rfl⟩ := List.mem_map.mp hb
      exact ⟨_, _, rfl, rfl, .inl (by show nxC S + i < nxC S + j; omega)⟩
theorem sib_ne {S U V : Sl} {x y : Nat × Op} (h : x ≠ y) : S ++ [x] ++ U ≠ S ++ [y] ++ V := by
  intro e
  rw [List.append_assoc, List.append_assoc] at e
  have := List.append_cancel_left e
  exact h (List.cons.inj this).1
theorem blocks_nd {n m k : Nat} {os : List Op} (hnd : os.Nodup) (S : Sl) (ih : ∀ T ∈ fur n os m S, (pre n os m k T).Nodup) : ((fur n os m S).flatMap (pre n os m k)).Nodup := by
  refine pw_flat ih (List.Pairwise.imp ?_ (fur_pw hnd S))
  rintro T1 T2 ⟨x, y, rfl, rfl, h⟩ a ha b hb
  obtain ⟨U, rfl⟩ := pre_ext ha
  obtain ⟨V, rfl⟩ := pre_ext hb
  refine sib_ne ?_
  rintro rfl
  omega
theorem pre_nd {n m : Nat} {os : List Op} (hnd : os.Nodup) : ∀ (k : Nat) (S : Sl), (pre n os m k S).Nodup
  | 0, _ => List.nodup_cons.mpr ⟨fun h => (nomatch h), .nil⟩
  | k + 1, S => by
    rw [pre]
    refine List.nodup_cons.mpr ⟨fun hS => ?_, blocks_nd hnd S fun T _ => pre_nd hnd k T⟩
    obtain ⟨T1, h1, h2⟩ := List.mem_flatMap.mp hS
    obtain ⟨U, e⟩ := pre_ext h2
    unfold fur at h1
    split at h1
    · cases h1
    · obtain ⟨i, _, h3⟩ := List.mem_flatMap.mp h1
      obtain ⟨o, _, rfl⟩ := List.mem_map.mp h3
      have := congrArg List.length e
      simp at this
theorem ordF_nd {n m : Nat} {os : List Op} (hnd : os.Nodup) : (ordF n os m).Nodup := blocks_nd hnd [] fun T _ => pre_nd hnd m T
end
section
/-! sizes, and what is told -/
theorem flat_le {α β : Type} {f : α → List β} {c : Nat} : ∀ {xs : List α}, (∀ x ∈ xs, (f x).length ≤ c) → (xs.flatMap f).length ≤ xs.length * c
  | [], _ => by simp
  | x :: xs, h => by
    have h1 := h x List.mem_cons_self
    have h2 := flat_le (xs := xs) fun y hy => h y (List.mem_cons_of_mem _ hy)
    rw [List.flatMap_cons, List.length_append, List.length_cons, Nat.succ_mul]
    omega
theorem fur_le {n m : Nat} {os : List Op} (hn : n ≤ 12) (hl : os.length ≤ 8) (S : Sl) : (fur n os m S).length ≤ 96 := by
  unfold fur
  split
  · exact Nat.zero_le _
  · refine Nat.le_trans (flat_le (c := 8) fun i _ => by rw [List.length_map]; exact hl) ?_
    rw [List.length_range]
    omega
theorem preM_le {n m : Nat} {os : List Op} (hn : n ≤ 12) (hl : os.length ≤ 8) (hm : m ≤ 2) {S : Sl} (h1 : 1 ≤ S.length) (h2 : S.length ≤ m) : (preM n os m S).length ≤ 97 := by
  rw [preM_eq h2, List.length_cons]
  have h3 : ((fur n os m S).flatMap (preM n os m)).length ≤ (fur n os m S).length * 1 := flat_le fun T hT => by
    have := fur_len h2 hT
    unfold preM
    rw [pre_full (by omega)]
    exact Nat.le_refl _
  have := fur_le (m := m) hn hl S
  omega
theorem gz_of {n m : Nat} {os : List Op} (hn : n ≤ 12) (hl : os.length ≤ 8) (h1 : 1 ≤ m) (hm : m ≤ 2) : Gz n os m := by
  refine ⟨hn, h1, by omega, ?_⟩
  rw [ordF_eq]
  refine Nat.le_trans (flat_le (c := 97) fun T hT => ?_) ?_
  · have := fur_len (Nat.zero_le _) hT
    exact preM_le hn hl hm (by omega) this.2
  · have := fur_le (m := m) hn hl []
    have := Nat.mul_le_mul_right 97 this
    omega
theorem toO_inj {b r : Int} {s t : Dd} (hs : s ∈ allD b r) (ht : t ∈ allD b r) (h : toO s = toO t) : s = t := by
  have e1 := (toO_enc hs).1
  have e2 := (toO_enc ht).1
  have e3 : encD s = encD t := by rw [← e1, ← e2, h]
  have e4 := eqv_D s t
  rw [e3, eqv_D] at e4
  exact of_decide_eq_true (e4.symm.trans (decide_eq_true rfl))
theorem toO_nd {b r : Int} : ∀ {es : List Dd}, (∀ t ∈ es, t ∈ allD b r) → es.Nodup → (es.map toO).Nodup
  | [], _, _ => .nil
  | x :: es, h, hn => by
    obtain ⟨h1, h2⟩ := List.nodup_cons.mp hn
    refine List.nodup_cons.mpr ⟨fun hm => ?_, toO_nd (fun t ht => h t (List.mem_cons_of_mem _ ht)) h2⟩
    obtain ⟨y, hy, e⟩ := List.mem_map.mp hm
    have := toO_inj (h y (List.mem_cons_of_mem _ hy)) (h x List.mem_cons_self) e
    subst this
    exact h1 hy
theorem allF_out {b r : Int} {cols : List (List Int)} {os : List Op} {m : Nat} {t : Sl × (List Int × Int)} (h : t ∈ allF b r cols os m) : t.1 ∈ ordF cols.length os m ∧ outF b r cols t.1 = some t.2 := by
  unfold allF at h
  obtain ⟨S, hS, e⟩ := List.mem_filterMap.mp h
  obtain ⟨x, hx, rfl⟩ := Option.map_eq_some_iff.mp e
  exact ⟨hS, hx⟩
theorem allF_count {b r : Int} {cols : List (List Int)} {os : List Op} {m : Nat} : (allF b r cols os m).length = ((ordF cols.length os m).filter fun S => (outF b r cols S).isSome).length := by
  unfold allF
  induction ordF cols.length os m with
  | nil => rfl
  | cons S Ss ih =>
    rw [List.filterMap_cons, List.filter_cons]
    cases h : outF b r cols S with
    | none => simpa using ih
    | some x => simpa using ih
end
section
variable {K : PySem.W.Frag}
theorem v_isi2 {d : D} {T U a : String} {e : En} {P : D → En → Prop} (h1 : tyKnown T = true) (h2 : tyKnown U = true) (h : tyN e.cs d = some a) (p : P (.bl (isTy a T || isTy a U)) e) : qIsi2 [d, .tup [.raw (.ty T), .raw (.ty U)]] e P := ⟨h1, h2, a, h, p⟩
theorem st_al0 {a b : D} : startD N_law_alike_0 [a, b] = [some a, some b, none] := rfl
theorem len_law_alike_0 : ∀ ds cs Q, sp_law_alike_0 K ds cs Q → ds.length = 2 := by rintro ds cs Q ⟨_, _, rfl, _⟩; rfl
theorem vc_law_alike_0 : ∀ ds cs Q, Lo ds cs → LoC cs → sp_law_alike_0 K ds cs Q → t_law_alike_0 K (Po.fn cs Q) ⟨startD N_law_alike_0 ds, cs⟩ := by
  rintro ds cs Q hd hc ⟨d, d2, rfl, h, q⟩
  clear hd
  rw [st_al0]
  unfold t_law_alike_0
  obtain ⟨rfl, rfl | ⟨b, rfl⟩ | ⟨i, rfl⟩ | ⟨s, rfl, hs⟩⟩ := h
  · walk_at "w"
    refine v_isi2 (a := "NoneType") (by decide) (by decide) rfl ?_
    rw [show (isTy "NoneType" "list" || isTy "NoneType" "tuple") = false by decide]
    walk_at "w"
    exact .inl q
  · walk_at "w"
    refine v_isi2 (a := "bool") (by decide) (by decide) rfl ?_
    rw [show (isTy "bool" "list" || isTy "bool" "tuple") = false by decide]
    walk_at "w"
    refine v_eqE encB (a := b) (b := b) rfl rfl ?_
    rw [decide_eq_true rfl]
    walk_at "w"
    exact .inl q
  · walk_at "w"
    refine v_isi2 (a := "int") (by decide) (by decide) rfl ?_
    rw [show (isTy "int" "list" || isTy "int" "tuple") = false by decide]
    walk_at "w"
    rw [decide_eq_true rfl]
    exact .inl q
  · walk_at "w"
    refine v_isi2 (a := "str") (by decide) (by decide) rfl ?_
    rw [show (isTy "str" "list" || isTy "str" "tuple") = false by decide]
    walk_at "w"
    refine v_eqS (n := 0) rfl rfl (Sh.str hs) ?_
    walk_at "w"
    exact .inl q
theorem st_al1 {a b : D} : startD N_law_alike_1 [a, b] = [some a, some b, none] := rfl
theorem len_law_alike_1 : ∀ ds cs Q, sp_law_alike_1 K ds cs Q → ds.length = 2 := by rintro ds cs Q ⟨_, _, rfl, _⟩; rfl
theorem vc_law_alike_1 : ∀ ds cs Q, Lo ds cs → LoC cs → sp_law_alike_1 K ds cs Q → t_law_alike_1 K (Po.fn cs Q) ⟨startD N_law_alike_1 ds, cs⟩ := by
  rintro ds cs Q hd hc ⟨d, d2, rfl, h, q⟩
  clear hd
  rw [st_al1]
  unfold t_law_alike_1
  rcases h with ⟨rfl, rfl | ⟨b, rfl⟩ | ⟨i, rfl⟩ | ⟨s, rfl, hs⟩⟩ | ⟨xs, rfl, rfl, hz, hx⟩ | ⟨xs, h1, h2, hf1, hf2, hz, hx⟩
  · walk_at "w"
    refine v_isi2 (a := "NoneType") (by decide) (by decide) rfl ?_
    rw [show (isTy "NoneType" "list" || isTy "NoneType" "tuple") = false by decide]
    walk_at "w"
    exact .inl q
  · walk_at "w"
    refine v_isi2 (a := "bool") (by decide) (by decide) rfl ?_
    rw [show (isTy "bool" "list" || isTy "bool" "tuple") = false by decide]
    walk_at "w"
    refine v_eqE encB (a := b) (b := b) rfl rfl ?_
    rw [decide_eq_true rfl]
    walk_at "w"
    exact .inl q
  · walk_at "w"
    refine v_isi2 (a := "int") (by decide) (by decide) rfl ?_
    rw [show (isTy "int" "list" || isTy "int" "tuple") = false by decide]
    walk_at "w"
    rw [decide_eq_true rfl]
    exact .inl q
  · walk_at "w"
    refine v_isi2 (a := "str") (by decide) (by decide) rfl ?_
    rw [show (isTy "str" "list" || isTy "str" "tuple") = false by decide]
    walk_at "w"
    refine v_eqS (n := 0) rfl rfl (Sh.str hs) ?_
    walk_at "w"
    exact .inl q
  · walk_at "w"
    refine v_isi2 (a := "tuple") (by decide) (by decide) rfl ?_
    rw [show (isTy "tuple" "list" || isTy "tuple" "tuple") = true by decide]
    walk_at "w"
    refine v_lenL (e := ⟨_, _⟩) (xs := xs) rfl (fun _ z => nomatch z) ?_
    walk_at "w"
    refine v_lenL (e := ⟨_, _⟩) (xs := xs) rfl (fun _ z => nomatch z) ?_
    walk_at "w"
    rw [decide_eq_true rfl]
    walk_at "w"
    refine v_lenL (e := ⟨_, _⟩) (xs := xs) rfl (fun _ z => nomatch z) ?_
    walk_at "w"
    refine ⟨_, rfl, by omega, by omega, fun i e => ∃ x2, e = ⟨[some (D.tup xs), some (D.tup xs), x2], cs⟩, ⟨_, rfl⟩, ?_, ?_⟩
    · rintro i y e2 hi ⟨x2, rfl⟩
      obtain ⟨hi1, rfl⟩ := intsD_get hi
      have hi3 : i < xs.length := by omega
      have hg : atI xs ((i : Nat) : Int) = some xs[i] := atI_nat (List.getElem?_eq_getElem hi3)
      refine ⟨trivial, _, rfl, ?_⟩
      rw [Int.zero_add]
      walk_at "w"
      refine v_ixTX ⟨_, hg, ?_⟩
      walk_at "w"
      refine v_ixTX ⟨_, hg, ?_⟩
      walk_at "w"
      refine ⟨_, _, rfl, hx _ (List.getElem_mem hi3), ?_⟩
      walk_at "w"
      exact ⟨_, rfl⟩
    · rintro e2 ⟨x2, rfl⟩
      refine ⟨trivial, ?_⟩
      walk_at "w"
      exact .inl q
  · walk_at "w"
    refine v_isi2 (a := "list") (by decide) (by decide) (ty_lk h2 hf2) ?_
    rw [show (isTy "list" "list" || isTy "list" "tuple") = true by decide]
    walk_at "w"
    refine v_isi (c := "list") (by decide) (ty_lk h1 hf1) ?_
    walk_at "w"
    refine v_isi (c := "list") (by decide) (ty_lk h2 hf2) ?_
    rw [show isTy "list" "list" = true by decide]
    walk_at "w"
    refine v_isi (c := "list") (by decide) (ty_lk h1 hf1) ?_
    walk_at "w"
    refine v_isi (c := "list") (by decide) (ty_lk h2 hf2) ?_
    rw [show isTy "list" "tuple" = false by decide]
    walk_at "w"
    refine v_lenK (xs := xs) h1 ?_
    walk_at "w"
    refine v_lenK (xs := xs) h2 ?_
    walk_at "w"
    rw [decide_eq_true rfl]
    walk_at "w"
    refine v_lenK (xs := xs) h2 ?_
    walk_at "w"
    refine ⟨_, rfl, by omega, by omega, fun i e => ∃ x2, e = ⟨[some (d), some (d2), x2], cs⟩, ⟨_, rfl⟩, ?_, ?_⟩
    · rintro i y e2 hi ⟨x2, rfl⟩
      obtain ⟨hi1, rfl⟩ := intsD_get hi
      have hi3 : i < xs.length := by omega
      have hg : atI xs ((i : Nat) : Int) = some xs[i] := atI_nat (List.getElem?_eq_getElem hi3)
      refine ⟨trivial, _, rfl, ?_⟩
      rw [Int.zero_add]
      walk_at "w"
      refine v_ixK h1 hg ?_
      walk_at "w"
      refine v_ixK h2 hg ?_
      walk_at "w"
      refine ⟨_, _, rfl, hx _ (List.getElem_mem hi3), ?_⟩
      walk_at "w"
      exact ⟨_, rfl⟩
    · rintro e2 ⟨x2, rfl⟩
      refine ⟨trivial, ?_⟩
      walk_at "w"
      exact .inl q
theorem st_al2 {a b : D} : startD N_law_alike_2 [a, b] = [some a, some b, none] := rfl
theorem len_law_alike_2 : ∀ ds cs Q, sp_law_alike_2 K ds cs Q → ds.length = 2 := by rintro ds cs Q ⟨_, _, rfl, _⟩; rfl
theorem vc_law_alike_2 : ∀ ds cs Q, Lo ds cs → LoC cs → sp_law_alike_2 K ds cs Q → t_law_alike_2 K (Po.fn cs Q) ⟨startD N_law_alike_2 ds, cs⟩ := by
  rintro ds cs Q hd hc ⟨d, d2, rfl, h, q⟩
  clear hd
  rw [st_al2]
  unfold t_law_alike_2
  rcases h with ⟨rfl, rfl | ⟨b, rfl⟩ | ⟨i, rfl⟩ | ⟨s, rfl, hs⟩⟩ | ⟨xs, rfl, rfl, hz, hx⟩ | ⟨xs, h1, h2, hf1, hf2, hz, hx⟩
  · walk_at "w"
    refine v_isi2 (a := "NoneType") (by decide) (by decide) rfl ?_
    rw [show (isTy "NoneType" "list" || isTy "NoneType" "tuple") = false by decide]
    walk_at "w"
    exact .inl q
  · walk_at "w"
    refine v_isi2 (a := "bool") (by decide) (by decide) rfl ?_
    rw [show (isTy "bool" "list" || isTy "bool" "tuple") = false by decide]
    walk_at "w"
    refine v_eqE encB (a := b) (b := b) rfl rfl ?_
    rw [decide_eq_true rfl]
    walk_at "w"
    exact .inl q
  · walk_at "w"
    refine v_isi2 (a := "int") (by decide) (by decide) rfl ?_
    rw [show (isTy "int" "list" || isTy "int" "tuple") = false by decide]
    walk_at "w"
    rw [decide_eq_true rfl]
    exact .inl q
  · walk_at "w"
    refine v_isi2 (a := "str") (by decide) (by decide) rfl ?_
    rw [show (isTy "str" "list" || isTy "str" "tuple") = false by decide]
    walk_at "w"
    refine v_eqS (n := 0) rfl rfl (Sh.str hs) ?_
    walk_at "w"
    exact .inl q
  · walk_at "w"
    refine v_isi2 (a := "tuple") (by decide) (by decide) rfl ?_
    rw [show (isTy "tuple" "list" || isTy "tuple" "tuple") = true by decide]
    walk_at "w"
    refine v_lenL (e := ⟨_, _⟩) (xs := xs) rfl (fun _ z => nomatch z) ?_
    walk_at "w"
    refine v_lenL (e := ⟨_, _⟩) (xs := xs) rfl (fun _ z => nomatch z) ?_
    walk_at "w"
    rw [decide_eq_true rfl]
    walk_at "w"
    refine v_lenL (e := ⟨_, _⟩) (xs := xs) rfl (fun _ z => nomatch z) ?_
    walk_at "w"
    refine ⟨_, rfl, by omega, by omega, fun i e => ∃ x2, e = ⟨[some (D.tup xs), some (D.tup xs), x2], cs⟩, ⟨_, rfl⟩, ?_, ?_⟩
    · rintro i y e2 hi ⟨x2, rfl⟩
      obtain ⟨hi1, rfl⟩ := intsD_get hi
      have hi3 : i < xs.length := by omega
      have hg : atI xs ((i : Nat) : Int) = some xs[i] := atI_nat (List.getElem?_eq_getElem hi3)
      refine ⟨trivial, _, rfl, ?_⟩
      rw [Int.zero_add]
      walk_at "w"
      refine v_ixTX ⟨_, hg, ?_⟩
      walk_at "w"
      refine v_ixTX ⟨_, hg, ?_⟩
      walk_at "w"
      refine ⟨_, _, rfl, hx _ (List.getElem_mem hi3), ?_⟩
      walk_at "w"
      exact ⟨_, rfl⟩
    · rintro e2 ⟨x2, rfl⟩
      refine ⟨trivial, ?_⟩
      walk_at "w"
      exact .inl q
  · walk_at "w"
    refine v_isi2 (a := "list") (by decide) (by decide) (ty_lk h2 hf2) ?_
    rw [show (isTy "list" "list" || isTy "list" "tuple") = true by decide]
    walk_at "w"
    refine v_isi (c := "list") (by decide) (ty_lk h1 hf1) ?_
    walk_at "w"
    refine v_isi (c := "list") (by decide) (ty_lk h2 hf2) ?_
    rw [show isTy "list" "list" = true by decide]
    walk_at "w"
    refine v_isi (c := "list") (by decide) (ty_lk h1 hf1) ?_
    walk_at "w"
    refine v_isi (c := "list") (by decide) (ty_lk h2 hf2) ?_
    rw [show isTy "list" "tuple" = false by decide]
    walk_at "w"
    refine v_lenK (xs := xs) h1 ?_
    walk_at "w"
    refine v_lenK (xs := xs) h2 ?_
    walk_at "w"
    rw [decide_eq_true rfl]
    walk_at "w"
    refine v_lenK (xs := xs) h2 ?_
    walk_at "w"
    refine ⟨_, rfl, by omega, by omega, fun i e => ∃ x2, e = ⟨[some (d), some (d2), x2], cs⟩, ⟨_, rfl⟩, ?_, ?_⟩
    · rintro i y e2 hi ⟨x2, rfl⟩
      obtain ⟨hi1, rfl⟩ := intsD_get hi
      have hi3 : i < xs.length := by omega
      have hg : atI xs ((i : Nat) : Int) = some xs[i] := atI_nat (List.getElem?_eq_getElem hi3)
      refine ⟨trivial, _, rfl, ?_⟩
      rw [Int.zero_add]
      walk_at "w"
      refine v_ixK h1 hg ?_
      walk_at "w"
      refine v_ixK h2 hg ?_
      walk_at "w"
      refine ⟨_, _, rfl, hx _ (List.getElem_mem hi3), ?_⟩
      walk_at "w"
      exact ⟨_, rfl⟩
    · rintro e2 ⟨x2, rfl⟩
      refine ⟨trivial, ?_⟩
      walk_at "w"
      exact .inl q
theorem st_al3 {a b : D} : startD N_law_alike_3 [a, b] = [some a, some b, none] := rfl
theorem len_law_alike_3 : ∀ ds cs Q, sp_law_alike_3 K ds cs Q → ds.length = 2 := by rintro ds cs Q ⟨_, _, rfl, _⟩; rfl
theorem vc_law_alike_3 : ∀ ds cs Q, Lo ds cs → LoC cs → sp_law_alike_3 K ds cs Q → t_law_alike_3 K (Po.fn cs Q) ⟨startD N_law_alike_3 ds, cs⟩ := by
  rintro ds cs Q hd hc ⟨d, d2, rfl, h, q⟩
  clear hd
  rw [st_al3]
  unfold t_law_alike_3
  rcases h with ⟨rfl, rfl | ⟨b, rfl⟩ | ⟨i, rfl⟩ | ⟨s, rfl, hs⟩⟩ | ⟨xs, rfl, rfl, hz, hx⟩ | ⟨xs, h1, h2, hf1, hf2, hz, hx⟩
  · walk_at "w"
    refine v_isi2 (a := "NoneType") (by decide) (by decide) rfl ?_
    rw [show (isTy "NoneType" "list" || isTy "NoneType" "tuple") = false by decide]
    walk_at "w"
    exact .inl q
  · walk_at "w"
    refine v_isi2 (a := "bool") (by decide) (by decide) rfl ?_
    rw [show (isTy "bool" "list" || isTy "bool" "tuple") = false by decide]
    walk_at "w"
    refine v_eqE encB (a := b) (b := b) rfl rfl ?_
    rw [decide_eq_true rfl]
    walk_at "w"
    exact .inl q
  · walk_at "w"
    refine v_isi2 (a := "int") (by decide) (by decide) rfl ?_
    rw [show (isTy "int" "list" || isTy "int" "tuple") = false by decide]
    walk_at "w"
    rw [decide_eq_true rfl]
    exact .inl q
  · walk_at "w"
    refine v_isi2 (a := "str") (by decide) (by decide) rfl ?_
    rw [show (isTy "str" "list" || isTy "str" "tuple") = false by decide]
    walk_at "w"
    refine v_eqS (n := 0) rfl rfl (Sh.str hs) ?_
    walk_at "w"
    exact .inl q
  · walk_at "w"
    refine v_isi2 (a := "tuple") (by decide) (by decide) rfl ?_
    rw [show (isTy "tuple" "list" || isTy "tuple" "tuple") = true by decide]
    walk_at "w"
    refine v_lenL (e := ⟨_, _⟩) (xs := xs) rfl (fun _ z => nomatch z) ?_
    walk_at "w"
    refine v_lenL (e := ⟨_, _⟩) (xs := xs) rfl (fun _ z => nomatch z) ?_
    walk_at "w"
    rw [decide_eq_true rfl]
    walk_at "w"
    refine v_lenL (e := ⟨_, _⟩) (xs := xs) rfl (fun _ z => nomatch z) ?_
    walk_at "w"
    refine ⟨_, rfl, by omega, by omega, fun i e => ∃ x2, e = ⟨[some (D.tup xs), some (D.tup xs), x2], cs⟩, ⟨_, rfl⟩, ?_, ?_⟩
    · rintro i y e2 hi ⟨x2, rfl⟩
      obtain ⟨hi1, rfl⟩ := intsD_get hi
      have hi3 : i < xs.length := by omega
      have hg : atI xs ((i : Nat) : Int) = some xs[i] := atI_nat (List.getElem?_eq_getElem hi3)
      refine ⟨trivial, _, rfl, ?_⟩
      rw [Int.zero_add]
      walk_at "w"
      refine v_ixTX ⟨_, hg, ?_⟩
      walk_at "w"
      refine v_ixTX ⟨_, hg, ?_⟩
      walk_at "w"
      refine ⟨_, _, rfl, hx _ (List.getElem_mem hi3), ?_⟩
      walk_at "w"
      exact ⟨_, rfl⟩
    · rintro e2 ⟨x2, rfl⟩
      refine ⟨trivial, ?_⟩
      walk_at "w"
      exact .inl q
  · walk_at "w"
    refine v_isi2 (a := "list") (by decide) (by decide) (ty_lk h2 hf2) ?_
    rw [show (isTy "list" "list" || isTy "list" "tuple") = true by decide]
    walk_at "w"
    refine v_isi (c := "list") (by decide) (ty_lk h1 hf1) ?_
    walk_at "w"
    refine v_isi (c := "list") (by decide) (ty_lk h2 hf2) ?_
    rw [show isTy "list" "list" = true by decide]
    walk_at "w"
    refine v_isi (c := "list") (by decide) (ty_lk h1 hf1) ?_
    walk_at "w"
    refine v_isi (c := "list") (by decide) (ty_lk h2 hf2) ?_
    rw [show isTy "list" "tuple" = false by decide]
    walk_at "w"
    refine v_lenK (xs := xs) h1 ?_
    walk_at "w"
    refine v_lenK (xs := xs) h2 ?_
    walk_at "w"
    rw [decide_eq_true rfl]
    walk_at "w"
    refine v_lenK (xs := xs) h2 ?_
    walk_at "w"
    refine ⟨_, rfl, by omega, by omega, fun i e => ∃ x2, e = ⟨[some (d), some (d2), x2], cs⟩, ⟨_, rfl⟩, ?_, ?_⟩
    · rintro i y e2 hi ⟨x2, rfl⟩
      obtain ⟨hi1, rfl⟩ := intsD_get hi
      have hi3 : i < xs.length := by omega
      have hg : atI xs ((i : Nat) : Int) = some xs[i] := atI_nat (List.getElem?_eq_getElem hi3)
      refine ⟨trivial, _, rfl, ?_⟩
      rw [Int.zero_add]
      walk_at "w"
      refine v_ixK h1 hg ?_
      walk_at "w"
      refine v_ixK h2 hg ?_
      walk_at "w"
      refine ⟨_, _, rfl, hx _ (List.getElem_mem hi3), ?_⟩
      walk_at "w"
      exact ⟨_, rfl⟩
    · rintro e2 ⟨x2, rfl⟩
      refine ⟨trivial, ?_⟩
      walk_at "w"
      exact .inl q
theorem st_al4 {a b : D} : startD N_law_alike_4 [a, b] = [some a, some b, none] := rfl
theorem len_law_alike_4 : ∀ ds cs Q, sp_law_alike_4 K ds cs Q → ds.length = 2 := by rintro ds cs Q ⟨_, _, rfl, _⟩; rfl
theorem vc_law_alike_4 : ∀ ds cs Q, Lo ds cs → LoC cs → sp_law_alike_4 K ds cs Q → t_law_alike_4 K (Po.fn cs Q) ⟨startD N_law_alike_4 ds, cs⟩ := by
  rintro ds cs Q hd hc ⟨d, d2, rfl, h, q⟩
  clear hd
  rw [st_al4]
  unfold t_law_alike_4
  rcases h with ⟨rfl, rfl | ⟨b, rfl⟩ | ⟨i, rfl⟩ | ⟨s, rfl, hs⟩⟩ | ⟨xs, rfl, rfl, hz, hx⟩ | ⟨xs, h1, h2, hf1, hf2, hz, hx⟩
  · walk_at "w"
    refine v_isi2 (a := "NoneType") (by decide) (by decide) rfl ?_
    rw [show (isTy "NoneType" "list" || isTy "NoneType" "tuple") = false by decide]
    walk_at "w"
    exact .inl q
  · walk_at "w"
    refine v_isi2 (a := "bool") (by decide) (by decide) rfl ?_
    rw [show (isTy "bool" "list" || isTy "bool" "tuple") = false by decide]
    walk_at "w"
    refine v_eqE encB (a := b) (b := b) rfl rfl ?_
    rw [decide_eq_true rfl]
    walk_at "w"
    exact .inl q
  · walk_at "w"
    refine v_isi2 (a := "int") (by decide) (by decide) rfl ?_
    rw [show (isTy "int" "list" || isTy "int" "tuple") = false by decide]
    walk_at "w"
    rw [decide_eq_true rfl]
    exact .inl q
  · walk_at "w"
    refine v_isi2 (a := "str") (by decide) (by decide) rfl ?_
    rw [show (isTy "str" "list" || isTy "str" "tuple") = false by decide]
    walk_at "w"
    refine v_eqS (n := 0) rfl rfl (Sh.str hs) ?_
    walk_at "w"
    exact .inl q
  · walk_at "w"
    refine v_isi2 (a := "tuple") (by decide) (by decide) rfl ?_
    rw [show (isTy "tuple" "list" || isTy "tuple" "tuple") = true by decide]
    walk_at "w"
    refine v_lenL (e := ⟨_, _⟩) (xs := xs) rfl (fun _ z => nomatch z) ?_
    walk_at "w"
    refine v_lenL (e := ⟨_, _⟩) (xs := xs) rfl (fun _ z => nomatch z) ?_
    walk_at "w"
    rw [decide_eq_true rfl]
    walk_at "w"
    refine v_lenL (e := ⟨_, _⟩) (xs := xs) rfl (fun _ z => nomatch z) ?_
    walk_at "w"
    refine ⟨_, rfl, by omega, by omega, fun i e => ∃ x2, e = ⟨[some (D.tup xs), some (D.tup xs), x2], cs⟩, ⟨_, rfl⟩, ?_, ?_⟩
    · rintro i y e2 hi ⟨x2, rfl⟩
      obtain ⟨hi1, rfl⟩ := intsD_get hi
      have hi3 : i < xs.length := by omega
      have hg : atI xs ((i : Nat) : Int) = some xs[i] := atI_nat (List.getElem?_eq_getElem hi3)
      refine ⟨trivial, _, rfl, ?_⟩
      rw [Int.zero_add]
      walk_at "w"
      refine v_ixTX ⟨_, hg, ?_⟩
      walk_at "w"
      refine v_ixTX ⟨_, hg, ?_⟩
      walk_at "w"
      refine ⟨_, _, rfl, hx _ (List.getElem_mem hi3), ?_⟩
      walk_at "w"
      exact ⟨_, rfl⟩
    · rintro e2 ⟨x2, rfl⟩
      refine ⟨trivial, ?_⟩
      walk_at "w"
      exact .inl q
  · walk_at "w"
    refine v_isi2 (a := "list") (by decide) (by decide) (ty_lk h2 hf2) ?_
    rw [show (isTy "list" "list" || isTy "list" "tuple") = true by decide]
    walk_at "w"
    refine v_isi (c := "list") (by decide) (ty_lk h1 hf1) ?_
    walk_at "w"
    refine v_isi (c := "list") (by decide) (ty_lk h2 hf2) ?_
    rw [show isTy "list" "list" = true by decide]
    walk_at "w"
    refine v_isi (c := "list") (by decide) (ty_lk h1 hf1) ?_
    walk_at "w"
    refine v_isi (c := "list") (by decide) (ty_lk h2 hf2) ?_
    rw [show isTy "list" "tuple" = false by decide]
    walk_at "w"
    refine v_lenK (xs := xs) h1 ?_
    walk_at "w"
    refine v_lenK (xs := xs) h2 ?_
    walk_at "w"
    rw [decide_eq_true rfl]
    walk_at "w"
    refine v_lenK (xs := xs) h2 ?_
    walk_at "w"
    refine ⟨_, rfl, by omega, by omega, fun i e => ∃ x2, e = ⟨[some (d), some (d2), x2], cs⟩, ⟨_, rfl⟩, ?_, ?_⟩
    · rintro i y e2 hi ⟨x2, rfl⟩
      obtain ⟨hi1, rfl⟩ := intsD_get hi
      have hi3 : i < xs.length := by omega
      have hg : atI xs ((i : Nat) : Int) = some xs[i] := atI_nat (List.getElem?_eq_getElem hi3)
      refine ⟨trivial, _, rfl, ?_⟩
      rw [Int.zero_add]
      walk_at "w"
      refine v_ixK h1 hg ?_
      walk_at "w"
      refine v_ixK h2 hg ?_
      walk_at "w"
      refine ⟨_, _, rfl, hx _ (List.getElem_mem hi3), ?_⟩
      walk_at "w"
      exact ⟨_, rfl⟩
    · rintro e2 ⟨x2, rfl⟩
      refine ⟨trivial, ?_⟩
      walk_at "w"
      exact .inl q
end
section
variable {K : PySem.W.Frag}
theorem sh_T' (t : Int × List Int × Int) : Sh 2 (.tup [.int t.1, .lst (t.2.1.map .int), .int t.2.2]) := .tup (.cons ((Sh.int t.1).mono (by decide)) (.cons (Sh.ofE encI.lst t.2.1) (.cons ((Sh.int t.2.2).mono (by decide)) .nil)))
theorem eqv_T' (s t : Int × List Int × Int) : PyData.eqv (toP (.tup [.int s.1, .lst (s.2.1.map .int), .int s.2.2])) (toP (.tup [.int t.1, .lst (t.2.1.map .int), .int t.2.2])) = decide (s = t) := by
  obtain ⟨b, fs, l⟩ := s
  obtain ⟨b', fs', l'⟩ := t
  have h1 := encI.eqv b b'
  have h2 := encI.lst.eqv fs fs'
  have h3 := encI.eqv l l'
  show (PyData.eqv (toP (.int b)) (toP (.int b')) && (PyData.eqv (toP (.lst (fs.map .int))) (toP (.lst (fs'.map .int))) && (PyData.eqv (toP (.int l)) (toP (.int l')) && true))) = _
  rw [h1, h3]
  rw [h2]
  simp [Prod.mk.injEq]
theorem encTrE : EqE (fun t : Int × List Int × Int => D.tup [.int t.1, .lst (t.2.1.map .int), .int t.2.2]) 2 := ⟨fun t => (sh_T' t).ok, fun t => (sh_T' t).lay, fun t => (sh_T' t).dep, eqv_T'⟩
theorem len_Written_base : ∀ ds cs Q, sp_Written_base K ds cs Q → ds.length = 1 := by rintro ds cs Q ⟨_, _, _, rfl, _⟩; rfl
theorem vc_Written_base : ∀ ds cs Q, Lo ds cs → LoC cs → sp_Written_base K ds cs Q → t_Written_base K (Po.fn cs Q) ⟨startD N_Written_base ds, cs⟩ := by
  rintro ds cs Q hd hc ⟨b, fs, l, rfl, q⟩
  have hi : insD cs (wrD K b fs l) = some (He.ga K "Written", wrN, [.int b, .lst (fs.map .int), .int l]) := rfl
  unfold t_Written_base
  walk_at "v"
  exact .inl q
theorem len_Written_eq : ∀ ds cs Q, sp_Written_eq K ds cs Q → ds.length = 2 := by rintro ds cs Q ⟨_, _, _, _, rfl, _⟩; rfl
theorem vc_Written_eq : ∀ ds cs Q, Lo ds cs → LoC cs → sp_Written_eq K ds cs Q → t_Written_eq K (Po.fn cs Q) ⟨startD N_Written_eq ds, cs⟩ := by
  rintro ds cs Q hd hc ⟨b, fs, l, t, rfl, q⟩
  have hi : insD cs (wrD K b fs l) = some (He.ga K "Written", wrN, [.int b, .lst (fs.map .int), .int l]) := rfl
  have hi2 : insD cs (wrD K t.1 t.2.1 t.2.2) = some (He.ga K "Written", wrN, [.int t.1, .lst (t.2.1.map .int), .int t.2.2]) := rfl
  unfold t_Written_eq
  walk_at "v"
  refine ⟨rfl, ⟨_, _, hi2⟩, ?_⟩
  walk_at "v"
  refine v_eqE encTrE (a := (b, fs, l)) (b := t) rfl rfl ?_
  walk_at "v"
  exact .inl q
theorem st_sfor {a b c : D} : startD N_slips_for [a, b, c] = [some a, some b, some c, none, none] := rfl
theorem len_slips_for : ∀ ds cs Q, sp_slips_for K ds cs Q → ds.length = 3 := by rintro ds cs Q ⟨_, _, _, _, _, _, _, rfl, _⟩; rfl
theorem vc_slips_for : ∀ ds cs Q, Lo ds cs → LoC cs → sp_slips_for K ds cs Q → t_slips_for K (Po.fn cs Q) ⟨startD N_slips_for ds, cs⟩ := by
  rintro ds cs Q hd hc ⟨d, b, r, cols, es, m, x, rfl, hs, g, hes, hl8, hz, q⟩
  rw [st_sfor]
  unfold t_slips_for
  walk_at "w"
  refine ⟨d, b, r, _, cols, es, rfl, hs, ?_⟩
  walk_at "w"
  refine ⟨⟨_, _, rfl⟩, b, x.1, x.2, rfl, ?_⟩
  walk_at "w"
  have hs0 := hs
  obtain ⟨hc0, hi, hl⟩ := hs0
  refine ⟨⟨_, _, hi⟩, d, b, r, cols, rfl, hs, ?_⟩
  walk_at "w"
  rw [decide_eq_true rfl]
  walk_at "w"
  refine ⟨d, b, r, cols, es, m, rfl, hs, g, hes, hl8, hz, ?_⟩
  walk_at "w"
  have hal : (allF b r cols (es.map toO) m).length ≤ 20000 := Nat.le_trans (List.length_filterMap_le _ _) hz.z
  refine v_lcF (e1 := ⟨_, _⟩) (allF b r cols (es.map toO) m) (encW K b) (fun t => encSl t.1) (fun t => decide (t.2 = x)) rfl (by omega) (fun Q1 Q2 i t ht h1 h2 => ?_) ?_
  · refine ⟨_, rfl, ?_⟩
    walk_at "w"
    refine ⟨⟨_, _, rfl⟩, ⟨_, _, rfl⟩, b, t.2.1, t.2.2, (b, x), rfl, ?_⟩
    have e : decide ((b, t.2.1, t.2.2) = (b, x)) = decide (t.2 = x) := decide_eq_decide.mpr (by simp [Prod.mk.injEq])
    rw [e]
    refine ⟨_, rfl, ?_⟩
    by_cases hh : decide (t.2 = x) = true
    · rw [if_pos hh]
      walk_at "w"
      exact h2 hh
    · rw [if_neg hh]
      exact h1 (Bool.not_eq_true _ ▸ hh)
  · exact .inl q
end
section
variable {K : PySem.W.Frag}
theorem lst_at {α : Type} {xs : List α} {enc : α → D} {i : Nat} {t : α} (h : xs[i]? = some t) : atI (xs.map enc) ((i : Nat) : Int) = some (enc t) := atI_nat (by rw [List.getElem?_map, h]; rfl)
/-- the parts of one list by what stands in another -/
theorem v_lcK {P : D → En → Prop} {tg : Tg} {tt : DT} {te : DE} {vs : List Nat} {o : Bool} {G : List Cel → Prop} {e1 : En} {α : Type} (xs : List α) (n : Int) (f : α → D) (pr : α → Bool) (hn : n = xs.length) (hz : xs.length ≤ 100000)
  (turn : ∀ (Q : List Cel → Prop) (Q2 : D → List Cel → Prop) (i : Nat) (x : α), xs[i]? = some x → (pr x = false → Q e1.cs) → (pr x = true → Q2 (f x) e1.cs) → ∃ sl', setTg tg (.int ((i : Nat) : Int)) (wipeD e1.sl vs) = some sl' ∧ tt ⟨sl', e1.cs⟩ fun b e2 => if b = true then te e2 fun y e3 => Q2 y e3.cs else Q e2.cs)
  (done : newL o ((xs.filter pr).map f) ⟨e1.sl, e1.cs⟩ P) (g : G e1.cs := by first | trivial | assumption) : (intsD 0 n.toNat).length ≤ sizeLine ∧ ∃ I : Nat → List D → List Cel → Prop, I 0 [] e1.cs ∧
  (∀ i d acc cs, (intsD 0 n.toNat)[i]? = some d → I i acc cs → G cs ∧ ∃ sl', setTg tg d (wipeD e1.sl vs) = some sl' ∧ tt ⟨sl', cs⟩ fun b e2 => if b = true then te e2 fun y e3 => I (i + 1) (acc ++ [y]) e3.cs else I (i + 1) acc e2.cs) ∧
  ∀ acc cs, acc.length ≤ (intsD 0 n.toNat).length → I (intsD 0 n.toNat).length acc cs → G cs ∧ newL o acc ⟨e1.sl, cs⟩ P := by
  subst hn
  have hl : (intsD 0 ((xs.length : Nat) : Int).toNat).length = xs.length := by rw [intsD_len]; rfl
  refine ⟨sz_le (by rw [hl]; exact hz), fun i acc cs => acc = ((xs.take i).filter pr).map f ∧ cs = e1.cs, ⟨rfl, rfl⟩, ?_, ?_⟩
  · rintro i d acc cs hi ⟨rfl, rfl⟩
    obtain ⟨hi1, rfl⟩ := intsD_get hi
    have hx : xs[i]? = some xs[i] := List.getElem?_eq_getElem (by omega)
    generalize xs[i] = x at hx
    rw [Int.zero_add]
    refine ⟨g, turn (fun cs => ((xs.take i).filter pr).map f = ((xs.take (i + 1)).filter pr).map f ∧ cs = e1.cs) (fun y cs => ((xs.take i).filter pr).map f ++ [y] = ((xs.take (i + 1)).filter pr).map f ∧ cs = e1.cs) i x hx (fun h => ⟨?_, rfl⟩) fun h => ⟨?_, rfl⟩⟩
    · rw [List.take_add_one, hx]
      simp [h]
    · rw [List.take_add_one, hx]
      simp [h]
  · rintro acc cs _ ⟨h, rfl⟩
    rw [hl, List.take_length] at h
    subst h
    exact ⟨g, done⟩
theorem alk_O (n : Nat) (cs : List Cel) (o : Op) : alk (n + 1) cs (encO o) (encO o) := by
  have hx : ∀ d ∈ (D.str (opW o) :: (opN o).map D.int), alA d := by
    intro d hd
    rcases List.mem_cons.mp hd with rfl | h
    · exact .inr (.inr (.inr ⟨_, rfl, opW_lay o⟩))
    · obtain ⟨i, _, rfl⟩ := List.mem_map.mp h
      exact .inr (.inr (.inl ⟨i, rfl⟩))
  refine .inr (.inl ⟨_, encO_eq o, encO_eq o, ?_, fun x hx' => ?_⟩)
  · have := opN_len o
    rw [List.length_cons, List.length_map]
    omega
  · cases n with
    | zero => exact ⟨rfl, hx x hx'⟩
    | succ n => exact .inl ⟨rfl, hx x hx'⟩
theorem alk_S (n : Nat) (cs : List Cel) (x : Nat × Op) : alk (n + 2) cs (encS x) (encS x) := by
  refine .inr (.inl ⟨_, rfl, rfl, (show 2 ≤ 30000 by decide), fun y hy => ?_⟩)
  rcases List.mem_cons.mp hy with rfl | hy
  · exact .inl ⟨rfl, .inr (.inr (.inl ⟨_, rfl⟩))⟩
  · rw [List.mem_singleton.mp hy]
    exact alk_O n cs x.2
theorem alk_Sl (n : Nat) (cs : List Cel) (S : Sl) (hS : S.length ≤ 30000) : alk (n + 3) cs (encSl S) (encSl S) := by
  refine .inr (.inr ⟨_, rfl, rfl, (fun _ z => nomatch z), (fun _ z => nomatch z), by rw [List.length_map]; exact hS, fun y hy => ?_⟩)
  obtain ⟨x, _, rfl⟩ := List.mem_map.mp hy
  exact alk_S n cs x
theorem alk_Ls (cs : List Cel) (Ss : List Sl) (h1 : Ss.length ≤ 30000) (h : ∀ S ∈ Ss, S.length ≤ 30000) : alk 4 cs (.lst (Ss.map encSl)) (.lst (Ss.map encSl)) := by
  refine .inr (.inr ⟨_, rfl, rfl, (fun _ z => nomatch z), (fun _ z => nomatch z), by rw [List.length_map]; exact h1, fun y hy => ?_⟩)
  obtain ⟨x, hx, rfl⟩ := List.mem_map.mp hy
  exact alk_Sl 0 cs x (h x hx)
theorem st_lv {a b c d : D} : startD N_law_leaves [a, b, c, d] = [some a, some b, some c, some d, none, none] := rfl
theorem len_law_leaves : ∀ ds cs Q, sp_law_leaves K ds cs Q → ds.length = 4 := by rintro ds cs Q ⟨_, _, _, _, rfl, _⟩; rfl
theorem vc_law_leaves : ∀ ds cs Q, Lo ds cs → LoC cs → sp_law_leaves K ds cs Q → t_law_leaves K (Po.fn cs Q) ⟨startD N_law_leaves ds, cs⟩ := by
  rintro ds cs Q hd hc ⟨b, q, rest, x, rfl, b2, b12, q0, qq⟩
  clear hd
  rw [st_lv]
  unfold t_law_leaves
  cases x with
  | none =>
    dsimp only [outT, lvF] at qq ⊢
    walk_at "w"
    exact .inl qq
  | some y =>
    obtain ⟨fs, l⟩ := y
    dsimp only [outT, lvF] at qq ⊢
    walk_at "v"
    refine ⟨fun i e => i ≤ fs.length ∧ ∃ x, e = ⟨[some (.int b), some (.tup [.lst (fs.map .int), .int l]), some (.int q), some (.int rest), some (.int (valW b l (fs.drop (fs.length - i)))), x], cs⟩, ⟨Nat.zero_le _, none, by simp [valW]⟩, ?_, ?_⟩
    · rintro i y e2 hy ⟨hi', x, rfl⟩
      rw [← List.map_reverse, List.getElem?_map, Option.map_eq_some_iff] at hy
      obtain ⟨c, hcc, rfl⟩ := hy
      have hlt := (List.getElem?_eq_some_iff.mp hcc).1
      rw [List.length_reverse] at hlt
      refine ⟨trivial, _, rfl, ?_⟩
      walk_at "v"
      refine ⟨hlt, some (.int c), ?_⟩
      rw [List.getElem?_reverse hlt] at hcc
      have e : fs.drop (fs.length - (i + 1)) = c :: fs.drop (fs.length - i) := by
        have h1 : fs.length - (i + 1) < fs.length := by omega
        rw [List.drop_eq_getElem_cons h1, show fs.length - (i + 1) + 1 = fs.length - i by omega]
        rw [show fs.length - 1 - i = fs.length - (i + 1) by omega, List.getElem?_eq_getElem h1] at hcc
        cases hcc
        rfl
      rw [e, valW, Int.add_comm c, Int.mul_comm b]
      rfl
    · rintro e2 ⟨hi', x, rfl⟩
      refine ⟨trivial, ?_⟩
      walk_at "w"
      simp only [List.length_reverse, List.length_map, Nat.sub_self, List.drop_zero]
      walk_at "w"
      exact .inl qq
theorem isIn_of {α : Type} [DecidableEq α] {a : α} {xs : List α} (h : a ∈ xs) : isIn a xs = true := decide_eq_true h
theorem isIn_not {α : Type} [DecidableEq α] {a : α} {xs : List α} (h : ¬ a ∈ xs) : isIn a xs = false := decide_eq_false h
theorem st_told {a b c d : D} : startD N_law_told_right [a, b, c, d] = [some a, some b, some c, some d, none] := rfl
theorem len_law_told_right : ∀ ds cs Q, sp_law_told_right K ds cs Q → ds.length = 4 := by rintro ds cs Q ⟨_, _, _, _, _, _, rfl, _⟩; rfl
theorem idxS_get {Ls : List Sl} {S : Sl} (h : S ∈ Ls) : Ls[Ls.idxOf S]? = some S := by
  have := List.idxOf_lt_length_of_mem h
  rw [List.getElem?_eq_getElem this, List.getElem_idxOf]
theorem fst_Sl {Ls : List Sl} {S : Sl} (h : S ∈ Ls) : FstAt (Ls.map encSl) (encSl S) (Ls.idxOf S) := by
  refine ⟨⟨encSl S, by rw [List.getElem?_map, idxS_get h] <;> rfl, by rw [encSlE.eqv]; exact decide_eq_true rfl⟩, fun m z hm hz => ?_⟩
  rw [List.getElem?_map] at hz
  obtain ⟨t, ht, rfl⟩ := Option.map_eq_some_iff.mp hz
  rw [encSlE.eqv]
  refine decide_eq_false fun e => ?_
  subst e
  obtain ⟨h2, e2⟩ := List.getElem?_eq_some_iff.mp ht
  have h3 := List.not_of_lt_findIdx (p := fun z => z == t) (xs := Ls) hm
  have h4 : (Ls[m] == t) = false := h3
  rw [e2] at h4
  simp at h4
theorem vc_law_told_right : ∀ ds cs Q, Lo ds cs → LoC cs → sp_law_told_right K ds cs Q → t_law_told_right K (Po.fn cs Q) ⟨startD N_law_told_right ds, cs⟩ := by
  rintro ds cs Q hd hc ⟨b, r, cols, Ts, Ls, x, rfl, hz1, hz2, hT, q⟩
  clear hd
  rw [st_told]
  unfold t_law_told_right outsD
  walk_at "w"
  refine v_lcF (e1 := ⟨_, _⟩) Ts encSl encSl (fun _ => false) rfl (by omega) (fun Q1 Q2 i t ht h1 h2 => ?_) ?_
  · refine ⟨_, rfl, ?_⟩
    walk_at "w"
    refine v_ninE encSlE (a := t) (xs := Ls) rfl rfl ?_
    rw [isIn_of (hT t (List.mem_of_getElem? ht)).1]
    refine ⟨_, rfl, ?_⟩
    rw [if_neg (by decide)]
    exact h1 rfl
  rw [List.filter_eq_nil_iff.mpr (fun _ _ => Bool.false_ne_true), List.map_nil]
  walk_at "w"
  refine v_lcF (e1 := ⟨_, _⟩) Ts encSl encSl (fun _ => false) rfl (by omega) (fun Q1 Q2 i t ht h1 h2 => ?_) ?_
  · have hS := hT t (List.mem_of_getElem? ht)
    refine ⟨_, rfl, ?_⟩
    walk_at "w"
    refine ⟨⟨_, rfl⟩, ?_⟩
    walk_at "w"
    refine ⟨Ls.map encSl, encSl t, Ls.idxOf t, rfl, rfl, encSlE.lst.shp (by decide) Ls, encSlE.shp (by decide) t, fst_Sl hS.1, ?_⟩
    walk_at "w"
    refine v_ixK (xs := Ls.map fun S => outT (outF b r cols S)) rfl (lst_at (idxS_get hS.1)) ?_
    rw [hS.2]
    walk_at "w"
    refine DL.v_neE encTE' (a := some x) (b := some x) rfl rfl ?_
    rw [decide_eq_true rfl]
    refine ⟨_, rfl, ?_⟩
    rw [if_neg (by decide)]
    exact h1 rfl
  rw [List.filter_eq_nil_iff.mpr (fun _ _ => Bool.false_ne_true), List.map_nil]
  walk_at "w"
  exact .inl q
end
section
variable {K : PySem.W.Frag}
theorem filt_one {α : Type} (p : α → Bool) (xs : List α) : xs.filter p = (xs.filter p) := rfl
theorem allF_fst {b r : Int} {cols : List (List Int)} {os : List Op} {m : Nat} (p : Option (List Int × Int) → Bool) (h0 : p none = false) : ((allF b r cols os m).filter fun t => p (some t.2)).map (fun t => encSl t.1) = ((ordF cols.length os m).filter fun S => p (outF b r cols S)).map encSl := by
  unfold allF
  induction ordF cols.length os m with
  | nil => rfl
  | cons S Ss ih =>
    rw [List.filterMap_cons, List.filter_cons]
    cases h : outF b r cols S with
    | none =>
      rw [h0, if_neg Bool.false_ne_true]
      exact ih
    | some x =>
      show (List.filter _ ((S, x) :: _)).map _ = _
      rw [List.filter_cons]
      show (if p (some x) = true then _ else _ : List _).map _ = _
      cases hp : p (some x) with
      | true => rw [if_pos rfl, if_pos rfl, List.map_cons, List.map_cons, ih]
      | false => rw [if_neg Bool.false_ne_true, if_neg Bool.false_ne_true, ih]
theorem forF_fst {b r : Int} {cols : List (List Int)} {os : List Op} {m : Nat} {x : List Int × Int} : (forF b r cols os m x).map (fun t => encSl t.1) = ((ordF cols.length os m).filter fun S => decide (outF b r cols S = some x)).map encSl := by
  rw [← allF_fst (fun y => decide (y = some x)) rfl]
  unfold forF
  congr 2
  funext t
  exact decide_eq_decide.mpr ⟨fun h => by rw [h], fun h => Option.some.inj h⟩
theorem shown0_fst {b r : Int} {cols : List (List Int)} {os : List Op} {m : Nat} : (shownF b r cols os m [] []).map encSl = ((ordF cols.length os m).filter fun S => (outF b r cols S).isSome).map encSl := by
  rw [← allF_fst (fun y => y.isSome) rfl]
  unfold shownF
  rw [List.map_map]
  show List.map (fun t : Sl × (List Int × Int) => encSl t.1) _ = List.map (fun t : Sl × (List Int × Int) => encSl t.1) _
  refine congrArg _ (List.filter_congr fun t _ => ?_)
  rfl
theorem shown1_fst {b r q rest : Int} {cols : List (List Int)} {os : List Op} {m : Nat} : (shownF b r cols os m [q] [rest]).map encSl = ((ordF cols.length os m).filter fun S => lvF b q rest (outF b r cols S)).map encSl := by
  rw [← allF_fst (fun y => lvF b q rest y) rfl]
  unfold shownF
  rw [List.map_map]
  show List.map (fun t : Sl × (List Int × Int) => encSl t.1) _ = List.map (fun t : Sl × (List Int × Int) => encSl t.1) _
  refine congrArg _ (List.filter_congr fun t _ => ?_)
  exact decide_eq_decide.mpr ⟨fun h => by simpa using h, fun h => by simpa using h⟩
theorem st_sr {a b c d e f g : D} : startD N_law_shown_right [a, b, c, d, e, f, g] = [some a, some b, some c, some d, some e, some f, some g, none, none] := rfl
theorem len_law_shown_right : ∀ ds cs Q, sp_law_shown_right K ds cs Q → ds.length = 7 := by rintro ds cs Q ⟨_, _, _, _, _, _, _, rfl, _⟩; rfl
theorem lstlk {α : Type} {xs : List α} {enc : α → D} {cs : List Cel} : lk cs (.lst (xs.map enc)) = some (xs.map enc) := rfl
theorem vc_law_shown_right : ∀ ds cs Q, Lo ds cs → LoC cs → sp_law_shown_right K ds cs Q → t_law_shown_right K (Po.fn cs Q) ⟨startD N_law_shown_right ds, cs⟩ := by
  rintro ds cs Q hd hc ⟨b, r, q, rest, cols, es, m, rfl, g, hes, hl8, hz, q2, q60, qq⟩
  clear hd
  rw [st_sr]
  unfold t_law_shown_right outsD
  have go : Go b r (es.map toO) := ⟨fun o ho => by obtain ⟨t, ht, rfl⟩ := List.mem_map.mp ho; exact (toO_enc (hes t ht)).2.1, fun o ho => by obtain ⟨t, ht, rfl⟩ := List.mem_map.mp ho; exact (toO_enc (hes t ht)).2.2, by rw [List.length_map]; exact hl8⟩
  have hmem := fun S (hS : S ∈ ordF cols.length (es.map toO) m) => ordF_mem go hS
  have hLz := hz.z
  have hm3 := hz.m3
  have b2 := g.b2
  have b12 := g.b12
  have e0 := @shown0_fst b r cols (es.map toO) m
  have e1 := @shown1_fst b r q rest cols (es.map toO) m
  generalize hL : ordF cols.length (es.map toO) m = L at e0 e1 hmem hLz ⊢
  have hall : ∀ (p : Sl → Bool), alk 4 cs (.lst ((L.filter p).map encSl)) (.lst ((L.filter p).map encSl)) := fun p => alk_Ls cs _ (Nat.le_trans (List.length_filter_le _ _) (by omega)) fun S hS => by
    have := (hmem S (List.mem_filter.mp hS).1).2.2.1
    omega
  walk_at "w"
  refine v_lenK (xs := L.map encSl) rfl ?_
  rw [List.length_map]
  walk_at "w"
  refine ⟨_, rfl, by omega, by omega, ?_⟩
  refine v_lcK (e1 := ⟨_, _⟩) L _ encSl (fun S => (outF b r cols S).isSome) rfl (by omega) (fun Q1 Q2 i S hS h1 h2 => ?_) ?_
  · refine ⟨_, rfl, ?_⟩
    walk_at "w"
    refine v_ixK (xs := L.map fun S => outT (outF b r cols S)) rfl (lst_at hS) ?_
    cases ho : outF b r cols S with
    | none =>
      rw [ho] at h1 h2
      dsimp only [outT] at h1 h2 ⊢
      walk_at "w"
      exact h1 rfl
    | some x =>
      rw [ho] at h1 h2
      dsimp only [outT] at h1 h2 ⊢
      walk_at "w"
      refine v_ixK (xs := L.map encSl) rfl (lst_at hS) ?_
      exact h2 rfl
  walk_at "w"
  refine ⟨_, b, r, cols, es, m, [], [], rfl, isSh_shD, g, hes, hl8, hz, ⟨List.nodup_nil, (fun x hx => nomatch hx), (show 0 ≤ 8 by decide)⟩, (show 0 ≤ 100 by decide), ?_⟩
  rw [e0]
  walk_at "w"
  refine ⟨_, _, rfl, hall _, ?_⟩
  walk_at "w"
  refine v_lenK (xs := L.map encSl) rfl ?_
  rw [List.length_map]
  walk_at "w"
  refine ⟨_, rfl, by omega, by omega, ?_⟩
  refine v_lcK (e1 := ⟨_, _⟩) L _ encSl (fun S => lvF b q rest (outF b r cols S)) rfl (by omega) (fun Q1 Q2 i S hS h1 h2 => ?_) ?_
  · refine ⟨_, rfl, ?_⟩
    walk_at "w"
    refine v_ixK (xs := L.map fun S => outT (outF b r cols S)) rfl (lst_at hS) ?_
    walk_at "w"
    refine ⟨b, q, rest, outF b r cols S, rfl, b2, b12, by omega, ?_⟩
    refine ⟨_, rfl, ?_⟩
    cases hh : lvF b q rest (outF b r cols S) with
    | true =>
      rw [if_pos rfl]
      walk_at "w"
      refine v_ixK (xs := L.map encSl) rfl (lst_at hS) ?_
      exact h2 hh
    | false =>
      rw [if_neg Bool.false_ne_true]
      exact h1 hh
  walk_at "w"
  refine ⟨_, b, r, cols, es, m, [q], [rest], rfl, isSh_shD, g, hes, hl8, hz, ⟨by simp, (fun x hx => by rw [List.mem_singleton.mp hx]; exact ⟨q2, q60⟩), (show 1 ≤ 8 by decide)⟩, (show 1 ≤ 100 by decide), ?_⟩
  rw [e1]
  walk_at "w"
  refine ⟨_, _, rfl, hall _, ?_⟩
  walk_at "w"
  exact .inl qq
end
section
variable {K : PySem.W.Frag}
theorem st_bsd {a b c d : D} : startD N_law_beside [a, b, c, d] = [some a, some b, some c, some d, none, none, none] := rfl
theorem len_law_beside : ∀ ds cs Q, sp_law_beside K ds cs Q → ds.length = 4 := by rintro ds cs Q ⟨_, _, _, _, _, rfl, _⟩; rfl
theorem w_bsd {Po' : List Cel → (D → List Cel → Prop)} {cs cs1 : List Cel} {Q : D → List Cel → Prop} {x0 x3 x5 x6 : Option D} {b r : Int} {zs : List Dd} (b2 : 2 ≤ b) (b12 : b ≤ 12) (r1 : 1 ≤ r) (r4 : r ≤ 4)
    (q : Q (.lst ((keep b r zs).map encD)) cs1) : (sRet (eLc false (iS (eCall (sp_law_all_deeds K) (aCons (eV 1) (aCons (eV 2) aNil)))) (.one 6) (eTest (eBin (qIn false) (eV 6) (eV 4))) (eV 6) [6])) (Po.fn cs Q) ⟨[x0, some (.int b), some (.int r), x3, some (.lst (zs.map encD)), x5, x6], cs1⟩ := by
  walk_at "w"
  refine ⟨b, r, rfl, b2, b12, r1, r4, .inl ?_⟩
  walk_at "w"
  have hal := allD_len b2 b12 r1 r4
  refine v_lcF (e1 := ⟨_, _⟩) (allD b r) encD encD (fun t => isIn t zs) rfl (by omega) (fun Q1 Q2 i t ht h1 h2 => ?_) ?_
  · refine ⟨_, rfl, ?_⟩
    walk_at "w"
    refine v_inE encDE (a := t) (xs := zs) rfl rfl ?_
    refine ⟨_, rfl, ?_⟩
    cases hh : isIn t zs with
    | true =>
      rw [if_pos rfl]
      walk_at "w"
      exact h2 hh
    | false =>
      rw [if_neg Bool.false_ne_true]
      exact h1 hh
  · exact .inl q
theorem vc_law_beside : ∀ ds cs Q, Lo ds cs → LoC cs → sp_law_beside K ds cs Q → t_law_beside K (Po.fn cs Q) ⟨startD N_law_beside ds, cs⟩ := by
  rintro ds cs Q hd hc ⟨n, a, b, r, es, rfl, hn, b2, b12, r1, r4, l1, l4, nd, sub, q⟩
  clear hd
  rw [st_bsd]
  unfold t_law_beside
  walk_at "w"
  refine ⟨n, 4, a, rfl, hn, by decide, by decide, fun w a1 w0 w1 => ?_⟩
  walk_at "w"
  refine ⟨n, a1, b, r, 1 + w, rfl, set_get hn, b2, b12, r1, r4, by omega, by omega, fun ys a2 ynd ysub yln => ?_⟩
  rw [List.set_set]
  walk_at "w"
  refine ⟨n, 3, a2, rfl, set_get hn, by decide, by decide, fun y a3 y0 y1 => ?_⟩
  rw [List.set_set]
  have q := fun zs z1 z2 z3 z4 => q zs a3 z1 z2 z3 z4
  generalize cs.set n (plC a3) = cs1 at q ⊢
  have fin := fun (zs : List Dd) (z1 : zs.Nodup) (z2 : ∀ t ∈ zs, t ∈ allD b r) (z3 : 1 ≤ zs.length) (z4 : zs.length ≤ 5) (x0 x3 x5 x6 : Option D) => @w_bsd K (fun _ => Q) cs cs1 Q x0 x3 x5 x6 b r zs b2 b12 r1 r4 (q zs z1 z2 z3 z4)
  generalize (sRet (eLc false (iS (eCall (sp_law_all_deeds K) (aCons (eV 1) (aCons (eV 2) aNil)))) (.one 6) (eTest (eBin (qIn false) (eV 6) (eV 4))) (eV 6) [6])) = T at fin ⊢
  walk_at "w"
  refine v_itd (fun hy => ?_) (fun hy => ?_)
  · subst hy
    walk_at "w"
    refine v_lenK (xs := es.map encD) rfl ?_
    rw [List.length_map]
    walk_at "w"
    refine v_itd (fun hl => ?_) (fun hl => ?_)
    · walk_at "w"
      refine v_slL (xs := es.map encD) rfl (fun _ z => nomatch z) (fun _ z => nomatch z) ?_
      rw [show (some (1 : Int)) = some ((1 : Nat) : Int) from rfl, cut_from]
      walk_at "w"
      exact fin _ (nd.sublist (List.drop_sublist _ _)) (fun t ht => sub t (List.mem_of_mem_drop ht)) (by rw [List.length_drop]; omega) (by rw [List.length_drop]; omega) _ _ _ _
    · walk_at "w"
      exact fin _ ynd ysub (by omega) (by omega) _ _ _ _
  · walk_at "w"
    refine v_itd (fun hy1 => ?_) (fun hy1 => ?_)
    · walk_at "w"
      refine v_lcF (e1 := ⟨_, _⟩) ys encD encD (fun t => !isIn t es) rfl (by omega) (fun Q1 Q2 i t ht h1 h2 => ?_) ?_
      · refine ⟨_, rfl, ?_⟩
        walk_at "w"
        refine v_ninE encDE (a := t) (xs := es) rfl rfl ?_
        refine ⟨_, rfl, ?_⟩
        cases hh : isIn t es with
        | true =>
          rw [if_neg (by decide)]
          exact h1 (by rw [hh]; rfl)
        | false =>
          rw [if_pos (by decide)]
          walk_at "w"
          exact h2 (by rw [hh]; rfl)
      walk_at "w"
      refine v_slL (xs := (ys.filter fun t => !isIn t es).map encD) rfl (fun _ z => nomatch z) (fun _ z => nomatch z) ?_
      rw [show (some (1 : Int)) = some ((1 : Nat) : Int) from rfl, cut_to]
      walk_at "w"
      have hz : ((ys.filter fun t => !isIn t es).take 1).length ≤ 1 := by rw [List.length_take]; omega
      refine v_addL ⟨by rw [List.length_map, List.length_map]; omega, ?_⟩
      rw [← List.map_append]
      walk_at "w"
      have hm : ∀ t ∈ (ys.filter fun t => !isIn t es).take 1, t ∈ ys ∧ ¬ t ∈ es := fun t ht => by
        have h1 := List.mem_filter.mp (List.mem_of_mem_take ht)
        refine ⟨h1.1, fun h2 => ?_⟩
        rw [isIn_of h2] at h1
        exact absurd h1.2 (by decide)
      refine fin _ (List.nodup_append.mpr ⟨nd, (ynd.filter _).sublist (List.take_sublist _ _), fun x hx y hy e => ?_⟩) (fun t ht => ?_) (by rw [List.length_append]; omega) (by rw [List.length_append]; omega) _ _ _ _
      · subst e
        exact (hm x hy).2 hx
      · rcases List.mem_append.mp ht with h | h
        · exact sub t h
        · exact ysub t (hm t h).1
    · walk_at "w"
      exact fin _ ynd ysub (by omega) (by omega) _ _ _ _
end
section
/-- the results that were seen: how many lists write one of them -/
def inS (seen : List (List Int × Int)) : Option (List Int × Int) → Bool
  | none => false
  | some x => isIn x seen
theorem inS_add {α : Type} (f : α → Option (List Int × Int)) (seen : List (List Int × Int)) (x : List Int × Int) (hx : ¬ x ∈ seen) : ∀ L : List α, (L.filter fun S => inS (seen ++ [x]) (f S)).length = (L.filter fun S => inS seen (f S)).length + (L.filter fun S => decide (f S = some x)).length
  | [] => rfl
  | S :: L => by
    have ih := inS_add f seen x hx L
    rw [List.filter_cons, List.filter_cons, List.filter_cons]
    cases h : f S with
    | none =>
      rw [if_neg (show ¬ inS (seen ++ [x]) none = true from Bool.false_ne_true), if_neg (show ¬ inS seen none = true from Bool.false_ne_true), if_neg (show ¬ decide ((none : Option (List Int × Int)) = some x) = true from Bool.false_ne_true)]
      exact ih
    | some y =>
      by_cases e : y = x
      · subst e
        show (if isIn y (seen ++ [y]) = true then _ else _ : List α).length = (if isIn y seen = true then _ else _ : List α).length + _
        rw [if_pos (show isIn y (seen ++ [y]) = true from isIn_of (List.mem_append_right _ List.mem_cons_self)), if_neg (show ¬ isIn y seen = true by rw [isIn_not hx]; exact Bool.false_ne_true), if_pos (decide_eq_true rfl), List.length_cons, List.length_cons, ih]
        rfl
      · rw [if_neg (show ¬ decide (some y = some x) = true by rw [decide_eq_true_eq]; exact fun z => e (Option.some.inj z))]
        have e2 : isIn y (seen ++ [x]) = isIn y seen := by unfold isIn; exact decide_eq_decide.mpr (by simp [e])
        show (if isIn y (seen ++ [x]) = true then _ else _ : List α).length = (if isIn y seen = true then _ else _ : List α).length + _
        rw [e2]
        cases isIn y seen with
        | true => rw [if_pos rfl, if_pos rfl, List.length_cons, List.length_cons, ih]; omega
        | false => rw [if_neg Bool.false_ne_true, if_neg Bool.false_ne_true, ih]
theorem inS_nil {α : Type} (f : α → Option (List Int × Int)) (L : List α) : (L.filter fun S => inS [] (f S)).length = 0 := by
  rw [List.filter_eq_nil_iff.mpr fun S _ => by cases f S <;> exact Bool.false_ne_true]
  rfl
theorem inS_all {α : Type} (f : α → Option (List Int × Int)) (seen : List (List Int × Int)) : ∀ L : List α, (∀ S ∈ L, ∀ x, f S = some x → x ∈ seen) → (L.filter fun S => inS seen (f S)) = L.filter fun S => (f S).isSome := by
  intro L h
  refine List.filter_congr fun S hS => ?_
  cases hf : f S with
  | none => rfl
  | some x => exact isIn_of (h S hS x hf)
theorem count_one {Ls : List Sl} {S : Sl} (hn : Ls.Nodup) (h : S ∈ Ls) : (Ls.map encSl).countP (fun z => PyData.eqv (toP z) (toP (encSl S))) = 1 := by
  have e : ∀ Ls : List Sl, (Ls.map encSl).countP (fun z => PyData.eqv (toP z) (toP (encSl S))) = Ls.countP (fun T => decide (T = S)) := by
    intro Ls
    rw [List.countP_map]
    refine List.countP_congr fun T _ => ?_
    show PyData.eqv (toP (encSl T)) (toP (encSl S)) = true ↔ _
    rw [encSlE.eqv]
  rw [e]
  clear e
  induction Ls with
  | nil => cases h
  | cons T Ls ih =>
    obtain ⟨h1, h2⟩ := List.nodup_cons.mp hn
    rw [List.countP_cons]
    rcases List.mem_cons.mp h with rfl | h
    · rw [if_pos (decide_eq_true rfl), List.countP_eq_zero.mpr fun T hT => ?_]
      rw [decide_eq_true_eq]
      rintro rfl
      exact h1 hT
    · rw [if_neg (by rw [decide_eq_true_eq]; rintro rfl; exact h1 h), ih h2 h]
theorem outF_inv {b r : Int} {cols : List (List Int)} {S : Sl} {x : List Int × Int} (h : outF b r cols S = some x) : Plan b r cols (opsN cols.length S) ∧ x = ((stF b cols (opsN cols.length S) cols.length).1, (stF b cols (opsN cols.length S) cols.length).2.1) := by
  by_cases hp : Plan b r cols (opsN cols.length S)
  · rw [outF_some hp] at h
    exact ⟨hp, (Option.some.inj h).symm⟩
  · rw [outF_none hp] at h
    cases h
variable {K : PySem.W.Frag}
theorem w_h0 {cs : List Cel} {Q : D → List Cel → Prop} {a b r : Int} {cols : List (List Int)} {es es2 : List Dd} {m m2 : Nat} {x0 x1 x3 x4 x5 x6 x7 x8 x16 x17 x18 x19 x20 : Option D} (g : Gd b r cols) (hes : ∀ t ∈ es, t ∈ allD b r) (hl8 : es.length ≤ 8) (hnd : es.Nodup) (hz : Gz cols.length (es.map toO) m)
    (hes2 : ∀ t ∈ es2, t ∈ allD b r) (hl82 : es2.length ≤ 8) (hz2 : Gz cols.length (es2.map toO) m2) (q : Q (.bl true) cs) :
    u_law_holds_0 K (Po.fn cs Q) ⟨[x0, x1, some (.int b), x3, x4, x5, x6, x7, x8, some (kiD K b r es (m : Nat)), some (kiD K b r es2 (m2 : Nat)), some (.lst ((ordF cols.length (es.map toO) m).map encSl)), some (outsD b r cols (ordF cols.length (es.map toO) m)), some (.lst ((ordF cols.length (es2.map toO) m2).map encSl)), some (outsD b r cols (ordF cols.length (es2.map toO) m2)), some (shD K b r cols), x16, x17, x18, x19, x20, none, none, none, none, none, none, none, none, none], cs ++ [plC a]⟩ := by
  unfold u_law_holds_0 outsD
  have go : Go b r (es.map toO) := ⟨fun o ho => by obtain ⟨t, ht, rfl⟩ := List.mem_map.mp ho; exact (toO_enc (hes t ht)).2.1, fun o ho => by obtain ⟨t, ht, rfl⟩ := List.mem_map.mp ho; exact (toO_enc (hes t ht)).2.2, by rw [List.length_map]; exact hl8⟩
  have go2 : Go b r (es2.map toO) := ⟨fun o ho => by obtain ⟨t, ht, rfl⟩ := List.mem_map.mp ho; exact (toO_enc (hes2 t ht)).2.1, fun o ho => by obtain ⟨t, ht, rfl⟩ := List.mem_map.mp ho; exact (toO_enc (hes2 t ht)).2.2, by rw [List.length_map]; exact hl82⟩
  have hmem := fun S (hS : S ∈ ordF cols.length (es.map toO) m) => ordF_mem go hS
  have hmem2 := fun S (hS : S ∈ ordF cols.length (es2.map toO) m2) => ordF_mem go2 hS
  have hLz := hz.z
  have hLz2 := hz2.z
  have hm3 := hz2.m3
  have hLn : (ordF cols.length (es.map toO) m).Nodup := ordF_nd (toO_nd hes hnd)
  have e1 := fun x => @forF_fst b r cols (es.map toO) m x
  have e2 := fun x => @forF_fst b r cols (es2.map toO) m2 x
  generalize hL : ordF cols.length (es.map toO) m = L at e1 hmem hLz hLn ⊢
  generalize hL2 : ordF cols.length (es2.map toO) m2 = L2 at e2 hmem2 hLz2 ⊢
  walk_at "w"
  refine v_lenK (xs := L.map encSl) rfl ?_
  rw [List.length_map]
  walk_at "w"
  refine ⟨_, rfl, by omega, by omega, fun k e => ∃ (seen : List (List Int × Int)) (y23 y24 y25 y26 y27 y28 y29 : Option D), (∀ S ∈ L.take k, ∀ x, outF b r cols S = some x → x ∈ seen) ∧ seen.length ≤ k ∧
    e = ⟨[x0, x1, some (.int b), x3, x4, x5, x6, x7, x8, some (kiD K b r es (m : Nat)), some (kiD K b r es2 (m2 : Nat)), some (.lst (L.map encSl)), some (.lst (L.map fun S => outT (outF b r cols S))), some (.lst (L2.map encSl)), some (.lst (L2.map fun S => outT (outF b r cols S))), some (shD K b r cols), x16, x17, x18, x19, x20, some (.cell (cs.length + 1)), some (.int ((L.filter fun S => inS seen (outF b r cols S)).length : Nat)), y23, y24, y25, y26, y27, y28, y29], (cs ++ [plC a]) ++ [.lst (seen.map fun x => outT (some x))]⟩, ?_, ?_, ?_⟩
  · refine ⟨[], none, none, none, none, none, none, none, (fun S hS => by rw [List.take_zero] at hS; cases hS), Nat.le_refl _, ?_⟩
    rw [inS_nil]
    simp
  · rintro k d e1 hk ⟨seen, y23, y24, y25, y26, y27, y28, y29, hse, hsl, rfl⟩
    obtain ⟨hk1, rfl⟩ := intsD_get hk
    have hS : L[k]? = some L[k] := List.getElem?_eq_getElem (by omega)
    have hkL : k < L.length := by omega
    generalize L[k] = S at hS
    have hSm : S ∈ L := List.mem_of_getElem? hS
    refine ⟨trivial, _, rfl, ?_⟩
    rw [Int.zero_add]
    have hnext : ∀ (seen2 : List (List Int × Int)), (∀ x ∈ seen, x ∈ seen2) → (∀ x, outF b r cols S = some x → x ∈ seen2) → ∀ T ∈ L.take (k + 1), ∀ x, outF b r cols T = some x → x ∈ seen2 := by
      intro seen2 h1 h2 T hT x hx
      rw [List.take_add_one, hS] at hT
      rcases List.mem_append.mp hT with h | h
      · exact h1 x (hse T h x hx)
      · rw [List.mem_singleton.mp h] at hx
        exact h2 x hx
    walk_at "w"
    refine v_ixK (xs := L.map fun S => outT (outF b r cols S)) rfl (lst_at hS) ?_
    cases ho : outF b r cols S with
    | none =>
      dsimp only [outT]
      walk_at "w"
      exact ⟨seen, _, _, _, _, _, _, _, hnext seen (fun _ h => h) (fun x hx => by rw [ho] at hx; cases hx), by omega, rfl⟩
    | some x =>
      have hoT : outT (some x) = .tup [.lst (x.1.map .int), .int x.2] := rfl
      walk_at "w"
      refine v_ixK (xs := L.map fun S => outT (outF b r cols S)) rfl (lst_at hS) ?_
      rw [ho]
      walk_at "w"
      refine v_ninE encTE' (a := some x) (xs := seen.map some) rfl ?_ ?_
      · rw [List.map_map]
        exact drf_cell g3c
      refine ⟨_, rfl, ?_⟩
      by_cases hin : x ∈ seen
      · rw [isIn_of (List.mem_map.mpr ⟨x, hin, rfl⟩), if_neg (by decide)]
        walk_at "w"
        exact ⟨seen, _, _, _, _, _, _, _, hnext seen (fun _ h => h) (fun y hy => by rw [ho] at hy; cases hy; exact hin), by omega, rfl⟩
      · rw [isIn_not (fun h => by obtain ⟨y, hy, e⟩ := List.mem_map.mp h; cases e; exact hin hy), if_pos (by decide)]
        walk_at "w"
        refine ⟨⟨_, lk_cell g3c⟩, ?_⟩
        walk_at "w"
        refine v_ixK (xs := L.map fun S => outT (outF b r cols S)) rfl (lst_at hS) ?_
        rw [ho]
        walk_at "w"
        refine ⟨_, _, _, rfl, rfl, g3c, Nat.lt_of_le_of_lt (show _ ≤ 20000 by rw [List.length_map]; omega) (by decide), ?_⟩
        rw [s3c]
        walk_at "w"
        refine v_ixK (xs := L.map encSl) rfl (lst_at hS) ?_
        walk_at "w"
        refine v_listL (xs := S.map encS) rfl ?_
        walk_at "w"
        obtain ⟨hpl, hx⟩ := outF_inv ho
        have hw : wrD K b (stF b cols (opsN cols.length S) cols.length).1 (stF b cols (opsN cols.length S) cols.length).2.1 = wrD K b x.1 x.2 := by rw [hx]
        refine ⟨_, _, b, r, cols, opsN cols.length S, S.map encS, rfl, rfl, isSh_shD, g, hpl, .inl ⟨by rw [slF_opsN (hmem S hSm).1], ?_⟩⟩
        rw [hw]
        walk_at "w"
        refine ⟨_, b, r, cols, es, m, x, rfl, isSh_shD, g, hes, hl8, hz, ?_⟩
        rw [e1 x]
        walk_at "w"
        refine v_lenK (xs := L2.map encSl) rfl ?_
        rw [List.length_map]
        walk_at "w"
        refine ⟨_, rfl, by omega, by omega, ?_⟩
        refine v_lcK (e1 := ⟨_, _⟩) L2 _ encSl (fun S2 => decide (outF b r cols S2 = some x)) rfl (by omega) (fun Q1 Q2 i S2 hS2 h1 h2 => ?_) ?_
        · refine ⟨_, rfl, ?_⟩
          walk_at "w"
          refine v_ixK (xs := L2.map fun S => outT (outF b r cols S)) rfl (lst_at hS2) ?_
          walk_at "w"
          refine v_ixK (xs := L.map fun S => outT (outF b r cols S)) rfl (lst_at hS) ?_
          rw [ho]
          refine DL.v_eqE encTE' (a := outF b r cols S2) (b := some x) (by cases outF b r cols S2 <;> rfl) rfl ?_ (by decide) (.inr (fun _ z => nomatch z))
          refine ⟨_, rfl, ?_⟩
          by_cases hh : decide (outF b r cols S2 = some x) = true
          · rw [if_pos hh]
            walk_at "w"
            refine v_ixK (xs := L2.map encSl) rfl (lst_at hS2) ?_
            exact h2 hh
          · rw [if_neg hh]
            exact h1 (Bool.not_eq_true _ ▸ hh)
        walk_at "w"
        refine ⟨_, b, r, cols, es2, m2, x, rfl, isSh_shD, g, hes2, hl82, hz2, ?_⟩
        rw [e2 x]
        walk_at "w"
        refine ⟨_, _, rfl, alk_Ls _ _ (Nat.le_trans (List.length_filter_le _ _) (by omega)) (fun T hT => by
          have := (hmem2 T (List.mem_filter.mp hT).1).2.2.1
          omega), ?_⟩
        walk_at "w"
        refine v_ixK (xs := L.map fun S => outT (outF b r cols S)) rfl (lst_at hS) ?_
        rw [ho]
        walk_at "w"
        refine ⟨b, r, cols, L.filter fun S => decide (outF b r cols S = some x), L, x, rfl, Nat.le_trans (List.length_filter_le _ _) (by omega), hLz, (fun T hT => ⟨(List.mem_filter.mp hT).1, of_decide_eq_true (List.mem_filter.mp hT).2⟩), ?_⟩
        walk_at "w"
        refine ⟨⟨_, rfl⟩, ?_⟩
        walk_at "w"
        refine v_ixK (xs := L.map encSl) rfl (lst_at hS) ?_
        walk_at "w"
        refine ⟨_, encSl S, rfl, rfl, encSlE.lst.shp (by decide) _, encSlE.shp (by decide) S, ?_⟩
        have hc1 : ((L.filter fun S => decide (outF b r cols S = some x)).map encSl).countP (fun z => PyData.eqv (toP z) (toP (encSl S))) = 1 := count_one (hLn.filter _) (List.mem_filter.mpr ⟨hSm, decide_eq_true ho⟩)
        rw [show drf _ (encSl S) = encSl S from rfl, hc1]
        walk_at "w"
        rw [decide_eq_true (show (((1 : Nat) : Int)) = 1 from rfl)]
        walk_at "w"
        refine v_lenK (xs := (L.filter fun S => decide (outF b r cols S = some x)).map encSl) rfl ?_
        rw [List.length_map]
        walk_at "w"
        have hcnt : (((L.filter fun S => inS (seen ++ [x]) (outF b r cols S)).length : Nat) : Int) = (((L.filter fun S => inS seen (outF b r cols S)).length : Nat) : Int) + (((L.filter fun S => decide (outF b r cols S = some x)).length : Nat) : Int) := by rw [inS_add _ _ _ hin, Int.natCast_add]
        have hmap : (seen.map fun x => outT (some x)) ++ [outT (some x)] = (seen ++ [x]).map fun x => outT (some x) := by rw [List.map_append]; rfl
        rw [← hcnt, hmap]
        exact ⟨seen ++ [x], _, _, _, _, _, _, _, hnext _ (fun y hy => List.mem_append_left _ hy) (fun y hy => by rw [ho] at hy; cases hy; exact List.mem_append_right _ List.mem_cons_self), by rw [List.length_append, List.length_singleton]; omega, rfl⟩
  · rintro e1 ⟨seen, y23, y24, y25, y26, y27, y28, y29, hse, hsl, rfl⟩
    rw [intsD_len, show (((L.length : Nat) : Int)).toNat = L.length from rfl, List.take_length] at hse
    refine ⟨trivial, ?_⟩
    walk_at "w"
    refine v_lcF (e1 := ⟨_, _⟩) L (fun S => outT (outF b r cols S)) (fun S => outT (outF b r cols S)) (fun S => (outF b r cols S).isSome) rfl (by omega) (fun Q1 Q2 i S hS h1 h2 => ?_) ?_
    · refine ⟨_, rfl, ?_⟩
      cases ho : outF b r cols S with
      | none =>
        rw [ho] at h1 h2
        dsimp only [outT] at h1 h2 ⊢
        walk_at "w"
        exact h1 rfl
      | some x =>
        rw [ho] at h1 h2
        dsimp only [outT] at h1 h2 ⊢
        walk_at "w"
        exact h2 rfl
    walk_at "w"
    refine v_lenK (xs := (L.filter fun S => (outF b r cols S).isSome).map fun S => outT (outF b r cols S)) rfl ?_
    rw [List.length_map, inS_all _ seen L hse]
    walk_at "w"
    rw [decide_eq_true rfl]
    exact trim_back (by simp) rfl q
end
section
variable {K : PySem.W.Frag}
theorem los_ki' {k : Nat} {b r m : Int} {es : List Dd} : los k [.int b, .int r, .lst (es.map encD), .int m] = true := by
  show (true && (true && (los k (es.map encD) && (true && true)))) = true
  rw [los_D]
  rfl
theorem of_isIn {α : Type} [DecidableEq α] {a : α} {xs : List α} (h : isIn a xs = true) : a ∈ xs := of_decide_eq_true h
theorem keep_keep {b r : Int} {zs : List Dd} : keep b r (keep b r zs) = keep b r zs := by
  refine List.filter_congr fun t ht => ?_
  by_cases h : t ∈ zs
  · rw [isIn_of h]
    exact isIn_of (List.mem_filter.mpr ⟨ht, isIn_of h⟩)
  · rw [isIn_not h]
    exact isIn_not fun z => h (of_isIn (List.mem_filter.mp z).2)
theorem w_h1 {cs : List Cel} {Q : D → List Cel → Prop} {a b r : Int} {cols : List (List Int)} {es es2 : List Dd} {m m2 : Nat} {x0 x5 x6 x7 x8 : Option D} (g : Gd b r cols) (hes : ∀ t ∈ es, t ∈ allD b r) (hl8 : es.length ≤ 8) (hnd : es.Nodup) (hz : Gz cols.length (es.map toO) m)
    (hes2 : ∀ t ∈ es2, t ∈ allD b r) (hl82 : es2.length ≤ 8) (hz2 : Gz cols.length (es2.map toO) m2) (q : Q (.bl true) cs) :
    u_law_holds_1 K (Po.fn cs Q) ⟨[x0, some (.cell cs.length), some (.int b), some (.int r), some (.lst (cols.map encC)), x5, x6, x7, x8, some (kiD K b r es (m : Nat)), some (kiD K b r es2 (m2 : Nat)), some (.lst ((ordF cols.length (es.map toO) m).map encSl)), some (outsD b r cols (ordF cols.length (es.map toO) m)), some (.lst ((ordF cols.length (es2.map toO) m2).map encSl)), some (outsD b r cols (ordF cols.length (es2.map toO) m2)), none, none, none, none, none, none, none, none, none, none, none, none, none, none, none], cs ++ [plC a]⟩ := by
  unfold u_law_holds_1
  have fin := fun (a : Int) (x0 x1 x3 x4 x5 x6 x7 x8 x16 x17 x18 x19 x20 : Option D) => @w_h0 K cs Q a b r cols es es2 m m2 x0 x1 x3 x4 x5 x6 x7 x8 x16 x17 x18 x19 x20 g hes hl8 hnd hz hes2 hl82 hz2 q
  generalize u_law_holds_0 K = T at fin ⊢
  walk_at "w"
  refine v_listL (xs := cols.map encC) rfl ?_
  walk_at "w"
  refine ⟨_, _, cols, b, r, rfl, app_get, rfl, (fun _ z => nomatch z), g, .inl ⟨rfl, .inr ⟨_, _, _, _, app_set, rfl, los_sh, fun c hc => .inl hc, ?_⟩⟩⟩
  rw [show D.ins (He.ga K "Sheet") shN [.int b, .int r, .lst (cols.map encC), .int cols.length] = shD K b r cols from rfl]
  walk_at "w"
  refine ⟨cs.length, 59, a, rfl, app_get, by decide, by decide, fun w a1 w0 w1 => ?_⟩
  rw [app_set]
  walk_at "w"
  obtain ⟨p, hp, p2, p60⟩ : ∃ p : Int, p = 2 + w ∧ 2 ≤ p ∧ p ≤ 60 := ⟨_, rfl, by omega, by omega⟩
  rw [← hp]
  refine ⟨cs.length, _, a1, rfl, app_get, by split <;> omega, by split <;> omega, fun rest a2 _ _ => ?_⟩
  rw [app_set]
  walk_at "w"
  refine ⟨fun i e => ∃ x18 x19 x20, e = ⟨[x0, some (.cell cs.length), some (.int b), some (.int r), some (.lst (cols.map encC)), x5, x6, x7, x8, some (kiD K b r es (m : Nat)), some (kiD K b r es2 (m2 : Nat)), some (.lst ((ordF cols.length (es.map toO) m).map encSl)), some (outsD b r cols (ordF cols.length (es.map toO) m)), some (.lst ((ordF cols.length (es2.map toO) m2).map encSl)), some (outsD b r cols (ordF cols.length (es2.map toO) m2)), some (shD K b r cols), some (.int p), some (.int rest), x18, x19, x20, none, none, none, none, none, none, none, none, none], cs ++ [plC a2]⟩, ⟨none, none, none, rfl⟩, ?_, ?_⟩
  · rintro i d e1 hi ⟨x18, x19, x20, rfl⟩
    match i, hi with
    | 0, hi =>
      cases hi
      refine ⟨trivial, _, rfl, ?_⟩
      walk_at "w"
      refine ⟨b, r, p, rest, cols, es, m, rfl, g, hes, hl8, hz, p2, p60, ?_⟩
      walk_at "w"
      exact ⟨_, _, _, rfl⟩
    | 1, hi =>
      cases hi
      refine ⟨trivial, _, rfl, ?_⟩
      walk_at "w"
      refine ⟨b, r, p, rest, cols, es2, m2, rfl, g, hes2, hl82, hz2, p2, p60, ?_⟩
      walk_at "w"
      exact ⟨_, _, _, rfl⟩
    | 2, hi =>
      cases hi
      refine ⟨trivial, _, rfl, ?_⟩
      walk_at "w"
      refine ⟨b, r, p, rest, cols, es, m, rfl, g, hes, hl8, hz, p2, p60, ?_⟩
      walk_at "w"
      exact ⟨_, _, _, rfl⟩
  · rintro e1 ⟨x18, x19, x20, rfl⟩
    refine ⟨trivial, ?_⟩
    walk_at "w"
    exact fin _ _ _ _ _ _ _ _ _ _ _ _ _ _
theorem st_holds {a : D} : startD N_law_holds [a] = [some a, none, none, none, none, none, none, none, none, none, none, none, none, none, none, none, none, none, none, none, none, none, none, none, none, none, none, none, none, none] := rfl
theorem len_law_holds : ∀ ds cs Q, sp_law_holds K ds cs Q → ds.length = 1 := by rintro ds cs Q ⟨_, rfl, _⟩; rfl
theorem kp8 {b r : Int} {ys : List Dd} (hnd : (allD b r).Nodup) (nd : ys.Nodup) (sub : ∀ t ∈ ys, t ∈ allD b r) : (keep b r ys).length = ys.length ∧ (keep b r ys).Nodup ∧ ∀ t ∈ keep b r ys, t ∈ allD b r := by
  refine ⟨?_, hnd.filter _, fun t ht => (List.mem_filter.mp ht).1⟩
  exact filter_len hnd nd sub
theorem vc_law_holds : ∀ ds cs Q, Lo ds cs → LoC cs → sp_law_holds K ds cs Q → t_law_holds K (Po.fn cs Q) ⟨startD N_law_holds ds, cs⟩ := by
  rintro ds cs Q hd hc ⟨c, rfl, q⟩
  rw [st_holds]
  unfold t_law_holds
  have fin := fun (a b r : Int) (cols : List (List Int)) (es es2 : List Dd) (m m2 : Nat) (x0 x5 x6 x7 x8 : Option D) g hes hl8 hnd hz hes2 hl82 hz2 => @w_h1 K cs Q a b r cols es es2 m m2 x0 x5 x6 x7 x8 g hes hl8 hnd hz hes2 hl82 hz2 q
  generalize u_law_holds_1 K = T at fin ⊢
  walk_at "w"
  refine ⟨c, 47, rfl, by decide, fun a => ?_⟩
  walk_at "w"
  refine ⟨cs.length, a, 4, 1, rfl, app_get, by decide, by decide, by decide, fun b r a1 cols g gn l6 l12 => ?_⟩
  rw [app_set]
  walk_at "w"
  refine ⟨cs.length, 4, a1, rfl, app_get, by decide, by decide, fun w a2 w0 w1 => ?_⟩
  rw [app_set]
  walk_at "w"
  refine ⟨cs.length, a2, b, r, 1 + w, rfl, app_get, g.b2, g.b12, g.r1, g.r4, by omega, by omega, fun ys a3 nd sub ln => ?_⟩
  rw [app_set]
  walk_at "w"
  refine ⟨b, r, rfl, g.b2, g.b12, g.r1, g.r4, .inl ?_⟩
  walk_at "w"
  have hnd := allD_nd g.b2 g.b12 g.r1 g.r4
  have hal := allD_len g.b2 g.b12 g.r1 g.r4
  refine v_lcF (e1 := ⟨_, _⟩) (allD b r) encD encD (fun t => isIn t ys) rfl (by omega) (fun Q1 Q2 i t ht h1 h2 => ?_) ?_
  · refine ⟨_, rfl, ?_⟩
    walk_at "w"
    refine v_inE encDE (a := t) (xs := ys) rfl rfl ?_
    refine ⟨_, rfl, ?_⟩
    cases hh : isIn t ys with
    | true =>
      rw [if_pos rfl]
      walk_at "w"
      exact h2 hh
    | false =>
      rw [if_neg Bool.false_ne_true]
      exact h1 hh
  walk_at "w"
  obtain ⟨k1, k2, k3⟩ := kp8 hnd nd sub
  refine ⟨cs.length, a3, b, r, keep b r ys, rfl, app_get, g.b2, g.b12, g.r1, g.r4, by omega, by omega, k2, k3, fun zs a4 znd zsub z1 z5 => ?_⟩
  rw [app_set]
  walk_at "w"
  obtain ⟨k4, k5, k6⟩ := kp8 hnd znd zsub
  refine ⟨cs.length, 2, a4, rfl, app_get, by decide, by decide, fun w2 a5 w20 w21 => ?_⟩
  rw [app_set]
  walk_at "w"
  refine ⟨cs.length, 2, a5, rfl, app_get, by decide, by decide, fun w3 a6 w30 w31 => ?_⟩
  rw [app_set]
  walk_at "w"
  obtain ⟨m, hm⟩ : ∃ m : Nat, 1 + w2 = (m : Int) := ⟨(1 + w2).toNat, by omega⟩
  obtain ⟨m2, hm2⟩ : ∃ m2 : Nat, 1 + w3 = (m2 : Int) := ⟨(1 + w3).toNat, by omega⟩
  rw [hm, hm2]
  rw [show List.filter (fun t => isIn t ys) (allD b r) = keep b r ys from rfl]
  have gk : Gk b r ys (m : Int) := ⟨gn, sub, nd, by omega, by omega, by omega, by omega⟩
  have gk2 : Gk b r (keep b r zs) (m2 : Int) := ⟨gn, k6, k5, by omega, by omega, by omega, by omega⟩
  have heD : (keep b r ys).map encD = ((keep b r ys).map toO).map encO := toO_map k3
  have heD2 : (keep b r zs).map encD = ((keep b r zs).map toO).map encO := toO_map k6
  have hl8 : ((keep b r ys).map toO).length ≤ 8 := by rw [List.length_map]; omega
  have hl82 : ((keep b r zs).map toO).length ≤ 8 := by rw [List.length_map]; omega
  have go : Go b r ((keep b r ys).map toO) := ⟨fun o ho => by obtain ⟨t, ht, rfl⟩ := List.mem_map.mp ho; exact (toO_enc (k3 t ht)).2.1, fun o ho => by obtain ⟨t, ht, rfl⟩ := List.mem_map.mp ho; exact (toO_enc (k3 t ht)).2.2, hl8⟩
  have go2 : Go b r ((keep b r zs).map toO) := ⟨fun o ho => by obtain ⟨t, ht, rfl⟩ := List.mem_map.mp ho; exact (toO_enc (k6 t ht)).2.1, fun o ho => by obtain ⟨t, ht, rfl⟩ := List.mem_map.mp ho; exact (toO_enc (k6 t ht)).2.2, hl82⟩
  have gz : Gz cols.length ((keep b r ys).map toO) m := gz_of (by omega) hl8 (by omega) (by omega)
  have gz2 : Gz cols.length ((keep b r zs).map toO) m2 := gz_of (by omega) hl82 (by omega) (by omega)
  refine v_ixLX ⟨_, atI_zero, ?_⟩
  walk_at "w"
  refine ⟨_, b, r, m, _, ys, rfl, rfl, (fun _ z => nomatch z), app_get, gk, ?_⟩
  rw [app_set]
  refine ⟨rfl, .inr ⟨_, _, _, _, rfl, rfl, los_ki', fun c hc => .inl hc, ?_⟩⟩
  rw [show D.ins (He.ga K "Kind") kiN [.int b, .int r, .lst ((keep b r ys).map encD), .int (m : Int)] = kiD K b r (keep b r ys) m from rfl]
  walk_at "w"
  refine v_listL (xs := (keep b r zs).map encD) rfl ?_
  walk_at "w"
  refine v_ixLX ⟨_, atI_one, ?_⟩
  walk_at "w"
  refine ⟨_, b, r, m2, _, keep b r zs, rfl, rfl, (fun _ z => nomatch z), app_get, gk2, ?_⟩
  rw [app_set]
  refine ⟨rfl, .inr ⟨_, _, _, _, rfl, rfl, los_ki', fun c hc => .inl hc, ?_⟩⟩
  rw [keep_keep, show D.ins (He.ga K "Kind") kiN [.int b, .int r, .lst ((keep b r zs).map encD), .int (m2 : Int)] = kiD K b r (keep b r zs) m2 from rfl]
  walk_at "w"
  refine v_lenK (xs := cols.map encC) rfl ?_
  rw [List.length_map]
  walk_at "w"
  refine v_ixLX ⟨_, atI_zero, ?_⟩
  walk_at "w"
  refine ⟨cols.length, (keep b r ys).map toO, m, by rw [heD], gz, hl8, go.ne, ?_⟩
  walk_at "w"
  refine ⟨b, r, cols, ordF cols.length ((keep b r ys).map toO) m, rfl, g, (fun S hS => (ordF_mem go hS).1), gz.z, ?_⟩
  walk_at "w"
  refine v_lenK (xs := cols.map encC) rfl ?_
  rw [List.length_map]
  walk_at "w"
  refine v_ixLX ⟨_, atI_one, ?_⟩
  walk_at "w"
  refine ⟨cols.length, (keep b r zs).map toO, m2, by rw [heD2], gz2, hl82, go2.ne, ?_⟩
  walk_at "w"
  refine ⟨b, r, cols, ordF cols.length ((keep b r zs).map toO) m2, rfl, g, (fun S hS => (ordF_mem go2 hS).1), gz2.z, ?_⟩
  walk_at "w"
  exact fin _ b r cols (keep b r ys) (keep b r zs) m m2 _ _ _ _ _ g k3 (by omega) k2 gz k6 (by omega) gz2
end
section
variable {K : PySem.W.Frag}
theorem st_lawF {a : D} : startD N_law [a] = [some a, none] := rfl
theorem len_law : ∀ ds cs Q, sp_law K ds cs Q → ds.length = 1 := by rintro ds cs Q ⟨_, rfl, _⟩; rfl
theorem vc_law : ∀ ds cs Q, Lo ds cs → LoC cs → sp_law K ds cs Q → t_law K (Po.fn cs Q) ⟨startD N_law ds, cs⟩ := by
  rintro ds cs Q hd hc ⟨ns, rfl, hl, rfl, q⟩
  rw [st_lawF]
  unfold t_law
  walk_at "w"
  refine v_catF (xs := ns.map .int) (ys := [4].map .int) rfl rfl (by rw [List.length_map, List.length_map]; show _ + 1 ≤ _; omega) ?_
  rw [← List.map_append]
  walk_at "w"
  refine v_slL (xs := (ns ++ [4]).map .int) rfl (fun _ z => nomatch z) (fun _ z => nomatch z) ?_
  rw [show (some (2 : Int)) = some ((2 : Nat) : Int) from rfl, cut_to]
  walk_at "w"
  refine ⟨fun i e => ∃ cs' x, e = ⟨[some (.fro (ns.map .int)), x], cs'⟩, ⟨[], none, rfl⟩, ?_, ?_⟩
  · rintro i d e1 hi ⟨cs', x, rfl⟩
    rw [List.getElem?_map, Option.map_eq_some_iff] at hi
    obtain ⟨c, _, rfl⟩ := hi
    refine ⟨trivial, _, rfl, ?_⟩
    walk_at "w"
    refine ⟨c, rfl, ?_⟩
    walk_at "w"
    exact ⟨_, _, rfl⟩
  · rintro e1 ⟨cs', x, rfl⟩
    refine ⟨trivial, ?_⟩
    walk_at "w"
    exact .inl (q _)
end
section
variable {P : Program} {w : World} {K : PySem.W.Frag} {mg : Str → Option Value} {base : Heap}
theorem ok_law_pool (T : Txt K mg) : Good P w K mg base 2 (He.ga K "_law_pool") ["cell", "salt"] (sp_law_pool K) :=
  good_of T.F_law_pool sc_law_pool len_law_pool (fun _ _ _ _ _ _ us hl => match us, hl with | [_, _], _ => rfl) (d_law_pool T ) vc_law_pool
theorem ok_law_draw (T : Txt K mg) : Good P w K mg base 2 (He.ga K "_law_draw") ["pool", "many"] (sp_law_draw K) :=
  good_of T.F_law_draw sc_law_draw len_law_draw (fun _ _ _ _ _ _ us hl => match us, hl with | [_, _], _ => rfl) (d_law_draw T ) vc_law_draw
theorem ok_law_power (T : Txt K mg) : Good P w K mg base 2 (He.ga K "_law_power") ["base", "many"] (sp_law_power K) :=
  good_of T.F_law_power sc_law_power len_law_power (fun _ _ _ _ _ _ us hl => match us, hl with | [_, _], _ => rfl) (d_law_power T ) vc_law_power
theorem ok_law_sheet (T : Txt K mg) : Good P w K mg base 5 (He.ga K "_law_sheet") ["pool", "most_columns", "least_columns"] (sp_law_sheet K) :=
  good_of T.F_law_sheet sc_law_sheet len_law_sheet (fun _ _ _ _ _ _ us hl => match us, hl with | [_, _, _], _ => rfl) (d_law_sheet T (ok_law_draw T) (ok_law_power T)) vc_law_sheet
theorem ok_law_all_deeds (T : Txt K mg) : Good P w K mg base 2 (He.ga K "_law_all_deeds") ["base", "rows"] (sp_law_all_deeds K) :=
  good_of T.F_law_all_deeds sc_law_all_deeds len_law_all_deeds (fun _ _ _ _ _ _ us hl => match us, hl with | [_, _], _ => rfl) (d_law_all_deeds T ) vc_law_all_deeds
theorem ok_law_some_deeds (T : Txt K mg) : Good P w K mg base 5 (He.ga K "_law_some_deeds") ["pool", "base", "rows", "many"] (sp_law_some_deeds K) :=
  good_of T.F_law_some_deeds sc_law_some_deeds len_law_some_deeds (fun _ _ _ _ _ _ us hl => match us, hl with | [_, _, _, _], _ => rfl) (d_law_some_deeds T (ok_law_all_deeds T) (ok_law_draw T)) vc_law_some_deeds
theorem ok_law_beside (T : Txt K mg) : Good P w K mg base 8 (He.ga K "_law_beside") ["pool", "base", "rows", "deeds"] (sp_law_beside K) :=
  good_of T.F_law_beside sc_law_beside len_law_beside (fun _ _ _ _ _ _ us hl => match us, hl with | [_, _, _, _], _ => rfl) (d_law_beside T (ok_law_some_deeds T) (ok_law_draw T) (ok_law_all_deeds T)) vc_law_beside
theorem ok_is_integer (T : Txt K mg) : Good P w K mg base 2 (He.ga K "is_integer") ["value"] (sp_is_integer K) :=
  good_of T.F_is_integer sc_is_integer len_is_integer (fun _ _ _ _ _ _ us hl => match us, hl with | [_], _ => rfl) (d_is_integer T ) vc_is_integer
theorem ok_number_of_columns (T : Txt K mg) : Good P w K mg base 2 (He.ga K "number_of_columns") ["base", "rows"] (sp_number_of_columns K) :=
  good_of T.F_number_of_columns sc_number_of_columns len_number_of_columns (fun _ _ _ _ _ _ us hl => match us, hl with | [_, _], _ => rfl) (d_number_of_columns T ) vc_number_of_columns
theorem ok_is_deed (T : Txt K mg) : Good P w K mg base 5 (He.ga K "is_deed") ["value", "base", "rows"] (sp_is_deed K) :=
  good_of T.F_is_deed sc_is_deed len_is_deed (fun _ _ _ _ _ _ us hl => match us, hl with | [_, _, _], _ => rfl) (d_is_deed T (ok_is_integer T)) vc_is_deed
theorem ok_all_deeds (T : Txt K mg) : Good P w K mg base 2 (He.ga K "all_deeds") ["base", "rows"] (sp_all_deeds K) :=
  good_of T.F_all_deeds sc_all_deeds len_all_deeds (fun _ _ _ _ _ _ us hl => match us, hl with | [_, _], _ => rfl) (d_all_deeds T ) vc_all_deeds
theorem ok_Kind_init (T : Txt K mg) : Good P w K mg base 8 (He.ma K (He.ga K "Kind") "__init__") ["self", "base", "rows", "deeds", "most"] (sp_Kind_init K) :=
  good_of T.F_Kind_init sc_Kind_init len_Kind_init (fun _ _ _ _ _ _ us hl => match us, hl with | [_, _, _, _, _], _ => rfl) (d_Kind_init T (ok_is_integer T) (ok_number_of_columns T) (ok_is_deed T) (ok_all_deeds T)) vc_Kind_init
theorem ok_law_ordered (T : Txt K mg) : Good P w K mg base 2 (He.ga K "_law_ordered") ["many", "deeds", "most"] (sp_law_ordered K) :=
  good_of T.F_law_ordered sc_law_ordered len_law_ordered (fun _ _ _ _ _ _ us hl => match us, hl with | [_, _, _], _ => rfl) (d_law_ordered T ) vc_law_ordered
theorem ok_law_run (T : Txt K mg) : Good P w K mg base 2 (He.ga K "_law_run") ["base", "cols", "slips"] (sp_law_run K) :=
  good_of T.F_law_run sc_law_run len_law_run (fun _ _ _ _ _ _ us hl => match us, hl with | [_, _, _], _ => rfl) (d_law_run T ) vc_law_run
theorem ok_law_outcomes (T : Txt K mg) : Good P w K mg base 5 (He.ga K "_law_outcomes") ["base", "cols", "lists"] (sp_law_outcomes K) :=
  good_of T.F_law_outcomes sc_law_outcomes len_law_outcomes (fun _ _ _ _ _ _ us hl => match us, hl with | [_, _, _], _ => rfl) (d_law_outcomes T (ok_law_run T)) vc_law_outcomes
theorem ok_is_column (T : Txt K mg) : Good P w K mg base 5 (He.ga K "is_column") ["value", "base", "rows"] (sp_is_column K) :=
  good_of T.F_is_column sc_is_column len_is_column (fun _ _ _ _ _ _ us hl => match us, hl with | [_, _, _], _ => rfl) (d_is_column T (ok_is_integer T)) vc_is_column
theorem ok_Sheet_init (T : Txt K mg) : Good P w K mg base 8 (He.ma K (He.ga K "Sheet") "__init__") ["self", "base", "rows", "columns"] (sp_Sheet_init K) :=
  good_of T.F_Sheet_init sc_Sheet_init len_Sheet_init (fun _ _ _ _ _ _ us hl => match us, hl with | [_, _, _, _], _ => rfl) (d_Sheet_init T (ok_is_integer T) (ok_is_column T)) vc_Sheet_init
theorem ok_law_alike_0 (T : Txt K mg) : Good P w K mg base 2 (He.ga K "_law_alike") ["told", "due"] (sp_law_alike_0 K) :=
  good_of T.F_law_alike_0 sc_law_alike_0 len_law_alike_0 (fun _ _ _ _ _ _ us hl => match us, hl with | [_, _], _ => rfl) (d_law_alike_0 T ) vc_law_alike_0
theorem ok_law_alike_1 (T : Txt K mg) : Good P w K mg base 5 (He.ga K "_law_alike") ["told", "due"] (sp_law_alike_1 K) :=
  good_of T.F_law_alike_1 sc_law_alike_1 len_law_alike_1 (fun _ _ _ _ _ _ us hl => match us, hl with | [_, _], _ => rfl) (d_law_alike_1 T (ok_law_alike_0 T)) vc_law_alike_1
theorem ok_law_alike_2 (T : Txt K mg) : Good P w K mg base 8 (He.ga K "_law_alike") ["told", "due"] (sp_law_alike_2 K) :=
  good_of T.F_law_alike_2 sc_law_alike_2 len_law_alike_2 (fun _ _ _ _ _ _ us hl => match us, hl with | [_, _], _ => rfl) (d_law_alike_2 T (ok_law_alike_1 T)) vc_law_alike_2
theorem ok_law_alike_3 (T : Txt K mg) : Good P w K mg base 11 (He.ga K "_law_alike") ["told", "due"] (sp_law_alike_3 K) :=
  good_of T.F_law_alike_3 sc_law_alike_3 len_law_alike_3 (fun _ _ _ _ _ _ us hl => match us, hl with | [_, _], _ => rfl) (d_law_alike_3 T (ok_law_alike_2 T)) vc_law_alike_3
theorem ok_law_alike_4 (T : Txt K mg) : Good P w K mg base 14 (He.ga K "_law_alike") ["told", "due"] (sp_law_alike_4 K) :=
  good_of T.F_law_alike_4 sc_law_alike_4 len_law_alike_4 (fun _ _ _ _ _ _ us hl => match us, hl with | [_, _], _ => rfl) (d_law_alike_4 T (ok_law_alike_3 T)) vc_law_alike_4
theorem ok_check_lot (T : Txt K mg) : Good P w K mg base 2 (He.ga K "check_lot") ["lot"] (sp_check_lot K) :=
  good_of T.F_check_lot sc_check_lot len_check_lot (fun _ _ _ _ _ _ us hl => match us, hl with | [_], _ => rfl) (d_check_lot T ) vc_check_lot
theorem ok_Kind_base (T : Txt K mg) : Good P w K mg base 2 (pga K (He.ga K "Kind") "base") ["self"] (sp_Kind_base K) :=
  good_of T.F_Kind_base sc_Kind_base len_Kind_base (fun _ _ _ _ _ _ us hl => match us, hl with | [_], _ => rfl) (d_Kind_base T ) vc_Kind_base
theorem ok_Sheet_base (T : Txt K mg) : Good P w K mg base 2 (pga K (He.ga K "Sheet") "base") ["self"] (sp_Sheet_base K) :=
  good_of T.F_Sheet_base sc_Sheet_base len_Sheet_base (fun _ _ _ _ _ _ us hl => match us, hl with | [_], _ => rfl) (d_Sheet_base T ) vc_Sheet_base
theorem ok_Kind_rows (T : Txt K mg) : Good P w K mg base 2 (pga K (He.ga K "Kind") "rows") ["self"] (sp_Kind_rows K) :=
  good_of T.F_Kind_rows sc_Kind_rows len_Kind_rows (fun _ _ _ _ _ _ us hl => match us, hl with | [_], _ => rfl) (d_Kind_rows T ) vc_Kind_rows
theorem ok_Sheet_rows (T : Txt K mg) : Good P w K mg base 2 (pga K (He.ga K "Sheet") "rows") ["self"] (sp_Sheet_rows K) :=
  good_of T.F_Sheet_rows sc_Sheet_rows len_Sheet_rows (fun _ _ _ _ _ _ us hl => match us, hl with | [_], _ => rfl) (d_Sheet_rows T ) vc_Sheet_rows
theorem ok_check_alike (T : Txt K mg) : Good P w K mg base 5 (He.ga K "check_alike") ["kind", "sheet"] (sp_check_alike K) :=
  good_of T.F_check_alike sc_check_alike len_check_alike (fun _ _ _ _ _ _ us hl => match us, hl with | [_, _], _ => rfl) (d_check_alike T (ok_Kind_base T) (ok_Sheet_base T) (ok_Kind_rows T) (ok_Sheet_rows T)) vc_check_alike
theorem ok_Kind_most (T : Txt K mg) : Good P w K mg base 2 (pga K (He.ga K "Kind") "most") ["self"] (sp_Kind_most K) :=
  good_of T.F_Kind_most sc_Kind_most len_Kind_most (fun _ _ _ _ _ _ us hl => match us, hl with | [_], _ => rfl) (d_Kind_most T ) vc_Kind_most
theorem ok_Sheet_len (T : Txt K mg) : Good P w K mg base 2 (He.ma K (He.ga K "Sheet") "__len__") ["self"] (sp_Sheet_len K) :=
  good_of T.F_Sheet_len sc_Sheet_len len_Sheet_len (fun _ _ _ _ _ _ us hl => match us, hl with | [_], _ => rfl) (d_Sheet_len T ) vc_Sheet_len
theorem ok_Kind_deeds (T : Txt K mg) : Good P w K mg base 2 (pga K (He.ga K "Kind") "deeds") ["self"] (sp_Kind_deeds K) :=
  good_of T.F_Kind_deeds sc_Kind_deeds len_Kind_deeds (fun _ _ _ _ _ _ us hl => match us, hl with | [_], _ => rfl) (d_Kind_deeds T ) vc_Kind_deeds
theorem ok_further_slips (T : Txt K mg) : Good P w K mg base 5 (He.ga K "further_slips") ["kind", "sheet", "slips"] (sp_further_slips K) :=
  good_of T.F_further_slips sc_further_slips len_further_slips (fun _ _ _ _ _ _ us hl => match us, hl with | [_, _, _], _ => rfl) (d_further_slips T (ok_Kind_most T) (ok_Sheet_len T) (ok_Kind_deeds T)) vc_further_slips
theorem ok_Sheet_columns (T : Txt K mg) : Good P w K mg base 2 (pga K (He.ga K "Sheet") "columns") ["self"] (sp_Sheet_columns K) :=
  good_of T.F_Sheet_columns sc_Sheet_columns len_Sheet_columns (fun _ _ _ _ _ _ us hl => match us, hl with | [_], _ => rfl) (d_Sheet_columns T ) vc_Sheet_columns
theorem ok_Adding_init (T : Txt K mg) : Good P w K mg base 5 (He.ma K (He.ga K "Adding") "__init__") ["self", "sheet"] (sp_Adding_init K) :=
  good_of T.F_Adding_init sc_Adding_init len_Adding_init (fun _ _ _ _ _ _ us hl => match us, hl with | [_, _], _ => rfl) (d_Adding_init T (ok_Sheet_base T) (ok_Sheet_columns T)) vc_Adding_init
theorem ok_is_slip (T : Txt K mg) : Good P w K mg base 8 (He.ga K "is_slip") ["value", "sheet", "low"] (sp_is_slip K) :=
  good_of T.F_is_slip sc_is_slip len_is_slip (fun _ _ _ _ _ _ us hl => match us, hl with | [_, _, _], _ => rfl) (d_is_slip T (ok_is_integer T) (ok_Sheet_len T) (ok_is_deed T) (ok_Sheet_rows T) (ok_Sheet_base T)) vc_is_slip
theorem ok_Adding_free (T : Txt K mg) : Good P w K mg base 2 (He.ma K (He.ga K "Adding") "free") ["self"] (sp_Adding_free K) :=
  good_of T.F_Adding_free sc_Adding_free len_Adding_free (fun _ _ _ _ _ _ us hl => match us, hl with | [_], _ => rfl) (d_Adding_free T ) vc_Adding_free
theorem ok_InvalidSlips_init (T : Txt K mg) : GoodIx P w K mg base 2 (He.ma K (He.ga K "InvalidSlips") "__init__") "InvalidSlips" :=
  goodIx_of T.F_InvalidSlips_init sc_InvalidSlips_init (fun _ _ _ _ _ _ us hl => match us, hl with | [_, _], _ => rfl) d_InvalidSlips_init T.ox_InvalidSlips T.nx_InvalidSlips T.sm_InvalidSlips_init
theorem ok_taken (T : Txt K mg) : Good P w K mg base 2 (He.ga K "taken") ["base", "column", "before", "deed"] (sp_taken K) :=
  good_of T.F_taken sc_taken len_taken (fun _ _ _ _ _ _ us hl => match us, hl with | [_, _, _, _], _ => rfl) (d_taken T ) vc_taken
theorem ok_done (T : Txt K mg) : Good P w K mg base 5 (He.ga K "done") ["base", "column", "before", "carry", "deed"] (sp_done K) :=
  good_of T.F_done sc_done len_done (fun _ _ _ _ _ _ us hl => match us, hl with | [_, _, _, _, _], _ => rfl) (d_done T (ok_taken T)) vc_done
theorem ok_Adding_do (T : Txt K mg) : Good P w K mg base 8 (He.ma K (He.ga K "Adding") "do") ["self", "deed"] (sp_Adding_do K) :=
  good_of T.F_Adding_do sc_Adding_do len_Adding_do (fun _ _ _ _ _ _ us hl => match us, hl with | [_, _], _ => rfl) (d_Adding_do T (ok_done T)) vc_Adding_do
theorem ok_Adding_do_until (T : Txt K mg) : Good P w K mg base 11 (He.ma K (He.ga K "Adding") "do_until") ["self", "column"] (sp_Adding_do_until K) :=
  good_of T.F_Adding_do_until sc_Adding_do_until len_Adding_do_until (fun _ _ _ _ _ _ us hl => match us, hl with | [_, _], _ => rfl) (d_Adding_do_until T (ok_Adding_do T)) vc_Adding_do_until
theorem ok_Written_init (T : Txt K mg) : Good P w K mg base 2 (He.ma K (He.ga K "Written") "__init__") ["self", "base", "figures", "last"] (sp_Written_init K) :=
  good_of T.F_Written_init sc_Written_init len_Written_init (fun _ _ _ _ _ _ us hl => match us, hl with | [_, _, _, _], _ => rfl) (d_Written_init T ) vc_Written_init
theorem ok_Adding_result (T : Txt K mg) : Good P w K mg base 14 (He.ma K (He.ga K "Adding") "result") ["self"] (sp_Adding_result K) :=
  good_of T.F_Adding_result sc_Adding_result len_Adding_result (fun _ _ _ _ _ _ us hl => match us, hl with | [_], _ => rfl) (d_Adding_result T (ok_Adding_do_until T) (ok_Written_init T)) vc_Adding_result
theorem ok_add_with (T : Txt K mg) : GoodX P w K mg base 17 (He.ga K "add_with") ["sheet", "slips"] (sp_add_with K) :=
  good_ofX T.F_add_with sc_add_with len_add_with (fun _ _ _ _ _ _ us hl => match us, hl with | [_, _], _ => rfl) (d_add_with T (ok_Adding_init T) (ok_is_slip T) (ok_Adding_free T) (ok_InvalidSlips_init T) (ok_Adding_do_until T) (ok_Adding_do T) (ok_Adding_result T)) vc_add_with
theorem ok_outcome (T : Txt K mg) : Good P w K mg base 20 (He.ga K "outcome") ["sheet", "slips"] (sp_outcome K) :=
  good_of T.F_outcome sc_outcome len_outcome (fun _ _ _ _ _ _ us hl => match us, hl with | [_, _], _ => rfl) (d_outcome T (ok_add_with T)) vc_outcome
theorem ok_all_outcomes (T : Txt K mg) : Good P w K mg base 23 (He.ga K "all_outcomes") ["kind", "sheet"] (sp_all_outcomes K) :=
  good_of T.F_all_outcomes sc_all_outcomes len_all_outcomes (fun _ _ _ _ _ _ us hl => match us, hl with | [_, _], _ => rfl) (d_all_outcomes T (ok_further_slips T) (ok_outcome T)) vc_all_outcomes
theorem ok_Written_value (T : Txt K mg) : Good P w K mg base 2 (pga K (He.ga K "Written") "value") ["self"] (sp_Written_value K) :=
  good_of T.F_Written_value sc_Written_value len_Written_value (fun _ _ _ _ _ _ us hl => match us, hl with | [_], _ => rfl) (d_Written_value T ) vc_Written_value
theorem ok_Written_rest (T : Txt K mg) : Good P w K mg base 5 (He.ma K (He.ga K "Written") "rest") ["self", "r"] (sp_Written_rest K) :=
  good_of T.F_Written_rest sc_Written_rest len_Written_rest (fun _ _ _ _ _ _ us hl => match us, hl with | [_, _], _ => rfl) (d_Written_rest T (ok_Written_value T)) vc_Written_rest
theorem ok_slips_shown (T : Txt K mg) : Good P w K mg base 26 (He.ga K "slips_shown") ["kind", "sheet", "lot", "shown"] (sp_slips_shown K) :=
  good_of T.F_slips_shown sc_slips_shown len_slips_shown (fun _ _ _ _ _ _ us hl => match us, hl with | [_, _, _, _], _ => rfl) (d_slips_shown T (ok_check_lot T) (ok_check_alike T) (ok_all_outcomes T) (ok_Written_rest T)) vc_slips_shown
theorem ok_law_leaves (T : Txt K mg) : Good P w K mg base 2 (He.ga K "_law_leaves") ["base", "run", "r", "rest"] (sp_law_leaves K) :=
  good_of T.F_law_leaves sc_law_leaves len_law_leaves (fun _ _ _ _ _ _ us hl => match us, hl with | [_, _, _, _], _ => rfl) (d_law_leaves T ) vc_law_leaves
theorem ok_law_shown_right (T : Txt K mg) : Good P w K mg base 29 (He.ga K "_law_shown_right") ["kind", "sheet", "base", "lists", "results", "r", "rest"] (sp_law_shown_right K) :=
  good_of T.F_law_shown_right sc_law_shown_right len_law_shown_right (fun _ _ _ _ _ _ us hl => match us, hl with | [_, _, _, _, _, _, _], _ => rfl) (d_law_shown_right T (ok_law_alike_4 T) (ok_slips_shown T) (ok_law_leaves T)) vc_law_shown_right
theorem ok_Written_base (T : Txt K mg) : Good P w K mg base 2 (pga K (He.ga K "Written") "base") ["self"] (sp_Written_base K) :=
  good_of T.F_Written_base sc_Written_base len_Written_base (fun _ _ _ _ _ _ us hl => match us, hl with | [_], _ => rfl) (d_Written_base T ) vc_Written_base
theorem ok_Written_eq (T : Txt K mg) : Good P w K mg base 2 (He.ma K (He.ga K "Written") "__eq__") ["self", "other"] (sp_Written_eq K) :=
  good_of T.F_Written_eq sc_Written_eq len_Written_eq (fun _ _ _ _ _ _ us hl => match us, hl with | [_, _], _ => rfl) (d_Written_eq T ) vc_Written_eq
theorem ok_slips_for (T : Txt K mg) : Good P w K mg base 26 (He.ga K "slips_for") ["kind", "sheet", "written"] (sp_slips_for K) :=
  good_of T.F_slips_for sc_slips_for len_slips_for (fun _ _ _ _ _ _ us hl => match us, hl with | [_, _, _], _ => rfl) (d_slips_for T (ok_check_alike T) (ok_Written_base T) (ok_Sheet_base T) (ok_all_outcomes T) (ok_Written_eq T)) vc_slips_for
theorem ok_law_told_right (T : Txt K mg) : Good P w K mg base 2 (He.ga K "_law_told_right") ["told", "its", "lists", "results"] (sp_law_told_right K) :=
  good_of T.F_law_told_right sc_law_told_right len_law_told_right (fun _ _ _ _ _ _ us hl => match us, hl with | [_, _, _, _], _ => rfl) (d_law_told_right T ) vc_law_told_right
theorem ok_law_holds (T : Txt K mg) : Good P w K mg base 32 (He.ga K "_law_holds") ["cell"] (sp_law_holds K) :=
  good_of T.F_law_holds sc_law_holds len_law_holds (fun _ _ _ _ _ _ us hl => match us, hl with | [_], _ => rfl) (d_law_holds T (ok_law_pool T) (ok_law_sheet T) (ok_law_some_deeds T) (ok_law_draw T) (ok_law_all_deeds T) (ok_law_beside T) (ok_Kind_init T) (ok_law_ordered T) (ok_law_outcomes T) (ok_Sheet_init T) (ok_law_shown_right T) (ok_add_with T) (ok_slips_for T) (ok_law_alike_4 T) (ok_law_told_right T)) vc_law_holds
theorem okf_law (T : Txt K mg) {fd : FuncData} (F : FunD K "law" "law" (defArgs s_law) (defBody s_law) (defScope s_law) [] [] (He.ga K "law") fd) : FnOk P w K mg base CX0 35 (He.ga K "law") fd ["script"] (spD K spLaw) :=
  fn_d F sc_law (len_law (K := K)) (d_law T (ok_law_holds T)) vc_law
end
theorem txt {K : PySem.W.Frag} {h : Heap} {mg : Str → Option Value} (X : K.In h) (G : h.Ns mainGlobals mg) (c : SaysY fxs fns K) : Txt K mg where
  g_law_holds := He.glo_ok X G (c.fact 0 (f := .fa (.glo "_law_holds")) rfl)
  g_law_pool := He.glo_ok X G (c.fact 1 (f := .fa (.glo "_law_pool")) rfl)
  g_law_sheet := He.glo_ok X G (c.fact 2 (f := .fa (.glo "_law_sheet")) rfl)
  g_law_some_deeds := He.glo_ok X G (c.fact 3 (f := .fa (.glo "_law_some_deeds")) rfl)
  g_law_draw := He.glo_ok X G (c.fact 4 (f := .fa (.glo "_law_draw")) rfl)
  g_law_all_deeds := He.glo_ok X G (c.fact 5 (f := .fa (.glo "_law_all_deeds")) rfl)
  g_law_beside := He.glo_ok X G (c.fact 6 (f := .fa (.glo "_law_beside")) rfl)
  g_Kind := He.glo_ok X G (c.fact 7 (f := .fa (.glo "Kind")) rfl)
  g_law_ordered := He.glo_ok X G (c.fact 8 (f := .fa (.glo "_law_ordered")) rfl)
  g_law_outcomes := He.glo_ok X G (c.fact 9 (f := .fa (.glo "_law_outcomes")) rfl)
  g_Sheet := He.glo_ok X G (c.fact 10 (f := .fa (.glo "Sheet")) rfl)
  g_law_shown_right := He.glo_ok X G (c.fact 11 (f := .fa (.glo "_law_shown_right")) rfl)
  g_add_with := He.glo_ok X G (c.fact 12 (f := .fa (.glo "add_with")) rfl)
  g_slips_for := He.glo_ok X G (c.fact 13 (f := .fa (.glo "slips_for")) rfl)
  g_law_alike := He.glo_ok X G (c.fact 14 (f := .fa (.glo "_law_alike")) rfl)
  g_law_told_right := He.glo_ok X G (c.fact 15 (f := .fa (.glo "_law_told_right")) rfl)
  g_law_power := He.glo_ok X G (c.fact 16 (f := .fa (.glo "_law_power")) rfl)
  g_is_integer := He.glo_ok X G (c.fact 17 (f := .fa (.glo "is_integer")) rfl)
  g_number_of_columns := He.glo_ok X G (c.fact 18 (f := .fa (.glo "number_of_columns")) rfl)
  g_is_deed := He.glo_ok X G (c.fact 19 (f := .fa (.glo "is_deed")) rfl)
  g_all_deeds := He.glo_ok X G (c.fact 20 (f := .fa (.glo "all_deeds")) rfl)
  g_PLAIN := He.glo_ok X G (c.fact 21 (f := .fa (.glo "PLAIN")) rfl)
  g_law_run := He.glo_ok X G (c.fact 22 (f := .fa (.glo "_law_run")) rfl)
  g_is_column := He.glo_ok X G (c.fact 23 (f := .fa (.glo "is_column")) rfl)
  g_slips_shown := He.glo_ok X G (c.fact 24 (f := .fa (.glo "slips_shown")) rfl)
  g_law_leaves := He.glo_ok X G (c.fact 25 (f := .fa (.glo "_law_leaves")) rfl)
  g_check_lot := He.glo_ok X G (c.fact 26 (f := .fa (.glo "check_lot")) rfl)
  g_check_alike := He.glo_ok X G (c.fact 27 (f := .fa (.glo "check_alike")) rfl)
  g_all_outcomes := He.glo_ok X G (c.fact 28 (f := .fa (.glo "all_outcomes")) rfl)
  g_further_slips := He.glo_ok X G (c.fact 29 (f := .fa (.glo "further_slips")) rfl)
  g_outcome := He.glo_ok X G (c.fact 30 (f := .fa (.glo "outcome")) rfl)
  g_InvalidSlips := He.glo_ok X G (c.fact 31 (f := .fa (.glo "InvalidSlips")) rfl)
  g_Adding := He.glo_ok X G (c.fact 32 (f := .fa (.glo "Adding")) rfl)
  g_is_slip := He.glo_ok X G (c.fact 33 (f := .fa (.glo "is_slip")) rfl)
  g_done := He.glo_ok X G (c.fact 34 (f := .fa (.glo "done")) rfl)
  g_taken := He.glo_ok X G (c.fact 35 (f := .fa (.glo "taken")) rfl)
  g_Written := He.glo_ok X G (c.fact 36 (f := .fa (.glo "Written")) rfl)
  g_law := He.glo_ok X G (c.fact 37 (f := .fa (.glo "law")) rfl)
  c_Kind := He.cls_ok (c.fact 38 (f := .fa (.cls "Kind")) rfl)
  mk_Kind := He.mkr_ok (c.fact 39 (f := .fa (.mkr "Kind")) rfl)
  n_list := He.free_ok X G (c.fact 40 (f := .fa (.free "list")) rfl)
  n_len := He.free_ok X G (c.fact 41 (f := .fa (.free "len")) rfl)
  c_Sheet := He.cls_ok (c.fact 42 (f := .fa (.cls "Sheet")) rfl)
  mk_Sheet := He.mkr_ok (c.fact 43 (f := .fa (.mkr "Sheet")) rfl)
  n_min := He.free_ok X G (c.fact 44 (f := .fa (.free "min")) rfl)
  n_range := He.free_ok X G (c.fact 45 (f := .fa (.free "range")) rfl)
  n_int := He.free_ok X G (c.fact 46 (f := .fa (.free "int")) rfl)
  n_tuple := He.free_ok X G (c.fact 47 (f := .fa (.free "tuple")) rfl)
  ig_MOST_COLUMNS := He.int_ok X G (c.fact 48 (f := .fa (.int "MOST_COLUMNS" 1000)) rfl)
  n_isinstance := He.free_ok X G (c.fact 49 (f := .fa (.free "isinstance")) rfl)
  n_all := He.free_ok X G (c.fact 50 (f := .fa (.free "all")) rfl)
  ig_MOST_DEEDS := He.int_ok X G (c.fact 51 (f := .fa (.int "MOST_DEEDS" 8)) rfl)
  na_Kind_held_base := He.noat_ok (c.fact 52 (f := .fa (.noat "Kind" "held_base")) rfl)
  na_Kind_held_rows := He.noat_ok (c.fact 53 (f := .fa (.noat "Kind" "held_rows")) rfl)
  na_Kind_held_deeds := He.noat_ok (c.fact 54 (f := .fa (.noat "Kind" "held_deeds")) rfl)
  na_Kind_held_most := He.noat_ok (c.fact 55 (f := .fa (.noat "Kind" "held_most")) rfl)
  n_bool := He.free_ok X G (c.fact 56 (f := .fa (.free "bool")) rfl)
  n_str := He.free_ok X G (c.fact 57 (f := .fa (.free "str")) rfl)
  tg_PLAIN := He.tupB_ok (c.fact 58 (f := .tup "PLAIN" [.str "forget", .str "again", .str "swap", .str "out", .str "twice"]) rfl)
  n_sum := He.free_ok X G (c.fact 59 (f := .fa (.free "sum")) rfl)
  na_Sheet_held_base := He.noat_ok (c.fact 60 (f := .fa (.noat "Sheet" "held_base")) rfl)
  na_Sheet_held_rows := He.noat_ok (c.fact 61 (f := .fa (.noat "Sheet" "held_rows")) rfl)
  na_Sheet_held_columns := He.noat_ok (c.fact 62 (f := .fa (.noat "Sheet" "held_columns")) rfl)
  na_Sheet_size := He.noat_ok (c.fact 63 (f := .fa (.noat "Sheet" "size")) rfl)
  c_Written := He.cls_ok (c.fact 64 (f := .fa (.cls "Written")) rfl)
  m_Written_rest := He.meth_ok (c.fact 65 (f := .fa (.meth "Written" "rest")) rfl)
  p_Kind_base := prop_ok (c.fact 66 (f := .prop "Kind" "base") rfl)
  p_Sheet_base := prop_ok (c.fact 67 (f := .prop "Sheet" "base") rfl)
  p_Kind_rows := prop_ok (c.fact 68 (f := .prop "Kind" "rows") rfl)
  p_Sheet_rows := prop_ok (c.fact 69 (f := .prop "Sheet" "rows") rfl)
  p_Kind_most := prop_ok (c.fact 70 (f := .prop "Kind" "most") rfl)
  sm_Sheet_len := sm_ok (c.fact 71 (f := .sm "Sheet" "__len__") rfl)
  p_Kind_deeds := prop_ok (c.fact 72 (f := .prop "Kind" "deeds") rfl)
  xm_InvalidSlips := exm_okT (c.fact 73 (f := .exm "InvalidSlips" [("InvalidSlips", true)]) rfl)
  c_Adding := He.cls_ok (c.fact 74 (f := .fa (.cls "Adding")) rfl)
  mk_Adding := He.mkr_ok (c.fact 75 (f := .fa (.mkr "Adding")) rfl)
  n_enumerate := He.free_ok X G (c.fact 76 (f := .fa (.free "enumerate")) rfl)
  m_Adding_free := He.meth_ok (c.fact 77 (f := .fa (.meth "Adding" "free")) rfl)
  ox_InvalidSlips := oex_ok (c.fact 78 (f := .oex "InvalidSlips") rfl)
  nx_InvalidSlips := noix_ok (c.fact 79 (f := .noix "InvalidSlips") rfl)
  sm_InvalidSlips_init := sm_ok (c.fact 80 (f := .sm "InvalidSlips" "__init__") rfl)
  m_Adding_do_until := He.meth_ok (c.fact 81 (f := .fa (.meth "Adding" "do_until")) rfl)
  m_Adding_do := He.meth_ok (c.fact 82 (f := .fa (.meth "Adding" "do")) rfl)
  m_Adding_result := He.meth_ok (c.fact 83 (f := .fa (.meth "Adding" "result")) rfl)
  na_Adding_system := He.noat_ok (c.fact 84 (f := .fa (.noat "Adding" "system")) rfl)
  p_Sheet_columns := prop_ok (c.fact 85 (f := .prop "Sheet" "columns") rfl)
  na_Adding_given := He.noat_ok (c.fact 86 (f := .fa (.noat "Adding" "given")) rfl)
  na_Adding_at := He.noat_ok (c.fact 87 (f := .fa (.noat "Adding" "at")) rfl)
  na_Adding_written := He.noat_ok (c.fact 88 (f := .fa (.noat "Adding" "written")) rfl)
  na_Adding_carry := He.noat_ok (c.fact 89 (f := .fa (.noat "Adding" "carry")) rfl)
  na_Adding_waiting := He.noat_ok (c.fact 90 (f := .fa (.noat "Adding" "waiting")) rfl)
  mk_Written := He.mkr_ok (c.fact 91 (f := .fa (.mkr "Written")) rfl)
  na_Written_held_base := He.noat_ok (c.fact 92 (f := .fa (.noat "Written" "held_base")) rfl)
  na_Written_held_figures := He.noat_ok (c.fact 93 (f := .fa (.noat "Written" "held_figures")) rfl)
  na_Written_held_last := He.noat_ok (c.fact 94 (f := .fa (.noat "Written" "held_last")) rfl)
  p_Written_value := prop_ok (c.fact 95 (f := .prop "Written" "value") rfl)
  p_Written_base := prop_ok (c.fact 96 (f := .prop "Written" "base") rfl)
  sm_Written_eq := sm_ok (c.fact 97 (f := .sm "Written" "__eq__") rfl)
  ic_Written := insc_ok (c.fact 98 (f := .insc "Written") rfl)
  F_law_pool := c.def_ 0 (d := df_law_pool) rfl
  F_law_draw := c.def_ 1 (d := df_law_draw) rfl
  F_law_power := c.def_ 2 (d := df_law_power) rfl
  F_law_sheet := c.def_ 3 (d := df_law_sheet) rfl
  F_law_all_deeds := c.def_ 4 (d := df_law_all_deeds) rfl
  F_law_some_deeds := c.def_ 5 (d := df_law_some_deeds) rfl
  F_law_beside := c.def_ 6 (d := df_law_beside) rfl
  F_is_integer := c.def_ 7 (d := df_is_integer) rfl
  F_number_of_columns := c.def_ 8 (d := df_number_of_columns) rfl
  F_is_deed := c.def_ 9 (d := df_is_deed) rfl
  F_all_deeds := c.def_ 10 (d := df_all_deeds) rfl
  F_Kind_init := c.def_ 11 (d := df_Kind_init) rfl
  F_law_ordered := c.def_ 12 (d := df_law_ordered) rfl
  F_law_run := c.def_ 13 (d := df_law_run) rfl
  F_law_outcomes := c.def_ 14 (d := df_law_outcomes) rfl
  F_is_column := c.def_ 15 (d := df_is_column) rfl
  F_Sheet_init := c.def_ 16 (d := df_Sheet_init) rfl
  F_law_alike_0 := c.def_ 17 (d := df_law_alike_0) rfl
  F_law_alike_1 := c.def_ 18 (d := df_law_alike_1) rfl
  F_law_alike_2 := c.def_ 19 (d := df_law_alike_2) rfl
  F_law_alike_3 := c.def_ 20 (d := df_law_alike_3) rfl
  F_law_alike_4 := c.def_ 21 (d := df_law_alike_4) rfl
  F_check_lot := c.def_ 22 (d := df_check_lot) rfl
  F_Kind_base := c.def_ 23 (d := df_Kind_base) rfl
  F_Sheet_base := c.def_ 24 (d := df_Sheet_base) rfl
  F_Kind_rows := c.def_ 25 (d := df_Kind_rows) rfl
  F_Sheet_rows := c.def_ 26 (d := df_Sheet_rows) rfl
  F_check_alike := c.def_ 27 (d := df_check_alike) rfl
  F_Kind_most := c.def_ 28 (d := df_Kind_most) rfl
  F_Sheet_len := c.def_ 29 (d := df_Sheet_len) rfl
  F_Kind_deeds := c.def_ 30 (d := df_Kind_deeds) rfl
  F_further_slips := c.def_ 31 (d := df_further_slips) rfl
  F_Sheet_columns := c.def_ 32 (d := df_Sheet_columns) rfl
  F_Adding_init := c.def_ 33 (d := df_Adding_init) rfl
  F_is_slip := c.def_ 34 (d := df_is_slip) rfl
  F_Adding_free := c.def_ 35 (d := df_Adding_free) rfl
  F_InvalidSlips_init := c.def_ 36 (d := df_InvalidSlips_init) rfl
  F_taken := c.def_ 37 (d := df_taken) rfl
  F_done := c.def_ 38 (d := df_done) rfl
  F_Adding_do := c.def_ 39 (d := df_Adding_do) rfl
  F_Adding_do_until := c.def_ 40 (d := df_Adding_do_until) rfl
  F_Written_init := c.def_ 41 (d := df_Written_init) rfl
  F_Adding_result := c.def_ 42 (d := df_Adding_result) rfl
  F_add_with := c.def_ 43 (d := df_add_with) rfl
  F_outcome := c.def_ 44 (d := df_outcome) rfl
  F_all_outcomes := c.def_ 45 (d := df_all_outcomes) rfl
  F_Written_value := c.def_ 46 (d := df_Written_value) rfl
  F_Written_rest := c.def_ 47 (d := df_Written_rest) rfl
  F_slips_shown := c.def_ 48 (d := df_slips_shown) rfl
  F_law_leaves := c.def_ 49 (d := df_law_leaves) rfl
  F_law_shown_right := c.def_ 50 (d := df_law_shown_right) rfl
  F_Written_base := c.def_ 51 (d := df_Written_base) rfl
  F_Written_eq := c.def_ 52 (d := df_Written_eq) rfl
  F_slips_for := c.def_ 53 (d := df_slips_for) rfl
  F_law_told_right := c.def_ 54 (d := df_law_told_right) rfl
  F_law_holds := c.def_ 55 (d := df_law_holds) rfl
  F_law := c.def_ 56 (d := df_law) rfl
end LW
open PySem PySem.W PySem.Calls PyProof.Rows
set_option maxRecDepth 100000 in
set_option maxHeartbeats 8000000 in
theorem PySem.Challenge.cw_sumslips_k47_whole_results_part_the_slip_holds : PySem.Challenge.rw_sumslips_k47_whole_results_part_the_slip.Holds := by
  refine LW.head1 ?hc
  case hc =>
    refine L2.walk_ofE (l := PySem.Challenge.rw_sumslips_k47_whole_results_part_the_slip) (n := 63) (k := 35) (x := "script") (CX := L2.CX0) rfl (by decide) (by kernel_rfl) ⟨rfl, by decide, by decide⟩ ?F (fun _ _ _ _ z => z)
    intro w mg fa h Y G hmg0
    obtain ⟨K, KX, c⟩ := Y
    have hmg : mg ("law" : PySem.Str) = some (.ref fa) := hmg0
    have T := LW.txt KX G c
    have e := hmg.symm.trans T.g_law
    cases e
    obtain ⟨fd, F⟩ := T.F_law
    have b := L2.FunD.bindsA (ps := ["script"]) F fun _ _ _ _ _ _ us hl => match us, hl with | [_], _ => rfl
    exact ⟨K, fd, DL.spD K DL.spLaw, KX, fun s v => b s [v] rfl, fun H a ns hl _ hS => DL.law_says H a ns hl hS, fun base _ _ => LW.okf_law T F⟩
