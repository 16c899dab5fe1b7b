import PyProof.Rows.All
import Wide.All
import OpenK.AllK
import Wide.FinOn
import HandS.ForMost
import HandS.ForExc
import HandS.Defaults
import HandS.TupAny
import HandS.Wide
import HandS.HeadHook1
import HandS.HeadHook2
import HandS.Deep
import HandS.TupLe
import HandS.Zip
import HandS.RevRange
import HandS.More
import HandS.Property
import HandS.Style
import KE.KRevSl
import HandS.MakeKw
import PyProof.InstNe
import HandS.IsInst
import HandS.Head0
import HandS.Head1
import HandS.Head2
import HandS.HeadEnd
import PyProof.ReprRoads
import PySem.Challenge.RW_sharedborders_k03_edges_and_offsets
set_option Elab.async false
set_option linter.all false
set_option maxRecDepth 100000
set_option maxHeartbeats 2000000
namespace DL
open PySem PySem.Spec PyProof.Rows L2

/-! ### data -/
inductive D where
  | non | bl (b : Bool) | int (i : Int) | str (x : Str)
  | tup (xs : List D) | lst (xs : List D)
  | ins (c : Str) (ns : List Str) (fs : List D)
  | drw
/-- a slot of a def: unset, a frozen datum, an owned list -/
inductive Sl where
  | un | dt (d : D) | ow (xs : List D) | ob (p : Addr) (c : Str) (ns : List Str) (fs : List D)
/-- a slot that owns its object (a list, an instance under way) -/
def Sl.isOw : Sl → Bool
  | .ow _ => true
  | .ob _ _ _ _ => true
  | _ => false

mutual
inductive Rp (K : PySem.W.Frag) (dr : Addr) (F : Hp) : V → D → Prop
  | non : Rp K dr F .non .non
  | bl (b : Bool) : Rp K dr F (.bl b) (.bl b)
  | int (i : Int) : Rp K dr F (.int i) (.int i)
  | str (x : Str) : Rp K dr F (.str x) (.str x)
  | tup {a : Addr} {vs : List V} {ds : List D} : F a = some (.tup vs) → RpL K dr F vs ds → Rp K dr F (.ref a) (.tup ds)
  | lst {a : Addr} {vs : List V} {ds : List D} : F a = some (.lst vs) → RpL K dr F vs ds → Rp K dr F (.ref a) (.lst ds)
  | ins {a dx : Addr} {c : Str} {ns : List Str} {vs : List V} {ds : List D} : F a = some (.ins (He.ga K c) dx (ns.zip vs)) → ns.length = vs.length → RpL K dr F vs ds → Rp K dr F (.ref a) (.ins c ns ds)
  | drw : Rp K dr F (.ref dr) .drw
inductive RpL (K : PySem.W.Frag) (dr : Addr) (F : Hp) : List V → List D → Prop
  | nil : RpL K dr F [] []
  | cons {v : V} {vs : List V} {d : D} {ds : List D} : Rp K dr F v d → RpL K dr F vs ds → RpL K dr F (v :: vs) (d :: ds)
end

section
variable {K : PySem.W.Frag} {dr : Addr} {F F' : Hp}
mutual
theorem Rp.mono (h : ∀ a o, F a = some o → F' a = some o) : ∀ (d : D) (v : V), Rp K dr F v d → Rp K dr F' v d
  | .non, _, q => by cases q; exact .non
  | .bl b, _, q => by cases q; exact .bl b
  | .int i, _, q => by cases q; exact .int i
  | .str x, _, q => by cases q; exact .str x
  | .tup ds, _, q => by
    cases q with
    | tup e r => exact .tup (h _ _ e) (RpL.mono h ds _ r)
  | .lst ds, _, q => by
    cases q with
    | lst e r => exact .lst (h _ _ e) (RpL.mono h ds _ r)
  | .ins c ns ds, _, q => by
    cases q with
    | ins e l r => exact .ins (h _ _ e) l (RpL.mono h ds _ r)
  | .drw, _, q => by cases q; exact .drw
theorem RpL.mono (h : ∀ a o, F a = some o → F' a = some o) : ∀ (ds : List D) (vs : List V), RpL K dr F vs ds → RpL K dr F' vs ds
  | [], _, q => by cases q; exact .nil
  | d :: ds, _, q => by
    cases q with
    | cons r t => exact .cons (Rp.mono h d _ r) (RpL.mono h ds _ t)
end
theorem RpL.length : ∀ {vs : List V} {ds : List D}, RpL K dr F vs ds → vs.length = ds.length
  | _, [], q => by cases q; rfl
  | _, d :: ds, q => by
    cases q with
    | cons r t => exact congrArg Nat.succ (RpL.length t)
theorem RpL.get : ∀ {vs : List V} {ds : List D} {i : Nat} {d : D}, RpL K dr F vs ds → ds[i]? = some d → ∃ v, vs[i]? = some v ∧ Rp K dr F v d
  | _, [], i, d, q, e => by simp at e
  | _, d' :: ds, 0, d, q, e => by
    cases q with
    | cons r t =>
      simp at e
      subst e
      exact ⟨_, rfl, r⟩
  | _, d' :: ds, i + 1, d, q, e => by
    cases q with
    | cons r t =>
      obtain ⟨v, h1, h2⟩ := RpL.get (i := i) (d := d) t (by simpa using e)
      exact ⟨v, by simpa using h1, h2⟩
theorem RpL.getV : ∀ {vs : List V} {ds : List D} {i : Nat} {v : V}, RpL K dr F vs ds → vs[i]? = some v → ∃ d, ds[i]? = some d ∧ Rp K dr F v d := fun {vs ds i v} q e => by
  have h1 := q.length
  have h2 : i < vs.length := (List.getElem?_eq_some_iff.mp e).1
  obtain ⟨v', e1, r⟩ := RpL.get (i := i) q (List.getElem?_eq_getElem (by omega : i < ds.length))
  rw [e] at e1
  cases e1
  exact ⟨_, List.getElem?_eq_getElem (by omega), r⟩
theorem RpL.append : ∀ {vs us : List V} {ds es : List D}, RpL K dr F vs ds → RpL K dr F us es → RpL K dr F (vs ++ us) (ds ++ es)
  | _, _, [], _, q, s => by cases q; exact s
  | _, _, d :: ds, _, q, s => by
    cases q with
    | cons r t => exact .cons r (RpL.append t s)
theorem RpL.drop : ∀ {vs : List V} {ds : List D} (n : Nat), RpL K dr F vs ds → RpL K dr F (vs.drop n) (ds.drop n)
  | _, _, 0, q => q
  | _, [], n + 1, q => by cases q; exact .nil
  | _, d :: ds, n + 1, q => by
    cases q with
    | cons r t => exact RpL.drop n t
theorem RpL.take : ∀ {vs : List V} {ds : List D} (n : Nat), RpL K dr F vs ds → RpL K dr F (vs.take n) (ds.take n)
  | _, _, 0, q => .nil
  | _, [], n + 1, q => by cases q; exact .nil
  | _, d :: ds, n + 1, q => by
    cases q with
    | cons r t => exact .cons r (RpL.take n t)
theorem RpL.set {v : V} {d : D} (r : Rp K dr F v d) : ∀ {vs : List V} {ds : List D} (n : Nat), RpL K dr F vs ds → RpL K dr F (vs.set n v) (ds.set n d)
  | _, [], n, q => by cases q; exact .nil
  | _, d' :: ds, 0, q => by
    cases q with
    | cons _ t => exact .cons r t
  | _, d' :: ds, n + 1, q => by
    cases q with
    | cons r' t => exact .cons r' (RpL.set r n t)
theorem RpL.rev : ∀ {vs : List V} {ds : List D}, RpL K dr F vs ds → RpL K dr F vs.reverse ds.reverse
  | _, [], q => by cases q; exact .nil
  | _, d :: ds, q => by
    cases q with
    | cons r t =>
      rw [List.reverse_cons, List.reverse_cons]
      exact RpL.append (RpL.rev t) (.cons r .nil)
theorem RpL.ints : ∀ {vs : List V} {ns : List Int}, RpL K dr F vs (ns.map D.int) → vs = ns.map V.int
  | _, [], q => by cases q; rfl
  | _, n :: ns, q => by
    cases q with
    | cons r t =>
      cases r
      rw [RpL.ints t]
      rfl
theorem RpL.ofInts (dr : Addr) (F : Hp) : ∀ (ns : List Int), RpL K dr F (ns.map V.int) (ns.map D.int)
  | [] => .nil
  | n :: ns => .cons (.int n) (RpL.ofInts dr F ns)
theorem RpL.bls : ∀ {vs : List V} {ns : List Bool}, RpL K dr F vs (ns.map D.bl) → vs = ns.map V.bl
  | _, [], q => by cases q; rfl
  | _, n :: ns, q => by
    cases q with
    | cons r t =>
      cases r
      rw [RpL.bls t]
      rfl
end

/-! ### the state -/
/-- the law's draws: calls left n -/
def Drw (n : Nat) (F : Hp) (o : Option HO) : Prop := ∃ (ca : Addr) (cells : List Int) (a l u : Int), o = some (.dK [(.inr "cells", .ref ca), (.inr "at", .int a), (.inr "left", .int l), (.inr "used", .int u)]) ∧
  F ca = some (.lst (cells.map V.int)) ∧ cells ≠ [] ∧ cells.length ≤ 64 ∧ 0 ≤ a ∧ 0 ≤ u ∧ a + n ≤ 2 ^ 40 ∧ u + n ≤ 2 ^ 40
structure Cf where
  dr : Addr
  F : Hp
  H : Hp
  n : Nat
structure Cf.Ok (c : Cf) : Prop where
  sub : ∀ a o, c.F a = some o → c.H a = some o
  nf : c.F c.dr = none
  dw : Drw c.n c.F (c.H c.dr)
structure LeO (ow : Addr → Prop) (c c' : Cf) : Prop where
  dr : c'.dr = c.dr
  f : ∀ a o, c.F a = some o → c'.F a = some o
  h : ∀ a o, a ≠ c.dr → ¬ ow a → c.H a = some o → c'.H a = some o
  fr : ∀ a o, a ≠ c.dr → ¬ ow a → c.F a = none → c.H a = some o → c'.F a = none
abbrev Le (c c' : Cf) : Prop := LeO (fun _ => False) c c'
theorem LeO.refl {ow : Addr → Prop} {c : Cf} : LeO ow c c := ⟨rfl, fun _ _ h => h, fun _ _ _ _ h => h, fun _ _ _ _ h _ => h⟩
theorem LeO.trans {ow ow1 : Addr → Prop} {c c1 c2 : Cf} (a : LeO ow c c1) (b : LeO ow1 c1 c2) (hs : ∀ x, ow1 x → ow x ∨ c.H x = none) : LeO ow c c2 := by
  have no : ∀ x o, ¬ ow x → c.H x = some o → ¬ ow1 x := fun x o h1 h2 h3 => by
    rcases hs x h3 with z | z
    · exact h1 z
    · rw [z] at h2
      cases h2
  refine ⟨b.dr.trans a.dr, fun x o h => b.f x o (a.f x o h), fun x o h1 h2 h3 => ?_, fun x o h1 h2 h3 h4 => ?_⟩
  · exact b.h x o (by rw [a.dr]; exact h1) (no x o h2 h3) (a.h x o h1 h2 h3)
  · exact b.fr x o (by rw [a.dr]; exact h1) (no x o h2 h4) (a.fr x o h1 h2 h3 h4) (a.h x o h1 h2 h4)
theorem Le.trans {c c1 c2 : Cf} (a : Le c c1) (b : Le c1 c2) : Le c c2 := LeO.trans a b fun _ h => h.elim
theorem LeO.of {ow : Addr → Prop} {c c1 : Cf} (a : Le c c1) : LeO ow c c1 := ⟨a.dr, a.f, fun x o h1 _ h3 => a.h x o h1 (fun z => z) h3, fun x o h1 _ h3 h4 => a.fr x o h1 (fun z => z) h3 h4⟩
theorem LeO.thn {ow : Addr → Prop} {c c1 c2 : Cf} (a : LeO ow c c1) (b : Le c1 c2) : LeO ow c c2 := LeO.trans a b fun _ h => h.elim
theorem Le.thnO {ow : Addr → Prop} {c c1 c2 : Cf} (a : Le c c1) (b : LeO ow c1 c2) : LeO ow c c2 := LeO.trans (LeO.of a) b fun _ h => .inl h

abbrev RP (K : PySem.W.Frag) (c : Cf) (v : V) (d : D) : Prop := Rp K c.dr c.F v d
abbrev RPL (K : PySem.W.Frag) (c : Cf) (vs : List V) (ds : List D) : Prop := RpL K c.dr c.F vs ds
section
variable {K : PySem.W.Frag} {ow : Addr → Prop} {c c' : Cf}
theorem LeO.rp {v : V} {d : D} (l : LeO ow c c') (h : RP K c v d) : RP K c' v d := by
  have e := Rp.mono (K := K) (dr := c.dr) l.f d v h
  show Rp K c'.dr c'.F v d
  rw [l.dr]
  exact e
theorem LeO.rpl {vs : List V} {ds : List D} (l : LeO ow c c') (h : RPL K c vs ds) : RPL K c' vs ds := by
  have e := RpL.mono (K := K) (dr := c.dr) l.f ds vs h
  show RpL K c'.dr c'.F vs ds
  rw [l.dr]
  exact e
end
/-- readable now: frozen, or an owned list -/
inductive RB (K : PySem.W.Frag) (c : Cf) (v : V) (d : D) : Prop
  | fz (h : RP K c v d)
  | ow {p : Addr} {vs : List V} {xs : List D} (ev : v = .ref p) (ed : d = .lst xs) (h : c.H p = some (.lst vs)) (hf : c.F p = none) (hd : p ≠ c.dr) (r : RPL K c vs xs)
theorem RB.le {K : PySem.W.Frag} {c c' : Cf} {v : V} {d : D} (l : Le c c') (h : RB K c v d) : RB K c' v d := by
  cases h with
  | fz h => exact .fz (l.rp h)
  | ow ev ed h hf hd r => exact .ow ev ed (l.h _ _ hd (fun z => z) h) (l.fr _ _ hd (fun z => z) hf h) (by rw [l.dr]; exact hd) (l.rpl r)

/-! ### slots -/
def SlOk (K : PySem.W.Frag) (c : Cf) (o : Option V) : Sl → Prop
  | .un => True
  | .dt d => ∃ v, o = some v ∧ RP K c v d
  | .ow xs => ∃ p vs, o = some (.ref p) ∧ c.H p = some (.lst vs) ∧ c.F p = none ∧ p ≠ c.dr ∧ RPL K c vs xs
  | .ob p cn ns fs => ∃ dx vs, o = some (.ref p) ∧ c.H p = some (.ins (He.ga K cn) dx (ns.zip vs)) ∧ c.F p = none ∧ p ≠ c.dr ∧ ns.length = vs.length ∧ RPL K c vs fs
def Owned (σ : L2.St) (η : List Sl) (a : Addr) : Prop := ∃ (i : Nat) (s : Sl), η[i]? = some s ∧ s.isOw = true ∧ σ[i]? = some (some (V.ref a))
structure EnvOk (K : PySem.W.Frag) (c : Cf) (σ : L2.St) (η : List Sl) : Prop where
  len : σ.length = η.length
  sl : ∀ (i : Nat) s, η[i]? = some s → ∃ o, σ[i]? = some o ∧ SlOk K c o s
  inj : ∀ (i j : Nat) s t a, η[i]? = some s → η[j]? = some t → s.isOw = true → t.isOw = true → σ[i]? = some (some (V.ref a)) → σ[j]? = some (some (V.ref a)) → i = j
section
variable {K : PySem.W.Frag} {c c' : Cf} {σ : L2.St} {η : List Sl}
theorem SlOk.le {o : Option V} {s : Sl} (l : Le c c') (h : SlOk K c o s) : SlOk K c' o s := by
  cases s with
  | un => trivial
  | dt d =>
    obtain ⟨v, e, r⟩ := h
    exact ⟨v, e, l.rp r⟩
  | ow xs =>
    obtain ⟨p, vs, e, h1, h2, h3, r⟩ := h
    exact ⟨p, vs, e, l.h _ _ h3 (fun z => z) h1, l.fr _ _ h3 (fun z => z) h2 h1, by rw [l.dr]; exact h3, l.rpl r⟩
  | ob p cn ns fs =>
    obtain ⟨dx, vs, e, h1, h2, h3, h4, r⟩ := h
    exact ⟨dx, vs, e, l.h _ _ h3 (fun z => z) h1, l.fr _ _ h3 (fun z => z) h2 h1, by rw [l.dr]; exact h3, h4, l.rpl r⟩
theorem EnvOk.le (l : Le c c') (e : EnvOk K c σ η) : EnvOk K c' σ η := ⟨e.len, fun i s h => by
  obtain ⟨o, e1, e2⟩ := e.sl i s h
  exact ⟨o, e1, e2.le l⟩, e.inj⟩
/-- what an owned slot holds is in H, not frozen -/
theorem EnvOk.owned (e : EnvOk K c σ η) {a : Addr} (h : Owned σ η a) : (∃ o, c.H a = some o) ∧ c.F a = none ∧ a ≠ c.dr := by
  obtain ⟨i, s, h1, hs, h2⟩ := h
  obtain ⟨o, e1, e2⟩ := e.sl i _ h1
  rw [h2] at e1
  cases e1
  cases s with
  | un => cases hs
  | dt d => cases hs
  | ow xs =>
    obtain ⟨p, vs, e2, e3, e4, e5, _⟩ := e2
    cases e2
    exact ⟨⟨_, e3⟩, e4, e5⟩
  | ob p cn ns fs =>
    obtain ⟨dx, vs, e2, e3, e4, e5, _⟩ := e2
    cases e2
    exact ⟨⟨_, e3⟩, e4, e5⟩
/-- a slot is stored by something that owns nothing -/
theorem EnvOk.put {i : Nat} {o : Option V} {s0 : Sl} (e : EnvOk K c σ η) (hn : s0.isOw = false) (r : SlOk K c o s0) : EnvOk K c (σ.set i o) (η.set i s0) := by
  have nn : ∀ (j : Nat) s, (η.set i s0)[j]? = some s → s.isOw = true → j ≠ i ∧ η[j]? = some s := fun j s h hs => by
    by_cases hj : j = i
    · subst hj
      have hl : j < η.length := by
        have := (List.getElem?_eq_some_iff.mp h).1
        simpa using this
      rw [List.getElem?_set_self hl] at h
      cases h
      rw [hn] at hs
      cases hs
    · rw [List.getElem?_set_ne (Ne.symm hj)] at h
      exact ⟨hj, h⟩
  refine ⟨by simp [e.len], fun j s h => ?_, fun j k s t a h1 h2 g1 g2 h3 h4 => ?_⟩
  · by_cases hj : j = i
    · subst hj
      have hl : j < η.length := by
        have := (List.getElem?_eq_some_iff.mp h).1
        simpa using this
      rw [List.getElem?_set_self hl] at h
      cases h
      exact ⟨o, List.getElem?_set_self (by rw [e.len]; exact hl), r⟩
    · rw [List.getElem?_set_ne (Ne.symm hj)] at h
      rw [List.getElem?_set_ne (Ne.symm hj)]
      exact e.sl j s h
  · obtain ⟨n1, q1⟩ := nn j s h1 g1
    obtain ⟨n2, q2⟩ := nn k t h2 g2
    rw [List.getElem?_set_ne (Ne.symm n1)] at h3
    rw [List.getElem?_set_ne (Ne.symm n2)] at h4
    exact e.inj j k s t a q1 q2 g1 g2 h3 h4
theorem owned_put {i : Nat} {o : Option V} {s0 : Sl} {a : Addr} (hn : s0.isOw = false) (h : Owned (σ.set i o) (η.set i s0) a) : Owned σ η a := by
  obtain ⟨j, s, h1, hs, h2⟩ := h
  by_cases hj : j = i
  · subst hj
    have hl : j < η.length := by
      have := (List.getElem?_eq_some_iff.mp h1).1
      simpa using this
    rw [List.getElem?_set_self hl] at h1
    cases h1
    rw [hn] at hs
    cases hs
  · rw [List.getElem?_set_ne (Ne.symm hj)] at h1 h2
    exact ⟨j, s, h1, hs, h2⟩
theorem EnvOk.set {i : Nat} {v : V} {d : D} (e : EnvOk K c σ η) (r : RP K c v d) : EnvOk K c (σ.set i (some v)) (η.set i (.dt d)) := e.put rfl ⟨v, rfl, r⟩
theorem owned_set {i : Nat} {v : V} {d : D} {a : Addr} (h : Owned (σ.set i (some v)) (η.set i (.dt d)) a) : Owned σ η a := owned_put rfl h
/-- a slot is forgotten -/
theorem EnvOk.unset {i : Nat} {o : Option V} (e : EnvOk K c σ η) : EnvOk K c (σ.set i o) (η.set i .un) := e.put rfl trivial
theorem owned_unset {i : Nat} {o : Option V} {a : Addr} (h : Owned (σ.set i o) (η.set i .un) a) : Owned σ η a := owned_put rfl h
/-- an owned slot's list -/
theorem EnvOk.ow {i : Nat} {xs : List D} (e : EnvOk K c σ η) (h : η[i]? = some (Sl.ow xs)) : ∃ p vs, σ[i]? = some (some (.ref p)) ∧ c.H p = some (.lst vs) ∧ c.F p = none ∧ p ≠ c.dr ∧ RPL K c vs xs := by
  obtain ⟨o, e1, p, vs, e2, e3⟩ := e.sl i _ h
  subst e2
  exact ⟨p, vs, e1, e3⟩
theorem EnvOk.ob {i : Nat} {p : Addr} {cn : Str} {ns : List Str} {fs : List D} (e : EnvOk K c σ η) (h : η[i]? = some (Sl.ob p cn ns fs)) : ∃ dx vs, σ[i]? = some (some (.ref p)) ∧ c.H p = some (.ins (He.ga K cn) dx (ns.zip vs)) ∧ c.F p = none ∧ p ≠ c.dr ∧ ns.length = vs.length ∧ RPL K c vs fs := by
  obtain ⟨o, e1, dx, vs, e2, e3⟩ := e.sl i _ h
  subst e2
  exact ⟨dx, vs, e1, e3⟩
theorem EnvOk.dt {i : Nat} {d : D} (e : EnvOk K c σ η) (h : η[i]? = some (Sl.dt d)) : ∃ v, σ[i]? = some (some v) ∧ RP K c v d := by
  obtain ⟨o, e1, v, e2, e3⟩ := e.sl i _ h
  subst e2
  exact ⟨v, e1, e3⟩
/-- a slot becomes an owner (or its object is changed) -/
theorem EnvOk.own {i : Nat} {p : Addr} {s0 : Sl} (e : EnvOk K c σ η) (hp : ∀ (j : Nat) t, j ≠ i → η[j]? = some t → t.isOw = true → σ[j]? ≠ some (some (V.ref p))) (r : SlOk K c (some (.ref p)) s0) :
    EnvOk K c (σ.set i (some (.ref p))) (η.set i s0) := by
  refine ⟨by simp [e.len], fun j s h => ?_, fun j k s t a h1 h2 g1 g2 h3 h4 => ?_⟩
  · by_cases hj : j = i
    · subst hj
      have hl : j < η.length := by
        have := (List.getElem?_eq_some_iff.mp h).1
        simpa using this
      rw [List.getElem?_set_self hl] at h
      cases h
      exact ⟨some (.ref p), List.getElem?_set_self (by rw [e.len]; exact hl), r⟩
    · rw [List.getElem?_set_ne (Ne.symm hj)] at h
      rw [List.getElem?_set_ne (Ne.symm hj)]
      exact e.sl j s h
  · have at_ : ∀ (m : Nat) u, (η.set i s0)[m]? = some u → u.isOw = true → (σ.set i (some (.ref p)))[m]? = some (some (.ref a)) → (m = i ∧ a = p) ∨ (m ≠ i ∧ η[m]? = some u ∧ σ[m]? = some (some (.ref a))) := fun m u q1 _ q2 => by
      by_cases hm : m = i
      · subst hm
        have hl : m < σ.length := by
          have := (List.getElem?_eq_some_iff.mp q2).1
          simpa using this
        rw [List.getElem?_set_self hl] at q2
        cases q2
        exact .inl ⟨rfl, rfl⟩
      · rw [List.getElem?_set_ne (Ne.symm hm)] at q1 q2
        exact .inr ⟨hm, q1, q2⟩
    rcases at_ j s h1 g1 h3 with ⟨j1, a1⟩ | ⟨j1, q1, q3⟩
    · rcases at_ k t h2 g2 h4 with ⟨k1, a2⟩ | ⟨k1, q2, q4⟩
      · rw [j1, k1]
      · rw [a1] at q4
        exact absurd q4 (hp k t k1 q2 g2)
    · rcases at_ k t h2 g2 h4 with ⟨k1, a2⟩ | ⟨k1, q2, q4⟩
      · rw [a2] at q3
        exact absurd q3 (hp j s j1 q1 g1)
      · exact e.inj j k s t a q1 q2 g1 g2 q3 q4
theorem owned_own {i : Nat} {p : Addr} {s0 : Sl} {a : Addr} (h : Owned (σ.set i (some (.ref p))) (η.set i s0) a) : Owned σ η a ∨ a = p := by
  obtain ⟨j, s, h1, hs, h2⟩ := h
  by_cases hj : j = i
  · subst hj
    have hl : j < σ.length := by
      have := (List.getElem?_eq_some_iff.mp h2).1
      simpa using this
    rw [List.getElem?_set_self hl] at h2
    cases h2
    exact .inr rfl
  · rw [List.getElem?_set_ne (Ne.symm hj)] at h1 h2
    exact .inl ⟨j, s, h1, hs, h2⟩
/-- another configuration in which one owned object, at p, is another; the slots that own others stand -/
theorem EnvOk.move {i : Nat} {p : Addr} {s1 s0 : Sl} (e : EnvOk K c σ η) (hi : η[i]? = some s1) (h1 : s1.isOw = true) (hp : σ[i]? = some (some (V.ref p))) (hd : c'.dr = c.dr) (hF : ∀ a o, c.F a = some o → c'.F a = some o)
    (hH : ∀ a o, a ≠ p → c.H a = some o → c'.H a = some o) (hn : ∀ a, a ≠ p → c.F a = none → c'.F a = none) (r : SlOk K c' (some (.ref p)) s0) : EnvOk K c' σ (η.set i s0) := by
  have hl : i < η.length := (List.getElem?_eq_some_iff.mp hi).1
  have rpm : ∀ v d, RP K c v d → RP K c' v d := fun v d h => by
    have q := Rp.mono (K := K) (dr := c.dr) hF d v h
    show Rp K c'.dr c'.F v d
    rw [hd]
    exact q
  have rplm : ∀ v d, RPL K c v d → RPL K c' v d := fun v d h => by
    have q := RpL.mono (K := K) (dr := c.dr) hF d v h
    show RpL K c'.dr c'.F v d
    rw [hd]
    exact q
  have old : ∀ (j : Nat) s, j ≠ i → (η.set i s0)[j]? = some s → η[j]? = some s := fun j s hj h => by
    rw [List.getElem?_set_ne (Ne.symm hj)] at h
    exact h
  refine ⟨by simp [e.len], fun j s h => ?_, fun j k s t a q1 q2 g1 g2 q3 q4 => ?_⟩
  · by_cases hj : j = i
    · subst hj
      rw [List.getElem?_set_self hl] at h
      cases h
      exact ⟨_, hp, r⟩
    · have h := old j s hj h
      obtain ⟨o, z1, z2⟩ := e.sl j s h
      refine ⟨o, z1, ?_⟩
      have nep : ∀ q, s.isOw = true → o = some (V.ref q) → q ≠ p := fun q hs hq z => by
        subst hq
        rw [z] at z1
        exact hj (e.inj j i s s1 p h hi hs h1 z1 hp)
      cases s with
      | un => trivial
      | dt d =>
        obtain ⟨v, q3, q4⟩ := z2
        exact ⟨v, q3, rpm _ _ q4⟩
      | ow ys =>
        obtain ⟨p', us, q3, q4, q5, q6, q7⟩ := z2
        have np := nep p' rfl q3
        exact ⟨p', us, q3, hH _ _ np q4, hn _ np q5, by rw [hd]; exact q6, rplm _ _ q7⟩
      | ob p' cn ns fs =>
        obtain ⟨dx, us, q3, q4, q5, q6, q7, q8⟩ := z2
        have np := nep p' rfl q3
        exact ⟨dx, us, q3, hH _ _ np q4, hn _ np q5, by rw [hd]; exact q6, q7, rplm _ _ q8⟩
  · have at_ : ∀ (m : Nat) u, (η.set i s0)[m]? = some u → ∃ u', η[m]? = some u' ∧ (u.isOw = true → m = i ∨ u'.isOw = true) ∧ (m = i → u' = s1) := fun m u q => by
      by_cases hm : m = i
      · subst hm
        exact ⟨s1, hi, fun _ => .inl rfl, fun _ => rfl⟩
      · exact ⟨u, old m u hm q, fun z => .inr z, fun z => absurd z hm⟩
    obtain ⟨s', w1, w2, w3⟩ := at_ j s q1
    obtain ⟨t', v1, v2, v3⟩ := at_ k t q2
    have o1 : s'.isOw = true := by
      rcases w2 g1 with z | z
      · rw [w3 z]
        exact h1
      · exact z
    have o2 : t'.isOw = true := by
      rcases v2 g2 with z | z
      · rw [v3 z]
        exact h1
      · exact z
    exact e.inj j k s' t' a w1 v1 o1 o2 q3 q4
theorem owned_move {i : Nat} {s1 s0 : Sl} {a : Addr} (hi : η[i]? = some s1) (h1 : s1.isOw = true) (h : Owned σ (η.set i s0) a) : Owned σ η a := by
  obtain ⟨j, s, z1, z2, z3⟩ := h
  by_cases hj : j = i
  · subst hj
    exact ⟨j, s1, hi, h1, z3⟩
  · rw [List.getElem?_set_ne (Ne.symm hj)] at z1
    exact ⟨j, s, z1, z2, z3⟩
end
end DL
set_option maxHeartbeats 2000000
namespace DL
open PySem PySem.Spec PyProof.Rows L2

/-! ### judgements at data level -/
abbrev Xn := D → Nat → Prop
abbrev WE := Xn → List Sl → Nat → (D → Nat → Prop) → Prop
abbrev WN := Xn → List Sl → Nat → (List D → Nat → Prop) → Prop
abbrev WT := Xn → List Sl → Nat → (Bool → Nat → Prop) → Prop
abbrev WA := Xn → List Sl → Nat → (List D → Nat → Prop) → Prop
structure Wk where
  nx : List Sl → Nat → Prop
  rt : D → Nat → Prop
  bk : List Sl → Nat → Prop := fun _ _ => False
  ct : List Sl → Nat → Prop := fun _ _ => False
abbrev WS := Xn → Wk → List Sl → Nat → Prop

/-- an exception as it lies -/
def XOk (K : PySem.W.Frag) (c : Cf) (cls : Value) (od : Option Addr) (d : D) : Prop := ∃ (k : Str) (ns : List Str) (fs : List D) (dd : Addr) (vs : List V), d = .ins k ns fs ∧ cls = .ref (He.ga K k) ∧ od = some dd ∧
  c.F dd = some (.xd (ns.zip vs)) ∧ ns.length = vs.length ∧ RPL K c vs fs
/-- the wish of exceptions -/
def XW (K : PySem.W.Frag) (E : XK) (x : Xn) (ow : Addr → Prop) (c : Cf) : Prop := ∀ d c' cls od, x d c'.n → c'.Ok → LeO ow c c' → XOk K c' cls od d → E cls od c'.H
theorem XW.le {K : PySem.W.Frag} {E : XK} {x : Xn} {ow : Addr → Prop} {c c1 : Cf} (h : XW K E x ow c) (l : Le c c1) : XW K E x ow c1 := fun d c' cls od hx ok l' r => h d c' cls od hx ok (l.thnO l') r
theorem XW.step {K : PySem.W.Frag} {E : XK} {x : Xn} {ow ow1 : Addr → Prop} {c c1 : Cf} (h : XW K E x ow c) (l : LeO ow c c1) (hs : ∀ a, ow1 a → ow a ∨ c.H a = none) : XW K E x ow1 c1 := fun d c' cls od hx ok l' r => h d c' cls od hx ok (l.trans l' hs) r
theorem XW.none {K : PySem.W.Frag} {E : XK} {x : Xn} {ow : Addr → Prop} {c : Cf} (h : XW K E x ow c) : XW K E x (fun _ => False) c := fun d c' cls od hx ok l' r => h d c' cls od hx ok (LeO.of l') r

section
variable (K : PySem.W.Frag) (E : XK)
/-- the expression's reading: a frozen datum -/
def up (w : WE) : TE := fun σ H Q => ∃ c η R x, c.H = H ∧ c.Ok ∧ EnvOk K c σ η ∧ w x η c.n R ∧ (∀ d c' v, R d c'.n → c'.Ok → Le c c' → RP K c' v d → Q v c'.H) ∧ XW K E x (fun _ => False) c
/-- readable at once -/
def upB (w : WE) : TE := fun σ H Q => ∃ c η R x, c.H = H ∧ c.Ok ∧ EnvOk K c σ η ∧ w x η c.n R ∧ (∀ d c' v, R d c'.n → c'.Ok → Le c c' → RB K c' v d → Q v c'.H) ∧ XW K E x (fun _ => False) c
/-- a new list -/
def upN (w : WN) : TE := fun σ H Q => ∃ c η R x, c.H = H ∧ c.Ok ∧ EnvOk K c σ η ∧ w x η c.n R ∧
  (∀ xs c' p vs, R xs c'.n → c'.Ok → Le c c' → c.H p = none → c'.F p = none → p ≠ c.dr → c'.H p = some (.lst vs) → RPL K c' vs xs → Q (.ref p) c'.H) ∧ XW K E x (fun _ => False) c
def upT (w : WT) : TT := fun σ H Q => ∃ c η R x, c.H = H ∧ c.Ok ∧ EnvOk K c σ η ∧ w x η c.n R ∧ (∀ b c', R b c'.n → c'.Ok → Le c c' → Q b c'.H) ∧ XW K E x (fun _ => False) c
def upA (w : WA) : TA := fun σ H Q => ∃ c η R x, c.H = H ∧ c.Ok ∧ EnvOk K c σ η ∧ w x η c.n R ∧ (∀ ds c' vs, R ds c'.n → c'.Ok → Le c c' → RPL K c' vs ds → Q vs c'.H) ∧ XW K E x (fun _ => False) c
/-- the same with readable arguments (a built-in's) -/
inductive RBL (K : PySem.W.Frag) (c : Cf) : List V → List D → Prop
  | nil : RBL K c [] []
  | cons {v : V} {vs : List V} {d : D} {ds : List D} : RB K c v d → RBL K c vs ds → RBL K c (v :: vs) (d :: ds)
def upAB (w : WA) : TA := fun σ H Q => ∃ c η R x, c.H = H ∧ c.Ok ∧ EnvOk K c σ η ∧ w x η c.n R ∧ (∀ ds c' vs, R ds c'.n → c'.Ok → Le c c' → RBL K c' vs ds → Q vs c'.H) ∧ XW K E x (fun _ => False) c
def upS (w : WS) : TS := fun D σ H => ∃ c η k x, c.H = H ∧ c.Ok ∧ EnvOk K c σ η ∧ w x k η c.n ∧
  (∀ η' c' σ', k.nx η' c'.n → c'.Ok → LeO (Owned σ η) c c' → (∀ a, Owned σ' η' a → Owned σ η a ∨ c.H a = none) → EnvOk K c' σ' η' → D.nx σ' c'.H) ∧
  (∀ d c' v, k.rt d c'.n → c'.Ok → LeO (Owned σ η) c c' → RP K c' v d → D.rt v c'.H) ∧
  (∀ η' c' σ', k.bk η' c'.n → c'.Ok → LeO (Owned σ η) c c' → (∀ a, Owned σ' η' a → Owned σ η a ∨ c.H a = none) → EnvOk K c' σ' η' → D.bk σ' c'.H) ∧
  (∀ η' c' σ', k.ct η' c'.n → c'.Ok → LeO (Owned σ η) c c' → (∀ a, Owned σ' η' a → Owned σ η a ∨ c.H a = none) → EnvOk K c' σ' η' → D.ct σ' c'.H) ∧
  XW K E x (Owned σ η) c
end

/-! ### weakening -/
theorem pe_to {X : Cx} {e : Expr} {t t' : TE} (h : PE X e t) (i : ∀ σ H Q, t' σ H Q → t σ H Q) : PE X e t' := ⟨fun pins s σ H Q I q => h.run pins s σ H Q I (i σ H Q q)⟩
theorem pt_to {X : Cx} {e : Expr} {t t' : TT} (h : PT X e t) (i : ∀ σ H Q, t' σ H Q → t σ H Q) : PT X e t' := ⟨fun pins s σ H Q I q => h.run pins s σ H Q I (i σ H Q q)⟩
theorem pw_to {X : Cx} {e : Expr} {t t' : TT} (h : PW X e t) (i : ∀ σ H Q, t' σ H Q → t σ H Q) : PW X e t' := ⟨fun wh pins s σ H Q I q => h.run wh pins s σ H Q I (i σ H Q q)⟩
theorem pa_to {X : Cx} {e : List Expr} {t t' : TA} (h : PA X e t) (i : ∀ σ H Q, t' σ H Q → t σ H Q) : PA X e t' := ⟨fun pos pins s σ H Q I q => h.run pos pins s σ H Q I (i σ H Q q)⟩
theorem ps_to {X : Cx} {e : Stmt} {t t' : TS} (h : PS X e t) (i : ∀ D σ H, t' D σ H → t D σ H) : PS X e t' := ⟨fun pins s σ H D I q => h.run pins s σ H D I (i D σ H q)⟩
theorem pss_to {X : Cx} {e : List Stmt} {t t' : TS} (h : PSs X e t) (i : ∀ D σ H, t' D σ H → t D σ H) : PSs X e t' := ⟨fun pins s σ H D I q => h.run pins s σ H D I (i D σ H q)⟩

/-! ### a new object, frozen at once -/
theorem Drw.up {n : Nat} {F F' : Hp} {o : Option HO} (h : Drw n F o) (f : ∀ a u, F a = some u → F' a = some u) : Drw n F' o := by
  obtain ⟨ca, cells, a, l, u, e, e1, r⟩ := h
  exact ⟨ca, cells, a, l, u, e, f _ _ e1, r⟩
/-- a new object at p, frozen -/
theorem Cf.Ok.newF {c : Cf} {p : Addr} {o : HO} (ok : c.Ok) (hp : c.H p = none) : (⟨c.dr, upd c.F p o, upd c.H p o, c.n⟩ : Cf).Ok ∧ Le c ⟨c.dr, upd c.F p o, upd c.H p o, c.n⟩ := by
  have hdr : p ≠ c.dr := fun e => by
    obtain ⟨_, _, _, _, _, e1, _⟩ := ok.dw
    rw [← e, hp] at e1
    cases e1
  have hF : c.F p = none := by
    cases q : c.F p with
    | none => rfl
    | some u =>
      rw [ok.sub _ _ q] at hp
      cases hp
  have fs : ∀ a u, c.F a = some u → upd c.F p o a = some u := fun a u e => by
    rw [upd_ne (ne_of_none e hF)]
    exact e
  refine ⟨⟨fun a u e => ?_, ?_, ?_⟩, rfl, fs, fun a u _ _ e => ?_, fun a u _ _ h1 h2 => ?_⟩
  · by_cases h : a = p
    · subst h
      have e' : upd c.F a o a = some u := e
      rw [upd_same] at e'
      show upd c.H a o a = some u
      rw [upd_same]
      exact e'
    · have e' : upd c.F p o a = some u := e
      rw [upd_ne h] at e'
      show upd c.H p o a = some u
      rw [upd_ne h]
      exact ok.sub _ _ e'
  · show upd c.F p o c.dr = none
    rw [upd_ne (Ne.symm hdr)]
    exact ok.nf
  · show Drw c.n (upd c.F p o) (upd c.H p o c.dr)
    rw [upd_ne (Ne.symm hdr)]
    exact ok.dw.up fs
  · show upd c.H p o a = some u
    rw [upd_ne (ne_of_none e hp)]
    exact e
  · show upd c.F p o a = none
    rw [upd_ne (ne_of_none h2 hp)]
    exact h1
/-- a new object at p, not frozen -/
theorem Cf.Ok.newH {c : Cf} {p : Addr} {o : HO} (ok : c.Ok) (hp : c.H p = none) : (⟨c.dr, c.F, upd c.H p o, c.n⟩ : Cf).Ok ∧ Le c ⟨c.dr, c.F, upd c.H p o, c.n⟩ ∧ c.F p = none ∧ p ≠ c.dr := by
  have hdr : p ≠ c.dr := fun e => by
    obtain ⟨_, _, _, _, _, e1, _⟩ := ok.dw
    rw [← e, hp] at e1
    cases e1
  have hF : c.F p = none := by
    cases q : c.F p with
    | none => rfl
    | some u =>
      rw [ok.sub _ _ q] at hp
      cases hp
  refine ⟨⟨fun a u e => ?_, ok.nf, ?_⟩, ⟨rfl, fun _ _ e => e, fun a u _ _ e => ?_, fun a u _ _ h1 _ => h1⟩, hF, hdr⟩
  · show upd c.H p o a = some u
    rw [upd_ne (ne_of_none e hF)]
    exact ok.sub _ _ e
  · show Drw c.n c.F (upd c.H p o c.dr)
    rw [upd_ne (Ne.symm hdr)]
    exact ok.dw
  · show upd c.H p o a = some u
    rw [upd_ne (ne_of_none e hp)]
    exact e
/-- an unfrozen list at p is frozen -/
theorem Cf.Ok.frz {c : Cf} {p : Addr} {o : HO} (ok : c.Ok) (hp : c.H p = some o) (hF : c.F p = none) (hdr : p ≠ c.dr) : (⟨c.dr, upd c.F p o, c.H, c.n⟩ : Cf).Ok ∧ LeO (fun a => a = p) c ⟨c.dr, upd c.F p o, c.H, c.n⟩ := by
  have fs : ∀ a u, c.F a = some u → upd c.F p o a = some u := fun a u e => by
    rw [upd_ne (ne_of_none e hF)]
    exact e
  refine ⟨⟨fun a u e => ?_, ?_, ok.dw.up fs⟩, rfl, fs, fun a u _ _ e => e, fun a u _ hn h1 h2 => ?_⟩
  · by_cases h : a = p
    · subst h
      have e' : upd c.F a o a = some u := e
      rw [upd_same] at e'
      exact hp.trans e'
    · have e' : upd c.F p o a = some u := e
      rw [upd_ne h] at e'
      exact ok.sub _ _ e'
  · show upd c.F p o c.dr = none
    rw [upd_ne (Ne.symm hdr)]
    exact ok.nf
  · show upd c.F p o a = none
    rw [upd_ne hn]
    exact h1

/-! ### from mode to mode -/
section
variable {X : Cx} {E : XK} {e : Expr}
/-- frozen is readable -/
theorem qb {w : WE} (h : PE X e (up X.K E w)) : PE X e (upB X.K E w) := pe_to h fun σ H Q q => by
  obtain ⟨c, η, R, x, e1, ok, en, hw, hr, hx⟩ := q
  exact ⟨c, η, R, x, e1, ok, en, hw, fun d c' v r o l p => hr d c' v r o l (.fz p), hx⟩
/-- a new list is frozen -/
def eFz (w : WN) : WE := fun x η n R => w x η n fun xs n' => R (.lst xs) n'
theorem fz_up {K : PySem.W.Frag} {w : WN} : ∀ σ H Q, up K E (eFz w) σ H Q → upN K E w σ H Q := fun σ H Q q => by
  obtain ⟨c, η, R, x, e1, ok, en, hw, hr, hx⟩ := q
  refine ⟨c, η, fun xs n' => R (.lst xs) n', x, e1, ok, en, hw, fun xs c' p vs r o l hp hF hd hH rp => ?_, hx⟩
  have hd' : p ≠ c'.dr := by rw [l.dr]; exact hd
  obtain ⟨ok2, l2⟩ := o.frz hH hF hd'
  refine hr (.lst xs) ⟨c'.dr, upd c'.F p (.lst vs), c'.H, c'.n⟩ (.ref p) r ok2 ?_ ?_
  · refine ⟨l.dr, fun a u q => l2.f a u (l.f a u q), fun a u h1 h2 h3 => l.h a u h1 h2 h3, fun a u h1 h2 h3 h4 => ?_⟩
    show upd c'.F p (.lst vs) a = none
    rw [upd_ne (ne_of_none h4 hp)]
    exact l.fr a u h1 h2 h3 h4
  · exact .lst upd_same (l2.rpl rp)
theorem qf {w : WN} (h : PE X e (upN X.K E w)) : PE X e (up X.K E (eFz w)) := pe_to h fz_up
theorem qbf {w : WN} (h : PE X e (upN X.K E w)) : PE X e (upB X.K E (eFz w)) := qb (qf h)

/-! ### names, constants -/
def dtS : Option Sl → (D → Prop) → Prop
  | some (.dt d), k => k d
  | _, _ => False
def eVar (i : Nat) : WE := fun _ η n R => dtS η[i]? fun d => R d n
/-- a slot that is read: frozen or owned -/
def rdS : Option Sl → (D → Prop) → Prop
  | some (.dt d), k => k d
  | some (.ow xs), k => k (.lst xs)
  | _, _ => False
def eVarB (i : Nat) : WE := fun _ η n R => rdS η[i]? fun d => R d n
def eC (d : D) : WE := fun _ _ n R => R d n
theorem q_v {x : Str} {pos : Pos} (i : Nat) (h : PE X (.Name x pos) (tVar i)) : PE X (.Name x pos) (up X.K E (eVar i)) := pe_to h fun σ H Q q => by
  obtain ⟨c, η, R, x, e1, ok, en, hw, hr, hx⟩ := q
  unfold eVar at hw
  cases hs : η[i]? with
  | none =>
    rw [hs] at hw
    exact hw.elim
  | some s =>
    rw [hs] at hw
    cases s with
    | un => exact hw.elim
    | ow xs => exact hw.elim
    | ob _ _ _ _ => exact hw.elim
    | dt d =>
      obtain ⟨v, e2, rp⟩ := en.dt hs
      refine ⟨v, e2, ?_⟩
      rw [← e1]
      exact hr d c v hw ok .refl rp
theorem qb_v {x : Str} {pos : Pos} (i : Nat) (h : PE X (.Name x pos) (tVar i)) : PE X (.Name x pos) (upB X.K E (eVarB i)) := pe_to h fun σ H Q q => by
  obtain ⟨c, η, R, x, e1, ok, en, hw, hr, hx⟩ := q
  unfold eVarB at hw
  cases hs : η[i]? with
  | none =>
    rw [hs] at hw
    exact hw.elim
  | some s =>
    rw [hs] at hw
    cases s with
    | un => exact hw.elim
    | ob _ _ _ _ => exact hw.elim
    | dt d =>
      obtain ⟨v, e2, rp⟩ := en.dt hs
      refine ⟨v, e2, ?_⟩
      rw [← e1]
      exact hr d c v hw ok .refl (.fz rp)
    | ow xs =>
      obtain ⟨p, vs, e2, h1, h2, h3, rp⟩ := en.ow hs
      refine ⟨.ref p, e2, ?_⟩
      rw [← e1]
      exact hr (.lst xs) c _ hw ok .refl (.ow rfl rfl h1 h2 h3 rp)
theorem q_c {v : V} {d : D} (h : PE X e (tC v)) (r : ∀ dr F, Rp X.K dr F v d) : PE X e (up X.K E (eC d)) := pe_to h fun σ H Q q => by
  obtain ⟨c, η, R, x, e1, ok, en, hw, hr, hx⟩ := q
  show Q v H
  rw [← e1]
  exact hr d c v hw ok .refl (r _ _)
theorem q_int {i : Int} {j pos} : PE X (.Constant (.int i) j pos) (up X.K E (eC (.int i))) := q_c pe_int fun _ _ => .int i
theorem q_bl {b : Bool} {j pos} : PE X (.Constant (.bool b) j pos) (up X.K E (eC (.bl b))) := q_c pe_bl fun _ _ => .bl b
theorem q_non {j pos} : PE X (.Constant .none j pos) (up X.K E (eC .non)) := q_c pe_non fun _ _ => .non
theorem q_str {x : Str} {j pos} : PE X (.Constant (.str x) j pos) (up X.K E (eC (.str x))) := q_c pe_str fun _ _ => .str x

/-! ### two operands, by values -/
abbrev O2 := D → D → (D → Prop) → Prop
def eBin (o : O2) (wa wb : WE) : WE := fun x η n R => wa x η n fun a n1 => wb x η n1 fun b n2 => o a b fun d => R d n2
/-- what an operation does on data, over a reading r of the layer -/
def OpD (X : Cx) (r : R2) (o : O2) : Prop := ∀ (c : Cf) (v u : V) (a b : D) (k : D → Prop) (Q : VK), c.Ok → RB X.K c v a → RB X.K c u b → o a b k →
  (∀ d c' z, k d → c'.n = c.n → c'.Ok → Le c c' → RP X.K c' z d → Q z c'.H) → r v u c.H Q
theorem bin_up {wa wb : WE} {r : R2} {o : O2} (h : OpD X r o) : ∀ σ H Q, up X.K E (eBin o wa wb) σ H Q → tOp r (upB X.K E wa) (upB X.K E wb) σ H Q := fun σ H Q q => by
  obtain ⟨c, η, R, x, e1, ok, en, hw, hr, hx⟩ := q
  refine ⟨c, η, _, x, e1, ok, en, hw, fun a c1 v h1 ok1 l1 r1 => ?_, hx⟩
  refine ⟨c1, η, _, x, rfl, ok1, en.le l1, h1, fun b c2 u h2 ok2 l2 r2 => ?_, hx.le l1⟩
  exact h c2 v u a b _ Q ok2 (r1.le l2) r2 h2 fun d c3 z hk hn ok3 l3 r3 => hr d c3 z (by rw [hn]; exact hk) ok3 ((l1.trans l2).trans l3) r3
theorem q_op {a b : Expr} {pos : Pos} {op : Operator} {wa wb : WE} {r : R2} {o : O2} (ho : OpR X (binaryOp op) r) (h : OpD X r o) (ha : PE X a (upB X.K E wa)) (hb : PE X b (upB X.K E wb)) : PE X (.BinOp a op b pos) (up X.K E (eBin o wa wb)) :=
  pe_to (pe_op ho ha hb) (bin_up h)
theorem q_cmp {a b : Expr} {pos : Pos} {op : CmpOp} {wa wb : WE} {r : R2} {o : O2} (ho : OpR X (compareOp op) r) (h : OpD X r o) (ha : PE X a (upB X.K E wa)) (hb : PE X b (upB X.K E wb)) (hm : behindInMarks op b = false) : PE X (.Compare a [op] [b] pos) (up X.K E (eBin o wa wb)) :=
  pe_to (pe_cmpR ho ha hb hm) (bin_up h)
theorem q_ix {a b : Expr} {pos : Pos} {wa wb : WE} {r : R2} {o : O2} (ho : IxR X r) (h : OpD X r o) (ha : PE X a (upB X.K E wa)) (hb : PE X b (upB X.K E wb)) (hs : PlainIx b := by exact fun _ _ => rfl) : PE X (.Subscript a b pos) (up X.K E (eBin o wa wb)) :=
  pe_to (pe_ix ho ha hb hs) (bin_up h)
end
end DL
set_option maxHeartbeats 2000000
namespace DL
open PySem PySem.Spec PyProof.Rows L2

/-! ### plain data -/
mutual
def py : D → PyData
  | .non => .none
  | .bl b => .bool b
  | .int i => .int i
  | .str x => .str x
  | .tup xs => .tuple (pyL xs)
  | .lst xs => .list (pyL xs)
  | .ins _ _ _ => .dict []
  | .drw => .dict []
def pyL : List D → List PyData
  | [] => []
  | d :: ds => py d :: pyL ds
end
def Lay (d : D) : Prop := SeqAt.shaped (py d) = true
def deq (a b : D) : Bool := PyData.eqv (py a) (py b)
mutual
/-- no instance, no draws within -/
def plainD : D → Bool
  | .ins _ _ _ => false
  | .drw => false
  | .tup xs => plainL xs
  | .lst xs => plainL xs
  | _ => true
def plainL : List D → Bool
  | [] => true
  | d :: ds => plainD d && plainL ds
end
mutual
theorem plainD_of : ∀ d : D, (py d).canLay0 = true → plainD d = true
  | .non, _ => rfl
  | .bl _, _ => rfl
  | .int _, _ => rfl
  | .str _, _ => rfl
  | .tup xs, h => plainL_of xs h
  | .lst xs, h => plainL_of xs h
  | .ins _ _ _, h => by cases h
  | .drw, h => by cases h
theorem plainL_of : ∀ ds : List D, PyData.canLayAll0 (pyL ds) = true → plainL ds = true
  | [], _ => rfl
  | d :: ds, h => by
    have h' : ((py d).canLay0 && PyData.canLayAll0 (pyL ds)) = true := h
    rw [Bool.and_eq_true] at h'
    show (plainD d && plainL ds) = true
    rw [plainD_of d h'.1, plainL_of ds h'.2]
    rfl
end
theorem Lay.plainD {d : D} (h : Lay d) : plainD d = true := plainD_of d (SeqAt.canLay_of_shaped h)
section
variable {K : PySem.W.Frag} {dr : Addr} {F H : Hp}
mutual
theorem Rp.dp (hs : ∀ a o, F a = some o → H a = some o) : ∀ (d : D) (v : V), plainD d = true → Rp K dr F v d → Dp K H v (py d)
  | .non, _, _, q => by cases q; exact .non
  | .bl b, _, _, q => by cases q; exact .bl b
  | .int i, _, _, q => by cases q; exact .int i
  | .str x, _, _, q => by cases q; exact .str x
  | .tup ds, _, hp, q => by
    cases q with
    | tup e r => exact .tup (SqT.of (hs _ _ e)) (RpL.dp hs ds _ hp r)
  | .lst ds, _, hp, q => by
    cases q with
    | lst e r => exact .lst (SqL.of (hs _ _ e)) (RpL.dp hs ds _ hp r)
  | .ins _ _ _, _, hp, _ => by cases hp
  | .drw, _, hp, _ => by cases hp
theorem RpL.dp (hs : ∀ a o, F a = some o → H a = some o) : ∀ (ds : List D) (vs : List V), plainL ds = true → RpL K dr F vs ds → DpAll K H vs (pyL ds)
  | [], _, _, q => by cases q; exact .nil
  | d :: ds, _, hp, q => by
    cases q with
    | cons r t =>
      have hp' : (plainD d && plainL ds) = true := hp
      rw [Bool.and_eq_true] at hp'
      exact .cons (Rp.dp hs d _ hp'.1 r) (RpL.dp hs ds _ hp'.2 t)
end
end
theorem RB.dp {K : PySem.W.Frag} {c : Cf} {v : V} {d : D} (ok : c.Ok) (h : RB K c v d) (hp : plainD d = true) : Dp K c.H v (py d) := by
  cases h with
  | fz h => exact Rp.dp ok.sub d v hp h
  | ow ev ed h hf hd r =>
    subst ev ed
    exact .lst (SqL.of h) (RpL.dp ok.sub _ _ hp r)
/-- a readable list, tuple -/
theorem RB.lst {K : PySem.W.Frag} {c : Cf} {v : V} {xs : List D} (ok : c.Ok) (h : RB K c v (.lst xs)) : ∃ p vs, v = .ref p ∧ c.H p = some (.lst vs) ∧ RPL K c vs xs := by
  cases h with
  | fz h =>
    cases h with
    | lst e r => exact ⟨_, _, rfl, ok.sub _ _ e, r⟩
  | ow ev ed h hf hd r =>
    cases ed
    exact ⟨_, _, ev, h, r⟩
theorem RB.tup {K : PySem.W.Frag} {c : Cf} {v : V} {xs : List D} (ok : c.Ok) (h : RB K c v (.tup xs)) : ∃ p vs, v = .ref p ∧ c.F p = some (.tup vs) ∧ c.H p = some (.tup vs) ∧ RPL K c vs xs := by
  cases h with
  | fz h =>
    cases h with
    | tup e r => exact ⟨_, _, rfl, e, ok.sub _ _ e, r⟩
  | ow ev ed h hf hd r => cases ed
theorem RB.int {K : PySem.W.Frag} {c : Cf} {v : V} {i : Int} (h : RB K c v (.int i)) : v = .int i := by
  cases h with
  | fz h => cases h; rfl
  | ow ev ed h hf hd r => cases ed
theorem RB.str {K : PySem.W.Frag} {c : Cf} {v : V} {i : Str} (h : RB K c v (.str i)) : v = .str i := by
  cases h with
  | fz h => cases h; rfl
  | ow ev ed h hf hd r => cases ed
theorem RB.bl {K : PySem.W.Frag} {c : Cf} {v : V} {i : Bool} (h : RB K c v (.bl i)) : v = .bl i := by
  cases h with
  | fz h => cases h; rfl
  | ow ev ed h hf hd r => cases ed
theorem RB.non {K : PySem.W.Frag} {c : Cf} {v : V} (h : RB K c v .non) : v = .non := by
  cases h with
  | fz h => cases h; rfl
  | ow ev ed h hf hd r => cases ed

/-! ### operators on data -/
def MulOk (i j : Int) : Prop := CMul i j ∨ ((-(2 ^ 250) < i ∧ i < 2 ^ 250) ∧ (-(2 ^ 250) < j ∧ j < 2 ^ 250))
def DivOk (j : Int) : Prop := 0 < j ∧ j < 2 ^ 250
theorem natAbs250 {i : Int} (h : -(2 ^ 250) < i ∧ i < 2 ^ 250) : i.natAbs < 2 ^ 250 := by
  have e : ((2 : Int) ^ 250) = ((2 ^ 250 : Nat) : Int) := by norm_cast
  rw [e] at h
  omega
theorem MulOk.w {i j : Int} (h : MulOk i j) : CMul i j ∨ CMulW i j := by
  rcases h with h | ⟨h1, h2⟩
  · exact .inl h
  · exact .inr (wide_mul (natAbs250 h1) (natAbs250 h2) (by decide) (by decide) (by decide))
theorem DivOk.w {i j : Int} (h : DivOk j) : CDivW i j := wide_div (b := 250) h.1 (natAbs250 ⟨by have := h.1; omega, h.2⟩) (by decide) (by decide)
/-- two ints under a condition -/
def oI (C : Int → Int → Prop) (g : Int → Int → D) : O2 := fun a b k => match a, b with
  | .int i, .int j => C i j ∧ k (g i j)
  | _, _ => False
def oI0 (g : Int → Int → D) : O2 := fun a b k => match a, b with
  | .int i, .int j => k (g i j)
  | _, _ => False
def oAdd : O2 := fun a b k => match a, b with
  | .int i, .int j => k (.int (i + j))
  | .str x, .str y => x.length + y.length ≤ sizeLine ∧ k (.str (x ++ y))
  | .tup x, .tup y => x.length + y.length ≤ sizeLine ∧ k (.tup (x ++ y))
  | .lst x, .lst y => x.length + y.length ≤ sizeLine ∧ k (.lst (x ++ y))
  | _, _ => False
def oSub : O2 := oI0 fun i j => .int (i - j)
def oMul : O2 := oI MulOk fun i j => .int (i * j)
def oDiv : O2 := oI (fun _ j => DivOk j) fun i j => .int (i / j)
def oMod : O2 := oI (fun _ j => 0 < j) fun i j => .int (i % j)
def oPow : O2 := oI (fun i j => 0 ≤ j ∧ j ≤ 1000000 ∧ -(2 ^ 64) < i ∧ i < 2 ^ 64) fun i j => .int (i ^ j.toNat)
section
variable {X : Cx}
theorem rp_new_tup {K : PySem.W.Frag} {c : Cf} {p : Addr} {vs : List V} {ds : List D} (ok : c.Ok) (hp : c.H p = none) (r : RPL K c vs ds) {Q : VK} {k : D → Prop} (hk : k (.tup ds))
    (hQ : ∀ d c' z, k d → c'.n = c.n → c'.Ok → Le c c' → RP K c' z d → Q z c'.H) : Q (.ref p) (upd c.H p (.tup vs)) := by
  obtain ⟨ok2, l2⟩ := ok.newF (o := .tup vs) hp
  exact hQ _ ⟨c.dr, upd c.F p (.tup vs), upd c.H p (.tup vs), c.n⟩ _ hk rfl ok2 l2 (.tup upd_same (l2.rpl r))
theorem rp_new_lst {K : PySem.W.Frag} {c : Cf} {p : Addr} {vs : List V} {ds : List D} (ok : c.Ok) (hp : c.H p = none) (r : RPL K c vs ds) {Q : VK} {k : D → Prop} (hk : k (.lst ds))
    (hQ : ∀ d c' z, k d → c'.n = c.n → c'.Ok → Le c c' → RP K c' z d → Q z c'.H) : Q (.ref p) (upd c.H p (.lst vs)) := by
  obtain ⟨ok2, l2⟩ := ok.newF (o := .lst vs) hp
  exact hQ _ ⟨c.dr, upd c.F p (.lst vs), upd c.H p (.lst vs), c.n⟩ _ hk rfl ok2 l2 (.lst upd_same (l2.rpl r))
theorem opd_I {C : Int → Int → Prop} {g : Int → Int → D} {gv : Int → Int → V} (hg : ∀ i j dr F, Rp X.K dr F (gv i j) (g i j)) : OpD X (rI C gv) (oI C g) := by
  intro c v u a b k Q ok ra rb h hQ
  cases a <;> cases b <;> first | exact h.elim | skip
  obtain ⟨hc, hk⟩ := h
  exact ⟨_, _, ra.int, rb.int, hc, hQ _ c _ hk rfl ok .refl (hg _ _ _ _)⟩
theorem opd_I0 {g : Int → Int → D} {gv : Int → Int → V} (hg : ∀ i j dr F, Rp X.K dr F (gv i j) (g i j)) : OpD X (rI0 gv) (oI0 g) := by
  intro c v u a b k Q ok ra rb h hQ
  cases a <;> cases b <;> first | exact h.elim | skip
  exact ⟨_, _, ra.int, rb.int, hQ _ c _ h rfl ok .refl (hg _ _ _ _)⟩
def rStr2 : R2 := fun x y H Q => ∃ i j, x = .str i ∧ y = .str j ∧ i.length + j.length ≤ sizeLine ∧ Q (.str (i ++ j)) H
def rAddU (K : PySem.W.Frag) : R2 := fun x y H Q => (rI0 (fun i j => .int (i + j)) x y H Q ∨ rStr2 x y H Q) ∨ rCatA K x y H Q ∨ rCat x y H Q
theorem op_addU : OpR X (binaryOp .Add) (rAddU X.K) := (op_add.or op_add_str).or (op_catA.or op_cat)
theorem opd_add : OpD X (rAddU X.K) oAdd := by
  intro c v u a b k Q ok ra rb h hQ
  cases a <;> cases b <;> first | exact h.elim | skip
  · exact .inl (.inl ⟨_, _, ra.int, rb.int, hQ _ c _ h rfl ok .refl (.int _)⟩)
  · exact .inl (.inr ⟨_, _, ra.str, rb.str, h.1, hQ _ c _ h.2 rfl ok .refl (.str _)⟩)
  · obtain ⟨p, vs, e1, f1, h1, r1⟩ := ra.tup ok
    obtain ⟨q, us, e2, f2, h2, r2⟩ := rb.tup ok
    rename_i xs ys
    obtain ⟨hl, hk⟩ := h
    refine .inr (.inl ⟨p, q, vs, us, e1, e2, .of h1, .of h2, by rw [r1.length, r2.length]; exact hl, fun e => ?_, fun n1 e => ?_, fun n1 n2 t ht => ?_⟩)
    · subst e
      have ex : xs = [] := by
        have := r1.length
        cases xs with
        | nil => rfl
        | cons _ _ => cases this
      subst ex
      exact hQ _ c _ hk rfl ok .refl (.tup f2 r2)
    · subst e
      have ex : ys = [] := by
        have := r2.length
        cases ys with
        | nil => rfl
        | cons _ _ => cases this
      subst ex
      rw [List.append_nil] at hk
      exact hQ _ c _ hk rfl ok .refl (.tup f1 r1)
    · exact rp_new_tup ok ht (r1.append r2) hk hQ
  · obtain ⟨p, vs, e1, h1, r1⟩ := ra.lst ok
    obtain ⟨q, us, e2, h2, r2⟩ := rb.lst ok
    obtain ⟨hl, hk⟩ := h
    exact .inr (.inr ⟨p, q, vs, us, e1, e2, h1, h2, by rw [r1.length, r2.length]; exact hl, fun t ht => rp_new_lst ok ht (r1.append r2) hk hQ⟩)
theorem opd_sub : OpD X (rI0 fun i j => .int (i - j)) oSub := opd_I0 fun _ _ _ _ => .int _
def rMulU : R2 := fun x y H Q => rI CMul (fun i j => .int (i * j)) x y H Q ∨ rI CMulW (fun i j => .int (i * j)) x y H Q
theorem op_mulU : OpR X (binaryOp .Mult) rMulU := op_mul.or op_mulW
theorem opd_mul : OpD X rMulU oMul := by
  intro c v u a b k Q ok ra rb h hQ
  cases a <;> cases b <;> first | exact h.elim | skip
  obtain ⟨hc, hk⟩ := h
  rcases hc.w with hc | hc
  · exact .inl ⟨_, _, ra.int, rb.int, hc, hQ _ c _ hk rfl ok .refl (.int _)⟩
  · exact .inr ⟨_, _, ra.int, rb.int, hc, hQ _ c _ hk rfl ok .refl (.int _)⟩
theorem opd_div : OpD X (rI CDivW fun i j => .int (i / j)) oDiv := by
  intro c v u a b k Q ok ra rb h hQ
  cases a <;> cases b <;> first | exact h.elim | skip
  obtain ⟨hc, hk⟩ := h
  exact ⟨_, _, ra.int, rb.int, hc.w, hQ _ c _ hk rfl ok .refl (.int _)⟩
theorem opd_mod : OpD X (rI (fun _ j => 0 < j) fun i j => .int (i % j)) oMod := opd_I fun _ _ _ _ => .int _
theorem opd_pow : OpD X (rI CPow fun i j => .int (i ^ j.toNat)) oPow := by
  intro c v u a b k Q ok ra rb h hQ
  cases a <;> cases b <;> first | exact h.elim | skip
  obtain ⟨⟨h1, h2, h3, h4⟩, hk⟩ := h
  refine ⟨_, _, ra.int, rb.int, ⟨h1, h2, ?_⟩, hQ _ c _ hk rfl ok .refl (.int _)⟩
  have e : ((2 : Int) ^ 64) = ((2 ^ 64 : Nat) : Int) := by norm_cast
  rw [e] at h3 h4
  omega

/-! comparisons -/
def intsOf : List D → Option (List Int)
  | [] => some []
  | .int i :: r => (intsOf r).map (i :: ·)
  | _ => none
theorem intsOf_eq : ∀ {ds : List D} {ns : List Int}, intsOf ds = some ns → ds = ns.map D.int
  | [], ns, h => by cases h; rfl
  | d :: ds, ns, h => by
    cases d <;> first | cases h | skip
    rename_i i
    have h' : (intsOf ds).map (i :: ·) = some ns := h
    cases e : intsOf ds with
    | none =>
      rw [e] at h'
      cases h'
    | some ms =>
      rw [e] at h'
      cases h'
      rw [intsOf_eq e]
      rfl
def oLt : O2 := fun a b k => match a, b with
  | .int i, .int j => k (.bl (decide (i < j)))
  | .str x, .str y => k (.bl (decide (x.cps.toList < y.cps.toList)))
  | .tup x, .tup y => ∃ ns ms, intsOf x = some ns ∧ intsOf y = some ms ∧ k (.bl (HT.lexLt ns ms))
  | _, _ => False
def oLe : O2 := oI0 fun i j => .bl (decide (i ≤ j))
def oGt : O2 := oI0 fun i j => .bl (decide (j < i))
def oGe : O2 := oI0 fun i j => .bl (decide (j ≤ i))
def rStrLt : R2 := fun x y H Q => ∃ i j, x = .str i ∧ y = .str j ∧ Q (.bl (decide (i.cps.toList < j.cps.toList))) H
def rLtU (K : PySem.W.Frag) : R2 := fun x y H Q => rI0 (fun i j => .bl (decide (i < j))) x y H Q ∨ rStrLt x y H Q ∨ rLtT K x y H Q
theorem op_ltU (hu : X.A.units < cLine) : OpR X (compareOp .Lt) (rLtU X.K) := op_lt.or (op_lt_str.or (op_ltT hu))
theorem opd_lt : OpD X (rLtU X.K) oLt := by
  intro c v u a b k Q ok ra rb h hQ
  cases a <;> cases b <;> first | exact h.elim | skip
  · exact .inl ⟨_, _, ra.int, rb.int, hQ _ c _ h rfl ok .refl (.bl _)⟩
  · exact .inr (.inl ⟨_, _, ra.str, rb.str, hQ _ c _ h rfl ok .refl (.bl _)⟩)
  · obtain ⟨ns, ms, i1, i2, hk⟩ := h
    obtain ⟨p, vs, e1, f1, h1, r1⟩ := ra.tup ok
    obtain ⟨q, us, e2, f2, h2, r2⟩ := rb.tup ok
    rw [intsOf_eq i1] at r1
    rw [intsOf_eq i2] at r2
    refine .inr (.inr ⟨p, q, ns, ms, e1, e2, .of (by rw [h1, r1.ints]), .of (by rw [h2, r2.ints]), hQ _ c _ hk rfl ok .refl (.bl _)⟩)
theorem opd_le : OpD X (rI0 fun i j => .bl (decide (i ≤ j))) oLe := opd_I0 fun _ _ _ _ => .bl _
theorem opd_gt : OpD X (rI0 fun i j => .bl (decide (j < i))) oGt := opd_I0 fun _ _ _ _ => .bl _
theorem opd_ge : OpD X (rI0 fun i j => .bl (decide (j ≤ i))) oGe := opd_I0 fun _ _ _ _ => .bl _
def oEq : O2 := fun a b k => Lay a ∧ Lay b ∧ k (.bl (deq a b))
def oNe : O2 := fun a b k => Lay a ∧ Lay b ∧ k (.bl (!deq a b))
theorem opd_eq : OpD X (rEqD X.K) oEq := by
  intro c v u a b k Q ok ra rb h hQ
  obtain ⟨h1, h2, hk⟩ := h
  exact ⟨py a, py b, ra.dp ok h1.plainD, rb.dp ok h2.plainD, h1, h2, hQ _ c _ hk rfl ok .refl (.bl _)⟩
theorem opd_ne : OpD X (rNeD X.K) oNe := by
  intro c v u a b k Q ok ra rb h hQ
  obtain ⟨h1, h2, hk⟩ := h
  exact ⟨py a, py b, ra.dp ok h1.plainD, rb.dp ok h2.plainD, h1, h2, hQ _ c _ hk rfl ok .refl (.bl _)⟩
/-- in: a list, a tuple of plain data -/
def dIn (a : D) (xs : List D) : Bool := xs.any fun z => deq z a
def oIn : O2 := fun a b k => match b with
  | .lst xs => Lay a ∧ Lay (.lst xs) ∧ k (.bl (dIn a xs))
  | .tup xs => Lay a ∧ Lay (.tup xs) ∧ k (.bl (dIn a xs))
  | _ => False
def oNotIn : O2 := fun a b k => match b with
  | .lst xs => Lay a ∧ Lay (.lst xs) ∧ k (.bl (!dIn a xs))
  | .tup xs => Lay a ∧ Lay (.tup xs) ∧ k (.bl (!dIn a xs))
  | _ => False
def rInT (K : PySem.W.Frag) (n : Bool) : R2 := fun x y H Q => ∃ d ds, Dp K H x d ∧ Dp K H y (.tuple ds) ∧ SeqAt.shaped d = true ∧ SeqAt.shaped (.tuple ds) = true ∧ Q (.bl (if n then !ds.any fun z => PyData.eqv z d else ds.any fun z => PyData.eqv z d)) H
theorem op_inT (hu : X.A.units + 65 < cLine) : OpR X (compareOp .In) (rInT X.K false) := by
  intro pins s σ H x y v u Q I rx ry h
  obtain ⟨d, ds, hd, he, sd, se, q⟩ := h
  obtain ⟨as, r1⟩ := Dp.reads I d x v hd rx
  obtain ⟨bs, r2⟩ := Dp.reads I (.tuple ds) y u he ry
  exact SeqAt.in_tuple_reads r2 r1 (SeqAt.canLay_of_shaped se) (SeqAt.canLay_of_shaped sd) (room_in_shaped sd hu) ⟨.bl _, H, I, rfl, q⟩
theorem op_notInT (hu : X.A.units + 65 < cLine) : OpR X (compareOp .NotIn) (rInT X.K true) := by
  intro pins s σ H x y v u Q I rx ry h
  obtain ⟨d, ds, hd, he, sd, se, q⟩ := h
  obtain ⟨as, r1⟩ := Dp.reads I d x v hd rx
  obtain ⟨bs, r2⟩ := Dp.reads I (.tuple ds) y u he ry
  exact SeqAt.notIn_tuple_reads r2 r1 (SeqAt.canLay_of_shaped se) (SeqAt.canLay_of_shaped sd) (room_in_shaped sd hu) ⟨.bl _, H, I, rfl, q⟩
theorem any_py (a : D) : ∀ xs : List D, (pyL xs).any (fun z => PyData.eqv z (py a)) = dIn a xs
  | [] => rfl
  | x :: xs => by
    show (PyData.eqv (py x) (py a) || (pyL xs).any fun z => PyData.eqv z (py a)) = (deq x a || dIn a xs)
    rw [any_py a xs]
    rfl
theorem op_inU (hu : X.A.units + 65 < cLine) : OpR X (compareOp .In) (fun x y H Q => rInD X.K x y H Q ∨ rInT X.K false x y H Q) := (op_inD hu).or (op_inT hu)
theorem op_notInU (hu : X.A.units + 65 < cLine) : OpR X (compareOp .NotIn) (fun x y H Q => rNotInD X.K x y H Q ∨ rInT X.K true x y H Q) := (op_notInD hu).or (op_notInT hu)
theorem opd_in : OpD X (fun x y H Q => rInD X.K x y H Q ∨ rInT X.K false x y H Q) oIn := by
  intro c v u a b k Q ok ra rb h hQ
  cases b <;> first | exact h.elim | skip
  · obtain ⟨h1, h2, hk⟩ := h
    refine .inr ⟨py a, _, ra.dp ok h1.plainD, rb.dp ok h2.plainD, h1, h2, ?_⟩
    rw [if_neg Bool.false_ne_true, any_py]
    exact hQ _ c _ hk rfl ok .refl (.bl _)
  · obtain ⟨h1, h2, hk⟩ := h
    refine .inl ⟨py a, _, ra.dp ok h1.plainD, rb.dp ok h2.plainD, h1, h2, ?_⟩
    rw [any_py]
    exact hQ _ c _ hk rfl ok .refl (.bl _)
theorem opd_notIn : OpD X (fun x y H Q => rNotInD X.K x y H Q ∨ rInT X.K true x y H Q) oNotIn := by
  intro c v u a b k Q ok ra rb h hQ
  cases b <;> first | exact h.elim | skip
  · obtain ⟨h1, h2, hk⟩ := h
    refine .inr ⟨py a, _, ra.dp ok h1.plainD, rb.dp ok h2.plainD, h1, h2, ?_⟩
    rw [if_pos rfl, any_py]
    exact hQ _ c _ hk rfl ok .refl (.bl _)
  · obtain ⟨h1, h2, hk⟩ := h
    refine .inl ⟨py a, _, ra.dp ok h1.plainD, rb.dp ok h2.plainD, h1, h2, ?_⟩
    rw [any_py]
    exact hQ _ c _ hk rfl ok .refl (.bl _)
/-- is None -/
def isNonD : D → Bool
  | .non => true
  | _ => false
def oIsN : O2 := fun a b k => match b with
  | .non => k (.bl (isNonD a))
  | _ => False
def oNotN : O2 := fun a b k => match b with
  | .non => k (.bl (!isNonD a))
  | _ => False
theorem rb_non {K : PySem.W.Frag} {c : Cf} {v : V} {a : D} (h : RB K c v a) : decide (v = .non) = isNonD a := by
  cases h with
  | fz h => cases h <;> rfl
  | ow ev ed h hf hd r =>
    subst ev ed
    rfl
theorem opd_isN : OpD X (fun x y H Q => y = .non ∧ Q (.bl (decide (x = .non))) H) oIsN := by
  intro c v u a b k Q ok ra rb h hQ
  cases b <;> first | exact h.elim | skip
  refine ⟨rb.non, ?_⟩
  rw [rb_non ra]
  exact hQ _ c _ h rfl ok .refl (.bl _)
theorem opd_notN : OpD X (fun x y H Q => y = .non ∧ Q (.bl (!decide (x = .non))) H) oNotN := by
  intro c v u a b k Q ok ra rb h hQ
  cases b <;> first | exact h.elim | skip
  refine ⟨rb.non, ?_⟩
  rw [rb_non ra]
  exact hQ _ c _ h rfl ok .refl (.bl _)
/-! subscripts -/
def oIx : O2 := fun a b k => match a, b with
  | .lst xs, .int i => ∃ d, atI xs i = some d ∧ k d
  | .tup xs, .int i => ∃ d, atI xs i = some d ∧ k d
  | .str z, .int i => ∃ c, z.length ≤ sizeLine ∧ atI z.cps.toList i = some c ∧ k (.str ⟨#[c]⟩)
  | _, _ => False
theorem atI_rp {K : PySem.W.Frag} {dr : Addr} {F : Hp} {vs : List V} {ds : List D} {i : Int} {d : D} (r : RpL K dr F vs ds) (h : atI ds i = some d) : ∃ v, atI vs i = some v ∧ Rp K dr F v d := by
  unfold atI at h ⊢
  rw [r.length]
  cases e : ixN ds.length i with
  | none =>
    rw [e] at h
    cases h
  | some j =>
    rw [e] at h
    exact r.get h
theorem opd_ix : OpD X (rIx X.K) oIx := by
  intro c v u a b k Q ok ra rb h hQ
  cases a <;> cases b <;> first | exact h.elim | skip
  · obtain ⟨ch, h1, h2, hk⟩ := h
    exact .inr (.inr ⟨_, _, ch, ra.str, rb.int, h1, h2, hQ _ c _ hk rfl ok .refl (.str _)⟩)
  · obtain ⟨d, h1, hk⟩ := h
    obtain ⟨p, vs, e1, f1, h2, r1⟩ := ra.tup ok
    obtain ⟨z, hz, rz⟩ := atI_rp r1 h1
    exact .inr (.inl ⟨p, vs, _, z, e1, rb.int, .of h2, hz, hQ _ c _ hk rfl ok .refl rz⟩)
  · obtain ⟨d, h1, hk⟩ := h
    obtain ⟨p, vs, e1, h2, r1⟩ := ra.lst ok
    obtain ⟨z, hz, rz⟩ := atI_rp r1 h1
    exact .inl ⟨p, vs, _, z, e1, rb.int, .of h2, hz, hQ _ c _ hk rfl ok .refl rz⟩
end
end DL
set_option maxHeartbeats 2000000
namespace DL
open PySem PySem.Spec PyProof.Rows L2
section
variable {X : Cx} {E : XK}

/-! ### tests -/
def wTest (w : WE) : WT := fun x η n R => w x η n fun d n1 => match d with
  | .bl b => R b n1
  | _ => False
/-- a value's truth -/
def truth : D → (Bool → Prop) → Prop
  | .non, k => k false
  | .bl b, k => k b
  | .int i, k => k (i != 0)
  | .str z, k => z.length ≤ sizeLine ∧ k ((z.length : Int) != 0)
  | .tup xs, k => k (!xs.isEmpty)
  | .lst xs, k => k (!xs.isEmpty)
  | _, _ => False
def wTru (w : WE) : WT := fun x η n R => w x η n fun d n1 => truth d fun b => R b n1
def wAnd (a b : WT) : WT := fun x η n R => a x η n fun c n1 => if c = true then b x η n1 R else R false n1
def wOr (a b : WT) : WT := fun x η n R => a x η n fun c n1 => if c = true then R true n1 else b x η n1 R
def wNot (a : WT) : WT := fun x η n R => a x η n fun c n1 => R (!c) n1
theorem qt_cmp {a b : Expr} {pos : Pos} {op : CmpOp} {wa wb : WE} {r : R2} {o : O2} (ho : OpR X (compareOp op) r) (h : OpD X r o) (ha : PE X a (upB X.K E wa)) (hb : PE X b (upB X.K E wb)) (hm : behindInMarks op b = false) :
    PT X (.Compare a [op] [b] pos) (upT X.K E (wTest (eBin o wa wb))) := pt_to (pt_cmpR ho ha hb hm) fun σ H Q q => by
  obtain ⟨c, η, R, x, e1, ok, en, hw, hr, hx⟩ := q
  refine bin_up h σ H _ ⟨c, η, _, x, e1, ok, en, hw, fun d c' v hd ok' l' rp => ?_, hx⟩
  cases d <;> first | exact hd.elim | skip
  cases rp
  exact ⟨_, rfl, hr _ c' hd ok' l'⟩
theorem isEmpty_rpl {K : PySem.W.Frag} {dr : Addr} {F : Hp} {vs : List V} {ds : List D} (r : RpL K dr F vs ds) : (!ds.isEmpty) = !vs.isEmpty := by
  cases r <;> rfl
theorem rb_truth {K : PySem.W.Frag} {c : Cf} {v : V} {d : D} {k : Bool → Prop} (ok : c.Ok) (h : RB K c v d) (ht : truth d k) : ∃ b, TruV K v c.H b ∧ k b := by
  cases d <;> first | exact ht.elim | skip
  · rw [h.non]
    exact ⟨_, rfl, ht⟩
  · rw [h.bl]
    exact ⟨_, rfl, ht⟩
  · rw [h.int]
    exact ⟨_, rfl, ht⟩
  · rw [h.str]
    exact ⟨_, ⟨ht.1, rfl⟩, ht.2⟩
  · obtain ⟨p, vs, rfl, _, e, r⟩ := h.tup ok
    refine ⟨_, .inr (.inl ⟨vs, .of e, rfl⟩), ?_⟩
    rw [← isEmpty_rpl r]
    exact ht
  · obtain ⟨p, vs, rfl, e, r⟩ := h.lst ok
    refine ⟨_, .inl ⟨vs, .of e, rfl⟩, ?_⟩
    rw [← isEmpty_rpl r]
    exact ht
theorem qt_v {e : Expr} {w : WE} (h : PE X e (upB X.K E w)) (he : ∀ whole, isTrue e X.env whole = (do let v ← whole; standAt e.pos; holding [v] (truthy v)) := by intro _; rfl) : PT X e (upT X.K E (wTru w)) := pt_to (pt_truth h he) fun σ H Q q => by
  obtain ⟨c, η, R, x, e1, ok, en, hw, hr, hx⟩ := q
  refine ⟨c, η, _, x, e1, ok, en, hw, fun d c' v hd ok' l' rp => ?_, hx⟩
  obtain ⟨b, h1, h2⟩ := rb_truth ok' rp hd
  exact ⟨b, h1, hr _ c' h2 ok' l'⟩
variable {a b : Expr} {pos : Pos} {rest : List Expr}
theorem qw_and1 {w : WT} (h : PT X a (upT X.K E w)) : PW X (.BoolOp .And [a] pos) (upT X.K E w) := pw_and1 h
theorem qw_or1 {w : WT} (h : PT X a (upT X.K E w)) : PW X (.BoolOp .Or [a] pos) (upT X.K E w) := pw_or1 h
theorem qw_and {wa wb : WT} (ha : PT X a (upT X.K E wa)) (hb : PW X (.BoolOp .And (b :: rest) pos) (upT X.K E wb)) : PW X (.BoolOp .And (a :: b :: rest) pos) (upT X.K E (wAnd wa wb)) := pw_to (pw_and ha hb) fun σ H Q q => by
  obtain ⟨c, η, R, x, e1, ok, en, hw, hr, hx⟩ := q
  refine ⟨c, η, _, x, e1, ok, en, hw, fun k c' hd ok' l' => ?_, hx⟩
  cases k with
  | true => exact ⟨c', η, R, x, rfl, ok', en.le l', hd, fun k2 c2 h2 ok2 l2 => hr k2 c2 h2 ok2 (l'.trans l2), hx.le l'⟩
  | false => exact hr false c' hd ok' l'
theorem qw_or {wa wb : WT} (ha : PT X a (upT X.K E wa)) (hb : PW X (.BoolOp .Or (b :: rest) pos) (upT X.K E wb)) : PW X (.BoolOp .Or (a :: b :: rest) pos) (upT X.K E (wOr wa wb)) := pw_to (pw_or ha hb) fun σ H Q q => by
  obtain ⟨c, η, R, x, e1, ok, en, hw, hr, hx⟩ := q
  refine ⟨c, η, _, x, e1, ok, en, hw, fun k c' hd ok' l' => ?_, hx⟩
  cases k with
  | false => exact ⟨c', η, R, x, rfl, ok', en.le l', hd, fun k2 c2 h2 ok2 l2 => hr k2 c2 h2 ok2 (l'.trans l2), hx.le l'⟩
  | true => exact hr true c' hd ok' l'
theorem qt_not {w : WT} (h : PT X a (upT X.K E w)) : PT X (.UnaryOp .Not a pos) (upT X.K E (wNot w)) := pt_to (pt_not h) fun σ H Q q => by
  obtain ⟨c, η, R, x, e1, ok, en, hw, hr, hx⟩ := q
  exact ⟨c, η, _, x, e1, ok, en, hw, fun k c' hd ok' l' => hr _ c' hd ok' l', hx⟩
/-- a < b < c -/
def wChain (o o' : O2) (wa wb wc : WE) : WT := fun x η n R => wa x η n fun a n1 => wb x η n1 fun b n2 => o a b fun d => match d with
  | .bl true => wc x η n2 fun c n3 => o' b c fun d => match d with
    | .bl k => R k n3
    | _ => False
  | .bl false => R false n2
  | _ => False
theorem qt_chain {e1 e2 e3 : Expr} {pos : Pos} {op op' : CmpOp} {wa wb wc : WE} {r r' : R2} {o o' : O2} (ho : OpR X (compareOp op) r) (ho' : OpR X (compareOp op') r') (h : OpD X r o) (h' : OpD X r' o') (ha : PE X e1 (upB X.K E wa)) (hb : PE X e2 (upB X.K E wb)) (hc : PE X e3 (upB X.K E wc))
    (hm : lastMarks [op, op'] [e2, e3] = false := by with_unfolding_all rfl) : PT X (.Compare e1 [op, op'] [e2, e3] pos) (upT X.K E (wChain o o' wa wb wc)) := pt_to (pt_chain ho ho' ha hb hc hm) fun σ H Q q => by
  obtain ⟨c, η, R, x, e1, ok, en, hw, hr, hx⟩ := q
  refine ⟨c, η, _, x, e1, ok, en, hw, fun da c1 v h1 ok1 l1 r1 => ?_, hx⟩
  refine ⟨c1, η, _, x, rfl, ok1, en.le l1, h1, fun db c2 u h2 ok2 l2 r2 => ?_, hx.le l1⟩
  refine h c2 v u da db _ _ ok2 (r1.le l2) r2 h2 fun d c3 z hk hn ok3 l3 r3 => ?_
  cases d <;> first | exact hk.elim | skip
  rename_i t
  cases r3
  refine ⟨t, rfl, ?_⟩
  cases t with
  | false => exact ⟨false, rfl, hr false c3 (by rw [hn]; exact hk) ok3 ((l1.trans l2).trans l3)⟩
  | true =>
    refine ⟨c3, η, _, x, rfl, ok3, ((en.le l1).le l2).le l3, (by rw [hn]; exact hk), fun dc c4 w h4 ok4 l4 r4 => ?_, ((hx.le l1).le l2).le l3⟩
    refine h' c4 u w db dc _ _ ok4 ((r2.le l3).le l4) r4 h4 fun d c5 z hk hn5 ok5 l5 r5 => ?_
    cases d <;> first | exact hk.elim | skip
    cases r5
    exact ⟨_, rfl, hr _ c5 (by rw [hn5]; exact hk) ok5 (((l1.trans l2).trans l3).trans (l4.trans l5))⟩
/-- a if t else b -/
def eIf (t : WT) (wa wb : WE) : WE := fun x η n R => t x η n fun c n1 => if c = true then wa x η n1 R else wb x η n1 R
theorem q_if {t : Expr} {wt : WT} {wa wb : WE} (ht : PT X t (upT X.K E wt)) (ha : PE X a (up X.K E wa)) (hb : PE X b (up X.K E wb)) : PE X (.IfExp t a b pos) (up X.K E (eIf wt wa wb)) := pe_to (pe_ifExp ht ha hb) fun σ H Q q => by
  obtain ⟨c, η, R, x, e1, ok, en, hw, hr, hx⟩ := q
  refine ⟨c, η, _, x, e1, ok, en, hw, fun k c' hd ok' l' => ?_, hx⟩
  cases k with
  | true => exact ⟨c', η, R, x, rfl, ok', en.le l', hd, fun d c2 v h2 ok2 l2 r2 => hr d c2 v h2 ok2 (l'.trans l2) r2, hx.le l'⟩
  | false => exact ⟨c', η, R, x, rfl, ok', en.le l', hd, fun d c2 v h2 ok2 l2 r2 => hr d c2 v h2 ok2 (l'.trans l2) r2, hx.le l'⟩
/-- and, or, not as values of bools -/
def eAndV (wa wb : WE) : WE := fun x η n R => wa x η n fun a n1 => match a with
  | .bl true => wb x η n1 R
  | .bl false => R (.bl false) n1
  | _ => False
def eOrV (wa wb : WE) : WE := fun x η n R => wa x η n fun a n1 => match a with
  | .bl true => R (.bl true) n1
  | .bl false => wb x η n1 R
  | _ => False
def eNotV (wa : WE) : WE := fun x η n R => wa x η n fun a n1 => match a with
  | .bl b => R (.bl (!b)) n1
  | _ => False
theorem q_one {op} {w : WE} (h : PE X a (up X.K E w)) : PE X (.BoolOp op [a] pos) (up X.K E w) := pe_one h
theorem q_and {wa wb : WE} (ha : PE X a (up X.K E wa)) (hb : PE X (.BoolOp .And (b :: rest) pos) (up X.K E wb)) : PE X (.BoolOp .And (a :: b :: rest) pos) (up X.K E (eAndV wa wb)) := pe_to (pe_and ha hb) fun σ H Q q => by
  obtain ⟨c, η, R, x, e1, ok, en, hw, hr, hx⟩ := q
  refine ⟨c, η, _, x, e1, ok, en, hw, fun d c' v hd ok' l' rp => ?_, hx⟩
  cases d <;> first | exact hd.elim | skip
  rename_i k
  cases rp
  refine ⟨k, rfl, ?_⟩
  cases k with
  | true => exact ⟨c', η, R, x, rfl, ok', en.le l', hd, fun d c2 v h2 ok2 l2 r2 => hr d c2 v h2 ok2 (l'.trans l2) r2, hx.le l'⟩
  | false => exact hr _ c' _ hd ok' l' (.bl _)
theorem q_or {wa wb : WE} (ha : PE X a (up X.K E wa)) (hb : PE X (.BoolOp .Or (b :: rest) pos) (up X.K E wb)) : PE X (.BoolOp .Or (a :: b :: rest) pos) (up X.K E (eOrV wa wb)) := pe_to (pe_or ha hb) fun σ H Q q => by
  obtain ⟨c, η, R, x, e1, ok, en, hw, hr, hx⟩ := q
  refine ⟨c, η, _, x, e1, ok, en, hw, fun d c' v hd ok' l' rp => ?_, hx⟩
  cases d <;> first | exact hd.elim | skip
  rename_i k
  cases rp
  refine ⟨k, rfl, ?_⟩
  cases k with
  | false => exact ⟨c', η, R, x, rfl, ok', en.le l', hd, fun d c2 v h2 ok2 l2 r2 => hr d c2 v h2 ok2 (l'.trans l2) r2, hx.le l'⟩
  | true => exact hr _ c' _ hd ok' l' (.bl _)
theorem q_not {w : WE} (h : PE X a (up X.K E w)) : PE X (.UnaryOp .Not a pos) (up X.K E (eNotV w)) := pe_to (pe_not h) fun σ H Q q => by
  obtain ⟨c, η, R, x, e1, ok, en, hw, hr, hx⟩ := q
  refine ⟨c, η, _, x, e1, ok, en, hw, fun d c' v hd ok' l' rp => ?_, hx⟩
  cases d <;> first | exact hd.elim | skip
  cases rp
  exact ⟨_, rfl, hr _ c' _ hd ok' l' (.bl _)⟩
def eNeg (wa : WE) : WE := fun x η n R => wa x η n fun a n1 => match a with
  | .int i => R (.int (-i)) n1
  | _ => False
theorem q_neg {w : WE} (h : PE X a (upB X.K E w)) : PE X (.UnaryOp .USub a pos) (up X.K E (eNeg w)) := pe_to (pe_un un_neg h) fun σ H Q q => by
  obtain ⟨c, η, R, x, e1, ok, en, hw, hr, hx⟩ := q
  refine ⟨c, η, _, x, e1, ok, en, hw, fun d c' v hd ok' l' rp => ?_, hx⟩
  cases d <;> first | exact hd.elim | skip
  exact ⟨_, rp.int, hr _ c' _ hd ok' l' (.int _)⟩

/-! ### arguments, displays -/
def aNil : WA := fun _ _ n R => R [] n
def aCons (w : WE) (r : WA) : WA := fun x η n R => w x η n fun d n1 => r x η n1 fun ds n2 => R (d :: ds) n2
variable {e : Expr} {es : List Expr}
theorem qa_nil : PA X [] (upA X.K E aNil) := pa_to pa_nil fun σ H Q q => by
  obtain ⟨c, η, R, x, e1, ok, en, hw, hr, hx⟩ := q
  show Q [] H
  rw [← e1]
  exact hr [] c [] hw ok .refl .nil
theorem qa_cons {w : WE} {r : WA} (ha : PE X e (up X.K E w)) (hr : PA X es (upA X.K E r)) (hs : starEach (e :: es) X.env = (false, eval e X.env) :: starEach es X.env := by rfl) : PA X (e :: es) (upA X.K E (aCons w r)) := pa_to (pa_cons ha hr hs) fun σ H Q q => by
  obtain ⟨c, η, R, x, e1, ok, en, hw, hr, hx⟩ := q
  refine ⟨c, η, _, x, e1, ok, en, hw, fun d c1 v h1 ok1 l1 r1 => ?_, hx⟩
  refine ⟨c1, η, _, x, rfl, ok1, en.le l1, h1, fun ds c2 vs h2 ok2 l2 r2 => ?_, hx.le l1⟩
  exact hr (d :: ds) c2 (v :: vs) h2 ok2 (l1.trans l2) (.cons (l2.rp r1) r2)
theorem qab_nil : PA X [] (upAB X.K E aNil) := pa_to pa_nil fun σ H Q q => by
  obtain ⟨c, η, R, x, e1, ok, en, hw, hr, hx⟩ := q
  show Q [] H
  rw [← e1]
  exact hr [] c [] hw ok .refl .nil
theorem RBL.le {K : PySem.W.Frag} {c c' : Cf} (l : Le c c') : ∀ {vs : List V} {ds : List D}, RBL K c vs ds → RBL K c' vs ds
  | _, _, .nil => .nil
  | _, _, .cons r t => .cons (r.le l) (RBL.le l t)
theorem qab_cons {w : WE} {r : WA} (ha : PE X e (upB X.K E w)) (hr : PA X es (upAB X.K E r)) (hs : starEach (e :: es) X.env = (false, eval e X.env) :: starEach es X.env := by rfl) : PA X (e :: es) (upAB X.K E (aCons w r)) := pa_to (pa_cons ha hr hs) fun σ H Q q => by
  obtain ⟨c, η, R, x, e1, ok, en, hw, hr, hx⟩ := q
  refine ⟨c, η, _, x, e1, ok, en, hw, fun d c1 v h1 ok1 l1 r1 => ?_, hx⟩
  refine ⟨c1, η, _, x, rfl, ok1, en.le l1, h1, fun ds c2 vs h2 ok2 l2 r2 => ?_, hx.le l1⟩
  exact hr (d :: ds) c2 (v :: vs) h2 ok2 (l1.trans l2) (.cons (r1.le l2) r2)
def eTup (w : WA) : WE := fun x η n R => w x η n fun ds n1 => ds.length ≤ sizeLine ∧ R (.tup ds) n1
def nLst (w : WA) : WN := fun x η n R => w x η n fun ds n1 => ds.length ≤ sizeLine ∧ R ds n1
theorem q_tup {x1} {w : WA} (h : PA X es (upA X.K E w)) : PE X (.Tuple es x1 pos) (up X.K E (eTup w)) := pe_to (pe_tup h) fun σ H Q q => by
  obtain ⟨c, η, R, x, e1, ok, en, hw, hr, hx⟩ := q
  refine ⟨c, η, _, x, e1, ok, en, hw, fun ds c1 vs h1 ok1 l1 r1 => ?_, hx⟩
  refine ⟨by rw [r1.length]; exact h1.1, fun p hp => ?_⟩
  exact rp_new_tup (k := fun d => R d c1.n) ok1 hp r1 h1.2 fun d c' z hk hn ok' l' rp => hr d c' z (by rw [hn]; exact hk) ok' (l1.trans l') rp
theorem qn_lst {w : WA} (h : PA X es (upA X.K E w)) : PE X (.List es pos) (upN X.K E (nLst w)) := pe_to (pe_lst h) fun σ H Q q => by
  obtain ⟨c, η, R, x, e1, ok, en, hw, hr, hx⟩ := q
  refine ⟨c, η, _, x, e1, ok, en, hw, fun ds c1 vs h1 ok1 l1 r1 => ?_, hx⟩
  refine ⟨by rw [r1.length]; exact h1.1, fun p hp => ?_⟩
  obtain ⟨ok2, l2, hF, hd⟩ := ok1.newH (o := .lst vs) hp
  have hp0 : c.H p = none := by
    cases q : c.H p with
    | none => rfl
    | some o =>
      by_cases hdr : p = c.dr
      · rw [← l1.dr] at hdr
        exact absurd hdr hd
      · rw [l1.h p o hdr (fun z => z) q] at hp
        cases hp
  exact hr ds ⟨c1.dr, c1.F, upd c1.H p (.lst vs), c1.n⟩ p vs h1.2 ok2 (l1.trans l2) hp0 hF (by rw [← l1.dr]; exact hd) upd_same (l2.rpl r1)

/-! ### built-ins by values -/
abbrev OB := List D → (D → Prop) → Prop
def eCB (o : OB) (w : WA) : WE := fun x η n R => w x η n fun ds n1 => o ds fun d => R d n1
def BD (X : Cx) (r : List V → Hp → VK → Prop) (o : OB) : Prop := ∀ (c : Cf) (vs : List V) (ds : List D) (k : D → Prop) (Q : VK), c.Ok → RBL X.K c vs ds → o ds k →
  (∀ d c' z, k d → c'.n = c.n → c'.Ok → Le c c' → RP X.K c' z d → Q z c'.H) → r vs c.H Q
theorem cb_up {w : WA} {r : List V → Hp → VK → Prop} {o : OB} (h : BD X r o) : ∀ σ H Q, up X.K E (eCB o w) σ H Q → tCB r (upAB X.K E w) σ H Q := fun σ H Q q => by
  obtain ⟨c, η, R, x, e1, ok, en, hw, hr, hx⟩ := q
  refine ⟨c, η, _, x, e1, ok, en, hw, fun ds c1 vs h1 ok1 l1 r1 => ?_, hx⟩
  exact h c1 vs ds _ Q ok1 r1 h1 fun d c2 z hk hn ok2 l2 r2 => hr d c2 z (by rw [hn]; exact hk) ok2 (l1.trans l2) r2
theorem q_B {x : Str} {p : Pos} {id : String} {r : List V → Hp → VK → Prop} {o : OB} {w : WA} (hc : CallR X (.builtin id) r) (h : BD X r o) (hg : Gl X x) (hm : X.mg x = none) (hv : bootBuiltins x = some (.builtin id)) (ha : PA X (e :: es) (upAB X.K E w)) (hn : x ≠ "__name__" := by decide) (hdb : (x == ("__debug__" : Str)) = false := by decide)
    (he : starEach (e :: es) X.env = (false, eval e X.env) :: starEach es X.env := by rfl) (hpl : (backTo pos (starEach es X.env)).any (·.1) = false := by rfl) : PE X (.Call (.Name x p) (e :: es) [] pos) (up X.K E (eCB o w)) :=
  pe_to (pe_callB hc hg hm hv ha hn hdb he hpl) (cb_up h)
theorem q_Ty {x : Str} {p : Pos} {T : String} {r : List V → Hp → VK → Prop} {o : OB} {w : WA} (hc : CallR X (.type T) r) (h : BD X r o) (hg : Gl X x) (hm : X.mg x = none) (hv : bootBuiltins x = some (.type T)) (ha : PA X (e :: es) (upAB X.K E w)) (hn : x ≠ "__name__" := by decide) (hdb : (x == ("__debug__" : Str)) = false := by decide)
    (he : starEach (e :: es) X.env = (false, eval e X.env) :: starEach es X.env := by rfl) (hpl : (backTo pos (starEach es X.env)).any (·.1) = false := by rfl) : PE X (.Call (.Name x p) (e :: es) [] pos) (up X.K E (eCB o w)) :=
  pe_to (pe_callTy hc hg hm hv ha hn hdb he hpl) (cb_up h)
/-- len -/
def bLen : OB := fun ds k => match ds with
  | [.lst xs] => k (.int xs.length)
  | [.tup xs] => k (.int xs.length)
  | [.str z] => z.length ≤ sizeLine ∧ k (.int z.length)
  | _ => False
def rLenU (K : PySem.W.Frag) : List V → Hp → VK → Prop := fun xs H Q => (∃ p ys, xs = [.ref p] ∧ (SqL K H p ys ∨ SqT K H p ys) ∧ Q (.int ys.length) H) ∨ ∃ z, xs = [.str z] ∧ z.length ≤ sizeLine ∧ Q (.int z.length) H
theorem call_lenU : CallR X (.builtin "len") (rLenU X.K) := fun pins s σ H xs us Q I r h => by
  rcases h with h | h
  · exact call_len_seq pins s σ H xs us Q I r h
  · exact call_len_str pins s σ H xs us Q I r h
theorem bd_len : BD X (rLenU X.K) bLen := by
  intro c vs ds k Q ok r h hQ
  cases r with
  | nil => exact h.elim
  | cons r1 t =>
    rename_i v vs d ds
    cases t with
    | nil =>
      cases d <;> first | exact h.elim | skip
      · exact .inr ⟨_, by rw [r1.str], h.1, hQ _ c _ h.2 rfl ok .refl (.int _)⟩
      · obtain ⟨p, us, rfl, _, e, rp⟩ := r1.tup ok
        refine .inl ⟨p, us, rfl, .inr (.of e), ?_⟩
        rw [rp.length]
        exact hQ _ c _ h rfl ok .refl (.int _)
      · obtain ⟨p, us, rfl, e, rp⟩ := r1.lst ok
        refine .inl ⟨p, us, rfl, .inl (.of e), ?_⟩
        rw [rp.length]
        exact hQ _ c _ h rfl ok .refl (.int _)
    | cons _ _ => cases d <;> exact h.elim
/-- tuple(..) of a list, a tuple -/
def bTuple : OB := fun ds k => match ds with
  | [.lst xs] => k (.tup xs)
  | [.tup xs] => k (.tup xs)
  | _ => False
theorem bd_tuple : BD X (fun xs H Q => ∃ p ys, xs = [.ref p] ∧ ((SqL X.K H p ys ∧ ∀ l, H l = none → Q (.ref l) (upd H l (.tup ys))) ∨ (SqT X.K H p ys ∧ Q (.ref p) H))) bTuple := by
  intro c vs ds k Q ok r h hQ
  cases r with
  | nil => exact h.elim
  | cons r1 t =>
    rename_i v vs d ds
    cases t with
    | nil =>
      cases d <;> first | exact h.elim | skip
      · obtain ⟨p, us, rfl, f, e, rp⟩ := r1.tup ok
        exact ⟨p, us, rfl, .inr ⟨.of e, hQ _ c _ h rfl ok .refl (.tup f rp)⟩⟩
      · obtain ⟨p, us, rfl, e, rp⟩ := r1.lst ok
        exact ⟨p, us, rfl, .inl ⟨.of e, fun l hl => rp_new_tup ok hl rp h hQ⟩⟩
    | cons _ _ => cases d <;> exact h.elim
/-- list(..) of a list, a tuple (frozen) -/
def bList : OB := fun ds k => match ds with
  | [.lst xs] => k (.lst xs)
  | [.tup xs] => k (.lst xs)
  | _ => False
theorem bd_list : BD X (fun xs H Q => ∃ p ys, xs = [.ref p] ∧ (SqL X.K H p ys ∨ SqT X.K H p ys) ∧ ∀ l, H l = none → Q (.ref l) (upd H l (.lst ys))) bList := by
  intro c vs ds k Q ok r h hQ
  cases r with
  | nil => exact h.elim
  | cons r1 t =>
    rename_i v vs d ds
    cases t with
    | nil =>
      cases d <;> first | exact h.elim | skip
      · obtain ⟨p, us, rfl, f, e, rp⟩ := r1.tup ok
        exact ⟨p, us, rfl, .inr (.of e), fun l hl => rp_new_lst ok hl rp h hQ⟩
      · obtain ⟨p, us, rfl, e, rp⟩ := r1.lst ok
        exact ⟨p, us, rfl, .inl (.of e), fun l hl => rp_new_lst ok hl rp h hQ⟩
    | cons _ _ => cases d <;> exact h.elim
/-- all, any of a list of bools; sum of a list of ints -/
def blsOf : List D → Option (List Bool)
  | [] => some []
  | .bl i :: r => (blsOf r).map (i :: ·)
  | _ => none
theorem blsOf_eq : ∀ {ds : List D} {ns : List Bool}, blsOf ds = some ns → ds = ns.map D.bl
  | [], ns, h => by cases h; rfl
  | d :: ds, ns, h => by
    cases d <;> first | cases h | skip
    rename_i i
    have h' : (blsOf ds).map (i :: ·) = some ns := h
    cases e : blsOf ds with
    | none =>
      rw [e] at h'
      cases h'
    | some ms =>
      rw [e] at h'
      cases h'
      rw [blsOf_eq e]
      rfl
def bAll : OB := fun ds k => match ds with
  | [.lst xs] => ∃ bs, blsOf xs = some bs ∧ k (.bl (bs.all id))
  | _ => False
def bAny : OB := fun ds k => match ds with
  | [.lst xs] => ∃ bs, blsOf xs = some bs ∧ k (.bl (bs.any id))
  | _ => False
def bSum : OB := fun ds k => match ds with
  | [.lst xs] => ∃ ns, intsOf xs = some ns ∧ k (.int ns.sum)
  | _ => False
end
end DL
set_option maxHeartbeats 2000000
namespace DL
open PySem PySem.Spec PyProof.Rows L2
section
variable {X : Cx} {E : XK}
theorem one_bd {r : List V → Hp → VK → Prop} {o : OB} (h0 : ∀ ds k, o ds k → ∃ xs, ds = [.lst xs]) (h1 : ∀ (c : Cf) (p : Addr) (vs : List V) (xs : List D) (k : D → Prop) (Q : VK), c.Ok → c.H p = some (.lst vs) → RPL X.K c vs xs → o [.lst xs] k →
  (∀ d c' z, k d → c'.n = c.n → c'.Ok → Le c c' → RP X.K c' z d → Q z c'.H) → r [.ref p] c.H Q) : BD X r o := by
  intro c vs ds k Q ok r1 h hQ
  obtain ⟨xs, rfl⟩ := h0 ds k h
  cases r1 with
  | cons r1 t =>
    cases t
    obtain ⟨p, us, rfl, e, rp⟩ := r1.lst ok
    exact h1 c p us xs k Q ok e rp h hQ
theorem bd_all : BD X (rAll X.K) bAll := by
  refine one_bd (fun ds k h => ?_) fun c p vs xs k Q ok e rp h hQ => ?_
  · unfold bAll at h
    split at h
    · exact ⟨_, rfl⟩
    · exact h.elim
  · obtain ⟨bs, e1, hk⟩ := h
    rw [blsOf_eq e1] at rp
    exact ⟨p, bs, rfl, .of (by rw [e, rp.bls]), hQ _ c _ hk rfl ok .refl (.bl _)⟩
theorem bd_any : BD X (rAny X.K) bAny := by
  refine one_bd (fun ds k h => ?_) fun c p vs xs k Q ok e rp h hQ => ?_
  · unfold bAny at h
    split at h
    · exact ⟨_, rfl⟩
    · exact h.elim
  · obtain ⟨bs, e1, hk⟩ := h
    rw [blsOf_eq e1] at rp
    exact ⟨p, bs, rfl, .of (by rw [e, rp.bls]), hQ _ c _ hk rfl ok .refl (.bl _)⟩
theorem bd_sum : BD X (rSum X.K) bSum := by
  refine one_bd (fun ds k h => ?_) fun c p vs xs k Q ok e rp h hQ => ?_
  · unfold bSum at h
    split at h
    · exact ⟨_, rfl⟩
    · exact h.elim
  · obtain ⟨bs, e1, hk⟩ := h
    rw [intsOf_eq e1] at rp
    exact ⟨p, bs, rfl, .of (by rw [e, rp.ints]), hQ _ c _ hk rfl ok .refl (.int _)⟩

/-! ### slices -/
abbrev WO := Xn → List Sl → Nat → (Option Int → Nat → Prop) → Prop
def upO (K : PySem.W.Frag) (E : XK) (w : WO) : TO := fun σ H Q => ∃ c η R x, c.H = H ∧ c.Ok ∧ EnvOk K c σ η ∧ w x η c.n R ∧ (∀ d c', R d c'.n → c'.Ok → Le c c' → Q d c'.H) ∧ XW K E x (fun _ => False) c
def oNo : WO := fun _ _ n R => R none n
def oSo (w : WE) : WO := fun x η n R => w x η n fun d n1 => match d with
  | .int i => R (some i) n1
  | _ => False
theorem po_to {e : Option Expr} {t t' : TO} (h : PO X e t) (i : ∀ σ H Q, t' σ H Q → t σ H Q) : PO X e t' := by
  obtain ⟨h⟩ := h
  constructor
  intros
  apply h <;> first | assumption | (apply i; assumption)
theorem qo_none : PO X none (upO X.K E oNo) := po_to po_none fun σ H Q q => by
  obtain ⟨c, η, R, x, e1, ok, en, hw, hr, hx⟩ := q
  show Q none H
  rw [← e1]
  exact hr _ c hw ok .refl
theorem qo_some {e : Expr} {w : WE} (h : PE X e (upB X.K E w)) : PO X (some e) (upO X.K E (oSo w)) := po_to (po_some h) fun σ H Q q => by
  obtain ⟨c, η, R, x, e1, ok, en, hw, hr, hx⟩ := q
  refine ⟨c, η, _, x, e1, ok, en, hw, fun d c' v hd ok' l' rp => ?_, hx⟩
  cases d <;> first | exact hd.elim | skip
  exact ⟨_, rp.int, hr _ c' hd ok' l'⟩
def cutD (xs : List D) (lo hi : Option Int) : List D := (xs.drop (HT.sIx xs.length 0 lo)).take (HT.sIx xs.length xs.length hi - HT.sIx xs.length 0 lo)
def oSl : D → Option Int → Option Int → (D → Prop) → Prop := fun a lo hi k => match a with
  | .lst xs => k (.lst (cutD xs lo hi))
  | .tup xs => k (.tup (cutD xs lo hi))
  | _ => False
def eSl (w : WE) (lo hi : WO) : WE := fun x η n R => w x η n fun a n1 => lo x η n1 fun l n2 => hi x η n2 fun h n3 => oSl a l h fun d => R d n3
theorem SlR.or {r r' : V → Option Int → Option Int → Hp → VK → Prop} (h : SlR X r) (h' : SlR X r') : SlR X (fun x l u H Q => r x l u H Q ∨ r' x l u H Q) := by
  intro pins s σ H x v vl vu lo hi sl Q I rx hs pl pu q
  rcases q with q | q
  · exact h pins s σ H x v vl vu lo hi sl Q I rx hs pl pu q
  · exact h' pins s σ H x v vl vu lo hi sl Q I rx hs pl pu q
theorem cut_rpl {K : PySem.W.Frag} {dr : Addr} {F : Hp} {vs : List V} {ds : List D} (r : RpL K dr F vs ds) (lo hi : Option Int) : RpL K dr F (cutV vs lo hi) (cutD ds lo hi) := by
  unfold cutV cutD
  rw [r.length]
  exact (r.drop _).take _
theorem q_sl {e : Expr} {lo hi : Option Expr} {p2 pos : Pos} {w : WE} {wl wh : WO} (h : PE X e (upB X.K E w)) (hl : PO X lo (upO X.K E wl)) (hh : PO X hi (upO X.K E wh)) : PE X (.Subscript e (.Slice lo hi none p2) pos) (up X.K E (eSl w wl wh)) :=
  pe_to (pe_slice (SlR.or sl_list sl_tupA) h hl hh) fun σ H Q q => by
    obtain ⟨c, η, R, x, e1, ok, en, hw, hr, hx⟩ := q
    refine ⟨c, η, _, x, e1, ok, en, hw, fun a c1 v h1 ok1 l1 r1 => ?_, hx⟩
    refine ⟨c1, η, _, x, rfl, ok1, en.le l1, h1, fun lo c2 h2 ok2 l2 => ?_, hx.le l1⟩
    refine ⟨c2, η, _, x, rfl, ok2, (en.le l1).le l2, h2, fun hi c3 h3 ok3 l3 => ?_, (hx.le l1).le l2⟩
    have r3 := (r1.le l2).le l3
    have l13 := (l1.trans l2).trans l3
    cases a <;> first | exact h3.elim | skip
    · rename_i xs
      obtain ⟨p, vs, rfl, f, e, rp⟩ := r3.tup ok3
      refine .inr ⟨p, vs, rfl, .of e, fun hw => ?_, fun _ l hl => ?_⟩
      · have h3' : R (.tup (cutD xs lo hi)) c3.n := h3
        have ec : cutD xs lo hi = xs := by
          unfold cutD
          rw [rp.length] at hw
          rw [hw.1, hw.2]
          simp
        rw [ec] at h3'
        exact hr _ c3 _ h3' ok3 l13 (.tup f rp)
      · exact rp_new_tup (k := fun d => R d c3.n) ok3 hl (cut_rpl rp lo hi) h3 fun d c' z hk hn ok' l' rp => hr d c' z (by rw [hn]; exact hk) ok' (l13.trans l') rp
    · obtain ⟨p, vs, rfl, e, rp⟩ := r3.lst ok3
      refine .inl ⟨p, vs, rfl, .of e, fun l hl => ?_⟩
      exact rp_new_lst (k := fun d => R d c3.n) ok3 hl (cut_rpl rp lo hi) h3 fun d c' z hk hn ok' l' rp => hr d c' z (by rw [hn]; exact hk) ok' (l13.trans l') rp

/-! ### targets -/
abbrev WG := D → List Sl → (List Sl → Prop) → Prop
abbrev WGs := List D → List Sl → (List Sl → Prop) → Prop
/-- the slots but those at is stand -/
def Out (is : List Nat) (σ σ' : L2.St) : Prop := σ'.length = σ.length ∧ ∀ j : Nat, j ∉ is → σ'[j]? = σ[j]?
theorem Out.refl {is : List Nat} {σ : L2.St} : Out is σ σ := ⟨rfl, fun _ _ => rfl⟩
theorem Out.trans {is : List Nat} {σ σ1 σ2 : L2.St} (a : Out is σ σ1) (b : Out is σ1 σ2) : Out is σ σ2 := ⟨b.1.trans a.1, fun j h => (b.2 j h).trans (a.2 j h)⟩
theorem Out.set {is : List Nat} {σ : L2.St} {i : Nat} {v : Option V} (h : i ∈ is) : Out is σ (σ.set i v) := ⟨by simp, fun j hj => List.getElem?_set_ne (fun z => hj (by rw [← z]; exact h))⟩
def upG (K : PySem.W.Frag) (is : List Nat) (g : WG) : TG := fun v σ H Q => ∃ c η d k, c.H = H ∧ c.Ok ∧ EnvOk K c σ η ∧ RP K c v d ∧ g d η k ∧ ∀ η' σ', k η' → EnvOk K c σ' η' → (∀ a, Owned σ' η' a → Owned σ η a) → Out is σ σ' → Q σ' H
def upGs (K : PySem.W.Frag) (is : List Nat) (g : WGs) : TGs := fun vs σ H Q => ∃ c η ds k, c.H = H ∧ c.Ok ∧ EnvOk K c σ η ∧ RPL K c vs ds ∧ g ds η k ∧ ∀ η' σ', k η' → EnvOk K c σ' η' → (∀ a, Owned σ' η' a → Owned σ η a) → Out is σ σ' → Q σ' H
def gNm (i : Nat) : WG := fun d η k => k (η.set i (.dt d))
def gsNil : WGs := fun ds η k => match ds with
  | [] => k η
  | _ => False
def gsCons (g : WG) (r : WGs) : WGs := fun ds η k => match ds with
  | d :: ds => g d η fun η' => r ds η' k
  | [] => False
def gTp (n : Nat) (g : WGs) : WG := fun d η k => match d with
  | .tup ds => ds.length = n ∧ g ds η k
  | _ => False
theorem pg_to {e : Expr} {t t' : TG} (h : PG X e t) (i : ∀ v σ H Q, t' v σ H Q → t v σ H Q) : PG X e t' := ⟨fun pins s σ H v u Q I r q => h.run pins s σ H v u Q I r (i v σ H Q q)⟩
theorem pgs_to {e : List Expr} {t t' : TGs} (h : PGs X e t) (i : ∀ v σ H Q, t' v σ H Q → t v σ H Q) : PGs X e t' := ⟨fun pins s σ H v u Q I r q => h.run pins s σ H v u Q I r (i v σ H Q q)⟩
theorem qg_nm {e : Expr} {i : Nat} {is : List Nat} (h : PG X e (gName i)) (hi : i ∈ is := by decide) : PG X e (upG X.K is (gNm i)) := pg_to h fun v σ H Q q => by
  obtain ⟨c, η, d, k, e1, ok, en, rp, hg, hk⟩ := q
  exact hk _ _ hg (en.set rp) (fun a => owned_set) (.set hi)
theorem qgs_nil {is : List Nat} : PGs X [] (upGs X.K is gsNil) := pgs_to pgs_nil fun vs σ H Q q => by
  obtain ⟨c, η, ds, k, e1, ok, en, rp, hg, hk⟩ := q
  cases rp with
  | nil => exact ⟨rfl, hk _ _ hg en (fun _ h => h) .refl⟩
  | cons _ _ => exact hg.elim
theorem qgs_cons {e : Expr} {es : List Expr} {g : WG} {r : WGs} {is : List Nat} (h1 : PG X e (upG X.K is g)) (h2 : PGs X es (upGs X.K is r))
    (hs : (assignEach (e :: es) X.env).map (·.2) = assign e X.env :: (assignEach es X.env).map (·.2) := by rfl) : PGs X (e :: es) (upGs X.K is (gsCons g r)) := pgs_to (pgs_cons h1 h2 hs) fun vs σ H Q q => by
  obtain ⟨c, η, ds, k, e1, ok, en, rp, hg, hk⟩ := q
  cases rp with
  | nil => exact hg.elim
  | cons r1 t =>
    refine ⟨_, _, rfl, c, η, _, _, e1, ok, en, r1, hg, fun η' σ' hr en' ho ot => ?_⟩
    exact ⟨c, η', _, _, e1, ok, en', t, hr, fun η2 σ2 h2 en2 ho2 ot2 => hk η2 σ2 h2 en2 (fun a z => ho a (ho2 a z)) (ot.trans ot2)⟩
theorem qg_tp {es : List Expr} {k : Nat} {pos : Pos} {g : WGs} {n : Nat} {is : List Nat} (hc : X.calm = true) (h : PGs X es (upGs X.K is g))
    (hn : (assignEach es X.env).length = n := by rfl) (hst : (assignEach es X.env).findIdx? (·.1) = none := by rfl) : PG X (.Tuple es k pos) (upG X.K is (gTp n g)) := pg_to (pg_tup hc h hn hst) fun v σ H Q q => by
  obtain ⟨c, η, d, k, e1, ok, en, rp, hg, hk⟩ := q
  cases rp <;> first | exact hg.elim | skip
  rename_i a vs ds f r
  refine ⟨a, vs, rfl, .of (by rw [← e1]; exact ok.sub _ _ f), by rw [r.length]; exact hg.1, c, η, ds, k, e1, ok, en, r, hg.2, hk⟩

/-! ### statements -/
def sNext : WS := fun _ k η n => k.nx η n
def sSeq (a b : WS) : WS := fun x k η n => a x { k with nx := fun η' n' => b x k η' n' } η n
def sRet (w : WE) : WS := fun x k η n => w x η n k.rt
def sRetN : WS := fun _ k _ n => k.rt .non n
def sIf (t : WT) (a b : WS) : WS := fun x k η n => t x η n fun c n1 => if c = true then a x k η n1 else b x k η n1
def sExpr (w : WE) : WS := fun x k η n => w x η n fun _ n1 => k.nx η n1
def sAsg (w : WE) (g : WG) : WS := fun x k η n => w x η n fun d n1 => g d η fun η' => k.nx η' n1
def sSetN (i : Nat) (w : WN) : WS := fun x k η n => w x η n fun xs n1 => k.nx (η.set i (.ow xs)) n1
def sNever : WS := fun _ _ _ _ => False
def sBreak : WS := fun _ k η n => k.bk η n
def sCont : WS := fun _ k η n => k.ct η n
variable {st : Stmt} {rest : List Stmt} {pos : Pos}
theorem own_refl {σ : L2.St} {η : List Sl} {c : Cf} : ∀ a, Owned σ η a → Owned σ η a ∨ c.H a = none := fun _ h => .inl h
theorem qss_nil : PSs X [] (upS X.K E sNext) := pss_to pss_nil fun D σ H q => by
  obtain ⟨c, η, k, x, e1, ok, en, hw, h1, _⟩ := q
  show D.nx σ H
  rw [← e1]
  exact h1 η c σ hw ok .refl own_refl en
theorem qs_pass : PS X (.Pass pos) (upS X.K E sNext) := ps_to ps_pass fun D σ H q => by
  obtain ⟨c, η, k, x, e1, ok, en, hw, h1, _⟩ := q
  show D.nx σ H
  rw [← e1]
  exact h1 η c σ hw ok .refl own_refl en
theorem qs_break : PS X (.Break pos) (upS X.K E sBreak) := ps_to ps_break fun D σ H q => by
  obtain ⟨c, η, k, x, e1, ok, en, hw, h1, h2, h3, _⟩ := q
  show D.bk σ H
  rw [← e1]
  exact h3 η c σ hw ok .refl own_refl en
theorem qs_cont : PS X (.Continue pos) (upS X.K E sCont) := ps_to ps_continue fun D σ H q => by
  obtain ⟨c, η, k, x, e1, ok, en, hw, h1, h2, h3, h4, _⟩ := q
  show D.ct σ H
  rw [← e1]
  exact h4 η c σ hw ok .refl own_refl en
theorem qs_never : PS X st (upS X.K E sNever) := ps_to ps_never fun D σ H q => by
  obtain ⟨c, η, k, x, e1, ok, en, hw, _⟩ := q
  exact hw.elim
/-- owners that come along -/
theorem own_trans {σ σ1 σ2 : L2.St} {η η1 η2 : List Sl} {c c1 : Cf} (l : LeO (Owned σ η) c c1) (h1 : ∀ a, Owned σ1 η1 a → Owned σ η a ∨ c.H a = none) (h2 : ∀ a, Owned σ2 η2 a → Owned σ1 η1 a ∨ c1.H a = none) (ok : c.Ok) (ok1 : c1.Ok) : ∀ a, Owned σ2 η2 a → Owned σ η a ∨ c.H a = none := fun a h => by
  rcases h2 a h with z | z
  · exact h1 a z
  · by_cases ho : Owned σ η a
    · exact .inl ho
    · refine .inr ?_
      cases q : c.H a with
      | none => rfl
      | some o =>
        by_cases hd : a = c.dr
        · obtain ⟨_, _, _, _, _, e1, _⟩ := ok1.dw
          rw [l.dr, ← hd, z] at e1
          cases e1
        · rw [l.h a o hd ho q] at z
          cases z
theorem qss_cons {w u : WS} (h1 : PS X st (upS X.K E w)) (h2 : PSs X rest (upS X.K E u)) : PSs X (st :: rest) (upS X.K E (sSeq w u)) := pss_to (pss_cons h1 h2) fun D σ H q => by
  obtain ⟨c, η, k, x, e1, ok, en, hw, h1, h2, h3, h4, hx⟩ := q
  refine ⟨c, η, _, x, e1, ok, en, hw, fun η1 c1 σ1 hn ok1 l1 ho1 en1 => ?_, h2, h3, h4, hx⟩
  refine ⟨c1, η1, k, x, rfl, ok1, en1, hn, fun η2 c2 σ2 hn2 ok2 l2 ho2 en2 => ?_, fun d c2 v hd ok2 l2 rp => ?_, fun η2 c2 σ2 hn2 ok2 l2 ho2 en2 => ?_, fun η2 c2 σ2 hn2 ok2 l2 ho2 en2 => ?_, hx.step l1 ho1⟩
  · exact h1 η2 c2 σ2 hn2 ok2 (l1.trans l2 ho1) (own_trans l1 ho1 ho2 ok ok1) en2
  · exact h2 d c2 v hd ok2 (l1.trans l2 ho1) rp
  · exact h3 η2 c2 σ2 hn2 ok2 (l1.trans l2 ho1) (own_trans l1 ho1 ho2 ok ok1) en2
  · exact h4 η2 c2 σ2 hn2 ok2 (l1.trans l2 ho1) (own_trans l1 ho1 ho2 ok ok1) en2
theorem qss_one {w : WS} (h1 : PS X st (upS X.K E w)) : PSs X [st] (upS X.K E w) := pss_one h1
theorem qs_ret {e : Expr} {w : WE} (h : PE X e (up X.K E w)) : PS X (.Return (some e) pos) (upS X.K E (sRet w)) := ps_to (ps_ret h) fun D σ H q => by
  obtain ⟨c, η, k, x, e1, ok, en, hw, h1, h2, h3, h4, hx⟩ := q
  exact ⟨c, η, _, x, e1, ok, en, hw, fun d c' v hd ok' l' rp => h2 d c' v hd ok' (LeO.of l') rp, hx.none⟩
theorem qs_retN : PS X (.Return none pos) (upS X.K E sRetN) := ps_to ps_retN fun D σ H q => by
  obtain ⟨c, η, k, x, e1, ok, en, hw, h1, h2, h3, h4, hx⟩ := q
  show D.rt .non H
  rw [← e1]
  exact h2 .non c .non hw ok .refl .non
theorem up_at {w : WS} {c c' : Cf} {η : List Sl} {k : Wk} {x : Xn} {σ : L2.St} {D : Ends} (en : EnvOk X.K c σ η) (ok' : c'.Ok) (l' : Le c c') (hw : w x k η c'.n)
    (h1 : ∀ η' c' σ', k.nx η' c'.n → c'.Ok → LeO (Owned σ η) c c' → (∀ a, Owned σ' η' a → Owned σ η a ∨ c.H a = none) → EnvOk X.K c' σ' η' → D.nx σ' c'.H)
    (h2 : ∀ d c' v, k.rt d c'.n → c'.Ok → LeO (Owned σ η) c c' → RP X.K c' v d → D.rt v c'.H)
    (h3 : ∀ η' c' σ', k.bk η' c'.n → c'.Ok → LeO (Owned σ η) c c' → (∀ a, Owned σ' η' a → Owned σ η a ∨ c.H a = none) → EnvOk X.K c' σ' η' → D.bk σ' c'.H)
    (h4 : ∀ η' c' σ', k.ct η' c'.n → c'.Ok → LeO (Owned σ η) c c' → (∀ a, Owned σ' η' a → Owned σ η a ∨ c.H a = none) → EnvOk X.K c' σ' η' → D.ct σ' c'.H)
    (hx : XW X.K E x (Owned σ η) c) (ok : c.Ok) : upS X.K E w D σ c'.H := by
  have z : ∀ {σ2 : L2.St} {η2 : List Sl}, (∀ a, Owned σ2 η2 a → Owned σ η a ∨ c'.H a = none) → ∀ a, Owned σ2 η2 a → Owned σ η a ∨ c.H a = none := fun ho => own_trans (LeO.of l') own_refl ho ok ok'
  exact ⟨c', η, k, x, rfl, ok', en.le l', hw, fun η2 c2 σ2 hn ok2 l2 ho en2 => h1 η2 c2 σ2 hn ok2 (l'.thnO l2) (z ho) en2, fun d c2 v hd ok2 l2 rp => h2 d c2 v hd ok2 (l'.thnO l2) rp,
    fun η2 c2 σ2 hn ok2 l2 ho en2 => h3 η2 c2 σ2 hn ok2 (l'.thnO l2) (z ho) en2, fun η2 c2 σ2 hn ok2 l2 ho en2 => h4 η2 c2 σ2 hn ok2 (l'.thnO l2) (z ho) en2, hx.le l'⟩
theorem qs_if {t : Expr} {a b : List Stmt} {wt : WT} {wa wb : WS} (ht : PT X t (upT X.K E wt)) (ha : PSs X a (upS X.K E wa)) (hb : PSs X b (upS X.K E wb)) : PS X (.If t a b pos) (upS X.K E (sIf wt wa wb)) := ps_to (ps_if ht ha hb) fun D σ H q => by
  obtain ⟨c, η, k, x, e1, ok, en, hw, h1, h2, h3, h4, hx⟩ := q
  refine ⟨c, η, _, x, e1, ok, en, hw, fun b c' hd ok' l' => ?_, hx.none⟩
  cases b with
  | true => exact up_at en ok' l' hd h1 h2 h3 h4 hx ok
  | false => exact up_at en ok' l' hd h1 h2 h3 h4 hx ok
theorem qs_expr {e : Expr} {w : WE} (h : PE X e (upB X.K E w)) (hs : swapsWith e none pos.line X.env = pure false := by rfl) : PS X (.Expr e pos) (upS X.K E (sExpr w)) := ps_to (ps_expr h hs) fun D σ H q => by
  obtain ⟨c, η, k, x, e1, ok, en, hw, h1, h2, h3, h4, hx⟩ := q
  exact ⟨c, η, _, x, e1, ok, en, hw, fun d c' v hd ok' l' rp => h1 η c' σ hd ok' (LeO.of l') own_refl (en.le l'), hx.none⟩
theorem asg_up {w : WE} {g : WG} {is : List Nat} : ∀ D σ H, upS X.K E (sAsg w g) D σ H → tAsg (up X.K E w) (upG X.K is g) D σ H := fun D σ H q => by
  obtain ⟨c, η, k, x, e1, ok, en, hw, h1, h2, h3, h4, hx⟩ := q
  refine ⟨c, η, _, x, e1, ok, en, hw, fun d c' v hd ok' l' rp => ?_, hx.none⟩
  exact ⟨c', η, d, _, rfl, ok', en.le l', rp, hd, fun η' σ' hk en' ho _ => h1 η' c' σ' hk ok' (LeO.of l') (fun a z => .inl (ho a z)) en'⟩
theorem qs_asg {tg e : Expr} {w : WE} {g : WG} (is : List Nat) (h : PE X e (up X.K E w)) (hg : PG X tg (upG X.K is g)) (hs : swapsWithSole [tg] e pos.line X.env = pure false := by rfl) (hw : swappedStores [tg] e X.env = pure none := by rfl)
    (h1 : (assignEach [tg] X.env).map (·.2) = [assign tg X.env] := by rfl) : PS X (.Assign [tg] e pos) (upS X.K E (sAsg w g)) := ps_to (ps_asg h hg hs hw h1) asg_up
/-- name = e, frozen -/
theorem qs_set {i : Nat} {y : Str} {e : Expr} {w : WE} {pos' : Pos} (hN : X.N.Nodup) (hi : X.N[i]? = some y) (hy : Loc X.env.scope y) (he : PE X e (up X.K E w)) (hs : swapsWith e (some (.Name y pos')) pos.line X.env = pure false := by rfl) (hf : X.fn y = true ∨ X.env.scope.names.lookup y = some .local := by first | exact .inl rfl | exact .inr rfl | assumption) :
    PS X (.Assign [.Name y pos'] e pos) (upS X.K E (sAsg w (gNm i))) := ps_to (ps_set hN hi hy he hs hf) fun D σ H q => by
  obtain ⟨c, η, k, x, e1, ok, en, hw, h1, h2, h3, h4, hx⟩ := q
  refine ⟨c, η, _, x, e1, ok, en, hw, fun d c' v hd ok' l' rp => ?_, hx.none⟩
  exact h1 _ c' _ hd ok' (LeO.of l') (fun a z => .inl (owned_set z)) ((en.le l').set rp)
/-- name = a new list, owned -/
theorem setN_up {i : Nat} {w : WN} : ∀ D σ H, upS X.K E (sSetN i w) D σ H → tAsg (upN X.K E w) (gName i) D σ H := fun D σ H q => by
  obtain ⟨c, η, k, x, e1, ok, en, hw, h1, h2, h3, h4, hx⟩ := q
  refine ⟨c, η, _, x, e1, ok, en, hw, fun xs c' p vs hd ok' l' hp hF hdr hH rp => ?_, hx.none⟩
  refine h1 _ c' _ hd ok' (LeO.of l') (fun a z => ?_) ((en.le l').own (fun j t _ q1 q2 q3 => ?_) ⟨p, vs, rfl, hH, hF, by rw [l'.dr]; exact hdr, rp⟩)
  · rcases owned_own z with z | z
    · exact .inl z
    · rw [z]
      exact .inr hp
  · obtain ⟨⟨us, hu⟩, _⟩ := en.owned ⟨j, t, q1, q2, q3⟩
    rw [hp] at hu
    cases hu
theorem qs_setN {i : Nat} {y : Str} {e : Expr} {w : WN} {pos' : Pos} (hN : X.N.Nodup) (hi : X.N[i]? = some y) (hy : Loc X.env.scope y) (he : PE X e (upN X.K E w)) (hs : swapsWith e (some (.Name y pos')) pos.line X.env = pure false := by rfl) (hf : X.fn y = true ∨ X.env.scope.names.lookup y = some .local := by first | exact .inl rfl | exact .inr rfl | assumption) :
    PS X (.Assign [.Name y pos'] e pos) (upS X.K E (sSetN i w)) := ps_to (ps_set hN hi hy he hs hf) setN_up
/-- an owned slot is frozen -/
def frzAt (η : List Sl) (i : Nat) : List Sl := match η[i]? with
  | some (.ow xs) => η.set i (.dt (.lst xs))
  | _ => η
def sFrz (i : Nat) (w : WS) : WS := fun x k η n => w x k (frzAt η i) n
theorem frz_up {w : WS} (i : Nat) : ∀ D σ H, upS X.K E (sFrz i w) D σ H → upS X.K E w D σ H := fun D σ H q => by
  obtain ⟨c, η, k, x, e1, ok, en, hw, h1, h2, h3, h4, hx⟩ := q
  have hw : w x k (frzAt η i) c.n := hw
  unfold frzAt at hw
  cases hs : η[i]? with
  | none =>
    rw [hs] at hw
    exact ⟨c, η, k, x, e1, ok, en, hw, h1, h2, h3, h4, hx⟩
  | some s =>
    rw [hs] at hw
    cases s with
    | un => exact ⟨c, η, k, x, e1, ok, en, hw, h1, h2, h3, h4, hx⟩
    | dt d => exact ⟨c, η, k, x, e1, ok, en, hw, h1, h2, h3, h4, hx⟩
    | ob _ _ _ _ => exact ⟨c, η, k, x, e1, ok, en, hw, h1, h2, h3, h4, hx⟩
    | ow xs =>
      obtain ⟨p, vs, g1, g2, g3, g4, rp⟩ := en.ow hs
      obtain ⟨ok2, l2⟩ := ok.frz g2 g3 g4
      have how : Owned σ η p := ⟨i, _, hs, rfl, g1⟩
      have l3 : LeO (Owned σ η) c ⟨c.dr, upd c.F p (.lst vs), c.H, c.n⟩ := ⟨l2.dr, l2.f, fun a o _ _ h => h, fun a o h1 h2 h3 h4 => l2.fr a o h1 (fun z => h2 (by rw [z]; exact how)) h3 h4⟩
      have sub : ∀ a, Owned σ (η.set i (.dt (.lst xs))) a → Owned σ η a := fun a z => owned_move hs rfl z
      have en2 : EnvOk X.K ⟨c.dr, upd c.F p (.lst vs), c.H, c.n⟩ σ (η.set i (.dt (.lst xs))) := by
        refine en.move hs rfl g1 rfl l2.f (fun a o _ h => h) (fun a hn h => ?_) ⟨_, rfl, .lst upd_same (l3.rpl rp)⟩
        show upd c.F p (.lst vs) a = none
        rw [upd_ne hn]
        exact h
      refine ⟨⟨c.dr, upd c.F p (.lst vs), c.H, c.n⟩, _, k, x, e1, ok2, en2, hw, fun η2 c2 σ2 hn okk l ho e2 => ?_, fun d c2 v hd okk l rp => ?_, fun η2 c2 σ2 hn okk l ho e2 => ?_, fun η2 c2 σ2 hn okk l ho e2 => ?_, ?_⟩
      · exact h1 η2 c2 σ2 hn okk (l3.trans l fun a z => .inl (sub a z)) (fun a z => (ho a z).imp (sub a) id) e2
      · exact h2 d c2 v hd okk (l3.trans l fun a z => .inl (sub a z)) rp
      · exact h3 η2 c2 σ2 hn okk (l3.trans l fun a z => .inl (sub a z)) (fun a z => (ho a z).imp (sub a) id) e2
      · exact h4 η2 c2 σ2 hn okk (l3.trans l fun a z => .inl (sub a z)) (fun a z => (ho a z).imp (sub a) id) e2
      · exact hx.step l3 fun a z => .inl (sub a z)
theorem qss_frz {sts : List Stmt} {w : WS} (i : Nat) (h : PSs X sts (upS X.K E w)) : PSs X sts (upS X.K E (sFrz i w)) := pss_to h (frz_up i)
theorem qs_frz {w : WS} (i : Nat) (h : PS X st (upS X.K E w)) : PS X st (upS X.K E (sFrz i w)) := ps_to h (frz_up i)
end
end DL
set_option maxHeartbeats 2000000
namespace DL
open PySem PySem.Spec PyProof.Rows L2

/-! ### what is walked -/
/-- the frozen part has grown -/
structure Fs (c c1 : Cf) : Prop where
  dr : c1.dr = c.dr
  f : ∀ a o, c.F a = some o → c1.F a = some o
theorem Fs.of {ow : Addr → Prop} {c c1 : Cf} (l : LeO ow c c1) : Fs c c1 := ⟨l.dr, l.f⟩
theorem Fs.trans {c c1 c2 : Cf} (a : Fs c c1) (b : Fs c1 c2) : Fs c c2 := ⟨b.dr.trans a.dr, fun x o h => b.f x o (a.f x o h)⟩
theorem Fs.rp {K : PySem.W.Frag} {c c1 : Cf} {v : V} {d : D} (l : Fs c c1) (h : RP K c v d) : RP K c1 v d := by
  have e := Rp.mono (K := K) (dr := c.dr) l.f d v h
  show Rp K c1.dr c1.F v d
  rw [l.dr]
  exact e
theorem Fs.rpl {K : PySem.W.Frag} {c c1 : Cf} {v : List V} {d : List D} (l : Fs c c1) (h : RPL K c v d) : RPL K c1 v d := by
  have e := RpL.mono (K := K) (dr := c.dr) l.f d v h
  show RpL K c1.dr c1.F v d
  rw [l.dr]
  exact e
def IterOk (K : PySem.W.Frag) (J : It) (c : Cf) (xs : List D) : Prop := ∀ (i : Nat) (c1 : Cf), c1.Ok → Fs c c1 →
  (∀ d, xs[i]? = some d → J.go i c1.H ∧ ∀ v H2, J.yld i c1.H v H2 → ∃ c2 : Cf, c2.H = H2 ∧ c2.n = c1.n ∧ c2.Ok ∧ Le c1 c2 ∧ RP K c2 v d) ∧ (xs.length ≤ i → J.stop i c1.H)
abbrev WI := Xn → List Sl → Nat → (List D → Nat → Prop) → Prop
def upI (K : PySem.W.Frag) (E : XK) (w : WI) : TI := fun σ H Q => ∃ c η R x, c.H = H ∧ c.Ok ∧ EnvOk K c σ η ∧ w x η c.n R ∧ (∀ xs c' J, R xs c'.n → c'.Ok → Le c c' → IterOk K J c' xs → Q J c'.H) ∧ XW K E x (fun _ => False) c
section
variable {X : Cx} {E : XK} {tg : Expr}
theorem pi_to {e : Expr} {t t' : TI} (h : PI X tg e t) (i : ∀ σ H Q, t' σ H Q → t σ H Q) : PI X tg e t' := ⟨fun pins s σ H Q I q => h.run pins s σ H Q I (i σ H Q q)⟩
/-- a list or a tuple, whichever it is -/
def iSeq (K : PySem.W.Frag) (tl : TE) : TI := fun σ H R => tl σ H fun x H1 => ∃ a, x = .ref a ∧ (((∃ xs, SqL K H1 a xs) ∧ R (Itl K a) H1) ∨ ((∃ xs, SqT K H1 a xs) ∧ R (Itt K a) H1))
theorem pi_seq {l : Expr} {tl : TE} (hl : PE X l tl) : PI X tg l (iSeq X.K tl) := by
  refine ⟨fun pins s σ H R I h => ?_⟩
  refine thn (hl.run pins s σ H _ I h) fun v s1 ⟨x, H1, I1, r1, q1⟩ => ?_
  obtain ⟨a, e, q⟩ := q1
  subst e
  cases r1
  rcases q with ⟨⟨xs, hq⟩, q⟩ | ⟨⟨xs, hq⟩, q⟩
  · obtain ⟨its, rv, p, hz⟩ := I1.list hq
    refine wpAny_pyIter_list p.isList ?_
    refine ⟨s1.heap.objs.size, [s1.heap.objs.size], _, _, H1, rfl, I1.kept (t' := s1.toks) fun b o e => Heap.get?_push_of_some _ e, turn_list a _, ⟨_, Heap.get?_push_size _ rfl, rfl, rfl⟩, fun b hb => ?_, q⟩
    have e : b = s1.heap.objs.size := by simpa using hb
    subst e
    exact I1.fpOk (Nat.le_refl _) (I1.hok.fresh (Nat.le_refl _))
  · obtain ⟨its, rv, p, hz⟩ := I1.tuple hq
    refine wpAny_pyIter_tuple (show s1.heap.IsTuple a its.toArray from p) ?_
    refine ⟨s1.heap.objs.size, [s1.heap.objs.size], _, _, H1, rfl, I1.kept (t' := s1.toks) fun b o e => Heap.get?_push_of_some _ e, turn_tuple a _, ⟨_, Heap.get?_push_size _ rfl, rfl, rfl⟩, fun b hb => ?_, q⟩
    have e : b = s1.heap.objs.size := by simpa using hb
    subst e
    exact I1.fpOk (Nat.le_refl _) (I1.hok.fresh (Nat.le_refl _))
theorem sqL_frz {K : PySem.W.Frag} {H : Hp} {a : Addr} {xs ys : List V} (X0 : H a = some (.lst xs)) (hI : SqL K H a ys) (hk : K.lookup a = none) : ys = xs := by
  rcases hI with (h | ⟨o, h⟩) | ⟨o, its, n, h, _⟩
  · rw [X0] at h
    cases h
    rfl
  · rw [X0] at h
    cases h
  · rw [hk] at h
    cases h
/-- the items of a sequence -/
def seqOf : D → (List D → Prop) → Prop
  | .lst xs, k => k xs
  | .tup xs, k => k xs
  | _, _ => False
def iSq (w : WE) : WI := fun x η n R => w x η n fun d n1 => seqOf d fun xs => R xs n1
theorem iter_lst {K : PySem.W.Frag} {c : Cf} {a : Addr} {vs : List V} {xs : List D} (f : c.F a = some (.lst vs)) (r : RPL K c vs xs) : IterOk K (Itl K a) c xs := fun i c1 ok1 l1 => by
  have e : c1.H a = some (.lst vs) := ok1.sub _ _ (l1.f _ _ f)
  refine ⟨fun d hd => ?_, fun hi => ?_⟩
  · obtain ⟨v, hv, rv⟩ := r.get hd
    refine ⟨⟨vs, v, .of e, hv⟩, fun u H2 hy => ?_⟩
    obtain ⟨rfl, hy⟩ := hy
    have z := hy vs (.of e)
    rw [hv] at z
    cases z
    exact ⟨c1, rfl, rfl, ok1, .refl, l1.rp rv⟩
  · exact ⟨vs, .of e, by rw [r.length]; exact hi⟩
theorem iter_tup {K : PySem.W.Frag} {c : Cf} {a : Addr} {vs : List V} {xs : List D} (f : c.F a = some (.tup vs)) (r : RPL K c vs xs) : IterOk K (Itt K a) c xs := fun i c1 ok1 l1 => by
  have e : c1.H a = some (.tup vs) := ok1.sub _ _ (l1.f _ _ f)
  refine ⟨fun d hd => ?_, fun hi => ?_⟩
  · obtain ⟨v, hv, rv⟩ := r.get hd
    refine ⟨⟨vs, v, .of e, hv⟩, fun u H2 hy => ?_⟩
    obtain ⟨rfl, hy⟩ := hy
    have z := hy vs (.of e)
    rw [hv] at z
    cases z
    exact ⟨c1, rfl, rfl, ok1, .refl, l1.rp rv⟩
  · exact ⟨vs, .of e, by rw [r.length]; exact hi⟩
theorem qi_sq {l : Expr} {w : WE} (h : PE X l (up X.K E w)) : PI X tg l (upI X.K E (iSq w)) := pi_to (pi_seq h) fun σ H Q q => by
  obtain ⟨c, η, R, x, e1, ok, en, hw, hr, hx⟩ := q
  refine ⟨c, η, _, x, e1, ok, en, hw, fun d c' v hd ok' l' rp => ?_, hx⟩
  cases rp <;> first | exact hd.elim | skip
  · rename_i a vs ds f r
    exact ⟨a, rfl, .inr ⟨⟨vs, .of (ok'.sub _ _ f)⟩, hr ds c' _ hd ok' l' (iter_tup f r)⟩⟩
  · rename_i a vs ds f r
    exact ⟨a, rfl, .inl ⟨⟨vs, .of (ok'.sub _ _ f)⟩, hr ds c' _ hd ok' l' (iter_lst f r)⟩⟩
/-- ranges -/
def rangeD (lo : Int) : Nat → List D
  | 0 => []
  | n + 1 => .int lo :: rangeD (lo + 1) n
theorem rangeD_len : ∀ (n : Nat) (lo : Int), (rangeD lo n).length = n
  | 0, _ => rfl
  | n + 1, lo => congrArg Nat.succ (rangeD_len n (lo + 1))
theorem rangeD_get : ∀ (n : Nat) (lo : Int) (i : Nat) (d : D), (rangeD lo n)[i]? = some d → i < n ∧ d = .int (lo + i)
  | 0, _, i, d, h => by simp [rangeD] at h
  | n + 1, lo, 0, d, h => by
    simp [rangeD] at h
    subst h
    exact ⟨Nat.succ_pos _, by simp⟩
  | n + 1, lo, i + 1, d, h => by
    have h' : (rangeD (lo + 1) n)[i]? = some d := by simpa [rangeD] using h
    obtain ⟨h1, h2⟩ := rangeD_get n (lo + 1) i d h'
    refine ⟨Nat.succ_lt_succ h1, ?_⟩
    rw [h2]
    congr 1
    omega
theorem iter_rng {K : PySem.W.Frag} {c : Cf} {lo : Int} {n : Nat} : IterOk K (Itr lo n) c (rangeD lo n) := fun i c1 ok1 l1 => by
  refine ⟨fun d hd => ?_, fun hi => by rw [rangeD_len] at hi; exact hi⟩
  obtain ⟨h1, h2⟩ := rangeD_get n lo i d hd
  refine ⟨h1, fun v H2 hy => ?_⟩
  obtain ⟨rfl, rfl⟩ := hy
  subst h2
  exact ⟨c1, rfl, rfl, ok1, .refl, .int _⟩
def Rg (i : Int) : Prop := -(2 ^ 62) ≤ i ∧ i < 2 ^ 62
def iR1 (w : WA) : WI := fun x η n R => w x η n fun ds n1 => match ds with
  | [.int j] => Rg j ∧ R (rangeD 0 j.toNat) n1
  | _ => False
def iR2 (w : WA) : WI := fun x η n R => w x η n fun ds n1 => match ds with
  | [.int i, .int j] => Rg i ∧ Rg j ∧ R (rangeD i (j - i).toNat) n1
  | _ => False
theorem qi_r1 {a : Expr} {w : WA} {p pos : Pos} (hg : Gl X "range") (hm : X.mg "range" = none) (ha : PA X [a] (upA X.K E w)) (hs : starEach [a] X.env = [(false, eval a X.env)] := by rfl) : PI X tg (.Call (.Name "range" p) [a] [] pos) (upI X.K E (iR1 w)) := pi_to (pi_range1 hg hm ha hs) fun σ H Q q => by
  obtain ⟨c, η, R, x, e1, ok, en, hw, hr, hx⟩ := q
  refine ⟨c, η, _, x, e1, ok, en, hw, fun ds c' vs hd ok' l' rp => ?_, hx⟩
  split at hd
  · rename_i j
    obtain ⟨⟨g1, g2⟩, hd⟩ := hd
    cases rp with
    | cons r1 t =>
      cases t
      cases r1
      exact ⟨j, rfl, g1, g2, hr _ c' _ hd ok' l' iter_rng⟩
  · exact hd.elim
theorem qi_r2 {a b : Expr} {w : WA} {p pos : Pos} (hg : Gl X "range") (hm : X.mg "range" = none) (ha : PA X [a, b] (upA X.K E w)) (hs : starEach [a, b] X.env = [(false, eval a X.env), (false, eval b X.env)] := by rfl) (hs2 : starEach [b] X.env = [(false, eval b X.env)] := by rfl) :
    PI X tg (.Call (.Name "range" p) [a, b] [] pos) (upI X.K E (iR2 w)) := pi_to (pi_range2 hg hm ha hs hs2) fun σ H Q q => by
  obtain ⟨c, η, R, x, e1, ok, en, hw, hr, hx⟩ := q
  refine ⟨c, η, _, x, e1, ok, en, hw, fun ds c' vs hd ok' l' rp => ?_, hx⟩
  split at hd
  · rename_i i j
    obtain ⟨⟨g1, g2⟩, ⟨g3, g4⟩, hd⟩ := hd
    cases rp with
    | cons r1 t =>
      cases t with
      | cons r2 t =>
        cases t
        cases r1
        cases r2
        exact ⟨i, j, rfl, ⟨g1, g2, g3, g4⟩, hr _ c' _ hd ok' l' iter_rng⟩
  · exact hd.elim
/-- enumerate of a list -/
def enumD (i : Int) : List D → List D
  | [] => []
  | d :: ds => .tup [.int i, d] :: enumD (i + 1) ds
theorem enumD_len : ∀ (ds : List D) (i : Int), (enumD i ds).length = ds.length
  | [], _ => rfl
  | d :: ds, i => congrArg Nat.succ (enumD_len ds (i + 1))
theorem enumD_get : ∀ (ds : List D) (s : Int) (i : Nat) (d : D), (enumD s ds)[i]? = some d → ∃ d', ds[i]? = some d' ∧ d = .tup [.int (s + i), d']
  | [], _, i, d, h => by simp [enumD] at h
  | d0 :: ds, s, 0, d, h => by
    simp [enumD] at h
    exact ⟨d0, rfl, by rw [← h]; simp⟩
  | d0 :: ds, s, i + 1, d, h => by
    have h' : (enumD (s + 1) ds)[i]? = some d := by simpa [enumD] using h
    obtain ⟨d', h1, h2⟩ := enumD_get ds (s + 1) i d h'
    refine ⟨d', by simpa using h1, ?_⟩
    rw [h2]
    congr 3
    omega
theorem new_pair {K : PySem.W.Frag} {c : Cf} {T : Addr} {x y : V} {a b : D} (ok : c.Ok) (hT : c.H T = none) (rx : RP K c x a) (ry : RP K c y b) : ∃ c2 : Cf, c2.H = upd c.H T (.tup [x, y]) ∧ c2.n = c.n ∧ c2.Ok ∧ Le c c2 ∧ RP K c2 (.ref T) (.tup [a, b]) := by
  obtain ⟨ok2, l2⟩ := ok.newF (o := .tup [x, y]) hT
  exact ⟨⟨c.dr, upd c.F T (.tup [x, y]), upd c.H T (.tup [x, y]), c.n⟩, rfl, rfl, ok2, l2, .tup upd_same (.cons (l2.rp rx) (.cons (l2.rp ry) .nil))⟩
theorem iter_enum {K : PySem.W.Frag} {c : Cf} {a : Addr} {vs : List V} {xs : List D} (f : c.F a = some (.lst vs)) (r : RPL K c vs xs) : IterOk K (Ite K a) c (enumD 0 xs) := fun i c1 ok1 l1 => by
  have e : c1.H a = some (.lst vs) := ok1.sub _ _ (l1.f _ _ f)
  refine ⟨fun d hd => ?_, fun hi => ?_⟩
  · obtain ⟨d', h1, h2⟩ := enumD_get xs 0 i d hd
    obtain ⟨v, hv, rv⟩ := r.get h1
    refine ⟨⟨vs, v, .of e, hv⟩, fun u H2 hy => ?_⟩
    obtain ⟨T, z, rfl, hT, rfl, hz⟩ := hy
    have q := hz vs (.of e)
    rw [hv] at q
    cases q
    subst h2
    have := new_pair ok1 hT (Rp.int (K := K) (dr := c1.dr) (F := c1.F) (i : Int)) (l1.rp rv)
    simpa using this
  · rw [enumD_len] at hi
    exact ⟨vs, .of e, by rw [r.length]; exact hi⟩
def iEn (w : WA) : WI := fun x η n R => w x η n fun ds n1 => match ds with
  | [.lst xs] => R (enumD 0 xs) n1
  | _ => False
theorem qi_en {e : Expr} {w : WA} {p pos tpos : Pos} {elts : List Expr} {kk : Nat} (hg : Gl X "enumerate") (hm : X.mg "enumerate" = none) (ha : PA X [e] (upA X.K E w)) (hs : starEach [e] X.env = [(false, eval e X.env)] := by rfl) :
    PI X (.Tuple elts kk tpos) (.Call (.Name "enumerate" p) [e] [] pos) (upI X.K E (iEn w)) := pi_to (pi_enum hg hm ha hs) fun σ H Q q => by
  obtain ⟨c, η, R, x, e1, ok, en, hw, hr, hx⟩ := q
  refine ⟨c, η, _, x, e1, ok, en, hw, fun ds c' vs hd ok' l' rp => ?_, hx⟩
  split at hd
  · cases rp with
    | cons r1 t =>
      cases t
      cases r1 with
      | lst f r => exact ⟨_, _, rfl, .of (ok'.sub _ _ f), hr _ c' _ hd ok' l' (iter_enum f r)⟩
  · exact hd.elim
/-- zip of two lists, of two tuples -/
def zipD : List D → List D → List D
  | a :: as, b :: bs => .tup [a, b] :: zipD as bs
  | _, _ => []
theorem zipD_len : ∀ (as bs : List D), (zipD as bs).length = min as.length bs.length
  | [], _ => by simp [zipD]
  | _ :: _, [] => by simp [zipD]
  | a :: as, b :: bs => by
    show (zipD as bs).length + 1 = min (as.length + 1) (bs.length + 1)
    rw [zipD_len as bs]
    omega
theorem zipD_get : ∀ (as bs : List D) (i : Nat) (d : D), (zipD as bs)[i]? = some d → ∃ a b, as[i]? = some a ∧ bs[i]? = some b ∧ d = .tup [a, b]
  | [], _, i, d, h => by simp [zipD] at h
  | _ :: _, [], i, d, h => by simp [zipD] at h
  | a :: as, b :: bs, 0, d, h => by
    simp [zipD] at h
    exact ⟨a, b, rfl, rfl, h.symm⟩
  | a :: as, b :: bs, i + 1, d, h => by
    obtain ⟨a', b', h1, h2, h3⟩ := zipD_get as bs i d (by simpa [zipD] using h)
    exact ⟨a', b', by simpa using h1, by simpa using h2, h3⟩
def iZp (w : WA) : WI := fun x η n R => w x η n fun ds n1 => match ds with
  | [.lst xs, .lst ys] => R (zipD xs ys) n1
  | [.tup xs, .tup ys] => R (zipD xs ys) n1
  | _ => False
theorem iter_zipL {K : PySem.W.Frag} {c : Cf} {a b : Addr} {vs us : List V} {xs ys : List D} (f : c.F a = some (.lst vs)) (g : c.F b = some (.lst us)) (r : RPL K c vs xs) (s : RPL K c us ys) : IterOk K (Itz K a b) c (zipD xs ys) := fun i c1 ok1 l1 => by
  have e : c1.H a = some (.lst vs) := ok1.sub _ _ (l1.f _ _ f)
  have e' : c1.H b = some (.lst us) := ok1.sub _ _ (l1.f _ _ g)
  refine ⟨fun d hd => ?_, fun hi => ?_⟩
  · obtain ⟨p, q, h1, h2, rfl⟩ := zipD_get xs ys i d hd
    obtain ⟨v, hv, rv⟩ := r.get h1
    obtain ⟨u, hu, ru⟩ := s.get h2
    refine ⟨⟨vs, us, v, u, .of e, .of e', hv, hu⟩, fun w H2 hy => ?_⟩
    obtain ⟨T, z1, z2, rfl, hT, rfl, k1, k2⟩ := hy
    have q1 := k1 vs (.of e)
    rw [hv] at q1
    cases q1
    have q2 := k2 us (.of e')
    rw [hu] at q2
    cases q2
    exact new_pair ok1 hT (l1.rp rv) (l1.rp ru)
  · rw [zipD_len] at hi
    exact ⟨vs, us, .of e, .of e', by rw [r.length, s.length]; omega⟩
theorem iter_zipT {K : PySem.W.Frag} {c : Cf} {a b : Addr} {vs us : List V} {xs ys : List D} (f : c.F a = some (.tup vs)) (g : c.F b = some (.tup us)) (r : RPL K c vs xs) (s : RPL K c us ys) : IterOk K (RZ.ItzT K a b) c (zipD xs ys) := fun i c1 ok1 l1 => by
  have e : c1.H a = some (.tup vs) := ok1.sub _ _ (l1.f _ _ f)
  have e' : c1.H b = some (.tup us) := ok1.sub _ _ (l1.f _ _ g)
  refine ⟨fun d hd => ?_, fun hi => ?_⟩
  · obtain ⟨p, q, h1, h2, rfl⟩ := zipD_get xs ys i d hd
    obtain ⟨v, hv, rv⟩ := r.get h1
    obtain ⟨u, hu, ru⟩ := s.get h2
    refine ⟨⟨vs, us, v, u, .of e, .of e', hv, hu⟩, fun w H2 hy => ?_⟩
    obtain ⟨T, z1, z2, rfl, hT, rfl, k1, k2⟩ := hy
    have q1 := k1 vs (.of e)
    rw [hv] at q1
    cases q1
    have q2 := k2 us (.of e')
    rw [hu] at q2
    cases q2
    exact new_pair ok1 hT (l1.rp rv) (l1.rp ru)
  · rw [zipD_len] at hi
    exact ⟨vs, us, .of e, .of e', by rw [r.length, s.length]; omega⟩
theorem qi_zp {e e2 : Expr} {w : WA} {p pos tpos : Pos} {elts : List Expr} {kk : Nat} (hg : Gl X "zip") (hm : X.mg "zip" = none) (ha : PA X [e, e2] (upA X.K E w))
    (hs : starEach [e, e2] X.env = (false, eval e X.env) :: starEach [e2] X.env := by rfl) (hpl : (backTo pos (starEach [e2] X.env)).any (·.1) = false := by rfl) :
    PI X (.Tuple elts kk tpos) (.Call (.Name "zip" p) [e, e2] [] pos) (upI X.K E (iZp w)) := pi_to (RZ.pi_zipA hg hm ha hs hpl) fun σ H Q q => by
  obtain ⟨c, η, R, x, e1, ok, en, hw, hr, hx⟩ := q
  refine ⟨c, η, _, x, e1, ok, en, hw, fun ds c' vs hd ok' l' rp => ?_, hx⟩
  split at hd
  · cases rp with
    | cons r1 t =>
      cases t with
      | cons r2 t =>
        cases t
        cases r1 with
        | lst f r =>
          cases r2 with
          | lst g s => exact ⟨_, _, _, _, rfl, .inl ⟨.of (ok'.sub _ _ f), .of (ok'.sub _ _ g), hr _ c' _ hd ok' l' (iter_zipL f g r s)⟩⟩
  · cases rp with
    | cons r1 t =>
      cases t with
      | cons r2 t =>
        cases t
        cases r1 with
        | tup f r =>
          cases r2 with
          | tup g s => exact ⟨_, _, _, _, rfl, .inr ⟨.of (ok'.sub _ _ f), .of (ok'.sub _ _ g), hr _ c' _ hd ok' l' (iter_zipT f g r s)⟩⟩
  · exact hd.elim

/-! ### for -/
def runFor (x : Xn) (k : Wk) (g : WG) (b : WS) : List D → List Sl → Nat → Prop
  | [], η, n => k.nx η n
  | d :: ds, η, n => g d η fun η' => b x { nx := runFor x k g b ds, ct := runFor x k g b ds, bk := k.nx, rt := k.rt } η' n
def sFor (wi : WI) (g : WG) (b : WS) : WS := fun x k η n => wi x η n fun xs n1 => runFor x k g b xs η n1
variable {pos : Pos}
theorem qs_for {iter : Expr} {body : List Stmt} {wi : WI} {g : WG} {b : WS} (hp : PassesOwn (model X.prog X.w) X.A X.env X.xe) (hc : X.calm = true) (hi : PI X tg iter (upI X.K E wi)) {is : List Nat} (hg : PG X tg (upG X.K is g)) (hb : PSs X body (upS X.K E b))
    (hs : ∀ x, foldedSetIterable iter X.env x = pure x := by intro _; rfl) : PS X (.For tg iter body [] pos) (upS X.K E (sFor wi g b)) := ps_to (ps_for hp hc hi hg hb hs) fun D σ H q => by
  obtain ⟨c, η, k, x, e1, ok, en, hw, h1, h2, h3, h4, hx⟩ := q
  refine ⟨c, η, _, x, e1, ok, en, hw, fun xs c0 J hd ok0 l0 it => ?_, hx.none⟩
  refine ⟨fun i m σ1 H1 => ∃ c1 η1, c1.H = H1 ∧ c1.Ok ∧ EnvOk X.K c1 σ1 η1 ∧ LeO (Owned σ η) c c1 ∧ (∀ a, Owned σ1 η1 a → Owned σ η a ∨ c.H a = none) ∧ Fs c0 c1 ∧ i + m = xs.length ∧ runFor x k g b (xs.drop i) η1 c1.n,
    ⟨xs.length, c0, η, rfl, ok0, en.le l0, LeO.of l0, own_refl, ⟨rfl, fun _ _ h => h⟩, by omega, by simpa using hd⟩, ?_⟩
  rintro i m σ1 H1 ⟨c1, η1, rfl, ok1, en1, l1, ho1, f1, hm, hrun⟩
  obtain ⟨it1, it2⟩ := it i c1 ok1 f1
  by_cases hlt : i < xs.length
  · have hget : xs[i]? = some xs[i] := List.getElem?_eq_getElem hlt
    obtain ⟨go, yl⟩ := it1 _ hget
    have hdrop : xs.drop i = xs[i] :: xs.drop (i + 1) := (List.getElem_cons_drop (h := hlt)).symm
    rw [hdrop] at hrun
    refine .inr ⟨go, fun σ2 H2 => ∃ c2 η2, c2.H = H2 ∧ c2.Ok ∧ EnvOk X.K c2 σ2 η2 ∧ LeO (Owned σ η) c c2 ∧ (∀ a, Owned σ2 η2 a → Owned σ η a ∨ c.H a = none) ∧ Fs c0 c2 ∧ runFor x k g b (xs.drop (i + 1)) η2 c2.n, fun σ2 H2 hN => ?_, fun v H2 hy => ?_⟩
    · obtain ⟨c2, η2, z1, z2, z3, z4, z5, z6, z7⟩ := hN
      exact ⟨m - 1, by omega, c2, η2, z1, z2, z3, z4, z5, z6, by omega, z7⟩
    · obtain ⟨c2, rfl, hn2, ok2, l2, rp2⟩ := yl v H2 hy
      refine ⟨c2, η1, xs[i], _, rfl, ok2, en1.le l2, rp2, hrun, fun η3 σ3 hb3 en3 ho3 _ => ?_⟩
      have l12 : LeO (Owned σ η) c c2 := l1.thn l2
      have ho3' : ∀ a, Owned σ3 η3 a → Owned σ η a ∨ c.H a = none := fun a z => ho1 a (ho3 a z)
      have f2 : Fs c0 c2 := f1.trans (Fs.of l2)
      have nx : ∀ η4 c4 σ4, runFor x k g b (xs.drop (i + 1)) η4 c4.n → c4.Ok → LeO (Owned σ3 η3) c2 c4 → (∀ a, Owned σ4 η4 a → Owned σ3 η3 a ∨ c2.H a = none) → EnvOk X.K c4 σ4 η4 → ∃ c2 η2, c2.H = c4.H ∧ c2.Ok ∧ EnvOk X.K c2 σ4 η2 ∧ LeO (Owned σ η) c c2 ∧ (∀ a, Owned σ4 η2 a → Owned σ η a ∨ c.H a = none) ∧ Fs c0 c2 ∧ runFor x k g b (xs.drop (i + 1)) η2 c2.n :=
        fun η4 c4 σ4 hr4 ok4 l4 ho4 en4 => ⟨c4, η4, rfl, ok4, en4, l12.trans l4 ho3', own_trans l12 ho3' ho4 ok ok2, f2.trans (Fs.of l4), hr4⟩
      refine ⟨c2, η3, { nx := runFor x k g b (xs.drop (i + 1)), ct := runFor x k g b (xs.drop (i + 1)), bk := k.nx, rt := k.rt }, x, rfl, ok2, en3, (by rw [hn2]; exact hb3), nx, fun d c4 v hd4 ok4 l4 rp4 => h2 d c4 v hd4 ok4 (l12.trans l4 ho3') rp4, fun η4 c4 σ4 hr4 ok4 l4 ho4 en4 => ?_, nx, hx.step l12 ho3'⟩
      exact h1 η4 c4 σ4 hr4 ok4 (l12.trans l4 ho3') (own_trans l12 ho3' ho4 ok ok2) en4
  · have hdrop : xs.drop i = [] := List.drop_eq_nil_of_le (by omega)
    rw [hdrop] at hrun
    exact .inl ⟨it2 (by omega), h1 η1 c1 σ1 hrun ok1 l1 ho1 en1⟩
/-- while -/
def sWhile (t : WT) (b : WS) : WS := fun x k η n => ∃ (I : List Sl → Nat → Prop) (μ : List Sl → Nat → Nat), I η n ∧ ∀ η1 n1, I η1 n1 → t x η1 n1 fun c n2 => if c = true then b x { nx := fun η3 n3 => I η3 n3 ∧ μ η3 n3 < μ η1 n1, ct := fun η3 n3 => I η3 n3 ∧ μ η3 n3 < μ η1 n1, bk := k.nx, rt := k.rt } η1 n2 else k.nx η1 n2
theorem qs_while {t : Expr} {body : List Stmt} {wt : WT} {b : WS} (hp : PassesOwn (model X.prog X.w) X.A X.env X.xe) (ht : PT X t (upT X.K E wt)) (hb : PSs X body (upS X.K E b)) : PS X (.While t body [] pos) (upS X.K E (sWhile wt b)) := ps_to (ps_while hp ht hb) fun D σ H q => by
  obtain ⟨c, η, k, x, e1, ok, en, hw, h1, h2, h3, h4, hx⟩ := q
  obtain ⟨I, μ, hI, hstep⟩ := hw
  refine ⟨fun m σ1 H1 => ∃ c1 η1, c1.H = H1 ∧ c1.Ok ∧ EnvOk X.K c1 σ1 η1 ∧ LeO (Owned σ η) c c1 ∧ (∀ a, Owned σ1 η1 a → Owned σ η a ∨ c.H a = none) ∧ I η1 c1.n ∧ m = μ η1 c1.n, ⟨_, c, η, e1, ok, en, .refl, own_refl, hI, rfl⟩, ?_⟩
  rintro m σ1 H1 ⟨c1, η1, rfl, ok1, en1, l1, ho1, hI1, rfl⟩
  refine ⟨c1, η1, _, x, rfl, ok1, en1, hstep η1 c1.n hI1, fun b c2 hd ok2 l2 => ?_, (hx.step l1 ho1).none⟩
  have l12 : LeO (Owned σ η) c c2 := l1.thn l2
  cases b with
  | false => exact h1 η1 c2 σ1 hd ok2 l12 ho1 (en1.le l2)
  | true =>
    replace hd := hd
    rw [if_pos rfl] at hd
    have nx : ∀ η4 c4 σ4, (I η4 c4.n ∧ μ η4 c4.n < μ η1 c1.n) → c4.Ok → LeO (Owned σ1 η1) c2 c4 → (∀ a, Owned σ4 η4 a → Owned σ1 η1 a ∨ c2.H a = none) → EnvOk X.K c4 σ4 η4 → ∃ m', m' < μ η1 c1.n ∧ ∃ c1 η1, c1.H = c4.H ∧ c1.Ok ∧ EnvOk X.K c1 σ4 η1 ∧ LeO (Owned σ η) c c1 ∧ (∀ a, Owned σ4 η1 a → Owned σ η a ∨ c.H a = none) ∧ I η1 c1.n ∧ m' = μ η1 c1.n :=
      fun η4 c4 σ4 hr4 ok4 l4 ho4 en4 => ⟨_, hr4.2, c4, η4, rfl, ok4, en4, l12.trans l4 ho1, own_trans l12 ho1 ho4 ok ok2, hr4.1, rfl⟩
    refine iteT ⟨_, fun σ' H' h => h, c2, η1, { nx := fun η3 n3 => I η3 n3 ∧ μ η3 n3 < μ η1 c1.n, ct := fun η3 n3 => I η3 n3 ∧ μ η3 n3 < μ η1 c1.n, bk := k.nx, rt := k.rt }, x, rfl, ok2, en1.le l2, hd, nx, fun d c4 v hd4 ok4 l4 rp4 => h2 d c4 v hd4 ok4 (l12.trans l4 ho1) rp4, fun η4 c4 σ4 hr4 ok4 l4 ho4 en4 => ?_, nx, hx.step l12 ho1⟩
    exact h1 η4 c4 σ4 hr4 ok4 (l12.trans l4 ho1) (own_trans l12 ho1 ho4 ok ok2) en4

/-! ### list comprehensions -/
def wipeS (η : List Sl) : List Nat → List Sl
  | [] => η
  | v :: vs => (wipeS η vs).set v .un
theorem EnvOk.wipe {K : PySem.W.Frag} {c : Cf} {σ : L2.St} {η : List Sl} (e : EnvOk K c σ η) : ∀ vs : List Nat, EnvOk K c (L2.wipe σ vs) (wipeS η vs)
  | [] => e
  | v :: vs => (EnvOk.wipe e vs).unset
def runLc (x : Xn) (η : List Sl) (g : WG) (t : WT) (w : WE) (R : List D → Nat → Prop) : List D → List D → Nat → Prop
  | [], acc, n => R acc n
  | d :: ds, acc, n => g d η fun η' => t x η' n fun b n1 => if b = true then w x η' n1 fun y n2 => acc.length < sizeLine ∧ runLc x η g t w R ds (acc ++ [y]) n2 else runLc x η g t w R ds acc n1
def nLc (vs : List Nat) (wi : WI) (g : WG) (t : WT) (w : WE) : WN := fun x η n R => wi x η n fun xs n1 => runLc x (wipeS η vs) g t w R xs [] n1
def wYes : WT := fun _ _ n R => R true n
theorem pts_to {e : List Expr} {t t' : TT} (h : PTs X e t) (i : ∀ σ H Q, t' σ H Q → t σ H Q) : PTs X e t' := ⟨fun pins s σ H Q I q => h.run pins s σ H Q I (i σ H Q q)⟩
theorem qts_nil : PTs X [] (upT X.K E wYes) := pts_to pts_nil fun σ H Q q => by
  obtain ⟨c, η, R, x, e1, ok, en, hw, hr, hx⟩ := q
  show Q true H
  rw [← e1]
  exact hr true c hw ok .refl
theorem qts_one {e : Expr} {t : WT} (h : PT X e (upT X.K E t)) : PTs X [e] (upT X.K E t) := pts_one h
/-- the list under way, at D, is changed: c goes on -/
theorem Cf.Ok.put {c0 c : Cf} {p : Addr} {o u : HO} (ok : c.Ok) (l : Le c0 c) (h0 : c0.H p = none) (hp : c.H p = some o) (hF : c.F p = none) (hd : p ≠ c.dr) : (⟨c.dr, c.F, upd c.H p u, c.n⟩ : Cf).Ok ∧ Le c0 ⟨c.dr, c.F, upd c.H p u, c.n⟩ := by
  refine ⟨⟨fun a w e => ?_, ok.nf, ?_⟩, l.dr, l.f, fun a w h1 h2 h3 => ?_, l.fr⟩
  · show upd c.H p u a = some w
    rw [upd_ne (ne_of_none e hF)]
    exact ok.sub _ _ e
  · show Drw c.n c.F (upd c.H p u c.dr)
    rw [upd_ne (Ne.symm hd)]
    exact ok.dw
  · show upd c.H p u a = some w
    rw [upd_ne (ne_of_none h3 h0)]
    exact l.h a w h1 h2 h3
/-! the comprehension's block -/
theorem wipe_get (σ : L2.St) : ∀ (is : List Nat) (j : Nat), (L2.wipe σ is)[j]? = if j ∈ is then (σ[j]?).map (fun _ => none) else σ[j]?
  | [], j => by simp [L2.wipe]
  | i :: is, j => by
    unfold L2.wipe
    by_cases h : j = i
    · subst h
      rw [List.getElem?_set]
      simp only [if_true, List.mem_cons, true_or, L2.wipe_length]
      by_cases hl : j < σ.length
      · simp [hl]
      · simp [hl]
    · rw [List.getElem?_set_ne (Ne.symm h), wipe_get σ is j]
      simp [h]
theorem wipe_out {is : List Nat} {σ σ' : L2.St} (h : Out is (L2.wipe σ is) σ') : L2.wipe σ' is = L2.wipe σ is := by
  apply List.ext_getElem?
  intro j
  rw [wipe_get, wipe_get]
  by_cases hj : j ∈ is
  · rw [if_pos hj, if_pos hj]
    have hl : σ'.length = σ.length := by rw [h.1, L2.wipe_length]
    by_cases hb : j < σ.length
    · rw [List.getElem?_eq_getElem hb, List.getElem?_eq_getElem (by omega : j < σ'.length)]
      rfl
    · rw [List.getElem?_eq_none_iff.mpr (by omega : σ.length ≤ j), List.getElem?_eq_none_iff.mpr (by omega : σ'.length ≤ j)]
  · rw [if_neg hj, if_neg hj, h.2 j hj, wipe_get, if_neg hj]
theorem lc_up {K : PySem.W.Frag} {is : List Nat} {wi : WI} {g : WG} {t : WT} {w : WE} : ∀ σ H Q, upN K E (nLc is wi g t w) σ H Q → tLc (upI K E wi) (upG K is g) (upT K E t) (up K E w) is σ H Q := fun σ H Q q => by
  obtain ⟨c, η, R, x, e1, ok, en, hw, hr, hx⟩ := q
  refine ⟨c, η, _, x, e1, ok, en, hw, fun xs c0 J hd ok0 l0 it => ?_, hx⟩
  intro L hL
  obtain ⟨okL, lL, hFL, hdL⟩ := ok0.newH (o := .lst []) hL
  have hL0 : c.H L = none := by
    cases q : c.H L with
    | none => rfl
    | some o =>
      rw [l0.h L o (by rw [← l0.dr]; exact hdL) (fun z => z) q] at hL
      cases hL
  have hLd : L ≠ c.dr := by rw [← l0.dr]; exact hdL
  have enw : EnvOk K c (L2.wipe σ is) (wipeS η is) := en.wipe is
  refine ⟨fun i m H1 => ∃ c1 vs acc, c1.H = H1 ∧ c1.Ok ∧ Le c c1 ∧ Fs c0 c1 ∧ c1.H L = some (.lst vs) ∧ c1.F L = none ∧ RPL K c1 vs acc ∧ i + m = xs.length ∧ runLc x (wipeS η is) g t w R (xs.drop i) acc c1.n,
    ⟨xs.length, ⟨c0.dr, c0.F, upd c0.H L (.lst []), c0.n⟩, [], [], rfl, okL, l0.trans lL, Fs.of lL, upd_same, hFL, .nil, by omega, by simpa using hd⟩, ?_⟩
  rintro i m H1 ⟨c1, vs, acc, rfl, ok1, l1, f1, hH1, hF1, rp1, hm, hrun⟩
  obtain ⟨it1, it2⟩ := it i c1 ok1 f1
  by_cases hlt : i < xs.length
  · have hget : xs[i]? = some xs[i] := List.getElem?_eq_getElem hlt
    obtain ⟨go, yl⟩ := it1 _ hget
    have hdrop : xs.drop i = xs[i] :: xs.drop (i + 1) := (List.getElem_cons_drop (h := hlt)).symm
    rw [hdrop] at hrun
    refine .inr ⟨go, fun H2 => ∃ c2 vs acc, c2.H = H2 ∧ c2.Ok ∧ Le c c2 ∧ Fs c0 c2 ∧ c2.H L = some (.lst vs) ∧ c2.F L = none ∧ RPL K c2 vs acc ∧ runLc x (wipeS η is) g t w R (xs.drop (i + 1)) acc c2.n, fun H2 hN => ?_, fun v H2 hy => ?_⟩
    · obtain ⟨c2, vs2, acc2, z1, z2, z3, z4, z5, z6, z7, z8⟩ := hN
      exact ⟨m - 1, by omega, c2, vs2, acc2, z1, z2, z3, z4, z5, z6, z7, by omega, z8⟩
    · obtain ⟨c2, rfl, hn2, ok2, l2, rp2⟩ := yl v H2 hy
      have hdr1 : L ≠ c1.dr := by rw [l1.dr]; exact hLd
      have l12 := l1.trans l2
      have hH2 : c2.H L = some (.lst vs) := l2.h _ _ hdr1 (fun z => z) hH1
      have hF2 : c2.F L = none := l2.fr _ _ hdr1 (fun z => z) hF1 hH1
      have hdr2 : L ≠ c2.dr := by rw [l12.dr]; exact hLd
      refine ⟨c2, wipeS η is, xs[i], _, rfl, ok2, enw.le l12, rp2, hrun, fun η3 σ3 hb3 en3 ho3 ot => ?_⟩
      refine ⟨wipe_out ot, ?_⟩
      refine ⟨c2, η3, _, x, rfl, ok2, en3, (by rw [hn2]; exact hb3), fun b c3 hd3 ok3 l3 => ?_, hx.le l12⟩
      have hH3 : c3.H L = some (.lst vs) := l3.h _ _ hdr2 (fun z => z) hH2
      have hF3 : c3.F L = none := l3.fr _ _ hdr2 (fun z => z) hF2 hH2
      have hdr3 : L ≠ c3.dr := by rw [l3.dr]; exact hdr2
      cases b with
      | false => exact iteF ⟨c3, vs, acc, rfl, ok3, l12.trans l3, (f1.trans (Fs.of l2)).trans (Fs.of l3), hH3, hF3, l3.rpl (l2.rpl rp1), hd3⟩
      | true =>
        refine iteT ⟨c3, η3, _, x, rfl, ok3, en3.le l3, hd3, fun y c4 u hd4 ok4 l4 rp4 => ?_, (hx.le l12).le l3⟩
        have hH4 : c4.H L = some (.lst vs) := l4.h _ _ hdr3 (fun z => z) hH3
        have hF4 : c4.F L = none := l4.fr _ _ hdr3 (fun z => z) hF3 hH3
        have hdr4 : L ≠ c4.dr := by rw [l4.dr]; exact hdr3
        have l04 := (l12.trans l3).trans l4
        obtain ⟨ok5, l5⟩ := ok4.put (u := .lst (vs ++ [u])) l04 hL0 hH4 hF4 hdr4
        have rp5 : RPL K c4 vs acc := l4.rpl (l3.rpl (l2.rpl rp1))
        refine ⟨vs, hH4, by rw [rp1.length]; exact hd4.1, ⟨c4.dr, c4.F, upd c4.H L (.lst (vs ++ [u])), c4.n⟩, vs ++ [u], acc ++ [y], rfl, ok5, l5, ?_, upd_same, hF4, RpL.append rp5 (.cons rp4 .nil), hd4.2⟩
        exact ((f1.trans (Fs.of l2)).trans (Fs.of l3)).trans ⟨l4.dr, l4.f⟩
  · have hdrop : xs.drop i = [] := List.drop_eq_nil_of_le (by omega)
    rw [hdrop] at hrun
    exact .inl ⟨it2 (by omega), hr acc c1 L vs hrun ok1 l1 hL0 hF1 hLd hH1 rp1⟩
theorem qn_lc {elt tg iter : Expr} {ifs : List Expr} {scope : Scope} {own : List (Str × Nat)} {wi : WI} {g : WG} {t : WT} {w : WE} (hc : X.calm = true) (hN : X.N.Nodup) (hi : PI X tg iter (upI X.K E wi)) (bk : BlkOk X.N X.env.scope scope own)
    (hg : ∀ (s : Shared) (H : Hp) (C : Addr) (cl : List (Str × Addr)) (fp : List Addr), PG (X.blk s H scope (compEnvC scope cl C X.env) fp) tg (upG X.K (own.map (·.2)) g)) (ht : ∀ (s : Shared) (H : Hp) (C : Addr) (cl : List (Str × Addr)) (fp : List Addr), PTs (X.blk s H scope (compEnvC scope cl C X.env) fp) ifs (upT X.K E t))
    (he : ∀ (s : Shared) (H : Hp) (C : Addr) (cl : List (Str × Addr)) (fp : List Addr), PE (X.blk s H scope (compEnvC scope cl C X.env) fp) elt (up X.K E w)) (hs : ∀ x, foldedSetIterable iter X.env x = pure x := by intro _; rfl) :
    PE X (.ListComp elt [⟨tg, iter, ifs, 0⟩] scope pos) (upN X.K E (nLc (own.map (·.2)) wi g t w)) := pe_to (pe_lc hc hN hi bk hg ht he hs) lc_up
/-- y = [..] on one line, y a local: owned | frozen -/
theorem qs_setLcN {i : Nat} {y : Str} {py : Pos} {elt tg iter : Expr} {ifs : List Expr} {scope : Scope} {own : List (Str × Nat)} {spos : Pos} {wi : WI} {g : WG} {t : WT} {w : WE} (hc : X.calm = true) (hN : X.N.Nodup) (hy : X.N[i]? = some y) (hyl : X.env.scope.names.lookup y = some .local)
    (hsw : swapsWith (.ListComp elt [⟨tg, iter, ifs, 0⟩] scope pos) (some (.Name y py)) spos.line X.env = pure true) (hi : PI X tg iter (upI X.K E wi)) (bk : BlkOk X.N X.env.scope scope own)
    (hg : ∀ (s : Shared) (H : Hp) (C : Addr) (cl : List (Str × Addr)) (fp : List Addr), PG (X.blk s H scope (compEnvC scope cl C X.env) fp) tg (upG X.K (own.map (·.2)) g)) (ht : ∀ (s : Shared) (H : Hp) (C : Addr) (cl : List (Str × Addr)) (fp : List Addr), PTs (X.blk s H scope (compEnvC scope cl C X.env) fp) ifs (upT X.K E t))
    (he : ∀ (s : Shared) (H : Hp) (C : Addr) (cl : List (Str × Addr)) (fp : List Addr), PE (X.blk s H scope (compEnvC scope cl C X.env) fp) elt (up X.K E w)) (hs : ∀ x, foldedSetIterable iter X.env x = pure x := by intro _; rfl) :
    PS X (.Assign [.Name y py] (.ListComp elt [⟨tg, iter, ifs, 0⟩] scope pos) spos) (upS X.K E (sSetN i (nLc (own.map (·.2)) wi g t w))) := ps_to (ps_setLc hc hN hy hyl hsw hi bk hg ht he hs) fun D σ H q => by
  have z : tAsg (upN X.K E (nLc (own.map (·.2)) wi g t w)) (gName i) D σ H := setN_up D σ H q
  exact lc_up σ H _ z
theorem qs_setLc {i : Nat} {y : Str} {py : Pos} {elt tg iter : Expr} {ifs : List Expr} {scope : Scope} {own : List (Str × Nat)} {spos : Pos} {wi : WI} {g : WG} {t : WT} {w : WE} (hc : X.calm = true) (hN : X.N.Nodup) (hy : X.N[i]? = some y) (hyl : X.env.scope.names.lookup y = some .local)
    (hsw : swapsWith (.ListComp elt [⟨tg, iter, ifs, 0⟩] scope pos) (some (.Name y py)) spos.line X.env = pure true) (hi : PI X tg iter (upI X.K E wi)) (bk : BlkOk X.N X.env.scope scope own)
    (hg : ∀ (s : Shared) (H : Hp) (C : Addr) (cl : List (Str × Addr)) (fp : List Addr), PG (X.blk s H scope (compEnvC scope cl C X.env) fp) tg (upG X.K (own.map (·.2)) g)) (ht : ∀ (s : Shared) (H : Hp) (C : Addr) (cl : List (Str × Addr)) (fp : List Addr), PTs (X.blk s H scope (compEnvC scope cl C X.env) fp) ifs (upT X.K E t))
    (he : ∀ (s : Shared) (H : Hp) (C : Addr) (cl : List (Str × Addr)) (fp : List Addr), PE (X.blk s H scope (compEnvC scope cl C X.env) fp) elt (up X.K E w)) (hs : ∀ x, foldedSetIterable iter X.env x = pure x := by intro _; rfl) :
    PS X (.Assign [.Name y py] (.ListComp elt [⟨tg, iter, ifs, 0⟩] scope pos) spos) (upS X.K E (sAsg (eFz (nLc (own.map (·.2)) wi g t w)) (gNm i))) := ps_to (ps_setLc hc hN hy hyl hsw hi bk hg ht he hs) fun D σ H q => by
  obtain ⟨c, η, k, x, e1, ok, en, hw, h1, h2, h3, h4, hx⟩ := q
  refine lc_up σ H _ (fz_up σ H _ ⟨c, η, _, x, e1, ok, en, hw, fun d c' v hd ok' l' rp => ?_, hx.none⟩)
  exact h1 _ c' _ hd ok' (LeO.of l') (fun a z => .inl (owned_set z)) ((en.le l').set rp)
end
end DL
set_option maxHeartbeats 2000000
namespace DL
open PySem PySem.Spec PyProof.Rows L2
section
variable {X : Cx} {E : XK} {pos : Pos}

/-! ### an owned object is changed -/
theorem own_putO {K : PySem.W.Frag} {c : Cf} {σ : L2.St} {η : List Sl} {i : Nat} {p : Addr} {o : HO} {s1 s0 : Sl} (ok : c.Ok) (en : EnvOk K c σ η) (hs : η[i]? = some s1) (h1 : s1.isOw = true) (hp : σ[i]? = some (some (.ref p))) (hF : c.F p = none) (hd : p ≠ c.dr)
    (r : SlOk K ⟨c.dr, c.F, upd c.H p o, c.n⟩ (some (.ref p)) s0) :
    (⟨c.dr, c.F, upd c.H p o, c.n⟩ : Cf).Ok ∧ LeO (Owned σ η) c ⟨c.dr, c.F, upd c.H p o, c.n⟩ ∧ EnvOk K ⟨c.dr, c.F, upd c.H p o, c.n⟩ σ (η.set i s0) ∧ ∀ a, Owned σ (η.set i s0) a → Owned σ η a := by
  have how : Owned σ η p := ⟨i, _, hs, h1, hp⟩
  refine ⟨⟨fun a w e => ?_, ok.nf, ?_⟩, ⟨rfl, fun _ _ h => h, fun a w h1 h2 h3 => ?_, fun a o _ _ h _ => h⟩, en.move hs h1 hp rfl (fun _ _ h => h) (fun a w hn h => ?_) (fun a _ h => h) r, fun a h => owned_move hs h1 h⟩
  · show upd c.H p o a = some w
    rw [upd_ne (ne_of_none e hF)]
    exact ok.sub _ _ e
  · show Drw c.n c.F (upd c.H p o c.dr)
    rw [upd_ne (Ne.symm hd)]
    exact ok.dw
  · show upd c.H p o a = some w
    rw [upd_ne (fun z => h2 (by rw [z]; exact how))]
    exact h3
  · show upd c.H p o a = some w
    rw [upd_ne hn]
    exact h
theorem own_put {K : PySem.W.Frag} {c : Cf} {σ : L2.St} {η : List Sl} {i : Nat} {p : Addr} {vs vs' : List V} {xs xs' : List D} (ok : c.Ok) (en : EnvOk K c σ η) (hs : η[i]? = some (Sl.ow xs)) (hp : σ[i]? = some (some (.ref p))) (hH : c.H p = some (.lst vs)) (hF : c.F p = none) (hd : p ≠ c.dr) (r : RPL K c vs' xs') :
    (⟨c.dr, c.F, upd c.H p (.lst vs'), c.n⟩ : Cf).Ok ∧ LeO (Owned σ η) c ⟨c.dr, c.F, upd c.H p (.lst vs'), c.n⟩ ∧ EnvOk K ⟨c.dr, c.F, upd c.H p (.lst vs'), c.n⟩ σ (η.set i (.ow xs')) ∧ ∀ a, Owned σ (η.set i (.ow xs')) a → Owned σ η a :=
  own_putO ok en hs rfl hp hF hd ⟨p, vs', rfl, upd_same, hF, hd, r⟩
/-- a method of a list that changes it -/
abbrev OM := List D → List D → (List D → Prop) → Prop
def MD (X : Cx) (r : V → List V → Hp → VK → Prop) (f : OM) : Prop := ∀ (c : Cf) (p : Addr) (vs us : List V) (xs ds : List D) (k : List D → Prop) (Q : VK), c.Ok → c.H p = some (.lst vs) → RPL X.K c vs xs → RPL X.K c us ds → f xs ds k →
  (∀ xs' vs', k xs' → RPL X.K c vs' xs' → Q .non (upd c.H p (.lst vs'))) → r (.ref p) us c.H Q
def owS : Option Sl → (List D → Prop) → Prop
  | some (.ow xs), k => k xs
  | _, _ => False
def sMt (i : Nat) (f : OM) (w : WA) : WS := fun x k η n => w x η n fun ds n1 => owS η[i]? fun xs => f xs ds fun xs' => k.nx (η.set i (.ow xs')) n1
theorem mt_up {i : Nat} {r : V → List V → Hp → VK → Prop} {f : OM} {w : WA} (h : MD X r f) : ∀ D σ H, upS X.K E (sMt i f w) D σ H → (∃ p vs, σ[i]? = some (some (.ref p)) ∧ H p = some (.lst vs)) → tDrop (tBM X.K "list" r (tVar i) (upA X.K E w)) D σ H := fun D σ H q hz => by
  obtain ⟨c, η, k, x, e1, ok, en, hw, h1, h2, h3, h4, hx⟩ := q
  obtain ⟨p0, vs0, hz1, hz2⟩ := hz
  refine ⟨_, hz1, .inl ⟨rfl, vs0, .of hz2⟩, ?_⟩
  refine ⟨c, η, _, x, e1, ok, en, hw, fun ds c1 us hd ok1 l1 rp => ?_, hx.none⟩
  have en1 := en.le l1
  cases hs : η[i]? with
  | none =>
    rw [hs] at hd
    exact hd.elim
  | some s =>
    rw [hs] at hd
    cases s with
    | un => exact hd.elim
    | dt d => exact hd.elim
    | ob _ _ _ _ => exact hd.elim
    | ow xs =>
      obtain ⟨p, vs, g1, g2, g3, g4, rpx⟩ := en1.ow hs
      rw [hz1] at g1
      cases g1
      refine h c1 p0 vs us xs ds _ _ ok1 g2 rpx rp hd fun xs' vs' hk rp' => ?_
      obtain ⟨ok2, l2, en2, ho2⟩ := own_put ok1 en1 hs hz1 g2 g3 g4 rp'
      exact h1 _ ⟨c1.dr, c1.F, upd c1.H p0 (.lst vs'), c1.n⟩ σ hk ok2 (LeO.trans (LeO.of l1) l2 own_refl) (fun a z => .inl (ho2 a z)) en2
/-- the slot's list is there from the first -/
theorem sMt_own {K : PySem.W.Frag} {i : Nat} {D : Ends} {σ : L2.St} {H : Hp} {w : WS} (hw : ∀ x k η n, w x k η n → ∃ xs, η[i]? = some (Sl.ow xs)) (q : upS K E w D σ H) : ∃ p vs, σ[i]? = some (some (.ref p)) ∧ H p = some (.lst vs) := by
  obtain ⟨c, η, k, x, e1, ok, en, hq, _⟩ := q
  obtain ⟨xs, hs⟩ := hw _ _ _ _ hq
  obtain ⟨p, vs, g1, g2, _⟩ := en.ow hs
  exact ⟨p, vs, g1, by rw [← e1]; exact g2⟩
/-- ahead of the arguments the slot is an owner -/
def sMt' (i : Nat) (f : OM) (w : WA) : WS := fun x k η n => (∃ xs, η[i]? = some (Sl.ow xs)) ∧ sMt i f w x k η n
theorem qs_mt {i : Nat} {name : Str} {id : String} {y : Str} {e : Expr} {es : List Expr} {npos apos cpos : Pos} {r : V → List V → Hp → VK → Prop} {f : OM} {w : WA} (h : MD X r f) (slot : Slot "list" name id) (hty : typeOf (.builtin id) = pure (.type "method_descriptor")) (hm : MtR X id r)
    (hv : PE X (.Name y npos) (tVar i)) (ha : PA X (e :: es) (upA X.K E w)) (hb : PE X (.Call (.Attribute (.Name y npos) name apos) (e :: es) [] cpos) (tBM X.K "list" r (tVar i) (upA X.K E w)))
    (hs : swapsWith (.Call (.Attribute (.Name y npos) name apos) (e :: es) [] cpos) none pos.line X.env = pure false := by rfl) : PS X (.Expr (.Call (.Attribute (.Name y npos) name apos) (e :: es) [] cpos) pos) (upS X.K E (sMt' i f w)) :=
  ps_to (ps_expr hb hs) fun D σ H q => by
    have hz := sMt_own (i := i) (fun _ _ _ _ h => h.1) q
    obtain ⟨c, η, k, x, e1, ok, en, hw, h1⟩ := q
    exact mt_up h D σ H ⟨c, η, k, x, e1, ok, en, hw.2, h1⟩ hz
def mAppend : OM := fun xs ds k => match ds with
  | [d] => xs.length < sizeLine ∧ k (xs ++ [d])
  | _ => False
theorem md_append : MD X rAppend mAppend := by
  intro c p vs us xs ds k Q ok hp rx rd h hQ
  cases rd with
  | nil => exact h.elim
  | cons r1 t =>
    cases t with
    | nil => exact ⟨p, vs, _, rfl, rfl, hp, by rw [rx.length]; exact h.1, hQ _ _ h.2 (rx.append (.cons r1 .nil))⟩
    | cons _ _ => exact h.elim
def mExtend : OM := fun xs ds k => match ds with
  | [.lst ys] => xs.length + ys.length ≤ sizeLine ∧ k (xs ++ ys)
  | _ => False
theorem md_extend : MD X rExtend mExtend := by
  intro c p vs us xs ds k Q ok hp rx rd h hQ
  cases rd with
  | nil => exact h.elim
  | cons r1 t =>
    cases t with
    | nil =>
      cases r1 <;> first | exact h.elim | skip
      rename_i a vs2 ds2 f r2
      exact ⟨p, a, vs, vs2, rfl, rfl, hp, ok.sub _ _ f, by rw [rx.length, r2.length]; exact h.1, hQ _ _ h.2 (rx.append r2)⟩
    | cons _ _ => cases r1 <;> exact h.elim
def rInsert : V → List V → Hp → VK → Prop := fun x vs H Q => ∃ (l : Addr) (xs : List V) (i : Int) (y : V), x = .ref l ∧ vs = [.int i, y] ∧ H l = some (.lst xs) ∧ xs.length < sizeLine ∧ 0 ≤ i ∧ i < 2 ^ 63 ∧
    Q .non (upd H l (.lst (xs.take i.toNat ++ [y] ++ xs.drop i.toNat)))
def mInsert : OM := fun xs ds k => match ds with
  | [.int i, d] => xs.length < sizeLine ∧ 0 ≤ i ∧ i < 2 ^ 63 ∧ k (xs.take i.toNat ++ [d] ++ xs.drop i.toNat)
  | _ => False
theorem md_insert : MD X rInsert mInsert := by
  intro c p vs us xs ds k Q ok hp rx rd h hQ
  cases rd with
  | nil => exact h.elim
  | cons r1 t =>
    cases t with
    | nil => cases r1 <;> exact h.elim
    | cons r2 t =>
      cases t with
      | nil =>
        cases r1 <;> first | exact h.elim | skip
        obtain ⟨h0, h1, h2, hk⟩ := h
        exact ⟨p, vs, _, _, rfl, rfl, hp, by rw [rx.length]; exact h0, h1, h2, hQ _ _ hk (((rx.take _).append (.cons r2 .nil)).append (rx.drop _))⟩
      | cons _ _ => cases r1 <;> exact h.elim
variable {y : Str} {e e2 : Expr} {npos apos cpos : Pos}
theorem qs_append {i : Nat} {w : WA} (hv : PE X (.Name y npos) (tVar i)) (ha : PA X [e] (upA X.K E w))
    (hb : attributeBase (.Name y npos) "append" X.env (eval (.Name y npos) X.env) = eval (.Name y npos) X.env := by rfl)
    (hfew : ((backTo cpos (starEach [e] X.env)).all (fun x => !x.1) && (backToKw cpos (keywordEach [] X.env)).all (fun x => x.1.isSome) && decide ([e].length + ([] : List Keyword).length + (if ([] : List Keyword).isEmpty then 0 else 1) < 30)) = true := by rfl)
    (hline : (apos.endLine == cpos.line) = true := by rfl) (hst : starEach [e] X.env = (false, eval e X.env) :: starEach [] X.env := by rfl) (hpl : (backTo cpos (starEach [] X.env)).any (·.1) = false := by rfl)
    (hs : swapsWith (.Call (.Attribute (.Name y npos) "append" apos) [e] [] cpos) none pos.line X.env = pure false := by rfl) :
    PS X (.Expr (.Call (.Attribute (.Name y npos) "append" apos) [e] [] cpos) pos) (upS X.K E (sMt' i mAppend w)) :=
  qs_mt md_append PySem.F.slot_list_append PySem.F.type_list_append mt_append hv ha (pe_bm PySem.F.plainAttrs_list PySem.F.slot_list_append PySem.F.type_list_append mt_append hv ha hb hfew hline hst hpl) hs
theorem qs_extend {i : Nat} {w : WA} (hv : PE X (.Name y npos) (tVar i)) (ha : PA X [e] (upA X.K E w))
    (hb : attributeBase (.Name y npos) "extend" X.env (eval (.Name y npos) X.env) = eval (.Name y npos) X.env := by rfl)
    (hfew : ((backTo cpos (starEach [e] X.env)).all (fun x => !x.1) && (backToKw cpos (keywordEach [] X.env)).all (fun x => x.1.isSome) && decide ([e].length + ([] : List Keyword).length + (if ([] : List Keyword).isEmpty then 0 else 1) < 30)) = true := by rfl)
    (hline : (apos.endLine == cpos.line) = true := by rfl) (hst : starEach [e] X.env = (false, eval e X.env) :: starEach [] X.env := by rfl) (hpl : (backTo cpos (starEach [] X.env)).any (·.1) = false := by rfl)
    (hs : swapsWith (.Call (.Attribute (.Name y npos) "extend" apos) [e] [] cpos) none pos.line X.env = pure false := by rfl) :
    PS X (.Expr (.Call (.Attribute (.Name y npos) "extend" apos) [e] [] cpos) pos) (upS X.K E (sMt' i mExtend w)) :=
  qs_mt md_extend PySem.F.slot_list_extend PySem.F.type_list_extend mt_extend hv ha (pe_bm PySem.F.plainAttrs_list PySem.F.slot_list_extend PySem.F.type_list_extend mt_extend hv ha hb hfew hline hst hpl) hs
/-- y[e2] = e, y owned -/
def sPutIx (i : Nat) (wi we : WE) : WS := fun x k η n => we x η n fun d n1 => wi x η n1 fun j n2 => owS η[i]? fun xs => match j with
  | .int j => ∃ m, ixN xs.length j = some m ∧ k.nx (η.set i (.ow (xs.set m d))) n2
  | _ => False
theorem qs_putIx {i : Nat} {wi we : WE} {spos : Pos} (hv : PE X (.Name y npos) (tVar i)) (hi : PE X e2 (upB X.K E wi)) (he : PE X e (up X.K E we))
    (hs : swapsWithSole [.Subscript (.Name y npos) e2 spos] e pos.line X.env = pure false := by rfl) (hw : swappedStores [.Subscript (.Name y npos) e2 spos] e X.env = pure none := by rfl)
    (h1 : (assignEach [.Subscript (.Name y npos) e2 spos] X.env).map (·.2) = [assign (.Subscript (.Name y npos) e2 spos) X.env] := by rfl)
    (ha : ∀ v, assign (.Subscript (.Name y npos) e2 spos) X.env v = (do
      let ov ← holding [v] (eval (.Name y npos) X.env)
      let iv ← holding [v, ov] (eval e2 X.env)
      standAt spos
      holding [v, ov, iv] (setItem ov iv v)
      release [v, ov, iv] []) := by intro _; rfl) : PS X (.Assign [.Subscript (.Name y npos) e2 spos] e pos) (upS X.K E (fun x k η n => (∃ xs, η[i]? = some (Sl.ow xs)) ∧ sPutIx i wi we x k η n)) :=
  ps_to (ps_asg he (pg_sub hv hi set_list ha) hs hw h1) fun D σ H q => by
    obtain ⟨p0, vs0, hz1, hz2⟩ := sMt_own (i := i) (fun _ _ _ _ h => h.1) q
    obtain ⟨c, η, k, x, e1, ok, en, ⟨_, hw⟩, h1, h2, h3, h4, hx⟩ := q
    refine ⟨c, η, _, x, e1, ok, en, hw, fun d c1 v hd ok1 l1 rp => ?_, hx.none⟩
    refine ⟨_, hz1, c1, η, _, x, rfl, ok1, en.le l1, hd, fun j c2 u hd2 ok2 l2 rp2 => ?_, hx.none.le l1⟩
    have en2 := (en.le l1).le l2
    cases hs : η[i]? with
    | none =>
      rw [hs] at hd2
      exact hd2.elim
    | some s =>
      rw [hs] at hd2
      cases s with
      | un => exact hd2.elim
      | dt d => exact hd2.elim
      | ob _ _ _ _ => exact hd2.elim
      | ow xs =>
        obtain ⟨p, vs, g1, g2, g3, g4, rpx⟩ := en2.ow hs
        rw [hz1] at g1
        cases g1
        cases j <;> first | exact hd2.elim | skip
        obtain ⟨m, hm, hk⟩ := hd2
        refine ⟨p0, vs, _, m, rfl, rp2.int, g2, by rw [rpx.length]; exact hm, ?_⟩
        have rp' : RPL X.K c2 (vs.set m v) (xs.set m d) := RpL.set (l2.rp rp) m rpx
        obtain ⟨ok3, l3, en3, ho3⟩ := own_put ok2 en2 hs hz1 g2 g3 g4 rp'
        exact h1 _ ⟨c2.dr, c2.F, upd c2.H p0 (.lst (vs.set m v)), c2.n⟩ σ hk ok3 (LeO.trans (LeO.of (l1.trans l2)) l3 own_refl) (fun a z => .inl (ho3 a z)) en3

/-! ### own defs -/
abbrev Ct := Xn → List D → Nat → (D → Nat → Prop) → Prop
def spU (K : PySem.W.Frag) (m : Nat) (C : Ct) : Sp := fun vs H Q E => ∃ c ds R x, c.H = H ∧ c.Ok ∧ RPL K c vs ds ∧ ds.length = m ∧ C x ds c.n R ∧ (∀ d c' v, R d c'.n → c'.Ok → Le c c' → RP K c' v d → Q v c'.H) ∧ XW K E x (fun _ => False) c
theorem spU_len {K : PySem.W.Frag} {m : Nat} {C : Ct} {vs : List V} {H : Hp} {Q : VK} {E : XK} (h : spU K m C vs H Q E) : vs.length = m := by
  obtain ⟨c, ds, R, x, _, _, r, hl, _⟩ := h
  rw [r.length, hl]
/-- f(..): dds the defaults -/
def eCall (m : Nat) (C : Ct) (dds : List D) (w : WA) : WE := fun x η n R => w x η n fun ds n1 => (ds ++ dds).length = m ∧ C x (ds ++ dds) n1 R
theorem call_up {K : PySem.W.Frag} {m : Nat} {C : Ct} {dvs : List V} {dds : List D} {w : WA} (hd : ∀ dr F, RpL K dr F dvs dds) : ∀ σ H Q, up K E (eCall m C dds w) σ H Q → tCall (spU K m C) dvs E (upA K E w) σ H Q := fun σ H Q q => by
  obtain ⟨c, η, R, x, e1, ok, en, hw, hr, hx⟩ := q
  refine ⟨c, η, _, x, e1, ok, en, hw, fun ds c1 vs hc ok1 l1 rp => ?_, hx⟩
  exact ⟨c1, ds ++ dds, R, x, rfl, ok1, rp.append (hd _ _), hc.1, hc.2, fun d c2 v h2 ok2 l2 r2 => hr d c2 v h2 ok2 (l1.trans l2) r2, hx.le l1⟩
theorem call_up0 {K : PySem.W.Frag} {m : Nat} {C : Ct} {dvs : List V} {dds : List D} {w : WA} (hd : ∀ dr F, RpL K dr F dvs dds) (hC : ∀ x x' ds n R, C x ds n R → C x' ds n R) : ∀ σ H Q, up K E (eCall m C dds w) σ H Q → tCall (spU K m C) dvs E0 (upA K E w) σ H Q := fun σ H Q q => by
  obtain ⟨c, η, R, x, e1, ok, en, hw, hr, hx⟩ := q
  refine ⟨c, η, _, x, e1, ok, en, hw, fun ds c1 vs hc ok1 l1 rp => ?_, hx⟩
  exact ⟨c1, ds ++ dds, R, fun _ _ => False, rfl, ok1, rp.append (hd _ _), hc.1, hC x _ _ _ _ hc.2, fun d c2 v h2 ok2 l2 r2 => hr d c2 v h2 ok2 (l1.trans l2) r2, fun d c' cls od h => h.elim⟩
/-- a contract that speaks of no exception -/
def Calm (C : Ct) : Prop := ∀ x x' ds n R, C x ds n R → C x' ds n R
variable {es : List Expr} {f : Addr} {fd : FuncData} {ps : List Str} {k m : Nat} {C : Ct} {p : Pos} {w : WA} {nm : Str}
theorem q_call (F : FnOk X.prog X.w X.K X.mg X.base CX0 k f fd ps (spU X.K m C)) (hC : Calm C) (hr : Room k X.A) (hg : Gl X nm) (hm : X.mg nm = some (.ref f)) (hk : PySem.W.keepIn X.K (.ref f) = true) (hb : Binds X.K fd ps [])
    (ha : PA X (e :: es) (upA X.K E w)) (hdb : (nm == ("__debug__" : Str)) = false := by decide) (he : starEach (e :: es) X.env = (false, eval e X.env) :: starEach es X.env := by rfl) (hpl : (backTo pos (starEach es X.env)).any (·.1) = false := by rfl) :
    PE X (.Call (.Name nm p) (e :: es) [] pos) (up X.K E (eCall m C [] w)) := pe_to (pe_call F hr hg hm hk hb .nil pass0 ha hdb he hpl) (call_up0 (fun _ _ => .nil) hC)
theorem q_call0 (F : FnOk X.prog X.w X.K X.mg X.base CX0 k f fd ps (spU X.K m C)) (hC : Calm C) (hr : Room k X.A) (hg : Gl X nm) (hm : X.mg nm = some (.ref f)) (hk : PySem.W.keepIn X.K (.ref f) = true) (hb : Binds X.K fd ps [])
    (hdb : (nm == ("__debug__" : Str)) = false := by decide) : PE X (.Call (.Name nm p) [] [] pos) (up X.K E (eCall m C [] aNil)) := pe_to (pe_call0 F hr hg hm hk hb .nil pass0 hdb) fun σ H Q q => by
  obtain ⟨c, η, R, x, e1, ok, en, hw, hr, hx⟩ := q
  exact ⟨c, [], R, fun _ _ => False, e1, ok, .nil, hw.1, hC x _ _ _ _ hw.2, hr, fun d c' cls od h => h.elim⟩
/-- the def's body keeps its contract -/
theorem env_start {K : PySem.W.Frag} {c : Cf} {N : List Str} : ∀ {vs : List V} {ds : List D}, RPL K c vs ds → EnvOk K c (L2.start N vs) (ds.map Sl.dt ++ List.replicate (N.length - ds.length) Sl.un) := fun {vs ds} r => by
  have hl := r.length
  have noow : ∀ (i : Nat) s, (ds.map Sl.dt ++ List.replicate (N.length - ds.length) Sl.un)[i]? = some s → s.isOw = true → False := fun i s h hs => by
    have hm := List.mem_of_getElem? h
    rcases List.mem_append.mp hm with z | z
    · obtain ⟨d, _, e⟩ := List.mem_map.mp z
      subst e
      cases hs
    · have e := (List.mem_replicate.mp z).2
      subst e
      cases hs
  refine ⟨by simp [L2.start, hl], fun i s h => ?_, fun i j s t a h1 _ g1 _ _ _ => (noow i s h1 g1).elim⟩
  by_cases hi : i < ds.length
  · rw [List.getElem?_append_left (by simpa using hi), List.getElem?_map, List.getElem?_eq_getElem hi] at h
    cases h
    obtain ⟨v, hv, rv⟩ := r.get (List.getElem?_eq_getElem hi)
    refine ⟨some v, ?_, v, rfl, rv⟩
    unfold L2.start
    rw [List.getElem?_append_left (by simp; omega), List.getElem?_map, hv]
    rfl
  · rw [List.getElem?_append_right (by simpa using hi)] at h
    have := List.mem_of_getElem? h
    have e := (List.mem_replicate.mp this).2
    subst e
    have hb : i - (ds.map Sl.dt).length < N.length - ds.length := by
      have := (List.getElem?_eq_some_iff.mp h).1
      simpa using this
    refine ⟨none, ?_, trivial⟩
    unfold L2.start
    rw [List.getElem?_append_right (by simp; omega), List.getElem?_replicate]
    simp at hb ⊢
    omega
theorem start_noown {ds : List D} {σ : L2.St} {n : Nat} {a : Addr} (h : Owned σ (ds.map Sl.dt ++ List.replicate n Sl.un) a) : False := by
  obtain ⟨i, s, h1, hs, _⟩ := h
  have hm := List.mem_of_getElem? h1
  rcases List.mem_append.mp hm with z | z
  · obtain ⟨d, _, e⟩ := List.mem_map.mp z
    subst e
    cases hs
  · have e := (List.mem_replicate.mp z).2
    subst e
    cases hs
theorem body_up {K : PySem.W.Frag} {N : List Str} {w : WS} {vs : List V} {H : Hp} {Q : VK} (h : spU K m C vs H Q E) (hw : ∀ x ds n R, ds.length = m → C x ds n R → w x { nx := fun _ n => R .non n, rt := R } (ds.map Sl.dt ++ List.replicate (N.length - m) Sl.un) n) :
    upS K E w { nx := fun _ H' => Q .non H', rt := Q } (L2.start N vs) H := by
  obtain ⟨c, ds, R, x, e1, ok, r, hl, hc, hr, hx⟩ := h
  have en := env_start (N := N) r
  rw [hl] at en
  have le : ∀ {c' : Cf}, LeO (Owned (L2.start N vs) (ds.map Sl.dt ++ List.replicate (N.length - m) Sl.un)) c c' → Le c c' := fun l => ⟨l.dr, l.f, fun a o h1 _ h3 => l.h a o h1 (fun z => start_noown z) h3, fun a o h1 _ h3 h4 => l.fr a o h1 (fun z => start_noown z) h3 h4⟩
  refine ⟨c, _, { nx := fun _ n => R .non n, rt := R }, x, e1, ok, en, hw x ds c.n R hl hc, fun η' c' σ' hn ok' l' _ _ => hr _ c' _ hn ok' (le l') .non, fun d c' v hn ok' l' rp => hr d c' v hn ok' (le l') rp, fun η' c' σ' hn _ _ _ _ => hn.elim, fun η' c' σ' hn _ _ _ _ => hn.elim, fun d c' cls od hxx ok' l' xo => hx d c' cls od hxx ok' (le l') xo⟩
theorem fn_up {P : Program} {wd : World} {K : PySem.W.Frag} {mg : Str → Option Value} {base : Heap} {x qual : Str} {params : Arguments} {body : List Stmt} {scope : Scope} {dvs : List V} {kws : List (Str × V)} {N : List Str} {w : WS}
    (F : FunD K x qual params body scope dvs kws f fd) (S : FnScope N ps scope) (hps : ps.length = m)
    (hb : ∀ (cdv : Value) (A : Around) (outer : List Env) (s : Shared) (H : Hp) (E : XK), Room k (A.deeper (envOfC qual scope s.heap.objs.size f cdv)) → PSs (cxOf CX0 P wd K mg base N qual scope f cdv A outer s H E).nox body (upS K E w))
    (hw : ∀ x ds n R, ds.length = m → C x ds n R → w x { nx := fun _ n => R .non n, rt := R } (ds.map Sl.dt ++ List.replicate (N.length - m) Sl.un) n) : FnOk P wd K mg base CX0 (k + 1) f fd ps (spU K m C) :=
  F.ok S (fun vs H Q E h => (spU_len h).trans hps.symm) fun cdv A outer s H vs Q E hr h => ⟨_, (hb cdv A outer s H E hr).nox, body_up h hw⟩
/-- a def of the module, by its name: what it keeps, how it is called -/
def Fn (P : Program) (wd : World) (K : PySem.W.Frag) (mg : Str → Option Value) (base : Heap) (nm : Str) (ps : List Str) (m k : Nat) (C : Ct) : Prop :=
  ∃ fd, FnOk P wd K mg base CX0 k (He.ga K nm) fd ps (spU K m C) ∧ Binds K fd ps [] ∧ PySem.W.keepIn K (.ref (He.ga K nm)) = true ∧ mg nm = some (.ref (He.ga K nm))
theorem q_f {j : Nat} (F : Fn X.prog X.w X.K X.mg X.base nm ps m j C) (hC : Calm C) (hr : Room k X.A) (hj : j ≤ k) (hg : Gl X nm) (ha : PA X (e :: es) (upA X.K E w)) (hdb : (nm == ("__debug__" : Str)) = false := by decide)
    (he : starEach (e :: es) X.env = (false, eval e X.env) :: starEach es X.env := by rfl) (hpl : (backTo pos (starEach es X.env)).any (·.1) = false := by rfl) : PE X (.Call (.Name nm p) (e :: es) [] pos) (up X.K E (eCall m C [] w)) := by
  obtain ⟨fd, F, b, kp, g⟩ := F
  exact q_call F hC (hr.mono hj) hg g kp b ha hdb he hpl
theorem q_f0 {j : Nat} (F : Fn X.prog X.w X.K X.mg X.base nm ps m j C) (hC : Calm C) (hr : Room k X.A) (hj : j ≤ k) (hg : Gl X nm) (hdb : (nm == ("__debug__" : Str)) = false := by decide) : PE X (.Call (.Name nm p) [] [] pos) (up X.K E (eCall m C [] aNil)) := by
  obtain ⟨fd, F, b, kp, g⟩ := F
  exact q_call0 F hC (hr.mono hj) hg g kp b hdb
/-- a, b = e1, e2 of two plain locals -/
def sPar (i j : Nat) (w : WA) : WS := fun x k η n => w x η n fun ds n1 => match ds with
  | [d, e] => k.nx ((η.set i (.dt d)).set j (.dt e)) n1
  | _ => False
theorem par_up {i j : Nat} {K : PySem.W.Frag} : ∀ D σ H, upS K E (sPar i j w) D σ H → tPar i j (upA K E w) D σ H := fun D σ H q => by
  obtain ⟨c, η, k, x, e1, ok, en, hw, h1, h2, h3, h4, hx⟩ := q
  refine ⟨c, η, _, x, e1, ok, en, hw, fun ds c1 vs hd ok1 l1 rp => ?_, hx.none⟩
  split at hd
  · cases rp with
    | cons r1 t =>
      cases t with
      | cons r2 t =>
        cases t
        refine ⟨_, _, rfl, h1 _ c1 _ hd ok1 (LeO.of l1) (fun a z => .inl (owned_set (owned_set z))) (((en.le l1).set r1).set r2)⟩
  · exact hd.elim
end
end DL
set_option maxHeartbeats 2000000
/-! t[::-1] of a tuple -/
namespace HT
open PySem PySem.Spec PyProof.Rows
section
variable {prog : Program} {w : World} {A : Around} {E : Value → Shared → Prop} {s : Shared}
theorem adjust_rev (n : Nat) : Builtin.Slice.sliceAdjust none none (-1) (n : Int) = ((n : Int) - 1, -1) := by
  unfold Builtin.Slice.sliceAdjust
  simp only [show (-1 : Int) < 0 by decide, if_true]
theorem places_rev (n : Nat) : Builtin.Slice.slicePlaces ((n : Int) - 1) (-1) (-1) = n := by
  unfold Builtin.Slice.slicePlaces
  rw [if_neg (by decide)]
  by_cases h : (n : Int) - 1 > -1
  · rw [if_pos h]
    have e : ((n : Int) - 1 - -1 - 1) / (- -1) = (n : Int) - 1 := by
      rw [show (- -1 : Int) = 1 by decide, Int.ediv_one]
      omega
    rw [e]
    omega
  · rw [if_neg h]
    omega
theorem sliceApplied_rev {sl : Addr} {u : Tok} {n : Nat} {Q : Int × Int × Nat → Shared → Prop} (hs : s.heap.IsSliceOf sl .none .none (.int (-1) u)) (h : Q ((n : Int) - 1, -1, n) s) : wpAny (model prog w) A (Builtin.Slice.sliceApplied (.ref sl) (pure (n : Int))) Q E s := by
  obtain ⟨os, hos, hcs, hds⟩ := id hs
  unfold Builtin.Slice.sliceApplied Builtin.Slice.sliceFields
  refine wpAny_bind (wpAny_bind (wpAny_field hos hds (x := .none) rfl (wpAny_bind (wpAny_field hos hds (x := .none) rfl (wpAny_bind (wpAny_field hos hds (x := .int (-1) u) rfl (wpAny_pure ?_)))))))
  refine wpAny_bind (slicePart_int ?_)
  show wpAny _ _ (if ((-1 : Int) == 0) = true then _ else _) _ _ s
  rw [if_neg (by decide)]
  refine wpAny_bind (slicePart_none (wpAny_bind (slicePart_none (wpAny_bind (wpAny_pure ?_)))))
  show wpAny _ _ (match Builtin.Slice.sliceAdjust none none (-1) (n : Int) with | (lo, hi) => pure (lo, (-1 : Int), Builtin.Slice.slicePlaces lo hi (-1))) _ _ s
  rw [adjust_rev n]
  show wpAny _ _ (pure ((n : Int) - 1, (-1 : Int), Builtin.Slice.slicePlaces ((n : Int) - 1) (-1) (-1))) _ _ s
  rw [places_rev]
  exact wpAny_pure h
theorem pick_rev (xs : Array Value) : ((List.range xs.size).filterMap fun (m : Nat) => xs[(((xs.size : Int) - 1) + (m : Int) * (-1)).toNat]?).toArray = xs.toList.reverse.toArray := by
  have e : (List.range xs.size).filterMap (fun (m : Nat) => xs[(((xs.size : Int) - 1) + (m : Int) * (-1)).toNat]?) = ((List.range xs.size).map fun k => xs.size - 1 - k).filterMap (xs[·]?) := by
    rw [List.filterMap_map]
    congr 1
    funext m
    show xs[(((xs.size : Int) - 1) + (m : Int) * (-1)).toNat]? = xs[xs.size - 1 - m]?
    congr 1
    omega
  rw [e, PySem.W.krv_range, List.filterMap_reverse, PySem.W.krv_all]
theorem getItem_tuple_rev {t sl : Addr} {items : Array Value} {u : Tok} {Q : Value → Shared → Prop} (ht : IsTup s.heap t items) (hs : s.heap.IsSliceOf sl .none .none (.int (-1) u))
    (h : Q (.ref s.heap.objs.size) { s with heap := s.heap.push { cls := .type "tuple", data := .seq items.toList.reverse.toArray } })
    (hsz : items.size ≤ sizeLine) : wpAny (model prog w) A (getItem (.ref t) (.ref sl)) Q E s := by
  have htake : sizeOk (.seq items.toList.reverse.toArray) := by
    show items.toList.reverse.toArray.size ≤ sizeLine
    rw [List.size_toArray, List.length_reverse, Array.length_toList]
    exact hsz
  obtain ⟨os, hos, hcs, hds⟩ := id hs
  have hTs : s.TypeIs (.ref sl) "slice" := ⟨os, hos, hcs⟩
  unfold getItem
  try with_reducible refine wpAny_holding ?_
  first | refine wpAny_bind (wpAny_pure ?_) | skip
  refine wpAny_bind (wpAny_sequenceKey ht.typeIs (by decide) ?_)
  refine wpAny_bind (wpAny_callSpecial?_slot (name := Str.ofString "__getitem__") ht.typeIs PyProof.Rows.slot_tuple_getitem
    (wpAny_call_entry PyProof.Rows.slot_tuple_getitem ht.typeIs entry_tuple_getitem ?_ (args_tuple_getitem _ _)))
  show wpAny _ _ (Builtin.Tuple.tupleItemsOf (.ref t) >>= _) _ _ s
  refine wpAny_bind (tupleItemsOf_ ht ?_)
  refine wpAny_bind (wpAny_typeOf hTs ?_)
  rw [if_pos (by decide)]
  refine wpAny_bind (sliceApplied_rev (n := items.size) hs ?_)
  have hno : ¬ ((((items.size : Int) - 1) == 0 && (-1 : Int) == 1 && items.size == items.size) = true) := by
    intro q
    rw [Bool.and_eq_true, Bool.and_eq_true] at q
    exact absurd (eq_of_beq q.1.2) (by decide)
  show wpAny _ _ (if (((items.size : Int) - 1) == 0 && (-1 : Int) == 1 && items.size == items.size) = true then _ else _) _ _ s
  rw [if_neg hno, pick_rev]
  first
    | exact wpAny_bind (m := Builtin.Tuple.tupleExact _) (wpAny_newObj_type (wpAny_pure ⟨_, rfl, wpAny_pure h⟩) htake)
    | exact wpAny_bind (m := Builtin.Tuple.tupleExact _) (wpAny_newObj_type (wpAny_bind (wpAny_pure (wpAny_pure ⟨_, rfl, wpAny_pure h⟩))) htake)
    | exact wpAny_bind (wpAny_bind (m := Builtin.Tuple.tupleExact _) (wpAny_newObj_type (wpAny_pure (wpAny_pure ⟨_, rfl, wpAny_pure h⟩)) htake))
    | exact wpAny_bind (wpAny_bind (m := Builtin.Tuple.tupleExact _) (wpAny_newObj_type (wpAny_pure ⟨_, rfl, wpAny_pure h⟩) htake))
end
end HT
namespace DL
open PySem PySem.Spec PyProof.Rows L2
section
variable {X : Cx} {E : XK} {pos : Pos} {e : Expr}
/-- x[::-1] of a list, of a tuple -/
def tRevA (K : PySem.W.Frag) (te : TE) : TE := fun σ H Q => te σ H fun x H1 => ∃ a xs, x = .ref a ∧ ((SqL K H1 a xs ∧ ∀ p, H1 p = none → Q (.ref p) (upd H1 p (.lst xs.reverse))) ∨ (SqT K H1 a xs ∧ ∀ p, H1 p = none → Q (.ref p) (upd H1 p (.tup xs.reverse))))
theorem pe_revA {te : TE} {k : Nat} {p1 p2 p3 : Pos} (he : PE X e te) : PE X (.Subscript e (.Slice none none (some (.UnaryOp .USub (.Constant (.int 1) k p1) p2)) p3) pos) (tRevA X.K te) := by
  refine ⟨fun pins s σ H Q I h => ?_⟩
  refine Subscript_ (thn (he.run pins s σ H _ I h) fun v s1 ⟨x, H1, I1, r1, q1⟩ => ?_)
  obtain ⟨a, xs, ex, q⟩ := q1
  subst ex
  cases r1
  have hst : PO X (some (.UnaryOp .USub (.Constant (.int 1) k p1) p2)) (tPart (tUn (rU fun i => .int (-i)) (tC (.int 1)))) := po_some (pe_un un_neg pe_int)
  refine wpAny_Slice (thn (po_none.run pins s1 σ H1 (fun o H2 => o = none ∧ H2 = H1) I1 ⟨rfl, rfl⟩) fun vl s2 ⟨l, H2, I2, pl, el, e2⟩ => ?_)
  subst el e2
  refine thn (po_none.run pins s2 σ H2 (fun o H3 => o = none ∧ H3 = H2) I2 ⟨rfl, rfl⟩) fun vu s3 ⟨u, H3, I3, pu, eu, e3⟩ => ?_
  subst eu e3
  refine thn (hst.run pins s3 σ H3 (fun o H4 => o = some (-1) ∧ H4 = H3) I3 ⟨1, rfl, -1, rfl, rfl, rfl⟩) fun vs s4 ⟨o, H4, I4, ps, eo, e4⟩ => ?_
  subst eo e4
  have I5 : Inv X pins σ H4 { s4 with heap := s4.heap.push { cls := .type "slice", data := .fields #[vl, vu, vs] } } := I4.kept (t' := s4.toks) fun b ob q => Heap.get?_push_of_some _ q
  show wpAny (model X.prog X.w) X.A (subscriptTail e (.Slice none none (some (.UnaryOp .USub (.Constant (.int 1) k p1) p2)) p3) (.ref a) (.ref s4.heap.objs.size)) (EP X pins σ Q) X.xe { s4 with heap := s4.heap.push { cls := .type "slice", data := .fields #[vl, vu, vs] } }
  rcases q with ⟨hx, q⟩ | ⟨hx, q⟩
  · obtain ⟨its, r, ht, hz⟩ := I5.list hx
    have hlen := r.length
    refine tail_any (ops := [.ref a, .ref s4.heap.objs.size]) ht.isList.typeIs (PySem.slot_list_getitem.lookup) ?_ (by with_unfolding_all rfl)
    refine wpAny_getItem_list_slice ht.isList (Heap.IsSliceOf.new _ vl vu vs) pl pu ps (by decide) ?_ (by rw [List.size_toArray]; omega)
    rw [PySem.W.krv_pick]
    refine ⟨.ref _, _, I5.laid (t' := s4.toks) (o := .lst xs.reverse) (fun b ob q => Heap.get?_push_of_some _ q) (Nat.le_refl _) ?_, rfl, q _ (I5.hok.fresh (Nat.le_refl _))⟩
    exact ⟨by rw [List.length_reverse]; exact hz, _, 0, r.reverse, Heap.get?_push_size _ rfl⟩
  · obtain ⟨its, r, ht, hz⟩ := I5.tuple hx
    have hlen := r.length
    cases pl
    cases pu
    cases ps
    refine tail_any (ops := [.ref a, .ref s4.heap.objs.size]) ht.typeIs (PyProof.Rows.slot_tuple_getitem.lookup) ?_ (by with_unfolding_all rfl)
    refine HT.getItem_tuple_rev ht (Heap.IsSliceOf.new _ _ _ _) ?_ (by rw [List.size_toArray]; omega)
    refine ⟨.ref _, _, I5.laid (t' := s4.toks) (o := .tup xs.reverse) (fun b ob q => Heap.get?_push_of_some _ q) (Nat.le_refl _) ?_, rfl, q _ (I5.hok.fresh (Nat.le_refl _))⟩
    exact ⟨by rw [List.length_reverse]; exact hz, _, r.reverse, IsTup.new _ _⟩
def eRev (w : WE) : WE := fun x η n R => w x η n fun d n1 => match d with
  | .lst xs => R (.lst xs.reverse) n1
  | .tup xs => R (.tup xs.reverse) n1
  | _ => False
theorem q_rev {w : WE} {k : Nat} {p1 p2 p3 : Pos} (he : PE X e (upB X.K E w)) : PE X (.Subscript e (.Slice none none (some (.UnaryOp .USub (.Constant (.int 1) k p1) p2)) p3) pos) (up X.K E (eRev w)) := pe_to (pe_revA he) fun σ H Q q => by
  obtain ⟨c, η, R, x, e1, ok, en, hw, hr, hx⟩ := q
  refine ⟨c, η, _, x, e1, ok, en, hw, fun d c1 v hd ok1 l1 rp => ?_, hx⟩
  cases d <;> first | exact hd.elim | skip
  · obtain ⟨p, vs, rfl, _, e, r⟩ := rp.tup ok1
    exact ⟨p, vs, rfl, .inr ⟨.of e, fun t ht => rp_new_tup (k := fun d => R d c1.n) ok1 ht r.rev hd fun d c' z hk hn ok' l' rp => hr d c' z (by rw [hn]; exact hk) ok' (l1.trans l') rp⟩⟩
  · obtain ⟨p, vs, rfl, e, r⟩ := rp.lst ok1
    exact ⟨p, vs, rfl, .inl ⟨.of e, fun t ht => rp_new_lst (k := fun d => R d c1.n) ok1 ht r.rev hd fun d c' z hk hn ok' l' rp => hr d c' z (by rw [hn]; exact hk) ok' (l1.trans l') rp⟩⟩
/-- module constants -/
theorem q_gi {x : Str} {i : Int} (hg : Gl X x) (hm : ∃ t, X.mg x = some (.int i t)) (hd : (x == ("__debug__" : Str)) = false := by decide) : PE X (.Name x pos) (up X.K E (eC (.int i))) := by
  obtain ⟨t, hm⟩ := hm
  exact q_c (pe_glob (v := .int i) hg hm ⟨t, rfl⟩ hd) fun _ _ => .int i
theorem q_gs {x z : Str} (hg : Gl X x) (hm : ∃ t, X.mg x = some (.str z t)) (hd : (x == ("__debug__" : Str)) = false := by decide) : PE X (.Name x pos) (up X.K E (eC (.str z))) := by
  obtain ⟨t, hm⟩ := hm
  exact q_c (pe_glob (v := .str z) hg hm ⟨t, rfl⟩ hd) fun _ _ => .str z
/-- a, b = .. (two plain locals) -/
theorem qs_par {i j : Nat} {x y : Str} {a b : Expr} {w : WA} {px py pt : Pos} {kt k2 pt2} (hc : X.calm = true) (hN : X.N.Nodup) (hi : X.N[i]? = some x) (hj : X.N[j]? = some y) (hij : i ≠ j)
    (hx : X.env.scope.names.lookup x = some .local) (hy : X.env.scope.names.lookup y = some .local) (ha : PA X [a, b] (upA X.K E w))
    (hw : swappedStores [.Tuple [.Name x px, .Name y py] kt pt] (.Tuple [a, b] k2 pt2) X.env = pure (some [x, y]))
    (hs : swapsWithSole [.Tuple [.Name x px, .Name y py] kt pt] (.Tuple [a, b] k2 pt2) pos.line X.env = pure false := by rfl) :
    PS X (.Assign [.Tuple [.Name x px, .Name y py] kt pt] (.Tuple [a, b] k2 pt2) pos) (upS X.K E (sPar i j w)) := ps_to (ps_par hc hN hi hj hij hx hy ha hw hs) par_up
end
end DL
set_option maxHeartbeats 2000000
namespace DL
open PySem PySem.Spec PyProof.Rows L2

/-! ### fields -/
def putN {α : Type} (f : Str) (d : α) : List Str → List α → List Str × List α
  | g :: ns, x :: fs => if g = f then (g :: ns, d :: fs) else let r := putN f d ns fs; (g :: r.1, x :: r.2)
  | _, _ => ([f], [d])
def lkN {α : Type} (f : Str) : List Str → List α → Option α
  | g :: ns, x :: fs => if g = f then some x else lkN f ns fs
  | _, _ => none
theorem putF_zip (f : Str) (v : V) : ∀ (ns : List Str) (vs : List V), ns.length = vs.length → putF f v (ns.zip vs) = (putN f v ns vs).1.zip (putN f v ns vs).2 ∧ (putN f v ns vs).1.length = (putN f v ns vs).2.length ∧ (putN f v ns vs).1.length ≤ ns.length + 1
  | [], [], _ => ⟨rfl, rfl, Nat.le_refl _⟩
  | g :: ns, x :: vs, h => by
    obtain ⟨i1, i2, i3⟩ := putF_zip f v ns vs (by simpa using h)
    show (if g = f then (g, v) :: ns.zip vs else (g, x) :: putF f v (ns.zip vs)) = _ ∧ _
    by_cases hg : g = f
    · simp only [putN, if_pos hg]
      exact ⟨rfl, by simpa using h, by simp⟩
    · simp only [putN, if_neg hg]
      refine ⟨by rw [i1]; rfl, by simpa using i2, ?_⟩
      show (putN f v ns vs).1.length + 1 ≤ _
      simp only [List.length_cons]
      omega
  | [], _ :: _, h => by cases h
  | _ :: _, [], h => by cases h
theorem putN_rpl {K : PySem.W.Frag} {dr : Addr} {F : Hp} {f : Str} {v : V} {d : D} (r : Rp K dr F v d) : ∀ (ns : List Str) (vs : List V) (ds : List D), RpL K dr F vs ds → (putN f v ns vs).1 = (putN f d ns ds).1 ∧ RpL K dr F (putN f v ns vs).2 (putN f d ns ds).2
  | [], _, _, q => by
    cases q <;> exact ⟨rfl, .cons r .nil⟩
  | g :: ns, _, _, q => by
    cases q with
    | nil => exact ⟨rfl, .cons r .nil⟩
    | cons r1 t =>
      obtain ⟨i1, i2⟩ := putN_rpl r ns _ _ t
      by_cases hg : g = f
      · simp only [putN, if_pos hg]
        exact ⟨trivial, .cons r t⟩
      · simp only [putN, if_neg hg]
        exact ⟨by rw [i1], .cons r1 i2⟩
theorem lkN_rpl {K : PySem.W.Frag} {dr : Addr} {F : Hp} {f : Str} {d : D} : ∀ (ns : List Str) (vs : List V) (ds : List D), RpL K dr F vs ds → ns.length = vs.length → lkN f ns ds = some d → ∃ v, (ns.zip vs).lookup f = some v ∧ Rp K dr F v d
  | [], _, _, _, _, h => by cases h
  | g :: ns, _, _, q, hl, h => by
    cases q with
    | nil => cases h
    | cons r1 t =>
      rename_i v0 vs0 d0 ds0
      have h' : (if g = f then some d0 else lkN f ns ds0) = some d := h
      show ∃ v, List.lookup f ((g, v0) :: ns.zip vs0) = some v ∧ _
      by_cases hg : g = f
      · rw [if_pos hg] at h'
        cases h'
        have hb : (f == g) = true := beq_iff_eq.mpr hg.symm
        exact ⟨v0, by simp only [List.lookup, hb], r1⟩
      · rw [if_neg hg] at h'
        obtain ⟨v, e, r⟩ := lkN_rpl ns vs0 ds0 t (by simpa using hl) h'
        have hb : (f == g) = false := beq_eq_false_iff_ne.mpr (fun z => hg z.symm)
        exact ⟨v, by simp only [List.lookup, hb]; exact e, r⟩
section
variable {X : Cx} {E : XK} {pos : Pos} {e e2 : Expr} {es : List Expr}
/-- what of the text a class must have -/
structure CF (K : PySem.W.Frag) (cn : Str) (fs : List Str) : Prop where
  cls : Cls K (He.ga K cn)
  no : ∀ f ∈ fs, NoAttr K (He.ga K cn) f
def fldS (cn f : Str) : Option Sl → (D → Prop) → Prop
  | some (.dt (.ins c ns fs)), k => c = cn ∧ ∃ y, lkN f ns fs = some y ∧ k y
  | some (.ob _ c ns fs), k => c = cn ∧ ∃ y, lkN f ns fs = some y ∧ k y
  | _, _ => False
/-- self.f by the slot -/
def eFldV (cn : Str) (i : Nat) (f : Str) : WE := fun _ η n R => fldS cn f η[i]? fun y => R y n
theorem q_fldV {y : Str} {npos : Pos} {cn f : Str} {i : Nat} {fl : List Str} (c : CF X.K cn fl) (hf : f ∈ fl) (hv : PE X (.Name y npos) (tVar i)) (hb : attributeBase (.Name y npos) f X.env (eval (.Name y npos) X.env) = eval (.Name y npos) X.env := by rfl) :
    PE X (.Attribute (.Name y npos) f pos) (up X.K E (eFldV cn i f)) := pe_to (pe_fld hv hb) fun σ H Q q => by
  obtain ⟨cf, η, R, x, e1, ok, en, hw, hr, hx⟩ := q
  have hw : fldS cn f η[i]? fun y => R y cf.n := hw
  cases hs : η[i]? with
  | none =>
    rw [hs] at hw
    exact hw.elim
  | some s =>
    rw [hs] at hw
    cases s with
    | un => exact hw.elim
    | ow _ => exact hw.elim
    | dt d =>
      cases d <;> first | exact hw.elim | skip
      obtain ⟨rfl, y, hy, hk⟩ := hw
      obtain ⟨v, e2, rp⟩ := en.dt hs
      cases rp with
      | ins f1 l1 r1 =>
        obtain ⟨u, hu, ru⟩ := lkN_rpl _ _ _ r1 l1 hy
        refine ⟨_, e2, _, _, _, _, u, rfl, (by rw [← e1]; exact ok.sub _ _ f1), c.cls, c.no f hf, hu, ?_⟩
        rw [← e1]
        exact hr y cf u hk ok .refl ru
    | ob p c' ns fs =>
      obtain ⟨rfl, y, hy, hk⟩ := hw
      obtain ⟨dx, vs, e2, h1, h2, h3, h4, rp⟩ := en.ob hs
      obtain ⟨u, hu, ru⟩ := lkN_rpl _ _ _ rp h4 hy
      refine ⟨_, e2, _, _, _, _, u, rfl, (by rw [← e1]; exact h1), c.cls, c.no f hf, hu, ?_⟩
      rw [← e1]
      exact hr y cf u hk ok .refl ru
/-- e.f, a frozen instance -/
def eFld (cn f : Str) (w : WE) : WE := fun x η n R => w x η n fun d n1 => match d with
  | .ins c ns fs => c = cn ∧ ∃ y, lkN f ns fs = some y ∧ R y n1
  | _ => False
theorem q_fld {cn f : Str} {fl : List Str} {w : WE} (c : CF X.K cn fl) (hf : f ∈ fl) (he : PE X e (up X.K E w)) (hb : attributeBase e f X.env (eval e X.env) = eval e X.env := by rfl) : PE X (.Attribute e f pos) (up X.K E (eFld cn f w)) := pe_to (pe_fld he hb) fun σ H Q q => by
  obtain ⟨cf, η, R, x, e1, ok, en, hw, hr, hx⟩ := q
  refine ⟨cf, η, _, x, e1, ok, en, hw, fun d c1 v hd ok1 l1 rp => ?_, hx⟩
  cases rp <;> first | exact hd.elim | skip
  rename_i f1 l2 r1
  obtain ⟨rfl, y, hy, hk⟩ := hd
  obtain ⟨u, hu, ru⟩ := lkN_rpl _ _ _ r1 l2 hy
  exact ⟨_, _, _, _, u, rfl, ok1.sub _ _ f1, c.cls, c.no f hf, hu, hr y c1 u hk ok1 l1 ru⟩
/-- self.f = e, self under way -/
def obS (cn : Str) : Option Sl → (Addr → List Str → List D → Prop) → Prop
  | some (.ob p c ns fs), k => c = cn ∧ k p ns fs
  | _, _ => False
def sPutF (cn : Str) (i : Nat) (f : Str) (w : WE) : WS := fun x k η n => w x η n fun d n1 => obS cn η[i]? fun p ns fs => ns.length < 900 ∧ k.nx (η.set i (.ob p cn (putN f d ns fs).1 (putN f d ns fs).2)) n1
theorem qs_putF {y : Str} {npos apos : Pos} {cn f : Str} {i : Nat} {fl : List Str} {w : WE} (c : CF X.K cn fl) (hf : f ∈ fl) (hv : PE X (.Name y npos) (tVar i)) (he : PE X e (up X.K E w)) (hs : swapsWith e (some (.Attribute (.Name y npos) f apos)) pos.line X.env = pure false := by rfl) :
    PS X (.Assign [.Attribute (.Name y npos) f apos] e pos) (upS X.K E (sPutF cn i f w)) := ps_to (ps_fld hv he hs) fun D σ H q => by
  obtain ⟨cf, η, k, x, e1, ok, en, hw, h1, h2, h3, h4, hx⟩ := q
  refine ⟨cf, η, _, x, e1, ok, en, hw, fun d c1 v hd ok1 l1 rp => ?_, hx.none⟩
  have en1 := en.le l1
  cases hs : η[i]? with
  | none =>
    rw [hs] at hd
    exact hd.elim
  | some s =>
    rw [hs] at hd
    cases s with
    | un => exact hd.elim
    | ow _ => exact hd.elim
    | dt _ => exact hd.elim
    | ob p c' ns fs =>
      obtain ⟨rfl, hn, hk⟩ := hd
      obtain ⟨dx, vs, e2, g1, g2, g3, g4, rpx⟩ := en1.ob hs
      obtain ⟨z1, z2, z3⟩ := putF_zip f v ns vs g4
      obtain ⟨z4, z5⟩ := putN_rpl (f := f) rp ns vs fs rpx
      refine ⟨_, e2, p, _, dx, _, rfl, g1, c.cls, c.no f hf, ?_, ?_⟩
      · rw [List.length_zip]
        omega
      · rw [z1]
        have r' : SlOk X.K ⟨c1.dr, c1.F, upd c1.H p (.ins (He.ga X.K c') dx ((putN f v ns vs).1.zip (putN f v ns vs).2)), c1.n⟩ (some (.ref p)) (.ob p c' (putN f d ns fs).1 (putN f d ns fs).2) := by
          refine ⟨dx, (putN f v ns vs).2, rfl, ?_, g2, g3, by rw [← z4]; exact z2, z5⟩
          rw [← z4]
          exact upd_same
        obtain ⟨ok2, l2, en2, ho2⟩ := own_putO ok1 en1 hs rfl e2 g2 g3 r'
        exact h1 _ ⟨c1.dr, c1.F, upd c1.H p (.ins (He.ga X.K c') dx ((putN f v ns vs).1.zip (putN f v ns vs).2)), c1.n⟩ σ hk ok2 (LeO.trans (LeO.of l1) l2 own_refl) (fun a z => .inl (ho2 a z)) en2

/-! ### a new instance -/
abbrev Ci := Xn → List D → Nat → (List Str → List D → Nat → Prop) → Prop
def spI (K : PySem.W.Frag) (cn : Str) (m : Nat) (C : Ci) : Sp := fun vs H Q E => ∃ c p dx us ds R x, vs = .ref p :: us ∧ c.H = H ∧ c.Ok ∧ c.H p = some (.ins (He.ga K cn) dx []) ∧ c.F p = none ∧ p ≠ c.dr ∧ RPL K c us ds ∧ ds.length = m ∧ C x ds c.n R ∧
  (∀ ns fs c' vs', R ns fs c'.n → c'.Ok → LeO (fun a => a = p) c c' → (∃ dx', c'.H p = some (.ins (He.ga K cn) dx' (ns.zip vs'))) → c'.F p = none → ns.length = vs'.length → RPL K c' vs' fs → Q .non c'.H) ∧ XW K E x (fun a => a = p) c
theorem spI_len {K : PySem.W.Frag} {cn : Str} {m : Nat} {C : Ci} {vs : List V} {H : Hp} {Q : VK} {E : XK} (h : spI K cn m C vs H Q E) : vs.length = m + 1 := by
  obtain ⟨c, p, dx, us, ds, R, x, rfl, _, _, _, _, _, r, hl, _⟩ := h
  show us.length + 1 = m + 1
  rw [r.length, hl]
def eMake (cn : Str) (m : Nat) (C : Ci) (dds : List D) (w : WA) : WE := fun x η n R => w x η n fun ds n1 => (ds ++ dds).length = m ∧ C x (ds ++ dds) n1 fun ns fs n2 => R (.ins cn ns fs) n2
theorem make_at {K : PySem.W.Frag} {cn : Str} {m : Nat} {C : Ci} {c c1 : Cf} {ds : List D} {us : List V} {R : D → Nat → Prop} {x : Xn} {Q : VK} {E' : XK} (l1 : Le c c1) (ok1 : c1.Ok) (rp : RPL K c1 us ds) (hl : ds.length = m) (hC : C x ds c1.n fun ns fs n2 => R (.ins cn ns fs) n2)
    (hr : ∀ d c' v, R d c'.n → c'.Ok → Le c c' → RP K c' v d → Q v c'.H) (hx : XW K E' x (fun _ => False) c) : ∀ p dx, c1.H p = none → c1.H dx = none → dx ≠ p → spI K cn m C (.ref p :: us) (upd (upd c1.H dx (.own p)) p (.ins (He.ga K cn) dx [])) (fun v H2 => v = .non ∧ Q (.ref p) H2) E' := fun p dx hp hdx hne => by
  obtain ⟨okA, lA, fA, dA⟩ := ok1.newH (o := .own p) hdx
  have hp2 : (⟨c1.dr, c1.F, upd c1.H dx (.own p), c1.n⟩ : Cf).H p = none := by
    show upd c1.H dx (.own p) p = none
    rw [upd_ne (Ne.symm hne)]
    exact hp
  obtain ⟨okB, lB, fB, dB⟩ := okA.newH (o := .ins (He.ga K cn) dx []) hp2
  have lAB := lA.trans lB
  have hp0 : c.H p = none := by
    cases q : c.H p with
    | none => rfl
    | some o =>
      rw [l1.h p o (by rw [← l1.dr]; exact dB) (fun z => z) q] at hp
      cases hp
  refine ⟨⟨c1.dr, c1.F, upd (upd c1.H dx (.own p)) p (.ins (He.ga K cn) dx []), c1.n⟩, p, dx, us, ds, _, x, rfl, rfl, okB, upd_same, fB, dB, lAB.rpl rp, hl, hC, fun ns fs c2 vs' hR ok2 l2 ⟨dx', h2⟩ f2 hl2 rp2 => ⟨rfl, ?_⟩, fun d c2 cls od hd ok2 l2 xo => ?_⟩
  · have hd2 : p ≠ c2.dr := by
      rw [l2.dr]
      exact dB
    obtain ⟨ok3, l3⟩ := ok2.frz h2 f2 hd2
    refine hr _ ⟨c2.dr, upd c2.F p (.ins (He.ga K cn) dx' (ns.zip vs')), c2.H, c2.n⟩ _ hR ok3 ?_ (.ins upd_same hl2 (l3.rpl rp2))
    have lx : LeO (fun a => a = p) c c2 := (l1.trans lAB).thnO l2
    refine ⟨lx.dr, fun a o q => l3.f a o (lx.f a o q), fun a o q1 q2 q3 => lx.h a o q1 (fun z => ?_) q3, fun a o q1 q2 q3 q4 => ?_⟩
    · rw [z, hp0] at q3
      cases q3
    · have nap : a ≠ p := fun z => by
        rw [z, hp0] at q4
        cases q4
      show upd c2.F p _ a = none
      rw [upd_ne nap]
      exact lx.fr a o q1 nap q3 q4
  · have lx : LeO (fun a => a = p) c c2 := (l1.trans lAB).thnO l2
    refine hx d c2 cls od hd ok2 ⟨lx.dr, lx.f, fun a o q1 _ q3 => lx.h a o q1 (fun z => ?_) q3, fun a o q1 _ q3 q4 => lx.fr a o q1 (fun z => ?_) q3 q4⟩ xo
    · rw [z, hp0] at q3
      cases q3
    · rw [z, hp0] at q4
      cases q4
def CalmI (C : Ci) : Prop := ∀ x x' ds n R, C x ds n R → C x' ds n R
/-- a class of the module: its maker, the init's contract, positional arguments and defaults dds -/
def Mkr (P : Program) (wd : World) (K : PySem.W.Frag) (mg : Str → Option Value) (base : Heap) (cn : Str) (ps : List Str) (m k : Nat) (C : Ci) (dds : List D) : Prop :=
  ∃ f fd ds dvs, L2.Mk K (He.ga K cn) f ∧ FnOk P wd K mg base CX0 k f fd ps (spI K cn m C) ∧ Binds K fd ps ds ∧ Vals dvs ds ∧ (∀ dr F, RpL K dr F dvs dds) ∧ mg cn = some (.ref (He.ga K cn))
theorem q_mk {cn : Str} {ps : List Str} {m k j : Nat} {C : Ci} {dds : List D} {w : WA} {p : Pos} (M : Mkr X.prog X.w X.K X.mg X.base cn ps m j C dds) (hC : CalmI C) (hr : Room k X.A) (hj : j + 1 ≤ k) (hg : Gl X cn) (ha : PA X (e :: es) (upA X.K E w)) (hdb : (cn == ("__debug__" : Str)) = false := by decide)
    (he : starEach (e :: es) X.env = (false, eval e X.env) :: starEach es X.env := by rfl) (hpl : (backTo pos (starEach es X.env)).any (·.1) = false := by rfl) : PE X (.Call (.Name cn p) (e :: es) [] pos) (up X.K E (eMake cn m C dds w)) := by
  obtain ⟨f, fd, ds, dvs, mk, F, b, hd, hrp, g⟩ := M
  refine pe_to (pe_make mk F (hr.mono hj) hg g b hd pass0 ha hdb he hpl) fun σ H Q q => ?_
  obtain ⟨c, η, R, x, e1, ok, en, hw, hr, hx⟩ := q
  refine ⟨c, η, _, x, e1, ok, en, hw, fun ds c1 vs hc ok1 l1 rp => ?_, hx⟩
  exact make_at (x := fun _ _ => False) l1 ok1 (rp.append (hrp _ _)) hc.1 (hC _ _ _ _ _ hc.2) hr fun d c' cls od h => h.elim
/-- the init's body keeps its contract -/
theorem init_up {K : PySem.W.Frag} {cn : Str} {m : Nat} {C : Ci} {N : List Str} {w : WS} {vs : List V} {H : Hp} {Q : VK} (hN : m + 1 ≤ N.length) (h : spI K cn m C vs H Q E)
    (hw : ∀ p x ds n R, ds.length = m → C x ds n R → w x { nx := fun η n => obS cn η[0]? fun p' ns fs => p' = p ∧ R ns fs n, rt := fun _ _ => False } (.ob p cn [] [] :: (ds.map Sl.dt ++ List.replicate (N.length - (m + 1)) Sl.un)) n) :
    upS K E w { nx := fun _ H' => Q .non H', rt := Q } (L2.start N vs) H := by
  obtain ⟨c, p, dx, us, ds, R, x, rfl, e1, ok, hp, hF, hd, r, hl, hc, hr, hx⟩ := h
  have enu : EnvOk K c (L2.start N (.ref p :: us)) (Sl.un :: (ds.map Sl.dt ++ List.replicate (N.length - (m + 1)) Sl.un)) := by
    obtain ⟨n0, N', rfl⟩ : ∃ n0 N', N = n0 :: N' := by
      cases N with
      | nil => simp at hN
      | cons a b => exact ⟨a, b, rfl⟩
    have en := env_start (K := K) (c := c) (N := N') r
    rw [hl] at en
    have el : (n0 :: N').length - (m + 1) = N'.length - m := by simp
    rw [el]
    have es : L2.start (n0 :: N') (.ref p :: us) = some (.ref p) :: L2.start N' us := by
      unfold L2.start
      simp
    rw [es]
    refine ⟨by simp [en.len], fun i s h => ?_, fun i j s t a h1 h2 g1 g2 h3 h4 => ?_⟩
    · cases i with
      | zero =>
        simp at h
        subst h
        exact ⟨_, rfl, trivial⟩
      | succ i => exact en.sl i s (by simpa using h)
    · cases i with
      | zero =>
        simp at h1
        subst h1
        cases g1
      | succ i =>
        cases j with
        | zero =>
          simp at h2
          subst h2
          cases g2
        | succ j => exact congrArg Nat.succ (en.inj i j s t a (by simpa using h1) (by simpa using h2) g1 g2 (by simpa using h3) (by simpa using h4))
  have noow : ∀ a, Owned (L2.start N (.ref p :: us)) (Sl.un :: (ds.map Sl.dt ++ List.replicate (N.length - (m + 1)) Sl.un)) a → False := fun a ⟨i, s, h1, h2, h3⟩ => by
    cases i with
    | zero =>
      simp at h1
      subst h1
      cases h2
    | succ i => exact start_noown (σ := (L2.start N (.ref p :: us)).tail) ⟨i, s, by simpa using h1, h2, by
        cases hs : L2.start N (.ref p :: us) with
        | nil =>
          rw [hs] at h3
          simp at h3
        | cons a b =>
          rw [hs] at h3
          simpa using h3⟩
  have h0 : (L2.start N (.ref p :: us))[0]? = some (some (V.ref p)) := by
    unfold L2.start
    rfl
  have en : EnvOk K c (L2.start N (.ref p :: us)) (Sl.ob p cn [] [] :: (ds.map Sl.dt ++ List.replicate (N.length - (m + 1)) Sl.un)) := by
    have z := enu.own (i := 0) (p := p) (s0 := .ob p cn [] []) (fun j t _ q1 q2 q3 => noow p ⟨j, t, q1, q2, q3⟩) ⟨dx, [], rfl, hp, hF, hd, rfl, .nil⟩
    have e2 : (L2.start N (.ref p :: us)).set 0 (some (.ref p)) = L2.start N (.ref p :: us) := by
      cases hs : L2.start N (.ref p :: us) with
      | nil => rfl
      | cons a b =>
        rw [hs] at h0
        simp at h0
        rw [h0]
        rfl
    rw [e2] at z
    exact z
  have how : ∀ a, Owned (L2.start N (.ref p :: us)) (Sl.ob p cn [] [] :: (ds.map Sl.dt ++ List.replicate (N.length - (m + 1)) Sl.un)) a → a = p := fun a ⟨i, s, h1, h2, h3⟩ => by
    cases i with
    | zero =>
      rw [h0] at h3
      cases h3
      rfl
    | succ i => exact (noow a ⟨i + 1, s, by simpa using h1, h2, h3⟩).elim
  have le : ∀ {c' : Cf}, LeO (Owned (L2.start N (.ref p :: us)) (Sl.ob p cn [] [] :: (ds.map Sl.dt ++ List.replicate (N.length - (m + 1)) Sl.un))) c c' → LeO (fun a => a = p) c c' := fun l => ⟨l.dr, l.f, fun a o h1 h2 h3 => l.h a o h1 (fun z => h2 (how a z)) h3, fun a o h1 h2 h3 h4 => l.fr a o h1 (fun z => h2 (how a z)) h3 h4⟩
  refine ⟨c, _, { nx := fun η n => obS cn η[0]? fun p' ns fs => p' = p ∧ R ns fs n, rt := fun _ _ => False }, x, e1, ok, en, hw p x ds c.n R hl hc, fun η' c' σ' hn ok' l' ho en' => ?_, fun d c' v hn ok' l' rp => hn.elim, fun η' c' σ' hn _ _ _ _ => hn.elim, fun η' c' σ' hn _ _ _ _ => hn.elim, fun d c' cls od hxx ok' l' xo => hx d c' cls od hxx ok' (le l') xo⟩
  have hn : obS cn η'[0]? fun p' ns fs => p' = p ∧ R ns fs c'.n := hn
  cases hs : η'[0]? with
  | none =>
    rw [hs] at hn
    exact hn.elim
  | some s =>
    rw [hs] at hn
    cases s with
    | un => exact hn.elim
    | ow _ => exact hn.elim
    | dt _ => exact hn.elim
    | ob p' c2 ns fs =>
      obtain ⟨rfl, rfl, hR⟩ := hn
      obtain ⟨dx', vs', g1, g2, g3, g4, g5, g6⟩ := en'.ob hs
      exact hr ns fs c' vs' hR ok' (le l') ⟨dx', g2⟩ g3 g5 g6
theorem fn_init {P : Program} {wd : World} {K : PySem.W.Frag} {mg : Str → Option Value} {base : Heap} {x qual : Str} {params : Arguments} {body : List Stmt} {scope : Scope} {dvs : List V} {kws : List (Str × V)} {N : List Str} {w : WS} {f : Addr} {fd : FuncData} {cn : Str} {m k : Nat} {C : Ci} {ps : List Str}
    (F : FunD K x qual params body scope dvs kws f fd) (S : FnScope N ps scope) (hps : ps.length = m + 1) (hN : m + 1 ≤ N.length)
    (hb : ∀ (cdv : Value) (A : Around) (outer : List Env) (s : Shared) (H : Hp) (E : XK), Room k (A.deeper (envOfC qual scope s.heap.objs.size f cdv)) → PSs (cxOf CX0 P wd K mg base N qual scope f cdv A outer s H E).nox body (upS K E w))
    (hw : ∀ p x ds n R, ds.length = m → C x ds n R → w x { nx := fun η n => obS cn η[0]? fun p' ns fs => p' = p ∧ R ns fs n, rt := fun _ _ => False } (.ob p cn [] [] :: (ds.map Sl.dt ++ List.replicate (N.length - (m + 1)) Sl.un)) n) : FnOk P wd K mg base CX0 (k + 1) f fd ps (spI K cn m C) :=
  F.ok S (fun vs H Q E h => (spI_len h).trans hps.symm) fun cdv A outer s H vs Q E hr h => ⟨_, (hb cdv A outer s H E hr).nox, init_up hN h hw⟩
end
end DL
set_option maxHeartbeats 2000000
namespace DL
open PySem PySem.Spec PyProof.Rows L2

/-! ### keywords -/
section
variable {X : Cx} {E : XK} {pos : Pos} {e e2 : Expr} {es : List Expr} {kws : List Keyword}
theorem pk_to {t t' : TA} (h : PK X kws t) (i : ∀ σ H Q, t' σ H Q → t σ H Q) : PK X kws t' := ⟨fun pos pins s σ H Q I q => h.run pos pins s σ H Q I (i σ H Q q)⟩
theorem qk_nil : PK X [] (upA X.K E aNil) := pk_to pk_nil fun σ H Q q => by
  obtain ⟨c, η, R, x, e1, ok, en, hw, hr, hx⟩ := q
  show Q [] H
  rw [← e1]
  exact hr [] c [] hw ok .refl .nil
theorem qk_cons {w : WE} {r : WA} {nm : Option Str} {kpos : Pos} (ha : PE X e (up X.K E w)) (hr : PK X kws (upA X.K E r)) : PK X (⟨nm, e, kpos⟩ :: kws) (upA X.K E (aCons w r)) := pk_to (pk_cons ha hr) fun σ H Q q => by
  obtain ⟨c, η, R, x, e1, ok, en, hw, hr, hx⟩ := q
  refine ⟨c, η, _, x, e1, ok, en, hw, fun d c1 v h1 ok1 l1 r1 => ?_, hx⟩
  refine ⟨c1, η, _, x, rfl, ok1, en.le l1, h1, fun ds c2 vs h2 ok2 l2 r2 => ?_, hx.le l1⟩
  exact hr (d :: ds) c2 (v :: vs) h2 ok2 (l1.trans l2) (.cons (l2.rp r1) r2)
def gP {α : Type} (d : α) (pm : List Nat) (us ws : List α) : List α := pm.map fun i => (us ++ ws).getD i d
theorem vals_getD {vs : List V} {us : List Value} (r : Vals vs us) (i : Nat) : RelV (vs.getD i .non) (us.getD i .none) := by
  have hl := r.length
  by_cases h : i < vs.length
  · have e1 : vs[i]? = some vs[i] := List.getElem?_eq_getElem h
    obtain ⟨u, e2, ru⟩ := r.get e1
    rw [List.getD_eq_getElem?_getD, List.getD_eq_getElem?_getD, e1, e2]
    exact ru
  · rw [List.getD_eq_getElem?_getD, List.getD_eq_getElem?_getD, List.getElem?_eq_none_iff.mpr (by omega), List.getElem?_eq_none_iff.mpr (by omega)]
    rfl
theorem gP_vals {vs zs : List V} {us ws : List Value} (r : Vals vs us) (rz : Vals zs ws) : ∀ pm : List Nat, Vals (gP .non pm vs zs) (gP .none pm us ws)
  | [] => .nil
  | i :: pm => .cons (vals_getD (r.append rz) i) (gP_vals r rz pm)
theorem rpl_getD {K : PySem.W.Frag} {dr : Addr} {F : Hp} {vs : List V} {ds : List D} (r : RpL K dr F vs ds) (i : Nat) : Rp K dr F (vs.getD i .non) (ds.getD i .non) := by
  have hl := r.length
  by_cases h : i < ds.length
  · have e1 : ds[i]? = some ds[i] := List.getElem?_eq_getElem h
    obtain ⟨u, e2, ru⟩ := r.get e1
    rw [List.getD_eq_getElem?_getD, List.getD_eq_getElem?_getD, e1, e2]
    exact ru
  · rw [List.getD_eq_getElem?_getD, List.getD_eq_getElem?_getD, List.getElem?_eq_none_iff.mpr (by omega), List.getElem?_eq_none_iff.mpr (by omega)]
    exact .non
theorem gP_rpl {K : PySem.W.Frag} {dr : Addr} {F : Hp} {vs zs : List V} {ds es : List D} (r : RpL K dr F vs ds) (rz : RpL K dr F zs es) : ∀ pm : List Nat, RpL K dr F (gP .non pm vs zs) (gP .non pm ds es)
  | [] => .nil
  | i :: pm => .cons (rpl_getD (r.append rz) i) (gP_rpl r rz pm)
theorem kbn_mk {K : PySem.W.Frag} {x qual : Str} {params : Arguments} {body : List Stmt} {scope : Scope} {kw : List (Str × V)} {f : Addr} {fd : FuncData} {ps ks : List Str} (n : Nat) (pm : List Nat) (F : FunD K x qual params body scope [] kw f fd)
    (h : ∀ (kV doc pmm : Value) (an : Option Addr) (cdv ct : Value) (us ws : List Value), us.length = n → ws.length = ks.length → bindArgs (PySem.W.fnOf x qual params body scope .none kV doc pmm an cdv ct) ⟨us, ks.zip ws⟩ = pure (ps.zip (gP .none pm us ws))) : KBn K fd ps n ks (gP .none pm) (gP .non pm) := by
  obtain ⟨oc, od, dV, kV, doc, pmm, an, cdv, ct, osl, rfl, lk, hcd, hD, hK⟩ := F.ex
  rcases hD with ⟨_, rfl⟩ | ⟨e, _⟩
  · exact ⟨fun s us ws _ h1 h2 => .of_eq (h kV doc pmm an cdv ct us ws h1 h2), fun r rz => gP_vals r rz pm⟩
  · exact absurd rfl e
/-- f(.., k = v, ..), any number of places -/
def eCallK (m n l : Nat) (C : Ct) (pm : List Nat) (w wk : WA) : WE := fun x η nn R => w x η nn fun ds n1 => wk x η n1 fun es n2 => ds.length = n ∧ es.length = l ∧ pm.length = m ∧ C x (gP .non pm ds es) n2 R
/-- a def's call with keywords -/
def FnK (P : Program) (wd : World) (K : PySem.W.Frag) (mg : Str → Option Value) (base : Heap) (nm : Str) (ps : List Str) (m k : Nat) (C : Ct) (n : Nat) (ks : List Str) (pm : List Nat) : Prop :=
  ∃ fd, FnOk P wd K mg base CX0 k (He.ga K nm) fd ps (spU K m C) ∧ KBn K fd ps n ks (gP .none pm) (gP .non pm) ∧ PySem.W.keepIn K (.ref (He.ga K nm)) = true ∧ mg nm = some (.ref (He.ga K nm))
theorem callK_up {K : PySem.W.Frag} {m n l : Nat} {C : Ct} {pm : List Nat} {w wk : WA} (hC : Calm C) : ∀ σ H Q, up K E (eCallK m n l C pm w wk) σ H Q → tCallN n l (spU K m C) (gP .non pm) E0 (upA K E w) (upA K E wk) σ H Q := fun σ H Q q => by
  obtain ⟨c, η, R, x, e1, ok, en, hw, hr, hx⟩ := q
  refine ⟨c, η, _, x, e1, ok, en, hw, fun ds c1 vs hc ok1 l1 rp => ?_, hx⟩
  refine ⟨c1, η, _, x, rfl, ok1, en.le l1, hc, fun es c2 zs hc2 ok2 l2 rz => ?_, hx.le l1⟩
  obtain ⟨h1, h2, h3, h4⟩ := hc2
  refine ⟨by rw [rp.length]; exact h1, by rw [rz.length]; exact h2, ?_⟩
  exact ⟨c2, _, R, fun _ _ => False, rfl, ok2, gP_rpl (l2.rpl rp) rz pm, by simp [gP, h3], hC _ _ _ _ _ h4, fun d c3 v h5 ok3 l3 r3 => hr d c3 v h5 ok3 ((l1.trans l2).trans l3) r3, fun d c' cls od h => h.elim⟩
theorem q_fk {nm : Str} {ps : List Str} {m k j n : Nat} {C : Ct} {ks : List Str} {pm : List Nat} {p : Pos} {w wk : WA} (F : FnK X.prog X.w X.K X.mg X.base nm ps m j C n ks pm) (hC : Calm C) (hr : Room k X.A) (hj : j ≤ k) (hg : Gl X nm) (ha : PA X (e :: es) (upA X.K E w)) (hkw : PK X kws (upA X.K E wk))
    (hall : (backToKw pos (keywordEach kws X.env)).all (·.1.isSome) = true := by rfl) (hks : (backToKw pos (keywordEach kws X.env)).filterMap (·.1) = ks := by rfl)
    (hdb : (nm == ("__debug__" : Str)) = false := by decide) (he : starEach (e :: es) X.env = (false, eval e X.env) :: starEach es X.env := by rfl)
    (hpl : ((backTo pos (starEach (e :: es) X.env)).any (·.1) || (backToKw pos (keywordEach kws X.env)).any (·.1.isNone)) = false := by rfl) :
    PE X (.Call (.Name nm p) (e :: es) kws pos) (up X.K E (eCallK m n ks.length C pm w wk)) := by
  obtain ⟨fd, F, b, kp, g⟩ := F
  exact pe_to (pe_callN F (hr.mono hj) hg g kp b pass0 ha hkw hall hks hdb he hpl) (callK_up hC)
/-- f(k = v, ..) -/
theorem pe_callN0 {CX : CXT} {k : Nat} {f : Addr} {fd : FuncData} {ps ks : List Str} {sp : Sp} {E : XK} {x : Str} {p : Pos} {tk : TA} {g : List Value → List Value → List Value} {gV : List V → List V → List V} (F : FnOk X.prog X.w X.K X.mg X.base CX k f fd ps sp) (hr : Room k X.A) (hg : Gl X x) (hm : X.mg x = some (.ref f)) (hk : PySem.W.keepIn X.K (.ref f) = true) (hb : KBn X.K fd ps 0 ks g gV) (hx : Passes CX X E)
    (hkw : PK X kws tk) (hall : (backToKw pos (keywordEach kws X.env)).all (·.1.isSome) = true := by rfl) (hks : (backToKw pos (keywordEach kws X.env)).filterMap (·.1) = ks := by rfl)
    (hdb : (x == ("__debug__" : Str)) = false := by decide)
    (hpl : ((backTo pos (starEach [] X.env)).any (·.1) || (backToKw pos (keywordEach kws X.env)).any (·.1.isNone)) = false := by rfl) :
    PE X (.Call (.Name x p) [] kws pos) (tCallN 0 ks.length sp gV E tNil tk) := by
  refine ⟨fun pins s σ H Q I h => ?_⟩
  refine wpAny_Call_Name_kw (ld_glob I hg hm ?_ hdb)
  refine PySem.W.callWith_KW0 (h₀ := X.base) I.ok.mod.kin hk hall (thn (hkw.run pos pins s σ H _ I h) fun ws s2 ⟨zs, H2, I2, rz, l1, l2, q2⟩ => ⟨I2.kIn, ?_⟩) hpl
  rw [hks]
  exact run_fnN (us := []) (vs := []) F hr hb hx I2 .nil rz l1 l2 q2
theorem q_fk0 {nm : Str} {ps : List Str} {m k j : Nat} {C : Ct} {ks : List Str} {pm : List Nat} {p : Pos} {wk : WA} (F : FnK X.prog X.w X.K X.mg X.base nm ps m j C 0 ks pm) (hC : Calm C) (hr : Room k X.A) (hj : j ≤ k) (hg : Gl X nm) (hkw : PK X kws (upA X.K E wk))
    (hall : (backToKw pos (keywordEach kws X.env)).all (·.1.isSome) = true := by rfl) (hks : (backToKw pos (keywordEach kws X.env)).filterMap (·.1) = ks := by rfl)
    (hdb : (nm == ("__debug__" : Str)) = false := by decide)
    (hpl : ((backTo pos (starEach [] X.env)).any (·.1) || (backToKw pos (keywordEach kws X.env)).any (·.1.isNone)) = false := by rfl) :
    PE X (.Call (.Name nm p) [] kws pos) (up X.K E (eCallK m 0 ks.length C pm aNil wk)) := by
  obtain ⟨fd, F, b, kp, g⟩ := F
  refine pe_to (pe_callN0 F (hr.mono hj) hg g kp b pass0 hkw hall hks hdb hpl) fun σ H Q q => ?_
  obtain ⟨c, η, R, x, e1, ok, en, hw, hr, hx⟩ := q
  refine ⟨c, η, _, x, e1, ok, en, hw, fun es c2 zs hc2 ok2 l2 rz => ?_, hx⟩
  obtain ⟨h1, h2, h3, h4⟩ := hc2
  refine ⟨rfl, by rw [rz.length]; exact h2, ?_⟩
  exact ⟨c2, _, R, fun _ _ => False, rfl, ok2, gP_rpl .nil rz pm, by simp [gP, h3], hC _ _ _ _ _ h4, fun d c3 v h5 ok3 l3 r3 => hr d c3 v h5 ok3 (l2.trans l3) r3, fun d c' cls od h => h.elim⟩
end

/-! ### own comparisons -/
section
variable {X : Cx} {E : XK}
/-- x op y by the class's own method -/
def rOwn (C : Addr) (sp : Sp) (neg : Bool) : R2 := fun x y H Q => ∃ a b dx dy fs gs, x = .ref a ∧ y = .ref b ∧ H a = some (.ins C dx fs) ∧ H b = some (.ins C dy gs) ∧ sp [.ref a, .ref b] H (fun v H' => ∃ t, v = .bl t ∧ Q (.bl (if neg then !t else t)) H') E0
theorem own_run {k : Nat} {f : Addr} {fd : FuncData} {ps : List Str} {sp : Sp} {A : Around} {pins : List (Addr × Obj)} {s : Shared} {σ : L2.St} {H : Hp} {a b : Addr} {Qv : VK} {Q : Value → Shared → Prop} {E' : Value → Shared → Prop} (F : FnOk X.prog X.w X.K X.mg X.base CX0 k f fd ps sp) (hb : Binds X.K fd ps []) (hr : Room k A) (hA : A.frames = X.A.frames) (I : Inv X pins σ H s)
    (hsp : sp [.ref a, .ref b] H Qv E0) (hq : ∀ v u H' s', Inv X pins σ H' s' → RelV v u → Qv v H' → Q u s') : wpAny (model X.prog X.w) A (call (.ref f) [.ref a, .ref b]) Q E' s := by
  have e0 : Env0 X.prog X.w X.K X.mg X.base A X.stack s H := by
    have e := I.env0
    exact ⟨by rw [hA]; exact e.frames, e.mod, e.bs, e.bsz, e.funs, e.frf, e.hok, e.bare⟩
  have hl := F.len _ _ _ _ hsp
  have r2 : Vals [V.ref a, V.ref b] [Value.ref a, Value.ref b] := .cons rfl (.cons rfl .nil)
  refine wpAny_call (codeAny_mono (F.run A X.stack s H ⟨[.ref a, .ref b], []⟩ [.ref a, .ref b] [.ref a, .ref b] _ E0 hr e0 (by
    have := hb s [.ref a, .ref b] I.kIn (by simpa using hl)
    simpa using this) r2 hsp) fun r s' hq' => ?_)
  cases r with
  | error e => exact False.elim hq'
  | ok fl =>
    cases fl with
    | ret w =>
      obtain ⟨z, H', I', rz, qz⟩ := I.after hq'
      exact hq z w H' s' I' rz qz
    | next => exact False.elim hq'
    | brk => exact False.elim hq'
    | cont => exact False.elim hq'
theorem op_own {op : CmpOp} {k : Nat} {f C : Addr} {fd : FuncData} {ps : List Str} {sp : Sp} (hop : ∀ v u, compareOp op v u = richCompare op v u) (F : FnOk X.prog X.w X.K X.mg X.base CX0 k f fd ps sp) (hs : PySem.W.findIn X.K (.ref C) (cmpInfo op).2.1 = some (some (.ref f))) (hf : PySem.W.isFn X.K (.ref f) = true) (hb : Binds X.K fd ps []) (hr : Room k X.A) :
    OpR X (compareOp op) (rOwn C sp false) := by
  intro pins s σ H x y v u Q I rx ry h
  obtain ⟨a, b, dx, dy, fs, gs, rfl, rfl, ha, hb', hsp⟩ := h
  cases rx
  cases ry
  obtain ⟨mA, J, _⟩ := ins_get I.hok ha
  obtain ⟨mB, J', _⟩ := ins_get I.hok hb'
  obtain ⟨od, J, _⟩ := J.look
  obtain ⟨od', J', _⟩ := J'.look
  obtain ⟨m, hF⟩ := I.fr
  rw [hop]
  refine PySem.W.cmp_K (op := op) (tb := .ref C) hr.units0 hF I.ok.mod.kin J J'.type (by simp [PySem.W.notFirst]) hs hf ?_
  refine own_run F hb hr rfl I hsp fun v u H' s' I' rv qv => ?_
  obtain ⟨t, rfl, q⟩ := qv
  cases rv
  exact ⟨.bl t, H', I', rfl, q⟩
/-- != by the class's own ==: object.__ne__ asks it -/
theorem objNe_K {prog : Program} {w : World} {A : Around} {E : Value → Shared → Prop} {s : Shared} {K : PySem.W.Frag} {x C f : Addr} {ox : Obj} {od : Option Obj} {b : Value} (KX : K.In s.heap) (I : PySem.W.InstAt s.heap x ox C od) (hs : PySem.W.findIn K (.ref C) "__eq__" = some (some (.ref f))) (hf : PySem.W.isFn K (.ref f) = true) (hu : A.units < cLine) {Q : PySem.Fin → Shared → Prop}
    (hcall : wpAny (model prog w) A (call (.ref f) [.ref x, b]) (fun v s' => ∃ t, v = .bool t ∧ Q (.done (.ret (.bool (!t)))) s') E s) :
    wpAny (model prog w) A (Builtin.«object.__ne__» ⟨[.ref x, b], []⟩) Q E s := by
  unfold Builtin.«object.__ne__»
  repeat (first
    | with_reducible refine wpAny_cRoomFor hu ?_
    | (refine wpAny_bind (m := callSpecialIfBound? (.ref x) (Str.ofString "__eq__") [b])
        (PySem.W.ifBound_K KX I hs hf (wpAny_mono hcall (fun r s' hr => by
          obtain ⟨b, rfl, hq⟩ := hr
          repeat (first | exact hq | exact wpAny_pure hq | exact wpAny_truthy_bool hq | (refine wpAny_bind (m := truthy (.bool _)) (wpAny_truthy_bool ?_)) | wp_step)) fun _ _ e => e)))
    | wp_step)
theorem ifBoundB_K {M : Model} {A : Around} {E : Value → Shared → Prop} {s : Shared} {K : PySem.W.Frag} {x C : Addr} {ox : Obj} {od : Option Obj} {name : Str} {id : String} {args : List Value} {Q : Option Value → Shared → Prop} (S : Slot "object" name id) (KX : K.In s.heap) (I : PySem.W.InstAt s.heap x ox C od) (hne : PySem.W.findIn K (.ref C) name = some (some (.builtin id)))
    (h : wpAny M A (call (.builtin id) (.ref x :: args)) (fun v => Q (some v)) E s) : wpAny M A (callSpecialIfBound? (.ref x) name args) Q E s := by
  simp only [callSpecialIfBound?, bindSpecialIfBound?]
  refine wpAny_holding (wpAny_bind (wpAny_bind (wpAny_bind (I.type.here ((PySem.W.looks_findIn KX hne).here ?_)))))
  simp only [S.bind]
  refine wpAny_bind (wpAny_askSetting (wpAny_ite ?_))
  have fin : wpAny M A (call (.builtin id) ([.ref x] ++ args) >>= fun v => pure (some v)) Q E s := wpAny_bind (wpAny_mono h (fun v s' h' => wpAny_pure h') fun _ _ h' => h')
  split
  · exact wpAny_bind (wpAny_pure (wpAny_pure fin))
  · exact wpAny_tryCatch (wpAny_bind (wpAny_pure (wpAny_pure fin)))
theorem ne_K {prog : Program} {w : World} {A : Around} {E : Value → Shared → Prop} {s : Shared} {K : PySem.W.Frag} {x C f : Addr} {ox : Obj} {od : Option Obj} {b : Addr} {ob : Obj} {odb : Option Obj} (KX : K.In s.heap) (I : PySem.W.InstAt s.heap x ox C od) (J : PySem.W.InstAt s.heap b ob C odb) (hne : PySem.W.findIn K (.ref C) "__ne__" = some (some (.builtin "object.__ne__"))) (hsub : PySem.W.subIn K (.ref C) (.type "object") = some true)
    (hs : PySem.W.findIn K (.ref C) "__eq__" = some (some (.ref f))) (hf : PySem.W.isFn K (.ref f) = true) (hu : A.units + 1 < cLine) {Q : Value → Shared → Prop}
    (hcall : wpAny (model prog w) A.in1 (call (.ref f) [.ref x, .ref b]) (fun v s' => ∃ t, v = .bool t ∧ Q (.bool (!t)) s') E s) :
    wpAny (model prog w) A (richCompare .NotEq (.ref x) (.ref b)) Q E s := by
  have FB := PySem.F.cmp_object
  have one : wpAny (model prog w) A (tryCompare (.ref x) "__ne__" (.ref b)) (fun r s' => ∃ v, r = some v ∧ Q v s') E s := by
    unfold tryCompare
    have chk : ∀ {Q' : Unit → Shared → Prop}, Q' () s → wpAny (model prog w) A.in1 (checkBuiltinCall "object.__ne__" ⟨[.ref x, .ref b], []⟩) Q' E s := fun {Q'} hq => by
      simp only [checkBuiltinCall, F.cmpKind_ne, F.cmpSplit_ne]
      refine wpAny_bind ?_
      unfold isInstance
      refine wpAny_bind (I.type.here ((PySem.W.looks_subIn KX hsub).here ?_))
      cases hsig : Manifest.signature? "object.__ne__" with
      | none => exact wpAny_pure hq
      | some sig =>
        have ha := F.cmpArgs_ne (.ref x) (.ref b)
        simp only [argsOk, hsig] at ha
        have h2 : Bind.checkArgs "object.__ne__" sig ⟨[.ref x, .ref b], []⟩ = pure () := ha
        show wpAny _ _ (Bind.checkArgs "object.__ne__" sig ⟨[.ref x, .ref b], []⟩) Q' E _
        rw [h2]
        exact wpAny_pure hq
    refine wpAny_bind (ifBoundB_K FB.ne KX I hne (wpAny_call (codeAny_call_builtin FB.ne.plain F.cmpEntry_ne (chk (objNe_K (A := A.in1) KX I hs hf hu (wpAny_mono hcall (fun v s' hv => ?_) fun _ _ e => e))))))
    obtain ⟨t, rfl, hq⟩ := hv
    first | exact ⟨t, rfl, wpAny_pure ⟨_, rfl, hq⟩⟩ | exact ⟨t, rfl, wpAny_pure (wpAny_pure ⟨_, rfl, hq⟩)⟩ | exact ⟨t, rfl, ⟨_, rfl, hq⟩⟩
  unfold richCompare
  simp only [oneThing_ref]
  refine wpAny_holding (wpAny_bind (wpAny_cRoomFor (Nat.lt_of_succ_lt hu) ?_))
  rw [cmpInfo_NotEq]
  dsimp only
  refine wpAny_bind (I.type.here (wpAny_bind (J.type.here ?_)))
  rw [show (Value.ref C != Value.ref C) = false from by simp]
  simp only [Bool.false_eq_true, if_false]
  refine wpAny_bind (wpAny_pure ?_)
  simp only [Bool.false_eq_true, if_false]
  refine wpAny_bind (wpAny_mono one (fun r s' z => ?_) fun _ _ e => e)
  obtain ⟨v, rfl, hq⟩ := z
  first | exact wpAny_pure hq | exact wpAny_pure (wpAny_pure hq)
theorem op_ownNe {k : Nat} {f C : Addr} {fd : FuncData} {ps : List Str} {sp : Sp} (F : FnOk X.prog X.w X.K X.mg X.base CX0 k f fd ps sp) (hne : PySem.W.findIn X.K (.ref C) "__ne__" = some (some (.builtin "object.__ne__"))) (hsub : PySem.W.subIn X.K (.ref C) (.type "object") = some true)
    (hs : PySem.W.findIn X.K (.ref C) "__eq__" = some (some (.ref f))) (hf : PySem.W.isFn X.K (.ref f) = true) (hb : Binds X.K fd ps []) (hr : Room (k + 1) X.A) : OpR X (compareOp .NotEq) (rOwn C sp true) := by
  intro pins s σ H x y v u Q I rx ry h
  obtain ⟨a, b, dx, dy, fs, gs, rfl, rfl, ha, hb', hsp⟩ := h
  cases rx
  cases ry
  obtain ⟨mA, J, _⟩ := ins_get I.hok ha
  obtain ⟨mB, J', _⟩ := ins_get I.hok hb'
  obtain ⟨od, J, _⟩ := J.look
  obtain ⟨od', J', _⟩ := J'.look
  show wpAny _ _ (richCompare .NotEq _ _) _ _ _
  refine ne_K I.kIn J J' hne hsub hs hf (by have := hr.un; omega) (own_run F hb hr.in1 rfl I hsp fun v u H' s' I' rv qv => ?_)
  obtain ⟨t, rfl, q⟩ := qv
  cases rv
  exact ⟨t, rfl, .bl (!t), H', I', rfl, q⟩
/-- on data: the method's contract -/
def oOwn (cn : Str) (C : Ct) (neg : Bool) : O2 := fun a b k => match a, b with
  | .ins c ns fs, .ins c' ns' fs' => c = cn ∧ c' = cn ∧ ∀ n, C (fun _ _ => False) [.ins c ns fs, .ins c' ns' fs'] n fun d n' => n' = n ∧ match d with
    | .bl t => k (.bl (if neg then !t else t))
    | _ => False
  | _, _ => False
theorem opd_own {cn : Str} {C : Ct} {neg : Bool} : OpD X (rOwn (He.ga X.K cn) (spU X.K 2 C) neg) (oOwn cn C neg) := by
  intro c v u a b k Q ok ra rb h hQ
  cases a <;> cases b <;> first | exact h.elim | skip
  obtain ⟨rfl, rfl, hC⟩ := h
  have fa : ∀ {v : V} {cn : Str} {ns : List Str} {fs : List D}, RB X.K c v (.ins cn ns fs) → ∃ a dx us, v = .ref a ∧ c.H a = some (.ins (He.ga X.K cn) dx us) ∧ RP X.K c v (.ins cn ns fs) := fun h => by
    cases h with
    | fz h =>
      cases h with
      | ins f l r => exact ⟨_, _, _, rfl, ok.sub _ _ f, .ins f l r⟩
    | ow ev ed h hf hd r => cases ed
  obtain ⟨p, dx, us, rfl, hp, rp⟩ := fa ra
  obtain ⟨q, dy, ws, rfl, hq, rq⟩ := fa rb
  refine ⟨p, q, dx, dy, us, ws, rfl, rfl, hp, hq, c, _, _, fun _ _ => False, rfl, ok, .cons rp (.cons rq .nil), rfl, hC c.n, fun d c' v hd ok' l' rd => ?_, fun d c' cls od h => h.elim⟩
  obtain ⟨hn, hd⟩ := hd
  cases d <;> first | exact hd.elim | skip
  cases rd
  exact ⟨_, rfl, hQ _ c' _ hd hn ok' l' (.bl _)⟩
/-- a class's own method, as a comparison asks it -/
structure OwnOp (P : Program) (wd : World) (K : PySem.W.Frag) (mg : Str → Option Value) (base : Heap) (cn nm : Str) (k : Nat) (C : Ct) : Prop where
  ex : ∃ f fd ps, FnOk P wd K mg base CX0 k f fd ps (spU K 2 C) ∧ PySem.W.findIn K (.ref (He.ga K cn)) nm = some (some (.ref f)) ∧ PySem.W.isFn K (.ref f) = true ∧ Binds K fd ps []
variable {pos : Pos} {a b : Expr} {wa wb : WE} {cn : Str} {k j : Nat} {C : Ct}
theorem q_own {op : CmpOp} (hop : ∀ v u, compareOp op v u = richCompare op v u) (O : OwnOp X.prog X.w X.K X.mg X.base cn (cmpInfo op).2.1 j C) (hr : Room k X.A) (hj : j ≤ k) (ha : PE X a (upB X.K E wa)) (hb : PE X b (upB X.K E wb)) (hm : behindInMarks op b = false) : PE X (.Compare a [op] [b] pos) (up X.K E (eBin (oOwn cn C false) wa wb)) := by
  obtain ⟨f, fd, ps, F, hs, hf, b⟩ := O.ex
  exact q_cmp (op_own hop F hs hf b (hr.mono hj)) opd_own ha hb hm
theorem qt_own {op : CmpOp} (hop : ∀ v u, compareOp op v u = richCompare op v u) (O : OwnOp X.prog X.w X.K X.mg X.base cn (cmpInfo op).2.1 j C) (hr : Room k X.A) (hj : j ≤ k) (ha : PE X a (upB X.K E wa)) (hb : PE X b (upB X.K E wb)) (hm : behindInMarks op b = false) : PT X (.Compare a [op] [b] pos) (upT X.K E (wTest (eBin (oOwn cn C false) wa wb))) := by
  obtain ⟨f, fd, ps, F, hs, hf, b⟩ := O.ex
  exact qt_cmp (op_own hop F hs hf b (hr.mono hj)) opd_own ha hb hm
/-- the class has no != of its own -/
structure NoNe (K : PySem.W.Frag) (cn : Str) : Prop where
  ne : PySem.W.findIn K (.ref (He.ga K cn)) "__ne__" = some (some (.builtin "object.__ne__"))
  sub : PySem.W.subIn K (.ref (He.ga K cn)) (.type "object") = some true
theorem q_ownNe (N : NoNe X.K cn) (O : OwnOp X.prog X.w X.K X.mg X.base cn "__eq__" j C) (hr : Room k X.A) (hj : j + 1 ≤ k) (ha : PE X a (upB X.K E wa)) (hb : PE X b (upB X.K E wb)) (hm : behindInMarks .NotEq b = false) : PE X (.Compare a [.NotEq] [b] pos) (up X.K E (eBin (oOwn cn C true) wa wb)) := by
  obtain ⟨f, fd, ps, F, hs, hf, b⟩ := O.ex
  exact q_cmp (op_ownNe F N.ne N.sub hs hf b (hr.mono hj)) opd_own ha hb hm
theorem qt_ownNe (N : NoNe X.K cn) (O : OwnOp X.prog X.w X.K X.mg X.base cn "__eq__" j C) (hr : Room k X.A) (hj : j + 1 ≤ k) (ha : PE X a (upB X.K E wa)) (hb : PE X b (upB X.K E wb)) (hm : behindInMarks .NotEq b = false) : PT X (.Compare a [.NotEq] [b] pos) (upT X.K E (wTest (eBin (oOwn cn C true) wa wb))) := by
  obtain ⟨f, fd, ps, F, hs, hf, b⟩ := O.ex
  exact qt_cmp (op_ownNe F N.ne N.sub hs hf b (hr.mono hj)) opd_own ha hb hm
end
end DL
set_option maxHeartbeats 4000000
namespace DL
open PySem PySem.Spec PyProof.Rows L2
/-! ### the law's draws -/
def rSetD : TSet := fun o i v H Q => ∃ a H', o = .ref a ∧ DPut H a i v H' ∧ Q H'
theorem set_dict {X : Cx} (hu : X.A.units + 1 < cLine) : PSet X rSetD := by
  intro pins s σ H o i v ov iv u Q I ro ri rv h
  obtain ⟨a, H', rfl, g, q⟩ := h
  cases ro
  exact d_setItem hu I g ri rv fun s' I' => ⟨H', I', q⟩
abbrev tDk (k : Str) : TE := tDGet (tVar 0) (tC (.str k))
abbrev rMd : R2 := rI (fun _ j => 0 < j) fun i j => .int (i % j)
abbrev rDw : R2 := rI CDivW fun i j => .int (i / j)
abbrev rAd : R2 := rI0 fun i j => .int (i + j)
abbrev rMu : R2 := rI CMul fun i j => .int (i * j)
abbrev rLn (K : PySem.W.Frag) : List V → Hp → VK → Prop := fun xs H Q => ∃ p ys, xs = [.ref p] ∧ (SqL K H p ys ∨ SqT K H p ys) ∧ Q (.int ys.length) H
abbrev tI (i : Int) : TE := tC (.int i)
def t_next (K : PySem.W.Frag) : TS :=
  tSeq (tIfS (tTest (tOp (rI0 fun i j => .bl (decide (j < i))) (tDk "left") (tI 0)))
    (tSeq (tAsg (tTup (tCons (tDk "left") (tCons (tOp rDw (tDk "left") (tVar 1)) tNil))) (gTup K 2 (gCons (gName 2) (gCons (gSub (tVar 0) (tC (.str "left")) rSetD) gNil)))) (tRet (tOp rMd (tVar 2) (tVar 1)))) tNext)
  (tSeq (tAsg (tDk "cells") (gName 3))
  (tSeq (tAsg (tOp (rIxL K) (tVar 3) (tOp rMd (tDk "at") (tCB (rLn K) (tCons (tVar 3) tNil)))) (gName 2))
  (tSeq (sDPut (tVar 0) (tC (.str "at")) (tOp rAd (tDk "at") (tI 1)))
  (tSeq (tIfS (tAnd (tTest (tOp (rI0 fun i j => .bl (decide (j ≤ i))) (tVar 2) (tOp (rI CPow fun i j => .int (i ^ j.toNat)) (tI 10) (tI 18)))) (tTest (tOp (rI0 fun i j => .bl (decide (i ≤ j))) (tDk "at") (tCB (rLn K) (tCons (tVar 3) tNil)))))
    (tSeq (sDPut (tVar 0) (tC (.str "left")) (tOp rDw (tVar 2) (tVar 1))) (tRet (tOp rMd (tVar 2) (tVar 1)))) tNext)
  (tSeq (sDPut (tVar 0) (tC (.str "used")) (tOp rAd (tDk "used") (tI 1)))
  (tSeq (tAsg (tOp rAd (tOp rMd (tVar 2) (tI 1000000007)) (tOp rMu (tOp rMu (tI 7919) (tDk "used")) (tDk "used"))) (gName 4))
  (tSeq (tFor (iTup K (tTup (tCons (tDk "at") (tCons (tDk "used") tNil)))) (gName 5)
    (tSeq (tAsg (tOp rMd (tOp rMu (tOp rAd (tOp rAd (tVar 4) (tOp rMu (tI 31) (tVar 5))) (tI 7)) (tI 48271)) (tI 2147483647)) (gName 4))
      (tAsg (tOp rMd (tOp rMu (tVar 4) (tOp rAd (tI 69621) (tOp rMu (tI 2) (tOp rMd (tVar 5) (tI 1000))))) (tI 2147483629)) (gName 4))))
  (tRet (tOp rMd (tOp (rI CDiv fun i j => .int (i / j)) (tVar 4) (tI 7)) (tVar 1))))))))))
def C_L_next : Ct := fun _ ds n R => match ds with
  | [.drw, .int m] => 0 < m ∧ m < 2 ^ 250 ∧ 1 ≤ n ∧ ∀ r, 0 ≤ r → r < m → R (.int r) (n - 1)
  | _ => False
theorem calm_L_next : Calm C_L_next := fun _ _ _ _ _ h => h
abbrev drwL (ca : Addr) (a l u : Int) : List (Key × V) := [(.inr "cells", .ref ca), (.inr "at", .int a), (.inr "left", .int l), (.inr "used", .int u)]
theorem v_cells (ca : Addr) (a l u : Int) : valV (drwL ca a l u) (.inr "cells") = some (.ref ca) := rfl
theorem v_at (ca : Addr) (a l u : Int) : valV (drwL ca a l u) (.inr "at") = some (.int a) := rfl
theorem v_left (ca : Addr) (a l u : Int) : valV (drwL ca a l u) (.inr "left") = some (.int l) := rfl
theorem v_used (ca : Addr) (a l u : Int) : valV (drwL ca a l u) (.inr "used") = some (.int u) := rfl
theorem p_at (ca : Addr) (a l u z : Int) : putK (drwL ca a l u) (.inr "at") (.int z) = drwL ca z l u := rfl
theorem p_left (ca : Addr) (a l u z : Int) : putK (drwL ca a l u) (.inr "left") (.int z) = drwL ca a z u := rfl
theorem p_used (ca : Addr) (a l u z : Int) : putK (drwL ca a l u) (.inr "used") (.int z) = drwL ca a l z := rfl
/-- the configuration behind a draw -/
theorem drw_after {c : Cf} {H' : Hp} {n : Nat} {ca : Addr} {cells : List Int} {a l u : Int} (ok : c.Ok) (hH : ∀ b o, b ≠ c.dr → c.H b = some o → H' b = some o) (hd : H' c.dr = some (.dK (drwL ca a l u))) (hc : c.F ca = some (.lst (cells.map V.int))) (h1 : cells ≠ []) (h2 : cells.length ≤ 64) (h3 : 0 ≤ a) (h4 : 0 ≤ u) (h5 : a + n ≤ 2 ^ 40) (h6 : u + n ≤ 2 ^ 40) :
    (⟨c.dr, c.F, H', n⟩ : Cf).Ok ∧ Le c ⟨c.dr, c.F, H', n⟩ := by
  refine ⟨⟨fun b o e => hH b o (fun z => ?_) (ok.sub b o e), ok.nf, ca, cells, a, l, u, hd, hc, h1, h2, h3, h4, h5, h6⟩, rfl, fun _ _ h => h, fun b o q1 _ q3 => hH b o q1 q3, fun _ _ _ _ h _ => h⟩
  rw [z, ok.nf] at e
  cases e
theorem pure_next {K : PySem.W.Frag} {E : XK} (vs : List V) (H : Hp) (Q : VK) (h : spU K 2 C_L_next vs H Q E) : t_next K { nx := fun _ H' => Q .non H', rt := Q } (vs.map some ++ [none, none, none, none]) H := by
  obtain ⟨c, ds, R, x, rfl, ok, r, hl, hC, hr, hx⟩ := h
  obtain ⟨m, rfl, m0, m1, n1, hR⟩ : ∃ m, ds = [.drw, .int m] ∧ 0 < m ∧ m < 2 ^ 250 ∧ 1 ≤ c.n ∧ ∀ r, 0 ≤ r → r < m → R (.int r) (c.n - 1) := by
    unfold C_L_next at hC
    split at hC
    · exact ⟨_, rfl, hC⟩
    · exact hC.elim
  cases r with
  | cons r1 t =>
  cases t with
  | cons r2 t =>
  cases t
  cases r1
  cases r2
  obtain ⟨ca, cells, a, l, u, ed, hca, hne, hlen, h0, hu0, ha, hu⟩ := ok.dw
  have kd : ∀ {H' : Hp} {k : Str} {a l u : Int}, H' c.dr = some (.dK (drwL ca a l u)) → DGet H' c.dr (.str k) (valV (drwL ca a l u) (.inr k)) := fun e => DGet.k (k := Sum.inr _) e
  have kp : ∀ {H' : Hp} {k : Str} {v : V} {a l u : Int}, H' c.dr = some (.dK (drwL ca a l u)) → DPut H' c.dr (.str k) v (upd H' c.dr (.dK (putK (drwL ca a l u) (.inr k) v))) := fun e => DPut.k (k := Sum.inr _) e (by show 4 < sizeLine; decide)
  have dv : CDivW 0 m := DivOk.w ⟨m0, m1⟩
  have fin : ∀ {H' : Hp} {a' l' u' : Int} (v : Int), (∀ b o, b ≠ c.dr → c.H b = some o → H' b = some o) → H' c.dr = some (.dK (drwL ca a' l' u')) → 0 ≤ a' → a' ≤ a + 1 → 0 ≤ u' → u' ≤ u + 1 → Q (.int (v % m)) H' := fun {H' a' l' u'} v hk hd q1 q2 q3 q4 => by
    obtain ⟨ok', l'⟩ := drw_after (n := c.n - 1) ok hk hd hca hne hlen q1 q3 (by omega) (by omega)
    exact hr _ ⟨c.dr, c.F, H', c.n - 1⟩ _ (hR _ (Int.emod_nonneg v (by omega)) (Int.emod_lt_of_pos v m0)) ok' l' (.int _)
  -- if draw['left'] > 0
  refine ⟨_, rfl, c.dr, .int l, rfl, kd ed, l, 0, rfl, rfl, _, rfl, ite2 (fun hleft => ?_) (fun hleft => ?_)⟩
  · -- cell, draw['left'] = ..
    refine ⟨_, rfl, c.dr, .int l, rfl, kd ed, _, rfl, c.dr, .int l, rfl, kd ed, _, rfl, l, m, rfl, rfl, dv, (by show 2 ≤ sizeLine; decide), fun t ht => ?_⟩
    have ht' : c.dr ≠ t := ne_of_none ed ht
    have ed' : upd c.H t (.tup [.int l, .int (l / m)]) c.dr = some (.dK (drwL ca a l u)) := by
      rw [upd_ne ht']
      exact ed
    refine ⟨t, _, rfl, .of upd_same, rfl, _, _, rfl, _, _, rfl, _, rfl, c.dr, _, rfl, kp ed', rfl, ?_⟩
    refine ⟨_, rfl, _, rfl, l, m, rfl, rfl, m0, fin l (fun b o q1 q2 => ?_) upd_same h0 (by omega) hu0 (by omega)⟩
    rw [upd_ne q1, upd_ne (ne_of_none q2 ht)]
    exact q2
  · -- cells, cell
    have hcl : SqL K c.H ca (cells.map V.int) := .of (ok.sub _ _ hca)
    have hpos : (0 : Int) < ((cells.map V.int).length : Int) := by
      cases cells with
      | nil => exact absurd rfl hne
      | cons _ _ =>
        simp only [List.map_cons, List.length_cons]
        omega
    refine ⟨_, rfl, c.dr, .ref ca, rfl, kd ed, ?_⟩
    have hix : 0 ≤ a % ((cells.map V.int).length : Int) ∧ a % ((cells.map V.int).length : Int) < ((cells.map V.int).length : Int) := ⟨Int.emod_nonneg _ (by omega), Int.emod_lt_of_pos _ hpos⟩
    obtain ⟨cell, hcell⟩ : ∃ cell, atI (cells.map V.int) (a % ((cells.map V.int).length : Int)) = some (V.int cell) := by
      unfold atI ixN
      rw [if_pos hix.1, if_pos hix.2]
      have hb : (a % ((cells.map V.int).length : Int)).toNat < (cells.map V.int).length := by omega
      refine ⟨cells[(a % ((cells.map V.int).length : Int)).toNat]'(by simpa using hb), ?_⟩
      show (cells.map V.int)[(a % ((cells.map V.int).length : Int)).toNat]? = _
      rw [List.getElem?_eq_getElem hb, List.getElem_map]
    refine ⟨_, rfl, _, rfl, c.dr, .int a, rfl, kd ed, _, rfl, ca, _, rfl, .inl hcl, a, _, rfl, rfl, hpos, ca, _, _, .int cell, rfl, rfl, hcl, hcell, ?_⟩
    -- draw['at'] = draw['at'] + 1
    refine ⟨_, rfl, c.dr, .int a, rfl, kd ed, a, 1, rfl, rfl, _, rfl, c.dr, _, rfl, kp ed, ?_⟩
    rw [p_at]
    have hk2 : ∀ b o, b ≠ c.dr → c.H b = some o → upd c.H c.dr (.dK (drwL ca (a + 1) l u)) b = some o := fun b o q1 q2 => by
      rw [upd_ne q1]
      exact q2
    have hcan : ca ≠ c.dr := fun z => by
      rw [z, ok.nf] at hca
      cases hca
    have hcl2 : SqL K (upd c.H c.dr (.dK (drwL ca (a + 1) l u))) ca (cells.map V.int) := .of (by rw [upd_ne hcan]; exact ok.sub _ _ hca)
    have ed2 : upd c.H c.dr (.dK (drwL ca (a + 1) l u)) c.dr = some (.dK (drwL ca (a + 1) l u)) := upd_same
    generalize upd c.H c.dr (.dK (drwL ca (a + 1) l u)) = H2 at hk2 hcl2 ed2
    have rest : ∀ {D : Ends}, (∀ σ H', σ = [some (.ref c.dr), some (.int m), some (.int cell), some (.ref ca), none, none] → H' = H2 → D.nx σ H') → True := fun _ => trivial
    -- the plain way
    have plain : (tSeq (sDPut (tVar 0) (tC (.str "used")) (tOp rAd (tDk "used") (tI 1)))
  (tSeq (tAsg (tOp rAd (tOp rMd (tVar 2) (tI 1000000007)) (tOp rMu (tOp rMu (tI 7919) (tDk "used")) (tDk "used"))) (gName 4))
  (tSeq (tFor (iTup K (tTup (tCons (tDk "at") (tCons (tDk "used") tNil)))) (gName 5)
    (tSeq (tAsg (tOp rMd (tOp rMu (tOp rAd (tOp rAd (tVar 4) (tOp rMu (tI 31) (tVar 5))) (tI 7)) (tI 48271)) (tI 2147483647)) (gName 4))
      (tAsg (tOp rMd (tOp rMu (tVar 4) (tOp rAd (tI 69621) (tOp rMu (tI 2) (tOp rMd (tVar 5) (tI 1000))))) (tI 2147483629)) (gName 4))))
  (tRet (tOp rMd (tOp (rI CDiv fun i j => .int (i / j)) (tVar 4) (tI 7)) (tVar 1)))))) { nx := fun _ H' => Q .non H', rt := Q } [some (.ref c.dr), some (.int m), some (.int cell), some (.ref ca), none, none] H2 := by
      refine ⟨_, rfl, c.dr, .int u, rfl, kd ed2, u, 1, rfl, rfl, _, rfl, c.dr, _, rfl, kp ed2, ?_⟩
      rw [p_used]
      have ed3 : upd H2 c.dr (.dK (drwL ca (a + 1) l (u + 1))) c.dr = some (.dK (drwL ca (a + 1) l (u + 1))) := upd_same
      have hk3 : ∀ b o, b ≠ c.dr → c.H b = some o → upd H2 c.dr (.dK (drwL ca (a + 1) l (u + 1))) b = some o := fun b o q1 q2 => by
        rw [upd_ne q1]
        exact hk2 b o q1 q2
      generalize upd H2 c.dr (.dK (drwL ca (a + 1) l (u + 1))) = H3 at hk3 ed3
      refine ⟨_, rfl, cell, 1000000007, rfl, rfl, (by show (0 : Int) < 1000000007; decide), _, rfl, c.dr, .int (u + 1), rfl, kd ed3, 7919, u + 1, rfl, rfl, .inl (by decide), _, rfl, c.dr, .int (u + 1), rfl, kd ed3, _, u + 1, rfl, rfl, .inr (by omega), _, _, rfl, rfl, ?_⟩
      refine ⟨_, rfl, c.dr, .int (a + 1), rfl, kd ed3, _, rfl, c.dr, .int (u + 1), rfl, kd ed3, (by show 2 ≤ sizeLine; decide), fun t ht => ?_⟩
      have ht' : c.dr ≠ t := ne_of_none ed3 ht
      have ed4 : upd H3 t (.tup [.int (a + 1), .int (u + 1)]) c.dr = some (.dK (drwL ca (a + 1) l (u + 1))) := by
        rw [upd_ne ht']
        exact ed3
      have hk4 : ∀ b o, b ≠ c.dr → c.H b = some o → upd H3 t (.tup [.int (a + 1), .int (u + 1)]) b = some o := fun b o q1 q2 => by
        rw [upd_ne (ne_of_none (hk3 b o q1 q2) ht)]
        exact hk3 b o q1 q2
      have ht4 : SqT K (upd H3 t (.tup [.int (a + 1), .int (u + 1)])) t [.int (a + 1), .int (u + 1)] := .of upd_same
      generalize upd H3 t (.tup [.int (a + 1), .int (u + 1)]) = H4 at hk4 ed4 ht4
      refine ⟨t, rfl, ⟨_, ht4⟩, for_tup (K := K) (a := t) (xs := [.int (a + 1), .int (u + 1)]) (fun i σ H' => H' = H4 ∧ ∃ (z : Int) (y : Option V), σ = [some (.ref c.dr), some (.int m), some (.int cell), some (.ref ca), some (.int z), y]) ⟨rfl, _, none, rfl⟩ (fun i σ H' _ ⟨e, _⟩ => e ▸ ht4) ?_ ?_⟩
      · rintro i y σ H' hy ⟨rfl, z, y', rfl⟩
        obtain ⟨k, rfl, k0, k1⟩ : ∃ k : Int, y = .int k ∧ 0 ≤ k ∧ k ≤ 2 ^ 41 := by
          rcases i with _ | _ | i
          · simp at hy
            exact ⟨a + 1, hy.symm, by omega, by omega⟩
          · simp at hy
            exact ⟨u + 1, hy.symm, by omega, by omega⟩
          · simp at hy
        refine ⟨_, rfl, _, rfl, 31, k, rfl, rfl, .inl (by decide), z, _, rfl, rfl, _, 7, rfl, rfl, _, 48271, rfl, rfl, .inr (by decide), _, 2147483647, rfl, rfl, (by show (0 : Int) < 2147483647; decide), ?_⟩
        refine ⟨_, rfl, _, rfl, k, 1000, rfl, rfl, (by show (0 : Int) < 1000; decide), 2, _, rfl, rfl, .inl (by decide), 69621, _, rfl, rfl, _, _, rfl, rfl, .inr ?_, _, 2147483629, rfl, rfl, (by show (0 : Int) < 2147483629; decide), rfl, _, _, rfl⟩
        have e1 := Int.emod_nonneg k (show (1000 : Int) ≠ 0 by decide)
        have e2 := Int.emod_lt_of_pos k (show (0 : Int) < 1000 by decide)
        omega
      · rintro σ H' ⟨rfl, z, y, rfl⟩
        exact ⟨_, rfl, z, 7, rfl, rfl, ⟨by decide, by decide⟩, _, rfl, _, m, rfl, rfl, m0, fin _ hk4 ed4 (by omega) (by omega) (by omega) (by omega)⟩
    -- if cell >= 10 ** 18 and ..
    refine ⟨_, rfl, 10, 18, rfl, rfl, ⟨by decide, by decide, by decide⟩, cell, _, rfl, rfl, _, rfl, ?_⟩
    refine ite2 (fun hbig => ?_) (fun hbig => ?_)
    · refine ⟨_, rfl, c.dr, .int (a + 1), rfl, kd ed2, _, rfl, ca, _, rfl, .inl hcl2, a + 1, _, rfl, rfl, _, rfl, ?_⟩
      refine ite2 (fun hat => ?_) (fun hat => plain)
      refine ⟨_, rfl, _, rfl, cell, m, rfl, rfl, dv, _, rfl, c.dr, _, rfl, kp ed2, ?_⟩
      refine ⟨_, rfl, _, rfl, cell, m, rfl, rfl, m0, fin cell (fun b o q1 q2 => ?_) upd_same (by omega) (by omega) hu0 (by omega)⟩
      rw [upd_ne q1]
      exact hk2 b o q1 q2
    · exact iteF plain
end DL
set_option maxHeartbeats 4000000
namespace DL
open PySem PySem.Spec PyProof.Rows L2
/-! ### the law's begin, the law's own def -/
def rCatS (K : PySem.W.Frag) : R2 := fun x y H Q => ∃ l b xs zs, x = .ref l ∧ y = .ref b ∧ SqL K H l xs ∧ SqL K H b zs ∧ xs.length + zs.length ≤ sizeLine ∧ ∀ p, H p = none → Q (.ref p) (upd H p (.lst (xs ++ zs)))
theorem op_catS {X : Cx} : OpR X (binaryOp .Add) (rCatS X.K) := by
  intro pins s σ H x y v u Q I rx ry h
  obtain ⟨l, b, xs, zs, rfl, rfl, hH, hB, hz, q⟩ := h
  cases rx
  cases ry
  obtain ⟨its, r, pl, _⟩ := I.list hH
  obtain ⟨its2, r2, pl2, _⟩ := I.list hB
  have e1 := r.length
  have e2 := r2.length
  obtain ⟨m, F⟩ := I.fr
  obtain ⟨⟨cls, dd, data, sl⟩, ho, hc, n, hd⟩ := id pl.isList
  obtain ⟨⟨cls2, dd2, data2, sl2⟩, ho2, hc2, n2, hd2⟩ := id pl2.isList
  simp only at hc hd hc2 hd2
  subst hc hd hc2 hd2
  have sz : its.toArray.size + its2.toArray.size ≤ sizeLine := by
    rw [List.size_toArray, List.size_toArray]
    omega
  have fin : EP X pins σ Q (.ref s.heap.objs.size) { s with heap := s.heap.push { cls := .type "list", data := .seq (its.toArray ++ its2.toArray) } } := by
    have ea : its.toArray ++ its2.toArray = (its ++ its2).toArray := by simp
    rw [ea]
    exact ⟨.ref _, _, I.lnew (t' := s.toks) (r.append r2) (by rw [List.length_append]; omega), rfl, q _ I.fresh⟩
  exact concat_meets ⟨_, ho, rfl⟩ ⟨_, ho2, rfl⟩ noFill_list_add seq_list_add PySem.F.slot_list_add PySem.F.entry_list_add (PySem.F.args_list_add_2 _ _) (list_addW l b its.toArray its2.toArray n n2 dd dd2 sl sl2 (by simpa using sz)) ⟨ho, ho2, fin⟩
/-- {'cells': script + [0], 'at': 0, 'left': 0, 'used': 0} -/
def t_begin (K : PySem.W.Frag) : TS := tRet (tDisp [(tC (.str "cells"), tOp (rCatS K) (tVar 0) (tLst (tCons (tI 0) tNil))), (tC (.str "at"), tI 0), (tC (.str "left"), tI 0), (tC (.str "used"), tI 0)])
def spBegin (K : PySem.W.Frag) : Sp := fun vs H Q _ => ∃ (a : Addr) (ns : List Int), vs = [.ref a] ∧ SqL K H a (ns.map V.int) ∧ ns.length ≤ 63 ∧
  ∀ H' p ca, Same H H' → H p = none → H' p = some (.dK (drwL ca 0 0 0)) → H' ca = some (.lst ((ns ++ [0]).map V.int)) → Q (.ref p) H'
theorem pure_begin {K : PySem.W.Frag} {E : XK} (vs : List V) (H : Hp) (Q : VK) (h : spBegin K vs H Q E) : t_begin K { nx := fun _ H' => Q .non H', rt := Q } (vs.map some) H := by
  obtain ⟨a, ns, rfl, hS, hlen, q⟩ := h
  intro p hp
  have s1 : Same H (upd H p (.dK [])) := fun b o e => by
    rw [upd_ne (ne_of_none e hp)]
    exact e
  refine ⟨_, rfl, Nat.le_of_lt (by show 1 < sizeLine; decide), fun t ht => ?_⟩
  have s2 : Same H (upd (upd H p (.dK [])) t (.lst [.int 0])) := fun b o e => by
    rw [upd_ne (ne_of_none (s1 b o e) ht)]
    exact s1 b o e
  have hp2 : upd (upd H p (.dK [])) t (.lst [.int 0]) p = some (.dK []) := by
    rw [upd_ne (ne_of_none (show upd H p (.dK []) p = some (.dK []) from upd_same) ht)]
    exact upd_same
  have ht2 : upd (upd H p (.dK [])) t (.lst [.int 0]) t = some (.lst [.int 0]) := upd_same
  generalize upd (upd H p (.dK [])) t (.lst [.int 0]) = H2 at s2 hp2 ht2
  refine ⟨a, t, ns.map V.int, [.int 0], rfl, rfl, s2.seq hS, .of ht2, by simp only [List.length_map, List.length_singleton]; exact Nat.le_trans (by omega : ns.length + 1 ≤ 64) (by decide), fun c hc => ?_⟩
  have hcp : p ≠ c := ne_of_none hp2 hc
  have hp3 : upd H2 c (.lst (ns.map V.int ++ [.int 0])) p = some (.dK []) := by
    rw [upd_ne hcp]
    exact hp2
  refine ⟨hp3, [(.inr "cells", .ref c), (.inr "at", .int 0), (.inr "left", .int 0), (.inr "used", .int 0)], rfl, by show 4 ≤ 15; decide, ?_⟩
  refine q _ p c (fun b o e => ?_) hp upd_same ?_
  · rw [upd_ne (ne_of_none e hp), upd_ne (ne_of_none (s2 b o e) hc)]
    exact s2 b o e
  · rw [upd_ne (Ne.symm hcp), upd_same]
    simp
def spLaw (K : PySem.W.Frag) : Sp := fun vs H Q _ => ∃ (a : Addr) (ns : List Int), vs = [.ref a] ∧ SqL K H a (ns.map V.int) ∧ ns.length ≤ 63 ∧ ∀ H', Q (.bl true) H'
/-- the law's def: draw = begin(script), then the rest by data -/
theorem law_pure {K : PySem.W.Frag} {E : XK} {N : List Str} {w : WS} (hN : 2 ≤ N.length) (vs : List V) (H : Hp) (Q : VK) (h : spLaw K vs H Q E)
    (hw : w (fun _ _ => False) { nx := fun _ _ => False, rt := fun d _ => d = .bl true } (.un :: .dt .drw :: List.replicate (N.length - 2) Sl.un) (2 ^ 39)) :
    tSeq (tAsg (tCall (spBegin K) [] E0 (tCons (tVar 0) tNil)) (gName 1)) (upS K E w) { nx := fun _ H' => Q .non H', rt := Q } (L2.start N vs) H := by
  obtain ⟨a, ns, rfl, hS, hlen, q⟩ := h
  refine ⟨.ref a, rfl, a, ns, rfl, hS, hlen, fun H' p ca sm hp hH' hca => ?_⟩
  obtain ⟨n0, n1, N', rfl⟩ : ∃ n0 n1 N', N = n0 :: n1 :: N' := by
    cases N with
    | nil => simp at hN
    | cons x r =>
      cases r with
      | nil => simp at hN
      | cons y r => exact ⟨x, y, r, rfl⟩
  have es : (L2.start (n0 :: n1 :: N') [V.ref a]).set 1 (some (.ref p)) = some (.ref a) :: some (.ref p) :: List.replicate N'.length none := by
    unfold L2.start
    simp [List.replicate_succ]
  have pne : p ≠ ca := fun z => by
    rw [z, hca] at hH'
    cases hH'
  show upS K E w _ ((L2.start (n0 :: n1 :: N') [V.ref a]).set 1 (some (.ref p))) H'
  rw [es]
  have hok : (⟨p, fun b => if b = ca then some (.lst ((ns ++ [0]).map V.int)) else none, H', 2 ^ 39⟩ : Cf).Ok := by
    refine ⟨fun b o e => ?_, if_neg pne, ca, ns ++ [0], 0, 0, 0, hH', if_pos rfl, by simp, by simp; omega, by decide, by decide, by show (0 : Int) + ((2 ^ 39 : Nat) : Int) ≤ 2 ^ 40; decide, by show (0 : Int) + ((2 ^ 39 : Nat) : Int) ≤ 2 ^ 40; decide⟩
    by_cases hb : b = ca
    · subst hb
      have e' : (if b = b then some (HO.lst ((ns ++ [0]).map V.int)) else none) = some o := e
      rw [if_pos rfl] at e'
      cases e'
      exact hca
    · have e' : (if b = ca then some (HO.lst ((ns ++ [0]).map V.int)) else none) = some o := e
      rw [if_neg hb] at e'
      cases e'
  have en : EnvOk K ⟨p, fun b => if b = ca then some (.lst ((ns ++ [0]).map V.int)) else none, H', 2 ^ 39⟩ (some (.ref a) :: some (.ref p) :: List.replicate N'.length none) (.un :: .dt .drw :: List.replicate N'.length Sl.un) := by
    refine ⟨by simp, fun i s h => ?_, fun i j s t a h1 _ g1 _ _ _ => ?_⟩
    · rcases i with _ | _ | i
      · simp at h
        subst h
        exact ⟨_, rfl, trivial⟩
      · simp at h
        subst h
        exact ⟨_, rfl, _, rfl, .drw⟩
      · have h' : (List.replicate N'.length Sl.un)[i]? = some s := by simpa using h
        have e := (List.mem_replicate.mp (List.mem_of_getElem? h')).2
        subst e
        have hb : i < N'.length := by
          have := (List.getElem?_eq_some_iff.mp h').1
          simpa using this
        exact ⟨none, by simp [hb], trivial⟩
    · have hm := List.mem_of_getElem? h1
      rcases List.mem_cons.mp hm with e | hm
      · subst e
        cases g1
      · rcases List.mem_cons.mp hm with e | hm
        · subst e
          cases g1
        · have e := (List.mem_replicate.mp hm).2
          subst e
          cases g1
  refine ⟨⟨p, fun b => if b = ca then some (.lst ((ns ++ [0]).map V.int)) else none, H', 2 ^ 39⟩, _, { nx := fun _ _ => False, rt := fun d _ => d = .bl true }, fun _ _ => False, rfl, hok, en, ?_, fun η' c' σ' hn _ _ _ _ => hn.elim, fun d c' v hd _ _ rp => ?_, fun η' c' σ' hn _ _ _ _ => hn.elim, fun η' c' σ' hn _ _ _ _ => hn.elim, fun d c' cls od h => h.elim⟩
  · have e : (n0 :: n1 :: N').length - 2 = N'.length := by simp
    rw [e] at hw
    exact hw
  · have hd : d = .bl true := hd
    subst hd
    cases rp
    exact q _
end DL
set_option maxHeartbeats 4000000
namespace DL
open PySem PySem.Spec PyProof.Rows L2
theorem u65 {k : Nat} {A : Around} (r : Room k A) : A.units + 65 < cLine := by
  have := r.un
  omega
/-! ### isinstance -/
/-- the built-in type of a datum -/
def tyN : D → Option String
  | .non => some "NoneType"
  | .bl _ => some "bool"
  | .int _ => some "int"
  | .str _ => some "str"
  | .tup _ => some "tuple"
  | .lst _ => some "list"
  | .drw => some "dict"
  | .ins _ _ _ => none
/-- what of the text an instance's type asks -/
structure InsT (K : PySem.W.Frag) (cn : Str) : Prop where
  cls : Cls K (He.ga K cn)
  ha : PySem.W.findIn K (.ref (He.ga K cn)) "__class__" = some (some (.builtin "object.__class__"))
  hn : PySem.W.specialIn K (.builtin "object.__class__") "__get__" = some (some (.builtin "getset_descriptor.__get__"))
  htk : PySem.W.takesIn K (.builtin "object.__class__") = some true
  hm : PySem.W.mroIn K (He.ga K cn) (.type "object") = some true
theorem ty_of {K : PySem.W.Frag} {c : Cf} {v : V} {d : D} {T : String} (ok : c.Ok) (h : RB K c v d) (ht : tyN d = some T) : TyX K c.H v (.type T) := by
  cases d <;> first | cases ht | skip
  · rw [h.non]
    exact .base .non
  · rw [h.bl]
    exact .base (.bl _)
  · rw [h.int]
    exact .base (.int _)
  · rw [h.str]
    exact .base (.str _)
  · obtain ⟨p, vs, rfl, _, e, _⟩ := h.tup ok
    exact .base (.tup e)
  · obtain ⟨p, vs, rfl, e, _⟩ := h.lst ok
    exact .base (.lst e)
  · cases h with
    | fz h =>
      cases h
      obtain ⟨ca, cells, a, l, u, e, _⟩ := ok.dw
      exact .base (.dK e)
    | ow ev ed h hf hd r => cases ed
theorem ty_ins {K : PySem.W.Frag} {c : Cf} {v : V} {cn : Str} {ns : List Str} {fs : List D} (I : InsT K cn) (ok : c.Ok) (h : RB K c v (.ins cn ns fs)) : TyX K c.H v (.ref (He.ga K cn)) := by
  cases h with
  | fz h =>
    cases h with
    | ins f l r => exact .base (.ins (ok.sub _ _ f) I.cls I.ha I.hn I.htk I.hm)
  | ow ev ed h hf hd r => cases ed
section
variable {X : Cx} {E : XK} {pos p p2 : Pos} {e : Expr}
/-- isinstance(e, T), T a built-in type; no instance may be asked -/
def eIsB (T : String) (w : WE) : WE := fun x η n R => w x η n fun d n1 => ∃ a b, tyN d = some a ∧ kitB a T = some b ∧ R (.bl b) n1
theorem cls_arg {x : Str} {T : String} (hg : Gl X x) (hm : X.mg x = none) (hv : bootBuiltins x = some (.type T)) (hn : x ≠ "__name__" := by decide) (hd : (x == ("__debug__" : Str)) = false := by decide) : PE X (.Name x pos) (tC (.ty T)) := pe_bltn hg hm hv rfl hn hd
theorem q_isB {x : Str} {T : String} {w : WE} (hc : PE X (.Name x p2) (tC (.ty T))) (hg : Gl X "isinstance") (hm : X.mg "isinstance" = none) (he : PE X e (upB X.K E w))
    (hs : starEach [e, .Name x p2] X.env = (false, eval e X.env) :: starEach [.Name x p2] X.env := by rfl) (hs2 : starEach [.Name x p2] X.env = (false, eval (.Name x p2) X.env) :: starEach [] X.env := by rfl) (hpl : (backTo pos (starEach [.Name x p2] X.env)).any (·.1) = false := by rfl) :
    PE X (.Call (.Name "isinstance" p) [e, .Name x p2] [] pos) (up X.K E (eIsB T w)) := pe_to (pe_callB call_isi hg hm (by decide +kernel) (pa_cons he (pa_cons hc pa_nil hs2) hs) (by decide) (by decide) hs hpl) fun σ H Q q => by
  obtain ⟨c, η, R, x, e1, ok, en, hw, hr, hx⟩ := q
  refine ⟨c, η, _, x, e1, ok, en, hw, fun d c1 v hd ok1 l1 rp => ?_, hx⟩
  obtain ⟨a, b, h1, h2, hk⟩ := hd
  exact ⟨v, .ty T, _, _, b, rfl, .ty T, ty_of ok1 rp h1, kit_ty h2, hr _ c1 _ hk ok1 l1 (.bl b)⟩
/-- isinstance(e, C), C an own class -/
structure IsC (K : PySem.W.Frag) (cn : Str) : Prop where
  t : InsT K cn
  no : ∀ T ∈ ["NoneType", "bool", "int", "str", "tuple", "list", "dict"], PySem.W.kitOne K (.type T) (.ref (He.ga K cn)) = some false
def eIsC (cn : Str) (w : WE) : WE := fun x η n R => w x η n fun d n1 => match d with
  | .ins c _ _ => c = cn ∧ R (.bl true) n1
  | _ => R (.bl false) n1
theorem q_isC {cn : Str} {w : WE} (C : IsC X.K cn) (hgc : Gl X cn) (hmc : X.mg cn = some (.ref (He.ga X.K cn))) (hg : Gl X "isinstance") (hm : X.mg "isinstance" = none) (he : PE X e (upB X.K E w)) (hd : (cn == ("__debug__" : Str)) = false := by decide)
    (hs : starEach [e, .Name cn p2] X.env = (false, eval e X.env) :: starEach [.Name cn p2] X.env := by rfl) (hs2 : starEach [.Name cn p2] X.env = (false, eval (.Name cn p2) X.env) :: starEach [] X.env := by rfl) (hpl : (backTo pos (starEach [.Name cn p2] X.env)).any (·.1) = false := by rfl) :
    PE X (.Call (.Name "isinstance" p) [e, .Name cn p2] [] pos) (up X.K E (eIsC cn w)) := pe_to (pe_callB call_isi hg hm (by decide +kernel) (pa_cons he (pa_cons (pe_glob (v := .ref (He.ga X.K cn)) hgc hmc rfl hd) pa_nil hs2) hs) (by decide) (by decide) hs hpl) fun σ H Q q => by
  obtain ⟨c, η, R, x, e1, ok, en, hw, hr, hx⟩ := q
  refine ⟨c, η, _, x, e1, ok, en, hw, fun d c1 v hd ok1 l1 rp => ?_, hx⟩
  have no : ∀ T, tyN d = some T → T ∈ ["NoneType", "bool", "int", "str", "tuple", "list", "dict"] → R (.bl false) c1.n → rIsi X.K [v, .ref (He.ga X.K cn)] c1.H Q := fun T h1 h2 hk =>
    ⟨v, _, _, _, false, rfl, .own _, ty_of ok1 rp h1, C.no T h2, hr _ c1 _ hk ok1 l1 (.bl false)⟩
  cases d with
  | ins c' ns fs =>
    obtain ⟨rfl, hk⟩ := hd
    refine ⟨v, _, _, _, true, rfl, .own _, ty_ins C.t ok1 rp, ?_, hr _ c1 _ hk ok1 l1 (.bl true)⟩
    unfold PySem.W.kitOne
    rw [if_pos (by simp)]
  | non => exact no _ rfl (by decide) hd
  | bl _ => exact no _ rfl (by decide) hd
  | int _ => exact no _ rfl (by decide) hd
  | str _ => exact no _ rfl (by decide) hd
  | tup _ => exact no _ rfl (by decide) hd
  | lst _ => exact no _ rfl (by decide) hd
  | drw => exact no _ rfl (by decide) hd
end
end DL
set_option maxHeartbeats 4000000
namespace DL
open PySem PySem.Spec PyProof.Rows L2
/-! ### how the readings are worked out -/
theorem atI_nat {α : Type} {xs : List α} {i : Int} (h : 0 ≤ i) : atI xs i = xs[i.toNat]? := by
  unfold atI ixN
  rw [if_pos h]
  by_cases h2 : i < xs.length
  · rw [if_pos h2]; rfl
  · rw [if_neg h2]
    rw [List.getElem?_eq_none (by omega)]
    rfl
theorem atI_0 {α : Type} (a : α) (l : List α) : atI (a :: l) 0 = some a := by rw [atI_nat (by decide)]; rfl
theorem atI_1 {α : Type} (a b : α) (l : List α) : atI (a :: b :: l) 1 = some b := by rw [atI_nat (by decide)]; rfl
theorem atI_2 {α : Type} (a b c : α) (l : List α) : atI (a :: b :: c :: l) 2 = some c := by rw [atI_nat (by decide)]; rfl
theorem atI_3 {α : Type} (a b c d : α) (l : List α) : atI (a :: b :: c :: d :: l) 3 = some d := by rw [atI_nat (by decide)]; rfl
theorem r_bin (o : O2) (wa wb : WE) (x : Xn) (η : List Sl) (n : Nat) (R : D → Nat → Prop) : eBin o wa wb x η n R = wa x η n fun a n1 => wb x η n1 fun b n2 => o a b fun d => R d n2 := rfl
theorem r_ixT0 (a : D) (l : List D) (k : D → Prop) : oIx (.tup (a :: l)) (.int 0) k = k a := by simp [oIx, atI_0]
theorem r_ixT1 (a b : D) (l : List D) (k : D → Prop) : oIx (.tup (a :: b :: l)) (.int 1) k = k b := by simp [oIx, atI_1]
theorem r_ixT2 (a b c : D) (l : List D) (k : D → Prop) : oIx (.tup (a :: b :: c :: l)) (.int 2) k = k c := by simp [oIx, atI_2]
theorem r_ixT3 (a b c d : D) (l : List D) (k : D → Prop) : oIx (.tup (a :: b :: c :: d :: l)) (.int 3) k = k d := by simp [oIx, atI_3]
theorem r_ixL0 (a : D) (l : List D) (k : D → Prop) : oIx (.lst (a :: l)) (.int 0) k = k a := by simp [oIx, atI_0]
theorem r_ixL1 (a b : D) (l : List D) (k : D → Prop) : oIx (.lst (a :: b :: l)) (.int 1) k = k b := by simp [oIx, atI_1]
theorem r_ixL2 (a b c : D) (l : List D) (k : D → Prop) : oIx (.lst (a :: b :: c :: l)) (.int 2) k = k c := by simp [oIx, atI_2]
theorem r_ixL3 (a b c d : D) (l : List D) (k : D → Prop) : oIx (.lst (a :: b :: c :: d :: l)) (.int 3) k = k d := by simp [oIx, atI_3]
theorem r_sub (i j : Int) (k : D → Prop) : oSub (.int i) (.int j) k = k (.int (i - j)) := rfl
theorem r_add (i j : Int) (k : D → Prop) : oAdd (.int i) (.int j) k = k (.int (i + j)) := rfl
theorem r_mul (i j : Int) (k : D → Prop) : oMul (.int i) (.int j) k = (MulOk i j ∧ k (.int (i * j))) := rfl
theorem r_div (i j : Int) (k : D → Prop) : oDiv (.int i) (.int j) k = (DivOk j ∧ k (.int (i / j))) := rfl
theorem r_mod (i j : Int) (k : D → Prop) : oMod (.int i) (.int j) k = (0 < j ∧ k (.int (i % j))) := rfl
theorem r_pow (i j : Int) (k : D → Prop) : oPow (.int i) (.int j) k = ((0 ≤ j ∧ j ≤ 1000000 ∧ -(2 ^ 64) < i ∧ i < 2 ^ 64) ∧ k (.int (i ^ j.toNat))) := rfl
theorem r_le (i j : Int) (k : D → Prop) : oLe (.int i) (.int j) k = k (.bl (decide (i ≤ j))) := rfl
theorem r_gt (i j : Int) (k : D → Prop) : oGt (.int i) (.int j) k = k (.bl (decide (j < i))) := rfl
theorem r_ge (i j : Int) (k : D → Prop) : oGe (.int i) (.int j) k = k (.bl (decide (j ≤ i))) := rfl
theorem r_lt (i j : Int) (k : D → Prop) : oLt (.int i) (.int j) k = k (.bl (decide (i < j))) := rfl
theorem lay_int (i : Int) : Lay (.int i) := rfl
theorem lay_non : Lay .non := rfl
theorem lay_bl (i : Bool) : Lay (.bl i) := rfl
theorem deq_int (i j : Int) : deq (.int i) (.int j) = decide (i = j) := by
  unfold deq py PyData.eqv
  by_cases h : i = j <;> simp [h]
theorem r_eqI (i j : Int) (k : D → Prop) : oEq (.int i) (.int j) k = k (.bl (decide (i = j))) := by
  unfold oEq; rw [deq_int]; simp [lay_int]
theorem r_neI (i j : Int) (k : D → Prop) : oNe (.int i) (.int j) k = k (.bl (!decide (i = j))) := by
  unfold oNe; rw [deq_int]; simp [lay_int]
theorem r_sIf (t : WT) (a b : WS) (x : Xn) (k : Wk) (η : List Sl) (n : Nat) : sIf t a b x k η n = t x η n fun c n1 => if c = true then a x k η n1 else b x k η n1 := rfl
theorem r_asg (w : WE) (i : Nat) (x : Xn) (k : Wk) (η : List Sl) (n : Nat) : sAsg w (gNm i) x k η n = w x η n fun d n1 => k.nx (η.set i (.dt d)) n1 := rfl
theorem r_asg2 (w : WE) (i j : Nat) (x : Xn) (k : Wk) (η : List Sl) (n : Nat) : sAsg w (gTp 2 (gsCons (gNm i) (gsCons (gNm j) gsNil))) x k η n = w x η n fun d n1 => gTp 2 (gsCons (gNm i) (gsCons (gNm j) gsNil)) d η fun η' => k.nx η' n1 := rfl
theorem r_g2 (i j : Nat) (a b : D) (η : List Sl) (k : List Sl → Prop) : gTp 2 (gsCons (gNm i) (gsCons (gNm j) gsNil)) (.tup [a, b]) η k = k ((η.set i (.dt a)).set j (.dt b)) := by
  simp [gTp, gsCons, gNm, gsNil]
theorem mulOk_of {i j : Int} (h1 : -(2 ^ 250) < i) (h2 : i < 2 ^ 250) (h3 : -(2 ^ 250) < j) (h4 : j < 2 ^ 250) : MulOk i j := Or.inr ⟨⟨h1, h2⟩, h3, h4⟩
/-- how a body stands at its start -/
abbrev st0 (ds : List D) (N : List Str) : List Sl := ds.map Sl.dt ++ List.replicate (N.length - ds.length) Sl.un
/-- by a truth value -/
def bT (d : D) (P Q : Prop) : Prop := match d with
  | .bl b => if b = true then P else Q
  | _ => False
theorem bT_bl (b : Bool) (P Q : Prop) : bT (.bl b) P Q = if b = true then P else Q := rfl
theorem r_andV (wa wb : WE) (x : Xn) (η : List Sl) (n : Nat) (R : D → Nat → Prop) : eAndV wa wb x η n R = wa x η n fun a n1 => bT a (wb x η n1 R) (R (.bl false) n1) := by
  unfold eAndV
  congr 1
  funext a n1
  cases a <;> first | rfl | skip
  rename_i b; cases b <;> rfl
theorem r_orV (wa wb : WE) (x : Xn) (η : List Sl) (n : Nat) (R : D → Nat → Prop) : eOrV wa wb x η n R = wa x η n fun a n1 => bT a (R (.bl true) n1) (wb x η n1 R) := by
  unfold eOrV
  congr 1
  funext a n1
  cases a <;> first | rfl | skip
  rename_i b; cases b <;> rfl
theorem r_ifAnd (b c : Bool) (R : D → Nat → Prop) (n : Nat) : (if b = true then R (.bl c) n else R (.bl false) n) = R (.bl (b && c)) n := by cases b <;> rfl
theorem r_ifOr (b c : Bool) (R : D → Nat → Prop) (n : Nat) : (if b = true then R (.bl true) n else R (.bl c) n) = R (.bl (b || c)) n := by cases b <;> rfl
theorem r_isC (cn : Str) (ns : List Str) (fs : List D) (w : WE) (x : Xn) (η : List Sl) (n : Nat) (R : D → Nat → Prop) (h : w x η n fun d n1 => ∃ ns fs, d = .ins cn ns fs ∧ R (.bl true) n1) (m : ∀ P Q : D → Nat → Prop, (∀ d n, P d n → Q d n) → w x η n P → w x η n Q) : eIsC cn w x η n R := by
  refine m _ _ (fun d n1 q => ?_) h
  obtain ⟨ns, fs, rfl, q⟩ := q
  exact ⟨rfl, q⟩
theorem r_dt (d : D) (k : D → Prop) : dtS (some (.dt d)) k = k d := rfl
theorem r_rd (d : D) (k : D → Prop) : rdS (some (.dt d)) k = k d := rfl
theorem r_rdo (d : List D) (k : D → Prop) : rdS (some (.ow d)) k = k (.lst d) := rfl
theorem r_owS (d : List D) (k : List D → Prop) : owS (some (.ow d)) k = k d := rfl
/-- a truth value out of a value -/
def tB (d : D) (k : Bool → Prop) : Prop := match d with
  | .bl b => k b
  | _ => False
theorem tB_bl (b : Bool) (k : Bool → Prop) : tB (.bl b) k = k b := rfl
theorem r_test (w : WE) (x : Xn) (η : List Sl) (n : Nat) (R : Bool → Nat → Prop) : wTest w x η n R = w x η n fun d n1 => tB d fun b => R b n1 := rfl
theorem r_notV (w : WE) (x : Xn) (η : List Sl) (n : Nat) (R : D → Nat → Prop) : eNotV w x η n R = w x η n fun d n1 => tB d fun b => R (.bl !b) n1 := rfl
theorem r_tru (w : WE) (x : Xn) (η : List Sl) (n : Nat) (R : Bool → Nat → Prop) : wTru w x η n R = w x η n fun d n1 => truth d fun b => R b n1 := rfl
theorem r_trB (b : Bool) (k : Bool → Prop) : truth (.bl b) k = k b := rfl
theorem r_trL (b : List D) (k : Bool → Prop) : truth (.lst b) k = k (!b.isEmpty) := rfl
theorem r_trI (i : Int) (k : Bool → Prop) : truth (.int i) k = k (i != 0) := rfl
theorem r_sqL (xs : List D) (k : List D → Prop) : seqOf (.lst xs) k = k xs := rfl
theorem r_sqT (xs : List D) (k : List D → Prop) : seqOf (.tup xs) k = k xs := rfl
/-- two values -/
def tw (ds : List D) (k : D → D → Prop) : Prop := match ds with
  | [d, e] => k d e
  | _ => False
theorem tw_2 (d e : D) (k : D → D → Prop) : tw [d, e] k = k d e := rfl
theorem r_par (i j : Nat) (w : WA) (x : Xn) (k : Wk) (η : List Sl) (n : Nat) : sPar i j w x k η n = w x η n fun ds n1 => tw ds fun d e => k.nx ((η.set i (.dt d)).set j (.dt e)) n1 := rfl
/-- a row turned round -/
def rvD (d : D) (k : D → Prop) : Prop := match d with
  | .lst xs => k (.lst xs.reverse)
  | .tup xs => k (.tup xs.reverse)
  | _ => False
theorem r_rev (w : WE) (x : Xn) (η : List Sl) (n : Nat) (R : D → Nat → Prop) : eRev w x η n R = w x η n fun d n1 => rvD d fun r => R r n1 := by
  unfold eRev
  congr 1
theorem rv_t (xs : List D) (k : D → Prop) : rvD (.tup xs) k = k (.tup xs.reverse) := rfl
theorem rv_l (xs : List D) (k : D → Prop) : rvD (.lst xs) k = k (.lst xs.reverse) := rfl
theorem r_mt (i : Nat) (f : OM) (w : WA) (x : Xn) (k : Wk) (η : List Sl) (n : Nat) : sMt' i f w x k η n = ((∃ xs, η[i]? = some (Sl.ow xs)) ∧ w x η n fun ds n1 => owS η[i]? fun xs => f xs ds fun xs' => k.nx (η.set i (.ow xs')) n1) := rfl
theorem r_ext (xs ys : List D) (k : List D → Prop) : mExtend xs [.lst ys] k = (xs.length + ys.length ≤ sizeLine ∧ k (xs ++ ys)) := rfl
theorem r_app (xs : List D) (y : D) (k : List D → Prop) : mAppend xs [y] k = (xs.length < sizeLine ∧ k (xs ++ [y])) := rfl
theorem r_len (xs : List D) (k : D → Prop) : bLen [.lst xs] k = k (.int xs.length) := rfl
theorem r_lenT (xs : List D) (k : D → Prop) : bLen [.tup xs] k = k (.int xs.length) := rfl
theorem ow_ex (xs : List D) : (∃ ys, some (Sl.ow xs) = some (Sl.ow ys)) = True := eq_true ⟨xs, rfl⟩
theorem size2 : (2 ≤ sizeLine) = True := eq_true (by decide)
theorem size4 : (4 ≤ sizeLine) = True := eq_true (by decide)
theorem size0 : (0 ≤ sizeLine) = True := eq_true (by decide)
theorem size1 : (1 ≤ sizeLine) = True := eq_true (by decide)
theorem size3 : (3 ≤ sizeLine) = True := eq_true (by decide)
/-! ### what can be compared -/
def LayN (k : Nat) (d : D) : Prop := (py d).canLay0 = true ∧ (py d).depth ≤ k
theorem LayN.lay {k : Nat} {d : D} (h : LayN k d) (hk : k ≤ 64 := by decide) : Lay d := by
  unfold Lay SeqAt.shaped
  rw [h.1]
  simp
  have := h.2
  omega
theorem LayN.mono {k l : Nat} {d : D} (h : LayN k d) (hk : k ≤ l) : LayN l d := ⟨h.1, Nat.le_trans h.2 hk⟩
theorem LayN.of {d : D} (h : Lay d) : LayN 64 d := ⟨SeqAt.canLay_of_shaped h, SeqAt.depth_of_shaped h⟩
theorem layAll {k : Nat} : ∀ {xs : List D}, (∀ d, d ∈ xs → LayN k d) → PyData.canLayAll0 (pyL xs) = true ∧ PyData.depthAll (pyL xs) ≤ k
  | [], _ => ⟨rfl, Nat.zero_le _⟩
  | d :: xs, h => by
    have h1 := h d (List.mem_cons_self ..)
    have h2 := layAll (xs := xs) fun e he => h e (List.mem_cons_of_mem _ he)
    unfold pyL PyData.canLayAll0 PyData.depthAll
    rw [h1.1, h2.1]
    exact ⟨rfl, Nat.max_le.2 ⟨h1.2, h2.2⟩⟩
theorem LayN.lst {k : Nat} {xs : List D} (h : ∀ d, d ∈ xs → LayN k d) : LayN (k + 1) (.lst xs) := ⟨(layAll h).1, Nat.succ_le_succ (layAll h).2⟩
theorem LayN.tup {k : Nat} {xs : List D} (h : ∀ d, d ∈ xs → LayN k d) : LayN (k + 1) (.tup xs) := ⟨(layAll h).1, Nat.succ_le_succ (layAll h).2⟩
theorem LayN.int {k : Nat} (i : Int) : LayN k (.int i) := ⟨rfl, Nat.zero_le _⟩
theorem LayN.bl {k : Nat} (i : Bool) : LayN k (.bl i) := ⟨rfl, Nat.zero_le _⟩
theorem LayN.non {k : Nat} : LayN k .non := ⟨rfl, Nat.zero_le _⟩
theorem deq_nil (xs : List D) : deq (.lst xs) (.lst []) = xs.isEmpty := by
  cases xs <;> rfl
theorem r_neNil (xs : List D) (k : D → Prop) (h : LayN 63 (.lst xs)) : oNe (.lst xs) (.lst []) k = k (.bl (!xs.isEmpty)) := by
  unfold oNe
  rw [deq_nil]
  have h1 : Lay (.lst []) := rfl
  have h2 : Lay (.lst xs) := h.lay
  simp [h1, h2]
/-! ### comprehensions and loops over mapped rows -/
theorem lc_map {α : Type} (emb : α → D) (b : α → Bool) (f : α → D) {x : Xn} {η : List Sl} {g : WG} {t : WT} {w : WE} {R : List D → Nat → Prop} : ∀ (ys : List α) (acc : List D) (n : Nat)
    (hs : ∀ a, a ∈ ys → ∀ (Q : Option D → Nat → Prop), Q (if b a = true then some (f a) else none) n → g (emb a) η fun η' => t x η' n fun c n1 => if c = true then w x η' n1 fun y n2 => Q (some y) n2 else Q none n1)
    (hl : acc.length + ys.length ≤ sizeLine) (h : R (acc ++ (ys.filter b).map f) n), runLc x η g t w R (ys.map emb) acc n
  | [], acc, n, hs, hl, h => by simpa [runLc] using h
  | a :: ys, acc, n, hs, hl, h => by
    have hl' : acc.length + (ys.length + 1) ≤ sizeLine := hl
    refine hs a (List.mem_cons_self ..) (fun o n2 => match o with | some y => acc.length < sizeLine ∧ runLc x η g t w R (ys.map emb) (acc ++ [y]) n2 | none => runLc x η g t w R (ys.map emb) acc n2) ?_
    have hs' : ∀ a, a ∈ ys → ∀ (Q : Option D → Nat → Prop), Q (if b a = true then some (f a) else none) n → g (emb a) η fun η' => t x η' n fun c n1 => if c = true then w x η' n1 fun y n2 => Q (some y) n2 else Q none n1 := fun a ha => hs a (List.mem_cons_of_mem _ ha)
    cases e : b a with
    | true =>
      refine ⟨by omega, ?_⟩
      refine lc_map emb b f ys _ n hs' (by simp; omega) ?_
      rw [List.filter_cons_of_pos e] at h
      simpa using h
    | false =>
      refine lc_map emb b f ys _ n hs' (by omega) ?_
      rw [List.filter_cons_of_neg (by simp [e])] at h
      exact h
theorem for_ind {α : Type} (emb : α → D) {x : Xn} {k : Wk} {g : WG} {b : WS} (I : List α → List Sl → Nat → Prop) (hnil : ∀ η n, I [] η n → k.nx η n)
    (hs : ∀ a ys η n (nxt : List Sl → Nat → Prop), I (a :: ys) η n → (∀ η n, I ys η n → nxt η n) → g (emb a) η fun η' => b x { nx := nxt, ct := nxt, bk := k.nx, rt := k.rt } η' n) :
    ∀ (ys : List α) η n, I ys η n → runFor x k g b (ys.map emb) η n
  | [], η, n, h => hnil η n h
  | a :: ys, η, n, h => hs a ys η n _ h fun η n h => for_ind emb I hnil hs ys η n h
theorem for_cnt {x : Xn} {k : Wk} {g : WG} {b : WS} (I : Nat → List Sl → Nat → Prop) (hnil : ∀ η n, I 0 η n → k.nx η n)
    (hs : ∀ d m η n (nxt : List Sl → Nat → Prop), I (m + 1) η n → (∀ η n, I m η n → nxt η n) → g d η fun η' => b x { nx := nxt, ct := nxt, bk := k.nx, rt := k.rt } η' n) :
    ∀ (xs : List D) η n, I xs.length η n → runFor x k g b xs η n
  | [], η, n, h => hnil η n h
  | d :: xs, η, n, h => hs d xs.length η n _ h fun η n h => for_cnt I hnil hs xs η n h
/-- a comprehension whose items are drawn -/
theorem lc_draw {P : D → Prop} {c : Nat} {x : Xn} {η : List Sl} {g : WG} {t : WT} {w : WE} {R : List D → Nat → Prop}
    (hs : ∀ d n (Q : D → Nat → Prop) (Z : Nat → Prop), c ≤ n → (∀ y, P y → Q y (n - c)) → g d η fun η' => t x η' n fun b n1 => if b = true then w x η' n1 fun y n2 => Q y n2 else Z n1) :
    ∀ (xs acc : List D) (n : Nat), (∀ y, y ∈ acc → P y) → c * xs.length ≤ n → acc.length + xs.length ≤ sizeLine → (∀ ys, ys.length = acc.length + xs.length → (∀ y, y ∈ ys → P y) → R ys (n - c * xs.length)) → runLc x η g t w R xs acc n
  | [], acc, n, ha, hn, hl, h => by
    have := h acc rfl ha
    simpa [runLc] using this
  | d :: xs, acc, n, ha, hn, hl, h => by
    have e : c * (xs.length + 1) = c * xs.length + c := Nat.mul_succ ..
    have hn' : c * (xs.length + 1) ≤ n := hn
    have hl' : acc.length + (xs.length + 1) ≤ sizeLine := hl
    refine hs d n (fun y n2 => acc.length < sizeLine ∧ runLc x η g t w R xs (acc ++ [y]) n2) _ (by omega) fun y hy => ⟨by omega, ?_⟩
    refine lc_draw hs xs (acc ++ [y]) (n - c) (fun z hz => ?_) (by omega) (by simp; omega) fun ys hy1 hy2 => ?_
    · rcases List.mem_append.1 hz with q | q
      · exact ha z q
      · rw [List.mem_singleton.1 q]; exact hy
    · have := h ys (by rw [hy1]; simp; omega) hy2
      have e2 : n - c * (d :: xs).length = n - c - c * xs.length := by
        show n - c * (xs.length + 1) = _
        omega
      rw [e2] at this
      exact this
/-- range(j) -/
def r1D (ds : List D) (k : List D → Prop) : Prop := match ds with
  | [.int j] => Rg j ∧ k (rangeD 0 j.toNat)
  | _ => False
theorem r_R1 (w : WA) (x : Xn) (η : List Sl) (n : Nat) (R : List D → Nat → Prop) : iR1 w x η n R = w x η n fun ds n1 => r1D ds fun xs => R xs n1 := rfl
theorem r1D_i (j : Int) (k : List D → Prop) : r1D [.int j] k = (Rg j ∧ k (rangeD 0 j.toNat)) := rfl
end DL
set_option maxHeartbeats 4000000
namespace DL
open PySem PySem.Spec PyProof.Rows L2
/-! ### a list times a number; repr of a row -/
section
variable {X : Cx} {E : XK} {pos : Pos}
def oRep : O2 := fun a b k => match a, b with
  | .lst xs, .int i => 0 ≤ i ∧ i < 2 ^ 62 ∧ xs.length * i.toNat ≤ sizeLine ∧ k (.lst (List.replicate i.toNat xs).flatten)
  | _, _ => False
theorem RPL.rep {K : PySem.W.Frag} {c : Cf} {vs : List V} {xs : List D} (r : RPL K c vs xs) : ∀ n : Nat, RPL K c (List.replicate n vs).flatten (List.replicate n xs).flatten
  | 0 => .nil
  | n + 1 => by
    rw [List.replicate_succ, List.replicate_succ, List.flatten_cons, List.flatten_cons]
    exact r.append (RPL.rep r n)
theorem opd_rep : OpD X rRep oRep := by
  intro c v u a b k Q ok ra rb h hQ
  cases a <;> cases b <;> first | exact h.elim | skip
  obtain ⟨p, vs, e1, h1, r1⟩ := ra.lst ok
  obtain ⟨g1, g2, g3, hk⟩ := h
  exact ⟨p, _, vs, e1, rb.int, h1, by omega, by omega, by rw [r1.length]; exact g3, fun t ht => rp_new_lst ok ht (RPL.rep r1 _) hk hQ⟩
def rRepr (K : PySem.W.Frag) : List V → Hp → VK → Prop := fun xs H Q => ∃ x p d, xs = [x] ∧ x = .ref p ∧ Dp K H x d ∧ d.showable = true ∧ d.hasDict = false ∧ d.depth ≤ 60 ∧ d.shown.length ≤ sizeLine ∧ Q (.str d.shown) H
theorem call_reprU (hg : X.A.guards = some []) (hu : X.A.units + 64 < cLine) : CallR X (.builtin "repr") (rRepr X.K) := by
  intro pins s σ H xs us Q I r h
  obtain ⟨x, p, d, rfl, rfl, hd, h1, h2, h3, h4, q⟩ := h
  obtain ⟨u, rfl, ru⟩ := vals1 r
  obtain ⟨as, r1⟩ := Dp.reads I d _ u hd ru
  cases ru
  exact repr_of_reads' r1 h1 (fun z => absurd (h2.symm.trans z) (by simp)) hg (by omega) (fun _ _ e => e) (fun h' u tk hk => ⟨.str _, H, I.kept hk, ⟨_, rfl⟩, q⟩) h4
def bRepr : OB := fun ds k => match ds with
  | [.lst xs] => plainD (.lst xs) = true ∧ (py (.lst xs)).showable = true ∧ (py (.lst xs)).hasDict = false ∧ (py (.lst xs)).depth ≤ 60 ∧ (py (.lst xs)).shown.length ≤ sizeLine ∧ k (.str (py (.lst xs)).shown)
  | _ => False
theorem bd_repr : BD X (rRepr X.K) bRepr := by
  intro c vs ds k Q ok r h hQ
  unfold bRepr at h
  split at h
  · rename_i xs
    cases r with
    | cons r1 r2 =>
      cases r2
      obtain ⟨p, us, rfl, e, rp⟩ := r1.lst ok
      obtain ⟨h0, h1, h2, h3, h4, hk⟩ := h
      exact ⟨_, p, _, rfl, rfl, r1.dp ok h0, h1, h2, h3, h4, hQ _ c _ hk rfl ok .refl (.str _)⟩
  · exact h.elim
end
/-! ### a def that is run with no repr under way -/
structure FnOkG (P : Program) (w : World) (K : PySem.W.Frag) (mg : Str → Option Value) (base : Heap) (CX : CXT) (k : Nat) (f : Addr) (fd : FuncData) (ps : List Str) (sp : Sp) : Prop where
  len : ∀ vs H Q E, sp vs H Q E → vs.length = ps.length
  run : ∀ (A : Around) (st : List Env) (s : Shared) (H : Hp) (ar : Args) (us : List Value) (vs : List V) (Q : VK) (E : XK), A.guards = some [] → Room k A → Env0 P w K mg base A st s H → BindsTo s fd ar (ps.zip us) → Vals vs us →
    sp vs H Q E → codeAny (model P w) A (.call (.ref f) ar) (CR CX st P w H s Q E) s
theorem okG {P : Program} {w : World} {K : PySem.W.Frag} {mg : Str → Option Value} {base : Heap} {x qual : Str} {params : Arguments} {body : List Stmt} {scope : Scope} {dvs : List V} {kws : List (Str × V)} {f : Addr} {fd : FuncData} {CX : CXT} {N ps : List Str} {k : Nat} {sp : Sp}
    (F : FunD K x qual params body scope dvs kws f fd) (S : FnScope N ps scope) (len : ∀ vs H Q E, sp vs H Q E → vs.length = ps.length)
    (hb : ∀ (cdv : Value) (A : Around) (st : List Env) (s : Shared) (H : Hp) (vs : List V) (Q : VK) (E : XK), A.guards = some [] → Room k (A.deeper (envOfC qual scope s.heap.objs.size f cdv)) → sp vs H Q E →
      ∃ t, PSs (cxOf CX P w K mg base N qual scope f cdv A st s H E) body t ∧ t { nx := fun _ H' => Q .non H', rt := Q } (start N vs) H) : FnOkG P w K mg base CX (k + 1) f fd ps sp := by
  obtain ⟨oc, od, dV, kV, doc, pm, an, cdv, ct, osl, rfl, lk, hcd, _, _⟩ := F.ex
  constructor
  · exact len
  intro A st s H ar us vs Q E hgu hr e0 bt rv hs
  have old : ∀ b o, base.get? b = some o → s.heap.get? b = some o := fun b o e => (e0.bs b o e).1
  have kin : K.In s.heap := e0.mod.kin.keeps old
  have nol : s.heap.NoLimit := e0.mod.nolimit.keeps old
  have nms : ∀ y ∈ ps.zip us, scope.names.lookup y.1 = some .local ∨ (scope.names.lookup y.1 = some .cell ∧ ((cellsFrom (s.heap.objs.size + 1) scope.names []).lookup y.1).isSome = true) := by
    intro y hy
    cases S.par y.1 (List.of_mem_zip hy).1 with
    | inl q => exact Or.inl q
    | inr q => exact Or.inr (And.intro q (PySem.W.cellsFrom_some _ _ _ (Or.inl q)))
  apply codeAny_call_function hr.depth (kin _ _ lk) rfl S.co S.gen rfl (PySem.W.codeRec_of kin hcd)
  apply bt
  apply wpAny_newFunctionEnv_cells S.kind nms
  intro env he s1 ic
  subst he
  constructor
  · exact nol.keeps ic.toInCall.keep
  apply codeAny_func
  obtain ⟨t, pt, ht⟩ := hb cdv A st s H vs Q E hgu (hr.deeper _) hs
  have J := inv_start (CX := CX) (E := E) S hr.hd e0 (len _ _ _ _ hs) rv ic
  apply wpAny_mono (pt.run [] s1 (start N vs) H _ J ht)
  · intro fl s' z
    match fl, z with
    | .ret u, ⟨v, σ', H', J', rv', q⟩ => exact ⟨v, H', J'.os, J'.bare, J'.base, J'.hok, rv', q⟩
    | .next, ⟨σ', H', J', q⟩ => exact ⟨V.non, H', J'.os, J'.bare, J'.base, J'.hok, (rfl : RelV V.non Value.none), q⟩
    | .brk, ⟨_, _, _, q⟩ => exact q.elim
    | .cont, ⟨_, _, _, q⟩ => exact q.elim
  · intro e s' z
    exact z
/-- the law's def from the row's head -/
theorem law_callG {P : Program} {w : World} {K : PySem.W.Frag} {mg mb : Str → Option Value} {k : Nat} {fa a : Addr} {fd : FuncData} {x : Str} {sp : Sp} {s1 : Shared} {vs : List Value} {ns : List Int}
    (KX : K.In s1.heap) (hn : s1.heap.Ns mainGlobals mg) (hb : s1.heap.Ns builtinsNs mb) (hbb : ∀ x : Str, x ≠ "__name__" → mb x = bootBuiltins x) (hlim : s1.heap.NoLimit) (hg : s1.gens = #[])
    (ha : s1.heap.get? a = some { cls := .type "list", data := .seq vs.toArray }) (hi : IntsAre vs ns) (hl : ns.length ≤ sizeLine) (hr : Room k callerA)
    (F : ∀ base : Heap, K.In base → base.Ns mainGlobals mg → FnOkG P w K mg base CX0 k fa fd [x] sp) (bt : ∀ (s : Shared) (u : Value), BindsTo s fd ⟨[u], []⟩ [(x, u)])
    (hs : ∀ H : Hp, SqL K H a (ns.map V.int) → sp [.ref a] H (fun v _ => v = .bl true) fun _ _ _ => False) :
    codeAny (model P w) callerA (.call (.ref fa) ⟨[.ref a], []⟩) (fun r s' => r = .ok (.ret (.bool true)) ∧ OldK s1.heap s'.heap ∧ s'.os = s1.os ∧ AllBare s'.gens) s1 := by
  have rv := vals_ints hi
  have lv := hi.length
  -- H tells at most the script, as a frozen list
  have core : ∀ H : Hp, (∀ b u, H b = some u → b = a ∧ K.lookup a = none ∧ ∃ o xs, u = .frz o (.lst xs)) → SqL K H a (ns.map V.int) → HOk P w H s1.heap →
      codeAny (model P w) callerA (.call (.ref fa) ⟨[.ref a], []⟩) (fun r s' => r = .ok (.ret (.bool true)) ∧ OldK s1.heap s'.heap ∧ s'.os = s1.os ∧ AllBare s'.gens) s1 := by
    intro H one hS hok
    have noD : ∀ {b : Addr} {o : Obj} {es : Array DictEntry} {ep : Nat}, s1.heap.get? b = some o → o.data = .dict es ep → H b = none := by
      intro b o es ep e d
      match q : H b with
      | none => rfl
      | some u =>
        obtain ⟨rfl, _, _⟩ := one b u q
        rw [ha] at e
        cases e
        cases (d : Data.seq vs.toArray _ = Data.dict es ep)
    have nsB : ∀ {b : Addr} {m : Str → Option Value}, s1.heap.Ns b m → (hidT s1.heap H).Ns b m := by
      rintro b m ⟨o, es, ep, e, d, r⟩
      exact ⟨o, es, ep, hidT_get e (noD e d), d, r⟩
    have kB : K.In (hidT s1.heap H) := by
      intro b o e
      apply hidT_get (KX b o e)
      match q : H b with
      | none => rfl
      | some u =>
        obtain ⟨rfl, z, _⟩ := one b u q
        rw [z] at e
        cases e
    have md : Mod K mg (hidT s1.heap H) := by
      obtain ⟨mc, c1, c2⟩ := hlim
      exact ⟨kB, nsB hn, ⟨mb, nsB hb, hbb⟩, ⟨mc, nsB c1, c2⟩⟩
    have e0 : Env0 P w K mg (hidT s1.heap H) callerA [] s1 H := by
      refine ⟨rfl, md, fun b o e => of_hidT e, Nat.le_of_eq (hidT_size _ _), trivial, fun b hb => ?_, hok, .of_eq hg⟩
      cases (hb : b ∈ ([] : List Addr))
    have go := (F _ kB (nsB hn)).run callerA [] s1 H ⟨[.ref a], []⟩ [.ref a] [.ref a] (fun v _ => v = .bl true) (fun _ _ _ => False) rfl hr e0 (bt s1 (.ref a)) (.cons rfl .nil) (hs H hS)
    apply codeAny_mono go
    intro r s' z
    match r, z with
    | .error e, z => exact (z : False).elim
    | .ok .next, z => exact (z : False).elim
    | .ok .brk, z => exact (z : False).elim
    | .ok .cont, z => exact (z : False).elim
    | .ok (.ret u), ⟨v, H', os, ba, un, hok', r', q⟩ =>
      obtain rfl : v = .bl true := q
      obtain rfl : u = Value.bool true := r'
      refine ⟨rfl, OldK.of_keep fun b o e => ?_, os, ba⟩
      match qb : H b with
      | none => exact un.keep b o e qb (fun z => nomatch (show b ∈ ([] : List Addr) from z)) (by simp)
      | some u =>
        obtain ⟨_, _, ob, xs, rfl⟩ := one b u qb
        have e1 := (hok b _ qb).1
        have e2 := (hok' b _ (un.frzs b ob _ qb)).1
        rw [e] at e1
        cases e1
        exact e2
  match hk : K.lookup a with
  | some o =>
    have e := KX a o hk
    rw [ha] at e
    cases e
    apply core fun _ => none
    · intro b u z
      cases z
    · exact .inr ⟨_, vs.toArray, _, hk, rfl, rfl, rfl, by rw [List.size_toArray, lv]; exact hl, by simpa using rv⟩
    · intro b u z
      cases (z : (none : Option HO) = some u)
  | none =>
    let Hs : Hp := fun b => if b = a then some (.frz { cls := .type "list", data := .seq vs.toArray } (.lst (ns.map V.int))) else none
    have at_ : Hs a = some (.frz { cls := .type "list", data := .seq vs.toArray } (.lst (ns.map V.int))) := if_pos rfl
    have off : ∀ b u, Hs b = some u → b = a := fun b u z => Classical.byContradiction fun n => by
      rw [show Hs b = none from if_neg n] at z
      cases z
    apply core Hs
    · intro b u z
      obtain rfl := off b u z
      rw [at_] at z
      cases z
      exact ⟨rfl, hk, _, _, rfl⟩
    · exact .inl (.inr ⟨_, at_⟩)
    · intro b u z
      obtain rfl := off b u z
      rw [at_] at z
      cases z
      exact ⟨ha, by rw [List.length_map]; exact hl, vs, _, rv, ha⟩
theorem walk_ofG {l : PySem.W.OpenLaw} {n k : Nat} {q : Program} {loose : List Str} {XP : (Str → Option Value) → Heap → Prop} {YP : World → Heap → Prop} {d : DefRec} {x : Str}
    (hn : l.most = some n) (hn2 : n ≤ sizeLine) (hdf : d.params.defaults = []) (hr : Room k callerA)
    (F : ∀ (w : World) (mg : Str → Option Value) (fa : Addr) (h : Heap), YP w h → h.Ns mainGlobals mg → mg d.name = some (.ref fa) →
      ∃ (K : PySem.W.Frag) (fd : FuncData) (sp : Sp), K.In h ∧ (∀ (s : Shared) (u : Value), BindsTo s fd ⟨[u], []⟩ [(x, u)]) ∧
        (∀ (H : Hp) (a : Addr) (ns : List Int), ns.length ≤ n → SqL K H a (ns.map V.int) → sp [.ref a] H (fun v _ => v = .bl true) fun _ _ _ => False) ∧
        ∀ base : Heap, K.In base → base.Ns mainGlobals mg → FnOkG l.prog w K mg base CX0 k fa fd [x] sp) :
    PySem.W.WalkO q loose XP YP l.row.toRowW d [] (fun f vs => PySem.call f vs) := by
  apply Att.attach_call hn hdf
  intro w s0 s1 mg mb fa o pm cd doc a vs ns G Y ho hd hcd hmg hobj hints hlen hg
  obtain ⟨K, fd, sp, KX, bt, hsp, hF⟩ := F w mg fa _ Y G.T.g hmg
  exact law_callG KX G.T.g G.T.b G.T.builtins G.T.nolimit hg hobj hints (Nat.le_trans hlen hn2) hr hF bt fun H hS => hsp H a ns hlen hS
/-- a def of the module by any promise -/
def FnS (P : Program) (wd : World) (K : PySem.W.Frag) (mg : Str → Option Value) (base : Heap) (nm : Str) (ps : List Str) (k : Nat) (sp : Sp) : Prop :=
  ∃ fd, FnOk P wd K mg base CX0 k (He.ga K nm) fd ps sp ∧ Binds K fd ps [] ∧ PySem.W.keepIn K (.ref (He.ga K nm)) = true ∧ mg nm = some (.ref (He.ga K nm))
end DL
set_option maxHeartbeats 4000000
namespace DL
open PySem PySem.Spec PyProof.Rows L2
/-! ### the head's hook with further facts -/
abbrev AlQ : Type := He.AlD × Bool
def obsQ (n : Nat) (fa : List He.Fa) (fn : List He.DefD) (ex : PySem.W.Frag → Bool) (g : Addr → Option Obj) : AlQ := (He.obsD fa fn (He.frG g (He.asD g n)), ex (He.frG g (He.asD g n)))
def hookQ (n : Nat) (fa : List He.Fa) (fn : List He.DefD) (ex : PySem.W.Frag → Bool) : PySem.W.Hook where
  α := AlQ
  obs := fun s => obsQ n fa fn ex s.heap.get?
  val := fun _ => (He.valD fn, true)
  says := fun _ h => ∃ K : PySem.W.Frag, K.In h ∧ He.SaysD fa fn K ∧ ex K = true
  of := fun _ _ e => ⟨_, He.frG_in, congrArg (fun z : AlQ => z.1) e, congrArg (fun z : AlQ => z.2) e⟩
  keeps := fun _ _ _ ⟨K, hK, c⟩ k => ⟨K, PySem.W.Frag.In.keeps hK k, c⟩
theorem obsQ_eq {n : Nat} {fa : List He.Fa} {fn : List He.DefD} {ex : PySem.W.Frag → Bool} {g : Addr → Option Obj} {s : Shared} (h : ∀ a, g a = s.heap.get? a) : obsQ n fa fn ex g = (hookQ n fa fn ex).obs s := by
  have e : g = s.heap.get? := funext h
  rw [e]
  rfl
/-- a class: no own unequal, its instances' type -/
def clsX (K : PySem.W.Frag) (cn : Str) : Bool :=
  He.eqO (PySem.W.findIn K (.ref (He.ga K cn)) "__ne__") (some (some (.builtin "object.__ne__"))) && decide (PySem.W.subIn K (.ref (He.ga K cn)) (.type "object") = some true) &&
  (He.eqO (PySem.W.findIn K (.ref (He.ga K cn)) "__class__") (some (some (.builtin "object.__class__"))) && He.eqO (PySem.W.specialIn K (.builtin "object.__class__") "__get__") (some (some (.builtin "getset_descriptor.__get__"))) &&
  decide (PySem.W.takesIn K (.builtin "object.__class__") = some true) && decide (PySem.W.mroIn K (He.ga K cn) (.type "object") = some true) &&
  ["NoneType", "bool", "int", "str", "tuple", "list", "dict"].all fun T => decide (PySem.W.kitOne K (.type T) (.ref (He.ga K cn)) = some false))
theorem clsX_ok {K : PySem.W.Frag} {cn : Str} (c : Cls K (He.ga K cn)) (h : clsX K cn = true) : NoNe K cn ∧ IsC K cn := by
  unfold clsX at h
  simp only [Bool.and_eq_true, decide_eq_true_eq, List.all_eq_true] at h
  obtain ⟨⟨h1, h2⟩, ⟨⟨⟨h3, h4⟩, h5⟩, h6⟩, h7⟩ := h
  exact ⟨⟨He.eqO_ok h1, h2⟩, ⟨⟨c, He.eqO_ok h3, He.eqO_ok h4, h5, h6⟩, h7⟩⟩
theorem st_m {w : WS} {C : Ct} {N : List Str} {m : Nat} (h : ∀ x ds n R, ds.length = m → C x ds n R → w x { nx := fun _ n => R .non n, rt := R } (st0 ds N) n) :
    ∀ x ds n R, ds.length = m → C x ds n R → w x { nx := fun _ n => R .non n, rt := R } (ds.map Sl.dt ++ List.replicate (N.length - m) Sl.un) n := fun x ds n R hl hc => by
  have := h x ds n R hl hc
  subst hl
  exact this
theorem start_next {K : PySem.W.Frag} {E : XK} {N : List Str} (hN : N.length = 6) (vs : List V) (H : Hp) (Q : VK) (h : spU K 2 C_L_next vs H Q E) : t_next K { nx := fun _ H' => Q .non H', rt := Q } (L2.start N vs) H := by
  have hl := spU_len h
  have := pure_next vs H Q h
  have e : L2.start N vs = vs.map some ++ [none, none, none, none] := by
    unfold L2.start
    rw [hN, hl]
    rfl
  rw [e]
  exact this
theorem spBegin_len {K : PySem.W.Frag} {E : XK} {vs : List V} {H : Hp} {Q : VK} (h : spBegin K vs H Q E) : vs.length = 1 := by
  obtain ⟨a, ns, rfl, _⟩ := h
  rfl
theorem start_begin {K : PySem.W.Frag} {E : XK} {N : List Str} (hN : N.length = 1) (vs : List V) (H : Hp) (Q : VK) (h : spBegin K vs H Q E) : t_begin K { nx := fun _ H' => Q .non H', rt := Q } (L2.start N vs) H := by
  have hl := spBegin_len h
  have := pure_begin vs H Q h
  have e : L2.start N vs = vs.map some := by
    unfold L2.start
    rw [hN, hl]
    simp
  rw [e]
  exact this
theorem spLaw_len {K : PySem.W.Frag} {E : XK} {vs : List V} {H : Hp} {Q : VK} (h : spLaw K vs H Q E) : vs.length = 1 := by
  obtain ⟨a, ns, rfl, _⟩ := h
  rfl
end DL
set_option maxHeartbeats 4000000
namespace DL
open PySem PySem.Spec PyProof.Rows L2
/-! ### points and edges -/
abbrev Pt := Int × Int
def pt (p : Pt) : D := .tup [.int p.1, .int p.2]
def ed (e : Pt × Pt) : D := .tup [pt e.1, pt e.2]
/-- within bounds -/
structure Bd (p : Pt) : Prop where
  x0 : -10000000 ≤ p.1
  x1 : p.1 ≤ 10000000
  y0 : -10000000 ≤ p.2
  y1 : p.2 ≤ 10000000
def turn (o a b : Pt) : Int := (a.1 - o.1) * (b.2 - o.2) - (a.2 - o.2) * (b.1 - o.1)
def prod (o a b : Pt) : Int := (a.1 - o.1) * (b.1 - o.1) + (a.2 - o.2) * (b.2 - o.2)
def ltP (p q : Pt) : Bool := HT.lexLt [p.1, p.2] [q.1, q.2]
def ordE (e : Pt × Pt) : Pt × Pt := if ltP e.1 e.2 = true then e else (e.2, e.1)
def apartI (i j : Int) : Bool := (decide (0 < i) && decide (0 < j)) || (decide (i < 0) && decide (j < 0))
def overW (e o : Pt × Pt) : Bool :=
  let a := ordE e
  let b := ordE o
  let low := if ltP b.1 a.1 = true then a.1 else b.1
  let high := if ltP b.2 a.2 = true then b.2 else a.2
  !ltP low high
def meetW (e o : Pt × Pt) : Bool :=
  let a := ordE e
  let b := ordE o
  if decide (a = b) = true then true
  else if (decide (turn a.1 a.2 b.1 = 0) && decide (turn a.1 a.2 b.2 = 0) && decide (turn b.1 b.2 a.1 = 0) && decide (turn b.1 b.2 a.2 = 0)) = true then overW e o
  else if (apartI (turn a.1 a.2 b.1) (turn a.1 a.2 b.2) || apartI (turn b.1 b.2 a.1) (turn b.1 b.2 a.2)) = true then true
  else (decide (b.1 = a.1) || decide (b.1 = a.2)) || (decide (b.2 = a.1) || decide (b.2 = a.2))
def offP (p a b : Pt) : Int × Int :=
  let size := prod a b b
  let far := prod a b p
  if far ≤ 0 then (prod a p p, 1) else if size ≤ far then (prod b p p, 1) else (turn a b p ^ 2, size)
def fr (q : Int × Int) : D := .tup [.int q.1, .int q.2]
/-- a slack by its two numbers -/
def slk (q : Int × Int) : D := .ins "Slack" ["own_num", "own_den"] [.int q.1, .int q.2]
/-- in lowest terms -/
def low (q : Int × Int) : Int × Int := (q.1 / (Int.gcd q.1 q.2 : Int), q.2 / (Int.gcd q.1 q.2 : Int))
/-! ### contracts -/
def C_turning : Ct := fun _ ds n R => ∃ o a b : Pt, ds = [pt o, pt a, pt b] ∧ Bd o ∧ Bd a ∧ Bd b ∧ R (.int (turn o a b)) n
def C_product : Ct := fun _ ds n R => ∃ o a b : Pt, ds = [pt o, pt a, pt b] ∧ Bd o ∧ Bd a ∧ Bd b ∧ R (.int (prod o a b)) n
def C_in_order : Ct := fun _ ds n R => ∃ e : Pt × Pt, ds = [ed e] ∧ R (ed (ordE e)) n
def C_are_apart : Ct := fun _ ds n R => ∃ i j : Int, ds = [.int i, .int j] ∧ R (.bl (apartI i j)) n
def C_overlap_well : Ct := fun _ ds n R => ∃ e o : Pt × Pt, ds = [ed e, ed o] ∧ R (.bl (overW e o)) n
def C_meet_well : Ct := fun _ ds n R => ∃ e o : Pt × Pt, ds = [ed e, ed o] ∧ Bd e.1 ∧ Bd e.2 ∧ Bd o.1 ∧ Bd o.2 ∧ R (.bl (meetW e o)) n
def C_offset_parts : Ct := fun _ ds n R => ∃ p a b : Pt, ds = [pt p, pt a, pt b] ∧ Bd p ∧ Bd a ∧ Bd b ∧ R (fr (offP p a b)) n
def C_offset_of : Ct := fun _ ds n R => ∃ (p : Pt) (e : Pt × Pt), ds = [pt p, ed e] ∧ Bd p ∧ Bd e.1 ∧ Bd e.2 ∧ R (slk (low (offP p e.1 e.2))) n
def C_is_integer : Ct := fun _ ds n R => ∃ d a, ds = [d] ∧ tyN d = some a ∧ R (.bl (decide (a = "int"))) n
def C_common : Ct := fun _ ds n R => ∃ a b : Int, ds = [.int a, .int b] ∧ 0 ≤ a ∧ 0 ≤ b ∧ R (.int (Int.gcd a b)) n
def C_Slack_init : Ci := fun _ ds n R => ∃ a b : Int, ds = [.int a, .int b] ∧ 0 ≤ a ∧ 1 ≤ b ∧ b < 2 ^ 250 ∧ R ["own_num", "own_den"] [.int (low (a, b)).1, .int (low (a, b)).2] n
def C_Slack_eq : Ct := fun _ ds n R => ∃ p q : Int × Int, ds = [slk p, slk q] ∧ R (.bl (decide (p = q))) n
/-! the law's own -/
def C_L_pick : Ct := fun _ ds n R => ∃ xs, ds = [.drw, .lst xs] ∧ xs ≠ [] ∧ xs.length ≤ 1000000 ∧ 1 ≤ n ∧ ∀ d, d ∈ xs → R d (n - 1)
def C_L_cross : Ct := C_turning
def liesL (s : Pt) (e : Pt × Pt) : Bool := if decide (turn e.1 e.2 s = 0) = true then decide ((e.1.1 - s.1) * (e.2.1 - s.1) ≤ 0) && decide ((e.1.2 - s.2) * (e.2.2 - s.2) ≤ 0) else false
def C_L_lies : Ct := fun _ ds n R => ∃ (s : Pt) (e : Pt × Pt), ds = [pt s, ed e] ∧ Bd s ∧ Bd e.1 ∧ Bd e.2 ∧ R (.bl (liesL s e)) n
/-- a point of near that is no point of rest lies on rest -/
def touL (near rest : Pt × Pt) : Bool := ([near.1, near.2].filter fun k => !(decide (rest.1 = k) || decide (rest.2 = k))).any fun k => liesL k rest
def meetL (e o : Pt × Pt) : Bool :=
  if (decide (o = e) || decide ((o.2, o.1) = e)) = true then true
  else if touL e o = true then false
  else if touL o e = true then false
  else if decide (0 ≤ turn e.1 e.2 o.1 * turn e.1 e.2 o.2) = true then true
  else decide (0 ≤ turn o.1 o.2 e.1 * turn o.1 o.2 e.2)
def C_L_meet : Ct := fun _ ds n R => ∃ e o : Pt × Pt, ds = [ed e, ed o] ∧ Bd e.1 ∧ Bd e.2 ∧ Bd o.1 ∧ Bd o.2 ∧ R (.bl (meetL e o)) n
def offL (s a b : Pt) : Int × Int :=
  let x := b.1 - a.1
  let y := b.2 - a.2
  let l := s.1 - a.1
  let u := s.2 - a.2
  if l * x + u * y ≤ 0 ∨ x * x + y * y = 0 then (l * l + u * u, 1)
  else if x * x + y * y ≤ l * x + u * y then ((s.1 - b.1) * (s.1 - b.1) + (s.2 - b.2) * (s.2 - b.2), 1)
  else ((l * l + u * u) * (x * x + y * y) - (l * x + u * y) ^ 2, x * x + y * y)
def C_L_offset : Ct := fun _ ds n R => ∃ s a b : Pt, ds = [pt s, pt a, pt b] ∧ Bd s ∧ Bd a ∧ Bd b ∧ R (fr (offL s a b)) n
def C_L_spot : Ct := fun _ ds n R => ∃ f : Int, ds = [.drw, .int f] ∧ 0 ≤ f ∧ f ≤ 1000000 ∧ 2 ≤ n ∧ ∀ i j : Int, 0 ≤ i → i < 6 → 0 ≤ j → j < 6 → R (pt (i * f, j * f - 3)) (n - 2)
theorem calm_L_pick : Calm C_L_pick := fun _ _ _ _ _ h => h
theorem calm_L_cross : Calm C_L_cross := fun _ _ _ _ _ h => h
theorem calm_L_lies : Calm C_L_lies := fun _ _ _ _ _ h => h
theorem calm_L_meet : Calm C_L_meet := fun _ _ _ _ _ h => h
theorem calm_L_offset : Calm C_L_offset := fun _ _ _ _ _ h => h
theorem calm_L_spot : Calm C_L_spot := fun _ _ _ _ _ h => h
theorem calm_turning : Calm C_turning := fun _ _ _ _ _ h => h
theorem calm_product : Calm C_product := fun _ _ _ _ _ h => h
theorem calm_in_order : Calm C_in_order := fun _ _ _ _ _ h => h
theorem calm_are_apart : Calm C_are_apart := fun _ _ _ _ _ h => h
theorem calm_overlap_well : Calm C_overlap_well := fun _ _ _ _ _ h => h
theorem calm_meet_well : Calm C_meet_well := fun _ _ _ _ _ h => h
theorem calm_offset_parts : Calm C_offset_parts := fun _ _ _ _ _ h => h
theorem calm_offset_of : Calm C_offset_of := fun _ _ _ _ _ h => h
theorem calm_is_integer : Calm C_is_integer := fun _ _ _ _ _ h => h
theorem calm_common : Calm C_common := fun _ _ _ _ _ h => h
theorem calm_Slack_init : CalmI C_Slack_init := fun _ _ _ _ _ h => h
end DL
set_option maxHeartbeats 4000000
namespace DL
open PySem PySem.Spec PyProof.Rows L2
theorem pt_inj (p q : Pt) : (pt p = pt q) = (p = q) := by
  obtain ⟨a, b⟩ := p; obtain ⟨c, d⟩ := q
  simp [pt]
theorem ed_inj (p q : Pt × Pt) : (ed p = ed q) = (p = q) := by
  obtain ⟨a, b⟩ := p; obtain ⟨c, d⟩ := q
  simp only [ed, D.tup.injEq, List.cons.injEq, pt_inj, and_true, Prod.mk.injEq]
theorem slk_inj (p q : Int × Int) : (slk p = slk q) = (p = q) := by
  obtain ⟨a, b⟩ := p; obtain ⟨c, d⟩ := q
  simp [slk]
theorem fr_inj (p q : Int × Int) : (fr p = fr q) = (p = q) := pt_inj p q
theorem r_pt0 (p : Pt) (k : D → Prop) : oIx (pt p) (.int 0) k = k (.int p.1) := r_ixT0 _ _ _
theorem r_pt1 (p : Pt) (k : D → Prop) : oIx (pt p) (.int 1) k = k (.int p.2) := r_ixT1 _ _ _ _
theorem r_fr0 (p : Pt) (k : D → Prop) : oIx (fr p) (.int 0) k = k (.int p.1) := r_ixT0 _ _ _
theorem r_fr1 (p : Pt) (k : D → Prop) : oIx (fr p) (.int 1) k = k (.int p.2) := r_ixT1 _ _ _ _
theorem r_ed0 (e : Pt × Pt) (k : D → Prop) : oIx (ed e) (.int 0) k = k (pt e.1) := r_ixT0 _ _ _
theorem r_ed1 (e : Pt × Pt) (k : D → Prop) : oIx (ed e) (.int 1) k = k (pt e.2) := r_ixT1 _ _ _ _
theorem r_g2pt (i j : Nat) (p : Pt) (η : List Sl) (k : List Sl → Prop) : gTp 2 (gsCons (gNm i) (gsCons (gNm j) gsNil)) (pt p) η k = k ((η.set i (.dt (.int p.1))).set j (.dt (.int p.2))) := r_g2 _ _ _ _ _ _
theorem r_g2fr (i j : Nat) (p : Pt) (η : List Sl) (k : List Sl → Prop) : gTp 2 (gsCons (gNm i) (gsCons (gNm j) gsNil)) (fr p) η k = k ((η.set i (.dt (.int p.1))).set j (.dt (.int p.2))) := r_g2 _ _ _ _ _ _
theorem r_g2ed (i j : Nat) (e : Pt × Pt) (η : List Sl) (k : List Sl → Prop) : gTp 2 (gsCons (gNm i) (gsCons (gNm j) gsNil)) (ed e) η k = k ((η.set i (.dt (pt e.1))).set j (.dt (pt e.2))) := r_g2 _ _ _ _ _ _
theorem ed_mk (a b : Pt) : D.tup [pt a, pt b] = ed (a, b) := rfl
theorem r_ltP (p q : Pt) (k : D → Prop) : oLt (pt p) (pt q) k = k (.bl (ltP p q)) := by
  simp [pt, oLt, intsOf, ltP]
theorem lay_pt (p : Pt) : Lay (pt p) := rfl
theorem lay_ed (p : Pt × Pt) : Lay (ed p) := rfl
theorem lay_ed2 (p q : Pt × Pt) : Lay (.tup [ed p, ed q]) := rfl
theorem deq_pt (p q : Pt) : deq (pt p) (pt q) = decide (p = q) := by
  obtain ⟨a, b⟩ := p; obtain ⟨c, d⟩ := q
  unfold deq pt
  simp only [py, pyL, PyData.eqv, PyData.eqvAll]
  by_cases h : a = c <;> by_cases h' : b = d <;> simp [h, h']
theorem deq_ed (p q : Pt × Pt) : deq (ed p) (ed q) = decide (p = q) := by
  obtain ⟨a, b⟩ := p; obtain ⟨c, d⟩ := q
  have e1 := deq_pt a c
  have e2 := deq_pt b d
  unfold deq at *
  unfold ed
  simp only [py, pyL, PyData.eqv, PyData.eqvAll] at *
  rw [e1, e2]
  by_cases h : a = c <;> by_cases h' : b = d <;> simp [h, h']
theorem r_eqP (p q : Pt) (k : D → Prop) : oEq (pt p) (pt q) k = k (.bl (decide (p = q))) := by
  unfold oEq; rw [deq_pt]; simp [lay_pt]
theorem r_neP (p q : Pt) (k : D → Prop) : oNe (pt p) (pt q) k = k (.bl (!decide (p = q))) := by
  unfold oNe; rw [deq_pt]; simp [lay_pt]
theorem r_eqE (p q : Pt × Pt) (k : D → Prop) : oEq (ed p) (ed q) k = k (.bl (decide (p = q))) := by
  unfold oEq; rw [deq_ed]; simp [lay_ed]
theorem r_inE (p : Pt) (e : Pt × Pt) (k : D → Prop) : oIn (pt p) (ed e) k = k (.bl (decide (e.1 = p) || decide (e.2 = p))) := by
  unfold oIn ed
  simp only [dIn, List.any, deq_pt]
  rw [show (Lay (.tup [pt e.1, pt e.2])) = True from eq_true (lay_ed e), show Lay (pt p) = True from eq_true (lay_pt p)]
  simp
theorem r_notInE (p : Pt) (e : Pt × Pt) (k : D → Prop) : oNotIn (pt p) (ed e) k = k (.bl (!(decide (e.1 = p) || decide (e.2 = p)))) := by
  unfold oNotIn ed
  simp only [dIn, List.any, deq_pt]
  rw [show (Lay (.tup [pt e.1, pt e.2])) = True from eq_true (lay_ed e), show Lay (pt p) = True from eq_true (lay_pt p)]
  simp
theorem r_inEE (p a b : Pt × Pt) (k : D → Prop) : oIn (ed p) (.tup [ed a, ed b]) k = k (.bl (decide (a = p) || decide (b = p))) := by
  unfold oIn
  simp only [dIn, List.any, deq_ed]
  rw [show (Lay (.tup [ed a, ed b])) = True from eq_true (lay_ed2 a b), show Lay (ed p) = True from eq_true (lay_ed p)]
  simp
theorem rv_ed (e : Pt × Pt) (k : D → Prop) : rvD (ed e) k = k (ed (e.2, e.1)) := rfl
theorem layN_pt (p : Pt) : LayN 1 (pt p) := ⟨rfl, Nat.le_refl _⟩
theorem layN_ed (e : Pt × Pt) : LayN 2 (ed e) := ⟨rfl, Nat.le_refl _⟩
theorem layN_pts {k : Nat} (hk : 1 ≤ k) (xs : List Pt) : LayN (k + 1) (.lst (xs.map pt)) := LayN.lst fun d h => by
  obtain ⟨p, _, rfl⟩ := List.mem_map.1 h
  exact (layN_pt p).mono hk
theorem r_sqE (e : Pt × Pt) (k : List D → Prop) : seqOf (ed e) k = k [pt e.1, pt e.2] := rfl
theorem r_ne0 (k : D → Prop) : oNe (.lst []) (.lst []) k = k (.bl false) := by
  have : Lay (.lst []) := rfl
  have e : deq (.lst []) (.lst []) = true := rfl
  unfold oNe; rw [e]; simp [this]
theorem r_ne1 (a : Pt) (k : D → Prop) : oNe (.lst [pt a]) (.lst []) k = k (.bl true) := by
  have : Lay (.lst []) := rfl
  have h : Lay (.lst [pt a]) := rfl
  have e : deq (.lst [pt a]) (.lst []) = false := rfl
  unfold oNe; rw [e]; simp [this, h]
theorem r_ne2 (a b : Pt) (k : D → Prop) : oNe (.lst [pt a, pt b]) (.lst []) k = k (.bl true) := by
  have : Lay (.lst []) := rfl
  have h : Lay (.lst [pt a, pt b]) := rfl
  have e : deq (.lst [pt a, pt b]) (.lst []) = false := rfl
  unfold oNe; rw [e]; simp [this, h]
theorem r_eqL4 (a b c d a' b' c' d' : Int) (k : D → Prop) : oEq (.lst [.int a, .int b, .int c, .int d]) (.lst [.int a', .int b', .int c', .int d']) k = k (.bl (decide (a = a') && decide (b = b') && decide (c = c') && decide (d = d'))) := by
  have h : Lay (.lst [.int a, .int b, .int c, .int d]) := rfl
  have h' : Lay (.lst [.int a', .int b', .int c', .int d']) := rfl
  have e : deq (.lst [.int a, .int b, .int c, .int d]) (.lst [.int a', .int b', .int c', .int d']) = (decide (a = a') && decide (b = b') && decide (c = c') && decide (d = d')) := by
    unfold deq
    simp only [py, pyL, PyData.eqv, PyData.eqvAll]
    by_cases h1 : a = a' <;> by_cases h2 : b = b' <;> by_cases h3 : c = c' <;> by_cases h4 : d = d' <;> simp [h1, h2, h3, h4]
  unfold oEq; rw [e]; simp [h, h']
/-! ### the contracts as rules -/
theorem c_in_order (x : Xn) (e : Pt × Pt) (n : Nat) (R : D → Nat → Prop) : C_in_order x [ed e] n R = R (ed (ordE e)) n := by
  simp only [C_in_order, List.cons.injEq, ed_inj, and_true, exists_eq_left']
theorem c_turning (x : Xn) (o a b : Pt) (n : Nat) (R : D → Nat → Prop) : C_turning x [pt o, pt a, pt b] n R = (Bd o ∧ Bd a ∧ Bd b ∧ R (.int (turn o a b)) n) := by
  simp only [C_turning, List.cons.injEq, pt_inj, and_true, and_assoc, exists_and_left, exists_eq_left']
theorem c_product (x : Xn) (o a b : Pt) (n : Nat) (R : D → Nat → Prop) : C_product x [pt o, pt a, pt b] n R = (Bd o ∧ Bd a ∧ Bd b ∧ R (.int (prod o a b)) n) := by
  simp only [C_product, List.cons.injEq, pt_inj, and_true, and_assoc, exists_and_left, exists_eq_left']
theorem c_cross (x : Xn) (o a b : Pt) (n : Nat) (R : D → Nat → Prop) : C_L_cross x [pt o, pt a, pt b] n R = (Bd o ∧ Bd a ∧ Bd b ∧ R (.int (turn o a b)) n) := c_turning ..
theorem c_are_apart (x : Xn) (i j : Int) (n : Nat) (R : D → Nat → Prop) : C_are_apart x [.int i, .int j] n R = R (.bl (apartI i j)) n := by
  simp only [C_are_apart, List.cons.injEq, D.int.injEq, and_true, and_assoc, exists_and_left, exists_eq_left']
theorem c_overlap_well (x : Xn) (e o : Pt × Pt) (n : Nat) (R : D → Nat → Prop) : C_overlap_well x [ed e, ed o] n R = R (.bl (overW e o)) n := by
  simp only [C_overlap_well, List.cons.injEq, ed_inj, and_true, and_assoc, exists_and_left, exists_eq_left']
theorem c_meet_well (x : Xn) (e o : Pt × Pt) (n : Nat) (R : D → Nat → Prop) : C_meet_well x [ed e, ed o] n R = (Bd e.1 ∧ Bd e.2 ∧ Bd o.1 ∧ Bd o.2 ∧ R (.bl (meetW e o)) n) := by
  simp only [C_meet_well, List.cons.injEq, ed_inj, and_true, and_assoc, exists_and_left, exists_eq_left']
theorem c_offset_parts (x : Xn) (p a b : Pt) (n : Nat) (R : D → Nat → Prop) : C_offset_parts x [pt p, pt a, pt b] n R = (Bd p ∧ Bd a ∧ Bd b ∧ R (fr (offP p a b)) n) := by
  simp only [C_offset_parts, List.cons.injEq, pt_inj, and_true, and_assoc, exists_and_left, exists_eq_left']
theorem c_offset_of (x : Xn) (p : Pt) (e : Pt × Pt) (n : Nat) (R : D → Nat → Prop) : C_offset_of x [pt p, ed e] n R = (Bd p ∧ Bd e.1 ∧ Bd e.2 ∧ R (slk (low (offP p e.1 e.2))) n) := by
  simp only [C_offset_of, List.cons.injEq, pt_inj, ed_inj, and_true, and_assoc, exists_and_left, exists_eq_left']
theorem c_is_integer (x : Xn) (i : Int) (n : Nat) (R : D → Nat → Prop) : C_is_integer x [.int i] n R = R (.bl true) n := by
  simp [C_is_integer, tyN]
theorem c_common (x : Xn) (i j : Int) (n : Nat) (R : D → Nat → Prop) : C_common x [.int i, .int j] n R = (0 ≤ i ∧ 0 ≤ j ∧ R (.int (Int.gcd i j)) n) := by
  simp only [C_common, List.cons.injEq, D.int.injEq, and_true, and_assoc, exists_and_left, exists_eq_left']
theorem c_Slack_init (x : Xn) (i j : Int) (n : Nat) (R : List Str → List D → Nat → Prop) : C_Slack_init x [.int i, .int j] n R = (0 ≤ i ∧ 1 ≤ j ∧ j < 2 ^ 250 ∧ R ["own_num", "own_den"] [.int (low (i, j)).1, .int (low (i, j)).2] n) := by
  simp only [C_Slack_init, List.cons.injEq, D.int.injEq, and_true, and_assoc, exists_and_left, exists_eq_left']
theorem c_L_lies (x : Xn) (p : Pt) (e : Pt × Pt) (n : Nat) (R : D → Nat → Prop) : C_L_lies x [pt p, ed e] n R = (Bd p ∧ Bd e.1 ∧ Bd e.2 ∧ R (.bl (liesL p e)) n) := by
  simp only [C_L_lies, List.cons.injEq, pt_inj, ed_inj, and_true, and_assoc, exists_and_left, exists_eq_left']
theorem c_L_meet (x : Xn) (e o : Pt × Pt) (n : Nat) (R : D → Nat → Prop) : C_L_meet x [ed e, ed o] n R = (Bd e.1 ∧ Bd e.2 ∧ Bd o.1 ∧ Bd o.2 ∧ R (.bl (meetL e o)) n) := by
  simp only [C_L_meet, List.cons.injEq, ed_inj, and_true, and_assoc, exists_and_left, exists_eq_left']
theorem c_L_offset (x : Xn) (p a b : Pt) (n : Nat) (R : D → Nat → Prop) : C_L_offset x [pt p, pt a, pt b] n R = (Bd p ∧ Bd a ∧ Bd b ∧ R (fr (offL p a b)) n) := by
  simp only [C_L_offset, List.cons.injEq, pt_inj, and_true, and_assoc, exists_and_left, exists_eq_left']
theorem c_L_spot (x : Xn) (f : Int) (n : Nat) (R : D → Nat → Prop) : C_L_spot x [.drw, .int f] n R = (0 ≤ f ∧ f ≤ 1000000 ∧ 2 ≤ n ∧ ∀ i j : Int, 0 ≤ i → i < 6 → 0 ≤ j → j < 6 → R (pt (i * f, j * f - 3)) (n - 2)) := by
  simp only [C_L_spot, List.cons.injEq, D.int.injEq, and_true, true_and, exists_eq_left']
theorem slk_mk (q : Int × Int) : D.ins "Slack" ["own_num", "own_den"] [.int q.1, .int q.2] = slk q := rfl
theorem r_ownNe (p q : Int × Int) (k : D → Prop) : oOwn "Slack" C_Slack_eq true (slk p) (slk q) k = k (.bl (!decide (p = q))) := by
  unfold oOwn slk
  apply propext
  constructor
  · rintro ⟨_, _, h⟩
    obtain ⟨a, b, e, h2, h3⟩ := h 0
    have e' : [slk p, slk q] = [slk a, slk b] := e
    simp only [List.cons.injEq, slk_inj, and_true] at e'
    obtain ⟨rfl, rfl⟩ := e'
    exact h3
  · intro h
    exact ⟨rfl, rfl, fun n => ⟨p, q, rfl, rfl, h⟩⟩
theorem gP_10 (a b : D) : gP D.non [1, 0] [] [a, b] = [b, a] := rfl
theorem r_rep4 (d : D) (k : D → Prop) : oRep (.lst [d]) (.int 4) k = k (.lst [d, d, d, d]) := by
  unfold oRep
  apply propext
  constructor
  · exact fun h => h.2.2.2
  · exact fun h => ⟨by decide, by decide, by show 1 * 4 ≤ sizeLine; decide, h⟩
theorem r_addL (xs ys : List D) (k : D → Prop) : oAdd (.lst xs) (.lst ys) k = (xs.length + ys.length ≤ sizeLine ∧ k (.lst (xs ++ ys))) := rfl
theorem repr_b4 (b : Bool) (k : D → Prop) (h : k (.str (py (.lst [.bl b, .bl b, .bl b, .bl b])).shown)) : bRepr [.lst [.bl b, .bl b, .bl b, .bl b]] k := by
  cases b
  · exact ⟨rfl, rfl, rfl, by decide +kernel, by decide +kernel, h⟩
  · exact ⟨rfl, rfl, rfl, by decide +kernel, by decide +kernel, h⟩
theorem ne_b4 (b : Bool) (k : D → Prop) (h : k (.bl false)) : oNe (.str (py (.lst [.bl b, .bl b, .bl b, .bl b])).shown) (.str (py (.lst [.bl b, .bl b, .bl b, .bl b])).shown) k := by
  have e : deq (.str (py (.lst [.bl b, .bl b, .bl b, .bl b])).shown) (.str (py (.lst [.bl b, .bl b, .bl b, .bl b])).shown) = true := by
    unfold deq py PyData.eqv
    simp
  unfold oNe
  rw [e]
  refine ⟨?_, ?_, h⟩ <;> cases b <;> unfold Lay <;> decide +kernel
end DL
set_option maxHeartbeats 4000000
namespace DL
open PySem PySem.Spec PyProof.Rows L2
def top (i : Nat) : Stmt := PySem.Challenge.pw_sharedborders_k03_edges_and_offsets.main.body.getD i (.Pass ⟨0, 0, 0, 0⟩)
/-- what the text has at its top -/
structure Tx (K : PySem.W.Frag) (mg : Str → Option Value) : Prop where
  z_isinstance : mg "isinstance" = none
  z_int : mg "int" = none
  z_bool : mg "bool" = none
  z_len : mg "len" = none
  z_range : mg "range" = none
  z_repr : mg "repr" = none
  g_Slack : mg "Slack" = some (.ref (He.ga K "Slack"))
  c_Slack : CF K "Slack" ["own_num", "own_den"]
  n_Slack : NoNe K "Slack"
  k_Slack : IsC K "Slack"
abbrev s_L_begin : Stmt := top 23
abbrev N_L_begin : List Str := ["_law_script"]
theorem sc_L_begin : FnScope N_L_begin ["_law_script"] (defScope s_L_begin) := ⟨rfl, rfl, rfl, by decide +kernel, rfl, by decide +kernel, by decide +kernel⟩
theorem b_L_begin {P : Program} {wd : World} {K : PySem.W.Frag} {mg : Str → Option Value} {base : Heap} (f : Addr) (cdv : Value) (A : Around) (outer : List Env) (s : Shared) (H : Hp) (E : XK) :
    PSs (cxOf CX0 P wd K mg base N_L_begin "_law_begin" (defScope s_L_begin) f cdv A outer s H E).nox (defBody s_L_begin) (t_begin K) :=
  pss_one (ps_ret (pe_disp (pps_cons pe_str (pe_op op_catS (pv 0) (pe_lst (pa_cons pe_int pa_nil))) (pps_cons pe_str pe_int (pps_cons pe_str pe_int (pps_cons pe_str pe_int pps_nil)))) rfl rfl (by simp) (by decide)))
abbrev s_L_next : Stmt := top 24
abbrev N_L_next : List Str := ["_law_draw", "_law_many", "_law_cell", "_law_cells", "_law_number", "_law_k"]
theorem sc_L_next : FnScope N_L_next ["_law_draw", "_law_many"] (defScope s_L_next) := ⟨rfl, rfl, rfl, by decide +kernel, rfl, by decide +kernel, by decide +kernel⟩
theorem b_L_next {P : Program} {wd : World} {K : PySem.W.Frag} {mg : Str → Option Value} {base : Heap} (zl : mg "len" = none) (f : Addr) (cdv : Value) (A : Around) (outer : List Env) (s : Shared) (H : Hp) (E : XK) (hr : Room 0 (A.deeper (envOfC "_law_next" (defScope s_L_next) s.heap.objs.size f cdv))) :
    PSs (cxOf CX0 P wd K mg base N_L_next "_law_next" (defScope s_L_next) f cdv A outer s H E).nox (defBody s_L_next) (t_next K) := by
  have hu : (cxOf CX0 P wd K mg base N_L_next "_law_next" (defScope s_L_next) f cdv A outer s H E).nox.A.units + 1 < cLine := by
    have := hr.units
    show (A.deeper (envOfC "_law_next" (defScope s_L_next) s.heap.objs.size f cdv)).units + 1 < cLine
    omega
  refine pss_cons (ps_if (pt_cmpR op_gt (pe_dget hu (pv 0) pe_str (fun _ _ => rfl)) pe_int (nomark _)) (pss_cons (ps_asg (pe_tup (pa_cons (pe_dget hu (pv 0) pe_str (fun _ _ => rfl)) (pa_cons (pe_op op_fdivW (pe_dget hu (pv 0) pe_str (fun _ _ => rfl)) (pv 1)) pa_nil))) (pg_tup rfl (pgs_cons (pg_name (i := 2) sc_L_next.nd rfl (Or.inl rfl)) (pgs_cons (pg_sub (pv 0) pe_str (set_dict hu)) pgs_nil)))) (pss_one (ps_ret (pe_op op_mod (pv 2) (pv 1))))) pss_nil) ?_
  refine pss_cons (ps_set (i := 3) sc_L_next.nd rfl (Or.inl rfl) (pe_dget hu (pv 0) pe_str (fun _ _ => rfl))) ?_
  refine pss_cons (ps_set (i := 2) sc_L_next.nd rfl (Or.inl rfl) (pe_ix ix_list (pv 3) (pe_op op_mod (pe_dget hu (pv 0) pe_str (fun _ _ => rfl)) (pe_callB call_len_seq (by rfl) zl PySem.boot_len (pa_cons (pv 3) pa_nil))) (fun _ _ => rfl))) ?_
  refine pss_cons (ps_dput hu (pv 0) pe_str (pe_op op_add (pe_dget hu (pv 0) pe_str (fun _ _ => rfl)) pe_int) (by rfl)) ?_
  refine pss_cons (ps_if (PW.pt (pw_and (pt_cmpR op_ge (pv 2) (pe_op op_pow pe_int pe_int) (nomark _)) (pw_and1 (pt_cmpR op_le (pe_dget hu (pv 0) pe_str (fun _ _ => rfl)) (pe_callB call_len_seq (by rfl) zl PySem.boot_len (pa_cons (pv 3) pa_nil)) (nomark _))))) (pss_cons (ps_dput hu (pv 0) pe_str (pe_op op_fdivW (pv 2) (pv 1)) (by rfl)) (pss_one (ps_ret (pe_op op_mod (pv 2) (pv 1))))) pss_nil) ?_
  refine pss_cons (ps_dput hu (pv 0) pe_str (pe_op op_add (pe_dget hu (pv 0) pe_str (fun _ _ => rfl)) pe_int) (by rfl)) ?_
  refine pss_cons (ps_set (i := 4) sc_L_next.nd rfl (Or.inl rfl) (pe_op op_add (pe_op op_mod (pv 2) pe_int) (pe_op op_mul (pe_op op_mul pe_int (pe_dget hu (pv 0) pe_str (fun _ _ => rfl))) (pe_dget hu (pv 0) pe_str (fun _ _ => rfl))))) ?_
  refine pss_cons (ps_for PassesOwn.never rfl (pi_tup (pe_tup (pa_cons (pe_dget hu (pv 0) pe_str (fun _ _ => rfl)) (pa_cons (pe_dget hu (pv 0) pe_str (fun _ _ => rfl)) pa_nil)))) (pg_name (i := 5) sc_L_next.nd rfl (Or.inl rfl)) ?_) ?_
  · refine pss_cons (ps_set (i := 4) sc_L_next.nd rfl (Or.inl rfl) (pe_op op_mod (pe_op op_mul (pe_op op_add (pe_op op_add (pv 4) (pe_op op_mul pe_int (pv 5))) pe_int) pe_int) pe_int)) ?_
    exact pss_one (ps_set (i := 4) sc_L_next.nd rfl (Or.inl rfl) (pe_op op_mod (pe_op op_mul (pv 4) (pe_op op_add pe_int (pe_op op_mul pe_int (pe_op op_mod (pv 5) pe_int)))) pe_int))
  · exact pss_one (ps_ret (pe_op op_mod (pe_op op_fdiv (pv 4) pe_int) (pv 1)))

/-! ### is_integer -/
abbrev s_is_integer : Stmt := top 1
abbrev N_is_integer : List Str := ["thing"]
theorem sc_is_integer : FnScope N_is_integer ["thing"] (defScope s_is_integer) := ⟨rfl, rfl, rfl, by decide +kernel, rfl, by decide +kernel, by decide +kernel⟩
def w_is_integer : WS := (sRet (eAndV (eIsB "int" (eVarB 0)) (eNotV (eIsB "bool" (eVarB 0)))))
theorem b_is_integer {P : Program} {wd : World} {K : PySem.W.Frag} {mg : Str → Option Value} {base : Heap} (T : Tx K mg)  (f : Addr) (cdv : Value) (A : Around) (outer : List Env) (s : Shared) (H : Hp) (E : XK) (hr : Room 0 (A.deeper (envOfC "is_integer" (defScope s_is_integer) s.heap.objs.size f cdv))) :
    PSs (cxOf CX0 P wd K mg base N_is_integer "is_integer" (defScope s_is_integer) f cdv A outer s H E).nox (defBody s_is_integer) (upS K E w_is_integer) :=
  (qss_one (qs_ret (q_and (q_isB (cls_arg (by rfl) T.z_int (by decide +kernel)) (by rfl) T.z_isinstance (qb_v 0 (pv 0))) (q_one (q_not (q_isB (cls_arg (by rfl) T.z_bool (by decide +kernel)) (by rfl) T.z_isinstance (qb_v 0 (pv 0))))))))
/-! ### common -/
abbrev s_common : Stmt := top 9
abbrev N_common : List Str := ["one", "other"]
theorem sc_common : FnScope N_common ["one", "other"] (defScope s_common) := ⟨rfl, rfl, rfl, by decide +kernel, rfl, by decide +kernel, by decide +kernel⟩
def w_common : WS := (sSeq (sWhile (wTest (eBin oGt (eVarB 1) (eC (.int 0)))) (sPar 0 1 (aCons (eVar 1) (aCons (eBin oMod (eVarB 0) (eVarB 1)) aNil))))
    (sRet (eVar 0)))
theorem b_common {P : Program} {wd : World} {K : PySem.W.Frag} {mg : Str → Option Value} {base : Heap} (T : Tx K mg)  (f : Addr) (cdv : Value) (A : Around) (outer : List Env) (s : Shared) (H : Hp) (E : XK) (hr : Room 0 (A.deeper (envOfC "common" (defScope s_common) s.heap.objs.size f cdv))) :
    PSs (cxOf CX0 P wd K mg base N_common "common" (defScope s_common) f cdv A outer s H E).nox (defBody s_common) (upS K E w_common) :=
  (qss_cons (qs_while PassesOwn.never (qt_cmp op_gt opd_gt (qb_v 1 (pv 1)) (qb q_int) (nomark _)) (qss_one (qs_par (i := 0) (j := 1) rfl sc_common.nd rfl rfl (by decide) rfl rfl (qa_cons (q_v 1 (pv 1)) (qa_cons (q_op op_mod opd_mod (qb_v 0 (pv 0)) (qb_v 1 (pv 1))) qa_nil)) (by rfl))))
    (qss_one (qs_ret (q_v 0 (pv 0)))))
/-! ### Slack.__init__ -/
abbrev s_Slack__init_ : Stmt := inClass (top 12) 0
abbrev N_Slack__init_ : List Str := ["self", "num", "den", "shared"]
theorem sc_Slack__init_ : FnScope N_Slack__init_ ["self", "num", "den"] (defScope s_Slack__init_) := ⟨rfl, rfl, rfl, by decide +kernel, rfl, by decide +kernel, by decide +kernel⟩
def w_Slack__init_ : WS := (sSeq (sIf (wOr (wNot (wTru (eCall 1 C_is_integer [] (aCons (eVar 1) aNil)))) (wOr (wNot (wTru (eCall 1 C_is_integer [] (aCons (eVar 2) aNil)))) (wOr (wTest (eBin oLt (eVarB 1) (eC (.int 0)))) (wTest (eBin oLt (eVarB 2) (eC (.int 1))))))) sNever sNext)
    (sSeq (sAsg (eCall 2 C_common [] (aCons (eVar 2) (aCons (eVar 1) aNil))) (gNm 3))
    (sSeq (sPutF "Slack" 0 "own_num" (eBin oDiv (eVarB 1) (eVarB 3)))
    (sPutF "Slack" 0 "own_den" (eBin oDiv (eVarB 2) (eVarB 3))))))
theorem b_Slack__init_ {P : Program} {wd : World} {K : PySem.W.Frag} {mg : Str → Option Value} {base : Heap} (T : Tx K mg) (F_is_integer : Fn P wd K mg base "is_integer" ["thing"] 1 1 C_is_integer) (F_common : Fn P wd K mg base "common" ["one", "other"] 2 1 C_common) (f : Addr) (cdv : Value) (A : Around) (outer : List Env) (s : Shared) (H : Hp) (E : XK) (hr : Room 1 (A.deeper (envOfC "Slack.__init__" (defScope s_Slack__init_) s.heap.objs.size f cdv))) :
    PSs (cxOf CX0 P wd K mg base N_Slack__init_ "Slack.__init__" (defScope s_Slack__init_) f cdv A outer s H E).nox (defBody s_Slack__init_) (upS K E w_Slack__init_) :=
  (qss_cons (qs_if (PW.pt (qw_or (qt_not (qt_v (qb (q_f F_is_integer calm_is_integer hr (by decide) (by rfl) (qa_cons (q_v 1 (pv 1)) qa_nil))))) (qw_or (qt_not (qt_v (qb (q_f F_is_integer calm_is_integer hr (by decide) (by rfl) (qa_cons (q_v 2 (pv 2)) qa_nil))))) (qw_or (qt_cmp (op_ltU hr.units0) opd_lt (qb_v 1 (pv 1)) (qb q_int) (nomark _)) (qw_or1 (qt_cmp (op_ltU hr.units0) opd_lt (qb_v 2 (pv 2)) (qb q_int) (nomark _))))))) (qss_one qs_never) qss_nil)
    (qss_cons (qs_set (i := 3) sc_Slack__init_.nd rfl (Or.inl rfl) (q_f F_common calm_common hr (by decide) (by rfl) (qa_cons (q_v 2 (pv 2)) (qa_cons (q_v 1 (pv 1)) qa_nil))))
    (qss_cons (qs_putF T.c_Slack (by decide) (pv 0) (q_op op_fdivW opd_div (qb_v 1 (pv 1)) (qb_v 3 (pv 3))))
    (qss_one (qs_putF T.c_Slack (by decide) (pv 0) (q_op op_fdivW opd_div (qb_v 2 (pv 2)) (qb_v 3 (pv 3))))))))
/-! ### Slack.__eq__ -/
abbrev s_Slack__eq_ : Stmt := inClass (top 12) 7
abbrev N_Slack__eq_ : List Str := ["self", "other"]
theorem sc_Slack__eq_ : FnScope N_Slack__eq_ ["self", "other"] (defScope s_Slack__eq_) := ⟨rfl, rfl, rfl, by decide +kernel, rfl, by decide +kernel, by decide +kernel⟩
def w_Slack__eq_ : WS := (sRet (eAndV (eIsC "Slack" (eVarB 1)) (eAndV (eBin oEq (eFldV "Slack" 0 "own_num") (eFldV "Slack" 1 "own_num")) (eBin oEq (eFldV "Slack" 0 "own_den") (eFldV "Slack" 1 "own_den")))))
theorem b_Slack__eq_ {P : Program} {wd : World} {K : PySem.W.Frag} {mg : Str → Option Value} {base : Heap} (T : Tx K mg)  (f : Addr) (cdv : Value) (A : Around) (outer : List Env) (s : Shared) (H : Hp) (E : XK) (hr : Room 0 (A.deeper (envOfC "Slack.__eq__" (defScope s_Slack__eq_) s.heap.objs.size f cdv))) :
    PSs (cxOf CX0 P wd K mg base N_Slack__eq_ "Slack.__eq__" (defScope s_Slack__eq_) f cdv A outer s H E).nox (defBody s_Slack__eq_) (upS K E w_Slack__eq_) :=
  (qss_one (qs_ret (q_and (q_isC T.k_Slack (by rfl) T.g_Slack (by rfl) T.z_isinstance (qb_v 1 (pv 1))) (q_and (q_cmp (op_eqD hr.units) opd_eq (qb (q_fldV T.c_Slack (by decide) (pv 0))) (qb (q_fldV T.c_Slack (by decide) (pv 1))) (nomark _)) (q_one (q_cmp (op_eqD hr.units) opd_eq (qb (q_fldV T.c_Slack (by decide) (pv 0))) (qb (q_fldV T.c_Slack (by decide) (pv 1))) (nomark _)))))))
/-! ### turning -/
abbrev s_turning : Stmt := top 14
abbrev N_turning : List Str := ["origin", "one", "other"]
theorem sc_turning : FnScope N_turning ["origin", "one", "other"] (defScope s_turning) := ⟨rfl, rfl, rfl, by decide +kernel, rfl, by decide +kernel, by decide +kernel⟩
def w_turning : WS := (sRet (eBin oSub (eBin oMul (eBin oSub (eBin oIx (eVarB 1) (eC (.int 0))) (eBin oIx (eVarB 0) (eC (.int 0)))) (eBin oSub (eBin oIx (eVarB 2) (eC (.int 1))) (eBin oIx (eVarB 0) (eC (.int 1))))) (eBin oMul (eBin oSub (eBin oIx (eVarB 1) (eC (.int 1))) (eBin oIx (eVarB 0) (eC (.int 1)))) (eBin oSub (eBin oIx (eVarB 2) (eC (.int 0))) (eBin oIx (eVarB 0) (eC (.int 0)))))))
theorem b_turning {P : Program} {wd : World} {K : PySem.W.Frag} {mg : Str → Option Value} {base : Heap} (T : Tx K mg)  (f : Addr) (cdv : Value) (A : Around) (outer : List Env) (s : Shared) (H : Hp) (E : XK) (hr : Room 0 (A.deeper (envOfC "turning" (defScope s_turning) s.heap.objs.size f cdv))) :
    PSs (cxOf CX0 P wd K mg base N_turning "turning" (defScope s_turning) f cdv A outer s H E).nox (defBody s_turning) (upS K E w_turning) :=
  (qss_one (qs_ret (q_op op_sub opd_sub (qb (q_op op_mulU opd_mul (qb (q_op op_sub opd_sub (qb (q_ix ix_seq opd_ix (qb_v 1 (pv 1)) (qb q_int))) (qb (q_ix ix_seq opd_ix (qb_v 0 (pv 0)) (qb q_int))))) (qb (q_op op_sub opd_sub (qb (q_ix ix_seq opd_ix (qb_v 2 (pv 2)) (qb q_int))) (qb (q_ix ix_seq opd_ix (qb_v 0 (pv 0)) (qb q_int))))))) (qb (q_op op_mulU opd_mul (qb (q_op op_sub opd_sub (qb (q_ix ix_seq opd_ix (qb_v 1 (pv 1)) (qb q_int))) (qb (q_ix ix_seq opd_ix (qb_v 0 (pv 0)) (qb q_int))))) (qb (q_op op_sub opd_sub (qb (q_ix ix_seq opd_ix (qb_v 2 (pv 2)) (qb q_int))) (qb (q_ix ix_seq opd_ix (qb_v 0 (pv 0)) (qb q_int))))))))))
/-! ### product -/
abbrev s_product : Stmt := top 15
abbrev N_product : List Str := ["origin", "one", "other"]
theorem sc_product : FnScope N_product ["origin", "one", "other"] (defScope s_product) := ⟨rfl, rfl, rfl, by decide +kernel, rfl, by decide +kernel, by decide +kernel⟩
def w_product : WS := (sRet (eBin oAdd (eBin oMul (eBin oSub (eBin oIx (eVarB 1) (eC (.int 0))) (eBin oIx (eVarB 0) (eC (.int 0)))) (eBin oSub (eBin oIx (eVarB 2) (eC (.int 0))) (eBin oIx (eVarB 0) (eC (.int 0))))) (eBin oMul (eBin oSub (eBin oIx (eVarB 1) (eC (.int 1))) (eBin oIx (eVarB 0) (eC (.int 1)))) (eBin oSub (eBin oIx (eVarB 2) (eC (.int 1))) (eBin oIx (eVarB 0) (eC (.int 1)))))))
theorem b_product {P : Program} {wd : World} {K : PySem.W.Frag} {mg : Str → Option Value} {base : Heap} (T : Tx K mg)  (f : Addr) (cdv : Value) (A : Around) (outer : List Env) (s : Shared) (H : Hp) (E : XK) (hr : Room 0 (A.deeper (envOfC "product" (defScope s_product) s.heap.objs.size f cdv))) :
    PSs (cxOf CX0 P wd K mg base N_product "product" (defScope s_product) f cdv A outer s H E).nox (defBody s_product) (upS K E w_product) :=
  (qss_one (qs_ret (q_op op_addU opd_add (qb (q_op op_mulU opd_mul (qb (q_op op_sub opd_sub (qb (q_ix ix_seq opd_ix (qb_v 1 (pv 1)) (qb q_int))) (qb (q_ix ix_seq opd_ix (qb_v 0 (pv 0)) (qb q_int))))) (qb (q_op op_sub opd_sub (qb (q_ix ix_seq opd_ix (qb_v 2 (pv 2)) (qb q_int))) (qb (q_ix ix_seq opd_ix (qb_v 0 (pv 0)) (qb q_int))))))) (qb (q_op op_mulU opd_mul (qb (q_op op_sub opd_sub (qb (q_ix ix_seq opd_ix (qb_v 1 (pv 1)) (qb q_int))) (qb (q_ix ix_seq opd_ix (qb_v 0 (pv 0)) (qb q_int))))) (qb (q_op op_sub opd_sub (qb (q_ix ix_seq opd_ix (qb_v 2 (pv 2)) (qb q_int))) (qb (q_ix ix_seq opd_ix (qb_v 0 (pv 0)) (qb q_int))))))))))
/-! ### in_order -/
abbrev s_in_order : Stmt := top 16
abbrev N_in_order : List Str := ["edge"]
theorem sc_in_order : FnScope N_in_order ["edge"] (defScope s_in_order) := ⟨rfl, rfl, rfl, by decide +kernel, rfl, by decide +kernel, by decide +kernel⟩
def w_in_order : WS := (sRet (eIf (wTest (eBin oLt (eBin oIx (eVarB 0) (eC (.int 0))) (eBin oIx (eVarB 0) (eC (.int 1))))) (eVar 0) (eTup (aCons (eBin oIx (eVarB 0) (eC (.int 1))) (aCons (eBin oIx (eVarB 0) (eC (.int 0))) aNil)))))
theorem b_in_order {P : Program} {wd : World} {K : PySem.W.Frag} {mg : Str → Option Value} {base : Heap} (T : Tx K mg)  (f : Addr) (cdv : Value) (A : Around) (outer : List Env) (s : Shared) (H : Hp) (E : XK) (hr : Room 0 (A.deeper (envOfC "in_order" (defScope s_in_order) s.heap.objs.size f cdv))) :
    PSs (cxOf CX0 P wd K mg base N_in_order "in_order" (defScope s_in_order) f cdv A outer s H E).nox (defBody s_in_order) (upS K E w_in_order) :=
  (qss_one (qs_ret (q_if (qt_cmp (op_ltU hr.units0) opd_lt (qb (q_ix ix_seq opd_ix (qb_v 0 (pv 0)) (qb q_int))) (qb (q_ix ix_seq opd_ix (qb_v 0 (pv 0)) (qb q_int))) (nomark _)) (q_v 0 (pv 0)) (q_tup (qa_cons (q_ix ix_seq opd_ix (qb_v 0 (pv 0)) (qb q_int)) (qa_cons (q_ix ix_seq opd_ix (qb_v 0 (pv 0)) (qb q_int)) qa_nil))))))
/-! ### are_apart -/
abbrev s_are_apart : Stmt := top 17
abbrev N_are_apart : List Str := ["one", "other"]
theorem sc_are_apart : FnScope N_are_apart ["one", "other"] (defScope s_are_apart) := ⟨rfl, rfl, rfl, by decide +kernel, rfl, by decide +kernel, by decide +kernel⟩
def w_are_apart : WS := (sRet (eOrV (eAndV (eBin oGt (eVarB 0) (eC (.int 0))) (eBin oGt (eVarB 1) (eC (.int 0)))) (eAndV (eBin oLt (eVarB 0) (eC (.int 0))) (eBin oLt (eVarB 1) (eC (.int 0))))))
theorem b_are_apart {P : Program} {wd : World} {K : PySem.W.Frag} {mg : Str → Option Value} {base : Heap} (T : Tx K mg)  (f : Addr) (cdv : Value) (A : Around) (outer : List Env) (s : Shared) (H : Hp) (E : XK) (hr : Room 0 (A.deeper (envOfC "are_apart" (defScope s_are_apart) s.heap.objs.size f cdv))) :
    PSs (cxOf CX0 P wd K mg base N_are_apart "are_apart" (defScope s_are_apart) f cdv A outer s H E).nox (defBody s_are_apart) (upS K E w_are_apart) :=
  (qss_one (qs_ret (q_or (q_and (q_cmp op_gt opd_gt (qb_v 0 (pv 0)) (qb q_int) (nomark _)) (q_one (q_cmp op_gt opd_gt (qb_v 1 (pv 1)) (qb q_int) (nomark _)))) (q_one (q_and (q_cmp (op_ltU hr.units0) opd_lt (qb_v 0 (pv 0)) (qb q_int) (nomark _)) (q_one (q_cmp (op_ltU hr.units0) opd_lt (qb_v 1 (pv 1)) (qb q_int) (nomark _))))))))
/-! ### overlap_well -/
abbrev s_overlap_well : Stmt := top 18
abbrev N_overlap_well : List Str := ["edge", "other", "first", "last", "begin", "end", "low", "high"]
theorem sc_overlap_well : FnScope N_overlap_well ["edge", "other"] (defScope s_overlap_well) := ⟨rfl, rfl, rfl, by decide +kernel, rfl, by decide +kernel, by decide +kernel⟩
def w_overlap_well : WS := (sSeq (sAsg (eCall 1 C_in_order [] (aCons (eVar 0) aNil)) (gTp 2 (gsCons (gNm 2) (gsCons (gNm 3) gsNil))))
    (sSeq (sAsg (eCall 1 C_in_order [] (aCons (eVar 1) aNil)) (gTp 2 (gsCons (gNm 4) (gsCons (gNm 5) gsNil))))
    (sSeq (sAsg (eIf (wTest (eBin oLt (eVarB 4) (eVarB 2))) (eVar 2) (eVar 4)) (gNm 6))
    (sSeq (sAsg (eIf (wTest (eBin oLt (eVarB 5) (eVarB 3))) (eVar 5) (eVar 3)) (gNm 7))
    (sRet (eNotV (eBin oLt (eVarB 6) (eVarB 7))))))))
theorem b_overlap_well {P : Program} {wd : World} {K : PySem.W.Frag} {mg : Str → Option Value} {base : Heap} (T : Tx K mg) (F_in_order : Fn P wd K mg base "in_order" ["edge"] 1 1 C_in_order) (f : Addr) (cdv : Value) (A : Around) (outer : List Env) (s : Shared) (H : Hp) (E : XK) (hr : Room 1 (A.deeper (envOfC "overlap_well" (defScope s_overlap_well) s.heap.objs.size f cdv))) :
    PSs (cxOf CX0 P wd K mg base N_overlap_well "overlap_well" (defScope s_overlap_well) f cdv A outer s H E).nox (defBody s_overlap_well) (upS K E w_overlap_well) :=
  (qss_cons (qs_asg [2, 3] (q_f F_in_order calm_in_order hr (by decide) (by rfl) (qa_cons (q_v 0 (pv 0)) qa_nil)) (qg_tp rfl (qgs_cons (qg_nm (pg_name (i := 2) sc_overlap_well.nd rfl (Or.inl rfl))) (qgs_cons (qg_nm (pg_name (i := 3) sc_overlap_well.nd rfl (Or.inl rfl))) qgs_nil))))
    (qss_cons (qs_asg [4, 5] (q_f F_in_order calm_in_order hr (by decide) (by rfl) (qa_cons (q_v 1 (pv 1)) qa_nil)) (qg_tp rfl (qgs_cons (qg_nm (pg_name (i := 4) sc_overlap_well.nd rfl (Or.inl rfl))) (qgs_cons (qg_nm (pg_name (i := 5) sc_overlap_well.nd rfl (Or.inl rfl))) qgs_nil))))
    (qss_cons (qs_set (i := 6) sc_overlap_well.nd rfl (Or.inl rfl) (q_if (qt_cmp (op_ltU hr.units0) opd_lt (qb_v 4 (pv 4)) (qb_v 2 (pv 2)) (nomark _)) (q_v 2 (pv 2)) (q_v 4 (pv 4))))
    (qss_cons (qs_set (i := 7) sc_overlap_well.nd rfl (Or.inl rfl) (q_if (qt_cmp (op_ltU hr.units0) opd_lt (qb_v 5 (pv 5)) (qb_v 3 (pv 3)) (nomark _)) (q_v 5 (pv 5)) (q_v 3 (pv 3))))
    (qss_one (qs_ret (q_not (q_cmp (op_ltU hr.units0) opd_lt (qb_v 6 (pv 6)) (qb_v 7 (pv 7)) (nomark _)))))))))
/-! ### meet_well -/
abbrev s_meet_well : Stmt := top 19
abbrev N_meet_well : List Str := ["edge", "other", "first", "last", "begin", "end", "sides"]
theorem sc_meet_well : FnScope N_meet_well ["edge", "other"] (defScope s_meet_well) := ⟨rfl, rfl, rfl, by decide +kernel, rfl, by decide +kernel, by decide +kernel⟩
def w_meet_well : WS := (sSeq (sAsg (eCall 1 C_in_order [] (aCons (eVar 0) aNil)) (gTp 2 (gsCons (gNm 2) (gsCons (gNm 3) gsNil))))
    (sSeq (sAsg (eCall 1 C_in_order [] (aCons (eVar 1) aNil)) (gTp 2 (gsCons (gNm 4) (gsCons (gNm 5) gsNil))))
    (sSeq (sIf (wTest (eBin oEq (eTup (aCons (eVar 2) (aCons (eVar 3) aNil))) (eTup (aCons (eVar 4) (aCons (eVar 5) aNil))))) (sRet (eC (.bl true))) sNext)
    (sSeq (sSetN 6 (nLst (aCons (eCall 3 C_turning [] (aCons (eVar 2) (aCons (eVar 3) (aCons (eVar 4) aNil)))) (aCons (eCall 3 C_turning [] (aCons (eVar 2) (aCons (eVar 3) (aCons (eVar 5) aNil)))) aNil))))
    (sSeq (sMt' 6 mExtend (aCons (eFz (nLst (aCons (eCall 3 C_turning [] (aCons (eVar 4) (aCons (eVar 5) (aCons (eVar 2) aNil)))) (aCons (eCall 3 C_turning [] (aCons (eVar 4) (aCons (eVar 5) (aCons (eVar 3) aNil)))) aNil)))) aNil))
    (sSeq (sIf (wTest (eBin oEq (eVarB 6) (eFz (nLst (aCons (eC (.int 0)) (aCons (eC (.int 0)) (aCons (eC (.int 0)) (aCons (eC (.int 0)) aNil)))))))) (sRet (eCall 2 C_overlap_well [] (aCons (eVar 0) (aCons (eVar 1) aNil)))) sNext)
    (sSeq (sIf (wOr (wTru (eCall 2 C_are_apart [] (aCons (eBin oIx (eVarB 6) (eC (.int 0))) (aCons (eBin oIx (eVarB 6) (eC (.int 1))) aNil)))) (wTru (eCall 2 C_are_apart [] (aCons (eBin oIx (eVarB 6) (eC (.int 2))) (aCons (eBin oIx (eVarB 6) (eC (.int 3))) aNil))))) (sRet (eC (.bl true))) sNext)
    (sRet (eOrV (eBin oIn (eVarB 4) (eTup (aCons (eVar 2) (aCons (eVar 3) aNil)))) (eBin oIn (eVarB 5) (eTup (aCons (eVar 2) (aCons (eVar 3) aNil)))))))))))))
theorem b_meet_well {P : Program} {wd : World} {K : PySem.W.Frag} {mg : Str → Option Value} {base : Heap} (T : Tx K mg) (F_in_order : Fn P wd K mg base "in_order" ["edge"] 1 1 C_in_order) (F_turning : Fn P wd K mg base "turning" ["origin", "one", "other"] 3 1 C_turning) (F_overlap_well : Fn P wd K mg base "overlap_well" ["edge", "other"] 2 2 C_overlap_well) (F_are_apart : Fn P wd K mg base "are_apart" ["one", "other"] 2 1 C_are_apart) (f : Addr) (cdv : Value) (A : Around) (outer : List Env) (s : Shared) (H : Hp) (E : XK) (hr : Room 2 (A.deeper (envOfC "meet_well" (defScope s_meet_well) s.heap.objs.size f cdv))) :
    PSs (cxOf CX0 P wd K mg base N_meet_well "meet_well" (defScope s_meet_well) f cdv A outer s H E).nox (defBody s_meet_well) (upS K E w_meet_well) :=
  (qss_cons (qs_asg [2, 3] (q_f F_in_order calm_in_order hr (by decide) (by rfl) (qa_cons (q_v 0 (pv 0)) qa_nil)) (qg_tp rfl (qgs_cons (qg_nm (pg_name (i := 2) sc_meet_well.nd rfl (Or.inl rfl))) (qgs_cons (qg_nm (pg_name (i := 3) sc_meet_well.nd rfl (Or.inl rfl))) qgs_nil))))
    (qss_cons (qs_asg [4, 5] (q_f F_in_order calm_in_order hr (by decide) (by rfl) (qa_cons (q_v 1 (pv 1)) qa_nil)) (qg_tp rfl (qgs_cons (qg_nm (pg_name (i := 4) sc_meet_well.nd rfl (Or.inl rfl))) (qgs_cons (qg_nm (pg_name (i := 5) sc_meet_well.nd rfl (Or.inl rfl))) qgs_nil))))
    (qss_cons (qs_if (qt_cmp (op_eqD hr.units) opd_eq (qb (q_tup (qa_cons (q_v 2 (pv 2)) (qa_cons (q_v 3 (pv 3)) qa_nil)))) (qb (q_tup (qa_cons (q_v 4 (pv 4)) (qa_cons (q_v 5 (pv 5)) qa_nil)))) (nomark _)) (qss_one (qs_ret q_bl)) qss_nil)
    (qss_cons (qs_setN (i := 6) sc_meet_well.nd rfl (Or.inl rfl) (qn_lst (qa_cons (q_f F_turning calm_turning hr (by decide) (by rfl) (qa_cons (q_v 2 (pv 2)) (qa_cons (q_v 3 (pv 3)) (qa_cons (q_v 4 (pv 4)) qa_nil)))) (qa_cons (q_f F_turning calm_turning hr (by decide) (by rfl) (qa_cons (q_v 2 (pv 2)) (qa_cons (q_v 3 (pv 3)) (qa_cons (q_v 5 (pv 5)) qa_nil)))) qa_nil))))
    (qss_cons (qs_extend (pv 6) (qa_cons (qf (qn_lst (qa_cons (q_f F_turning calm_turning hr (by decide) (by rfl) (qa_cons (q_v 4 (pv 4)) (qa_cons (q_v 5 (pv 5)) (qa_cons (q_v 2 (pv 2)) qa_nil)))) (qa_cons (q_f F_turning calm_turning hr (by decide) (by rfl) (qa_cons (q_v 4 (pv 4)) (qa_cons (q_v 5 (pv 5)) (qa_cons (q_v 3 (pv 3)) qa_nil)))) qa_nil)))) qa_nil))
    (qss_cons (qs_if (qt_cmp (op_eqD hr.units) opd_eq (qb_v 6 (pv 6)) (qbf (qn_lst (qa_cons q_int (qa_cons q_int (qa_cons q_int (qa_cons q_int qa_nil)))))) (nomark _)) (qss_one (qs_ret (q_f F_overlap_well calm_overlap_well hr (by decide) (by rfl) (qa_cons (q_v 0 (pv 0)) (qa_cons (q_v 1 (pv 1)) qa_nil))))) qss_nil)
    (qss_cons (qs_if (PW.pt (qw_or (qt_v (qb (q_f F_are_apart calm_are_apart hr (by decide) (by rfl) (qa_cons (q_ix ix_seq opd_ix (qb_v 6 (pv 6)) (qb q_int)) (qa_cons (q_ix ix_seq opd_ix (qb_v 6 (pv 6)) (qb q_int)) qa_nil))))) (qw_or1 (qt_v (qb (q_f F_are_apart calm_are_apart hr (by decide) (by rfl) (qa_cons (q_ix ix_seq opd_ix (qb_v 6 (pv 6)) (qb q_int)) (qa_cons (q_ix ix_seq opd_ix (qb_v 6 (pv 6)) (qb q_int)) qa_nil)))))))) (qss_one (qs_ret q_bl)) qss_nil)
    (qss_one (qs_ret (q_or (q_cmp (op_inU (u65 hr)) opd_in (qb_v 4 (pv 4)) (qb (q_tup (qa_cons (q_v 2 (pv 2)) (qa_cons (q_v 3 (pv 3)) qa_nil)))) (by rfl)) (q_one (q_cmp (op_inU (u65 hr)) opd_in (qb_v 5 (pv 5)) (qb (q_tup (qa_cons (q_v 2 (pv 2)) (qa_cons (q_v 3 (pv 3)) qa_nil)))) (by rfl)))))))))))))
/-! ### offset_parts -/
abbrev s_offset_parts : Stmt := top 20
abbrev N_offset_parts : List Str := ["point", "first", "last", "size", "far"]
theorem sc_offset_parts : FnScope N_offset_parts ["point", "first", "last"] (defScope s_offset_parts) := ⟨rfl, rfl, rfl, by decide +kernel, rfl, by decide +kernel, by decide +kernel⟩
def w_offset_parts : WS := (sSeq (sAsg (eCall 3 C_product [] (aCons (eVar 1) (aCons (eVar 2) (aCons (eVar 2) aNil)))) (gNm 3))
    (sSeq (sAsg (eCall 3 C_product [] (aCons (eVar 1) (aCons (eVar 2) (aCons (eVar 0) aNil)))) (gNm 4))
    (sSeq (sIf (wTest (eBin oLe (eVarB 4) (eC (.int 0)))) (sRet (eTup (aCons (eCall 3 C_product [] (aCons (eVar 1) (aCons (eVar 0) (aCons (eVar 0) aNil)))) (aCons (eC (.int 1)) aNil)))) sNext)
    (sSeq (sIf (wTest (eBin oGe (eVarB 4) (eVarB 3))) (sRet (eTup (aCons (eCall 3 C_product [] (aCons (eVar 2) (aCons (eVar 0) (aCons (eVar 0) aNil)))) (aCons (eC (.int 1)) aNil)))) sNext)
    (sRet (eTup (aCons (eBin oPow (eCall 3 C_turning [] (aCons (eVar 1) (aCons (eVar 2) (aCons (eVar 0) aNil)))) (eC (.int 2))) (aCons (eVar 3) aNil))))))))
theorem b_offset_parts {P : Program} {wd : World} {K : PySem.W.Frag} {mg : Str → Option Value} {base : Heap} (T : Tx K mg) (F_product : Fn P wd K mg base "product" ["origin", "one", "other"] 3 1 C_product) (F_turning : Fn P wd K mg base "turning" ["origin", "one", "other"] 3 1 C_turning) (f : Addr) (cdv : Value) (A : Around) (outer : List Env) (s : Shared) (H : Hp) (E : XK) (hr : Room 1 (A.deeper (envOfC "offset_parts" (defScope s_offset_parts) s.heap.objs.size f cdv))) :
    PSs (cxOf CX0 P wd K mg base N_offset_parts "offset_parts" (defScope s_offset_parts) f cdv A outer s H E).nox (defBody s_offset_parts) (upS K E w_offset_parts) :=
  (qss_cons (qs_set (i := 3) sc_offset_parts.nd rfl (Or.inl rfl) (q_f F_product calm_product hr (by decide) (by rfl) (qa_cons (q_v 1 (pv 1)) (qa_cons (q_v 2 (pv 2)) (qa_cons (q_v 2 (pv 2)) qa_nil)))))
    (qss_cons (qs_set (i := 4) sc_offset_parts.nd rfl (Or.inl rfl) (q_f F_product calm_product hr (by decide) (by rfl) (qa_cons (q_v 1 (pv 1)) (qa_cons (q_v 2 (pv 2)) (qa_cons (q_v 0 (pv 0)) qa_nil)))))
    (qss_cons (qs_if (qt_cmp op_le opd_le (qb_v 4 (pv 4)) (qb q_int) (nomark _)) (qss_one (qs_ret (q_tup (qa_cons (q_f F_product calm_product hr (by decide) (by rfl) (qa_cons (q_v 1 (pv 1)) (qa_cons (q_v 0 (pv 0)) (qa_cons (q_v 0 (pv 0)) qa_nil)))) (qa_cons q_int qa_nil))))) qss_nil)
    (qss_cons (qs_if (qt_cmp op_ge opd_ge (qb_v 4 (pv 4)) (qb_v 3 (pv 3)) (nomark _)) (qss_one (qs_ret (q_tup (qa_cons (q_f F_product calm_product hr (by decide) (by rfl) (qa_cons (q_v 2 (pv 2)) (qa_cons (q_v 0 (pv 0)) (qa_cons (q_v 0 (pv 0)) qa_nil)))) (qa_cons q_int qa_nil))))) qss_nil)
    (qss_one (qs_ret (q_tup (qa_cons (q_op op_pow opd_pow (qb (q_f F_turning calm_turning hr (by decide) (by rfl) (qa_cons (q_v 1 (pv 1)) (qa_cons (q_v 2 (pv 2)) (qa_cons (q_v 0 (pv 0)) qa_nil))))) (qb q_int)) (qa_cons (q_v 3 (pv 3)) qa_nil)))))))))
/-! ### offset_of -/
abbrev s_offset_of : Stmt := top 21
abbrev N_offset_of : List Str := ["point", "edge", "num", "den"]
theorem sc_offset_of : FnScope N_offset_of ["point", "edge"] (defScope s_offset_of) := ⟨rfl, rfl, rfl, by decide +kernel, rfl, by decide +kernel, by decide +kernel⟩
def w_offset_of : WS := (sSeq (sAsg (eCall 3 C_offset_parts [] (aCons (eVar 0) (aCons (eBin oIx (eVarB 1) (eC (.int 0))) (aCons (eBin oIx (eVarB 1) (eC (.int 1))) aNil)))) (gTp 2 (gsCons (gNm 2) (gsCons (gNm 3) gsNil))))
    (sRet (eMake "Slack" 2 C_Slack_init [] (aCons (eVar 2) (aCons (eVar 3) aNil)))))
theorem b_offset_of {P : Program} {wd : World} {K : PySem.W.Frag} {mg : Str → Option Value} {base : Heap} (T : Tx K mg) (F_offset_parts : Fn P wd K mg base "offset_parts" ["point", "first", "last"] 3 2 C_offset_parts) (M_Slack_0 : Mkr P wd K mg base "Slack" ["self", "num", "den"] 2 2 C_Slack_init []) (f : Addr) (cdv : Value) (A : Around) (outer : List Env) (s : Shared) (H : Hp) (E : XK) (hr : Room 3 (A.deeper (envOfC "offset_of" (defScope s_offset_of) s.heap.objs.size f cdv))) :
    PSs (cxOf CX0 P wd K mg base N_offset_of "offset_of" (defScope s_offset_of) f cdv A outer s H E).nox (defBody s_offset_of) (upS K E w_offset_of) :=
  (qss_cons (qs_asg [2, 3] (q_f F_offset_parts calm_offset_parts hr (by decide) (by rfl) (qa_cons (q_v 0 (pv 0)) (qa_cons (q_ix ix_seq opd_ix (qb_v 1 (pv 1)) (qb q_int)) (qa_cons (q_ix ix_seq opd_ix (qb_v 1 (pv 1)) (qb q_int)) qa_nil)))) (qg_tp rfl (qgs_cons (qg_nm (pg_name (i := 2) sc_offset_of.nd rfl (Or.inl rfl))) (qgs_cons (qg_nm (pg_name (i := 3) sc_offset_of.nd rfl (Or.inl rfl))) qgs_nil))))
    (qss_one (qs_ret (q_mk M_Slack_0 calm_Slack_init hr (by decide) (by rfl) (qa_cons (q_v 2 (pv 2)) (qa_cons (q_v 3 (pv 3)) qa_nil))))))
/-! ### _law_pick -/
abbrev s_L_pick : Stmt := top 25
abbrev N_L_pick : List Str := ["_law_draw", "_law_some"]
theorem sc_L_pick : FnScope N_L_pick ["_law_draw", "_law_some"] (defScope s_L_pick) := ⟨rfl, rfl, rfl, by decide +kernel, rfl, by decide +kernel, by decide +kernel⟩
def w_L_pick : WS := (sRet (eBin oIx (eVarB 1) (eCall 2 C_L_next [] (aCons (eVar 0) (aCons (eCB bLen (aCons (eVarB 1) aNil)) aNil)))))
theorem b_L_pick {P : Program} {wd : World} {K : PySem.W.Frag} {mg : Str → Option Value} {base : Heap} (T : Tx K mg) (F_L_next : Fn P wd K mg base "_law_next" ["_law_draw", "_law_many"] 2 1 C_L_next) (f : Addr) (cdv : Value) (A : Around) (outer : List Env) (s : Shared) (H : Hp) (E : XK) (hr : Room 1 (A.deeper (envOfC "_law_pick" (defScope s_L_pick) s.heap.objs.size f cdv))) :
    PSs (cxOf CX0 P wd K mg base N_L_pick "_law_pick" (defScope s_L_pick) f cdv A outer s H E).nox (defBody s_L_pick) (upS K E w_L_pick) :=
  (qss_one (qs_ret (q_ix ix_seq opd_ix (qb_v 1 (pv 1)) (qb (q_f F_L_next calm_L_next hr (by decide) (by rfl) (qa_cons (q_v 0 (pv 0)) (qa_cons (q_B call_lenU bd_len (by rfl) T.z_len PySem.boot_len (qab_cons (qb_v 1 (pv 1)) qab_nil)) qa_nil)))))))
/-! ### _law_cross -/
abbrev s_L_cross : Stmt := top 26
abbrev N_L_cross : List Str := ["_law_here", "_law_near", "_law_far", "_law_x", "_law_y"]
theorem sc_L_cross : FnScope N_L_cross ["_law_here", "_law_near", "_law_far"] (defScope s_L_cross) := ⟨rfl, rfl, rfl, by decide +kernel, rfl, by decide +kernel, by decide +kernel⟩
def w_L_cross : WS := (sSeq (sPar 3 4 (aCons (eBin oSub (eBin oIx (eVarB 1) (eC (.int 0))) (eBin oIx (eVarB 0) (eC (.int 0)))) (aCons (eBin oSub (eBin oIx (eVarB 1) (eC (.int 1))) (eBin oIx (eVarB 0) (eC (.int 1)))) aNil)))
    (sRet (eBin oSub (eBin oMul (eVarB 3) (eBin oSub (eBin oIx (eVarB 2) (eC (.int 1))) (eBin oIx (eVarB 0) (eC (.int 1))))) (eBin oMul (eVarB 4) (eBin oSub (eBin oIx (eVarB 2) (eC (.int 0))) (eBin oIx (eVarB 0) (eC (.int 0))))))))
theorem b_L_cross {P : Program} {wd : World} {K : PySem.W.Frag} {mg : Str → Option Value} {base : Heap} (T : Tx K mg)  (f : Addr) (cdv : Value) (A : Around) (outer : List Env) (s : Shared) (H : Hp) (E : XK) (hr : Room 0 (A.deeper (envOfC "_law_cross" (defScope s_L_cross) s.heap.objs.size f cdv))) :
    PSs (cxOf CX0 P wd K mg base N_L_cross "_law_cross" (defScope s_L_cross) f cdv A outer s H E).nox (defBody s_L_cross) (upS K E w_L_cross) :=
  (qss_cons (qs_par (i := 3) (j := 4) rfl sc_L_cross.nd rfl rfl (by decide) rfl rfl (qa_cons (q_op op_sub opd_sub (qb (q_ix ix_seq opd_ix (qb_v 1 (pv 1)) (qb q_int))) (qb (q_ix ix_seq opd_ix (qb_v 0 (pv 0)) (qb q_int)))) (qa_cons (q_op op_sub opd_sub (qb (q_ix ix_seq opd_ix (qb_v 1 (pv 1)) (qb q_int))) (qb (q_ix ix_seq opd_ix (qb_v 0 (pv 0)) (qb q_int)))) qa_nil)) (by rfl))
    (qss_one (qs_ret (q_op op_sub opd_sub (qb (q_op op_mulU opd_mul (qb_v 3 (pv 3)) (qb (q_op op_sub opd_sub (qb (q_ix ix_seq opd_ix (qb_v 2 (pv 2)) (qb q_int))) (qb (q_ix ix_seq opd_ix (qb_v 0 (pv 0)) (qb q_int))))))) (qb (q_op op_mulU opd_mul (qb_v 4 (pv 4)) (qb (q_op op_sub opd_sub (qb (q_ix ix_seq opd_ix (qb_v 2 (pv 2)) (qb q_int))) (qb (q_ix ix_seq opd_ix (qb_v 0 (pv 0)) (qb q_int)))))))))))
/-! ### _law_lies -/
abbrev s_L_lies : Stmt := top 27
abbrev N_L_lies : List Str := ["_law_spot_here", "_law_side", "_law_low", "_law_high", "_law_x", "_law_y"]
theorem sc_L_lies : FnScope N_L_lies ["_law_spot_here", "_law_side"] (defScope s_L_lies) := ⟨rfl, rfl, rfl, by decide +kernel, rfl, by decide +kernel, by decide +kernel⟩
def w_L_lies : WS := (sSeq (sAsg (eVar 1) (gTp 2 (gsCons (gNm 2) (gsCons (gNm 3) gsNil))))
    (sSeq (sIf (wTest (eBin oNe (eCall 3 C_L_cross [] (aCons (eVar 2) (aCons (eVar 3) (aCons (eVar 0) aNil)))) (eC (.int 0)))) (sRet (eC (.bl false))) sNext)
    (sSeq (sAsg (eBin oMul (eBin oSub (eBin oIx (eVarB 2) (eC (.int 0))) (eBin oIx (eVarB 0) (eC (.int 0)))) (eBin oSub (eBin oIx (eVarB 3) (eC (.int 0))) (eBin oIx (eVarB 0) (eC (.int 0))))) (gNm 4))
    (sSeq (sAsg (eBin oMul (eBin oSub (eBin oIx (eVarB 2) (eC (.int 1))) (eBin oIx (eVarB 0) (eC (.int 1)))) (eBin oSub (eBin oIx (eVarB 3) (eC (.int 1))) (eBin oIx (eVarB 0) (eC (.int 1))))) (gNm 5))
    (sRet (eAndV (eBin oLe (eVarB 4) (eC (.int 0))) (eBin oLe (eVarB 5) (eC (.int 0)))))))))
theorem b_L_lies {P : Program} {wd : World} {K : PySem.W.Frag} {mg : Str → Option Value} {base : Heap} (T : Tx K mg) (F_L_cross : Fn P wd K mg base "_law_cross" ["_law_here", "_law_near", "_law_far"] 3 1 C_L_cross) (f : Addr) (cdv : Value) (A : Around) (outer : List Env) (s : Shared) (H : Hp) (E : XK) (hr : Room 1 (A.deeper (envOfC "_law_lies" (defScope s_L_lies) s.heap.objs.size f cdv))) :
    PSs (cxOf CX0 P wd K mg base N_L_lies "_law_lies" (defScope s_L_lies) f cdv A outer s H E).nox (defBody s_L_lies) (upS K E w_L_lies) :=
  (qss_cons (qs_asg [2, 3] (q_v 1 (pv 1)) (qg_tp rfl (qgs_cons (qg_nm (pg_name (i := 2) sc_L_lies.nd rfl (Or.inl rfl))) (qgs_cons (qg_nm (pg_name (i := 3) sc_L_lies.nd rfl (Or.inl rfl))) qgs_nil))))
    (qss_cons (qs_if (qt_cmp (op_neD hr.units) opd_ne (qb (q_f F_L_cross calm_L_cross hr (by decide) (by rfl) (qa_cons (q_v 2 (pv 2)) (qa_cons (q_v 3 (pv 3)) (qa_cons (q_v 0 (pv 0)) qa_nil))))) (qb q_int) (nomark _)) (qss_one (qs_ret q_bl)) qss_nil)
    (qss_cons (qs_set (i := 4) sc_L_lies.nd rfl (Or.inl rfl) (q_op op_mulU opd_mul (qb (q_op op_sub opd_sub (qb (q_ix ix_seq opd_ix (qb_v 2 (pv 2)) (qb q_int))) (qb (q_ix ix_seq opd_ix (qb_v 0 (pv 0)) (qb q_int))))) (qb (q_op op_sub opd_sub (qb (q_ix ix_seq opd_ix (qb_v 3 (pv 3)) (qb q_int))) (qb (q_ix ix_seq opd_ix (qb_v 0 (pv 0)) (qb q_int)))))))
    (qss_cons (qs_set (i := 5) sc_L_lies.nd rfl (Or.inl rfl) (q_op op_mulU opd_mul (qb (q_op op_sub opd_sub (qb (q_ix ix_seq opd_ix (qb_v 2 (pv 2)) (qb q_int))) (qb (q_ix ix_seq opd_ix (qb_v 0 (pv 0)) (qb q_int))))) (qb (q_op op_sub opd_sub (qb (q_ix ix_seq opd_ix (qb_v 3 (pv 3)) (qb q_int))) (qb (q_ix ix_seq opd_ix (qb_v 0 (pv 0)) (qb q_int)))))))
    (qss_one (qs_ret (q_and (q_cmp op_le opd_le (qb_v 4 (pv 4)) (qb q_int) (nomark _)) (q_one (q_cmp op_le opd_le (qb_v 5 (pv 5)) (qb q_int) (nomark _))))))))))
/-! ### _law_meet -/
abbrev s_L_meet : Stmt := top 28
abbrev N_L_meet : List Str := ["_law_side", "_law_far", "_law_near", "_law_rest", "_law_touching", "_law_turns", "_law_k"]
theorem sc_L_meet : FnScope N_L_meet ["_law_side", "_law_far"] (defScope s_L_meet) := ⟨rfl, rfl, rfl, by decide +kernel, rfl, by decide +kernel, by decide +kernel⟩
def w_L_meet : WS := (sSeq (sIf (wTest (eBin oIn (eVarB 0) (eTup (aCons (eVar 1) (aCons (eRev (eVarB 1)) aNil))))) (sRet (eC (.bl true))) sNext)
    (sSeq (sFor (iSq (eTup (aCons (eTup (aCons (eVar 0) (aCons (eVar 1) aNil))) (aCons (eTup (aCons (eVar 1) (aCons (eVar 0) aNil))) aNil)))) (gTp 2 (gsCons (gNm 2) (gsCons (gNm 3) gsNil))) (sSeq (sAsg (eFz (nLc [6] (iSq (eVar 2)) (gNm 6) (wTest (eBin oNotIn (eVarB 6) (eVarB 3))) (eVar 6))) (gNm 4))
    (sIf (wTest (eBin oNe (eFz (nLc [6] (iSq (eVar 4)) (gNm 6) (wTru (eCall 2 C_L_lies [] (aCons (eVar 6) (aCons (eVar 3) aNil)))) (eVar 6))) (eFz (nLst aNil)))) (sRet (eC (.bl false))) sNext)))
    (sSeq (sAsg (eFz (nLc [6] (iSq (eVar 1)) (gNm 6) wYes (eCall 3 C_L_cross [] (aCons (eBin oIx (eVarB 0) (eC (.int 0))) (aCons (eBin oIx (eVarB 0) (eC (.int 1))) (aCons (eVar 6) aNil)))))) (gNm 5))
    (sSeq (sIf (wTest (eBin oGe (eBin oMul (eBin oIx (eVarB 5) (eC (.int 0))) (eBin oIx (eVarB 5) (eC (.int 1)))) (eC (.int 0)))) (sRet (eC (.bl true))) sNext)
    (sSeq (sAsg (eFz (nLc [6] (iSq (eVar 0)) (gNm 6) wYes (eCall 3 C_L_cross [] (aCons (eBin oIx (eVarB 1) (eC (.int 0))) (aCons (eBin oIx (eVarB 1) (eC (.int 1))) (aCons (eVar 6) aNil)))))) (gNm 5))
    (sRet (eBin oGe (eBin oMul (eBin oIx (eVarB 5) (eC (.int 0))) (eBin oIx (eVarB 5) (eC (.int 1)))) (eC (.int 0)))))))))
theorem b_L_meet {P : Program} {wd : World} {K : PySem.W.Frag} {mg : Str → Option Value} {base : Heap} (T : Tx K mg) (F_L_lies : Fn P wd K mg base "_law_lies" ["_law_spot_here", "_law_side"] 2 2 C_L_lies) (F_L_cross : Fn P wd K mg base "_law_cross" ["_law_here", "_law_near", "_law_far"] 3 1 C_L_cross) (f : Addr) (cdv : Value) (A : Around) (outer : List Env) (s : Shared) (H : Hp) (E : XK) (hr : Room 2 (A.deeper (envOfC "_law_meet" (defScope s_L_meet) s.heap.objs.size f cdv))) :
    PSs (cxOf CX0 P wd K mg base N_L_meet "_law_meet" (defScope s_L_meet) f cdv A outer s H E).nox (defBody s_L_meet) (upS K E w_L_meet) :=
  (qss_cons (qs_if (qt_cmp (op_inU (u65 hr)) opd_in (qb_v 0 (pv 0)) (qb (q_tup (qa_cons (q_v 1 (pv 1)) (qa_cons (q_rev (qb_v 1 (pv 1))) qa_nil)))) (by rfl)) (qss_one (qs_ret q_bl)) qss_nil)
    (qss_cons (qs_for (is := [2, 3]) PassesOwn.never rfl (qi_sq (q_tup (qa_cons (q_tup (qa_cons (q_v 0 (pv 0)) (qa_cons (q_v 1 (pv 1)) qa_nil))) (qa_cons (q_tup (qa_cons (q_v 1 (pv 1)) (qa_cons (q_v 0 (pv 0)) qa_nil))) qa_nil)))) (qg_tp rfl (qgs_cons (qg_nm (pg_name (i := 2) sc_L_meet.nd rfl (Or.inl rfl))) (qgs_cons (qg_nm (pg_name (i := 3) sc_L_meet.nd rfl (Or.inr rfl))) qgs_nil))) (qss_cons (qs_setLc (i := 4) (own := [("_law_k", 6)]) rfl sc_L_meet.nd rfl rfl (sw_true rfl rfl rfl (by decide +kernel)) (qi_sq (q_v 2 (pv 2))) (blkOk_by (own := [("_law_k", 6)]) (N := N_L_meet) (sc := defScope s_L_meet) (by decide +kernel)) (fun _ _ _ _ _ => (qg_nm (pg_name (i := 6) sc_L_meet.nd rfl (Or.inl rfl)))) (fun _ _ _ _ _ => qts_one (qt_cmp (op_notInU (u65 hr)) opd_notIn (qb_v 6 (pv 6)) (qb_v 3 (pv 3)) (by rfl))) (fun _ _ _ _ _ => (q_v 6 (pv 6))))
    (qss_one (qs_if (qt_cmp (op_neD hr.units) opd_ne (qbf (qn_lc (own := [("_law_k", 6)]) rfl sc_L_meet.nd (qi_sq (q_v 4 (pv 4))) (blkOk_by (own := [("_law_k", 6)]) (N := N_L_meet) (sc := defScope s_L_meet) (by decide +kernel)) (fun _ _ _ _ _ => (qg_nm (pg_name (i := 6) sc_L_meet.nd rfl (Or.inl rfl)))) (fun _ _ _ _ _ => qts_one (qt_v (qb (q_f F_L_lies calm_L_lies hr (by decide) (by rfl) (qa_cons (q_v 6 (pv 6)) (qa_cons (q_v 3 (pv 3)) qa_nil)))))) (fun _ _ _ _ _ => (q_v 6 (pv 6))))) (qbf (qn_lst qa_nil)) (nomark _)) (qss_one (qs_ret q_bl)) qss_nil))))
    (qss_cons (qs_setLc (i := 5) (own := [("_law_k", 6)]) rfl sc_L_meet.nd rfl rfl (sw_true rfl rfl rfl (by decide +kernel)) (qi_sq (q_v 1 (pv 1))) (blkOk_by (own := [("_law_k", 6)]) (N := N_L_meet) (sc := defScope s_L_meet) (by decide +kernel)) (fun _ _ _ _ _ => (qg_nm (pg_name (i := 6) sc_L_meet.nd rfl (Or.inl rfl)))) (fun _ _ _ _ _ => qts_nil) (fun _ _ _ _ _ => (q_f F_L_cross calm_L_cross hr (by decide) (by rfl) (qa_cons (q_ix ix_seq opd_ix (qb_v 0 (pv 0)) (qb q_int)) (qa_cons (q_ix ix_seq opd_ix (qb_v 0 (pv 0)) (qb q_int)) (qa_cons (q_v 6 (pv 6)) qa_nil))))))
    (qss_cons (qs_if (qt_cmp op_ge opd_ge (qb (q_op op_mulU opd_mul (qb (q_ix ix_seq opd_ix (qb_v 5 (pv 5)) (qb q_int))) (qb (q_ix ix_seq opd_ix (qb_v 5 (pv 5)) (qb q_int))))) (qb q_int) (nomark _)) (qss_one (qs_ret q_bl)) qss_nil)
    (qss_cons (qs_setLc (i := 5) (own := [("_law_k", 6)]) rfl sc_L_meet.nd rfl rfl (sw_true rfl rfl rfl (by decide +kernel)) (qi_sq (q_v 0 (pv 0))) (blkOk_by (own := [("_law_k", 6)]) (N := N_L_meet) (sc := defScope s_L_meet) (by decide +kernel)) (fun _ _ _ _ _ => (qg_nm (pg_name (i := 6) sc_L_meet.nd rfl (Or.inl rfl)))) (fun _ _ _ _ _ => qts_nil) (fun _ _ _ _ _ => (q_f F_L_cross calm_L_cross hr (by decide) (by rfl) (qa_cons (q_ix ix_seq opd_ix (qb_v 1 (pv 1)) (qb q_int)) (qa_cons (q_ix ix_seq opd_ix (qb_v 1 (pv 1)) (qb q_int)) (qa_cons (q_v 6 (pv 6)) qa_nil))))))
    (qss_one (qs_ret (q_cmp op_ge opd_ge (qb (q_op op_mulU opd_mul (qb (q_ix ix_seq opd_ix (qb_v 5 (pv 5)) (qb q_int))) (qb (q_ix ix_seq opd_ix (qb_v 5 (pv 5)) (qb q_int))))) (qb q_int) (nomark _)))))))))
/-! ### _law_offset -/
abbrev s_L_offset : Stmt := top 29
abbrev N_L_offset : List Str := ["_law_spot_here", "_law_near", "_law_far", "_law_x", "_law_y", "_law_left", "_law_up", "_law_size", "_law_along_it"]
theorem sc_L_offset : FnScope N_L_offset ["_law_spot_here", "_law_near", "_law_far"] (defScope s_L_offset) := ⟨rfl, rfl, rfl, by decide +kernel, rfl, by decide +kernel, by decide +kernel⟩
def w_L_offset : WS := (sSeq (sPar 3 4 (aCons (eBin oSub (eBin oIx (eVarB 2) (eC (.int 0))) (eBin oIx (eVarB 1) (eC (.int 0)))) (aCons (eBin oSub (eBin oIx (eVarB 2) (eC (.int 1))) (eBin oIx (eVarB 1) (eC (.int 1)))) aNil)))
    (sSeq (sPar 5 6 (aCons (eBin oSub (eBin oIx (eVarB 0) (eC (.int 0))) (eBin oIx (eVarB 1) (eC (.int 0)))) (aCons (eBin oSub (eBin oIx (eVarB 0) (eC (.int 1))) (eBin oIx (eVarB 1) (eC (.int 1)))) aNil)))
    (sSeq (sPar 7 8 (aCons (eBin oAdd (eBin oMul (eVarB 3) (eVarB 3)) (eBin oMul (eVarB 4) (eVarB 4))) (aCons (eBin oAdd (eBin oMul (eVarB 5) (eVarB 3)) (eBin oMul (eVarB 6) (eVarB 4))) aNil)))
    (sSeq (sIf (wOr (wTest (eBin oLe (eVarB 8) (eC (.int 0)))) (wTest (eBin oEq (eVarB 7) (eC (.int 0))))) (sRet (eTup (aCons (eBin oAdd (eBin oMul (eVarB 5) (eVarB 5)) (eBin oMul (eVarB 6) (eVarB 6))) (aCons (eC (.int 1)) aNil)))) sNext)
    (sSeq (sIf (wTest (eBin oGe (eVarB 8) (eVarB 7))) (sSeq (sPar 5 6 (aCons (eBin oSub (eBin oIx (eVarB 0) (eC (.int 0))) (eBin oIx (eVarB 2) (eC (.int 0)))) (aCons (eBin oSub (eBin oIx (eVarB 0) (eC (.int 1))) (eBin oIx (eVarB 2) (eC (.int 1)))) aNil)))
    (sRet (eTup (aCons (eBin oAdd (eBin oMul (eVarB 5) (eVarB 5)) (eBin oMul (eVarB 6) (eVarB 6))) (aCons (eC (.int 1)) aNil))))) sNext)
    (sRet (eTup (aCons (eBin oSub (eBin oMul (eBin oAdd (eBin oMul (eVarB 5) (eVarB 5)) (eBin oMul (eVarB 6) (eVarB 6))) (eVarB 7)) (eBin oPow (eVarB 8) (eC (.int 2)))) (aCons (eVar 7) aNil)))))))))
theorem b_L_offset {P : Program} {wd : World} {K : PySem.W.Frag} {mg : Str → Option Value} {base : Heap} (T : Tx K mg)  (f : Addr) (cdv : Value) (A : Around) (outer : List Env) (s : Shared) (H : Hp) (E : XK) (hr : Room 0 (A.deeper (envOfC "_law_offset" (defScope s_L_offset) s.heap.objs.size f cdv))) :
    PSs (cxOf CX0 P wd K mg base N_L_offset "_law_offset" (defScope s_L_offset) f cdv A outer s H E).nox (defBody s_L_offset) (upS K E w_L_offset) :=
  (qss_cons (qs_par (i := 3) (j := 4) rfl sc_L_offset.nd rfl rfl (by decide) rfl rfl (qa_cons (q_op op_sub opd_sub (qb (q_ix ix_seq opd_ix (qb_v 2 (pv 2)) (qb q_int))) (qb (q_ix ix_seq opd_ix (qb_v 1 (pv 1)) (qb q_int)))) (qa_cons (q_op op_sub opd_sub (qb (q_ix ix_seq opd_ix (qb_v 2 (pv 2)) (qb q_int))) (qb (q_ix ix_seq opd_ix (qb_v 1 (pv 1)) (qb q_int)))) qa_nil)) (by rfl))
    (qss_cons (qs_par (i := 5) (j := 6) rfl sc_L_offset.nd rfl rfl (by decide) rfl rfl (qa_cons (q_op op_sub opd_sub (qb (q_ix ix_seq opd_ix (qb_v 0 (pv 0)) (qb q_int))) (qb (q_ix ix_seq opd_ix (qb_v 1 (pv 1)) (qb q_int)))) (qa_cons (q_op op_sub opd_sub (qb (q_ix ix_seq opd_ix (qb_v 0 (pv 0)) (qb q_int))) (qb (q_ix ix_seq opd_ix (qb_v 1 (pv 1)) (qb q_int)))) qa_nil)) (by rfl))
    (qss_cons (qs_par (i := 7) (j := 8) rfl sc_L_offset.nd rfl rfl (by decide) rfl rfl (qa_cons (q_op op_addU opd_add (qb (q_op op_mulU opd_mul (qb_v 3 (pv 3)) (qb_v 3 (pv 3)))) (qb (q_op op_mulU opd_mul (qb_v 4 (pv 4)) (qb_v 4 (pv 4))))) (qa_cons (q_op op_addU opd_add (qb (q_op op_mulU opd_mul (qb_v 5 (pv 5)) (qb_v 3 (pv 3)))) (qb (q_op op_mulU opd_mul (qb_v 6 (pv 6)) (qb_v 4 (pv 4))))) qa_nil)) (by rfl))
    (qss_cons (qs_if (PW.pt (qw_or (qt_cmp op_le opd_le (qb_v 8 (pv 8)) (qb q_int) (nomark _)) (qw_or1 (qt_cmp (op_eqD hr.units) opd_eq (qb_v 7 (pv 7)) (qb q_int) (nomark _))))) (qss_one (qs_ret (q_tup (qa_cons (q_op op_addU opd_add (qb (q_op op_mulU opd_mul (qb_v 5 (pv 5)) (qb_v 5 (pv 5)))) (qb (q_op op_mulU opd_mul (qb_v 6 (pv 6)) (qb_v 6 (pv 6))))) (qa_cons q_int qa_nil))))) qss_nil)
    (qss_cons (qs_if (qt_cmp op_ge opd_ge (qb_v 8 (pv 8)) (qb_v 7 (pv 7)) (nomark _)) (qss_cons (qs_par (i := 5) (j := 6) rfl sc_L_offset.nd rfl rfl (by decide) rfl rfl (qa_cons (q_op op_sub opd_sub (qb (q_ix ix_seq opd_ix (qb_v 0 (pv 0)) (qb q_int))) (qb (q_ix ix_seq opd_ix (qb_v 2 (pv 2)) (qb q_int)))) (qa_cons (q_op op_sub opd_sub (qb (q_ix ix_seq opd_ix (qb_v 0 (pv 0)) (qb q_int))) (qb (q_ix ix_seq opd_ix (qb_v 2 (pv 2)) (qb q_int)))) qa_nil)) (by rfl))
    (qss_one (qs_ret (q_tup (qa_cons (q_op op_addU opd_add (qb (q_op op_mulU opd_mul (qb_v 5 (pv 5)) (qb_v 5 (pv 5)))) (qb (q_op op_mulU opd_mul (qb_v 6 (pv 6)) (qb_v 6 (pv 6))))) (qa_cons q_int qa_nil)))))) qss_nil)
    (qss_one (qs_ret (q_tup (qa_cons (q_op op_sub opd_sub (qb (q_op op_mulU opd_mul (qb (q_op op_addU opd_add (qb (q_op op_mulU opd_mul (qb_v 5 (pv 5)) (qb_v 5 (pv 5)))) (qb (q_op op_mulU opd_mul (qb_v 6 (pv 6)) (qb_v 6 (pv 6)))))) (qb_v 7 (pv 7)))) (qb (q_op op_pow opd_pow (qb_v 8 (pv 8)) (qb q_int)))) (qa_cons (q_v 7 (pv 7)) qa_nil))))))))))
/-! ### _law_spot -/
abbrev s_L_spot : Stmt := top 33
abbrev N_L_spot : List Str := ["_law_draw", "_law_far"]
theorem sc_L_spot : FnScope N_L_spot ["_law_draw", "_law_far"] (defScope s_L_spot) := ⟨rfl, rfl, rfl, by decide +kernel, rfl, by decide +kernel, by decide +kernel⟩
def w_L_spot : WS := (sRet (eTup (aCons (eBin oMul (eCall 2 C_L_next [] (aCons (eVar 0) (aCons (eC (.int 6)) aNil))) (eVarB 1)) (aCons (eBin oSub (eBin oMul (eCall 2 C_L_next [] (aCons (eVar 0) (aCons (eC (.int 6)) aNil))) (eVarB 1)) (eC (.int 3))) aNil))))
theorem b_L_spot {P : Program} {wd : World} {K : PySem.W.Frag} {mg : Str → Option Value} {base : Heap} (T : Tx K mg) (F_L_next : Fn P wd K mg base "_law_next" ["_law_draw", "_law_many"] 2 1 C_L_next) (f : Addr) (cdv : Value) (A : Around) (outer : List Env) (s : Shared) (H : Hp) (E : XK) (hr : Room 1 (A.deeper (envOfC "_law_spot" (defScope s_L_spot) s.heap.objs.size f cdv))) :
    PSs (cxOf CX0 P wd K mg base N_L_spot "_law_spot" (defScope s_L_spot) f cdv A outer s H E).nox (defBody s_L_spot) (upS K E w_L_spot) :=
  (qss_one (qs_ret (q_tup (qa_cons (q_op op_mulU opd_mul (qb (q_f F_L_next calm_L_next hr (by decide) (by rfl) (qa_cons (q_v 0 (pv 0)) (qa_cons q_int qa_nil)))) (qb_v 1 (pv 1))) (qa_cons (q_op op_sub opd_sub (qb (q_op op_mulU opd_mul (qb (q_f F_L_next calm_L_next hr (by decide) (by rfl) (qa_cons (q_v 0 (pv 0)) (qa_cons q_int qa_nil)))) (qb_v 1 (pv 1)))) (qb q_int)) qa_nil)))))
/-! ### law -/
abbrev s_law : Stmt := top 34
abbrev N_law : List Str := ["_law_script", "_law_draw", "_law_turn", "_law_far", "_law_spots", "_law_near", "_law_due", "_law_rest", "_law_told", "_law_above", "_law_below", "_law_k"]
theorem sc_law : FnScope N_law ["_law_script"] (defScope s_law) := ⟨rfl, rfl, rfl, by decide +kernel, rfl, by decide +kernel, by decide +kernel⟩
def w_law : WS := (sSeq (sFor (iR1 (aCons (eC (.int 30)) aNil)) (gNm 2) (sSeq (sAsg (eCall 2 C_L_pick [] (aCons (eVar 1) (aCons (eFz (nLst (aCons (eC (.int 1)) (aCons (eC (.int 1)) (aCons (eC (.int 1)) (aCons (eC (.int 100000)) (aCons (eC (.int 999)) aNil))))))) aNil))) (gNm 3))
    (sSeq (sAsg (eFz (nLc [11] (iR1 (aCons (eC (.int 4)) aNil)) (gNm 11) wYes (eCall 2 C_L_spot [] (aCons (eVar 1) (aCons (eVar 3) aNil))))) (gNm 4))
    (sSeq (sAsg (eTup (aCons (eBin oIx (eVarB 4) (eC (.int 0))) (aCons (eBin oIx (eVarB 4) (eC (.int 1))) aNil))) (gNm 5))
    (sSeq (sIf (wTest (eBin oEq (eBin oIx (eVarB 5) (eC (.int 0))) (eBin oIx (eVarB 5) (eC (.int 1))))) (sSeq (sAsg (eCall 3 C_L_offset [] (aCons (eBin oIx (eVarB 4) (eC (.int 2))) (aCons (eBin oIx (eVarB 4) (eC (.int 0))) (aCons (eBin oIx (eVarB 4) (eC (.int 0))) aNil)))) (gNm 6))
    (sIf (wTest (eBin (oOwn "Slack" C_Slack_eq true) (eCall 2 C_offset_of [] (aCons (eBin oIx (eVarB 4) (eC (.int 2))) (aCons (eVar 5) aNil))) (eMake "Slack" 2 C_Slack_init [.int 1] (aCons (eBin oIx (eVarB 6) (eC (.int 0))) aNil)))) (sRet (eC (.bl false))) sNext)) (sIf (wTest (eBin oNe (eBin oIx (eVarB 4) (eC (.int 2))) (eBin oIx (eVarB 4) (eC (.int 3))))) (sSeq (sAsg (eTup (aCons (eBin oIx (eVarB 4) (eC (.int 2))) (aCons (eBin oIx (eVarB 4) (eC (.int 3))) aNil))) (gNm 7))
    (sSeq (sAsg (eBin oRep (eFz (nLst (aCons (eCall 2 C_L_meet [] (aCons (eVar 5) (aCons (eVar 7) aNil))) aNil))) (eC (.int 4))) (gNm 6))
    (sSeq (sAsg (eFz (nLst (aCons (eCall 2 C_meet_well [] (aCons (eVar 5) (aCons (eVar 7) aNil))) (aCons (eCallK 2 0 (List.length (["other", "edge"] : List Str)) C_meet_well [1, 0] aNil (aCons (eVar 5) (aCons (eVar 7) aNil))) aNil)))) (gNm 8))
    (sSeq (sAsg (eBin oAdd (eVarB 8) (eFz (nLst (aCons (eCall 2 C_meet_well [] (aCons (eRev (eVarB 5)) (aCons (eVar 7) aNil))) (aCons (eCall 2 C_meet_well [] (aCons (eVar 7) (aCons (eRev (eVarB 5)) aNil))) aNil))))) (gNm 8))
    (sSeq (sIf (wTest (eBin oNe (eCB bRepr (aCons (eVarB 8) aNil)) (eCB bRepr (aCons (eVarB 6) aNil)))) (sRet (eC (.bl false))) sNext)
    (sIf (wOr (wNot (wTru (eCall 2 C_meet_well [] (aCons (eVar 5) (aCons (eVar 5) aNil))))) (wNot (wTru (eCall 2 C_meet_well [] (aCons (eVar 5) (aCons (eRev (eVarB 5)) aNil)))))) (sRet (eC (.bl false))) sNext)))))) sNext))
    (sSeq (sAsg (eCall 3 C_L_offset [] (aCons (eBin oIx (eVarB 4) (eC (.int 2))) (aCons (eBin oIx (eVarB 4) (eC (.int 0))) (aCons (eBin oIx (eVarB 4) (eC (.int 1))) aNil)))) (gTp 2 (gsCons (gNm 9) (gsCons (gNm 10) gsNil))))
    (sSeq (sIf (wTest (eBin (oOwn "Slack" C_Slack_eq true) (eCallK 2 0 (List.length (["edge", "point"] : List Str)) C_offset_of [1, 0] aNil (aCons (eVar 5) (aCons (eBin oIx (eVarB 4) (eC (.int 2))) aNil))) (eMake "Slack" 2 C_Slack_init [] (aCons (eVar 9) (aCons (eVar 10) aNil))))) (sRet (eC (.bl false))) sNext)
    (sSeq (sIf (wTest (eBin (oOwn "Slack" C_Slack_eq true) (eCall 2 C_offset_of [] (aCons (eBin oIx (eVarB 4) (eC (.int 2))) (aCons (eRev (eVarB 5)) aNil))) (eMake "Slack" 2 C_Slack_init [] (aCons (eVar 9) (aCons (eVar 10) aNil))))) (sRet (eC (.bl false))) sNext)
    (sIf (wTest (eBin (oOwn "Slack" C_Slack_eq true) (eCall 2 C_offset_of [] (aCons (eBin oIx (eVarB 4) (eC (.int 0))) (aCons (eVar 5) aNil))) (eMake "Slack" 2 C_Slack_init [.int 1] (aCons (eC (.int 0)) aNil)))) (sRet (eC (.bl false))) sNext)))))))))
    (sRet (eC (.bl true))))
theorem b_law {P : Program} {wd : World} {K : PySem.W.Frag} {mg : Str → Option Value} {base : Heap} (T : Tx K mg) (F_L_begin : FnS P wd K mg base "_law_begin" ["_law_script"] 1 (spBegin K)) (F_L_pick : Fn P wd K mg base "_law_pick" ["_law_draw", "_law_some"] 2 2 C_L_pick) (F_L_spot : Fn P wd K mg base "_law_spot" ["_law_draw", "_law_far"] 2 2 C_L_spot) (F_L_offset : Fn P wd K mg base "_law_offset" ["_law_spot_here", "_law_near", "_law_far"] 3 1 C_L_offset) (F_offset_of : Fn P wd K mg base "offset_of" ["point", "edge"] 2 4 C_offset_of) (M_Slack_1 : Mkr P wd K mg base "Slack" ["self", "num", "den"] 2 2 C_Slack_init [.int 1]) (O_Slack_eq : OwnOp P wd K mg base "Slack" "__eq__" 1 C_Slack_eq) (F_L_meet : Fn P wd K mg base "_law_meet" ["_law_side", "_law_far"] 2 3 C_L_meet) (F_meet_well : Fn P wd K mg base "meet_well" ["edge", "other"] 2 3 C_meet_well) (K_meet_well_other_edge : FnK P wd K mg base "meet_well" ["edge", "other"] 2 3 C_meet_well 0 ["other", "edge"] [1, 0]) (K_offset_of_edge_point : FnK P wd K mg base "offset_of" ["point", "edge"] 2 4 C_offset_of 0 ["edge", "point"] [1, 0]) (M_Slack_0 : Mkr P wd K mg base "Slack" ["self", "num", "den"] 2 2 C_Slack_init [])  (f : Addr) (cdv : Value) (A : Around) (outer : List Env) (s : Shared) (H : Hp) (E : XK) (hgd : A.guards = some []) (hr : Room 4 (A.deeper (envOfC "law" (defScope s_law) s.heap.objs.size f cdv))) :
    PSs (cxOf CX0 P wd K mg base N_law "law" (defScope s_law) f cdv A outer s H E).nox (defBody s_law) (tSeq (tAsg (tCall (spBegin K) [] E0 (tCons (tVar 0) tNil)) (gName 1)) (upS K E w_law)) := by
  obtain ⟨fdB, FB, bB, kB, gB⟩ := F_L_begin
  exact pss_cons (ps_set (i := 1) sc_law.nd rfl (Or.inr rfl) (pe_call FB (hr.mono (by decide)) (by rfl) gB kB bB .nil pass0 (pa_cons (pv 0) pa_nil)))
    (qss_cons (qs_for (is := [2]) PassesOwn.never rfl (qi_r1 (by rfl) T.z_range (qa_cons q_int qa_nil)) (qg_nm (pg_name (i := 2) sc_law.nd rfl (Or.inl rfl))) (qss_cons (qs_set (i := 3) sc_law.nd rfl (Or.inr rfl) (q_f F_L_pick calm_L_pick hr (by decide) (by rfl) (qa_cons (q_v 1 (pv 1)) (qa_cons (qf (qn_lst (qa_cons q_int (qa_cons q_int (qa_cons q_int (qa_cons q_int (qa_cons q_int qa_nil))))))) qa_nil))))
    (qss_cons (qs_setLc (i := 4) (own := [("_law_k", 11)]) rfl sc_law.nd rfl rfl (sw_true rfl rfl rfl (by decide +kernel)) (qi_r1 (by rfl) T.z_range (qa_cons q_int qa_nil)) (blkOk_by (own := [("_law_k", 11)]) (N := N_law) (sc := defScope s_law) (by decide +kernel)) (fun _ _ _ _ _ => (qg_nm (pg_name (i := 11) sc_law.nd rfl (Or.inl rfl)))) (fun _ _ _ _ _ => qts_nil) (fun _ _ _ _ _ => (q_f F_L_spot calm_L_spot hr (by decide) (by rfl) (qa_cons (q_v 1 (pv 1)) (qa_cons (q_v 3 (pv 3)) qa_nil)))))
    (qss_cons (qs_set (i := 5) sc_law.nd rfl (Or.inl rfl) (q_tup (qa_cons (q_ix ix_seq opd_ix (qb_v 4 (pv 4)) (qb q_int)) (qa_cons (q_ix ix_seq opd_ix (qb_v 4 (pv 4)) (qb q_int)) qa_nil))))
    (qss_cons (qs_if (qt_cmp (op_eqD hr.units) opd_eq (qb (q_ix ix_seq opd_ix (qb_v 5 (pv 5)) (qb q_int))) (qb (q_ix ix_seq opd_ix (qb_v 5 (pv 5)) (qb q_int))) (nomark _)) (qss_cons (qs_set (i := 6) sc_law.nd rfl (Or.inl rfl) (q_f F_L_offset calm_L_offset hr (by decide) (by rfl) (qa_cons (q_ix ix_seq opd_ix (qb_v 4 (pv 4)) (qb q_int)) (qa_cons (q_ix ix_seq opd_ix (qb_v 4 (pv 4)) (qb q_int)) (qa_cons (q_ix ix_seq opd_ix (qb_v 4 (pv 4)) (qb q_int)) qa_nil)))))
    (qss_one (qs_if (qt_ownNe T.n_Slack O_Slack_eq hr (by decide) (qb (q_f F_offset_of calm_offset_of hr (by decide) (by rfl) (qa_cons (q_ix ix_seq opd_ix (qb_v 4 (pv 4)) (qb q_int)) (qa_cons (q_v 5 (pv 5)) qa_nil)))) (qb (q_mk M_Slack_1 calm_Slack_init hr (by decide) (by rfl) (qa_cons (q_ix ix_seq opd_ix (qb_v 6 (pv 6)) (qb q_int)) qa_nil))) (nomark _)) (qss_one (qs_ret q_bl)) qss_nil))) (qss_one (qs_if (qt_cmp (op_neD hr.units) opd_ne (qb (q_ix ix_seq opd_ix (qb_v 4 (pv 4)) (qb q_int))) (qb (q_ix ix_seq opd_ix (qb_v 4 (pv 4)) (qb q_int))) (nomark _)) (qss_cons (qs_set (i := 7) sc_law.nd rfl (Or.inl rfl) (q_tup (qa_cons (q_ix ix_seq opd_ix (qb_v 4 (pv 4)) (qb q_int)) (qa_cons (q_ix ix_seq opd_ix (qb_v 4 (pv 4)) (qb q_int)) qa_nil))))
    (qss_cons (qs_set (i := 6) sc_law.nd rfl (Or.inl rfl) (q_op op_rep opd_rep (qbf (qn_lst (qa_cons (q_f F_L_meet calm_L_meet hr (by decide) (by rfl) (qa_cons (q_v 5 (pv 5)) (qa_cons (q_v 7 (pv 7)) qa_nil))) qa_nil))) (qb q_int)))
    (qss_cons (qs_set (i := 8) sc_law.nd rfl (Or.inl rfl) (qf (qn_lst (qa_cons (q_f F_meet_well calm_meet_well hr (by decide) (by rfl) (qa_cons (q_v 5 (pv 5)) (qa_cons (q_v 7 (pv 7)) qa_nil))) (qa_cons (q_fk0 K_meet_well_other_edge calm_meet_well hr (by decide) (by rfl) (qk_cons (q_v 5 (pv 5)) (qk_cons (q_v 7 (pv 7)) qk_nil))) qa_nil)))))
    (qss_cons (qs_set (i := 8) sc_law.nd rfl (Or.inl rfl) (q_op op_addU opd_add (qb_v 8 (pv 8)) (qbf (qn_lst (qa_cons (q_f F_meet_well calm_meet_well hr (by decide) (by rfl) (qa_cons (q_rev (qb_v 5 (pv 5))) (qa_cons (q_v 7 (pv 7)) qa_nil))) (qa_cons (q_f F_meet_well calm_meet_well hr (by decide) (by rfl) (qa_cons (q_v 7 (pv 7)) (qa_cons (q_rev (qb_v 5 (pv 5))) qa_nil))) qa_nil))))))
    (qss_cons (qs_if (qt_cmp (op_neD hr.units) opd_ne (qb (q_B (call_reprU hgd hr.units) bd_repr (by rfl) T.z_repr (by decide +kernel) (qab_cons (qb_v 8 (pv 8)) qab_nil))) (qb (q_B (call_reprU hgd hr.units) bd_repr (by rfl) T.z_repr (by decide +kernel) (qab_cons (qb_v 6 (pv 6)) qab_nil))) (nomark _)) (qss_one (qs_ret q_bl)) qss_nil)
    (qss_one (qs_if (PW.pt (qw_or (qt_not (qt_v (qb (q_f F_meet_well calm_meet_well hr (by decide) (by rfl) (qa_cons (q_v 5 (pv 5)) (qa_cons (q_v 5 (pv 5)) qa_nil)))))) (qw_or1 (qt_not (qt_v (qb (q_f F_meet_well calm_meet_well hr (by decide) (by rfl) (qa_cons (q_v 5 (pv 5)) (qa_cons (q_rev (qb_v 5 (pv 5))) qa_nil))))))))) (qss_one (qs_ret q_bl)) qss_nil))))))) qss_nil)))
    (qss_cons (qs_asg [9, 10] (q_f F_L_offset calm_L_offset hr (by decide) (by rfl) (qa_cons (q_ix ix_seq opd_ix (qb_v 4 (pv 4)) (qb q_int)) (qa_cons (q_ix ix_seq opd_ix (qb_v 4 (pv 4)) (qb q_int)) (qa_cons (q_ix ix_seq opd_ix (qb_v 4 (pv 4)) (qb q_int)) qa_nil)))) (qg_tp rfl (qgs_cons (qg_nm (pg_name (i := 9) sc_law.nd rfl (Or.inl rfl))) (qgs_cons (qg_nm (pg_name (i := 10) sc_law.nd rfl (Or.inl rfl))) qgs_nil))))
    (qss_cons (qs_if (qt_ownNe T.n_Slack O_Slack_eq hr (by decide) (qb (q_fk0 K_offset_of_edge_point calm_offset_of hr (by decide) (by rfl) (qk_cons (q_v 5 (pv 5)) (qk_cons (q_ix ix_seq opd_ix (qb_v 4 (pv 4)) (qb q_int)) qk_nil)))) (qb (q_mk M_Slack_0 calm_Slack_init hr (by decide) (by rfl) (qa_cons (q_v 9 (pv 9)) (qa_cons (q_v 10 (pv 10)) qa_nil)))) (nomark _)) (qss_one (qs_ret q_bl)) qss_nil)
    (qss_cons (qs_if (qt_ownNe T.n_Slack O_Slack_eq hr (by decide) (qb (q_f F_offset_of calm_offset_of hr (by decide) (by rfl) (qa_cons (q_ix ix_seq opd_ix (qb_v 4 (pv 4)) (qb q_int)) (qa_cons (q_rev (qb_v 5 (pv 5))) qa_nil)))) (qb (q_mk M_Slack_0 calm_Slack_init hr (by decide) (by rfl) (qa_cons (q_v 9 (pv 9)) (qa_cons (q_v 10 (pv 10)) qa_nil)))) (nomark _)) (qss_one (qs_ret q_bl)) qss_nil)
    (qss_one (qs_if (qt_ownNe T.n_Slack O_Slack_eq hr (by decide) (qb (q_f F_offset_of calm_offset_of hr (by decide) (by rfl) (qa_cons (q_ix ix_seq opd_ix (qb_v 4 (pv 4)) (qb q_int)) (qa_cons (q_v 5 (pv 5)) qa_nil)))) (qb (q_mk M_Slack_1 calm_Slack_init hr (by decide) (by rfl) (qa_cons q_int qa_nil))) (nomark _)) (qss_one (qs_ret q_bl)) qss_nil))))))))))
    (qss_one (qs_ret q_bl)))
end DL
set_option maxHeartbeats 4000000
namespace DL
open PySem PySem.Spec PyProof.Rows L2
theorem mulB {i j A B : Int} (h1 : -A ≤ i) (h2 : i ≤ A) (h3 : -B ≤ j) (h4 : j ≤ B) : -(A * B) ≤ i * j ∧ i * j ≤ A * B := by
  have k1 : 0 ≤ (A - i) * (B - j) := Int.mul_nonneg (by omega) (by omega)
  have k2 : 0 ≤ (A + i) * (B + j) := Int.mul_nonneg (by omega) (by omega)
  have k3 : 0 ≤ (A - i) * (B + j) := Int.mul_nonneg (by omega) (by omega)
  have k4 : 0 ≤ (A + i) * (B - j) := Int.mul_nonneg (by omega) (by omega)
  constructor <;> grind
theorem turn_lt {o a b : Pt} (ho : Bd o) (ha : Bd a) (hb : Bd b) : -1000000000000000 ≤ turn o a b ∧ turn o a b ≤ 1000000000000000 := by
  obtain ⟨_, _, _, _⟩ := ho
  obtain ⟨_, _, _, _⟩ := ha
  obtain ⟨_, _, _, _⟩ := hb
  have h1 := mulB (i := a.1 - o.1) (j := b.2 - o.2) (A := 20000000) (B := 20000000) (by omega) (by omega) (by omega) (by omega)
  have h2 := mulB (i := a.2 - o.2) (j := b.1 - o.1) (A := 20000000) (B := 20000000) (by omega) (by omega) (by omega) (by omega)
  unfold turn
  omega
theorem prod_lt {o a b : Pt} (ho : Bd o) (ha : Bd a) (hb : Bd b) : -1000000000000000 ≤ prod o a b ∧ prod o a b ≤ 1000000000000000 := by
  obtain ⟨_, _, _, _⟩ := ho
  obtain ⟨_, _, _, _⟩ := ha
  obtain ⟨_, _, _, _⟩ := hb
  have h1 := mulB (i := a.1 - o.1) (j := b.1 - o.1) (A := 20000000) (B := 20000000) (by omega) (by omega) (by omega) (by omega)
  have h2 := mulB (i := a.2 - o.2) (j := b.2 - o.2) (A := 20000000) (B := 20000000) (by omega) (by omega) (by omega) (by omega)
  unfold prod
  omega
theorem sq_nn (i : Int) : 0 ≤ i * i := by
  rcases Int.le_total 0 i with h | h
  · exact Int.mul_nonneg h h
  · exact Int.mul_nonneg_of_nonpos_of_nonpos h h
theorem prod_nn (a b : Pt) : 0 ≤ prod a b b := by
  have := sq_nn (b.1 - a.1)
  have := sq_nn (b.2 - a.2)
  unfold prod
  omega
theorem offP_lt {p a b : Pt} (hp : Bd p) (ha : Bd a) (hb : Bd b) : 0 ≤ (offP p a b).1 ∧ 1 ≤ (offP p a b).2 ∧ (offP p a b).2 ≤ 1000000000000000 := by
  simp only [offP]
  split
  · exact ⟨prod_nn a p, Int.le_refl 1, by simp⟩
  · split
    · exact ⟨prod_nn b p, Int.le_refl 1, by simp⟩
    · have := prod_lt ha hb hb
      refine ⟨?_, by omega, by omega⟩
      have := sq_nn (turn a b p)
      simpa [Int.pow_succ] using this
theorem h_turning : ∀ x ds n R, ds.length = 3 → C_turning x ds n R → w_turning x {nx := fun _ n => R .non n, rt := R} (st0 ds N_turning) n := by
  intro x ds n R _ h
  obtain ⟨o, a, b, rfl, ⟨_, _, _, _⟩, ⟨_, _, _, _⟩, ⟨_, _, _, _⟩, h⟩ := h
  simp only [w_turning, N_turning, r_bin, r_ixT0, r_ixT1, r_ixT2, r_ixT3, r_ixL0, r_ixL1, r_ixL2, r_ixL3, r_sub, r_add, r_mul, r_div, r_mod, r_pow, r_le, r_gt, r_ge, r_lt, r_eqI, r_neI, r_sIf, r_asg, r_asg2, r_g2, sRet, sSeq, sNext, sRetN, eVar, eVarB, eC, r_dt, r_rd, r_rdo, r_owS, tB_bl, r_test, r_notV, r_tru, r_trB, r_trL, r_trI, r_sqL, r_sqT, tw_2, r_par, r_rev, rv_t, rv_l, r_mt, r_ext, r_app, r_len, r_lenT, ow_ex, size0, size1, size2, size3, size4, ↓reduceIte, Bool.false_eq_true, sSetN, nLst, eFz, eCB,  eTup, aCons, aNil, eIf, wOr, wAnd, wNot, r_andV, r_orV, bT_bl, r_ifAnd, r_ifOr, eCall, eMake, st0, List.map, List.replicate, List.append, List.length, List.set, List.getElem?_cons_zero, List.getElem?_cons_succ, List.cons_append, List.nil_append, Nat.reduceSub, Nat.reduceAdd, Nat.zero_add, List.append_nil, true_and, and_true, List.getElem?_nil, List.length_cons, List.length_nil, List.map_cons, List.map_nil, r_pt0, r_pt1, r_fr0, r_fr1, r_ed0, r_ed1, r_g2pt, r_g2fr, r_g2ed, ed_mk, r_ltP, r_eqP, r_neP, r_eqE, r_inE, r_notInE, r_inEE, c_in_order, c_turning, c_product, c_cross, c_are_apart, c_overlap_well, c_meet_well, c_offset_parts, c_offset_of, c_is_integer, c_common, c_Slack_init, c_L_lies, c_L_meet, c_L_offset, c_L_spot, eq_self, rv_ed, gP_10, r_rep4, r_addL, eCallK, List.reverse_cons, List.reverse_nil, gNm, List.set_cons_succ, List.set_cons_zero]
  refine ⟨mulOk_of ?_ ?_ ?_ ?_, mulOk_of ?_ ?_ ?_ ?_, h⟩ <;> omega
theorem h_product : ∀ x ds n R, ds.length = 3 → C_product x ds n R → w_product x {nx := fun _ n => R .non n, rt := R} (st0 ds N_product) n := by
  intro x ds n R _ h
  obtain ⟨o, a, b, rfl, ⟨_, _, _, _⟩, ⟨_, _, _, _⟩, ⟨_, _, _, _⟩, h⟩ := h
  simp only [w_product, N_product, r_bin, r_ixT0, r_ixT1, r_ixT2, r_ixT3, r_ixL0, r_ixL1, r_ixL2, r_ixL3, r_sub, r_add, r_mul, r_div, r_mod, r_pow, r_le, r_gt, r_ge, r_lt, r_eqI, r_neI, r_sIf, r_asg, r_asg2, r_g2, sRet, sSeq, sNext, sRetN, eVar, eVarB, eC, r_dt, r_rd, r_rdo, r_owS, tB_bl, r_test, r_notV, r_tru, r_trB, r_trL, r_trI, r_sqL, r_sqT, tw_2, r_par, r_rev, rv_t, rv_l, r_mt, r_ext, r_app, r_len, r_lenT, ow_ex, size0, size1, size2, size3, size4, ↓reduceIte, Bool.false_eq_true, sSetN, nLst, eFz, eCB,  eTup, aCons, aNil, eIf, wOr, wAnd, wNot, r_andV, r_orV, bT_bl, r_ifAnd, r_ifOr, eCall, eMake, st0, List.map, List.replicate, List.append, List.length, List.set, List.getElem?_cons_zero, List.getElem?_cons_succ, List.cons_append, List.nil_append, Nat.reduceSub, Nat.reduceAdd, Nat.zero_add, List.append_nil, true_and, and_true, List.getElem?_nil, List.length_cons, List.length_nil, List.map_cons, List.map_nil, r_pt0, r_pt1, r_fr0, r_fr1, r_ed0, r_ed1, r_g2pt, r_g2fr, r_g2ed, ed_mk, r_ltP, r_eqP, r_neP, r_eqE, r_inE, r_notInE, r_inEE, c_in_order, c_turning, c_product, c_cross, c_are_apart, c_overlap_well, c_meet_well, c_offset_parts, c_offset_of, c_is_integer, c_common, c_Slack_init, c_L_lies, c_L_meet, c_L_offset, c_L_spot, eq_self, rv_ed, gP_10, r_rep4, r_addL, eCallK, List.reverse_cons, List.reverse_nil, gNm, List.set_cons_succ, List.set_cons_zero]
  refine ⟨mulOk_of ?_ ?_ ?_ ?_, mulOk_of ?_ ?_ ?_ ?_, h⟩ <;> omega
theorem h_in_order : ∀ x ds n R, ds.length = 1 → C_in_order x ds n R → w_in_order x {nx := fun _ n => R .non n, rt := R} (st0 ds N_in_order) n := by
  intro x ds n R _ h
  obtain ⟨e, rfl, h⟩ := h
  simp only [w_in_order, N_in_order, r_bin, r_ixT0, r_ixT1, r_ixT2, r_ixT3, r_ixL0, r_ixL1, r_ixL2, r_ixL3, r_sub, r_add, r_mul, r_div, r_mod, r_pow, r_le, r_gt, r_ge, r_lt, r_eqI, r_neI, r_sIf, r_asg, r_asg2, r_g2, sRet, sSeq, sNext, sRetN, eVar, eVarB, eC, r_dt, r_rd, r_rdo, r_owS, tB_bl, r_test, r_notV, r_tru, r_trB, r_trL, r_trI, r_sqL, r_sqT, tw_2, r_par, r_rev, rv_t, rv_l, r_mt, r_ext, r_app, r_len, r_lenT, ow_ex, size0, size1, size2, size3, size4, ↓reduceIte, Bool.false_eq_true, sSetN, nLst, eFz, eCB,  eTup, aCons, aNil, eIf, wOr, wAnd, wNot, r_andV, r_orV, bT_bl, r_ifAnd, r_ifOr, eCall, eMake, st0, List.map, List.replicate, List.append, List.length, List.set, List.getElem?_cons_zero, List.getElem?_cons_succ, List.cons_append, List.nil_append, Nat.reduceSub, Nat.reduceAdd, Nat.zero_add, List.append_nil, true_and, and_true, List.getElem?_nil, List.length_cons, List.length_nil, List.map_cons, List.map_nil, r_pt0, r_pt1, r_fr0, r_fr1, r_ed0, r_ed1, r_g2pt, r_g2fr, r_g2ed, ed_mk, r_ltP, r_eqP, r_neP, r_eqE, r_inE, r_notInE, r_inEE, c_in_order, c_turning, c_product, c_cross, c_are_apart, c_overlap_well, c_meet_well, c_offset_parts, c_offset_of, c_is_integer, c_common, c_Slack_init, c_L_lies, c_L_meet, c_L_offset, c_L_spot, eq_self, rv_ed, gP_10, r_rep4, r_addL, eCallK, List.reverse_cons, List.reverse_nil, gNm, List.set_cons_succ, List.set_cons_zero]
  unfold ordE at h
  split
  · rename_i g; rw [if_pos g] at h; exact h
  · rename_i g; rw [if_neg g] at h; exact h
theorem h_are_apart : ∀ x ds n R, ds.length = 2 → C_are_apart x ds n R → w_are_apart x {nx := fun _ n => R .non n, rt := R} (st0 ds N_are_apart) n := by
  intro x ds n R _ h
  obtain ⟨i, j, rfl, h⟩ := h
  simp only [w_are_apart, N_are_apart, r_bin, r_ixT0, r_ixT1, r_ixT2, r_ixT3, r_ixL0, r_ixL1, r_ixL2, r_ixL3, r_sub, r_add, r_mul, r_div, r_mod, r_pow, r_le, r_gt, r_ge, r_lt, r_eqI, r_neI, r_sIf, r_asg, r_asg2, r_g2, sRet, sSeq, sNext, sRetN, eVar, eVarB, eC, r_dt, r_rd, r_rdo, r_owS, tB_bl, r_test, r_notV, r_tru, r_trB, r_trL, r_trI, r_sqL, r_sqT, tw_2, r_par, r_rev, rv_t, rv_l, r_mt, r_ext, r_app, r_len, r_lenT, ow_ex, size0, size1, size2, size3, size4, ↓reduceIte, Bool.false_eq_true, sSetN, nLst, eFz, eCB,  eTup, aCons, aNil, eIf, wOr, wAnd, wNot, r_andV, r_orV, bT_bl, r_ifAnd, r_ifOr, eCall, eMake, st0, List.map, List.replicate, List.append, List.length, List.set, List.getElem?_cons_zero, List.getElem?_cons_succ, List.cons_append, List.nil_append, Nat.reduceSub, Nat.reduceAdd, Nat.zero_add, List.append_nil, true_and, and_true, List.getElem?_nil, List.length_cons, List.length_nil, List.map_cons, List.map_nil, r_pt0, r_pt1, r_fr0, r_fr1, r_ed0, r_ed1, r_g2pt, r_g2fr, r_g2ed, ed_mk, r_ltP, r_eqP, r_neP, r_eqE, r_inE, r_notInE, r_inEE, c_in_order, c_turning, c_product, c_cross, c_are_apart, c_overlap_well, c_meet_well, c_offset_parts, c_offset_of, c_is_integer, c_common, c_Slack_init, c_L_lies, c_L_meet, c_L_offset, c_L_spot, eq_self, rv_ed, gP_10, r_rep4, r_addL, eCallK, List.reverse_cons, List.reverse_nil, gNm, List.set_cons_succ, List.set_cons_zero]
  unfold apartI at h
  split
  · simp_all
  · simp_all
theorem h_overlap_well : ∀ x ds n R, ds.length = 2 → C_overlap_well x ds n R → w_overlap_well x {nx := fun _ n => R .non n, rt := R} (st0 ds N_overlap_well) n := by
  intro x ds n R _ h
  obtain ⟨e, o, rfl, h⟩ := h
  simp only [w_overlap_well, N_overlap_well, r_bin, r_ixT0, r_ixT1, r_ixT2, r_ixT3, r_ixL0, r_ixL1, r_ixL2, r_ixL3, r_sub, r_add, r_mul, r_div, r_mod, r_pow, r_le, r_gt, r_ge, r_lt, r_eqI, r_neI, r_sIf, r_asg, r_asg2, r_g2, sRet, sSeq, sNext, sRetN, eVar, eVarB, eC, r_dt, r_rd, r_rdo, r_owS, tB_bl, r_test, r_notV, r_tru, r_trB, r_trL, r_trI, r_sqL, r_sqT, tw_2, r_par, r_rev, rv_t, rv_l, r_mt, r_ext, r_app, r_len, r_lenT, ow_ex, size0, size1, size2, size3, size4, ↓reduceIte, Bool.false_eq_true, sSetN, nLst, eFz, eCB,  eTup, aCons, aNil, eIf, wOr, wAnd, wNot, r_andV, r_orV, bT_bl, r_ifAnd, r_ifOr, eCall, eMake, st0, List.map, List.replicate, List.append, List.length, List.set, List.getElem?_cons_zero, List.getElem?_cons_succ, List.cons_append, List.nil_append, Nat.reduceSub, Nat.reduceAdd, Nat.zero_add, List.append_nil, true_and, and_true, List.getElem?_nil, List.length_cons, List.length_nil, List.map_cons, List.map_nil, r_pt0, r_pt1, r_fr0, r_fr1, r_ed0, r_ed1, r_g2pt, r_g2fr, r_g2ed, ed_mk, r_ltP, r_eqP, r_neP, r_eqE, r_inE, r_notInE, r_inEE, c_in_order, c_turning, c_product, c_cross, c_are_apart, c_overlap_well, c_meet_well, c_offset_parts, c_offset_of, c_is_integer, c_common, c_Slack_init, c_L_lies, c_L_meet, c_L_offset, c_L_spot, eq_self, rv_ed, gP_10, r_rep4, r_addL, eCallK, List.reverse_cons, List.reverse_nil, gNm, List.set_cons_succ, List.set_cons_zero]
  simp only [overW] at h
  split <;> split <;> simp_all
theorem h_offset_parts : ∀ x ds n R, ds.length = 3 → C_offset_parts x ds n R → w_offset_parts x {nx := fun _ n => R .non n, rt := R} (st0 ds N_offset_parts) n := by
  intro x ds n R _ h
  obtain ⟨p, a, b, rfl, hp, ha, hb, h⟩ := h
  simp only [w_offset_parts, N_offset_parts, r_bin, r_ixT0, r_ixT1, r_ixT2, r_ixT3, r_ixL0, r_ixL1, r_ixL2, r_ixL3, r_sub, r_add, r_mul, r_div, r_mod, r_pow, r_le, r_gt, r_ge, r_lt, r_eqI, r_neI, r_sIf, r_asg, r_asg2, r_g2, sRet, sSeq, sNext, sRetN, eVar, eVarB, eC, r_dt, r_rd, r_rdo, r_owS, tB_bl, r_test, r_notV, r_tru, r_trB, r_trL, r_trI, r_sqL, r_sqT, tw_2, r_par, r_rev, rv_t, rv_l, r_mt, r_ext, r_app, r_len, r_lenT, ow_ex, size0, size1, size2, size3, size4, ↓reduceIte, Bool.false_eq_true, sSetN, nLst, eFz, eCB,  eTup, aCons, aNil, eIf, wOr, wAnd, wNot, r_andV, r_orV, bT_bl, r_ifAnd, r_ifOr, eCall, eMake, st0, List.map, List.replicate, List.append, List.length, List.set, List.getElem?_cons_zero, List.getElem?_cons_succ, List.cons_append, List.nil_append, Nat.reduceSub, Nat.reduceAdd, Nat.zero_add, List.append_nil, true_and, and_true, List.getElem?_nil, List.length_cons, List.length_nil, List.map_cons, List.map_nil, r_pt0, r_pt1, r_fr0, r_fr1, r_ed0, r_ed1, r_g2pt, r_g2fr, r_g2ed, ed_mk, r_ltP, r_eqP, r_neP, r_eqE, r_inE, r_notInE, r_inEE, c_in_order, c_turning, c_product, c_cross, c_are_apart, c_overlap_well, c_meet_well, c_offset_parts, c_offset_of, c_is_integer, c_common, c_Slack_init, c_L_lies, c_L_meet, c_L_offset, c_L_spot, eq_self, rv_ed, gP_10, r_rep4, r_addL, eCallK, List.reverse_cons, List.reverse_nil, gNm, List.set_cons_succ, List.set_cons_zero]
  refine ⟨ha, hb, hb, ha, hb, hp, ?_⟩
  simp only [offP] at h
  simp only [decide_eq_true_eq]
  split
  · rename_i g; rw [if_pos g] at h; exact ⟨ha, hp, hp, h⟩
  · rename_i g; rw [if_neg g] at h
    split
    · rename_i g; rw [if_pos g] at h; exact ⟨hb, hp, hp, h⟩
    · rename_i g; rw [if_neg g] at h
      refine ⟨ha, hb, hp, ⟨by decide, by decide, ?_, ?_⟩, h⟩
      · have := turn_lt ha hb hp; omega
      · have := turn_lt ha hb hp; omega
theorem h_offset_of : ∀ x ds n R, ds.length = 2 → C_offset_of x ds n R → w_offset_of x {nx := fun _ n => R .non n, rt := R} (st0 ds N_offset_of) n := by
  intro x ds n R _ h
  obtain ⟨p, e, rfl, hp, ha, hb, h⟩ := h
  simp only [w_offset_of, N_offset_of, r_bin, r_ixT0, r_ixT1, r_ixT2, r_ixT3, r_ixL0, r_ixL1, r_ixL2, r_ixL3, r_sub, r_add, r_mul, r_div, r_mod, r_pow, r_le, r_gt, r_ge, r_lt, r_eqI, r_neI, r_sIf, r_asg, r_asg2, r_g2, sRet, sSeq, sNext, sRetN, eVar, eVarB, eC, r_dt, r_rd, r_rdo, r_owS, tB_bl, r_test, r_notV, r_tru, r_trB, r_trL, r_trI, r_sqL, r_sqT, tw_2, r_par, r_rev, rv_t, rv_l, r_mt, r_ext, r_app, r_len, r_lenT, ow_ex, size0, size1, size2, size3, size4, ↓reduceIte, Bool.false_eq_true, sSetN, nLst, eFz, eCB,  eTup, aCons, aNil, eIf, wOr, wAnd, wNot, r_andV, r_orV, bT_bl, r_ifAnd, r_ifOr, eCall, eMake, st0, List.map, List.replicate, List.append, List.length, List.set, List.getElem?_cons_zero, List.getElem?_cons_succ, List.cons_append, List.nil_append, Nat.reduceSub, Nat.reduceAdd, Nat.zero_add, List.append_nil, true_and, and_true, List.getElem?_nil, List.length_cons, List.length_nil, List.map_cons, List.map_nil, r_pt0, r_pt1, r_fr0, r_fr1, r_ed0, r_ed1, r_g2pt, r_g2fr, r_g2ed, ed_mk, r_ltP, r_eqP, r_neP, r_eqE, r_inE, r_notInE, r_inEE, c_in_order, c_turning, c_product, c_cross, c_are_apart, c_overlap_well, c_meet_well, c_offset_parts, c_offset_of, c_is_integer, c_common, c_Slack_init, c_L_lies, c_L_meet, c_L_offset, c_L_spot, eq_self, rv_ed, gP_10, r_rep4, r_addL, eCallK, List.reverse_cons, List.reverse_nil, gNm, List.set_cons_succ, List.set_cons_zero]
  have hl := offP_lt hp ha hb
  exact ⟨hp, ha, hb, hl.1, hl.2.1, by omega, h⟩
theorem h_is_integer : ∀ x ds n R, ds.length = 1 → C_is_integer x ds n R → w_is_integer x {nx := fun _ n => R .non n, rt := R} (st0 ds N_is_integer) n := by
  intro x ds n R _ h
  obtain ⟨d, a, rfl, e, h⟩ := h
  simp only [w_is_integer, N_is_integer, r_bin, r_ixT0, r_ixT1, r_ixT2, r_ixT3, r_ixL0, r_ixL1, r_ixL2, r_ixL3, r_sub, r_add, r_mul, r_div, r_mod, r_pow, r_le, r_gt, r_ge, r_lt, r_eqI, r_neI, r_sIf, r_asg, r_asg2, r_g2, sRet, sSeq, sNext, sRetN, eVar, eVarB, eC, r_dt, r_rd, r_rdo, r_owS, tB_bl, r_test, r_notV, r_tru, r_trB, r_trL, r_trI, r_sqL, r_sqT, tw_2, r_par, r_rev, rv_t, rv_l, r_mt, r_ext, r_app, r_len, r_lenT, ow_ex, size0, size1, size2, size3, size4, ↓reduceIte, Bool.false_eq_true, sSetN, nLst, eFz, eCB,  eTup, aCons, aNil, eIf, wOr, wAnd, wNot, r_andV, r_orV, bT_bl, r_ifAnd, r_ifOr, eCall, eMake, st0, List.map, List.replicate, List.append, List.length, List.set, List.getElem?_cons_zero, List.getElem?_cons_succ, List.cons_append, List.nil_append, Nat.reduceSub, Nat.reduceAdd, Nat.zero_add, List.append_nil, true_and, and_true, List.getElem?_nil, List.length_cons, List.length_nil, List.map_cons, List.map_nil, r_pt0, r_pt1, r_fr0, r_fr1, r_ed0, r_ed1, r_g2pt, r_g2fr, r_g2ed, ed_mk, r_ltP, r_eqP, r_neP, r_eqE, r_inE, r_notInE, r_inEE, c_in_order, c_turning, c_product, c_cross, c_are_apart, c_overlap_well, c_meet_well, c_offset_parts, c_offset_of, c_is_integer, c_common, c_Slack_init, c_L_lies, c_L_meet, c_L_offset, c_L_spot, eq_self, rv_ed, gP_10, r_rep4, r_addL, eCallK, List.reverse_cons, List.reverse_nil, gNm, List.set_cons_succ, List.set_cons_zero, eIsB]
  cases d <;> simp only [tyN, Option.some.injEq, reduceCtorEq] at e <;> subst e
  · exact ⟨_, false, rfl, rfl, h⟩
  · exact ⟨_, true, rfl, rfl, _, true, rfl, rfl, h⟩
  · exact ⟨_, true, rfl, rfl, _, false, rfl, rfl, h⟩
  · exact ⟨_, false, rfl, rfl, h⟩
  · exact ⟨_, false, rfl, rfl, h⟩
  · exact ⟨_, false, rfl, rfl, h⟩
  · exact ⟨_, false, rfl, rfl, h⟩
theorem gcd_step (i j : Int) (hj : 0 ≤ j) (hi : 0 ≤ i) : Int.gcd (i % j) j = Int.gcd j i := by
  obtain ⟨a, rfl⟩ := Int.eq_ofNat_of_zero_le hi
  obtain ⟨b, rfl⟩ := Int.eq_ofNat_of_zero_le hj
  have : ((a : Int) % (b : Int)) = ((a % b : Nat) : Int) := by omega
  rw [this]
  show Nat.gcd (a % b) b = Nat.gcd b a
  rw [← Nat.gcd_rec]
theorem h_common : ∀ x ds n R, ds.length = 2 → C_common x ds n R → w_common x {nx := fun _ n => R .non n, rt := R} (st0 ds N_common) n := by
  intro x ds n R _ h
  obtain ⟨a, b, rfl, ha, hb, h⟩ := h
  simp only [w_common, N_common, r_bin, r_ixT0, r_ixT1, r_ixT2, r_ixT3, r_ixL0, r_ixL1, r_ixL2, r_ixL3, r_sub, r_add, r_mul, r_div, r_mod, r_pow, r_le, r_gt, r_ge, r_lt, r_eqI, r_neI, r_sIf, r_asg, r_asg2, r_g2, sRet, sSeq, sNext, sRetN, eVar, eVarB, eC, r_dt, r_rd, r_rdo, r_owS, tB_bl, r_test, r_notV, r_tru, r_trB, r_trL, r_trI, r_sqL, r_sqT, tw_2, r_par, r_rev, rv_t, rv_l, r_mt, r_ext, r_app, r_len, r_lenT, ow_ex, size0, size1, size2, size3, size4, ↓reduceIte, Bool.false_eq_true, sSetN, nLst, eFz, eCB,  eTup, aCons, aNil, eIf, wOr, wAnd, wNot, r_andV, r_orV, bT_bl, r_ifAnd, r_ifOr, eCall, eMake, st0, List.map, List.replicate, List.append, List.length, List.set, List.getElem?_cons_zero, List.getElem?_cons_succ, List.cons_append, List.nil_append, Nat.reduceSub, Nat.reduceAdd, Nat.zero_add, List.append_nil, true_and, and_true, List.getElem?_nil, List.length_cons, List.length_nil, List.map_cons, List.map_nil, r_pt0, r_pt1, r_fr0, r_fr1, r_ed0, r_ed1, r_g2pt, r_g2fr, r_g2ed, ed_mk, r_ltP, r_eqP, r_neP, r_eqE, r_inE, r_notInE, r_inEE, c_in_order, c_turning, c_product, c_cross, c_are_apart, c_overlap_well, c_meet_well, c_offset_parts, c_offset_of, c_is_integer, c_common, c_Slack_init, c_L_lies, c_L_meet, c_L_offset, c_L_spot, eq_self, rv_ed, gP_10, r_rep4, r_addL, eCallK, List.reverse_cons, List.reverse_nil, gNm, List.set_cons_succ, List.set_cons_zero, sWhile]
  refine ⟨fun η n1 => ∃ i j : Int, η = [.dt (.int i), .dt (.int j)] ∧ 0 ≤ i ∧ 0 ≤ j ∧ Int.gcd i j = Int.gcd a b ∧ n1 = n, fun η _ => match η with | [_, .dt (.int j)] => j.toNat | _ => 0, ⟨a, b, rfl, ha, hb, rfl, rfl⟩, ?_⟩
  rintro η n1 ⟨i, j, rfl, hi, hj, hg, rfl⟩
  simp only [r_bin, r_ixT0, r_ixT1, r_ixT2, r_ixT3, r_ixL0, r_ixL1, r_ixL2, r_ixL3, r_sub, r_add, r_mul, r_div, r_mod, r_pow, r_le, r_gt, r_ge, r_lt, r_eqI, r_neI, r_sIf, r_asg, r_asg2, r_g2, sRet, sSeq, sNext, sRetN, eVar, eVarB, eC, r_dt, r_rd, r_rdo, r_owS, tB_bl, r_test, r_notV, r_tru, r_trB, r_trL, r_trI, r_sqL, r_sqT, tw_2, r_par, r_rev, rv_t, rv_l, r_mt, r_ext, r_app, r_len, r_lenT, ow_ex, size0, size1, size2, size3, size4, ↓reduceIte, Bool.false_eq_true, sSetN, nLst, eFz, eCB,  eTup, aCons, aNil, eIf, wOr, wAnd, wNot, r_andV, r_orV, bT_bl, r_ifAnd, r_ifOr, eCall, eMake, st0, List.map, List.replicate, List.append, List.length, List.set, List.getElem?_cons_zero, List.getElem?_cons_succ, List.cons_append, List.nil_append, Nat.reduceSub, Nat.reduceAdd, Nat.zero_add, List.append_nil, true_and, and_true, List.getElem?_nil, List.length_cons, List.length_nil, List.map_cons, List.map_nil, r_pt0, r_pt1, r_fr0, r_fr1, r_ed0, r_ed1, r_g2pt, r_g2fr, r_g2ed, ed_mk, r_ltP, r_eqP, r_neP, r_eqE, r_inE, r_notInE, r_inEE, c_in_order, c_turning, c_product, c_cross, c_are_apart, c_overlap_well, c_meet_well, c_offset_parts, c_offset_of, c_is_integer, c_common, c_Slack_init, c_L_lies, c_L_meet, c_L_offset, c_L_spot, eq_self, rv_ed, gP_10, r_rep4, r_addL, eCallK, List.reverse_cons, List.reverse_nil, gNm, List.set_cons_succ, List.set_cons_zero, decide_eq_true_eq]
  split
  · rename_i g
    refine ⟨g, ⟨j, i % j, rfl, hj, Int.emod_nonneg _ (by omega), ?_⟩, ?_⟩
    · rw [← hg, Int.gcd_comm j, Int.gcd_comm i]; exact gcd_step i j (by omega) hi
    · have := Int.emod_lt_of_pos i g
      have := Int.emod_nonneg i (b := j) (by omega)
      omega
  · rename_i g
    have : j = 0 := by omega
    subst this
    rw [← hg, Int.gcd_zero_right] at h
    have e : ((i.natAbs : Nat) : Int) = i := by omega
    rw [e] at h
    exact h
theorem gcd_pos {a b : Int} (h : 1 ≤ b) : 0 < (Int.gcd a b : Int) := by
  have : Int.gcd a b ≠ 0 := by
    intro e
    rw [Int.gcd_eq_zero_iff] at e
    omega
  omega
theorem gcd_le {a b : Int} (h : 1 ≤ b) : (Int.gcd a b : Int) ≤ b := Int.le_of_dvd (by omega) (Int.gcd_dvd_right ..)
theorem h_Slack__init_ : ∀ p x ds n R, ds.length = 2 → C_Slack_init x ds n R → w_Slack__init_ x { nx := fun η n => obS "Slack" η[0]? fun p' ns fs => p' = p ∧ R ns fs n, rt := fun _ _ => False } (.ob p "Slack" [] [] :: (ds.map Sl.dt ++ List.replicate (N_Slack__init_.length - (2 + 1)) Sl.un)) n := by
  intro p x ds n R _ h
  obtain ⟨a, b, rfl, ha, hb, hb2, h⟩ := h
  have g0 := gcd_pos (a := a) hb
  have g1 := gcd_le (a := a) hb
  simp only [w_Slack__init_, N_Slack__init_, r_bin, r_ixT0, r_ixT1, r_ixT2, r_ixT3, r_ixL0, r_ixL1, r_ixL2, r_ixL3, r_sub, r_add, r_mul, r_div, r_mod, r_pow, r_le, r_gt, r_ge, r_lt, r_eqI, r_neI, r_sIf, r_asg, r_asg2, r_g2, sRet, sSeq, sNext, sRetN, eVar, eVarB, eC, r_dt, r_rd, r_rdo, r_owS, tB_bl, r_test, r_notV, r_tru, r_trB, r_trL, r_trI, r_sqL, r_sqT, tw_2, r_par, r_rev, rv_t, rv_l, r_mt, r_ext, r_app, r_len, r_lenT, ow_ex, size0, size1, size2, size3, size4, ↓reduceIte, Bool.false_eq_true, sSetN, nLst, eFz, eCB,  eTup, aCons, aNil, eIf, wOr, wAnd, wNot, r_andV, r_orV, bT_bl, r_ifAnd, r_ifOr, eCall, eMake, st0, List.map, List.replicate, List.append, List.length, List.set, List.getElem?_cons_zero, List.getElem?_cons_succ, List.cons_append, List.nil_append, Nat.reduceSub, Nat.reduceAdd, Nat.zero_add, List.append_nil, true_and, and_true, List.getElem?_nil, List.length_cons, List.length_nil, List.map_cons, List.map_nil, r_pt0, r_pt1, r_fr0, r_fr1, r_ed0, r_ed1, r_g2pt, r_g2fr, r_g2ed, ed_mk, r_ltP, r_eqP, r_neP, r_eqE, r_inE, r_notInE, r_inEE, c_in_order, c_turning, c_product, c_cross, c_are_apart, c_overlap_well, c_meet_well, c_offset_parts, c_offset_of, c_is_integer, c_common, c_Slack_init, c_L_lies, c_L_meet, c_L_offset, c_L_spot, eq_self, rv_ed, gP_10, r_rep4, r_addL, eCallK, List.reverse_cons, List.reverse_nil, gNm, List.set_cons_succ, List.set_cons_zero, sPutF, obS, putN, sNever]
  rw [show decide (a < 0) = false by simp; omega, show decide (b < 1) = false by simp; omega]
  simp only [Bool.not_true, Bool.false_eq_true, if_false]
  refine ⟨by omega, ha, ⟨?_, ?_⟩, by decide, ?_⟩
  all_goals (try rw [Int.gcd_comm])
  · exact g0
  · omega
  · simp
    refine ⟨⟨g0, by omega⟩, ?_⟩
    exact h
theorem h_Slack__eq_ : ∀ x ds n R, ds.length = 2 → C_Slack_eq x ds n R → w_Slack__eq_ x {nx := fun _ n => R .non n, rt := R} (st0 ds N_Slack__eq_) n := by
  intro x ds n R _ h
  obtain ⟨p, q, rfl, h⟩ := h
  simp only [w_Slack__eq_, N_Slack__eq_, r_bin, r_ixT0, r_ixT1, r_ixT2, r_ixT3, r_ixL0, r_ixL1, r_ixL2, r_ixL3, r_sub, r_add, r_mul, r_div, r_mod, r_pow, r_le, r_gt, r_ge, r_lt, r_eqI, r_neI, r_sIf, r_asg, r_asg2, r_g2, sRet, sSeq, sNext, sRetN, eVar, eVarB, eC, r_dt, r_rd, r_rdo, r_owS, tB_bl, r_test, r_notV, r_tru, r_trB, r_trL, r_trI, r_sqL, r_sqT, tw_2, r_par, r_rev, rv_t, rv_l, r_mt, r_ext, r_app, r_len, r_lenT, ow_ex, size0, size1, size2, size3, size4, ↓reduceIte, Bool.false_eq_true, sSetN, nLst, eFz, eCB,  eTup, aCons, aNil, eIf, wOr, wAnd, wNot, r_andV, r_orV, bT_bl, r_ifAnd, r_ifOr, eCall, eMake, st0, List.map, List.replicate, List.append, List.length, List.set, List.getElem?_cons_zero, List.getElem?_cons_succ, List.cons_append, List.nil_append, Nat.reduceSub, Nat.reduceAdd, Nat.zero_add, List.append_nil, true_and, and_true, List.getElem?_nil, List.length_cons, List.length_nil, List.map_cons, List.map_nil, r_pt0, r_pt1, r_fr0, r_fr1, r_ed0, r_ed1, r_g2pt, r_g2fr, r_g2ed, ed_mk, r_ltP, r_eqP, r_neP, r_eqE, r_inE, r_notInE, r_inEE, c_in_order, c_turning, c_product, c_cross, c_are_apart, c_overlap_well, c_meet_well, c_offset_parts, c_offset_of, c_is_integer, c_common, c_Slack_init, c_L_lies, c_L_meet, c_L_offset, c_L_spot, eq_self, rv_ed, gP_10, r_rep4, r_addL, eCallK, List.reverse_cons, List.reverse_nil, gNm, List.set_cons_succ, List.set_cons_zero, eIsC, slk, eFldV, fldS, lkN]
  have f1 : ("own_num" : Str) ≠ "own_den" := by decide
  simp only [if_neg f1, Option.some.injEq, exists_eq_left', r_bin, r_ixT0, r_ixT1, r_ixT2, r_ixT3, r_ixL0, r_ixL1, r_ixL2, r_ixL3, r_sub, r_add, r_mul, r_div, r_mod, r_pow, r_le, r_gt, r_ge, r_lt, r_eqI, r_neI, r_sIf, r_asg, r_asg2, r_g2, sRet, sSeq, sNext, sRetN, eVar, eVarB, eC, r_dt, r_rd, r_rdo, r_owS, tB_bl, r_test, r_notV, r_tru, r_trB, r_trL, r_trI, r_sqL, r_sqT, tw_2, r_par, r_rev, rv_t, rv_l, r_mt, r_ext, r_app, r_len, r_lenT, ow_ex, size0, size1, size2, size3, size4, ↓reduceIte, Bool.false_eq_true, sSetN, nLst, eFz, eCB,  eTup, aCons, aNil, eIf, wOr, wAnd, wNot, r_andV, r_orV, bT_bl, r_ifAnd, r_ifOr, eCall, eMake, st0, List.map, List.replicate, List.append, List.length, List.set, List.getElem?_cons_zero, List.getElem?_cons_succ, List.cons_append, List.nil_append, Nat.reduceSub, Nat.reduceAdd, Nat.zero_add, List.append_nil, true_and, and_true, List.getElem?_nil, List.length_cons, List.length_nil, List.map_cons, List.map_nil, r_pt0, r_pt1, r_fr0, r_fr1, r_ed0, r_ed1, r_g2pt, r_g2fr, r_g2ed, ed_mk, r_ltP, r_eqP, r_neP, r_eqE, r_inE, r_notInE, r_inEE, c_in_order, c_turning, c_product, c_cross, c_are_apart, c_overlap_well, c_meet_well, c_offset_parts, c_offset_of, c_is_integer, c_common, c_Slack_init, c_L_lies, c_L_meet, c_L_offset, c_L_spot, eq_self, rv_ed, gP_10, r_rep4, r_addL, eCallK, List.reverse_cons, List.reverse_nil, gNm, List.set_cons_succ, List.set_cons_zero]
  obtain ⟨a, b⟩ := p
  obtain ⟨c, d⟩ := q
  by_cases k1 : a = c <;> by_cases k2 : b = d <;> simp_all
theorem h_L_cross : ∀ x ds n R, ds.length = 3 → C_L_cross x ds n R → w_L_cross x {nx := fun _ n => R .non n, rt := R} (st0 ds N_L_cross) n := by
  intro x ds n R _ h
  obtain ⟨o, a, b, rfl, ⟨_, _, _, _⟩, ⟨_, _, _, _⟩, ⟨_, _, _, _⟩, h⟩ := h
  simp only [w_L_cross, N_L_cross, r_bin, r_ixT0, r_ixT1, r_ixT2, r_ixT3, r_ixL0, r_ixL1, r_ixL2, r_ixL3, r_sub, r_add, r_mul, r_div, r_mod, r_pow, r_le, r_gt, r_ge, r_lt, r_eqI, r_neI, r_sIf, r_asg, r_asg2, r_g2, sRet, sSeq, sNext, sRetN, eVar, eVarB, eC, r_dt, r_rd, r_rdo, r_owS, tB_bl, r_test, r_notV, r_tru, r_trB, r_trL, r_trI, r_sqL, r_sqT, tw_2, r_par, r_rev, rv_t, rv_l, r_mt, r_ext, r_app, r_len, r_lenT, ow_ex, size0, size1, size2, size3, size4, ↓reduceIte, Bool.false_eq_true, sSetN, nLst, eFz, eCB,  eTup, aCons, aNil, eIf, wOr, wAnd, wNot, r_andV, r_orV, bT_bl, r_ifAnd, r_ifOr, eCall, eMake, st0, List.map, List.replicate, List.append, List.length, List.set, List.getElem?_cons_zero, List.getElem?_cons_succ, List.cons_append, List.nil_append, Nat.reduceSub, Nat.reduceAdd, Nat.zero_add, List.append_nil, true_and, and_true, List.getElem?_nil, List.length_cons, List.length_nil, List.map_cons, List.map_nil, r_pt0, r_pt1, r_fr0, r_fr1, r_ed0, r_ed1, r_g2pt, r_g2fr, r_g2ed, ed_mk, r_ltP, r_eqP, r_neP, r_eqE, r_inE, r_notInE, r_inEE, c_in_order, c_turning, c_product, c_cross, c_are_apart, c_overlap_well, c_meet_well, c_offset_parts, c_offset_of, c_is_integer, c_common, c_Slack_init, c_L_lies, c_L_meet, c_L_offset, c_L_spot, eq_self, rv_ed, gP_10, r_rep4, r_addL, eCallK, List.reverse_cons, List.reverse_nil, gNm, List.set_cons_succ, List.set_cons_zero]
  refine ⟨mulOk_of ?_ ?_ ?_ ?_, mulOk_of ?_ ?_ ?_ ?_, h⟩ <;> omega
theorem h_L_lies : ∀ x ds n R, ds.length = 2 → C_L_lies x ds n R → w_L_lies x {nx := fun _ n => R .non n, rt := R} (st0 ds N_L_lies) n := by
  intro x ds n R _ h
  obtain ⟨s, e, rfl, hs, ha, hb, h⟩ := h
  simp only [w_L_lies, N_L_lies, r_bin, r_ixT0, r_ixT1, r_ixT2, r_ixT3, r_ixL0, r_ixL1, r_ixL2, r_ixL3, r_sub, r_add, r_mul, r_div, r_mod, r_pow, r_le, r_gt, r_ge, r_lt, r_eqI, r_neI, r_sIf, r_asg, r_asg2, r_g2, sRet, sSeq, sNext, sRetN, eVar, eVarB, eC, r_dt, r_rd, r_rdo, r_owS, tB_bl, r_test, r_notV, r_tru, r_trB, r_trL, r_trI, r_sqL, r_sqT, tw_2, r_par, r_rev, rv_t, rv_l, r_mt, r_ext, r_app, r_len, r_lenT, ow_ex, size0, size1, size2, size3, size4, ↓reduceIte, Bool.false_eq_true, sSetN, nLst, eFz, eCB,  eTup, aCons, aNil, eIf, wOr, wAnd, wNot, r_andV, r_orV, bT_bl, r_ifAnd, r_ifOr, eCall, eMake, st0, List.map, List.replicate, List.append, List.length, List.set, List.getElem?_cons_zero, List.getElem?_cons_succ, List.cons_append, List.nil_append, Nat.reduceSub, Nat.reduceAdd, Nat.zero_add, List.append_nil, true_and, and_true, List.getElem?_nil, List.length_cons, List.length_nil, List.map_cons, List.map_nil, r_pt0, r_pt1, r_fr0, r_fr1, r_ed0, r_ed1, r_g2pt, r_g2fr, r_g2ed, ed_mk, r_ltP, r_eqP, r_neP, r_eqE, r_inE, r_notInE, r_inEE, c_in_order, c_turning, c_product, c_cross, c_are_apart, c_overlap_well, c_meet_well, c_offset_parts, c_offset_of, c_is_integer, c_common, c_Slack_init, c_L_lies, c_L_meet, c_L_offset, c_L_spot, eq_self, rv_ed, gP_10, r_rep4, r_addL, eCallK, List.reverse_cons, List.reverse_nil, gNm, List.set_cons_succ, List.set_cons_zero]
  refine ⟨ha, hb, hs, ?_⟩
  obtain ⟨_, _, _, _⟩ := hs
  obtain ⟨_, _, _, _⟩ := ha
  obtain ⟨_, _, _, _⟩ := hb
  unfold liesL at h
  split
  · rename_i g; rw [if_neg (by simpa using g)] at h; exact h
  · rename_i g; rw [if_pos (by simpa using g)] at h
    refine ⟨mulOk_of ?_ ?_ ?_ ?_, mulOk_of ?_ ?_ ?_ ?_, h⟩ <;> omega
theorem h_L_offset : ∀ x ds n R, ds.length = 3 → C_L_offset x ds n R → w_L_offset x {nx := fun _ n => R .non n, rt := R} (st0 ds N_L_offset) n := by
  intro x ds n R _ h
  obtain ⟨s, a, b, rfl, ⟨_, _, _, _⟩, ⟨_, _, _, _⟩, ⟨_, _, _, _⟩, h⟩ := h
  simp only [w_L_offset, N_L_offset, r_bin, r_ixT0, r_ixT1, r_ixT2, r_ixT3, r_ixL0, r_ixL1, r_ixL2, r_ixL3, r_sub, r_add, r_mul, r_div, r_mod, r_pow, r_le, r_gt, r_ge, r_lt, r_eqI, r_neI, r_sIf, r_asg, r_asg2, r_g2, sRet, sSeq, sNext, sRetN, eVar, eVarB, eC, r_dt, r_rd, r_rdo, r_owS, tB_bl, r_test, r_notV, r_tru, r_trB, r_trL, r_trI, r_sqL, r_sqT, tw_2, r_par, r_rev, rv_t, rv_l, r_mt, r_ext, r_app, r_len, r_lenT, ow_ex, size0, size1, size2, size3, size4, ↓reduceIte, Bool.false_eq_true, sSetN, nLst, eFz, eCB,  eTup, aCons, aNil, eIf, wOr, wAnd, wNot, r_andV, r_orV, bT_bl, r_ifAnd, r_ifOr, eCall, eMake, st0, List.map, List.replicate, List.append, List.length, List.set, List.getElem?_cons_zero, List.getElem?_cons_succ, List.cons_append, List.nil_append, Nat.reduceSub, Nat.reduceAdd, Nat.zero_add, List.append_nil, true_and, and_true, List.getElem?_nil, List.length_cons, List.length_nil, List.map_cons, List.map_nil, r_pt0, r_pt1, r_fr0, r_fr1, r_ed0, r_ed1, r_g2pt, r_g2fr, r_g2ed, ed_mk, r_ltP, r_eqP, r_neP, r_eqE, r_inE, r_notInE, r_inEE, c_in_order, c_turning, c_product, c_cross, c_are_apart, c_overlap_well, c_meet_well, c_offset_parts, c_offset_of, c_is_integer, c_common, c_Slack_init, c_L_lies, c_L_meet, c_L_offset, c_L_spot, eq_self, rv_ed, gP_10, r_rep4, r_addL, eCallK, List.reverse_cons, List.reverse_nil, gNm, List.set_cons_succ, List.set_cons_zero, decide_eq_true_eq]
  simp only [offL] at h
  refine ⟨mulOk_of (by omega) (by omega) (by omega) (by omega), mulOk_of (by omega) (by omega) (by omega) (by omega), mulOk_of (by omega) (by omega) (by omega) (by omega), mulOk_of (by omega) (by omega) (by omega) (by omega), ?_⟩
  split
  · rename_i g; rw [if_pos (Or.inl g)] at h
    exact ⟨mulOk_of (by omega) (by omega) (by omega) (by omega), mulOk_of (by omega) (by omega) (by omega) (by omega), h⟩
  · rename_i g1
    split
    · rename_i g; rw [if_pos (Or.inr g)] at h
      exact ⟨mulOk_of (by omega) (by omega) (by omega) (by omega), mulOk_of (by omega) (by omega) (by omega) (by omega), h⟩
    · rename_i g2
      rw [if_neg (by rintro (g | g); exact g1 g; exact g2 g)] at h
      split
      · rename_i g; rw [if_pos g] at h
        exact ⟨mulOk_of (by omega) (by omega) (by omega) (by omega), mulOk_of (by omega) (by omega) (by omega) (by omega), h⟩
      · rename_i g; rw [if_neg g] at h
        have m1 := mulB (i := s.1 - a.1) (j := s.1 - a.1) (A := 20000000) (B := 20000000) (by omega) (by omega) (by omega) (by omega)
        have m2 := mulB (i := s.2 - a.2) (j := s.2 - a.2) (A := 20000000) (B := 20000000) (by omega) (by omega) (by omega) (by omega)
        have m3 := mulB (i := b.1 - a.1) (j := b.1 - a.1) (A := 20000000) (B := 20000000) (by omega) (by omega) (by omega) (by omega)
        have m4 := mulB (i := b.2 - a.2) (j := b.2 - a.2) (A := 20000000) (B := 20000000) (by omega) (by omega) (by omega) (by omega)
        have m5 := mulB (i := s.1 - a.1) (j := b.1 - a.1) (A := 20000000) (B := 20000000) (by omega) (by omega) (by omega) (by omega)
        have m6 := mulB (i := s.2 - a.2) (j := b.2 - a.2) (A := 20000000) (B := 20000000) (by omega) (by omega) (by omega) (by omega)
        exact ⟨mulOk_of (by omega) (by omega) (by omega) (by omega), mulOk_of (by omega) (by omega) (by omega) (by omega), mulOk_of (by omega) (by omega) (by omega) (by omega), ⟨by decide, by decide, by omega, by omega⟩, h⟩
theorem h_L_spot : ∀ x ds n R, ds.length = 2 → C_L_spot x ds n R → w_L_spot x {nx := fun _ n => R .non n, rt := R} (st0 ds N_L_spot) n := by
  intro x ds n R _ h
  obtain ⟨f, rfl, hf0, hf1, hn, h⟩ := h
  simp only [w_L_spot, N_L_spot, r_bin, r_ixT0, r_ixT1, r_ixT2, r_ixT3, r_ixL0, r_ixL1, r_ixL2, r_ixL3, r_sub, r_add, r_mul, r_div, r_mod, r_pow, r_le, r_gt, r_ge, r_lt, r_eqI, r_neI, r_sIf, r_asg, r_asg2, r_g2, sRet, sSeq, sNext, sRetN, eVar, eVarB, eC, r_dt, r_rd, r_rdo, r_owS, tB_bl, r_test, r_notV, r_tru, r_trB, r_trL, r_trI, r_sqL, r_sqT, tw_2, r_par, r_rev, rv_t, rv_l, r_mt, r_ext, r_app, r_len, r_lenT, ow_ex, size0, size1, size2, size3, size4, ↓reduceIte, Bool.false_eq_true, sSetN, nLst, eFz, eCB,  eTup, aCons, aNil, eIf, wOr, wAnd, wNot, r_andV, r_orV, bT_bl, r_ifAnd, r_ifOr, eCall, eMake, st0, List.map, List.replicate, List.append, List.length, List.set, List.getElem?_cons_zero, List.getElem?_cons_succ, List.cons_append, List.nil_append, Nat.reduceSub, Nat.reduceAdd, Nat.zero_add, List.append_nil, true_and, and_true, List.getElem?_nil, List.length_cons, List.length_nil, List.map_cons, List.map_nil, r_pt0, r_pt1, r_fr0, r_fr1, r_ed0, r_ed1, r_g2pt, r_g2fr, r_g2ed, ed_mk, r_ltP, r_eqP, r_neP, r_eqE, r_inE, r_notInE, r_inEE, c_in_order, c_turning, c_product, c_cross, c_are_apart, c_overlap_well, c_meet_well, c_offset_parts, c_offset_of, c_is_integer, c_common, c_Slack_init, c_L_lies, c_L_meet, c_L_offset, c_L_spot, eq_self, rv_ed, gP_10, r_rep4, r_addL, eCallK, List.reverse_cons, List.reverse_nil, gNm, List.set_cons_succ, List.set_cons_zero, C_L_next]
  refine ⟨by decide, by decide, by omega, fun r h0 h1 => ⟨mulOk_of (by omega) (by omega) (by omega) (by omega), by decide, by decide, by omega, fun s h2 h3 => ⟨mulOk_of (by omega) (by omega) (by omega) (by omega), ?_⟩⟩⟩
  rw [show n - 1 - 1 = n - 2 by omega]
  exact h r s h0 h1 h2 h3
theorem h_L_pick : ∀ x ds n R, ds.length = 2 → C_L_pick x ds n R → w_L_pick x {nx := fun _ n => R .non n, rt := R} (st0 ds N_L_pick) n := by
  intro x ds n R _ h
  obtain ⟨xs, rfl, hx, hl, hn, h⟩ := h
  simp only [w_L_pick, N_L_pick, r_bin, r_ixT0, r_ixT1, r_ixT2, r_ixT3, r_ixL0, r_ixL1, r_ixL2, r_ixL3, r_sub, r_add, r_mul, r_div, r_mod, r_pow, r_le, r_gt, r_ge, r_lt, r_eqI, r_neI, r_sIf, r_asg, r_asg2, r_g2, sRet, sSeq, sNext, sRetN, eVar, eVarB, eC, r_dt, r_rd, r_rdo, r_owS, tB_bl, r_test, r_notV, r_tru, r_trB, r_trL, r_trI, r_sqL, r_sqT, tw_2, r_par, r_rev, rv_t, rv_l, r_mt, r_ext, r_app, r_len, r_lenT, ow_ex, size0, size1, size2, size3, size4, ↓reduceIte, Bool.false_eq_true, sSetN, nLst, eFz, eCB,  eTup, aCons, aNil, eIf, wOr, wAnd, wNot, r_andV, r_orV, bT_bl, r_ifAnd, r_ifOr, eCall, eMake, st0, List.map, List.replicate, List.append, List.length, List.set, List.getElem?_cons_zero, List.getElem?_cons_succ, List.cons_append, List.nil_append, Nat.reduceSub, Nat.reduceAdd, Nat.zero_add, List.append_nil, true_and, and_true, List.getElem?_nil, List.length_cons, List.length_nil, List.map_cons, List.map_nil, r_pt0, r_pt1, r_fr0, r_fr1, r_ed0, r_ed1, r_g2pt, r_g2fr, r_g2ed, ed_mk, r_ltP, r_eqP, r_neP, r_eqE, r_inE, r_notInE, r_inEE, c_in_order, c_turning, c_product, c_cross, c_are_apart, c_overlap_well, c_meet_well, c_offset_parts, c_offset_of, c_is_integer, c_common, c_Slack_init, c_L_lies, c_L_meet, c_L_offset, c_L_spot, eq_self, rv_ed, gP_10, r_rep4, r_addL, eCallK, List.reverse_cons, List.reverse_nil, gNm, List.set_cons_succ, List.set_cons_zero, C_L_next]
  have := List.length_pos_iff.2 hx
  refine ⟨by omega, by omega, hn, fun r h0 h1 => ?_⟩
  have hr : r.toNat < xs.length := by omega
  exact ⟨xs[r.toNat], by rw [atI_nat h0]; exact List.getElem?_eq_getElem hr, h _ (List.getElem_mem hr)⟩
theorem ordE_bd {e : Pt × Pt} (h1 : Bd e.1) (h2 : Bd e.2) : Bd (ordE e).1 ∧ Bd (ordE e).2 := by
  unfold ordE
  split
  · exact ⟨h1, h2⟩
  · exact ⟨h2, h1⟩
theorem h_meet_well : ∀ x ds n R, ds.length = 2 → C_meet_well x ds n R → w_meet_well x {nx := fun _ n => R .non n, rt := R} (st0 ds N_meet_well) n := by
  intro x ds n R _ h
  obtain ⟨e, o, rfl, h1, h2, h3, h4, h⟩ := h
  simp only [w_meet_well, N_meet_well, r_bin, r_ixT0, r_ixT1, r_ixT2, r_ixT3, r_ixL0, r_ixL1, r_ixL2, r_ixL3, r_sub, r_add, r_mul, r_div, r_mod, r_pow, r_le, r_gt, r_ge, r_lt, r_eqI, r_neI, r_sIf, r_asg, r_asg2, r_g2, sRet, sSeq, sNext, sRetN, eVar, eVarB, eC, r_dt, r_rd, r_rdo, r_owS, tB_bl, r_test, r_notV, r_tru, r_trB, r_trL, r_trI, r_sqL, r_sqT, tw_2, r_par, r_rev, rv_t, rv_l, r_mt, r_ext, r_app, r_len, r_lenT, ow_ex, size0, size1, size2, size3, size4, ↓reduceIte, Bool.false_eq_true, sSetN, nLst, eFz, eCB,  eTup, aCons, aNil, eIf, wOr, wAnd, wNot, r_andV, r_orV, bT_bl, r_ifAnd, r_ifOr, eCall, eMake, st0, List.map, List.replicate, List.append, List.length, List.set, List.getElem?_cons_zero, List.getElem?_cons_succ, List.cons_append, List.nil_append, Nat.reduceSub, Nat.reduceAdd, Nat.zero_add, List.append_nil, true_and, and_true, List.getElem?_nil, List.length_cons, List.length_nil, List.map_cons, List.map_nil, r_pt0, r_pt1, r_fr0, r_fr1, r_ed0, r_ed1, r_g2pt, r_g2fr, r_g2ed, ed_mk, r_ltP, r_eqP, r_neP, r_eqE, r_inE, r_notInE, r_inEE, c_in_order, c_turning, c_product, c_cross, c_are_apart, c_overlap_well, c_meet_well, c_offset_parts, c_offset_of, c_is_integer, c_common, c_Slack_init, c_L_lies, c_L_meet, c_L_offset, c_L_spot, eq_self, rv_ed, gP_10, r_rep4, r_addL, eCallK, List.reverse_cons, List.reverse_nil, gNm, List.set_cons_succ, List.set_cons_zero, r_eqL4]
  obtain ⟨a1, a2⟩ := ordE_bd h1 h2
  obtain ⟨b1, b2⟩ := ordE_bd h3 h4
  simp only [meetW] at h
  simp only [decide_eq_true_eq] at h
  split
  · rename_i g
    rw [if_pos (by simp only [decide_eq_true_eq] at g; exact g)] at h; exact h
  · rename_i g
    rw [if_neg (by simp only [decide_eq_true_eq] at g; exact g)] at h
    refine ⟨a1, a2, b1, a1, a2, b2, b1, b2, a1, b1, b2, a2, ?_⟩
    split
    · rename_i g; rw [if_pos g] at h; exact h
    · rename_i g; rw [if_neg g] at h
      split at h
      · rename_i g
        rw [← Bool.or_assoc, g]
        exact h
      · rename_i g
        rw [← Bool.or_assoc, Bool.eq_false_iff.2 g, Bool.false_or]
        simp only [eq_comm (a := (ordE o).1), eq_comm (a := (ordE o).2)] at h
        exact h
/-- one of the two rounds of the law's meet -/
theorem meet_round {s0 s1 : Sl} {near rest : Pt × Pt} {x : Xn} {n : Nat} {s4 s5 s6 : Sl} {P : Nat → Prop} {Q : List D → Nat → Prop} (h1 : Bd near.1) (h2 : Bd near.2) (h3 : Bd rest.1) (h4 : Bd rest.2)
    (ht : touL near rest = true → P n) (hf : touL near rest = false → ∀ xs, Q xs n) :
    nLc [6] (iSq (eVar 2)) (gNm 6) (wTest (eBin oNotIn (eVarB 6) (eVarB 3))) (eVar 6) x [s0, s1, .dt (ed near), .dt (ed rest), s4, s5, s6] n fun xs n' =>
    nLc [6] (iSq (eVar 4)) (gNm 6) (wTru (eCall 2 C_L_lies [] (aCons (eVar 6) (aCons (eVar 3) aNil)))) (eVar 6) x [s0, s1, .dt (ed near), .dt (ed rest), .dt (.lst xs), s5, s6] n' fun xs1 n' =>
      oNe (.lst xs1) (.lst []) fun d => tB d fun b => if b = true then P n' else Q xs n' := by
  simp only [r_bin, r_ixT0, r_ixT1, r_ixT2, r_ixT3, r_ixL0, r_ixL1, r_ixL2, r_ixL3, r_sub, r_add, r_mul, r_div, r_mod, r_pow, r_le, r_gt, r_ge, r_lt, r_eqI, r_neI, r_sIf, r_asg, r_asg2, r_g2, sRet, sSeq, sNext, sRetN, eVar, eVarB, eC, r_dt, r_rd, r_rdo, r_owS, tB_bl, r_test, r_notV, r_tru, r_trB, r_trL, r_trI, r_sqL, r_sqT, tw_2, r_par, r_rev, rv_t, rv_l, r_mt, r_ext, r_app, r_len, r_lenT, ow_ex, size0, size1, size2, size3, size4, ↓reduceIte, Bool.false_eq_true, sSetN, nLst, eFz, eCB,  eTup, aCons, aNil, eIf, wOr, wAnd, wNot, r_andV, r_orV, bT_bl, r_ifAnd, r_ifOr, eCall, eMake, st0, List.map, List.replicate, List.append, List.length, List.set, List.getElem?_cons_zero, List.getElem?_cons_succ, List.cons_append, List.nil_append, Nat.reduceSub, Nat.reduceAdd, Nat.zero_add, List.append_nil, true_and, and_true, List.getElem?_nil, List.length_cons, List.length_nil, List.map_cons, List.map_nil, r_pt0, r_pt1, r_fr0, r_fr1, r_ed0, r_ed1, r_g2pt, r_g2fr, r_g2ed, ed_mk, r_ltP, r_eqP, r_neP, r_eqE, r_inE, r_notInE, r_inEE, c_in_order, c_turning, c_product, c_cross, c_are_apart, c_overlap_well, c_meet_well, c_offset_parts, c_offset_of, c_is_integer, c_common, c_Slack_init, c_L_lies, c_L_meet, c_L_offset, c_L_spot, eq_self, rv_ed, gP_10, r_rep4, r_addL, eCallK, List.reverse_cons, List.reverse_nil, gNm, List.set_cons_succ, List.set_cons_zero, nLc, iSq, wipeS, r_sqE]
  refine lc_map pt (fun p => !(decide (rest.1 = p) || decide (rest.2 = p))) pt [near.1, near.2] [] n (fun p hp Q hQ => ?_) (show 2 ≤ sizeLine by decide) ?_
  · simp only [r_bin, r_ixT0, r_ixT1, r_ixT2, r_ixT3, r_ixL0, r_ixL1, r_ixL2, r_ixL3, r_sub, r_add, r_mul, r_div, r_mod, r_pow, r_le, r_gt, r_ge, r_lt, r_eqI, r_neI, r_sIf, r_asg, r_asg2, r_g2, sRet, sSeq, sNext, sRetN, eVar, eVarB, eC, r_dt, r_rd, r_rdo, r_owS, tB_bl, r_test, r_notV, r_tru, r_trB, r_trL, r_trI, r_sqL, r_sqT, tw_2, r_par, r_rev, rv_t, rv_l, r_mt, r_ext, r_app, r_len, r_lenT, ow_ex, size0, size1, size2, size3, size4, ↓reduceIte, Bool.false_eq_true, sSetN, nLst, eFz, eCB,  eTup, aCons, aNil, eIf, wOr, wAnd, wNot, r_andV, r_orV, bT_bl, r_ifAnd, r_ifOr, eCall, eMake, st0, List.map, List.replicate, List.append, List.length, List.set, List.getElem?_cons_zero, List.getElem?_cons_succ, List.cons_append, List.nil_append, Nat.reduceSub, Nat.reduceAdd, Nat.zero_add, List.append_nil, true_and, and_true, List.getElem?_nil, List.length_cons, List.length_nil, List.map_cons, List.map_nil, r_pt0, r_pt1, r_fr0, r_fr1, r_ed0, r_ed1, r_g2pt, r_g2fr, r_g2ed, ed_mk, r_ltP, r_eqP, r_neP, r_eqE, r_inE, r_notInE, r_inEE, c_in_order, c_turning, c_product, c_cross, c_are_apart, c_overlap_well, c_meet_well, c_offset_parts, c_offset_of, c_is_integer, c_common, c_Slack_init, c_L_lies, c_L_meet, c_L_offset, c_L_spot, eq_self, rv_ed, gP_10, r_rep4, r_addL, eCallK, List.reverse_cons, List.reverse_nil, gNm, List.set_cons_succ, List.set_cons_zero]
    cases e : (decide (rest.1 = p) || decide (rest.2 = p)) <;> simpa [e] using hQ
  have hfm : ∀ p, p ∈ List.filter (fun p => !(decide (rest.1 = p) || decide (rest.2 = p))) [near.1, near.2] → Bd p := fun p hp => by
    have := (List.mem_filter.1 hp).1
    simp only [List.mem_cons, List.not_mem_nil, or_false] at this
    rcases this with rfl | rfl
    · exact h1
    · exact h2
  have hlen : (List.filter (fun p => !(decide (rest.1 = p) || decide (rest.2 = p))) [near.1, near.2]).length ≤ 2 := List.length_filter_le _ [near.1, near.2]
  unfold touL at ht hf
  generalize List.filter (fun p => !(decide (rest.1 = p) || decide (rest.2 = p))) [near.1, near.2] = ps at *
  simp only [r_bin, r_ixT0, r_ixT1, r_ixT2, r_ixT3, r_ixL0, r_ixL1, r_ixL2, r_ixL3, r_sub, r_add, r_mul, r_div, r_mod, r_pow, r_le, r_gt, r_ge, r_lt, r_eqI, r_neI, r_sIf, r_asg, r_asg2, r_g2, sRet, sSeq, sNext, sRetN, eVar, eVarB, eC, r_dt, r_rd, r_rdo, r_owS, tB_bl, r_test, r_notV, r_tru, r_trB, r_trL, r_trI, r_sqL, r_sqT, tw_2, r_par, r_rev, rv_t, rv_l, r_mt, r_ext, r_app, r_len, r_lenT, ow_ex, size0, size1, size2, size3, size4, ↓reduceIte, Bool.false_eq_true, sSetN, nLst, eFz, eCB,  eTup, aCons, aNil, eIf, wOr, wAnd, wNot, r_andV, r_orV, bT_bl, r_ifAnd, r_ifOr, eCall, eMake, st0, List.map, List.replicate, List.append, List.length, List.set, List.getElem?_cons_zero, List.getElem?_cons_succ, List.cons_append, List.nil_append, Nat.reduceSub, Nat.reduceAdd, Nat.zero_add, List.append_nil, true_and, and_true, List.getElem?_nil, List.length_cons, List.length_nil, List.map_cons, List.map_nil, r_pt0, r_pt1, r_fr0, r_fr1, r_ed0, r_ed1, r_g2pt, r_g2fr, r_g2ed, ed_mk, r_ltP, r_eqP, r_neP, r_eqE, r_inE, r_notInE, r_inEE, c_in_order, c_turning, c_product, c_cross, c_are_apart, c_overlap_well, c_meet_well, c_offset_parts, c_offset_of, c_is_integer, c_common, c_Slack_init, c_L_lies, c_L_meet, c_L_offset, c_L_spot, eq_self, rv_ed, gP_10, r_rep4, r_addL, eCallK, List.reverse_cons, List.reverse_nil, gNm, List.set_cons_succ, List.set_cons_zero]
  refine lc_map pt (fun p => liesL p rest) pt ps [] n (fun p hp Q hQ => ?_) (Nat.le_trans (Nat.le_of_eq (Nat.zero_add _)) (Nat.le_trans hlen (by decide))) ?_
  · simp only [r_bin, r_ixT0, r_ixT1, r_ixT2, r_ixT3, r_ixL0, r_ixL1, r_ixL2, r_ixL3, r_sub, r_add, r_mul, r_div, r_mod, r_pow, r_le, r_gt, r_ge, r_lt, r_eqI, r_neI, r_sIf, r_asg, r_asg2, r_g2, sRet, sSeq, sNext, sRetN, eVar, eVarB, eC, r_dt, r_rd, r_rdo, r_owS, tB_bl, r_test, r_notV, r_tru, r_trB, r_trL, r_trI, r_sqL, r_sqT, tw_2, r_par, r_rev, rv_t, rv_l, r_mt, r_ext, r_app, r_len, r_lenT, ow_ex, size0, size1, size2, size3, size4, ↓reduceIte, Bool.false_eq_true, sSetN, nLst, eFz, eCB,  eTup, aCons, aNil, eIf, wOr, wAnd, wNot, r_andV, r_orV, bT_bl, r_ifAnd, r_ifOr, eCall, eMake, st0, List.map, List.replicate, List.append, List.length, List.set, List.getElem?_cons_zero, List.getElem?_cons_succ, List.cons_append, List.nil_append, Nat.reduceSub, Nat.reduceAdd, Nat.zero_add, List.append_nil, true_and, and_true, List.getElem?_nil, List.length_cons, List.length_nil, List.map_cons, List.map_nil, r_pt0, r_pt1, r_fr0, r_fr1, r_ed0, r_ed1, r_g2pt, r_g2fr, r_g2ed, ed_mk, r_ltP, r_eqP, r_neP, r_eqE, r_inE, r_notInE, r_inEE, c_in_order, c_turning, c_product, c_cross, c_are_apart, c_overlap_well, c_meet_well, c_offset_parts, c_offset_of, c_is_integer, c_common, c_Slack_init, c_L_lies, c_L_meet, c_L_offset, c_L_spot, eq_self, rv_ed, gP_10, r_rep4, r_addL, eCallK, List.reverse_cons, List.reverse_nil, gNm, List.set_cons_succ, List.set_cons_zero]
    refine ⟨hfm p hp, h3, h4, ?_⟩
    cases e : liesL p rest <;> simpa [e] using hQ
  simp only [List.nil_append]
  rw [r_neNil _ _ ((layN_pts (k := 1) (by decide) _).mono (by decide))]
  simp only [r_bin, r_ixT0, r_ixT1, r_ixT2, r_ixT3, r_ixL0, r_ixL1, r_ixL2, r_ixL3, r_sub, r_add, r_mul, r_div, r_mod, r_pow, r_le, r_gt, r_ge, r_lt, r_eqI, r_neI, r_sIf, r_asg, r_asg2, r_g2, sRet, sSeq, sNext, sRetN, eVar, eVarB, eC, r_dt, r_rd, r_rdo, r_owS, tB_bl, r_test, r_notV, r_tru, r_trB, r_trL, r_trI, r_sqL, r_sqT, tw_2, r_par, r_rev, rv_t, rv_l, r_mt, r_ext, r_app, r_len, r_lenT, ow_ex, size0, size1, size2, size3, size4, ↓reduceIte, Bool.false_eq_true, sSetN, nLst, eFz, eCB,  eTup, aCons, aNil, eIf, wOr, wAnd, wNot, r_andV, r_orV, bT_bl, r_ifAnd, r_ifOr, eCall, eMake, st0, List.map, List.replicate, List.append, List.length, List.set, List.getElem?_cons_zero, List.getElem?_cons_succ, List.cons_append, List.nil_append, Nat.reduceSub, Nat.reduceAdd, Nat.zero_add, List.append_nil, true_and, and_true, List.getElem?_nil, List.length_cons, List.length_nil, List.map_cons, List.map_nil, r_pt0, r_pt1, r_fr0, r_fr1, r_ed0, r_ed1, r_g2pt, r_g2fr, r_g2ed, ed_mk, r_ltP, r_eqP, r_neP, r_eqE, r_inE, r_notInE, r_inEE, c_in_order, c_turning, c_product, c_cross, c_are_apart, c_overlap_well, c_meet_well, c_offset_parts, c_offset_of, c_is_integer, c_common, c_Slack_init, c_L_lies, c_L_meet, c_L_offset, c_L_spot, eq_self, rv_ed, gP_10, r_rep4, r_addL, eCallK, List.reverse_cons, List.reverse_nil, gNm, List.set_cons_succ, List.set_cons_zero]
  cases e : ps.any fun k => liesL k rest
  · have e2 : ps.filter (fun p => liesL p rest) = [] := by
      rw [List.filter_eq_nil_iff]
      intro a ha
      rw [List.any_eq_false] at e
      exact e a ha
    rw [e2]
    exact hf e _
  · have e2 : ps.filter (fun p => liesL p rest) ≠ [] := by
      intro e2
      rw [List.filter_eq_nil_iff] at e2
      rw [List.any_eq_true] at e
      obtain ⟨a, ha, hb⟩ := e
      exact e2 a ha hb
    have e3 : (List.map pt (ps.filter (fun p => liesL p rest))).isEmpty = false := by
      cases e4 : ps.filter (fun p => liesL p rest)
      · exact absurd e4 e2
      · rfl
    rw [e3]
    exact ht e
theorem h_L_meet : ∀ x ds n R, ds.length = 2 → C_L_meet x ds n R → w_L_meet x {nx := fun _ n => R .non n, rt := R} (st0 ds N_L_meet) n := by
  intro x ds n R _ h
  obtain ⟨e, o, rfl, h1, h2, h3, h4, h⟩ := h
  simp only [w_L_meet, N_L_meet, r_bin, r_ixT0, r_ixT1, r_ixT2, r_ixT3, r_ixL0, r_ixL1, r_ixL2, r_ixL3, r_sub, r_add, r_mul, r_div, r_mod, r_pow, r_le, r_gt, r_ge, r_lt, r_eqI, r_neI, r_sIf, r_asg, r_asg2, r_g2, sRet, sSeq, sNext, sRetN, eVar, eVarB, eC, r_dt, r_rd, r_rdo, r_owS, tB_bl, r_test, r_notV, r_tru, r_trB, r_trL, r_trI, r_sqL, r_sqT, tw_2, r_par, r_rev, rv_t, rv_l, r_mt, r_ext, r_app, r_len, r_lenT, ow_ex, size0, size1, size2, size3, size4, ↓reduceIte, Bool.false_eq_true, sSetN, nLst, eFz, eCB,  eTup, aCons, aNil, eIf, wOr, wAnd, wNot, r_andV, r_orV, bT_bl, r_ifAnd, r_ifOr, eCall, eMake, st0, List.map, List.replicate, List.append, List.length, List.set, List.getElem?_cons_zero, List.getElem?_cons_succ, List.cons_append, List.nil_append, Nat.reduceSub, Nat.reduceAdd, Nat.zero_add, List.append_nil, true_and, and_true, List.getElem?_nil, List.length_cons, List.length_nil, List.map_cons, List.map_nil, r_pt0, r_pt1, r_fr0, r_fr1, r_ed0, r_ed1, r_g2pt, r_g2fr, r_g2ed, ed_mk, r_ltP, r_eqP, r_neP, r_eqE, r_inE, r_notInE, r_inEE, c_in_order, c_turning, c_product, c_cross, c_are_apart, c_overlap_well, c_meet_well, c_offset_parts, c_offset_of, c_is_integer, c_common, c_Slack_init, c_L_lies, c_L_meet, c_L_offset, c_L_spot, eq_self, rv_ed, gP_10, r_rep4, r_addL, eCallK, List.reverse_cons, List.reverse_nil, gNm, List.set_cons_succ, List.set_cons_zero, sFor, iSq, runFor]
  simp only [meetL] at h
  split
  · rename_i g; rw [if_pos g] at h; exact h
  rename_i g
  rw [if_neg g] at h
  refine meet_round h1 h2 h3 h4 (fun t => ?_) (fun t xs => ?_)
  · rw [if_pos t] at h; exact h
  rw [if_neg (by simp [t])] at h
  refine meet_round h3 h4 h1 h2 (fun t => ?_) (fun t xs => ?_)
  · rw [if_pos t] at h; exact h
  rw [if_neg (by simp [t])] at h
  simp only [r_bin, r_ixT0, r_ixT1, r_ixT2, r_ixT3, r_ixL0, r_ixL1, r_ixL2, r_ixL3, r_sub, r_add, r_mul, r_div, r_mod, r_pow, r_le, r_gt, r_ge, r_lt, r_eqI, r_neI, r_sIf, r_asg, r_asg2, r_g2, sRet, sSeq, sNext, sRetN, eVar, eVarB, eC, r_dt, r_rd, r_rdo, r_owS, tB_bl, r_test, r_notV, r_tru, r_trB, r_trL, r_trI, r_sqL, r_sqT, tw_2, r_par, r_rev, rv_t, rv_l, r_mt, r_ext, r_app, r_len, r_lenT, ow_ex, size0, size1, size2, size3, size4, ↓reduceIte, Bool.false_eq_true, sSetN, nLst, eFz, eCB,  eTup, aCons, aNil, eIf, wOr, wAnd, wNot, r_andV, r_orV, bT_bl, r_ifAnd, r_ifOr, eCall, eMake, st0, List.map, List.replicate, List.append, List.length, List.set, List.getElem?_cons_zero, List.getElem?_cons_succ, List.cons_append, List.nil_append, Nat.reduceSub, Nat.reduceAdd, Nat.zero_add, List.append_nil, true_and, and_true, List.getElem?_nil, List.length_cons, List.length_nil, List.map_cons, List.map_nil, r_pt0, r_pt1, r_fr0, r_fr1, r_ed0, r_ed1, r_g2pt, r_g2fr, r_g2ed, ed_mk, r_ltP, r_eqP, r_neP, r_eqE, r_inE, r_notInE, r_inEE, c_in_order, c_turning, c_product, c_cross, c_are_apart, c_overlap_well, c_meet_well, c_offset_parts, c_offset_of, c_is_integer, c_common, c_Slack_init, c_L_lies, c_L_meet, c_L_offset, c_L_spot, eq_self, rv_ed, gP_10, r_rep4, r_addL, eCallK, List.reverse_cons, List.reverse_nil, gNm, List.set_cons_succ, List.set_cons_zero, nLc, iSq, wipeS, r_sqE, runLc, wYes]
  have t1 := turn_lt h1 h2 h3
  have t2 := turn_lt h1 h2 h4
  have t3 := turn_lt h3 h4 h1
  have t4 := turn_lt h3 h4 h2
  refine ⟨h1, h2, h3, by decide, h1, h2, h4, by decide, mulOk_of (by omega) (by omega) (by omega) (by omega), ?_⟩
  split
  · rename_i g; rw [if_pos g] at h; exact h
  · rename_i g; rw [if_neg g] at h
    exact ⟨h3, h4, h1, by decide, h3, h4, h2, by decide, mulOk_of (by omega) (by omega) (by omega) (by omega), h⟩
end DL
set_option maxHeartbeats 4000000
namespace DL
open PySem PySem.Spec PyProof.Rows L2
/-! ### edges in the plane: plain arithmetic -/
def LL (p q : Pt) : Prop := p.1 < q.1 ∨ (p.1 = q.1 ∧ p.2 < q.2)
theorem ltP_iff (p q : Pt) : ltP p q = true ↔ LL p q := by
  obtain ⟨a, b⟩ := p; obtain ⟨c, d⟩ := q
  unfold ltP LL
  simp only [HT.lexLt]
  by_cases h1 : a < c
  · simp [h1]; omega
  · by_cases h2 : a = c
    · subst h2; simp; omega
    · simp [h1, h2]
theorem sq_nn' (i : Int) : 0 ≤ i * i := by
  rcases Int.le_total 0 i with h | h
  · exact Int.mul_nonneg h h
  · exact Int.mul_nonneg_of_nonpos_of_nonpos h h
theorem mul_pos' {a b : Int} (ha : 0 < a) (hb : 0 < b) : 0 < a * b := Int.mul_pos ha hb
theorem mul_le0 {a b : Int} (ha : 0 ≤ a) (hb : b ≤ 0) : a * b ≤ 0 := Int.mul_nonpos_of_nonneg_of_nonpos ha hb
/-- p between a and b on their line -/
theorem lies_iff {a b p : Pt} (h : LL a b) (t : turn a b p = 0) : ((a.1 - p.1) * (b.1 - p.1) ≤ 0 ∧ (a.2 - p.2) * (b.2 - p.2) ≤ 0) ↔ (¬ LL p a ∧ ¬ LL b p) := by
  obtain ⟨ax, ay⟩ := a; obtain ⟨bx, by_⟩ := b; obtain ⟨px, py⟩ := p
  simp only [LL, turn] at *
  have sgn : ∀ {u v w : Int}, u < v → ((u - w) * (v - w) ≤ 0 ↔ u ≤ w ∧ w ≤ v) := by
    intro u v w huv
    constructor
    · intro hp
      constructor
      · apply Classical.byContradiction; intro hc
        have := Int.mul_pos (show 0 < u - w by omega) (show 0 < v - w by omega)
        omega
      · apply Classical.byContradiction; intro hc
        have := Int.mul_pos (show 0 < w - u by omega) (show 0 < w - v by omega)
        have e : (w - u) * (w - v) = (u - w) * (v - w) := by grind
        omega
    · rintro ⟨h1, h2⟩
      have := Int.mul_nonneg (show 0 ≤ w - u by omega) (show 0 ≤ v - w by omega)
      have e : (w - u) * (v - w) = -((u - w) * (v - w)) := by grind
      omega
  rcases h with h | ⟨h, h'⟩
  · have dx : 0 < bx - ax := by omega
    rw [sgn h]
    have key : (bx - ax) * (py - ay) = (by_ - ay) * (px - ax) := by omega
    have atA : px = ax → py = ay := fun e => by
      have z : (bx - ax) * (py - ay) = 0 := by rw [key, e]; simp
      rcases Int.mul_eq_zero.1 z with q | q <;> omega
    have atB : px = bx → py = by_ := fun e => by
      have z : (bx - ax) * (py - by_) = 0 := by
        have : (bx - ax) * (py - by_) = (bx - ax) * (py - ay) - (bx - ax) * (by_ - ay) := by grind
        rw [this, key, e]; grind
      rcases Int.mul_eq_zero.1 z with q | q <;> omega
    constructor
    · rintro ⟨⟨h1, h2⟩, _⟩
      constructor
      · rintro (q | ⟨q, q'⟩)
        · omega
        · have := atA q; omega
      · rintro (q | ⟨q, q'⟩)
        · omega
        · have := atB q.symm; omega
    · rintro ⟨q1, q2⟩
      have h1 : ax ≤ px := by omega
      have h2 : px ≤ bx := by omega
      refine ⟨⟨h1, h2⟩, ?_⟩
      have hp : 0 ≤ (px - ax) * (bx - px) := Int.mul_nonneg (by omega) (by omega)
      have hsq : 0 ≤ (by_ - ay) * (by_ - ay) := by
        rcases Int.le_total 0 (by_ - ay) with h | h
        · exact Int.mul_nonneg h h
        · exact Int.mul_nonneg_of_nonpos_of_nonpos h h
      have hd : 0 < (bx - ax) * (bx - ax) := Int.mul_pos dx dx
      have e : ((bx - ax) * (bx - ax)) * ((ay - py) * (by_ - py)) = -(((by_ - ay) * (by_ - ay)) * ((px - ax) * (bx - px))) := by
        have e1 : (bx - ax) * (ay - py) = -((by_ - ay) * (px - ax)) := by grind
        have e2 : (bx - ax) * (by_ - py) = (by_ - ay) * (bx - px) := by grind
        calc ((bx - ax) * (bx - ax)) * ((ay - py) * (by_ - py)) = ((bx - ax) * (ay - py)) * ((bx - ax) * (by_ - py)) := by grind
          _ = _ := by rw [e1, e2]; grind
      have h3 := Int.mul_nonneg hsq hp
      apply Classical.byContradiction; intro hc
      have := Int.mul_pos hd (show 0 < (ay - py) * (by_ - py) by omega)
      omega
  · subst h
    have z : (by_ - ay) * (px - ax) = 0 := by
      have : (ax - ax) * (py - ay) = 0 := by simp
      omega
    have e : px = ax := by
      rcases Int.mul_eq_zero.1 z with q | q <;> omega
    subst e
    rw [sgn h']
    simp
/-- on one line the points stand in a row: a number for each -/
theorem row_of {a b : Pt} (h : LL a b) : ∃ k : Pt → Int, (∀ p q, turn a b p = 0 → turn a b q = 0 → ((LL p q ↔ k p < k q) ∧ (p = q ↔ k p = k q))) := by
  obtain ⟨ax, ay⟩ := a; obtain ⟨bx, by_⟩ := b
  rcases h with h | ⟨h, h'⟩
  · refine ⟨fun p => p.1, ?_⟩
    rintro ⟨px, py⟩ ⟨qx, qy⟩ tp tq
    simp only [turn, LL] at *
    have e : px = qx → py = qy := fun e => by
      have z : (bx - ax) * (py - qy) = 0 := by
        subst e
        grind
      rcases Int.mul_eq_zero.1 z with q | q <;> omega
    refine ⟨⟨fun z => ?_, fun z => Or.inl z⟩, ⟨fun z => ?_, fun z => ?_⟩⟩
    · rcases z with z | ⟨z, z'⟩
      · exact z
      · have := e z; omega
    · exact congrArg Prod.fst z
    · rw [z, e z]
  · refine ⟨fun p => p.2, ?_⟩
    rintro ⟨px, py⟩ ⟨qx, qy⟩ tp tq
    simp only [turn, LL] at *
    subst h
    have e1 : px = ax := by
      have z : (by_ - ay) * (px - ax) = 0 := by
        have : (ax - ax) * (py - ay) = 0 := by simp
        omega
      rcases Int.mul_eq_zero.1 z with q | q <;> omega
    have e2 : qx = ax := by
      have z : (by_ - ay) * (qx - ax) = 0 := by
        have : (ax - ax) * (qy - ay) = 0 := by simp
        omega
      rcases Int.mul_eq_zero.1 z with q | q <;> omega
    subst e1 e2
    refine ⟨⟨fun z => ?_, fun z => Or.inr ⟨rfl, z⟩⟩, ⟨fun z => ?_, fun z => ?_⟩⟩
    · omega
    · exact congrArg Prod.snd z
    · exact Prod.ext rfl z
/-- a point of near that is no end of rest lies on rest -/
def Tou (near rest : Pt × Pt) : Prop := ∃ p, (p = near.1 ∨ p = near.2) ∧ rest.1 ≠ p ∧ rest.2 ≠ p ∧ turn rest.1 rest.2 p = 0 ∧ (rest.1.1 - p.1) * (rest.2.1 - p.1) ≤ 0 ∧ (rest.1.2 - p.2) * (rest.2.2 - p.2) ≤ 0
theorem liesL_iff (s : Pt) (e : Pt × Pt) : liesL s e = true ↔ (turn e.1 e.2 s = 0 ∧ (e.1.1 - s.1) * (e.2.1 - s.1) ≤ 0 ∧ (e.1.2 - s.2) * (e.2.2 - s.2) ≤ 0) := by
  unfold liesL
  by_cases h : turn e.1 e.2 s = 0 <;> simp [h]
theorem touL_iff (n r : Pt × Pt) : touL n r = true ↔ Tou n r := by
  unfold touL Tou
  rw [List.any_eq_true]
  constructor
  · rintro ⟨p, hp, hl⟩
    rw [List.mem_filter] at hp
    simp at hp
    rw [liesL_iff] at hl
    exact ⟨p, hp.1, hp.2.1, hp.2.2, hl⟩
  · rintro ⟨p, h1, h2, h3, h4⟩
    refine ⟨p, ?_, (liesL_iff p r).2 h4⟩
    rw [List.mem_filter]
    simp
    exact ⟨h1, h2, h3⟩
/-- all on one line -/
theorem line_case {a b : Pt × Pt} (ha : LL a.1 a.2) (hb : LL b.1 b.2) (hne : a ≠ b) (t1 : turn a.1 a.2 b.1 = 0) (t2 : turn a.1 a.2 b.2 = 0) (t3 : turn b.1 b.2 a.1 = 0) (t4 : turn b.1 b.2 a.2 = 0) :
    (Tou a b ∨ Tou b a) ↔ LL (if ltP b.1 a.1 = true then a.1 else b.1) (if ltP b.2 a.2 = true then b.2 else a.2) := by
  obtain ⟨a1, a2⟩ := a; obtain ⟨b1, b2⟩ := b
  simp only at *
  obtain ⟨k, hk⟩ := row_of ha
  have z1 : turn a1 a2 a1 = 0 := by unfold turn; grind
  have z2 : turn a1 a2 a2 = 0 := by unfold turn; grind
  have A := (hk _ _ z1 z2).1.1 ha
  have B := (hk _ _ t1 t2).1.1 hb
  have N : ¬ (k a1 = k b1 ∧ k a2 = k b2) := fun ⟨q1, q2⟩ => hne (by rw [(hk _ _ z1 t1).2.2 q1, (hk _ _ z2 t2).2.2 q2])
  have la : ∀ p, turn a1 a2 p = 0 → (((a1.1 - p.1) * (a2.1 - p.1) ≤ 0 ∧ (a1.2 - p.2) * (a2.2 - p.2) ≤ 0) ↔ (k a1 ≤ k p ∧ k p ≤ k a2)) := fun p hp => by
    rw [lies_iff ha hp, (hk _ _ hp z1).1, (hk _ _ z2 hp).1]; omega
  have lb : ∀ p, turn b1 b2 p = 0 → turn a1 a2 p = 0 → (((b1.1 - p.1) * (b2.1 - p.1) ≤ 0 ∧ (b1.2 - p.2) * (b2.2 - p.2) ≤ 0) ↔ (k b1 ≤ k p ∧ k p ≤ k b2)) := fun p hp hq => by
    rw [lies_iff hb hp, (hk _ _ hq t1).1, (hk _ _ t2 hq).1]; omega
  have R : LL (if ltP b1 a1 = true then a1 else b1) (if ltP b2 a2 = true then b2 else a2) ↔ (k a1 < k a2 ∧ k a1 < k b2 ∧ k b1 < k a2 ∧ k b1 < k b2) := by
    have g1 : (ltP b1 a1 = true) ↔ (k b1 < k a1) := (ltP_iff _ _).trans (hk _ _ t1 z1).1
    have g2 : (ltP b2 a2 = true) ↔ (k b2 < k a2) := (ltP_iff _ _).trans (hk _ _ t2 z2).1
    split <;> rename_i e1 <;> rw [g1] at e1 <;> split <;> rename_i e2 <;> rw [g2] at e2
    · rw [(hk _ _ z1 t2).1]; omega
    · rw [(hk _ _ z1 z2).1]; omega
    · rw [(hk _ _ t1 t2).1]; omega
    · rw [(hk _ _ t1 z2).1]; omega
  rw [R]
  constructor
  · rintro (⟨p, hp, n1, n2, t, l⟩ | ⟨p, hp, n1, n2, t, l⟩)
    · simp only at *
      rcases hp with rfl | rfl
      · have := (lb _ t z1).1 l
        rw [ne_eq, (hk _ _ t1 z1).2] at n1
        rw [ne_eq, (hk _ _ t2 z1).2] at n2
        omega
      · have := (lb _ t z2).1 l
        rw [ne_eq, (hk _ _ t1 z2).2] at n1
        rw [ne_eq, (hk _ _ t2 z2).2] at n2
        omega
    · simp only at *
      rcases hp with rfl | rfl
      · have := (la _ t).1 l
        rw [ne_eq, (hk _ _ z1 t1).2] at n1
        rw [ne_eq, (hk _ _ z2 t1).2] at n2
        omega
      · have := (la _ t).1 l
        rw [ne_eq, (hk _ _ z1 t2).2] at n1
        rw [ne_eq, (hk _ _ z2 t2).2] at n2
        omega
  · intro h
    by_cases c1 : k b1 < k a1 ∧ k a1 < k b2
    · refine Or.inl ⟨a1, Or.inl rfl, ?_, ?_, t3, (lb _ t3 z1).2 (by omega)⟩
      · rw [ne_eq, (hk _ _ t1 z1).2]; omega
      · rw [ne_eq, (hk _ _ t2 z1).2]; omega
    by_cases c2 : k b1 < k a2 ∧ k a2 < k b2
    · refine Or.inl ⟨a2, Or.inr rfl, ?_, ?_, t4, (lb _ t4 z2).2 (by omega)⟩
      · rw [ne_eq, (hk _ _ t1 z2).2]; omega
      · rw [ne_eq, (hk _ _ t2 z2).2]; omega
    by_cases c3 : k a1 < k b1 ∧ k b1 < k a2
    · refine Or.inr ⟨b1, Or.inl rfl, ?_, ?_, t1, (la _ t1).2 (by omega)⟩
      · rw [ne_eq, (hk _ _ z1 t1).2]; omega
      · rw [ne_eq, (hk _ _ z2 t1).2]; omega
    by_cases c4 : k a1 < k b2 ∧ k b2 < k a2
    · refine Or.inr ⟨b2, Or.inr rfl, ?_, ?_, t2, (la _ t2).2 (by omega)⟩
      · rw [ne_eq, (hk _ _ z1 t2).2]; omega
      · rw [ne_eq, (hk _ _ z2 t2).2]; omega
    exact absurd (show k a1 = k b1 ∧ k a2 = k b2 by omega) N
/-! sides of a line -/
theorem apart_iff (i j : Int) : apartI i j = true ↔ 0 < i * j := by
  unfold apartI
  simp
  constructor
  · rintro (⟨h1, h2⟩ | ⟨h1, h2⟩)
    · exact Int.mul_pos h1 h2
    · exact Int.mul_pos_of_neg_of_neg h1 h2
  · intro h
    rcases Int.lt_trichotomy i 0 with q | q | q <;> rcases Int.lt_trichotomy j 0 with r | r | r
    · exact Or.inr ⟨q, r⟩
    · subst r; simp at h
    · have := Int.mul_neg_of_neg_of_pos q r; omega
    · subst q; simp at h
    · subst q; simp at h
    · subst q; simp at h
    · have := Int.mul_neg_of_pos_of_neg q r; omega
    · subst r; simp at h
    · exact Or.inl ⟨q, r⟩
/-- where a point of the line stands -/
theorem on_line {a b p : Pt} (h : a ≠ b) (t : turn a b p = 0) : ∃ l m : Int, 0 < l ∧ l * (p.1 - a.1) = m * (b.1 - a.1) ∧ l * (p.2 - a.2) = m * (b.2 - a.2) := by
  obtain ⟨ax, ay⟩ := a; obtain ⟨bx, by_⟩ := b; obtain ⟨px, py⟩ := p
  simp only [turn] at *
  refine ⟨(bx - ax) * (bx - ax) + (by_ - ay) * (by_ - ay), (px - ax) * (bx - ax) + (py - ay) * (by_ - ay), ?_, by grind, by grind⟩
  have n : bx - ax ≠ 0 ∨ by_ - ay ≠ 0 := by
    apply Classical.byContradiction; intro hc
    apply h
    rw [Prod.mk.injEq]; omega
  have sq : ∀ i : Int, 0 ≤ i * i := fun i => by
    rcases Int.le_total 0 i with h | h
    · exact Int.mul_nonneg h h
    · exact Int.mul_nonneg_of_nonpos_of_nonpos h h
  have sp : ∀ i : Int, i ≠ 0 → 0 < i * i := fun i hi => by
    have := sq i
    have : i * i ≠ 0 := fun z => by rcases Int.mul_eq_zero.1 z with q | q <;> exact hi q
    omega
  rcases n with n | n
  · have := sp _ n; have := sq (by_ - ay); omega
  · have := sp _ n; have := sq (bx - ax); omega
/-- a point on the line of a, the line of b through it: between the ends iff the ends stand on two sides -/
theorem across {a1 a2 b1 b2 : Pt} (h : a1 ≠ a2) (t : turn a1 a2 b1 = 0) (c : turn a1 a2 b2 ≠ 0) (s : turn b1 b2 a1 * turn b1 b2 a2 ≤ 0) :
    (a1.1 - b1.1) * (a2.1 - b1.1) ≤ 0 ∧ (a1.2 - b1.2) * (a2.2 - b1.2) ≤ 0 := by
  obtain ⟨l, m, hl, e1, e2⟩ := on_line h t
  obtain ⟨ax, ay⟩ := a1; obtain ⟨bx, by_⟩ := a2; obtain ⟨px, py⟩ := b1; obtain ⟨qx, qy⟩ := b2
  simp only [turn] at *
  -- the numbers of the two ends, times l
  have f1 : l * ((qx - px) * (ay - py) - (qy - py) * (ax - px)) = m * ((bx - ax) * (qy - ay) - (by_ - ay) * (qx - ax)) := by grind
  have f2 : l * ((qx - px) * (by_ - py) - (qy - py) * (bx - px)) = (m - l) * ((bx - ax) * (qy - ay) - (by_ - ay) * (qx - ax)) := by grind
  generalize hT : (bx - ax) * (qy - ay) - (by_ - ay) * (qx - ax) = T at *
  generalize (qx - px) * (ay - py) - (qy - py) * (ax - px) = U at *
  generalize (qx - px) * (by_ - py) - (qy - py) * (bx - px) = W at *
  have sp : ∀ i : Int, i ≠ 0 → 0 < i * i := fun i hi => by
    rcases Int.lt_or_lt_of_ne hi with q | q
    · exact Int.mul_pos_of_neg_of_neg q q
    · exact Int.mul_pos q q
  have k1 : (l * l) * (U * W) = (m * (m - l)) * (T * T) := by
    calc (l * l) * (U * W) = (l * U) * (l * W) := by grind
      _ = _ := by rw [f1, f2]; grind
  have k2 : m * (m - l) ≤ 0 := by
    apply Classical.byContradiction; intro hc
    have p1 := Int.mul_pos (show 0 < m * (m - l) by omega) (sp T c)
    have p2 := Int.mul_nonneg (Int.le_of_lt (Int.mul_pos hl hl)) (show 0 ≤ -(U * W) by omega)
    have : (l * l) * -(U * W) = -((l * l) * (U * W)) := by grind
    omega
  have fin : ∀ u v w : Int, l * (w - u) = m * (v - u) → (u - w) * (v - w) ≤ 0 := fun u v w e => by
    have k3 : (l * l) * ((u - w) * (v - w)) = (m * (m - l)) * ((v - u) * (v - u)) := by
      have g1 : l * (u - w) = -(m * (v - u)) := by grind
      have g2 : l * (v - w) = -((m - l) * (v - u)) := by grind
      calc (l * l) * ((u - w) * (v - w)) = (l * (u - w)) * (l * (v - w)) := by grind
        _ = _ := by rw [g1, g2]; grind
    apply Classical.byContradiction; intro hc
    have p1 := Int.mul_pos (Int.mul_pos hl hl) (show 0 < (u - w) * (v - w) by omega)
    have p2 : 0 ≤ (v - u) * (v - u) := by
      rcases Int.le_total 0 (v - u) with h | h
      · exact Int.mul_nonneg h h
      · exact Int.mul_nonneg_of_nonpos_of_nonpos h h
    have p3 := Int.mul_nonneg (show 0 ≤ -(m * (m - l)) by omega) p2
    have : -(m * (m - l)) * ((v - u) * (v - u)) = -((m * (m - l)) * ((v - u) * (v - u))) := by grind
    omega
  exact ⟨fin _ _ _ e1, fin _ _ _ e2⟩
/-- a point between the ends has no two strict sides -/
theorem between_sides {a1 a2 b1 b2 : Pt} (t : turn b1 b2 a1 = 0) (hx : (b1.1 - a1.1) * (b2.1 - a1.1) ≤ 0) (hy : (b1.2 - a1.2) * (b2.2 - a1.2) ≤ 0) : turn a1 a2 b1 * turn a1 a2 b2 ≤ 0 := by
  by_cases hb : b1 = b2
  · subst hb
    have e1 : b1.1 = a1.1 := by
      have z : (b1.1 - a1.1) * (b1.1 - a1.1) = 0 := by have := sq_nn' (b1.1 - a1.1); omega
      rcases Int.mul_eq_zero.1 z with q | q <;> omega
    have e2 : b1.2 = a1.2 := by
      have z : (b1.2 - a1.2) * (b1.2 - a1.2) = 0 := by have := sq_nn' (b1.2 - a1.2); omega
      rcases Int.mul_eq_zero.1 z with q | q <;> omega
    have : turn a1 a2 b1 = 0 := by unfold turn; rw [e1, e2]; simp
    rw [this]; simp
  · obtain ⟨l, m, hl, e1, e2⟩ := on_line hb t
    obtain ⟨ax, ay⟩ := a1; obtain ⟨bx, by_⟩ := a2; obtain ⟨px, py⟩ := b1; obtain ⟨qx, qy⟩ := b2
    simp only [turn] at *
    -- b1 - a1 = -(m/l) d, b2 - a1 = ((l-m)/l) d
    have n : qx - px ≠ 0 ∨ qy - py ≠ 0 := by
      apply Classical.byContradiction; intro hc
      apply hb
      rw [Prod.mk.injEq]; omega
    have k2 : m * (m - l) ≤ 0 := by
      have one : ∀ u v w : Int, l * (w - u) = m * (v - u) → (u - w) * (v - w) ≤ 0 → v - u ≠ 0 → m * (m - l) ≤ 0 := fun u v w e hp hn => by
        have k3 : (l * l) * ((u - w) * (v - w)) = (m * (m - l)) * ((v - u) * (v - u)) := by
          have g1 : l * (u - w) = -(m * (v - u)) := by grind
          have g2 : l * (v - w) = -((m - l) * (v - u)) := by grind
          calc (l * l) * ((u - w) * (v - w)) = (l * (u - w)) * (l * (v - w)) := by grind
            _ = _ := by rw [g1, g2]; grind
        apply Classical.byContradiction; intro hc
        have sp : 0 < (v - u) * (v - u) := by
          rcases Int.lt_or_lt_of_ne hn with q | q
          · exact Int.mul_pos_of_neg_of_neg q q
          · exact Int.mul_pos q q
        have p1 := Int.mul_pos (show 0 < m * (m - l) by omega) sp
        have p2 := Int.mul_nonneg (Int.le_of_lt (Int.mul_pos hl hl)) (show 0 ≤ -((u - w) * (v - w)) by omega)
        have : (l * l) * -((u - w) * (v - w)) = -((l * l) * ((u - w) * (v - w))) := by grind
        omega
      rcases n with n | n
      · exact one _ _ _ e1 hx n
      · exact one _ _ _ e2 hy n
    have f1 : l * ((bx - ax) * (py - ay) - (by_ - ay) * (px - ax)) = -(m * ((bx - ax) * (qy - py) - (by_ - ay) * (qx - px))) := by grind
    have f2 : l * ((bx - ax) * (qy - ay) - (by_ - ay) * (qx - ax)) = -((m - l) * ((bx - ax) * (qy - py) - (by_ - ay) * (qx - px))) := by grind
    generalize (bx - ax) * (qy - py) - (by_ - ay) * (qx - px) = T at *
    generalize (bx - ax) * (py - ay) - (by_ - ay) * (px - ax) = U at *
    generalize (bx - ax) * (qy - ay) - (by_ - ay) * (qx - ax) = W at *
    have k1 : (l * l) * (U * W) = (m * (m - l)) * (T * T) := by
      calc (l * l) * (U * W) = (l * U) * (l * W) := by grind
        _ = _ := by rw [f1, f2]; grind
    apply Classical.byContradiction; intro hc
    have p1 := Int.mul_pos (Int.mul_pos hl hl) (show 0 < U * W by omega)
    have p3 := Int.mul_nonneg (show 0 ≤ -(m * (m - l)) by omega) (sq_nn' T)
    have : -(m * (m - l)) * (T * T) = -((m * (m - l)) * (T * T)) := by grind
    omega

theorem turn_sw (a b p : Pt) : turn b a p = -turn a b p := by unfold turn; grind
theorem turn_df (a1 a2 b1 b2 : Pt) : turn a1 a2 b1 - turn a1 a2 b2 = turn b1 b2 a2 - turn b1 b2 a1 := by unfold turn; grind
theorem turn_l (a b : Pt) : turn a b a = 0 := by unfold turn; grind
theorem turn_r (a b : Pt) : turn a b b = 0 := by unfold turn; grind
theorem LL_ne {p q : Pt} (h : LL p q) : p ≠ q := fun e => by subst e; unfold LL at h; omega
theorem LL_as {p q : Pt} (h : LL p q) : ¬ LL q p := by unfold LL at *; omega
theorem LL_tot {p q : Pt} (h : p ≠ q) : LL p q ∨ LL q p := by
  obtain ⟨a, b⟩ := p; obtain ⟨c, d⟩ := q
  unfold LL
  rw [ne_eq, Prod.mk.injEq] at h
  simp only
  omega
/-- no end of a lies on b where b's ends stand on one strict side of a -/
theorem no_tou {a b : Pt × Pt} (h : 0 < turn a.1 a.2 b.1 * turn a.1 a.2 b.2) : ¬ Tou a b ∧ ¬ Tou b a := by
  constructor
  · rintro ⟨p, hp, _, _, t, lx, ly⟩
    rcases hp with rfl | rfl
    · have := between_sides (a2 := a.2) t lx ly; omega
    · have := between_sides (a2 := a.1) t lx ly
      rw [turn_sw, turn_sw a.1 a.2 b.2, Int.neg_mul_neg] at this
      omega
  · rintro ⟨p, hp, _, _, t, lx, ly⟩
    rcases hp with rfl | rfl <;> rw [t] at h <;> simp at h
/-- no end of a lies on b where they share an end and are not on one line -/
theorem no_tou2 {a b : Pt × Pt} (hs : (b.1 = a.1 ∨ b.1 = a.2) ∨ (b.2 = a.1 ∨ b.2 = a.2)) (hz : ¬ (turn a.1 a.2 b.1 = 0 ∧ turn a.1 a.2 b.2 = 0 ∧ turn b.1 b.2 a.1 = 0 ∧ turn b.1 b.2 a.2 = 0)) : ¬ Tou a b := by
  rintro ⟨p, hp, n1, n2, t, _, _⟩
  have d := turn_df a.1 a.2 b.1 b.2
  have q : turn b.1 b.2 a.1 = 0 ∧ turn b.1 b.2 a.2 = 0 := by
    rcases hp with rfl | rfl
    · refine ⟨t, ?_⟩
      rcases hs with (e | e) | (e | e)
      · exact absurd e n1
      · rw [← e]; exact turn_l _ _
      · exact absurd e n2
      · rw [← e]; exact turn_r _ _
    · refine ⟨?_, t⟩
      rcases hs with (e | e) | (e | e)
      · rw [← e]; exact turn_l _ _
      · exact absurd e n1
      · rw [← e]; exact turn_r _ _
      · exact absurd e n2
  rcases hs with (e | e) | (e | e)
  · have : turn a.1 a.2 b.1 = 0 := by rw [e]; exact turn_l _ _
    exact hz ⟨this, by omega, q.1, q.2⟩
  · have : turn a.1 a.2 b.1 = 0 := by rw [e]; exact turn_r _ _
    exact hz ⟨this, by omega, q.1, q.2⟩
  · have : turn a.1 a.2 b.2 = 0 := by rw [e]; exact turn_l _ _
    exact hz ⟨by omega, this, q.1, q.2⟩
  · have : turn a.1 a.2 b.2 = 0 := by rw [e]; exact turn_r _ _
    exact hz ⟨by omega, this, q.1, q.2⟩
/-- an end of b on a's line: it lies on a -/
theorem tou_of {a b : Pt × Pt} (ha : a.1 ≠ a.2) (hs : ¬ ((b.1 = a.1 ∨ b.1 = a.2) ∨ (b.2 = a.1 ∨ b.2 = a.2))) (hz : ¬ (turn a.1 a.2 b.1 = 0 ∧ turn a.1 a.2 b.2 = 0 ∧ turn b.1 b.2 a.1 = 0 ∧ turn b.1 b.2 a.2 = 0))
    (h1 : turn a.1 a.2 b.1 * turn a.1 a.2 b.2 = 0) (h2 : turn b.1 b.2 a.1 * turn b.1 b.2 a.2 ≤ 0) : Tou b a := by
  have d := turn_df a.1 a.2 b.1 b.2
  have s1 : a.1 ≠ b.1 := fun e => hs (Or.inl (Or.inl e.symm))
  have s2 : a.2 ≠ b.1 := fun e => hs (Or.inl (Or.inr e.symm))
  have s3 : a.1 ≠ b.2 := fun e => hs (Or.inr (Or.inl e.symm))
  have s4 : a.2 ≠ b.2 := fun e => hs (Or.inr (Or.inr e.symm))
  by_cases z1 : turn a.1 a.2 b.1 = 0
  · by_cases z2 : turn a.1 a.2 b.2 = 0
    · have e : turn b.1 b.2 a.1 = turn b.1 b.2 a.2 := by omega
      rw [e] at h2
      have := sq_nn' (turn b.1 b.2 a.2)
      have z : turn b.1 b.2 a.2 = 0 := by
        have z : turn b.1 b.2 a.2 * turn b.1 b.2 a.2 = 0 := by omega
        rcases Int.mul_eq_zero.1 z with q | q <;> exact q
      exact absurd ⟨z1, z2, by omega, z⟩ hz
    · obtain ⟨k1, k2⟩ := across ha z1 z2 h2
      exact ⟨b.1, Or.inl rfl, s1, s2, z1, k1, k2⟩
  · have z2 : turn a.1 a.2 b.2 = 0 := by
      rcases Int.mul_eq_zero.1 h1 with q | q
      · exact absurd q z1
      · exact q
    have h2' : turn b.2 b.1 a.1 * turn b.2 b.1 a.2 ≤ 0 := by
      rw [turn_sw, turn_sw b.1 b.2 a.2, Int.neg_mul_neg]; exact h2
    obtain ⟨k1, k2⟩ := across ha z2 z1 h2'
    exact ⟨b.2, Or.inr rfl, s3, s4, z2, k1, k2⟩
/-- the program's answer, of two edges in order -/
def MW (a b : Pt × Pt) : Bool :=
  if decide (a = b) = true then true
  else if (decide (turn a.1 a.2 b.1 = 0) && decide (turn a.1 a.2 b.2 = 0) && decide (turn b.1 b.2 a.1 = 0) && decide (turn b.1 b.2 a.2 = 0)) = true then !ltP (if ltP b.1 a.1 = true then a.1 else b.1) (if ltP b.2 a.2 = true then b.2 else a.2)
  else if (apartI (turn a.1 a.2 b.1) (turn a.1 a.2 b.2) || apartI (turn b.1 b.2 a.1) (turn b.1 b.2 a.2)) = true then true
  else (decide (b.1 = a.1) || decide (b.1 = a.2)) || (decide (b.2 = a.1) || decide (b.2 = a.2))
theorem meetW_eq (e o : Pt × Pt) : meetW e o = MW (ordE e) (ordE o) := rfl
theorem meet_sorted {a b : Pt × Pt} (ha : LL a.1 a.2) (hb : LL b.1 b.2) : meetL a b = MW a b := by
  unfold meetL MW
  by_cases hab : a = b
  · subst hab; simp
  have n1 : ¬ (decide (b = a) || decide ((b.2, b.1) = a)) = true := by
    simp
    refine ⟨fun e => hab e.symm, fun e => ?_⟩
    rw [← e] at ha
    exact LL_as hb ha
  rw [if_neg n1, if_neg (show ¬ decide (a = b) = true by simpa using hab)]
  by_cases hz : turn a.1 a.2 b.1 = 0 ∧ turn a.1 a.2 b.2 = 0 ∧ turn b.1 b.2 a.1 = 0 ∧ turn b.1 b.2 a.2 = 0
  · obtain ⟨t1, t2, t3, t4⟩ := hz
    rw [if_pos (show (decide (turn a.1 a.2 b.1 = 0) && decide (turn a.1 a.2 b.2 = 0) && decide (turn b.1 b.2 a.1 = 0) && decide (turn b.1 b.2 a.2 = 0)) = true by simp [t1, t2, t3, t4])]
    have lc := line_case ha hb hab t1 t2 t3 t4
    rw [← ltP_iff, ← touL_iff, ← touL_iff] at lc
    by_cases h1 : touL a b = true
    · rw [if_pos h1, lc.1 (Or.inl h1)]; rfl
    · rw [if_neg h1]
      by_cases h2 : touL b a = true
      · rw [if_pos h2, lc.1 (Or.inr h2)]; rfl
      · rw [if_neg h2, if_pos (by simp [t1, t2])]
        cases e : ltP (if ltP b.1 a.1 = true then a.1 else b.1) (if ltP b.2 a.2 = true then b.2 else a.2)
        · rfl
        · rcases lc.2 e with q | q
          · exact absurd q h1
          · exact absurd q h2
  · rw [if_neg (show ¬ (decide (turn a.1 a.2 b.1 = 0) && decide (turn a.1 a.2 b.2 = 0) && decide (turn b.1 b.2 a.1 = 0) && decide (turn b.1 b.2 a.2 = 0)) = true by simp only [Bool.and_eq_true, decide_eq_true_eq]; exact fun q => hz ⟨q.1.1.1, q.1.1.2, q.1.2, q.2⟩)]
    have hz' : ¬ (turn b.1 b.2 a.1 = 0 ∧ turn b.1 b.2 a.2 = 0 ∧ turn a.1 a.2 b.1 = 0 ∧ turn a.1 a.2 b.2 = 0) := fun q => hz ⟨q.2.2.1, q.2.2.2, q.1, q.2.1⟩
    by_cases p1 : 0 < turn a.1 a.2 b.1 * turn a.1 a.2 b.2
    · obtain ⟨u1, u2⟩ := no_tou p1
      rw [if_neg (fun q => u1 ((touL_iff _ _).1 q)), if_neg (fun q => u2 ((touL_iff _ _).1 q)), if_pos (by simp; omega), if_pos (by rw [(apart_iff _ _).2 p1]; rfl)]
    by_cases p2 : 0 < turn b.1 b.2 a.1 * turn b.1 b.2 a.2
    · obtain ⟨u1, u2⟩ := no_tou p2
      rw [if_neg (fun q => u2 ((touL_iff _ _).1 q)), if_neg (fun q => u1 ((touL_iff _ _).1 q)), if_pos (show (apartI (turn a.1 a.2 b.1) (turn a.1 a.2 b.2) || apartI (turn b.1 b.2 a.1) (turn b.1 b.2 a.2)) = true by rw [(apart_iff _ _).2 p2]; simp)]
      split
      · rfl
      · simp; omega
    rw [if_neg (show ¬ (apartI (turn a.1 a.2 b.1) (turn a.1 a.2 b.2) || apartI (turn b.1 b.2 a.1) (turn b.1 b.2 a.2)) = true by
      rw [Bool.or_eq_true, apart_iff, apart_iff]
      rintro (q | q)
      · exact p1 q
      · exact p2 q)]
    by_cases hs : (b.1 = a.1 ∨ b.1 = a.2) ∨ (b.2 = a.1 ∨ b.2 = a.2)
    · have hs' : (a.1 = b.1 ∨ a.1 = b.2) ∨ (a.2 = b.1 ∨ a.2 = b.2) := by
        rcases hs with (e | e) | (e | e)
        · exact Or.inl (Or.inl e.symm)
        · exact Or.inr (Or.inl e.symm)
        · exact Or.inl (Or.inr e.symm)
        · exact Or.inr (Or.inr e.symm)
      have u1 := no_tou2 hs hz
      have u2 := no_tou2 hs' hz'
      have z : turn a.1 a.2 b.1 * turn a.1 a.2 b.2 = 0 := by
        rcases hs with (e | e) | (e | e) <;> rw [e]
        · rw [turn_l]; simp
        · rw [turn_r]; simp
        · rw [turn_l]; simp
        · rw [turn_r]; simp
      rw [if_neg (fun q => u1 ((touL_iff _ _).1 q)), if_neg (fun q => u2 ((touL_iff _ _).1 q)), if_pos (by rw [z]; simp)]
      rw [show ((decide (b.1 = a.1) || decide (b.1 = a.2)) || (decide (b.2 = a.1) || decide (b.2 = a.2))) = true by simpa using hs]
    · have hs' : ¬ ((a.1 = b.1 ∨ a.1 = b.2) ∨ (a.2 = b.1 ∨ a.2 = b.2)) := by
        intro q
        apply hs
        rcases q with (e | e) | (e | e)
        · exact Or.inl (Or.inl e.symm)
        · exact Or.inr (Or.inl e.symm)
        · exact Or.inl (Or.inr e.symm)
        · exact Or.inr (Or.inr e.symm)
      rw [show ((decide (b.1 = a.1) || decide (b.1 = a.2)) || (decide (b.2 = a.1) || decide (b.2 = a.2))) = false by
        rw [Bool.eq_false_iff]; intro q; apply hs; simpa using q]
      by_cases h1 : touL a b = true
      · rw [if_pos h1]
      by_cases h2 : touL b a = true
      · rw [if_neg h1, if_pos h2]
      rw [if_neg h1, if_neg h2]
      have c1 : turn a.1 a.2 b.1 * turn a.1 a.2 b.2 ≠ 0 := fun q => h2 ((touL_iff _ _).2 (tou_of (LL_ne ha) hs hz q (by omega)))
      have c2 : turn b.1 b.2 a.1 * turn b.1 b.2 a.2 ≠ 0 := fun q => h1 ((touL_iff _ _).2 (tou_of (LL_ne hb) hs' hz' q (by omega)))
      rw [if_neg (by simp; omega)]
      simp; omega

abbrev sw (e : Pt × Pt) : Pt × Pt := (e.2, e.1)
theorem tou_sw1 (n r : Pt × Pt) : touL (sw n) r = touL n r := by
  rw [Bool.eq_iff_iff, touL_iff, touL_iff]
  unfold Tou
  simp only [or_comm]
theorem tou_sw2 (n r : Pt × Pt) : touL n (sw r) = touL n r := by
  rw [Bool.eq_iff_iff, touL_iff, touL_iff]
  unfold Tou
  constructor
  · rintro ⟨p, h1, h2, h3, h4, h5, h6⟩
    simp only at *
    rw [turn_sw] at h4
    exact ⟨p, h1, h3, h2, by omega, by rw [Int.mul_comm]; exact h5, by rw [Int.mul_comm]; exact h6⟩
  · rintro ⟨p, h1, h2, h3, h4, h5, h6⟩
    exact ⟨p, h1, h3, h2, by rw [turn_sw, h4]; rfl, by rw [Int.mul_comm]; exact h5, by rw [Int.mul_comm]; exact h6⟩
theorem meetL_iff (e o : Pt × Pt) : meetL e o = true ↔ ((o = e ∨ sw o = e) ∨ (touL e o = false ∧ touL o e = false ∧ (0 ≤ turn e.1 e.2 o.1 * turn e.1 e.2 o.2 ∨ 0 ≤ turn o.1 o.2 e.1 * turn o.1 o.2 e.2))) := by
  unfold meetL
  by_cases h0 : o = e ∨ sw o = e
  · rw [if_pos (by simpa using h0)]; simp [h0]
  · rw [if_neg (by simpa using h0)]
    cases h1 : touL e o <;> cases h2 : touL o e <;> simp [h0]
theorem sw_iff (e o : Pt × Pt) : sw o = e ↔ o = sw e := by
  constructor
  · rintro rfl; rfl
  · rintro rfl; rfl
theorem meetL_comm (e o : Pt × Pt) : meetL e o = meetL o e := by
  rw [Bool.eq_iff_iff, meetL_iff, meetL_iff, sw_iff, or_comm (a := 0 ≤ turn e.1 e.2 o.1 * turn e.1 e.2 o.2), and_left_comm, eq_comm (a := o), eq_comm (a := o)]
theorem meetL_sw1 (e o : Pt × Pt) : meetL (sw e) o = meetL e o := by
  rw [Bool.eq_iff_iff, meetL_iff, meetL_iff, tou_sw1, tou_sw2]
  have e1 : turn (sw e).1 (sw e).2 o.1 * turn (sw e).1 (sw e).2 o.2 = turn e.1 e.2 o.1 * turn e.1 e.2 o.2 := by
    show turn e.2 e.1 o.1 * turn e.2 e.1 o.2 = _
    rw [turn_sw, turn_sw e.1 e.2 o.2, Int.neg_mul_neg]
  have e2 : turn o.1 o.2 (sw e).1 * turn o.1 o.2 (sw e).2 = turn o.1 o.2 e.1 * turn o.1 o.2 e.2 := by
    show turn o.1 o.2 e.2 * turn o.1 o.2 e.1 = _
    rw [Int.mul_comm]
  have e3 : (o = sw e ∨ sw o = sw e) ↔ (o = e ∨ sw o = e) := by
    rw [sw_iff, sw_iff]
    exact or_comm
  rw [e1, e2, e3]
theorem meetL_sw2 (e o : Pt × Pt) : meetL e (sw o) = meetL e o := by
  rw [meetL_comm, meetL_sw1, meetL_comm]
theorem ordE_or (e : Pt × Pt) : ordE e = e ∨ ordE e = sw e := by
  unfold ordE
  split
  · exact Or.inl rfl
  · exact Or.inr rfl
theorem ordE_LL {e : Pt × Pt} (h : e.1 ≠ e.2) : LL (ordE e).1 (ordE e).2 := by
  unfold ordE
  split
  · rename_i q; exact (ltP_iff _ _).1 q
  · rename_i q
    rw [ltP_iff] at q
    rcases LL_tot h with z | z
    · exact absurd z q
    · exact z
theorem ordE_sw {e : Pt × Pt} (h : e.1 ≠ e.2) : ordE (sw e) = ordE e := by
  unfold ordE
  rcases LL_tot h with z | z
  · rw [if_neg (fun q => LL_as z ((ltP_iff _ _).1 q)), if_pos ((ltP_iff _ _).2 z)]
  · rw [if_pos (show ltP (sw e).1 (sw e).2 = true from (ltP_iff _ _).2 z), if_neg (fun q => LL_as z ((ltP_iff _ _).1 q))]
theorem meet_same {e o : Pt × Pt} (he : e.1 ≠ e.2) (ho : o.1 ≠ o.2) : meetW e o = meetL e o := by
  rw [meetW_eq, ← meet_sorted (ordE_LL he) (ordE_LL ho)]
  rcases ordE_or e with h | h <;> rcases ordE_or o with h' | h' <;> rw [h, h']
  · rw [meetL_sw2]
  · rw [meetL_sw1]
  · rw [meetL_sw1, meetL_sw2]
theorem meet_same2 {e o : Pt × Pt} (he : e.1 ≠ e.2) (ho : o.1 ≠ o.2) : meetW o e = meetL e o := by
  rw [meet_same ho he, meetL_comm]
theorem meet_same3 {e o : Pt × Pt} (he : e.1 ≠ e.2) (ho : o.1 ≠ o.2) : meetW (sw e) o = meetL e o := by
  rw [meet_same (e := sw e) (fun q => he q.symm) ho, meetL_sw1]
theorem meet_same4 {e o : Pt × Pt} (he : e.1 ≠ e.2) (ho : o.1 ≠ o.2) : meetW o (sw e) = meetL e o := by
  rw [meet_same ho (o := sw e) (fun q => he q.symm), meetL_sw2, meetL_comm]
theorem meet_self (e : Pt × Pt) : meetW e e = true := by
  rw [meetW_eq]; unfold MW; simp
theorem meet_self2 {e : Pt × Pt} (h : e.1 ≠ e.2) : meetW e (sw e) = true := by
  rw [meetW_eq, ordE_sw h]; unfold MW; simp
/-! offsets -/
theorem off_same (p a b : Pt) : offP p a b = offL p a b := by
  unfold offP offL prod turn
  simp only
  have e1 : (b.1 - a.1) * (p.1 - a.1) + (b.2 - a.2) * (p.2 - a.2) = (p.1 - a.1) * (b.1 - a.1) + (p.2 - a.2) * (b.2 - a.2) := by grind
  rw [e1]
  by_cases h1 : (p.1 - a.1) * (b.1 - a.1) + (p.2 - a.2) * (b.2 - a.2) ≤ 0
  · rw [if_pos h1, if_pos (Or.inl h1)]
  · rw [if_neg h1]
    have h2 : ¬ (b.1 - a.1) * (b.1 - a.1) + (b.2 - a.2) * (b.2 - a.2) = 0 := by
      intro z
      have q1 := sq_nn' (b.1 - a.1)
      have q2 := sq_nn' (b.2 - a.2)
      have z1 : (b.1 - a.1) * (b.1 - a.1) = 0 := by omega
      have z2 : (b.2 - a.2) * (b.2 - a.2) = 0 := by omega
      have w1 : b.1 - a.1 = 0 := by rcases Int.mul_eq_zero.1 z1 with q | q <;> exact q
      have w2 : b.2 - a.2 = 0 := by rcases Int.mul_eq_zero.1 z2 with q | q <;> exact q
      rw [w1, w2] at h1
      simp at h1
    have h3 : ¬ ((p.1 - a.1) * (b.1 - a.1) + (p.2 - a.2) * (b.2 - a.2) ≤ 0 ∨ (b.1 - a.1) * (b.1 - a.1) + (b.2 - a.2) * (b.2 - a.2) = 0) := fun q => q.elim h1 h2
    rw [if_neg h3]
    split
    · rfl
    · rw [Prod.mk.injEq]
      refine ⟨?_, rfl⟩
      grind
theorem prod_sw (p a b : Pt) : prod b a p = prod a b b - prod a b p := by unfold prod; grind
theorem off_sw (p a b : Pt) : offP p b a = offP p a b := by
  unfold offP
  simp only
  have e1 : prod b a p = prod a b b - prod a b p := prod_sw p a b
  have e2 : prod b a a = prod a b b := by unfold prod; grind
  rw [e1, e2, turn_sw]
  have nn : 0 ≤ prod a b b := by
    unfold prod
    have := sq_nn' (b.1 - a.1); have := sq_nn' (b.2 - a.2); omega
  by_cases h1 : prod a b p ≤ 0
  · rw [if_pos h1]
    by_cases h2 : prod a b b - prod a b p ≤ 0
    · rw [if_pos h2]
      have z : prod a b b = 0 := by omega
      have q1 := sq_nn' (b.1 - a.1)
      have q2 := sq_nn' (b.2 - a.2)
      have z0 : (b.1 - a.1) * (b.1 - a.1) + (b.2 - a.2) * (b.2 - a.2) = 0 := z
      have z1 : (b.1 - a.1) * (b.1 - a.1) = 0 := by omega
      have z2 : (b.2 - a.2) * (b.2 - a.2) = 0 := by omega
      have w1 : b.1 - a.1 = 0 := by rcases Int.mul_eq_zero.1 z1 with q | q <;> exact q
      have w2 : b.2 - a.2 = 0 := by rcases Int.mul_eq_zero.1 z2 with q | q <;> exact q
      have w : b = a := Prod.ext (by omega) (by omega)
      rw [w]
    · rw [if_neg h2, if_pos (by omega)]
  · rw [if_neg h1]
    by_cases h2 : prod a b b ≤ prod a b p
    · rw [if_pos h2, if_pos (by omega)]
    · rw [if_neg h2, if_neg (by omega), if_neg (by omega)]
      rw [Prod.mk.injEq]
      refine ⟨by grind, rfl⟩
theorem off_self (a b : Pt) : offP a a b = (0, 1) := by
  unfold offP
  simp only
  have e : prod a b a = 0 := by unfold prod; grind
  rw [e, if_pos (by decide), Prod.mk.injEq]
  exact ⟨by unfold prod; grind, rfl⟩
theorem offL_snd1 (p a : Pt) : (offL p a a).2 = 1 := by
  unfold offL
  simp
end DL
set_option maxHeartbeats 4000000
namespace DL
open PySem PySem.Spec PyProof.Rows L2
theorem h_law : w_law (fun _ _ => False) { nx := fun _ _ => False, rt := fun d _ => d = .bl true } (.un :: .dt .drw :: List.replicate (N_law.length - 2) Sl.un) (2 ^ 39) := by
  simp only [w_law, N_law, r_bin, r_ixT0, r_ixT1, r_ixT2, r_ixT3, r_ixL0, r_ixL1, r_ixL2, r_ixL3, r_sub, r_add, r_mul, r_div, r_mod, r_pow, r_le, r_gt, r_ge, r_lt, r_eqI, r_neI, r_sIf, r_asg, r_asg2, r_g2, sRet, sSeq, sNext, sRetN, eVar, eVarB, eC, r_dt, r_rd, r_rdo, r_owS, tB_bl, r_test, r_notV, r_tru, r_trB, r_trL, r_trI, r_sqL, r_sqT, tw_2, r_par, r_rev, rv_t, rv_l, r_mt, r_ext, r_app, r_len, r_lenT, ow_ex, size0, size1, size2, size3, size4, ↓reduceIte, Bool.false_eq_true, sSetN, nLst, eFz, eCB,  eTup, aCons, aNil, eIf, wOr, wAnd, wNot, r_andV, r_orV, bT_bl, r_ifAnd, r_ifOr, eCall, eMake, st0, List.map, List.replicate, List.append, List.length, List.set, List.getElem?_cons_zero, List.getElem?_cons_succ, List.cons_append, List.nil_append, Nat.reduceSub, Nat.reduceAdd, Nat.zero_add, List.append_nil, true_and, and_true, List.getElem?_nil, List.length_cons, List.length_nil, List.map_cons, List.map_nil, r_pt0, r_pt1, r_fr0, r_fr1, r_ed0, r_ed1, r_g2pt, r_g2fr, r_g2ed, ed_mk, r_ltP, r_eqP, r_neP, r_eqE, r_inE, r_notInE, r_inEE, c_in_order, c_turning, c_product, c_cross, c_are_apart, c_overlap_well, c_meet_well, c_offset_parts, c_offset_of, c_is_integer, c_common, c_Slack_init, c_L_lies, c_L_meet, c_L_offset, c_L_spot, eq_self, rv_ed, gP_10, r_rep4, r_addL, eCallK, List.reverse_cons, List.reverse_nil, gNm, List.set_cons_succ, List.set_cons_zero, r_ownNe, slk_mk, sFor, r_R1, r1D_i]
  refine ⟨⟨by decide, by decide⟩, ?_⟩
  refine for_cnt (fun m η n => (∃ s2 s3 s4 s5 s6 s7 s8 s9 s10 s11, η = [.un, .dt .drw, s2, s3, s4, s5, s6, s7, s8, s9, s10, s11]) ∧ 9 * m ≤ n) (fun _ _ _ => trivial) ?_ _ _ _ ⟨⟨_, _, _, _, _, _, _, _, _, _, rfl⟩, by rw [rangeD_len]; decide⟩
  rintro d m η n nxt ⟨⟨s2, s3, s4, s5, s6, s7, s8, s9, s10, s11, rfl⟩, hn⟩ hx
  simp only [r_bin, r_ixT0, r_ixT1, r_ixT2, r_ixT3, r_ixL0, r_ixL1, r_ixL2, r_ixL3, r_sub, r_add, r_mul, r_div, r_mod, r_pow, r_le, r_gt, r_ge, r_lt, r_eqI, r_neI, r_sIf, r_asg, r_asg2, r_g2, sRet, sSeq, sNext, sRetN, eVar, eVarB, eC, r_dt, r_rd, r_rdo, r_owS, tB_bl, r_test, r_notV, r_tru, r_trB, r_trL, r_trI, r_sqL, r_sqT, tw_2, r_par, r_rev, rv_t, rv_l, r_mt, r_ext, r_app, r_len, r_lenT, ow_ex, size0, size1, size2, size3, size4, ↓reduceIte, Bool.false_eq_true, sSetN, nLst, eFz, eCB,  eTup, aCons, aNil, eIf, wOr, wAnd, wNot, r_andV, r_orV, bT_bl, r_ifAnd, r_ifOr, eCall, eMake, st0, List.map, List.replicate, List.append, List.length, List.set, List.getElem?_cons_zero, List.getElem?_cons_succ, List.cons_append, List.nil_append, Nat.reduceSub, Nat.reduceAdd, Nat.zero_add, List.append_nil, true_and, and_true, List.getElem?_nil, List.length_cons, List.length_nil, List.map_cons, List.map_nil, r_pt0, r_pt1, r_fr0, r_fr1, r_ed0, r_ed1, r_g2pt, r_g2fr, r_g2ed, ed_mk, r_ltP, r_eqP, r_neP, r_eqE, r_inE, r_notInE, r_inEE, c_in_order, c_turning, c_product, c_cross, c_are_apart, c_overlap_well, c_meet_well, c_offset_parts, c_offset_of, c_is_integer, c_common, c_Slack_init, c_L_lies, c_L_meet, c_L_offset, c_L_spot, eq_self, rv_ed, gP_10, r_rep4, r_addL, eCallK, List.reverse_cons, List.reverse_nil, gNm, List.set_cons_succ, List.set_cons_zero, r_ownNe, slk_mk]
  refine ⟨by decide, _, rfl, by simp, by decide, by omega, fun f hf => ?_⟩
  obtain ⟨i, rfl, hi0, hi1⟩ : ∃ i : Int, f = .int i ∧ 0 ≤ i ∧ i ≤ 100000 := by
    simp only [List.mem_cons, List.not_mem_nil, or_false] at hf
    rcases hf with rfl | rfl | rfl | rfl | rfl
    · exact ⟨_, rfl, by decide, by decide⟩
    · exact ⟨_, rfl, by decide, by decide⟩
    · exact ⟨_, rfl, by decide, by decide⟩
    · exact ⟨_, rfl, by decide, by decide⟩
    · exact ⟨_, rfl, by decide, by decide⟩
  simp only [nLc, r_R1, r1D_i, r_bin, r_ixT0, r_ixT1, r_ixT2, r_ixT3, r_ixL0, r_ixL1, r_ixL2, r_ixL3, r_sub, r_add, r_mul, r_div, r_mod, r_pow, r_le, r_gt, r_ge, r_lt, r_eqI, r_neI, r_sIf, r_asg, r_asg2, r_g2, sRet, sSeq, sNext, sRetN, eVar, eVarB, eC, r_dt, r_rd, r_rdo, r_owS, tB_bl, r_test, r_notV, r_tru, r_trB, r_trL, r_trI, r_sqL, r_sqT, tw_2, r_par, r_rev, rv_t, rv_l, r_mt, r_ext, r_app, r_len, r_lenT, ow_ex, size0, size1, size2, size3, size4, ↓reduceIte, Bool.false_eq_true, sSetN, nLst, eFz, eCB,  eTup, aCons, aNil, eIf, wOr, wAnd, wNot, r_andV, r_orV, bT_bl, r_ifAnd, r_ifOr, eCall, eMake, st0, List.map, List.replicate, List.append, List.length, List.set, List.getElem?_cons_zero, List.getElem?_cons_succ, List.cons_append, List.nil_append, Nat.reduceSub, Nat.reduceAdd, Nat.zero_add, List.append_nil, true_and, and_true, List.getElem?_nil, List.length_cons, List.length_nil, List.map_cons, List.map_nil, r_pt0, r_pt1, r_fr0, r_fr1, r_ed0, r_ed1, r_g2pt, r_g2fr, r_g2ed, ed_mk, r_ltP, r_eqP, r_neP, r_eqE, r_inE, r_notInE, r_inEE, c_in_order, c_turning, c_product, c_cross, c_are_apart, c_overlap_well, c_meet_well, c_offset_parts, c_offset_of, c_is_integer, c_common, c_Slack_init, c_L_lies, c_L_meet, c_L_offset, c_L_spot, eq_self, rv_ed, gP_10, r_rep4, r_addL, eCallK, List.reverse_cons, List.reverse_nil, gNm, List.set_cons_succ, List.set_cons_zero, r_ownNe, slk_mk, wipeS]
  refine ⟨⟨by decide, by decide⟩, lc_draw (P := fun y => ∃ p, y = pt p ∧ Bd p) (c := 2) (fun d n Q Z hc hQ => ?_) _ _ _ (fun y hy => nomatch hy) (by rw [rangeD_len]; omega) (by rw [rangeD_len]; decide) fun ys hl hP => ?_⟩
  · simp only [wYes, r_bin, r_ixT0, r_ixT1, r_ixT2, r_ixT3, r_ixL0, r_ixL1, r_ixL2, r_ixL3, r_sub, r_add, r_mul, r_div, r_mod, r_pow, r_le, r_gt, r_ge, r_lt, r_eqI, r_neI, r_sIf, r_asg, r_asg2, r_g2, sRet, sSeq, sNext, sRetN, eVar, eVarB, eC, r_dt, r_rd, r_rdo, r_owS, tB_bl, r_test, r_notV, r_tru, r_trB, r_trL, r_trI, r_sqL, r_sqT, tw_2, r_par, r_rev, rv_t, rv_l, r_mt, r_ext, r_app, r_len, r_lenT, ow_ex, size0, size1, size2, size3, size4, ↓reduceIte, Bool.false_eq_true, sSetN, nLst, eFz, eCB,  eTup, aCons, aNil, eIf, wOr, wAnd, wNot, r_andV, r_orV, bT_bl, r_ifAnd, r_ifOr, eCall, eMake, st0, List.map, List.replicate, List.append, List.length, List.set, List.getElem?_cons_zero, List.getElem?_cons_succ, List.cons_append, List.nil_append, Nat.reduceSub, Nat.reduceAdd, Nat.zero_add, List.append_nil, true_and, and_true, List.getElem?_nil, List.length_cons, List.length_nil, List.map_cons, List.map_nil, r_pt0, r_pt1, r_fr0, r_fr1, r_ed0, r_ed1, r_g2pt, r_g2fr, r_g2ed, ed_mk, r_ltP, r_eqP, r_neP, r_eqE, r_inE, r_notInE, r_inEE, c_in_order, c_turning, c_product, c_cross, c_are_apart, c_overlap_well, c_meet_well, c_offset_parts, c_offset_of, c_is_integer, c_common, c_Slack_init, c_L_lies, c_L_meet, c_L_offset, c_L_spot, eq_self, rv_ed, gP_10, r_rep4, r_addL, eCallK, List.reverse_cons, List.reverse_nil, gNm, List.set_cons_succ, List.set_cons_zero, r_ownNe, slk_mk]
    refine ⟨hi0, by omega, hc, fun u v h1 h2 h3 h4 => hQ _ ⟨_, rfl, ?_⟩⟩
    have m1 := mulB (i := u) (j := i) (A := 6) (B := 100000) (by omega) (by omega) (by omega) (by omega)
    have m2 := mulB (i := v) (j := i) (A := 6) (B := 100000) (by omega) (by omega) (by omega) (by omega)
    constructor <;> simp only <;> omega
  rw [rangeD_len] at hl
  match ys, hl with
  | [y0, y1, y2, y3], _ =>
  obtain ⟨p0, rfl, b0⟩ := hP y0 (by simp)
  obtain ⟨p1, rfl, b1⟩ := hP y1 (by simp)
  obtain ⟨p2, rfl, b2⟩ := hP y2 (by simp)
  obtain ⟨p3, rfl, b3⟩ := hP y3 (by simp)
  rw [rangeD_len]
  simp only [r_bin, r_ixT0, r_ixT1, r_ixT2, r_ixT3, r_ixL0, r_ixL1, r_ixL2, r_ixL3, r_sub, r_add, r_mul, r_div, r_mod, r_pow, r_le, r_gt, r_ge, r_lt, r_eqI, r_neI, r_sIf, r_asg, r_asg2, r_g2, sRet, sSeq, sNext, sRetN, eVar, eVarB, eC, r_dt, r_rd, r_rdo, r_owS, tB_bl, r_test, r_notV, r_tru, r_trB, r_trL, r_trI, r_sqL, r_sqT, tw_2, r_par, r_rev, rv_t, rv_l, r_mt, r_ext, r_app, r_len, r_lenT, ow_ex, size0, size1, size2, size3, size4, ↓reduceIte, Bool.false_eq_true, sSetN, nLst, eFz, eCB,  eTup, aCons, aNil, eIf, wOr, wAnd, wNot, r_andV, r_orV, bT_bl, r_ifAnd, r_ifOr, eCall, eMake, st0, List.map, List.replicate, List.append, List.length, List.set, List.getElem?_cons_zero, List.getElem?_cons_succ, List.cons_append, List.nil_append, Nat.reduceSub, Nat.reduceAdd, Nat.zero_add, List.append_nil, true_and, and_true, List.getElem?_nil, List.length_cons, List.length_nil, List.map_cons, List.map_nil, r_pt0, r_pt1, r_fr0, r_fr1, r_ed0, r_ed1, r_g2pt, r_g2fr, r_g2ed, ed_mk, r_ltP, r_eqP, r_neP, r_eqE, r_inE, r_notInE, r_inEE, c_in_order, c_turning, c_product, c_cross, c_are_apart, c_overlap_well, c_meet_well, c_offset_parts, c_offset_of, c_is_integer, c_common, c_Slack_init, c_L_lies, c_L_meet, c_L_offset, c_L_spot, eq_self, rv_ed, gP_10, r_rep4, r_addL, eCallK, List.reverse_cons, List.reverse_nil, gNm, List.set_cons_succ, List.set_cons_zero, r_ownNe, slk_mk, r_g2fr]
  have e0 : Bd p0 = True := eq_true b0
  have e1 : Bd p1 = True := eq_true b1
  have e2 : Bd p2 = True := eq_true b2
  have e3 : Bd p3 = True := eq_true b3
  have o1 := offP_lt b2 b0 b1
  have f1 : (0 ≤ (offP p2 p0 p1).1) = True := eq_true o1.1
  have f2 : (1 ≤ (offP p2 p0 p1).2) = True := eq_true o1.2.1
  have f3 : ((offP p2 p0 p1).2 < 2 ^ 250) = True := eq_true (by have := o1.2.2; omega)
  have f4 : (0 ≤ (offP p2 p0 p0).1) = True := eq_true (offP_lt b2 b0 b0).1
  have f5 : (1 < (2 : Int) ^ 250) = True := eq_true (by decide)
  have f6 : low ((offP p2 p0 p0).1, 1) = low (offP p2 p0 p0) := by
    rw [off_same]
    have := offL_snd1 p2 p0
    rw [show ((offL p2 p0 p0).1, (1 : Int)) = offL p2 p0 p0 from Prod.ext rfl this.symm]
  have hn2 : 9 * m ≤ n - 1 - 2 * Int.toNat 4 := by
    show 9 * m ≤ n - 1 - 2 * 4
    omega
  have nx : ∀ s2 s3 s4 s5 s6 s7 s8 s9 s10 s11, nxt [.un, .dt .drw, s2, s3, s4, s5, s6, s7, s8, s9, s10, s11] (n - 1 - 2 * Int.toNat 4) := fun _ _ _ _ _ _ _ _ _ _ => hx _ _ ⟨⟨_, _, _, _, _, _, _, _, _, _, rfl⟩, hn2⟩
  simp only [e0, e1, e2, e3, ← off_same, off_sw p2 p0 p1, off_self, f1, f2, f3, f4, f5, f6, true_and, decide_true, Bool.not_true, Bool.false_eq_true, if_false, Int.le_refl, nx]
  split
  · rename_i g
    have g' : p0 = p1 := of_decide_eq_true g
    subst g'
    simp
  · rename_i g
    have g' : p0 ≠ p1 := fun q => g (decide_eq_true q)
    split
    · rename_i h
      have h' : p2 ≠ p3 := fun q => by rw [q] at h; simp at h
      rw [meet_same (e := (p0, p1)) (o := (p2, p3)) g' h', meet_same2 (e := (p0, p1)) (o := (p2, p3)) g' h', show meetW (p1, p0) (p2, p3) = meetL (p0, p1) (p2, p3) from meet_same3 (e := (p0, p1)) (o := (p2, p3)) g' h', show meetW (p2, p3) (p1, p0) = meetL (p0, p1) (p2, p3) from meet_same4 (e := (p0, p1)) (o := (p2, p3)) g' h',
        meet_self, show meetW (p0, p1) (p1, p0) = true from meet_self2 (e := (p0, p1)) g']
      refine repr_b4 _ _ (repr_b4 _ _ (ne_b4 _ _ ?_))
      simp [tB_bl]
    · trivial
end DL
set_option maxHeartbeats 0
namespace DL
open PySem PySem.Spec PyProof.Rows L2
def d_L_begin : He.DefD := ⟨("_law_begin", none), "_law_begin", "_law_begin", defArgs s_L_begin, defBody s_L_begin, defScope s_L_begin, [], []⟩
def d_L_next : He.DefD := ⟨("_law_next", none), "_law_next", "_law_next", defArgs s_L_next, defBody s_L_next, defScope s_L_next, [], []⟩
def d_is_integer : He.DefD := ⟨("is_integer", none), "is_integer", "is_integer", defArgs s_is_integer, defBody s_is_integer, defScope s_is_integer, [], []⟩
def d_common : He.DefD := ⟨("common", none), "common", "common", defArgs s_common, defBody s_common, defScope s_common, [], []⟩
def d_Slack__init_ : He.DefD := ⟨("Slack", some "__init__"), "__init__", "Slack.__init__", defArgs s_Slack__init_, defBody s_Slack__init_, defScope s_Slack__init_, [.int 1], []⟩
def d_Slack__eq_ : He.DefD := ⟨("Slack", some "__eq__"), "__eq__", "Slack.__eq__", defArgs s_Slack__eq_, defBody s_Slack__eq_, defScope s_Slack__eq_, [], []⟩
def d_turning : He.DefD := ⟨("turning", none), "turning", "turning", defArgs s_turning, defBody s_turning, defScope s_turning, [], []⟩
def d_product : He.DefD := ⟨("product", none), "product", "product", defArgs s_product, defBody s_product, defScope s_product, [], []⟩
def d_in_order : He.DefD := ⟨("in_order", none), "in_order", "in_order", defArgs s_in_order, defBody s_in_order, defScope s_in_order, [], []⟩
def d_are_apart : He.DefD := ⟨("are_apart", none), "are_apart", "are_apart", defArgs s_are_apart, defBody s_are_apart, defScope s_are_apart, [], []⟩
def d_overlap_well : He.DefD := ⟨("overlap_well", none), "overlap_well", "overlap_well", defArgs s_overlap_well, defBody s_overlap_well, defScope s_overlap_well, [], []⟩
def d_meet_well : He.DefD := ⟨("meet_well", none), "meet_well", "meet_well", defArgs s_meet_well, defBody s_meet_well, defScope s_meet_well, [], []⟩
def d_offset_parts : He.DefD := ⟨("offset_parts", none), "offset_parts", "offset_parts", defArgs s_offset_parts, defBody s_offset_parts, defScope s_offset_parts, [], []⟩
def d_offset_of : He.DefD := ⟨("offset_of", none), "offset_of", "offset_of", defArgs s_offset_of, defBody s_offset_of, defScope s_offset_of, [], []⟩
def d_L_pick : He.DefD := ⟨("_law_pick", none), "_law_pick", "_law_pick", defArgs s_L_pick, defBody s_L_pick, defScope s_L_pick, [], []⟩
def d_L_cross : He.DefD := ⟨("_law_cross", none), "_law_cross", "_law_cross", defArgs s_L_cross, defBody s_L_cross, defScope s_L_cross, [], []⟩
def d_L_lies : He.DefD := ⟨("_law_lies", none), "_law_lies", "_law_lies", defArgs s_L_lies, defBody s_L_lies, defScope s_L_lies, [], []⟩
def d_L_meet : He.DefD := ⟨("_law_meet", none), "_law_meet", "_law_meet", defArgs s_L_meet, defBody s_L_meet, defScope s_L_meet, [], []⟩
def d_L_offset : He.DefD := ⟨("_law_offset", none), "_law_offset", "_law_offset", defArgs s_L_offset, defBody s_L_offset, defScope s_L_offset, [], []⟩
def d_L_spot : He.DefD := ⟨("_law_spot", none), "_law_spot", "_law_spot", defArgs s_L_spot, defBody s_L_spot, defScope s_L_spot, [], []⟩
def d_law : He.DefD := ⟨("law", none), "law", "law", defArgs s_law, defBody s_law, defScope s_law, [], []⟩
def fnL : List He.DefD := [d_L_begin, d_L_next, d_is_integer, d_common, d_Slack__init_, d_Slack__eq_, d_turning, d_product, d_in_order, d_are_apart, d_overlap_well, d_meet_well, d_offset_parts, d_offset_of, d_L_pick, d_L_cross, d_L_lies, d_L_meet, d_L_offset, d_L_spot, d_law]
def faL : List He.Fa := [.free "isinstance", .free "int", .free "bool", .free "len", .free "range", .free "repr", .glo "_law_begin", .glo "_law_next", .glo "is_integer", .glo "common", .glo "turning", .glo "product", .glo "in_order", .glo "are_apart", .glo "overlap_well", .glo "meet_well", .glo "offset_parts", .glo "offset_of", .glo "_law_pick", .glo "_law_cross", .glo "_law_lies", .glo "_law_meet", .glo "_law_offset", .glo "_law_spot", .glo "law", .glo "Slack", .cls "Slack", .noat "Slack" "own_num", .noat "Slack" "own_den", .mkr "Slack", .meth "Slack" "__eq__"]
def exL (K : PySem.W.Frag) : Bool := clsX K "Slack"
def loose0 : List Str := ["is_integer", "SheetError", "BadSlack", "BadNumber", "DIGITS", "MOST_DIGITS", "common", "number_in", "need_whole", "Slack", "turning", "product", "in_order", "are_apart", "overlap_well", "meet_well", "offset_parts", "offset_of", "_law_begin", "_law_next"]
def loose1 : List Str := ["_law_pick", "_law_cross", "_law_lies", "_law_meet", "_law_offset", "_law_error", "_law_is_within", "_law_leads", "_law_spot"]
def looseL : List Str := loose0 ++ loose1
abbrev RL : PySem.W.OpenRow := PySem.W.OpenLaw.row PySem.Challenge.rw_sharedborders_k03_edges_and_offsets
abbrev hkL : PySem.W.Hook := hookQ 6 faL fnL exL
def obL (s : PySem.W.SharedT) : AlQ := obsQ 6 faL fnL exL (HandSHeadRun.getT s)
theorem ob_eqL (s : PySem.W.SharedT) : obL s = hkL.obs s.abs := obsQ_eq (HandSHeadRun.getT_eq s)
theorem runL (w : World) : HandSHeadRun.RunEq RL (PySem.W.view RL.prog [34]) hkL obL 3000 looseL w := by
  intro os
  kernel_rfl
theorem factsL {P : Program} {wd : World} {K : PySem.W.Frag} {h : Heap} {mg : Str → Option Value} {f : Addr} (X : K.In h) (G : h.Ns mainGlobals mg) (hfa : mg ("law" : Str) = some (.ref f)) (c : He.SaysD faL fnL K) (ec : exL K = true) :
    ∃ fd : FuncData, (∀ (s : Shared) (v : Value), BindsTo s fd ⟨[v], []⟩ [("_law_script", v)]) ∧ ∀ base : Heap, K.In base → base.Ns mainGlobals mg → FnOkG P wd K mg base CX0 5 f fd ["_law_script"] (spLaw K) := by
  obtain ⟨fd_L_begin, D_L_begin⟩ : ∃ fd, FunD K "_law_begin" "_law_begin" (defArgs s_L_begin) (defBody s_L_begin) (defScope s_L_begin) (d_L_begin.dvs K) [] (He.ga K "_law_begin") fd := c.def_ 0 (d := d_L_begin) rfl
  obtain ⟨fd_L_next, D_L_next⟩ : ∃ fd, FunD K "_law_next" "_law_next" (defArgs s_L_next) (defBody s_L_next) (defScope s_L_next) (d_L_next.dvs K) [] (He.ga K "_law_next") fd := c.def_ 1 (d := d_L_next) rfl
  obtain ⟨fd_is_integer, D_is_integer⟩ : ∃ fd, FunD K "is_integer" "is_integer" (defArgs s_is_integer) (defBody s_is_integer) (defScope s_is_integer) (d_is_integer.dvs K) [] (He.ga K "is_integer") fd := c.def_ 2 (d := d_is_integer) rfl
  obtain ⟨fd_common, D_common⟩ : ∃ fd, FunD K "common" "common" (defArgs s_common) (defBody s_common) (defScope s_common) (d_common.dvs K) [] (He.ga K "common") fd := c.def_ 3 (d := d_common) rfl
  obtain ⟨fd_Slack__init_, D_Slack__init_⟩ : ∃ fd, FunD K "__init__" "Slack.__init__" (defArgs s_Slack__init_) (defBody s_Slack__init_) (defScope s_Slack__init_) (d_Slack__init_.dvs K) [] (He.ma K (He.ga K "Slack") "__init__") fd := c.def_ 4 (d := d_Slack__init_) rfl
  obtain ⟨fd_Slack__eq_, D_Slack__eq_⟩ : ∃ fd, FunD K "__eq__" "Slack.__eq__" (defArgs s_Slack__eq_) (defBody s_Slack__eq_) (defScope s_Slack__eq_) (d_Slack__eq_.dvs K) [] (He.ma K (He.ga K "Slack") "__eq__") fd := c.def_ 5 (d := d_Slack__eq_) rfl
  obtain ⟨fd_turning, D_turning⟩ : ∃ fd, FunD K "turning" "turning" (defArgs s_turning) (defBody s_turning) (defScope s_turning) (d_turning.dvs K) [] (He.ga K "turning") fd := c.def_ 6 (d := d_turning) rfl
  obtain ⟨fd_product, D_product⟩ : ∃ fd, FunD K "product" "product" (defArgs s_product) (defBody s_product) (defScope s_product) (d_product.dvs K) [] (He.ga K "product") fd := c.def_ 7 (d := d_product) rfl
  obtain ⟨fd_in_order, D_in_order⟩ : ∃ fd, FunD K "in_order" "in_order" (defArgs s_in_order) (defBody s_in_order) (defScope s_in_order) (d_in_order.dvs K) [] (He.ga K "in_order") fd := c.def_ 8 (d := d_in_order) rfl
  obtain ⟨fd_are_apart, D_are_apart⟩ : ∃ fd, FunD K "are_apart" "are_apart" (defArgs s_are_apart) (defBody s_are_apart) (defScope s_are_apart) (d_are_apart.dvs K) [] (He.ga K "are_apart") fd := c.def_ 9 (d := d_are_apart) rfl
  obtain ⟨fd_overlap_well, D_overlap_well⟩ : ∃ fd, FunD K "overlap_well" "overlap_well" (defArgs s_overlap_well) (defBody s_overlap_well) (defScope s_overlap_well) (d_overlap_well.dvs K) [] (He.ga K "overlap_well") fd := c.def_ 10 (d := d_overlap_well) rfl
  obtain ⟨fd_meet_well, D_meet_well⟩ : ∃ fd, FunD K "meet_well" "meet_well" (defArgs s_meet_well) (defBody s_meet_well) (defScope s_meet_well) (d_meet_well.dvs K) [] (He.ga K "meet_well") fd := c.def_ 11 (d := d_meet_well) rfl
  obtain ⟨fd_offset_parts, D_offset_parts⟩ : ∃ fd, FunD K "offset_parts" "offset_parts" (defArgs s_offset_parts) (defBody s_offset_parts) (defScope s_offset_parts) (d_offset_parts.dvs K) [] (He.ga K "offset_parts") fd := c.def_ 12 (d := d_offset_parts) rfl
  obtain ⟨fd_offset_of, D_offset_of⟩ : ∃ fd, FunD K "offset_of" "offset_of" (defArgs s_offset_of) (defBody s_offset_of) (defScope s_offset_of) (d_offset_of.dvs K) [] (He.ga K "offset_of") fd := c.def_ 13 (d := d_offset_of) rfl
  obtain ⟨fd_L_pick, D_L_pick⟩ : ∃ fd, FunD K "_law_pick" "_law_pick" (defArgs s_L_pick) (defBody s_L_pick) (defScope s_L_pick) (d_L_pick.dvs K) [] (He.ga K "_law_pick") fd := c.def_ 14 (d := d_L_pick) rfl
  obtain ⟨fd_L_cross, D_L_cross⟩ : ∃ fd, FunD K "_law_cross" "_law_cross" (defArgs s_L_cross) (defBody s_L_cross) (defScope s_L_cross) (d_L_cross.dvs K) [] (He.ga K "_law_cross") fd := c.def_ 15 (d := d_L_cross) rfl
  obtain ⟨fd_L_lies, D_L_lies⟩ : ∃ fd, FunD K "_law_lies" "_law_lies" (defArgs s_L_lies) (defBody s_L_lies) (defScope s_L_lies) (d_L_lies.dvs K) [] (He.ga K "_law_lies") fd := c.def_ 16 (d := d_L_lies) rfl
  obtain ⟨fd_L_meet, D_L_meet⟩ : ∃ fd, FunD K "_law_meet" "_law_meet" (defArgs s_L_meet) (defBody s_L_meet) (defScope s_L_meet) (d_L_meet.dvs K) [] (He.ga K "_law_meet") fd := c.def_ 17 (d := d_L_meet) rfl
  obtain ⟨fd_L_offset, D_L_offset⟩ : ∃ fd, FunD K "_law_offset" "_law_offset" (defArgs s_L_offset) (defBody s_L_offset) (defScope s_L_offset) (d_L_offset.dvs K) [] (He.ga K "_law_offset") fd := c.def_ 18 (d := d_L_offset) rfl
  obtain ⟨fd_L_spot, D_L_spot⟩ : ∃ fd, FunD K "_law_spot" "_law_spot" (defArgs s_L_spot) (defBody s_L_spot) (defScope s_L_spot) (d_L_spot.dvs K) [] (He.ga K "_law_spot") fd := c.def_ 19 (d := d_L_spot) rfl
  obtain ⟨fd_law, D_law⟩ : ∃ fd, FunD K "law" "law" (defArgs s_law) (defBody s_law) (defScope s_law) (d_law.dvs K) [] (He.ga K "law") fd := c.def_ 20 (d := d_law) rfl
  have g_L_begin := He.glo_ok X G (c.fact 6 (f := .glo "_law_begin") rfl)
  have g_L_next := He.glo_ok X G (c.fact 7 (f := .glo "_law_next") rfl)
  have g_is_integer := He.glo_ok X G (c.fact 8 (f := .glo "is_integer") rfl)
  have g_common := He.glo_ok X G (c.fact 9 (f := .glo "common") rfl)
  have g_turning := He.glo_ok X G (c.fact 10 (f := .glo "turning") rfl)
  have g_product := He.glo_ok X G (c.fact 11 (f := .glo "product") rfl)
  have g_in_order := He.glo_ok X G (c.fact 12 (f := .glo "in_order") rfl)
  have g_are_apart := He.glo_ok X G (c.fact 13 (f := .glo "are_apart") rfl)
  have g_overlap_well := He.glo_ok X G (c.fact 14 (f := .glo "overlap_well") rfl)
  have g_meet_well := He.glo_ok X G (c.fact 15 (f := .glo "meet_well") rfl)
  have g_offset_parts := He.glo_ok X G (c.fact 16 (f := .glo "offset_parts") rfl)
  have g_offset_of := He.glo_ok X G (c.fact 17 (f := .glo "offset_of") rfl)
  have g_L_pick := He.glo_ok X G (c.fact 18 (f := .glo "_law_pick") rfl)
  have g_L_cross := He.glo_ok X G (c.fact 19 (f := .glo "_law_cross") rfl)
  have g_L_lies := He.glo_ok X G (c.fact 20 (f := .glo "_law_lies") rfl)
  have g_L_meet := He.glo_ok X G (c.fact 21 (f := .glo "_law_meet") rfl)
  have g_L_offset := He.glo_ok X G (c.fact 22 (f := .glo "_law_offset") rfl)
  have g_L_spot := He.glo_ok X G (c.fact 23 (f := .glo "_law_spot") rfl)
  have g_law := He.glo_ok X G (c.fact 24 (f := .glo "law") rfl)
  have cl_Slack := He.cls_ok (c.fact 26 (f := .cls "Slack") rfl)
  have ex_Slack : clsX K "Slack" = true := ec
  have na_Slack : ∀ f ∈ (["own_num", "own_den"] : List Str), NoAttr K (He.ga K "Slack") f := by
    intro f hf
    simp only [List.mem_cons, List.not_mem_nil, or_false] at hf
    rcases hf with rfl | rfl
    · exact He.noat_ok (c.fact 27 (f := .noat "Slack" "own_num") rfl)
    · exact He.noat_ok (c.fact 28 (f := .noat "Slack" "own_den") rfl)
  have T : Tx K mg := ⟨He.free_ok X G (c.fact 0 (f := .free "isinstance") rfl), He.free_ok X G (c.fact 1 (f := .free "int") rfl), He.free_ok X G (c.fact 2 (f := .free "bool") rfl), He.free_ok X G (c.fact 3 (f := .free "len") rfl), He.free_ok X G (c.fact 4 (f := .free "range") rfl), He.free_ok X G (c.fact 5 (f := .free "repr") rfl), He.glo_ok X G (c.fact 25 (f := .glo "Slack") rfl), ⟨cl_Slack, na_Slack⟩, (clsX_ok cl_Slack ex_Slack).1, (clsX_ok cl_Slack ex_Slack).2⟩
  have zl : mg "len" = none := He.free_ok X G (c.fact 3 (f := .free "len") rfl)
  have el := hfa.symm.trans g_law
  cases el
  refine ⟨fd_law, fun s v => FunD.bindsA (ps := ["_law_script"]) D_law (fun _ _ _ _ _ _ us hl => match us, hl with | [_], _ => rfl) s [v] rfl, fun base _ _ => ?_⟩
  have F_L_begin : FnS P wd K mg base "_law_begin" ["_law_script"] 1 (spBegin K) := ⟨fd_L_begin, FunD.ok D_L_begin sc_L_begin (fun _ _ _ _ h => spBegin_len h) (fun cdv A outer s H vs Q E hr h => ⟨t_begin K, (b_L_begin _ cdv A outer s H E).nox, start_begin rfl vs H Q h⟩), FunD.bindsN D_L_begin (fun _ _ _ _ _ _ us hl => match us, hl with | [_], _ => rfl), D_L_begin.kp, g_L_begin⟩
  have F_L_next : Fn P wd K mg base "_law_next" ["_law_draw", "_law_many"] 2 1 C_L_next := ⟨fd_L_next, FunD.ok D_L_next sc_L_next (fun _ _ _ _ h => spU_len h) (fun cdv A outer s H vs Q E hr h => ⟨t_next K, (b_L_next zl _ cdv A outer s H E hr).nox, start_next rfl vs H Q h⟩), FunD.bindsN D_L_next (fun _ _ _ _ _ _ us hl => match us, hl with | [_, _], _ => rfl), D_L_next.kp, g_L_next⟩
  have g_Slack := He.glo_ok X G (c.fact 25 (f := .glo "Slack") rfl)
  have F_L_pick : Fn P wd K mg base "_law_pick" ["_law_draw", "_law_some"] 2 2 C_L_pick := ⟨fd_L_pick, fn_up D_L_pick sc_L_pick rfl (fun cdv A outer s H E hr => b_L_pick T F_L_next _ cdv A outer s H E hr) (st_m h_L_pick), FunD.bindsN D_L_pick (fun _ _ _ _ _ _ us hl => match us, hl with | [_, _], _ => rfl), D_L_pick.kp, g_L_pick⟩
  have F_L_spot : Fn P wd K mg base "_law_spot" ["_law_draw", "_law_far"] 2 2 C_L_spot := ⟨fd_L_spot, fn_up D_L_spot sc_L_spot rfl (fun cdv A outer s H E hr => b_L_spot T F_L_next _ cdv A outer s H E hr) (st_m h_L_spot), FunD.bindsN D_L_spot (fun _ _ _ _ _ _ us hl => match us, hl with | [_, _], _ => rfl), D_L_spot.kp, g_L_spot⟩
  have F_L_offset : Fn P wd K mg base "_law_offset" ["_law_spot_here", "_law_near", "_law_far"] 3 1 C_L_offset := ⟨fd_L_offset, fn_up D_L_offset sc_L_offset rfl (fun cdv A outer s H E hr => b_L_offset T  _ cdv A outer s H E hr) (st_m h_L_offset), FunD.bindsN D_L_offset (fun _ _ _ _ _ _ us hl => match us, hl with | [_, _, _], _ => rfl), D_L_offset.kp, g_L_offset⟩
  have F_product : Fn P wd K mg base "product" ["origin", "one", "other"] 3 1 C_product := ⟨fd_product, fn_up D_product sc_product rfl (fun cdv A outer s H E hr => b_product T  _ cdv A outer s H E hr) (st_m h_product), FunD.bindsN D_product (fun _ _ _ _ _ _ us hl => match us, hl with | [_, _, _], _ => rfl), D_product.kp, g_product⟩
  have F_turning : Fn P wd K mg base "turning" ["origin", "one", "other"] 3 1 C_turning := ⟨fd_turning, fn_up D_turning sc_turning rfl (fun cdv A outer s H E hr => b_turning T  _ cdv A outer s H E hr) (st_m h_turning), FunD.bindsN D_turning (fun _ _ _ _ _ _ us hl => match us, hl with | [_, _, _], _ => rfl), D_turning.kp, g_turning⟩
  have F_offset_parts : Fn P wd K mg base "offset_parts" ["point", "first", "last"] 3 2 C_offset_parts := ⟨fd_offset_parts, fn_up D_offset_parts sc_offset_parts rfl (fun cdv A outer s H E hr => b_offset_parts T F_product F_turning _ cdv A outer s H E hr) (st_m h_offset_parts), FunD.bindsN D_offset_parts (fun _ _ _ _ _ _ us hl => match us, hl with | [_, _, _], _ => rfl), D_offset_parts.kp, g_offset_parts⟩
  have F_is_integer : Fn P wd K mg base "is_integer" ["thing"] 1 1 C_is_integer := ⟨fd_is_integer, fn_up D_is_integer sc_is_integer rfl (fun cdv A outer s H E hr => b_is_integer T  _ cdv A outer s H E hr) (st_m h_is_integer), FunD.bindsN D_is_integer (fun _ _ _ _ _ _ us hl => match us, hl with | [_], _ => rfl), D_is_integer.kp, g_is_integer⟩
  have F_common : Fn P wd K mg base "common" ["one", "other"] 2 1 C_common := ⟨fd_common, fn_up D_common sc_common rfl (fun cdv A outer s H E hr => b_common T  _ cdv A outer s H E hr) (st_m h_common), FunD.bindsN D_common (fun _ _ _ _ _ _ us hl => match us, hl with | [_, _], _ => rfl), D_common.kp, g_common⟩
  have M_Slack_0 : Mkr P wd K mg base "Slack" ["self", "num", "den"] 2 2 C_Slack_init [] := by
    obtain ⟨ds, rv, b⟩ := FunD.binds1 (ps := ["self", "num", "den"]) D_Slack__init_ 3 1 (by show d_Slack__init_.dvs K ≠ []; simp [He.DefD.dvs, d_Slack__init_]) rfl (fun T kV doc pm an cdv ct us its h1 h2 => match us, its, h1, h2 with | [_, _, _], [_], _, _ => ⟨_, rfl, rfl⟩)
    exact ⟨_, fd_Slack__init_, ds, _, He.mkr_ok (c.fact 29 (f := .mkr "Slack") rfl), fn_init D_Slack__init_ sc_Slack__init_ rfl (by decide) (fun cdv A outer s H E hr => b_Slack__init_ T F_is_integer F_common _ cdv A outer s H E hr) h_Slack__init_, b, rv, fun dr F => .nil, g_Slack⟩
  have F_offset_of : Fn P wd K mg base "offset_of" ["point", "edge"] 2 4 C_offset_of := ⟨fd_offset_of, fn_up D_offset_of sc_offset_of rfl (fun cdv A outer s H E hr => b_offset_of T F_offset_parts M_Slack_0 _ cdv A outer s H E hr) (st_m h_offset_of), FunD.bindsN D_offset_of (fun _ _ _ _ _ _ us hl => match us, hl with | [_, _], _ => rfl), D_offset_of.kp, g_offset_of⟩
  have M_Slack_1 : Mkr P wd K mg base "Slack" ["self", "num", "den"] 2 2 C_Slack_init [.int 1] := by
    obtain ⟨ds, rv, b⟩ := FunD.binds1 (ps := ["self", "num", "den"]) D_Slack__init_ 2 0 (by show d_Slack__init_.dvs K ≠ []; simp [He.DefD.dvs, d_Slack__init_]) rfl (fun T kV doc pm an cdv ct us its h1 h2 => match us, its, h1, h2 with | [_, _], [_], _, _ => ⟨_, rfl, rfl⟩)
    exact ⟨_, fd_Slack__init_, ds, _, He.mkr_ok (c.fact 29 (f := .mkr "Slack") rfl), fn_init D_Slack__init_ sc_Slack__init_ rfl (by decide) (fun cdv A outer s H E hr => b_Slack__init_ T F_is_integer F_common _ cdv A outer s H E hr) h_Slack__init_, b, rv, fun dr F => .cons (.int _) (.nil), g_Slack⟩
  have O_Slack_eq : OwnOp P wd K mg base "Slack" "__eq__" 1 C_Slack_eq := ⟨⟨_, fd_Slack__eq_, ["self", "other"], fn_up D_Slack__eq_ sc_Slack__eq_ rfl (fun cdv A outer s H E hr => b_Slack__eq_ T  _ cdv A outer s H E hr) (st_m h_Slack__eq_), (He.meth_ok (c.fact 30 (f := .meth "Slack" "__eq__") rfl)).at_, (He.meth_ok (c.fact 30 (f := .meth "Slack" "__eq__") rfl)).fn, FunD.bindsN D_Slack__eq_ (fun _ _ _ _ _ _ us hl => match us, hl with | [_, _], _ => rfl)⟩⟩
  have F_L_cross : Fn P wd K mg base "_law_cross" ["_law_here", "_law_near", "_law_far"] 3 1 C_L_cross := ⟨fd_L_cross, fn_up D_L_cross sc_L_cross rfl (fun cdv A outer s H E hr => b_L_cross T  _ cdv A outer s H E hr) (st_m h_L_cross), FunD.bindsN D_L_cross (fun _ _ _ _ _ _ us hl => match us, hl with | [_, _, _], _ => rfl), D_L_cross.kp, g_L_cross⟩
  have F_L_lies : Fn P wd K mg base "_law_lies" ["_law_spot_here", "_law_side"] 2 2 C_L_lies := ⟨fd_L_lies, fn_up D_L_lies sc_L_lies rfl (fun cdv A outer s H E hr => b_L_lies T F_L_cross _ cdv A outer s H E hr) (st_m h_L_lies), FunD.bindsN D_L_lies (fun _ _ _ _ _ _ us hl => match us, hl with | [_, _], _ => rfl), D_L_lies.kp, g_L_lies⟩
  have F_L_meet : Fn P wd K mg base "_law_meet" ["_law_side", "_law_far"] 2 3 C_L_meet := ⟨fd_L_meet, fn_up D_L_meet sc_L_meet rfl (fun cdv A outer s H E hr => b_L_meet T F_L_lies F_L_cross _ cdv A outer s H E hr) (st_m h_L_meet), FunD.bindsN D_L_meet (fun _ _ _ _ _ _ us hl => match us, hl with | [_, _], _ => rfl), D_L_meet.kp, g_L_meet⟩
  have F_in_order : Fn P wd K mg base "in_order" ["edge"] 1 1 C_in_order := ⟨fd_in_order, fn_up D_in_order sc_in_order rfl (fun cdv A outer s H E hr => b_in_order T  _ cdv A outer s H E hr) (st_m h_in_order), FunD.bindsN D_in_order (fun _ _ _ _ _ _ us hl => match us, hl with | [_], _ => rfl), D_in_order.kp, g_in_order⟩
  have F_overlap_well : Fn P wd K mg base "overlap_well" ["edge", "other"] 2 2 C_overlap_well := ⟨fd_overlap_well, fn_up D_overlap_well sc_overlap_well rfl (fun cdv A outer s H E hr => b_overlap_well T F_in_order _ cdv A outer s H E hr) (st_m h_overlap_well), FunD.bindsN D_overlap_well (fun _ _ _ _ _ _ us hl => match us, hl with | [_, _], _ => rfl), D_overlap_well.kp, g_overlap_well⟩
  have F_are_apart : Fn P wd K mg base "are_apart" ["one", "other"] 2 1 C_are_apart := ⟨fd_are_apart, fn_up D_are_apart sc_are_apart rfl (fun cdv A outer s H E hr => b_are_apart T  _ cdv A outer s H E hr) (st_m h_are_apart), FunD.bindsN D_are_apart (fun _ _ _ _ _ _ us hl => match us, hl with | [_, _], _ => rfl), D_are_apart.kp, g_are_apart⟩
  have F_meet_well : Fn P wd K mg base "meet_well" ["edge", "other"] 2 3 C_meet_well := ⟨fd_meet_well, fn_up D_meet_well sc_meet_well rfl (fun cdv A outer s H E hr => b_meet_well T F_in_order F_turning F_overlap_well F_are_apart _ cdv A outer s H E hr) (st_m h_meet_well), FunD.bindsN D_meet_well (fun _ _ _ _ _ _ us hl => match us, hl with | [_, _], _ => rfl), D_meet_well.kp, g_meet_well⟩
  have K_meet_well_other_edge : FnK P wd K mg base "meet_well" ["edge", "other"] 2 3 C_meet_well 0 ["other", "edge"] [1, 0] := by
    obtain ⟨fd, F, _, kp, g⟩ := F_meet_well
    exact ⟨fd_meet_well, fn_up D_meet_well sc_meet_well rfl (fun cdv A outer s H E hr => b_meet_well T F_in_order F_turning F_overlap_well F_are_apart _ cdv A outer s H E hr) (st_m h_meet_well), kbn_mk 0 [1, 0] D_meet_well (fun kV doc pmm an cdv ct us ws h1 h2 => match us, ws, h1, h2 with | [], [_, _], _, _ => rfl), D_meet_well.kp, g_meet_well⟩
  have K_offset_of_edge_point : FnK P wd K mg base "offset_of" ["point", "edge"] 2 4 C_offset_of 0 ["edge", "point"] [1, 0] := by
    obtain ⟨fd, F, _, kp, g⟩ := F_offset_of
    exact ⟨fd_offset_of, fn_up D_offset_of sc_offset_of rfl (fun cdv A outer s H E hr => b_offset_of T F_offset_parts M_Slack_0 _ cdv A outer s H E hr) (st_m h_offset_of), kbn_mk 0 [1, 0] D_offset_of (fun kV doc pmm an cdv ct us ws h1 h2 => match us, ws, h1, h2 with | [], [_, _], _, _ => rfl), D_offset_of.kp, g_offset_of⟩
  exact okG D_law sc_law (fun _ _ _ _ h => spLaw_len h) (fun cdv A outer s H vs Q E hg hr h => ⟨_, (b_law T F_L_begin F_L_pick F_L_spot F_L_offset F_offset_of M_Slack_1 O_Slack_eq F_L_meet F_meet_well K_meet_well_other_edge K_offset_of_edge_point M_Slack_0 _ cdv A outer s H E hg hr).nox, law_pure (by decide) vs H Q h h_law⟩)
end DL
open PySem PySem.W PySem.Calls PyProof.Rows
theorem PySem.Challenge.cw_sharedborders_k03_edges_and_offsets_holds : PySem.Challenge.rw_sharedborders_k03_edges_and_offsets.Holds := by
  w_on; o_law
  refine HandSHeadRun.head_any (r := OpenLaw.row PySem.Challenge.rw_sharedborders_k03_edges_and_offsets) (q := view (OpenLaw.row PySem.Challenge.rw_sharedborders_k03_edges_and_offsets).prog [34]) (H := DL.hkL) (ob := DL.obL) (M := 3000) (loose := DL.looseL) (d := HandSHeadRun.topDef (OpenLaw.row PySem.Challenge.rw_sharedborders_k03_edges_and_offsets).prog 34) (kwd := []) DL.ob_eqL
    (by kernel_rfl) (fun s => by kernel_rfl) DL.runL (by kernel_rfl) (by kernel_rfl) (by kernel_rfl) (by rfl) (by first | assumption | decide +kernel) (by decide +kernel) ⟨rfl, rfl, rfl, rfl, rfl, by decide +kernel⟩ ?hw ?hc
  case hw => w_witness2
  case hc =>
    refine DL.walk_ofG (l := PySem.Challenge.rw_sharedborders_k03_edges_and_offsets) (n := 63) (k := 5) (x := "_law_script") rfl (by decide) (by kernel_rfl) ⟨rfl, by decide, by decide⟩ ?F
    intro w mg fa h Y G hmg0
    obtain ⟨K, KX, c, ec⟩ := Y
    have hmg : mg ("law" : PySem.Str) = some (.ref fa) := by
      have e : (HandSHeadRun.topDef (OpenLaw.row PySem.Challenge.rw_sharedborders_k03_edges_and_offsets).prog 34).name = ("law" : PySem.Str) := by kernel_rfl
      rw [← e]
      exact hmg0
    obtain ⟨fd, hb, hF⟩ := DL.factsL (P := (PySem.Challenge.rw_sharedborders_k03_edges_and_offsets).prog) (wd := w) KX G hmg c ec
    exact ⟨K, fd, DL.spLaw K, KX, hb, fun H a ns hl hS => ⟨a, ns, rfl, hS, hl, fun _ => rfl⟩, hF⟩
