import PyProof.Rows.All
import Wide.All
import OpenK.AllK
import Wide.FinOn
import HandS.HeadHook4
import HandS.Lambda
import HandS.ForMost
import HandS.ForExc
import HandS.Defaults
import HandS.TupAny
import HandS.Wide
import HandS.HeadHook1
import HandS.HeadHook2
import HandS.Deep
import HandS.TupLe
import HandS.Zip
import HandS.RevRange
import HandS.More
import HandS.Property
import HandS.Style
import KE.KRevSl
import HandS.MakeKw
import PyProof.InstNe
import HandS.IsInst
import HandS.Head0
import HandS.Head1
import HandS.Head2
import HandS.HeadEnd
import PyProof.ReprRoads
import HandS.ExcInit
import HandS.TryMany
import HandS.ExcIs
import HandS.ExcValue
import KE.KTryMore
import KE.KExcIs
import HandS.EndTab
import KE.KExcInit
import HandS.FStr
import HandS.Text
import PyProof.StrOps2
import OpenK.KMeth
import PyProof.ListMulRight
import HandS.GenList
import HandS.DictComp
import HandS.HeadNt
import KE.KCallOwn
import HandS.ClsMeth
import HandS.Star
import HandS.MakeKwOnly
import PySem.Challenge.RW_sharedborders_k02_slacks
set_option Elab.async false
set_option linter.all false
set_option maxRecDepth 100000
namespace DL
open PySem PySem.Spec PyProof.Rows L2
/-- the law's defs that make lambdas -/
def lamDefs : List Str := ["law", "_law_read_right", "_law_order_right"]
/-- the tables of their code objects -/
def TK (K : PySem.W.Frag) : List (Addr × Str) := lamDefs.map fun q => ((He.cT K (q, none)).2, q ++ ".<locals>." ++ "<lambda>")
end DL
set_option maxHeartbeats 2000000
namespace DL
open PySem PySem.Spec PyProof.Rows L2

/-! ### data -/
inductive D where
  | non | bl (b : Bool) | int (i : Int) | str (x : Str)
  | tup (xs : List D) | lst (xs : List D)
  | ins (c : Str) (ns : List Str) (fs : List D)
  | drw
  | dct (ks : List (List L2.Key)) (ds : List D)
/-- a slot of a def: unset, a frozen datum, an owned list -/
inductive Sl where
  | un | dt (d : D) | ow (xs : List D) | ob (p : Addr) (c : Str) (ns : List Str) (fs : List D) | cl (c : Str)
/-- a slot that owns its object (a list, an instance under way) -/
def Sl.isOw : Sl → Bool
  | .ow _ => true
  | .ob _ _ _ _ => true
  | _ => false

mutual
inductive Rp (K : PySem.W.Frag) (dr : Addr) (F : Hp) : V → D → Prop
  | non : Rp K dr F .non .non
  | bl (b : Bool) : Rp K dr F (.bl b) (.bl b)
  | int (i : Int) : Rp K dr F (.int i) (.int i)
  | str (x : Str) : Rp K dr F (.str x) (.str x)
  | tup {a : Addr} {vs : List V} {ds : List D} : F a = some (.tup vs) → RpL K dr F vs ds → Rp K dr F (.ref a) (.tup ds)
  | lst {a : Addr} {vs : List V} {ds : List D} : F a = some (.lst vs) → RpL K dr F vs ds → Rp K dr F (.ref a) (.lst ds)
  | ins {a dx : Addr} {c : Str} {ns : List Str} {vs : List V} {ds : List D} : F a = some (.ins (He.ga K c) dx (ns.zip vs)) → ns.length = vs.length → RpL K dr F vs ds → Rp K dr F (.ref a) (.ins c ns ds)
  | drw : Rp K dr F (.ref dr) .drw
  | dct {a : Addr} {ks : List (List L2.Key)} {vs : List V} {ds : List D} : F a = some (.dT (ks.zip vs)) → ks.length = vs.length → RpL K dr F vs ds → Rp K dr F (.ref a) (.dct ks ds)
inductive RpL (K : PySem.W.Frag) (dr : Addr) (F : Hp) : List V → List D → Prop
  | nil : RpL K dr F [] []
  | cons {v : V} {vs : List V} {d : D} {ds : List D} : Rp K dr F v d → RpL K dr F vs ds → RpL K dr F (v :: vs) (d :: ds)
end

section
variable {K : PySem.W.Frag} {dr : Addr} {F F' : Hp}
mutual
theorem Rp.mono (h : ∀ a o, F a = some o → F' a = some o) : ∀ (d : D) (v : V), Rp K dr F v d → Rp K dr F' v d
  | .non, _, q => by cases q; exact .non
  | .bl b, _, q => by cases q; exact .bl b
  | .int i, _, q => by cases q; exact .int i
  | .str x, _, q => by cases q; exact .str x
  | .tup ds, _, q => by
    cases q with
    | tup e r => exact .tup (h _ _ e) (RpL.mono h ds _ r)
  | .lst ds, _, q => by
    cases q with
    | lst e r => exact .lst (h _ _ e) (RpL.mono h ds _ r)
  | .ins c ns ds, _, q => by
    cases q with
    | ins e l r => exact .ins (h _ _ e) l (RpL.mono h ds _ r)
  | .drw, _, q => by cases q; exact .drw
  | .dct ks ds, _, q => by
    cases q with
    | dct e l r => exact .dct (h _ _ e) l (RpL.mono h ds _ r)
theorem RpL.mono (h : ∀ a o, F a = some o → F' a = some o) : ∀ (ds : List D) (vs : List V), RpL K dr F vs ds → RpL K dr F' vs ds
  | [], _, q => by cases q; exact .nil
  | d :: ds, _, q => by
    cases q with
    | cons r t => exact .cons (Rp.mono h d _ r) (RpL.mono h ds _ t)
end
theorem RpL.length : ∀ {vs : List V} {ds : List D}, RpL K dr F vs ds → vs.length = ds.length
  | _, [], q => by cases q; rfl
  | _, d :: ds, q => by
    cases q with
    | cons r t => exact congrArg Nat.succ (RpL.length t)
theorem RpL.get : ∀ {vs : List V} {ds : List D} {i : Nat} {d : D}, RpL K dr F vs ds → ds[i]? = some d → ∃ v, vs[i]? = some v ∧ Rp K dr F v d
  | _, [], i, d, q, e => by simp at e
  | _, d' :: ds, 0, d, q, e => by
    cases q with
    | cons r t =>
      simp at e
      subst e
      exact ⟨_, rfl, r⟩
  | _, d' :: ds, i + 1, d, q, e => by
    cases q with
    | cons r t =>
      obtain ⟨v, h1, h2⟩ := RpL.get (i := i) (d := d) t (by simpa using e)
      exact ⟨v, by simpa using h1, h2⟩
theorem RpL.getV : ∀ {vs : List V} {ds : List D} {i : Nat} {v : V}, RpL K dr F vs ds → vs[i]? = some v → ∃ d, ds[i]? = some d ∧ Rp K dr F v d := fun {vs ds i v} q e => by
  have h1 := q.length
  have h2 : i < vs.length := (List.getElem?_eq_some_iff.mp e).1
  obtain ⟨v', e1, r⟩ := RpL.get (i := i) q (List.getElem?_eq_getElem (by omega : i < ds.length))
  rw [e] at e1
  cases e1
  exact ⟨_, List.getElem?_eq_getElem (by omega), r⟩
theorem RpL.append : ∀ {vs us : List V} {ds es : List D}, RpL K dr F vs ds → RpL K dr F us es → RpL K dr F (vs ++ us) (ds ++ es)
  | _, _, [], _, q, s => by cases q; exact s
  | _, _, d :: ds, _, q, s => by
    cases q with
    | cons r t => exact .cons r (RpL.append t s)
theorem RpL.drop : ∀ {vs : List V} {ds : List D} (n : Nat), RpL K dr F vs ds → RpL K dr F (vs.drop n) (ds.drop n)
  | _, _, 0, q => q
  | _, [], n + 1, q => by cases q; exact .nil
  | _, d :: ds, n + 1, q => by
    cases q with
    | cons r t => exact RpL.drop n t
theorem RpL.take : ∀ {vs : List V} {ds : List D} (n : Nat), RpL K dr F vs ds → RpL K dr F (vs.take n) (ds.take n)
  | _, _, 0, q => .nil
  | _, [], n + 1, q => by cases q; exact .nil
  | _, d :: ds, n + 1, q => by
    cases q with
    | cons r t => exact .cons r (RpL.take n t)
theorem RpL.set {v : V} {d : D} (r : Rp K dr F v d) : ∀ {vs : List V} {ds : List D} (n : Nat), RpL K dr F vs ds → RpL K dr F (vs.set n v) (ds.set n d)
  | _, [], n, q => by cases q; exact .nil
  | _, d' :: ds, 0, q => by
    cases q with
    | cons _ t => exact .cons r t
  | _, d' :: ds, n + 1, q => by
    cases q with
    | cons r' t => exact .cons r' (RpL.set r n t)
theorem RpL.rev : ∀ {vs : List V} {ds : List D}, RpL K dr F vs ds → RpL K dr F vs.reverse ds.reverse
  | _, [], q => by cases q; exact .nil
  | _, d :: ds, q => by
    cases q with
    | cons r t =>
      rw [List.reverse_cons, List.reverse_cons]
      exact RpL.append (RpL.rev t) (.cons r .nil)
theorem RpL.ints : ∀ {vs : List V} {ns : List Int}, RpL K dr F vs (ns.map D.int) → vs = ns.map V.int
  | _, [], q => by cases q; rfl
  | _, n :: ns, q => by
    cases q with
    | cons r t =>
      cases r
      rw [RpL.ints t]
      rfl
theorem RpL.ofInts (dr : Addr) (F : Hp) : ∀ (ns : List Int), RpL K dr F (ns.map V.int) (ns.map D.int)
  | [] => .nil
  | n :: ns => .cons (.int n) (RpL.ofInts dr F ns)
theorem RpL.bls : ∀ {vs : List V} {ns : List Bool}, RpL K dr F vs (ns.map D.bl) → vs = ns.map V.bl
  | _, [], q => by cases q; rfl
  | _, n :: ns, q => by
    cases q with
    | cons r t =>
      cases r
      rw [RpL.bls t]
      rfl
end

/-! ### the state -/
/-- the law's draws: calls left n -/
def Drw (n : Nat) (F : Hp) (o : Option HO) : Prop := ∃ (ca : Addr) (cells : List Int) (a l u : Int), o = some (.dK [(.inr "cells", .ref ca), (.inr "at", .int a), (.inr "left", .int l), (.inr "used", .int u)]) ∧
  F ca = some (.lst (cells.map V.int)) ∧ cells ≠ [] ∧ cells.length ≤ 64 ∧ 0 ≤ a ∧ 0 ≤ u ∧ a + n ≤ 2 ^ 40 ∧ u + n ≤ 2 ^ 40
structure Cf where
  dr : Addr
  F : Hp
  H : Hp
  n : Nat
  T : List (Addr × Str)
structure Cf.Ok (c : Cf) : Prop where
  sub : ∀ a o, c.F a = some o → c.H a = some o
  nf : c.F c.dr = none
  dw : Drw c.n c.F (c.H c.dr)
  tb : LamX.Tabs c.T c.H
  nt : ∀ a ps, c.F a ≠ some (.tbl ps)
/-- nothing is at a, or a table of code objects -/
def No (c : Cf) (a : Addr) : Prop := ∀ o, c.H a = some o → ∃ ps, o = .tbl ps
theorem No.of {c : Cf} {a : Addr} (h : c.H a = none) : No c a := fun o e => by
  rw [h] at e
  cases e
theorem No.ne {c : Cf} {a : Addr} {o : HO} (h : No c a) (hz : ∀ ps, o ≠ .tbl ps) (e : c.H a = some o) : False := by
  obtain ⟨ps, z⟩ := h o e
  exact hz ps z
structure LeO (ow : Addr → Prop) (c c' : Cf) : Prop where
  dr : c'.dr = c.dr
  f : ∀ a o, c.F a = some o → c'.F a = some o
  h : ∀ a o, a ≠ c.dr → ¬ ow a → (∀ ps, o ≠ .tbl ps) → c.H a = some o → c'.H a = some o
  fr : ∀ a o, a ≠ c.dr → ¬ ow a → (∀ ps, o ≠ .tbl ps) → c.F a = none → c.H a = some o → c'.F a = none
  hd : ∀ a o, (∀ ps, o ≠ .tbl ps) → c.H a = some o → ∃ o', (∀ ps, o' ≠ .tbl ps) ∧ c'.H a = some o'
  T : c'.T = c.T
abbrev Le (c c' : Cf) : Prop := LeO (fun _ => False) c c'
theorem LeO.refl {ow : Addr → Prop} {c : Cf} : LeO ow c c := ⟨rfl, fun _ _ h => h, fun _ _ _ _ _ h => h, fun _ _ _ _ _ h _ => h, fun _ o hz h => ⟨o, hz, h⟩, rfl⟩
theorem No.back {ow : Addr → Prop} {c c1 : Cf} {a : Addr} (l : LeO ow c c1) (h : No c1 a) : No c a := fun o e => Classical.byContradiction fun n => by
  obtain ⟨o', hz, e'⟩ := l.hd a o (fun ps z => n ⟨ps, z⟩) e
  exact h.ne hz e'
theorem LeO.trans {ow ow1 : Addr → Prop} {c c1 c2 : Cf} (a : LeO ow c c1) (b : LeO ow1 c1 c2) (hs : ∀ x, ow1 x → ow x ∨ No c x) : LeO ow c c2 := by
  have no : ∀ x o, ¬ ow x → (∀ ps, o ≠ .tbl ps) → c.H x = some o → ¬ ow1 x := fun x o h1 hz h2 h3 => by
    rcases hs x h3 with z | z
    · exact h1 z
    · exact z.ne hz h2
  refine ⟨b.dr.trans a.dr, fun x o h => b.f x o (a.f x o h), fun x o h1 h2 h3 h4 => ?_, fun x o h1 h2 hz h3 h4 => ?_, fun x o hz h => ?_, b.T.trans a.T⟩
  · exact b.h x o (by rw [a.dr]; exact h1) (no x o h2 h3 h4) h3 (a.h x o h1 h2 h3 h4)
  · exact b.fr x o (by rw [a.dr]; exact h1) (no x o h2 hz h4) hz (a.fr x o h1 h2 hz h3 h4) (a.h x o h1 h2 hz h4)
  · obtain ⟨o', hz', h5⟩ := a.hd x o hz h
    exact b.hd x o' hz' h5
theorem Le.trans {c c1 c2 : Cf} (a : Le c c1) (b : Le c1 c2) : Le c c2 := LeO.trans a b fun _ h => h.elim
theorem LeO.of {ow : Addr → Prop} {c c1 : Cf} (a : Le c c1) : LeO ow c c1 := ⟨a.dr, a.f, fun x o h1 _ h3 => a.h x o h1 (fun z => z) h3, fun x o h1 _ h3 h4 => a.fr x o h1 (fun z => z) h3 h4, a.hd, a.T⟩
theorem LeO.thn {ow : Addr → Prop} {c c1 c2 : Cf} (a : LeO ow c c1) (b : Le c1 c2) : LeO ow c c2 := LeO.trans a b fun _ h => h.elim
theorem Le.thnO {ow : Addr → Prop} {c c1 c2 : Cf} (a : Le c c1) (b : LeO ow c1 c2) : LeO ow c c2 := LeO.trans (LeO.of a) b fun _ h => .inl h

abbrev RP (K : PySem.W.Frag) (c : Cf) (v : V) (d : D) : Prop := Rp K c.dr c.F v d
abbrev RPL (K : PySem.W.Frag) (c : Cf) (vs : List V) (ds : List D) : Prop := RpL K c.dr c.F vs ds
section
variable {K : PySem.W.Frag} {ow : Addr → Prop} {c c' : Cf}
theorem LeO.rp {v : V} {d : D} (l : LeO ow c c') (h : RP K c v d) : RP K c' v d := by
  have e := Rp.mono (K := K) (dr := c.dr) l.f d v h
  show Rp K c'.dr c'.F v d
  rw [l.dr]
  exact e
theorem LeO.rpl {vs : List V} {ds : List D} (l : LeO ow c c') (h : RPL K c vs ds) : RPL K c' vs ds := by
  have e := RpL.mono (K := K) (dr := c.dr) l.f ds vs h
  show RpL K c'.dr c'.F vs ds
  rw [l.dr]
  exact e
end
/-- readable now: frozen, or an owned list -/
inductive RB (K : PySem.W.Frag) (c : Cf) (v : V) (d : D) : Prop
  | fz (h : RP K c v d)
  | ow {p : Addr} {vs : List V} {xs : List D} (ev : v = .ref p) (ed : d = .lst xs) (h : c.H p = some (.lst vs)) (hf : c.F p = none) (hd : p ≠ c.dr) (r : RPL K c vs xs)
theorem RB.le {K : PySem.W.Frag} {c c' : Cf} {v : V} {d : D} (l : Le c c') (h : RB K c v d) : RB K c' v d := by
  cases h with
  | fz h => exact .fz (l.rp h)
  | ow ev ed h hf hd r => exact .ow ev ed (l.h _ _ hd (fun z => z) nofun h) (l.fr _ _ hd (fun z => z) (by intro _ z; cases z) hf h) (by rw [l.dr]; exact hd) (l.rpl r)

/-! ### slots -/
def SlOk (K : PySem.W.Frag) (c : Cf) (o : Option V) : Sl → Prop
  | .un => True
  | .cl cn => o = some (.ref (He.ga K cn))
  | .dt d => ∃ v, o = some v ∧ RP K c v d
  | .ow xs => ∃ p vs, o = some (.ref p) ∧ c.H p = some (.lst vs) ∧ c.F p = none ∧ p ≠ c.dr ∧ RPL K c vs xs
  | .ob p cn ns fs => ∃ dx vs, o = some (.ref p) ∧ c.H p = some (.ins (He.ga K cn) dx (ns.zip vs)) ∧ c.F p = none ∧ p ≠ c.dr ∧ ns.length = vs.length ∧ RPL K c vs fs
def Owned (σ : L2.St) (η : List Sl) (a : Addr) : Prop := ∃ (i : Nat) (s : Sl), η[i]? = some s ∧ s.isOw = true ∧ σ[i]? = some (some (V.ref a))
structure EnvOk (K : PySem.W.Frag) (c : Cf) (σ : L2.St) (η : List Sl) : Prop where
  len : σ.length = η.length
  sl : ∀ (i : Nat) s, η[i]? = some s → ∃ o, σ[i]? = some o ∧ SlOk K c o s
  inj : ∀ (i j : Nat) s t a, η[i]? = some s → η[j]? = some t → s.isOw = true → t.isOw = true → σ[i]? = some (some (V.ref a)) → σ[j]? = some (some (V.ref a)) → i = j
  T : c.T = TK K
section
variable {K : PySem.W.Frag} {c c' : Cf} {σ : L2.St} {η : List Sl}
theorem SlOk.le {o : Option V} {s : Sl} (l : Le c c') (h : SlOk K c o s) : SlOk K c' o s := by
  cases s with
  | un => trivial
  | cl _ => exact h
  | dt d =>
    obtain ⟨v, e, r⟩ := h
    exact ⟨v, e, l.rp r⟩
  | ow xs =>
    obtain ⟨p, vs, e, h1, h2, h3, r⟩ := h
    exact ⟨p, vs, e, l.h _ _ h3 (fun z => z) nofun h1, l.fr _ _ h3 (fun z => z) (by intro _ z; cases z) h2 h1, by rw [l.dr]; exact h3, l.rpl r⟩
  | ob p cn ns fs =>
    obtain ⟨dx, vs, e, h1, h2, h3, h4, r⟩ := h
    exact ⟨dx, vs, e, l.h _ _ h3 (fun z => z) nofun h1, l.fr _ _ h3 (fun z => z) (by intro _ z; cases z) h2 h1, by rw [l.dr]; exact h3, h4, l.rpl r⟩
theorem EnvOk.le (l : Le c c') (e : EnvOk K c σ η) : EnvOk K c' σ η := ⟨e.len, fun i s h => by
  obtain ⟨o, e1, e2⟩ := e.sl i s h
  exact ⟨o, e1, e2.le l⟩, e.inj, l.T.trans e.T⟩
/-- what an owned slot holds is in H, not frozen -/
theorem EnvOk.owned (e : EnvOk K c σ η) {a : Addr} (h : Owned σ η a) : (∃ o, (∀ ps, o ≠ .tbl ps) ∧ c.H a = some o) ∧ c.F a = none ∧ a ≠ c.dr := by
  obtain ⟨i, s, h1, hs, h2⟩ := h
  obtain ⟨o, e1, e2⟩ := e.sl i _ h1
  rw [h2] at e1
  cases e1
  cases s with
  | un => cases hs
  | cl _ => cases hs
  | dt d => cases hs
  | ow xs =>
    obtain ⟨p, vs, e2, e3, e4, e5, _⟩ := e2
    cases e2
    exact ⟨⟨_, (by intro _ z; cases z), e3⟩, e4, e5⟩
  | ob p cn ns fs =>
    obtain ⟨dx, vs, e2, e3, e4, e5, _⟩ := e2
    cases e2
    exact ⟨⟨_, (by intro _ z; cases z), e3⟩, e4, e5⟩
/-- a slot is stored by something that owns nothing -/
theorem EnvOk.put {i : Nat} {o : Option V} {s0 : Sl} (e : EnvOk K c σ η) (hn : s0.isOw = false) (r : SlOk K c o s0) : EnvOk K c (σ.set i o) (η.set i s0) := by
  have nn : ∀ (j : Nat) s, (η.set i s0)[j]? = some s → s.isOw = true → j ≠ i ∧ η[j]? = some s := fun j s h hs => by
    by_cases hj : j = i
    · subst hj
      have hl : j < η.length := by
        have := (List.getElem?_eq_some_iff.mp h).1
        simpa using this
      rw [List.getElem?_set_self hl] at h
      cases h
      rw [hn] at hs
      cases hs
    · rw [List.getElem?_set_ne (Ne.symm hj)] at h
      exact ⟨hj, h⟩
  refine ⟨by simp [e.len], fun j s h => ?_, fun j k s t a h1 h2 g1 g2 h3 h4 => ?_, e.T⟩
  · by_cases hj : j = i
    · subst hj
      have hl : j < η.length := by
        have := (List.getElem?_eq_some_iff.mp h).1
        simpa using this
      rw [List.getElem?_set_self hl] at h
      cases h
      exact ⟨o, List.getElem?_set_self (by rw [e.len]; exact hl), r⟩
    · rw [List.getElem?_set_ne (Ne.symm hj)] at h
      rw [List.getElem?_set_ne (Ne.symm hj)]
      exact e.sl j s h
  · obtain ⟨n1, q1⟩ := nn j s h1 g1
    obtain ⟨n2, q2⟩ := nn k t h2 g2
    rw [List.getElem?_set_ne (Ne.symm n1)] at h3
    rw [List.getElem?_set_ne (Ne.symm n2)] at h4
    exact e.inj j k s t a q1 q2 g1 g2 h3 h4
theorem owned_put {i : Nat} {o : Option V} {s0 : Sl} {a : Addr} (hn : s0.isOw = false) (h : Owned (σ.set i o) (η.set i s0) a) : Owned σ η a := by
  obtain ⟨j, s, h1, hs, h2⟩ := h
  by_cases hj : j = i
  · subst hj
    have hl : j < η.length := by
      have := (List.getElem?_eq_some_iff.mp h1).1
      simpa using this
    rw [List.getElem?_set_self hl] at h1
    cases h1
    rw [hn] at hs
    cases hs
  · rw [List.getElem?_set_ne (Ne.symm hj)] at h1 h2
    exact ⟨j, s, h1, hs, h2⟩
theorem EnvOk.set {i : Nat} {v : V} {d : D} (e : EnvOk K c σ η) (r : RP K c v d) : EnvOk K c (σ.set i (some v)) (η.set i (.dt d)) := e.put rfl ⟨v, rfl, r⟩
theorem owned_set {i : Nat} {v : V} {d : D} {a : Addr} (h : Owned (σ.set i (some v)) (η.set i (.dt d)) a) : Owned σ η a := owned_put rfl h
/-- a slot is forgotten -/
theorem EnvOk.unset {i : Nat} {o : Option V} (e : EnvOk K c σ η) : EnvOk K c (σ.set i o) (η.set i .un) := e.put rfl trivial
theorem owned_unset {i : Nat} {o : Option V} {a : Addr} (h : Owned (σ.set i o) (η.set i .un) a) : Owned σ η a := owned_put rfl h
/-- an owned slot's list -/
theorem EnvOk.ow {i : Nat} {xs : List D} (e : EnvOk K c σ η) (h : η[i]? = some (Sl.ow xs)) : ∃ p vs, σ[i]? = some (some (.ref p)) ∧ c.H p = some (.lst vs) ∧ c.F p = none ∧ p ≠ c.dr ∧ RPL K c vs xs := by
  obtain ⟨o, e1, p, vs, e2, e3⟩ := e.sl i _ h
  subst e2
  exact ⟨p, vs, e1, e3⟩
theorem EnvOk.ob {i : Nat} {p : Addr} {cn : Str} {ns : List Str} {fs : List D} (e : EnvOk K c σ η) (h : η[i]? = some (Sl.ob p cn ns fs)) : ∃ dx vs, σ[i]? = some (some (.ref p)) ∧ c.H p = some (.ins (He.ga K cn) dx (ns.zip vs)) ∧ c.F p = none ∧ p ≠ c.dr ∧ ns.length = vs.length ∧ RPL K c vs fs := by
  obtain ⟨o, e1, dx, vs, e2, e3⟩ := e.sl i _ h
  subst e2
  exact ⟨dx, vs, e1, e3⟩
theorem EnvOk.dt {i : Nat} {d : D} (e : EnvOk K c σ η) (h : η[i]? = some (Sl.dt d)) : ∃ v, σ[i]? = some (some v) ∧ RP K c v d := by
  obtain ⟨o, e1, v, e2, e3⟩ := e.sl i _ h
  subst e2
  exact ⟨v, e1, e3⟩
/-- a slot becomes an owner (or its object is changed) -/
theorem EnvOk.own {i : Nat} {p : Addr} {s0 : Sl} (e : EnvOk K c σ η) (hp : ∀ (j : Nat) t, j ≠ i → η[j]? = some t → t.isOw = true → σ[j]? ≠ some (some (V.ref p))) (r : SlOk K c (some (.ref p)) s0) :
    EnvOk K c (σ.set i (some (.ref p))) (η.set i s0) := by
  refine ⟨by simp [e.len], fun j s h => ?_, fun j k s t a h1 h2 g1 g2 h3 h4 => ?_, e.T⟩
  · by_cases hj : j = i
    · subst hj
      have hl : j < η.length := by
        have := (List.getElem?_eq_some_iff.mp h).1
        simpa using this
      rw [List.getElem?_set_self hl] at h
      cases h
      exact ⟨some (.ref p), List.getElem?_set_self (by rw [e.len]; exact hl), r⟩
    · rw [List.getElem?_set_ne (Ne.symm hj)] at h
      rw [List.getElem?_set_ne (Ne.symm hj)]
      exact e.sl j s h
  · have at_ : ∀ (m : Nat) u, (η.set i s0)[m]? = some u → u.isOw = true → (σ.set i (some (.ref p)))[m]? = some (some (.ref a)) → (m = i ∧ a = p) ∨ (m ≠ i ∧ η[m]? = some u ∧ σ[m]? = some (some (.ref a))) := fun m u q1 _ q2 => by
      by_cases hm : m = i
      · subst hm
        have hl : m < σ.length := by
          have := (List.getElem?_eq_some_iff.mp q2).1
          simpa using this
        rw [List.getElem?_set_self hl] at q2
        cases q2
        exact .inl ⟨rfl, rfl⟩
      · rw [List.getElem?_set_ne (Ne.symm hm)] at q1 q2
        exact .inr ⟨hm, q1, q2⟩
    rcases at_ j s h1 g1 h3 with ⟨j1, a1⟩ | ⟨j1, q1, q3⟩
    · rcases at_ k t h2 g2 h4 with ⟨k1, a2⟩ | ⟨k1, q2, q4⟩
      · rw [j1, k1]
      · rw [a1] at q4
        exact absurd q4 (hp k t k1 q2 g2)
    · rcases at_ k t h2 g2 h4 with ⟨k1, a2⟩ | ⟨k1, q2, q4⟩
      · rw [a2] at q3
        exact absurd q3 (hp j s j1 q1 g1)
      · exact e.inj j k s t a q1 q2 g1 g2 q3 q4
theorem owned_own {i : Nat} {p : Addr} {s0 : Sl} {a : Addr} (h : Owned (σ.set i (some (.ref p))) (η.set i s0) a) : Owned σ η a ∨ a = p := by
  obtain ⟨j, s, h1, hs, h2⟩ := h
  by_cases hj : j = i
  · subst hj
    have hl : j < σ.length := by
      have := (List.getElem?_eq_some_iff.mp h2).1
      simpa using this
    rw [List.getElem?_set_self hl] at h2
    cases h2
    exact .inr rfl
  · rw [List.getElem?_set_ne (Ne.symm hj)] at h1 h2
    exact .inl ⟨j, s, h1, hs, h2⟩
/-- another configuration in which one owned object, at p, is another; the slots that own others stand -/
theorem EnvOk.move {i : Nat} {p : Addr} {s1 s0 : Sl} (e : EnvOk K c σ η) (hi : η[i]? = some s1) (h1 : s1.isOw = true) (hp : σ[i]? = some (some (V.ref p))) (hT : c'.T = c.T) (hd : c'.dr = c.dr) (hF : ∀ a o, c.F a = some o → c'.F a = some o)
    (hH : ∀ a o, a ≠ p → c.H a = some o → c'.H a = some o) (hn : ∀ a, a ≠ p → c.F a = none → c'.F a = none) (r : SlOk K c' (some (.ref p)) s0) : EnvOk K c' σ (η.set i s0) := by
  have hl : i < η.length := (List.getElem?_eq_some_iff.mp hi).1
  have rpm : ∀ v d, RP K c v d → RP K c' v d := fun v d h => by
    have q := Rp.mono (K := K) (dr := c.dr) hF d v h
    show Rp K c'.dr c'.F v d
    rw [hd]
    exact q
  have rplm : ∀ v d, RPL K c v d → RPL K c' v d := fun v d h => by
    have q := RpL.mono (K := K) (dr := c.dr) hF d v h
    show RpL K c'.dr c'.F v d
    rw [hd]
    exact q
  have old : ∀ (j : Nat) s, j ≠ i → (η.set i s0)[j]? = some s → η[j]? = some s := fun j s hj h => by
    rw [List.getElem?_set_ne (Ne.symm hj)] at h
    exact h
  refine ⟨by simp [e.len], fun j s h => ?_, fun j k s t a q1 q2 g1 g2 q3 q4 => ?_, hT.trans e.T⟩
  · by_cases hj : j = i
    · subst hj
      rw [List.getElem?_set_self hl] at h
      cases h
      exact ⟨_, hp, r⟩
    · have h := old j s hj h
      obtain ⟨o, z1, z2⟩ := e.sl j s h
      refine ⟨o, z1, ?_⟩
      have nep : ∀ q, s.isOw = true → o = some (V.ref q) → q ≠ p := fun q hs hq z => by
        subst hq
        rw [z] at z1
        exact hj (e.inj j i s s1 p h hi hs h1 z1 hp)
      cases s with
      | un => trivial
      | cl _ => exact z2
      | dt d =>
        obtain ⟨v, q3, q4⟩ := z2
        exact ⟨v, q3, rpm _ _ q4⟩
      | ow ys =>
        obtain ⟨p', us, q3, q4, q5, q6, q7⟩ := z2
        have np := nep p' rfl q3
        exact ⟨p', us, q3, hH _ _ np q4, hn _ np q5, by rw [hd]; exact q6, rplm _ _ q7⟩
      | ob p' cn ns fs =>
        obtain ⟨dx, us, q3, q4, q5, q6, q7, q8⟩ := z2
        have np := nep p' rfl q3
        exact ⟨dx, us, q3, hH _ _ np q4, hn _ np q5, by rw [hd]; exact q6, q7, rplm _ _ q8⟩
  · have at_ : ∀ (m : Nat) u, (η.set i s0)[m]? = some u → ∃ u', η[m]? = some u' ∧ (u.isOw = true → m = i ∨ u'.isOw = true) ∧ (m = i → u' = s1) := fun m u q => by
      by_cases hm : m = i
      · subst hm
        exact ⟨s1, hi, fun _ => .inl rfl, fun _ => rfl⟩
      · exact ⟨u, old m u hm q, fun z => .inr z, fun z => absurd z hm⟩
    obtain ⟨s', w1, w2, w3⟩ := at_ j s q1
    obtain ⟨t', v1, v2, v3⟩ := at_ k t q2
    have o1 : s'.isOw = true := by
      rcases w2 g1 with z | z
      · rw [w3 z]
        exact h1
      · exact z
    have o2 : t'.isOw = true := by
      rcases v2 g2 with z | z
      · rw [v3 z]
        exact h1
      · exact z
    exact e.inj j k s' t' a w1 v1 o1 o2 q3 q4
theorem owned_move {i : Nat} {s1 s0 : Sl} {a : Addr} (hi : η[i]? = some s1) (h1 : s1.isOw = true) (h : Owned σ (η.set i s0) a) : Owned σ η a := by
  obtain ⟨j, s, z1, z2, z3⟩ := h
  by_cases hj : j = i
  · subst hj
    exact ⟨j, s1, hi, h1, z3⟩
  · rw [List.getElem?_set_ne (Ne.symm hj)] at z1
    exact ⟨j, s, z1, z2, z3⟩
end
end DL
set_option maxHeartbeats 2000000
namespace DL
open PySem PySem.Spec PyProof.Rows L2

/-! ### judgements at data level -/
abbrev Xn := D → Nat → Prop
abbrev WE := Xn → List Sl → Nat → (D → Nat → Prop) → Prop
abbrev WN := Xn → List Sl → Nat → (List D → Nat → Prop) → Prop
abbrev WT := Xn → List Sl → Nat → (Bool → Nat → Prop) → Prop
abbrev WA := Xn → List Sl → Nat → (List D → Nat → Prop) → Prop
structure Wk where
  nx : List Sl → Nat → Prop
  rt : D → Nat → Prop
  bk : List Sl → Nat → Prop := fun _ _ => False
  ct : List Sl → Nat → Prop := fun _ _ => False
abbrev WS := Xn → Wk → List Sl → Nat → Prop

/-- an exception as it lies -/
def XOk (K : PySem.W.Frag) (c : Cf) (cls : Value) (od : Option Addr) (d : D) : Prop := ∃ (k : Str) (ns : List Str) (fs : List D) (dd : Addr) (vs : List V), d = .ins k ns fs ∧ cls = .ref (He.ga K k) ∧ od = some dd ∧
  c.F dd = some (.xd (ns.zip vs)) ∧ ns.length = vs.length ∧ RPL K c vs fs
/-- the wish of exceptions -/
def XW (K : PySem.W.Frag) (E : XK) (x : Xn) (ow : Addr → Prop) (c : Cf) : Prop := ∀ d c' cls od, x d c'.n → c'.Ok → LeO ow c c' → XOk K c' cls od d → E cls od c'.H
theorem XW.le {K : PySem.W.Frag} {E : XK} {x : Xn} {ow : Addr → Prop} {c c1 : Cf} (h : XW K E x ow c) (l : Le c c1) : XW K E x ow c1 := fun d c' cls od hx ok l' r => h d c' cls od hx ok (l.thnO l') r
theorem XW.step {K : PySem.W.Frag} {E : XK} {x : Xn} {ow ow1 : Addr → Prop} {c c1 : Cf} (h : XW K E x ow c) (l : LeO ow c c1) (hs : ∀ a, ow1 a → ow a ∨ No c a) : XW K E x ow1 c1 := fun d c' cls od hx ok l' r => h d c' cls od hx ok (l.trans l' hs) r
theorem XW.none {K : PySem.W.Frag} {E : XK} {x : Xn} {ow : Addr → Prop} {c : Cf} (h : XW K E x ow c) : XW K E x (fun _ => False) c := fun d c' cls od hx ok l' r => h d c' cls od hx ok (LeO.of l') r

section
variable (K : PySem.W.Frag) (E : XK)
/-- the expression's reading: a frozen datum -/
def up (w : WE) : TE := fun σ H Q => ∃ c η R x, c.H = H ∧ c.Ok ∧ EnvOk K c σ η ∧ w x η c.n R ∧ (∀ d c' v, R d c'.n → c'.Ok → Le c c' → RP K c' v d → Q v c'.H) ∧ XW K E x (fun _ => False) c
/-- readable at once -/
def upB (w : WE) : TE := fun σ H Q => ∃ c η R x, c.H = H ∧ c.Ok ∧ EnvOk K c σ η ∧ w x η c.n R ∧ (∀ d c' v, R d c'.n → c'.Ok → Le c c' → RB K c' v d → Q v c'.H) ∧ XW K E x (fun _ => False) c
/-- a new list -/
def upN (w : WN) : TE := fun σ H Q => ∃ c η R x, c.H = H ∧ c.Ok ∧ EnvOk K c σ η ∧ w x η c.n R ∧
  (∀ xs c' p vs, R xs c'.n → c'.Ok → Le c c' → No c p → c'.F p = none → p ≠ c.dr → c'.H p = some (.lst vs) → RPL K c' vs xs → Q (.ref p) c'.H) ∧ XW K E x (fun _ => False) c
def upT (w : WT) : TT := fun σ H Q => ∃ c η R x, c.H = H ∧ c.Ok ∧ EnvOk K c σ η ∧ w x η c.n R ∧ (∀ b c', R b c'.n → c'.Ok → Le c c' → Q b c'.H) ∧ XW K E x (fun _ => False) c
def upA (w : WA) : TA := fun σ H Q => ∃ c η R x, c.H = H ∧ c.Ok ∧ EnvOk K c σ η ∧ w x η c.n R ∧ (∀ ds c' vs, R ds c'.n → c'.Ok → Le c c' → RPL K c' vs ds → Q vs c'.H) ∧ XW K E x (fun _ => False) c
/-- the same with readable arguments (a built-in's) -/
inductive RBL (K : PySem.W.Frag) (c : Cf) : List V → List D → Prop
  | nil : RBL K c [] []
  | cons {v : V} {vs : List V} {d : D} {ds : List D} : RB K c v d → RBL K c vs ds → RBL K c (v :: vs) (d :: ds)
def upAB (w : WA) : TA := fun σ H Q => ∃ c η R x, c.H = H ∧ c.Ok ∧ EnvOk K c σ η ∧ w x η c.n R ∧ (∀ ds c' vs, R ds c'.n → c'.Ok → Le c c' → RBL K c' vs ds → Q vs c'.H) ∧ XW K E x (fun _ => False) c
def upS (w : WS) : TS := fun D σ H => ∃ c η k x, c.H = H ∧ c.Ok ∧ EnvOk K c σ η ∧ w x k η c.n ∧
  (∀ η' c' σ', k.nx η' c'.n → c'.Ok → LeO (Owned σ η) c c' → (∀ a, Owned σ' η' a → Owned σ η a ∨ No c a) → EnvOk K c' σ' η' → D.nx σ' c'.H) ∧
  (∀ d c' v, k.rt d c'.n → c'.Ok → LeO (Owned σ η) c c' → RP K c' v d → D.rt v c'.H) ∧
  (∀ η' c' σ', k.bk η' c'.n → c'.Ok → LeO (Owned σ η) c c' → (∀ a, Owned σ' η' a → Owned σ η a ∨ No c a) → EnvOk K c' σ' η' → D.bk σ' c'.H) ∧
  (∀ η' c' σ', k.ct η' c'.n → c'.Ok → LeO (Owned σ η) c c' → (∀ a, Owned σ' η' a → Owned σ η a ∨ No c a) → EnvOk K c' σ' η' → D.ct σ' c'.H) ∧
  XW K E x (Owned σ η) c
end

/-! ### weakening -/
theorem pe_to {X : Cx} {e : Expr} {t t' : TE} (h : PE X e t) (i : ∀ σ H Q, t' σ H Q → t σ H Q) : PE X e t' := ⟨fun pins s σ H Q I q => h.run pins s σ H Q I (i σ H Q q)⟩
theorem pt_to {X : Cx} {e : Expr} {t t' : TT} (h : PT X e t) (i : ∀ σ H Q, t' σ H Q → t σ H Q) : PT X e t' := ⟨fun pins s σ H Q I q => h.run pins s σ H Q I (i σ H Q q)⟩
theorem pw_to {X : Cx} {e : Expr} {t t' : TT} (h : PW X e t) (i : ∀ σ H Q, t' σ H Q → t σ H Q) : PW X e t' := ⟨fun wh pins s σ H Q I q => h.run wh pins s σ H Q I (i σ H Q q)⟩
theorem pa_to {X : Cx} {e : List Expr} {t t' : TA} (h : PA X e t) (i : ∀ σ H Q, t' σ H Q → t σ H Q) : PA X e t' := ⟨fun pos pins s σ H Q I q => h.run pos pins s σ H Q I (i σ H Q q)⟩
theorem ps_to {X : Cx} {e : Stmt} {t t' : TS} (h : PS X e t) (i : ∀ D σ H, t' D σ H → t D σ H) : PS X e t' := ⟨fun pins s σ H D I q => h.run pins s σ H D I (i D σ H q)⟩
theorem pss_to {X : Cx} {e : List Stmt} {t t' : TS} (h : PSs X e t) (i : ∀ D σ H, t' D σ H → t D σ H) : PSs X e t' := ⟨fun pins s σ H D I q => h.run pins s σ H D I (i D σ H q)⟩

/-! ### a new object, frozen at once -/
theorem tabs_new {T : List (Addr × Str)} {H : Hp} {p : Addr} {o : HO} (t : LamX.Tabs T H) (hp : H p = none) : LamX.Tabs T (upd H p o) := t.ext fun b u e => by
  rw [upd_ne (ne_of_none e hp)]
  exact e
theorem upd_some {H : Hp} {p a : Addr} {o u : HO} (hu : ∀ ps, u ≠ .tbl ps) (hz : ∀ ps, o ≠ .tbl ps) (e : H a = some u) : ∃ u', (∀ ps, u' ≠ .tbl ps) ∧ upd H p o a = some u' := by
  by_cases h : a = p
  · subst h
    exact ⟨o, hz, upd_same⟩
  · exact ⟨u, hu, by rw [upd_ne h]; exact e⟩
theorem nt_upd {F : Hp} {p : Addr} {o : HO} (h : ∀ a ps, F a ≠ some (.tbl ps)) (hz : ∀ ps, o ≠ .tbl ps) : ∀ a ps, upd F p o a ≠ some (.tbl ps) := fun a ps e => by
  by_cases hb : a = p
  · subst hb
    rw [upd_same] at e
    exact hz ps (Option.some.inj e)
  · rw [upd_ne hb] at e
    exact h a ps e
/-- a tracked object that is no table and no code object is changed -/
theorem tabs_put {T : List (Addr × Str)} {H : Hp} {p : Addr} {o u : HO} (t : LamX.Tabs T H) (hp : H p = some o) (h1 : ∀ ps, o ≠ .tbl ps) (h2 : ∀ φ, o ≠ .ext φ) : LamX.Tabs T (upd H p u) := fun q hq => by
  obtain ⟨ps, e1, e2, e3⟩ := t q hq
  refine ⟨ps, ?_, e2, fun pos cv hc => ?_⟩
  · rw [upd_ne (fun z => by rw [z, hp] at e1; exact h1 ps (Option.some.inj e1))]
    exact e1
  · obtain ⟨c, e4, e5⟩ := e3 pos cv hc
    refine ⟨c, e4, ?_⟩
    rw [upd_ne (fun z => by rw [z, hp] at e5; exact h2 _ (Option.some.inj e5))]
    exact e5
theorem Drw.up {n : Nat} {F F' : Hp} {o : Option HO} (h : Drw n F o) (f : ∀ a u, F a = some u → F' a = some u) : Drw n F' o := by
  obtain ⟨ca, cells, a, l, u, e, e1, r⟩ := h
  exact ⟨ca, cells, a, l, u, e, f _ _ e1, r⟩
/-- a new object at p, frozen -/
theorem Cf.Ok.newF {c : Cf} {p : Addr} {o : HO} (ok : c.Ok) (hp : c.H p = none) (hz : ∀ ps, o ≠ .tbl ps := by exact nofun) : (⟨c.dr, upd c.F p o, upd c.H p o, c.n, c.T⟩ : Cf).Ok ∧ Le c ⟨c.dr, upd c.F p o, upd c.H p o, c.n, c.T⟩ := by
  have hdr : p ≠ c.dr := fun e => by
    obtain ⟨_, _, _, _, _, e1, _⟩ := ok.dw
    rw [← e, hp] at e1
    cases e1
  have hF : c.F p = none := by
    cases q : c.F p with
    | none => rfl
    | some u =>
      rw [ok.sub _ _ q] at hp
      cases hp
  have fs : ∀ a u, c.F a = some u → upd c.F p o a = some u := fun a u e => by
    rw [upd_ne (ne_of_none e hF)]
    exact e
  refine ⟨⟨fun a u e => ?_, ?_, ?_, tabs_new ok.tb hp, nt_upd ok.nt hz⟩, rfl, fs, fun a u _ _ _ e => ?_, fun a u _ _ _ h1 h2 => ?_, fun a u hu e => upd_some hu hz e, rfl⟩
  · by_cases h : a = p
    · subst h
      have e' : upd c.F a o a = some u := e
      rw [upd_same] at e'
      show upd c.H a o a = some u
      rw [upd_same]
      exact e'
    · have e' : upd c.F p o a = some u := e
      rw [upd_ne h] at e'
      show upd c.H p o a = some u
      rw [upd_ne h]
      exact ok.sub _ _ e'
  · show upd c.F p o c.dr = none
    rw [upd_ne (Ne.symm hdr)]
    exact ok.nf
  · show Drw c.n (upd c.F p o) (upd c.H p o c.dr)
    rw [upd_ne (Ne.symm hdr)]
    exact ok.dw.up fs
  · show upd c.H p o a = some u
    rw [upd_ne (ne_of_none e hp)]
    exact e
  · show upd c.F p o a = none
    rw [upd_ne (ne_of_none h2 hp)]
    exact h1
/-- a new object at p, not frozen -/
theorem Cf.Ok.newH {c : Cf} {p : Addr} {o : HO} (ok : c.Ok) (hp : c.H p = none) (hz : ∀ ps, o ≠ .tbl ps := by exact nofun) : (⟨c.dr, c.F, upd c.H p o, c.n, c.T⟩ : Cf).Ok ∧ Le c ⟨c.dr, c.F, upd c.H p o, c.n, c.T⟩ ∧ c.F p = none ∧ p ≠ c.dr := by
  have hdr : p ≠ c.dr := fun e => by
    obtain ⟨_, _, _, _, _, e1, _⟩ := ok.dw
    rw [← e, hp] at e1
    cases e1
  have hF : c.F p = none := by
    cases q : c.F p with
    | none => rfl
    | some u =>
      rw [ok.sub _ _ q] at hp
      cases hp
  refine ⟨⟨fun a u e => ?_, ok.nf, ?_, tabs_new ok.tb hp, ok.nt⟩, ⟨rfl, fun _ _ e => e, fun a u _ _ _ e => ?_, fun a u _ _ _ h1 _ => h1, fun a u hu e => upd_some hu hz e, rfl⟩, hF, hdr⟩
  · show upd c.H p o a = some u
    rw [upd_ne (ne_of_none e hF)]
    exact ok.sub _ _ e
  · show Drw c.n c.F (upd c.H p o c.dr)
    rw [upd_ne (Ne.symm hdr)]
    exact ok.dw
  · show upd c.H p o a = some u
    rw [upd_ne (ne_of_none e hp)]
    exact e
/-- an unfrozen list at p is frozen -/
theorem Cf.Ok.frz {c : Cf} {p : Addr} {o : HO} (ok : c.Ok) (hp : c.H p = some o) (hF : c.F p = none) (hdr : p ≠ c.dr) (hz : ∀ ps, o ≠ .tbl ps := by exact nofun) : (⟨c.dr, upd c.F p o, c.H, c.n, c.T⟩ : Cf).Ok ∧ LeO (fun a => a = p) c ⟨c.dr, upd c.F p o, c.H, c.n, c.T⟩ := by
  have fs : ∀ a u, c.F a = some u → upd c.F p o a = some u := fun a u e => by
    rw [upd_ne (ne_of_none e hF)]
    exact e
  refine ⟨⟨fun a u e => ?_, ?_, ok.dw.up fs, ok.tb, nt_upd ok.nt hz⟩, rfl, fs, fun a u _ _ _ e => e, fun a u _ hn _ h1 h2 => ?_, fun a u hu e => ⟨u, hu, e⟩, rfl⟩
  · by_cases h : a = p
    · subst h
      have e' : upd c.F a o a = some u := e
      rw [upd_same] at e'
      exact hp.trans e'
    · have e' : upd c.F p o a = some u := e
      rw [upd_ne h] at e'
      exact ok.sub _ _ e'
  · show upd c.F p o c.dr = none
    rw [upd_ne (Ne.symm hdr)]
    exact ok.nf
  · show upd c.F p o a = none
    rw [upd_ne hn]
    exact h1

/-! ### from mode to mode -/
section
variable {X : Cx} {E : XK} {e : Expr}
/-- frozen is readable -/
theorem qb {w : WE} (h : PE X e (up X.K E w)) : PE X e (upB X.K E w) := pe_to h fun σ H Q q => by
  obtain ⟨c, η, R, x, e1, ok, en, hw, hr, hx⟩ := q
  exact ⟨c, η, R, x, e1, ok, en, hw, fun d c' v r o l p => hr d c' v r o l (.fz p), hx⟩
/-- a new list is frozen -/
def eFz (w : WN) : WE := fun x η n R => w x η n fun xs n' => R (.lst xs) n'
theorem fz_up {K : PySem.W.Frag} {w : WN} : ∀ σ H Q, up K E (eFz w) σ H Q → upN K E w σ H Q := fun σ H Q q => by
  obtain ⟨c, η, R, x, e1, ok, en, hw, hr, hx⟩ := q
  refine ⟨c, η, fun xs n' => R (.lst xs) n', x, e1, ok, en, hw, fun xs c' p vs r o l hp hF hd hH rp => ?_, hx⟩
  have hd' : p ≠ c'.dr := by rw [l.dr]; exact hd
  obtain ⟨ok2, l2⟩ := o.frz hH hF hd'
  refine hr (.lst xs) ⟨c'.dr, upd c'.F p (.lst vs), c'.H, c'.n, c'.T⟩ (.ref p) r ok2 ?_ ?_
  · refine ⟨l.dr, fun a u q => l2.f a u (l.f a u q), fun a u h1 h2 h3 => l.h a u h1 h2 h3, fun a u h1 h2 hz h3 h4 => ?_, l.hd, l.T⟩
    show upd c'.F p (.lst vs) a = none
    rw [upd_ne (fun z => hp.ne hz (by rw [← z]; exact h4))]
    exact l.fr a u h1 h2 hz h3 h4
  · exact .lst upd_same (l2.rpl rp)
theorem qf {w : WN} (h : PE X e (upN X.K E w)) : PE X e (up X.K E (eFz w)) := pe_to h fz_up
theorem qbf {w : WN} (h : PE X e (upN X.K E w)) : PE X e (upB X.K E (eFz w)) := qb (qf h)

/-! ### names, constants -/
def dtS : Option Sl → (D → Prop) → Prop
  | some (.dt d), k => k d
  | _, _ => False
def eVar (i : Nat) : WE := fun _ η n R => dtS η[i]? fun d => R d n
/-- a slot that is read: frozen or owned -/
def rdS : Option Sl → (D → Prop) → Prop
  | some (.dt d), k => k d
  | some (.ow xs), k => k (.lst xs)
  | _, _ => False
def eVarB (i : Nat) : WE := fun _ η n R => rdS η[i]? fun d => R d n
def eC (d : D) : WE := fun _ _ n R => R d n
theorem q_v {x : Str} {pos : Pos} (i : Nat) (h : PE X (.Name x pos) (tVar i)) : PE X (.Name x pos) (up X.K E (eVar i)) := pe_to h fun σ H Q q => by
  obtain ⟨c, η, R, x, e1, ok, en, hw, hr, hx⟩ := q
  unfold eVar at hw
  cases hs : η[i]? with
  | none =>
    rw [hs] at hw
    exact hw.elim
  | some s =>
    rw [hs] at hw
    cases s with
    | un => exact hw.elim
    | cl _ => exact hw.elim
    | ow xs => exact hw.elim
    | ob _ _ _ _ => exact hw.elim
    | dt d =>
      obtain ⟨v, e2, rp⟩ := en.dt hs
      refine ⟨v, e2, ?_⟩
      rw [← e1]
      exact hr d c v hw ok .refl rp
theorem qb_v {x : Str} {pos : Pos} (i : Nat) (h : PE X (.Name x pos) (tVar i)) : PE X (.Name x pos) (upB X.K E (eVarB i)) := pe_to h fun σ H Q q => by
  obtain ⟨c, η, R, x, e1, ok, en, hw, hr, hx⟩ := q
  unfold eVarB at hw
  cases hs : η[i]? with
  | none =>
    rw [hs] at hw
    exact hw.elim
  | some s =>
    rw [hs] at hw
    cases s with
    | un => exact hw.elim
    | cl _ => exact hw.elim
    | ob _ _ _ _ => exact hw.elim
    | dt d =>
      obtain ⟨v, e2, rp⟩ := en.dt hs
      refine ⟨v, e2, ?_⟩
      rw [← e1]
      exact hr d c v hw ok .refl (.fz rp)
    | ow xs =>
      obtain ⟨p, vs, e2, h1, h2, h3, rp⟩ := en.ow hs
      refine ⟨.ref p, e2, ?_⟩
      rw [← e1]
      exact hr (.lst xs) c _ hw ok .refl (.ow rfl rfl h1 h2 h3 rp)
theorem q_c {v : V} {d : D} (h : PE X e (tC v)) (r : ∀ dr F, Rp X.K dr F v d) : PE X e (up X.K E (eC d)) := pe_to h fun σ H Q q => by
  obtain ⟨c, η, R, x, e1, ok, en, hw, hr, hx⟩ := q
  show Q v H
  rw [← e1]
  exact hr d c v hw ok .refl (r _ _)
theorem q_int {i : Int} {j pos} : PE X (.Constant (.int i) j pos) (up X.K E (eC (.int i))) := q_c pe_int fun _ _ => .int i
theorem q_bl {b : Bool} {j pos} : PE X (.Constant (.bool b) j pos) (up X.K E (eC (.bl b))) := q_c pe_bl fun _ _ => .bl b
theorem q_non {j pos} : PE X (.Constant .none j pos) (up X.K E (eC .non)) := q_c pe_non fun _ _ => .non
theorem q_str {x : Str} {j pos} : PE X (.Constant (.str x) j pos) (up X.K E (eC (.str x))) := q_c pe_str fun _ _ => .str x

/-! ### two operands, by values -/
abbrev O2 := D → D → (D → Prop) → Prop
def eBin (o : O2) (wa wb : WE) : WE := fun x η n R => wa x η n fun a n1 => wb x η n1 fun b n2 => o a b fun d => R d n2
/-- what an operation does on data, over a reading r of the layer -/
def OpD (X : Cx) (r : R2) (o : O2) : Prop := ∀ (c : Cf) (v u : V) (a b : D) (k : D → Prop) (Q : VK), c.Ok → c.T = TK X.K → RB X.K c v a → RB X.K c u b → o a b k →
  (∀ d c' z, k d → c'.n = c.n → c'.Ok → Le c c' → RP X.K c' z d → Q z c'.H) → r v u c.H Q
theorem bin_up {wa wb : WE} {r : R2} {o : O2} (h : OpD X r o) : ∀ σ H Q, up X.K E (eBin o wa wb) σ H Q → tOp r (upB X.K E wa) (upB X.K E wb) σ H Q := fun σ H Q q => by
  obtain ⟨c, η, R, x, e1, ok, en, hw, hr, hx⟩ := q
  refine ⟨c, η, _, x, e1, ok, en, hw, fun a c1 v h1 ok1 l1 r1 => ?_, hx⟩
  refine ⟨c1, η, _, x, rfl, ok1, en.le l1, h1, fun b c2 u h2 ok2 l2 r2 => ?_, hx.le l1⟩
  exact h c2 v u a b _ Q ok2 ((l1.trans l2).T.trans en.T) (r1.le l2) r2 h2 fun d c3 z hk hn ok3 l3 r3 => hr d c3 z (by rw [hn]; exact hk) ok3 ((l1.trans l2).trans l3) r3
theorem q_op {a b : Expr} {pos : Pos} {op : Operator} {wa wb : WE} {r : R2} {o : O2} (ho : OpR X (binaryOp op) r) (h : OpD X r o) (ha : PE X a (upB X.K E wa)) (hb : PE X b (upB X.K E wb)) : PE X (.BinOp a op b pos) (up X.K E (eBin o wa wb)) :=
  pe_to (pe_op ho ha hb) (bin_up h)
theorem q_cmp {a b : Expr} {pos : Pos} {op : CmpOp} {wa wb : WE} {r : R2} {o : O2} (ho : OpR X (compareOp op) r) (h : OpD X r o) (ha : PE X a (upB X.K E wa)) (hb : PE X b (upB X.K E wb)) (hm : behindInMarks op b = false) : PE X (.Compare a [op] [b] pos) (up X.K E (eBin o wa wb)) :=
  pe_to (pe_cmpR ho ha hb hm) (bin_up h)
theorem q_ix {a b : Expr} {pos : Pos} {wa wb : WE} {r : R2} {o : O2} (ho : IxR X r) (h : OpD X r o) (ha : PE X a (upB X.K E wa)) (hb : PE X b (upB X.K E wb)) (hs : PlainIx b := by exact fun _ _ => rfl) : PE X (.Subscript a b pos) (up X.K E (eBin o wa wb)) :=
  pe_to (pe_ix ho ha hb hs) (bin_up h)
end
end DL
set_option maxHeartbeats 2000000
namespace DL
open PySem PySem.Spec PyProof.Rows L2

/-! ### plain data -/
mutual
def py : D → PyData
  | .non => .none
  | .bl b => .bool b
  | .int i => .int i
  | .str x => .str x
  | .tup xs => .tuple (pyL xs)
  | .lst xs => .list (pyL xs)
  | .ins _ _ _ => .dict []
  | .drw => .dict []
  | .dct _ _ => .dict []
def pyL : List D → List PyData
  | [] => []
  | d :: ds => py d :: pyL ds
end
def Lay (d : D) : Prop := SeqAt.shaped (py d) = true
def deq (a b : D) : Bool := PyData.eqv (py a) (py b)
mutual
/-- no instance, no draws within -/
def plainD : D → Bool
  | .ins _ _ _ => false
  | .drw => false
  | .dct _ _ => false
  | .tup xs => plainL xs
  | .lst xs => plainL xs
  | _ => true
def plainL : List D → Bool
  | [] => true
  | d :: ds => plainD d && plainL ds
end
mutual
theorem plainD_of : ∀ d : D, (py d).canLay0 = true → plainD d = true
  | .non, _ => rfl
  | .bl _, _ => rfl
  | .int _, _ => rfl
  | .str _, _ => rfl
  | .tup xs, h => plainL_of xs h
  | .lst xs, h => plainL_of xs h
  | .ins _ _ _, h => by cases h
  | .drw, h => by cases h
  | .dct _ _, h => by cases h
theorem plainL_of : ∀ ds : List D, PyData.canLayAll0 (pyL ds) = true → plainL ds = true
  | [], _ => rfl
  | d :: ds, h => by
    have h' : ((py d).canLay0 && PyData.canLayAll0 (pyL ds)) = true := h
    rw [Bool.and_eq_true] at h'
    show (plainD d && plainL ds) = true
    rw [plainD_of d h'.1, plainL_of ds h'.2]
    rfl
end
theorem Lay.plainD {d : D} (h : Lay d) : plainD d = true := plainD_of d (SeqAt.canLay_of_shaped h)
section
variable {K : PySem.W.Frag} {dr : Addr} {F H : Hp}
mutual
theorem Rp.dp (hs : ∀ a o, F a = some o → H a = some o) : ∀ (d : D) (v : V), plainD d = true → Rp K dr F v d → Dp K H v (py d)
  | .non, _, _, q => by cases q; exact .non
  | .bl b, _, _, q => by cases q; exact .bl b
  | .int i, _, _, q => by cases q; exact .int i
  | .str x, _, _, q => by cases q; exact .str x
  | .tup ds, _, hp, q => by
    cases q with
    | tup e r => exact .tup (SqT.of (hs _ _ e)) (RpL.dp hs ds _ hp r)
  | .lst ds, _, hp, q => by
    cases q with
    | lst e r => exact .lst (SqL.of (hs _ _ e)) (RpL.dp hs ds _ hp r)
  | .ins _ _ _, _, hp, _ => by cases hp
  | .drw, _, hp, _ => by cases hp
  | .dct _ _, _, hp, _ => by cases hp
theorem RpL.dp (hs : ∀ a o, F a = some o → H a = some o) : ∀ (ds : List D) (vs : List V), plainL ds = true → RpL K dr F vs ds → DpAll K H vs (pyL ds)
  | [], _, _, q => by cases q; exact .nil
  | d :: ds, _, hp, q => by
    cases q with
    | cons r t =>
      have hp' : (plainD d && plainL ds) = true := hp
      rw [Bool.and_eq_true] at hp'
      exact .cons (Rp.dp hs d _ hp'.1 r) (RpL.dp hs ds _ hp'.2 t)
end
end
theorem RB.dp {K : PySem.W.Frag} {c : Cf} {v : V} {d : D} (ok : c.Ok) (h : RB K c v d) (hp : plainD d = true) : Dp K c.H v (py d) := by
  cases h with
  | fz h => exact Rp.dp ok.sub d v hp h
  | ow ev ed h hf hd r =>
    subst ev ed
    exact .lst (SqL.of h) (RpL.dp ok.sub _ _ hp r)
/-- a readable list, tuple -/
theorem RB.lst {K : PySem.W.Frag} {c : Cf} {v : V} {xs : List D} (ok : c.Ok) (h : RB K c v (.lst xs)) : ∃ p vs, v = .ref p ∧ c.H p = some (.lst vs) ∧ RPL K c vs xs := by
  cases h with
  | fz h =>
    cases h with
    | lst e r => exact ⟨_, _, rfl, ok.sub _ _ e, r⟩
  | ow ev ed h hf hd r =>
    cases ed
    exact ⟨_, _, ev, h, r⟩
theorem RB.tup {K : PySem.W.Frag} {c : Cf} {v : V} {xs : List D} (ok : c.Ok) (h : RB K c v (.tup xs)) : ∃ p vs, v = .ref p ∧ c.F p = some (.tup vs) ∧ c.H p = some (.tup vs) ∧ RPL K c vs xs := by
  cases h with
  | fz h =>
    cases h with
    | tup e r => exact ⟨_, _, rfl, e, ok.sub _ _ e, r⟩
  | ow ev ed h hf hd r => cases ed
theorem RB.int {K : PySem.W.Frag} {c : Cf} {v : V} {i : Int} (h : RB K c v (.int i)) : v = .int i := by
  cases h with
  | fz h => cases h; rfl
  | ow ev ed h hf hd r => cases ed
theorem RB.str {K : PySem.W.Frag} {c : Cf} {v : V} {i : Str} (h : RB K c v (.str i)) : v = .str i := by
  cases h with
  | fz h => cases h; rfl
  | ow ev ed h hf hd r => cases ed
theorem RB.bl {K : PySem.W.Frag} {c : Cf} {v : V} {i : Bool} (h : RB K c v (.bl i)) : v = .bl i := by
  cases h with
  | fz h => cases h; rfl
  | ow ev ed h hf hd r => cases ed
theorem RB.non {K : PySem.W.Frag} {c : Cf} {v : V} (h : RB K c v .non) : v = .non := by
  cases h with
  | fz h => cases h; rfl
  | ow ev ed h hf hd r => cases ed

/-! ### operators on data -/
def MulOk (i j : Int) : Prop := CMul i j ∨ ((-(2 ^ 250) < i ∧ i < 2 ^ 250) ∧ (-(2 ^ 250) < j ∧ j < 2 ^ 250))
def DivOk (j : Int) : Prop := 0 < j ∧ j < 2 ^ 250
theorem natAbs250 {i : Int} (h : -(2 ^ 250) < i ∧ i < 2 ^ 250) : i.natAbs < 2 ^ 250 := by
  have e : ((2 : Int) ^ 250) = ((2 ^ 250 : Nat) : Int) := by norm_cast
  rw [e] at h
  omega
theorem MulOk.w {i j : Int} (h : MulOk i j) : CMul i j ∨ CMulW i j := by
  rcases h with h | ⟨h1, h2⟩
  · exact .inl h
  · exact .inr (wide_mul (natAbs250 h1) (natAbs250 h2) (by decide) (by decide) (by decide))
theorem DivOk.w {i j : Int} (h : DivOk j) : CDivW i j := wide_div (b := 250) h.1 (natAbs250 ⟨by have := h.1; omega, h.2⟩) (by decide) (by decide)
/-- two ints under a condition -/
def oI (C : Int → Int → Prop) (g : Int → Int → D) : O2 := fun a b k => match a, b with
  | .int i, .int j => C i j ∧ k (g i j)
  | _, _ => False
def oI0 (g : Int → Int → D) : O2 := fun a b k => match a, b with
  | .int i, .int j => k (g i j)
  | _, _ => False
def oAdd : O2 := fun a b k => match a, b with
  | .int i, .int j => k (.int (i + j))
  | .str x, .str y => x.length + y.length ≤ sizeLine ∧ k (.str (x ++ y))
  | .tup x, .tup y => x.length + y.length ≤ sizeLine ∧ k (.tup (x ++ y))
  | .lst x, .lst y => x.length + y.length ≤ sizeLine ∧ k (.lst (x ++ y))
  | _, _ => False
def oSub : O2 := oI0 fun i j => .int (i - j)
def oMul : O2 := oI MulOk fun i j => .int (i * j)
def oDiv : O2 := oI (fun _ j => DivOk j) fun i j => .int (i / j)
def oMod : O2 := oI (fun _ j => 0 < j) fun i j => .int (i % j)
def oPow : O2 := oI (fun i j => 0 ≤ j ∧ j ≤ 1000000 ∧ -(2 ^ 64) < i ∧ i < 2 ^ 64) fun i j => .int (i ^ j.toNat)
section
variable {X : Cx}
theorem rp_new_tup {K : PySem.W.Frag} {c : Cf} {p : Addr} {vs : List V} {ds : List D} (ok : c.Ok) (hp : c.H p = none) (r : RPL K c vs ds) {Q : VK} {k : D → Prop} (hk : k (.tup ds))
    (hQ : ∀ d c' z, k d → c'.n = c.n → c'.Ok → Le c c' → RP K c' z d → Q z c'.H) : Q (.ref p) (upd c.H p (.tup vs)) := by
  obtain ⟨ok2, l2⟩ := ok.newF (o := .tup vs) hp
  exact hQ _ ⟨c.dr, upd c.F p (.tup vs), upd c.H p (.tup vs), c.n, c.T⟩ _ hk rfl ok2 l2 (.tup upd_same (l2.rpl r))
theorem rp_new_lst {K : PySem.W.Frag} {c : Cf} {p : Addr} {vs : List V} {ds : List D} (ok : c.Ok) (hp : c.H p = none) (r : RPL K c vs ds) {Q : VK} {k : D → Prop} (hk : k (.lst ds))
    (hQ : ∀ d c' z, k d → c'.n = c.n → c'.Ok → Le c c' → RP K c' z d → Q z c'.H) : Q (.ref p) (upd c.H p (.lst vs)) := by
  obtain ⟨ok2, l2⟩ := ok.newF (o := .lst vs) hp
  exact hQ _ ⟨c.dr, upd c.F p (.lst vs), upd c.H p (.lst vs), c.n, c.T⟩ _ hk rfl ok2 l2 (.lst upd_same (l2.rpl r))
theorem opd_I {C : Int → Int → Prop} {g : Int → Int → D} {gv : Int → Int → V} (hg : ∀ i j dr F, Rp X.K dr F (gv i j) (g i j)) : OpD X (rI C gv) (oI C g) := by
  intro c v u a b k Q ok hT ra rb h hQ
  cases a <;> cases b <;> first | exact h.elim | skip
  obtain ⟨hc, hk⟩ := h
  exact ⟨_, _, ra.int, rb.int, hc, hQ _ c _ hk rfl ok .refl (hg _ _ _ _)⟩
theorem opd_I0 {g : Int → Int → D} {gv : Int → Int → V} (hg : ∀ i j dr F, Rp X.K dr F (gv i j) (g i j)) : OpD X (rI0 gv) (oI0 g) := by
  intro c v u a b k Q ok hT ra rb h hQ
  cases a <;> cases b <;> first | exact h.elim | skip
  exact ⟨_, _, ra.int, rb.int, hQ _ c _ h rfl ok .refl (hg _ _ _ _)⟩
def rStr2 : R2 := fun x y H Q => ∃ i j, x = .str i ∧ y = .str j ∧ i.length + j.length ≤ sizeLine ∧ Q (.str (i ++ j)) H
def rAddU (K : PySem.W.Frag) : R2 := fun x y H Q => (rI0 (fun i j => .int (i + j)) x y H Q ∨ rStr2 x y H Q) ∨ rCatA K x y H Q ∨ rCat x y H Q
theorem op_addU : OpR X (binaryOp .Add) (rAddU X.K) := (op_add.or op_add_str).or (op_catA.or op_cat)
theorem opd_add : OpD X (rAddU X.K) oAdd := by
  intro c v u a b k Q ok hT ra rb h hQ
  cases a <;> cases b <;> first | exact h.elim | skip
  · exact .inl (.inl ⟨_, _, ra.int, rb.int, hQ _ c _ h rfl ok .refl (.int _)⟩)
  · exact .inl (.inr ⟨_, _, ra.str, rb.str, h.1, hQ _ c _ h.2 rfl ok .refl (.str _)⟩)
  · obtain ⟨p, vs, e1, f1, h1, r1⟩ := ra.tup ok
    obtain ⟨q, us, e2, f2, h2, r2⟩ := rb.tup ok
    rename_i xs ys
    obtain ⟨hl, hk⟩ := h
    refine .inr (.inl ⟨p, q, vs, us, e1, e2, .of h1, .of h2, by rw [r1.length, r2.length]; exact hl, fun e => ?_, fun n1 e => ?_, fun n1 n2 t ht => ?_⟩)
    · subst e
      have ex : xs = [] := by
        have := r1.length
        cases xs with
        | nil => rfl
        | cons _ _ => cases this
      subst ex
      exact hQ _ c _ hk rfl ok .refl (.tup f2 r2)
    · subst e
      have ex : ys = [] := by
        have := r2.length
        cases ys with
        | nil => rfl
        | cons _ _ => cases this
      subst ex
      rw [List.append_nil] at hk
      exact hQ _ c _ hk rfl ok .refl (.tup f1 r1)
    · exact rp_new_tup ok ht (r1.append r2) hk hQ
  · obtain ⟨p, vs, e1, h1, r1⟩ := ra.lst ok
    obtain ⟨q, us, e2, h2, r2⟩ := rb.lst ok
    obtain ⟨hl, hk⟩ := h
    exact .inr (.inr ⟨p, q, vs, us, e1, e2, h1, h2, by rw [r1.length, r2.length]; exact hl, fun t ht => rp_new_lst ok ht (r1.append r2) hk hQ⟩)
theorem opd_sub : OpD X (rI0 fun i j => .int (i - j)) oSub := opd_I0 fun _ _ _ _ => .int _
def rMulU : R2 := fun x y H Q => rI CMul (fun i j => .int (i * j)) x y H Q ∨ rI CMulW (fun i j => .int (i * j)) x y H Q
theorem op_mulU : OpR X (binaryOp .Mult) rMulU := op_mul.or op_mulW
theorem opd_mul : OpD X rMulU oMul := by
  intro c v u a b k Q ok hT ra rb h hQ
  cases a <;> cases b <;> first | exact h.elim | skip
  obtain ⟨hc, hk⟩ := h
  rcases hc.w with hc | hc
  · exact .inl ⟨_, _, ra.int, rb.int, hc, hQ _ c _ hk rfl ok .refl (.int _)⟩
  · exact .inr ⟨_, _, ra.int, rb.int, hc, hQ _ c _ hk rfl ok .refl (.int _)⟩
theorem opd_div : OpD X (rI CDivW fun i j => .int (i / j)) oDiv := by
  intro c v u a b k Q ok hT ra rb h hQ
  cases a <;> cases b <;> first | exact h.elim | skip
  obtain ⟨hc, hk⟩ := h
  exact ⟨_, _, ra.int, rb.int, hc.w, hQ _ c _ hk rfl ok .refl (.int _)⟩
theorem opd_mod : OpD X (rI (fun _ j => 0 < j) fun i j => .int (i % j)) oMod := opd_I fun _ _ _ _ => .int _
theorem opd_pow : OpD X (rI CPow fun i j => .int (i ^ j.toNat)) oPow := by
  intro c v u a b k Q ok hT ra rb h hQ
  cases a <;> cases b <;> first | exact h.elim | skip
  obtain ⟨⟨h1, h2, h3, h4⟩, hk⟩ := h
  refine ⟨_, _, ra.int, rb.int, ⟨h1, h2, ?_⟩, hQ _ c _ hk rfl ok .refl (.int _)⟩
  have e : ((2 : Int) ^ 64) = ((2 ^ 64 : Nat) : Int) := by norm_cast
  rw [e] at h3 h4
  omega

/-! comparisons -/
def intsOf : List D → Option (List Int)
  | [] => some []
  | .int i :: r => (intsOf r).map (i :: ·)
  | _ => none
theorem intsOf_eq : ∀ {ds : List D} {ns : List Int}, intsOf ds = some ns → ds = ns.map D.int
  | [], ns, h => by cases h; rfl
  | d :: ds, ns, h => by
    cases d <;> first | cases h | skip
    rename_i i
    have h' : (intsOf ds).map (i :: ·) = some ns := h
    cases e : intsOf ds with
    | none =>
      rw [e] at h'
      cases h'
    | some ms =>
      rw [e] at h'
      cases h'
      rw [intsOf_eq e]
      rfl
def oLt : O2 := fun a b k => match a, b with
  | .int i, .int j => k (.bl (decide (i < j)))
  | .str x, .str y => k (.bl (decide (x.cps.toList < y.cps.toList)))
  | .tup x, .tup y => ∃ ns ms, intsOf x = some ns ∧ intsOf y = some ms ∧ k (.bl (HT.lexLt ns ms))
  | _, _ => False
def oLe : O2 := oI0 fun i j => .bl (decide (i ≤ j))
def oGt : O2 := oI0 fun i j => .bl (decide (j < i))
def oGe : O2 := oI0 fun i j => .bl (decide (j ≤ i))
def rStrLt : R2 := fun x y H Q => ∃ i j, x = .str i ∧ y = .str j ∧ Q (.bl (decide (i.cps.toList < j.cps.toList))) H
def rLtU (K : PySem.W.Frag) : R2 := fun x y H Q => rI0 (fun i j => .bl (decide (i < j))) x y H Q ∨ rStrLt x y H Q ∨ rLtT K x y H Q
theorem op_ltU (hu : X.A.units < cLine) : OpR X (compareOp .Lt) (rLtU X.K) := op_lt.or (op_lt_str.or (op_ltT hu))
theorem opd_lt : OpD X (rLtU X.K) oLt := by
  intro c v u a b k Q ok hT ra rb h hQ
  cases a <;> cases b <;> first | exact h.elim | skip
  · exact .inl ⟨_, _, ra.int, rb.int, hQ _ c _ h rfl ok .refl (.bl _)⟩
  · exact .inr (.inl ⟨_, _, ra.str, rb.str, hQ _ c _ h rfl ok .refl (.bl _)⟩)
  · obtain ⟨ns, ms, i1, i2, hk⟩ := h
    obtain ⟨p, vs, e1, f1, h1, r1⟩ := ra.tup ok
    obtain ⟨q, us, e2, f2, h2, r2⟩ := rb.tup ok
    rw [intsOf_eq i1] at r1
    rw [intsOf_eq i2] at r2
    refine .inr (.inr ⟨p, q, ns, ms, e1, e2, .of (by rw [h1, r1.ints]), .of (by rw [h2, r2.ints]), hQ _ c _ hk rfl ok .refl (.bl _)⟩)
theorem opd_le : OpD X (rI0 fun i j => .bl (decide (i ≤ j))) oLe := opd_I0 fun _ _ _ _ => .bl _
theorem opd_gt : OpD X (rI0 fun i j => .bl (decide (j < i))) oGt := opd_I0 fun _ _ _ _ => .bl _
theorem opd_ge : OpD X (rI0 fun i j => .bl (decide (j ≤ i))) oGe := opd_I0 fun _ _ _ _ => .bl _
def oEq : O2 := fun a b k => Lay a ∧ Lay b ∧ k (.bl (deq a b))
def oNe : O2 := fun a b k => Lay a ∧ Lay b ∧ k (.bl (!deq a b))
theorem opd_eq : OpD X (rEqD X.K) oEq := by
  intro c v u a b k Q ok hT ra rb h hQ
  obtain ⟨h1, h2, hk⟩ := h
  exact ⟨py a, py b, ra.dp ok h1.plainD, rb.dp ok h2.plainD, h1, h2, hQ _ c _ hk rfl ok .refl (.bl _)⟩
theorem opd_ne : OpD X (rNeD X.K) oNe := by
  intro c v u a b k Q ok hT ra rb h hQ
  obtain ⟨h1, h2, hk⟩ := h
  exact ⟨py a, py b, ra.dp ok h1.plainD, rb.dp ok h2.plainD, h1, h2, hQ _ c _ hk rfl ok .refl (.bl _)⟩
/-- in: a list, a tuple of plain data -/
def dIn (a : D) (xs : List D) : Bool := xs.any fun z => deq z a
def oIn : O2 := fun a b k => match b with
  | .lst xs => Lay a ∧ Lay (.lst xs) ∧ k (.bl (dIn a xs))
  | .tup xs => Lay a ∧ Lay (.tup xs) ∧ k (.bl (dIn a xs))
  | _ => False
def oNotIn : O2 := fun a b k => match b with
  | .lst xs => Lay a ∧ Lay (.lst xs) ∧ k (.bl (!dIn a xs))
  | .tup xs => Lay a ∧ Lay (.tup xs) ∧ k (.bl (!dIn a xs))
  | _ => False
def rInT (K : PySem.W.Frag) (n : Bool) : R2 := fun x y H Q => ∃ d ds, Dp K H x d ∧ Dp K H y (.tuple ds) ∧ SeqAt.shaped d = true ∧ SeqAt.shaped (.tuple ds) = true ∧ Q (.bl (if n then !ds.any fun z => PyData.eqv z d else ds.any fun z => PyData.eqv z d)) H
theorem op_inT (hu : X.A.units + 65 < cLine) : OpR X (compareOp .In) (rInT X.K false) := by
  intro pins s σ H x y v u Q I rx ry h
  obtain ⟨d, ds, hd, he, sd, se, q⟩ := h
  obtain ⟨as, r1⟩ := Dp.reads I d x v hd rx
  obtain ⟨bs, r2⟩ := Dp.reads I (.tuple ds) y u he ry
  exact SeqAt.in_tuple_reads r2 r1 (SeqAt.canLay_of_shaped se) (SeqAt.canLay_of_shaped sd) (room_in_shaped sd hu) ⟨.bl _, H, I, rfl, q⟩
theorem op_notInT (hu : X.A.units + 65 < cLine) : OpR X (compareOp .NotIn) (rInT X.K true) := by
  intro pins s σ H x y v u Q I rx ry h
  obtain ⟨d, ds, hd, he, sd, se, q⟩ := h
  obtain ⟨as, r1⟩ := Dp.reads I d x v hd rx
  obtain ⟨bs, r2⟩ := Dp.reads I (.tuple ds) y u he ry
  exact SeqAt.notIn_tuple_reads r2 r1 (SeqAt.canLay_of_shaped se) (SeqAt.canLay_of_shaped sd) (room_in_shaped sd hu) ⟨.bl _, H, I, rfl, q⟩
theorem any_py (a : D) : ∀ xs : List D, (pyL xs).any (fun z => PyData.eqv z (py a)) = dIn a xs
  | [] => rfl
  | x :: xs => by
    show (PyData.eqv (py x) (py a) || (pyL xs).any fun z => PyData.eqv z (py a)) = (deq x a || dIn a xs)
    rw [any_py a xs]
    rfl
theorem op_inU (hu : X.A.units + 65 < cLine) : OpR X (compareOp .In) (fun x y H Q => rInD X.K x y H Q ∨ rInT X.K false x y H Q) := (op_inD hu).or (op_inT hu)
theorem op_notInU (hu : X.A.units + 65 < cLine) : OpR X (compareOp .NotIn) (fun x y H Q => rNotInD X.K x y H Q ∨ rInT X.K true x y H Q) := (op_notInD hu).or (op_notInT hu)
theorem opd_in : OpD X (fun x y H Q => rInD X.K x y H Q ∨ rInT X.K false x y H Q) oIn := by
  intro c v u a b k Q ok hT ra rb h hQ
  cases b <;> first | exact h.elim | skip
  · obtain ⟨h1, h2, hk⟩ := h
    refine .inr ⟨py a, _, ra.dp ok h1.plainD, rb.dp ok h2.plainD, h1, h2, ?_⟩
    rw [if_neg Bool.false_ne_true, any_py]
    exact hQ _ c _ hk rfl ok .refl (.bl _)
  · obtain ⟨h1, h2, hk⟩ := h
    refine .inl ⟨py a, _, ra.dp ok h1.plainD, rb.dp ok h2.plainD, h1, h2, ?_⟩
    rw [any_py]
    exact hQ _ c _ hk rfl ok .refl (.bl _)
theorem opd_notIn : OpD X (fun x y H Q => rNotInD X.K x y H Q ∨ rInT X.K true x y H Q) oNotIn := by
  intro c v u a b k Q ok hT ra rb h hQ
  cases b <;> first | exact h.elim | skip
  · obtain ⟨h1, h2, hk⟩ := h
    refine .inr ⟨py a, _, ra.dp ok h1.plainD, rb.dp ok h2.plainD, h1, h2, ?_⟩
    rw [if_pos rfl, any_py]
    exact hQ _ c _ hk rfl ok .refl (.bl _)
  · obtain ⟨h1, h2, hk⟩ := h
    refine .inl ⟨py a, _, ra.dp ok h1.plainD, rb.dp ok h2.plainD, h1, h2, ?_⟩
    rw [any_py]
    exact hQ _ c _ hk rfl ok .refl (.bl _)
/-- is None -/
def isNonD : D → Bool
  | .non => true
  | _ => false
def oIsN : O2 := fun a b k => match b with
  | .non => k (.bl (isNonD a))
  | _ => False
def oNotN : O2 := fun a b k => match b with
  | .non => k (.bl (!isNonD a))
  | _ => False
theorem rb_non {K : PySem.W.Frag} {c : Cf} {v : V} {a : D} (h : RB K c v a) : decide (v = .non) = isNonD a := by
  cases h with
  | fz h => cases h <;> rfl
  | ow ev ed h hf hd r =>
    subst ev ed
    rfl
theorem opd_isN : OpD X (fun x y H Q => y = .non ∧ Q (.bl (decide (x = .non))) H) oIsN := by
  intro c v u a b k Q ok hT ra rb h hQ
  cases b <;> first | exact h.elim | skip
  refine ⟨rb.non, ?_⟩
  rw [rb_non ra]
  exact hQ _ c _ h rfl ok .refl (.bl _)
theorem opd_notN : OpD X (fun x y H Q => y = .non ∧ Q (.bl (!decide (x = .non))) H) oNotN := by
  intro c v u a b k Q ok hT ra rb h hQ
  cases b <;> first | exact h.elim | skip
  refine ⟨rb.non, ?_⟩
  rw [rb_non ra]
  exact hQ _ c _ h rfl ok .refl (.bl _)
/-! subscripts -/
def oIx : O2 := fun a b k => match a, b with
  | .lst xs, .int i => ∃ d, atI xs i = some d ∧ k d
  | .tup xs, .int i => ∃ d, atI xs i = some d ∧ k d
  | .str z, .int i => ∃ c, z.length ≤ sizeLine ∧ atI z.cps.toList i = some c ∧ k (.str ⟨#[c]⟩)
  | _, _ => False
theorem atI_rp {K : PySem.W.Frag} {dr : Addr} {F : Hp} {vs : List V} {ds : List D} {i : Int} {d : D} (r : RpL K dr F vs ds) (h : atI ds i = some d) : ∃ v, atI vs i = some v ∧ Rp K dr F v d := by
  unfold atI at h ⊢
  rw [r.length]
  cases e : ixN ds.length i with
  | none =>
    rw [e] at h
    cases h
  | some j =>
    rw [e] at h
    exact r.get h
theorem opd_ix : OpD X (rIx X.K) oIx := by
  intro c v u a b k Q ok hT ra rb h hQ
  cases a <;> cases b <;> first | exact h.elim | skip
  · obtain ⟨ch, h1, h2, hk⟩ := h
    exact .inr (.inr ⟨_, _, ch, ra.str, rb.int, h1, h2, hQ _ c _ hk rfl ok .refl (.str _)⟩)
  · obtain ⟨d, h1, hk⟩ := h
    obtain ⟨p, vs, e1, f1, h2, r1⟩ := ra.tup ok
    obtain ⟨z, hz, rz⟩ := atI_rp r1 h1
    exact .inr (.inl ⟨p, vs, _, z, e1, rb.int, .of h2, hz, hQ _ c _ hk rfl ok .refl rz⟩)
  · obtain ⟨d, h1, hk⟩ := h
    obtain ⟨p, vs, e1, h2, r1⟩ := ra.lst ok
    obtain ⟨z, hz, rz⟩ := atI_rp r1 h1
    exact .inl ⟨p, vs, _, z, e1, rb.int, .of h2, hz, hQ _ c _ hk rfl ok .refl rz⟩
end
end DL
set_option maxHeartbeats 2000000
namespace DL
open PySem PySem.Spec PyProof.Rows L2
section
variable {X : Cx} {E : XK}

/-! ### tests -/
def wTest (w : WE) : WT := fun x η n R => w x η n fun d n1 => match d with
  | .bl b => R b n1
  | _ => False
/-- a value's truth -/
def truth : D → (Bool → Prop) → Prop
  | .non, k => k false
  | .bl b, k => k b
  | .int i, k => k (i != 0)
  | .str z, k => z.length ≤ sizeLine ∧ k ((z.length : Int) != 0)
  | .tup xs, k => k (!xs.isEmpty)
  | .lst xs, k => k (!xs.isEmpty)
  | _, _ => False
def wTru (w : WE) : WT := fun x η n R => w x η n fun d n1 => truth d fun b => R b n1
def wAnd (a b : WT) : WT := fun x η n R => a x η n fun c n1 => if c = true then b x η n1 R else R false n1
def wOr (a b : WT) : WT := fun x η n R => a x η n fun c n1 => if c = true then R true n1 else b x η n1 R
def wNot (a : WT) : WT := fun x η n R => a x η n fun c n1 => R (!c) n1
theorem qt_cmp {a b : Expr} {pos : Pos} {op : CmpOp} {wa wb : WE} {r : R2} {o : O2} (ho : OpR X (compareOp op) r) (h : OpD X r o) (ha : PE X a (upB X.K E wa)) (hb : PE X b (upB X.K E wb)) (hm : behindInMarks op b = false) :
    PT X (.Compare a [op] [b] pos) (upT X.K E (wTest (eBin o wa wb))) := pt_to (pt_cmpR ho ha hb hm) fun σ H Q q => by
  obtain ⟨c, η, R, x, e1, ok, en, hw, hr, hx⟩ := q
  refine bin_up h σ H _ ⟨c, η, _, x, e1, ok, en, hw, fun d c' v hd ok' l' rp => ?_, hx⟩
  cases d <;> first | exact hd.elim | skip
  cases rp
  exact ⟨_, rfl, hr _ c' hd ok' l'⟩
theorem isEmpty_rpl {K : PySem.W.Frag} {dr : Addr} {F : Hp} {vs : List V} {ds : List D} (r : RpL K dr F vs ds) : (!ds.isEmpty) = !vs.isEmpty := by
  cases r <;> rfl
theorem rb_truth {K : PySem.W.Frag} {c : Cf} {v : V} {d : D} {k : Bool → Prop} (ok : c.Ok) (h : RB K c v d) (ht : truth d k) : ∃ b, TruV K v c.H b ∧ k b := by
  cases d <;> first | exact ht.elim | skip
  · rw [h.non]
    exact ⟨_, rfl, ht⟩
  · rw [h.bl]
    exact ⟨_, rfl, ht⟩
  · rw [h.int]
    exact ⟨_, rfl, ht⟩
  · rw [h.str]
    exact ⟨_, ⟨ht.1, rfl⟩, ht.2⟩
  · obtain ⟨p, vs, rfl, _, e, r⟩ := h.tup ok
    refine ⟨_, .inr (.inl ⟨vs, .of e, rfl⟩), ?_⟩
    rw [← isEmpty_rpl r]
    exact ht
  · obtain ⟨p, vs, rfl, e, r⟩ := h.lst ok
    refine ⟨_, .inl ⟨vs, .of e, rfl⟩, ?_⟩
    rw [← isEmpty_rpl r]
    exact ht
theorem qt_v {e : Expr} {w : WE} (h : PE X e (upB X.K E w)) (he : ∀ whole, isTrue e X.env whole = (do let v ← whole; standAt e.pos; holding [v] (truthy v)) := by intro _; rfl) : PT X e (upT X.K E (wTru w)) := pt_to (pt_truth h he) fun σ H Q q => by
  obtain ⟨c, η, R, x, e1, ok, en, hw, hr, hx⟩ := q
  refine ⟨c, η, _, x, e1, ok, en, hw, fun d c' v hd ok' l' rp => ?_, hx⟩
  obtain ⟨b, h1, h2⟩ := rb_truth ok' rp hd
  exact ⟨b, h1, hr _ c' h2 ok' l'⟩
variable {a b : Expr} {pos : Pos} {rest : List Expr}
theorem qw_and1 {w : WT} (h : PT X a (upT X.K E w)) : PW X (.BoolOp .And [a] pos) (upT X.K E w) := pw_and1 h
theorem qw_or1 {w : WT} (h : PT X a (upT X.K E w)) : PW X (.BoolOp .Or [a] pos) (upT X.K E w) := pw_or1 h
theorem qw_and {wa wb : WT} (ha : PT X a (upT X.K E wa)) (hb : PW X (.BoolOp .And (b :: rest) pos) (upT X.K E wb)) : PW X (.BoolOp .And (a :: b :: rest) pos) (upT X.K E (wAnd wa wb)) := pw_to (pw_and ha hb) fun σ H Q q => by
  obtain ⟨c, η, R, x, e1, ok, en, hw, hr, hx⟩ := q
  refine ⟨c, η, _, x, e1, ok, en, hw, fun k c' hd ok' l' => ?_, hx⟩
  cases k with
  | true => exact ⟨c', η, R, x, rfl, ok', en.le l', hd, fun k2 c2 h2 ok2 l2 => hr k2 c2 h2 ok2 (l'.trans l2), hx.le l'⟩
  | false => exact hr false c' hd ok' l'
theorem qw_or {wa wb : WT} (ha : PT X a (upT X.K E wa)) (hb : PW X (.BoolOp .Or (b :: rest) pos) (upT X.K E wb)) : PW X (.BoolOp .Or (a :: b :: rest) pos) (upT X.K E (wOr wa wb)) := pw_to (pw_or ha hb) fun σ H Q q => by
  obtain ⟨c, η, R, x, e1, ok, en, hw, hr, hx⟩ := q
  refine ⟨c, η, _, x, e1, ok, en, hw, fun k c' hd ok' l' => ?_, hx⟩
  cases k with
  | false => exact ⟨c', η, R, x, rfl, ok', en.le l', hd, fun k2 c2 h2 ok2 l2 => hr k2 c2 h2 ok2 (l'.trans l2), hx.le l'⟩
  | true => exact hr true c' hd ok' l'
theorem qt_not {w : WT} (h : PT X a (upT X.K E w)) : PT X (.UnaryOp .Not a pos) (upT X.K E (wNot w)) := pt_to (pt_not h) fun σ H Q q => by
  obtain ⟨c, η, R, x, e1, ok, en, hw, hr, hx⟩ := q
  exact ⟨c, η, _, x, e1, ok, en, hw, fun k c' hd ok' l' => hr _ c' hd ok' l', hx⟩
/-- a < b < c -/
def wChain (o o' : O2) (wa wb wc : WE) : WT := fun x η n R => wa x η n fun a n1 => wb x η n1 fun b n2 => o a b fun d => match d with
  | .bl true => wc x η n2 fun c n3 => o' b c fun d => match d with
    | .bl k => R k n3
    | _ => False
  | .bl false => R false n2
  | _ => False
theorem qt_chain {e1 e2 e3 : Expr} {pos : Pos} {op op' : CmpOp} {wa wb wc : WE} {r r' : R2} {o o' : O2} (ho : OpR X (compareOp op) r) (ho' : OpR X (compareOp op') r') (h : OpD X r o) (h' : OpD X r' o') (ha : PE X e1 (upB X.K E wa)) (hb : PE X e2 (upB X.K E wb)) (hc : PE X e3 (upB X.K E wc))
    (hm : lastMarks [op, op'] [e2, e3] = false := by with_unfolding_all rfl) : PT X (.Compare e1 [op, op'] [e2, e3] pos) (upT X.K E (wChain o o' wa wb wc)) := pt_to (pt_chain ho ho' ha hb hc hm) fun σ H Q q => by
  obtain ⟨c, η, R, x, e1, ok, en, hw, hr, hx⟩ := q
  refine ⟨c, η, _, x, e1, ok, en, hw, fun da c1 v h1 ok1 l1 r1 => ?_, hx⟩
  refine ⟨c1, η, _, x, rfl, ok1, en.le l1, h1, fun db c2 u h2 ok2 l2 r2 => ?_, hx.le l1⟩
  refine h c2 v u da db _ _ ok2 ((l1.trans l2).T.trans en.T) (r1.le l2) r2 h2 fun d c3 z hk hn ok3 l3 r3 => ?_
  cases d <;> first | exact hk.elim | skip
  rename_i t
  cases r3
  refine ⟨t, rfl, ?_⟩
  cases t with
  | false => exact ⟨false, rfl, hr false c3 (by rw [hn]; exact hk) ok3 ((l1.trans l2).trans l3)⟩
  | true =>
    refine ⟨c3, η, _, x, rfl, ok3, ((en.le l1).le l2).le l3, (by rw [hn]; exact hk), fun dc c4 w h4 ok4 l4 r4 => ?_, ((hx.le l1).le l2).le l3⟩
    refine h' c4 u w db dc _ _ ok4 ((((l1.trans l2).trans l3).trans l4).T.trans en.T) ((r2.le l3).le l4) r4 h4 fun d c5 z hk hn5 ok5 l5 r5 => ?_
    cases d <;> first | exact hk.elim | skip
    cases r5
    exact ⟨_, rfl, hr _ c5 (by rw [hn5]; exact hk) ok5 (((l1.trans l2).trans l3).trans (l4.trans l5))⟩
/-- a if t else b -/
def eIf (t : WT) (wa wb : WE) : WE := fun x η n R => t x η n fun c n1 => if c = true then wa x η n1 R else wb x η n1 R
theorem q_if {t : Expr} {wt : WT} {wa wb : WE} (ht : PT X t (upT X.K E wt)) (ha : PE X a (up X.K E wa)) (hb : PE X b (up X.K E wb)) : PE X (.IfExp t a b pos) (up X.K E (eIf wt wa wb)) := pe_to (pe_ifExp ht ha hb) fun σ H Q q => by
  obtain ⟨c, η, R, x, e1, ok, en, hw, hr, hx⟩ := q
  refine ⟨c, η, _, x, e1, ok, en, hw, fun k c' hd ok' l' => ?_, hx⟩
  cases k with
  | true => exact ⟨c', η, R, x, rfl, ok', en.le l', hd, fun d c2 v h2 ok2 l2 r2 => hr d c2 v h2 ok2 (l'.trans l2) r2, hx.le l'⟩
  | false => exact ⟨c', η, R, x, rfl, ok', en.le l', hd, fun d c2 v h2 ok2 l2 r2 => hr d c2 v h2 ok2 (l'.trans l2) r2, hx.le l'⟩
/-- and, or, not as values of bools -/
def eAndV (wa wb : WE) : WE := fun x η n R => wa x η n fun a n1 => match a with
  | .bl true => wb x η n1 R
  | .bl false => R (.bl false) n1
  | _ => False
def eOrV (wa wb : WE) : WE := fun x η n R => wa x η n fun a n1 => match a with
  | .bl true => R (.bl true) n1
  | .bl false => wb x η n1 R
  | _ => False
def eNotV (wa : WE) : WE := fun x η n R => wa x η n fun a n1 => match a with
  | .bl b => R (.bl (!b)) n1
  | _ => False
theorem q_one {op} {w : WE} (h : PE X a (up X.K E w)) : PE X (.BoolOp op [a] pos) (up X.K E w) := pe_one h
theorem q_and {wa wb : WE} (ha : PE X a (up X.K E wa)) (hb : PE X (.BoolOp .And (b :: rest) pos) (up X.K E wb)) : PE X (.BoolOp .And (a :: b :: rest) pos) (up X.K E (eAndV wa wb)) := pe_to (pe_and ha hb) fun σ H Q q => by
  obtain ⟨c, η, R, x, e1, ok, en, hw, hr, hx⟩ := q
  refine ⟨c, η, _, x, e1, ok, en, hw, fun d c' v hd ok' l' rp => ?_, hx⟩
  cases d <;> first | exact hd.elim | skip
  rename_i k
  cases rp
  refine ⟨k, rfl, ?_⟩
  cases k with
  | true => exact ⟨c', η, R, x, rfl, ok', en.le l', hd, fun d c2 v h2 ok2 l2 r2 => hr d c2 v h2 ok2 (l'.trans l2) r2, hx.le l'⟩
  | false => exact hr _ c' _ hd ok' l' (.bl _)
theorem q_or {wa wb : WE} (ha : PE X a (up X.K E wa)) (hb : PE X (.BoolOp .Or (b :: rest) pos) (up X.K E wb)) : PE X (.BoolOp .Or (a :: b :: rest) pos) (up X.K E (eOrV wa wb)) := pe_to (pe_or ha hb) fun σ H Q q => by
  obtain ⟨c, η, R, x, e1, ok, en, hw, hr, hx⟩ := q
  refine ⟨c, η, _, x, e1, ok, en, hw, fun d c' v hd ok' l' rp => ?_, hx⟩
  cases d <;> first | exact hd.elim | skip
  rename_i k
  cases rp
  refine ⟨k, rfl, ?_⟩
  cases k with
  | false => exact ⟨c', η, R, x, rfl, ok', en.le l', hd, fun d c2 v h2 ok2 l2 r2 => hr d c2 v h2 ok2 (l'.trans l2) r2, hx.le l'⟩
  | true => exact hr _ c' _ hd ok' l' (.bl _)
theorem q_not {w : WE} (h : PE X a (up X.K E w)) : PE X (.UnaryOp .Not a pos) (up X.K E (eNotV w)) := pe_to (pe_not h) fun σ H Q q => by
  obtain ⟨c, η, R, x, e1, ok, en, hw, hr, hx⟩ := q
  refine ⟨c, η, _, x, e1, ok, en, hw, fun d c' v hd ok' l' rp => ?_, hx⟩
  cases d <;> first | exact hd.elim | skip
  cases rp
  exact ⟨_, rfl, hr _ c' _ hd ok' l' (.bl _)⟩
def eNeg (wa : WE) : WE := fun x η n R => wa x η n fun a n1 => match a with
  | .int i => R (.int (-i)) n1
  | _ => False
theorem q_neg {w : WE} (h : PE X a (upB X.K E w)) : PE X (.UnaryOp .USub a pos) (up X.K E (eNeg w)) := pe_to (pe_un un_neg h) fun σ H Q q => by
  obtain ⟨c, η, R, x, e1, ok, en, hw, hr, hx⟩ := q
  refine ⟨c, η, _, x, e1, ok, en, hw, fun d c' v hd ok' l' rp => ?_, hx⟩
  cases d <;> first | exact hd.elim | skip
  exact ⟨_, rp.int, hr _ c' _ hd ok' l' (.int _)⟩

/-! ### arguments, displays -/
def aNil : WA := fun _ _ n R => R [] n
def aCons (w : WE) (r : WA) : WA := fun x η n R => w x η n fun d n1 => r x η n1 fun ds n2 => R (d :: ds) n2
variable {e : Expr} {es : List Expr}
theorem qa_nil : PA X [] (upA X.K E aNil) := pa_to pa_nil fun σ H Q q => by
  obtain ⟨c, η, R, x, e1, ok, en, hw, hr, hx⟩ := q
  show Q [] H
  rw [← e1]
  exact hr [] c [] hw ok .refl .nil
theorem qa_cons {w : WE} {r : WA} (ha : PE X e (up X.K E w)) (hr : PA X es (upA X.K E r)) (hs : starEach (e :: es) X.env = (false, eval e X.env) :: starEach es X.env := by rfl) : PA X (e :: es) (upA X.K E (aCons w r)) := pa_to (pa_cons ha hr hs) fun σ H Q q => by
  obtain ⟨c, η, R, x, e1, ok, en, hw, hr, hx⟩ := q
  refine ⟨c, η, _, x, e1, ok, en, hw, fun d c1 v h1 ok1 l1 r1 => ?_, hx⟩
  refine ⟨c1, η, _, x, rfl, ok1, en.le l1, h1, fun ds c2 vs h2 ok2 l2 r2 => ?_, hx.le l1⟩
  exact hr (d :: ds) c2 (v :: vs) h2 ok2 (l1.trans l2) (.cons (l2.rp r1) r2)
theorem qab_nil : PA X [] (upAB X.K E aNil) := pa_to pa_nil fun σ H Q q => by
  obtain ⟨c, η, R, x, e1, ok, en, hw, hr, hx⟩ := q
  show Q [] H
  rw [← e1]
  exact hr [] c [] hw ok .refl .nil
theorem RBL.le {K : PySem.W.Frag} {c c' : Cf} (l : Le c c') : ∀ {vs : List V} {ds : List D}, RBL K c vs ds → RBL K c' vs ds
  | _, _, .nil => .nil
  | _, _, .cons r t => .cons (r.le l) (RBL.le l t)
theorem qab_cons {w : WE} {r : WA} (ha : PE X e (upB X.K E w)) (hr : PA X es (upAB X.K E r)) (hs : starEach (e :: es) X.env = (false, eval e X.env) :: starEach es X.env := by rfl) : PA X (e :: es) (upAB X.K E (aCons w r)) := pa_to (pa_cons ha hr hs) fun σ H Q q => by
  obtain ⟨c, η, R, x, e1, ok, en, hw, hr, hx⟩ := q
  refine ⟨c, η, _, x, e1, ok, en, hw, fun d c1 v h1 ok1 l1 r1 => ?_, hx⟩
  refine ⟨c1, η, _, x, rfl, ok1, en.le l1, h1, fun ds c2 vs h2 ok2 l2 r2 => ?_, hx.le l1⟩
  exact hr (d :: ds) c2 (v :: vs) h2 ok2 (l1.trans l2) (.cons (r1.le l2) r2)
def eTup (w : WA) : WE := fun x η n R => w x η n fun ds n1 => ds.length ≤ sizeLine ∧ R (.tup ds) n1
def nLst (w : WA) : WN := fun x η n R => w x η n fun ds n1 => ds.length ≤ sizeLine ∧ R ds n1
theorem q_tup {x1} {w : WA} (h : PA X es (upA X.K E w)) : PE X (.Tuple es x1 pos) (up X.K E (eTup w)) := pe_to (pe_tup h) fun σ H Q q => by
  obtain ⟨c, η, R, x, e1, ok, en, hw, hr, hx⟩ := q
  refine ⟨c, η, _, x, e1, ok, en, hw, fun ds c1 vs h1 ok1 l1 r1 => ?_, hx⟩
  refine ⟨by rw [r1.length]; exact h1.1, fun p hp => ?_⟩
  exact rp_new_tup (k := fun d => R d c1.n) ok1 hp r1 h1.2 fun d c' z hk hn ok' l' rp => hr d c' z (by rw [hn]; exact hk) ok' (l1.trans l') rp
theorem qn_lst {w : WA} (h : PA X es (upA X.K E w)) : PE X (.List es pos) (upN X.K E (nLst w)) := pe_to (pe_lst h) fun σ H Q q => by
  obtain ⟨c, η, R, x, e1, ok, en, hw, hr, hx⟩ := q
  refine ⟨c, η, _, x, e1, ok, en, hw, fun ds c1 vs h1 ok1 l1 r1 => ?_, hx⟩
  refine ⟨by rw [r1.length]; exact h1.1, fun p hp => ?_⟩
  obtain ⟨ok2, l2, hF, hd⟩ := ok1.newH (o := .lst vs) hp
  have hp0 : No c p := No.back l1 (No.of hp)
  exact hr ds ⟨c1.dr, c1.F, upd c1.H p (.lst vs), c1.n, c1.T⟩ p vs h1.2 ok2 (l1.trans l2) hp0 hF (by rw [← l1.dr]; exact hd) upd_same (l2.rpl r1)

/-! ### built-ins by values -/
abbrev OB := List D → (D → Prop) → Prop
def eCB (o : OB) (w : WA) : WE := fun x η n R => w x η n fun ds n1 => o ds fun d => R d n1
def BD (X : Cx) (r : List V → Hp → VK → Prop) (o : OB) : Prop := ∀ (c : Cf) (vs : List V) (ds : List D) (k : D → Prop) (Q : VK), c.Ok → RBL X.K c vs ds → o ds k →
  (∀ d c' z, k d → c'.n = c.n → c'.Ok → Le c c' → RP X.K c' z d → Q z c'.H) → r vs c.H Q
theorem cb_up {w : WA} {r : List V → Hp → VK → Prop} {o : OB} (h : BD X r o) : ∀ σ H Q, up X.K E (eCB o w) σ H Q → tCB r (upAB X.K E w) σ H Q := fun σ H Q q => by
  obtain ⟨c, η, R, x, e1, ok, en, hw, hr, hx⟩ := q
  refine ⟨c, η, _, x, e1, ok, en, hw, fun ds c1 vs h1 ok1 l1 r1 => ?_, hx⟩
  exact h c1 vs ds _ Q ok1 r1 h1 fun d c2 z hk hn ok2 l2 r2 => hr d c2 z (by rw [hn]; exact hk) ok2 (l1.trans l2) r2
theorem q_B {x : Str} {p : Pos} {id : String} {r : List V → Hp → VK → Prop} {o : OB} {w : WA} (hc : CallR X (.builtin id) r) (h : BD X r o) (hg : Gl X x) (hm : X.mg x = none) (hv : bootBuiltins x = some (.builtin id)) (ha : PA X (e :: es) (upAB X.K E w)) (hn : x ≠ "__name__" := by decide) (hdb : (x == ("__debug__" : Str)) = false := by decide)
    (he : starEach (e :: es) X.env = (false, eval e X.env) :: starEach es X.env := by rfl) (hpl : (backTo pos (starEach es X.env)).any (·.1) = false := by rfl) : PE X (.Call (.Name x p) (e :: es) [] pos) (up X.K E (eCB o w)) :=
  pe_to (pe_callB hc hg hm hv ha hn hdb he hpl) (cb_up h)
theorem q_Ty {x : Str} {p : Pos} {T : String} {r : List V → Hp → VK → Prop} {o : OB} {w : WA} (hc : CallR X (.type T) r) (h : BD X r o) (hg : Gl X x) (hm : X.mg x = none) (hv : bootBuiltins x = some (.type T)) (ha : PA X (e :: es) (upAB X.K E w)) (hn : x ≠ "__name__" := by decide) (hdb : (x == ("__debug__" : Str)) = false := by decide)
    (he : starEach (e :: es) X.env = (false, eval e X.env) :: starEach es X.env := by rfl) (hpl : (backTo pos (starEach es X.env)).any (·.1) = false := by rfl) : PE X (.Call (.Name x p) (e :: es) [] pos) (up X.K E (eCB o w)) :=
  pe_to (pe_callTy hc hg hm hv ha hn hdb he hpl) (cb_up h)
/-- len -/
def bLen : OB := fun ds k => match ds with
  | [.lst xs] => k (.int xs.length)
  | [.tup xs] => k (.int xs.length)
  | [.str z] => z.length ≤ sizeLine ∧ k (.int z.length)
  | _ => False
def rLenU (K : PySem.W.Frag) : List V → Hp → VK → Prop := fun xs H Q => (∃ p ys, xs = [.ref p] ∧ (SqL K H p ys ∨ SqT K H p ys) ∧ Q (.int ys.length) H) ∨ ∃ z, xs = [.str z] ∧ z.length ≤ sizeLine ∧ Q (.int z.length) H
theorem call_lenU : CallR X (.builtin "len") (rLenU X.K) := fun pins s σ H xs us Q I r h => by
  rcases h with h | h
  · exact call_len_seq pins s σ H xs us Q I r h
  · exact call_len_str pins s σ H xs us Q I r h
theorem bd_len : BD X (rLenU X.K) bLen := by
  intro c vs ds k Q ok r h hQ
  cases r with
  | nil => exact h.elim
  | cons r1 t =>
    rename_i v vs d ds
    cases t with
    | nil =>
      cases d <;> first | exact h.elim | skip
      · exact .inr ⟨_, by rw [r1.str], h.1, hQ _ c _ h.2 rfl ok .refl (.int _)⟩
      · obtain ⟨p, us, rfl, _, e, rp⟩ := r1.tup ok
        refine .inl ⟨p, us, rfl, .inr (.of e), ?_⟩
        rw [rp.length]
        exact hQ _ c _ h rfl ok .refl (.int _)
      · obtain ⟨p, us, rfl, e, rp⟩ := r1.lst ok
        refine .inl ⟨p, us, rfl, .inl (.of e), ?_⟩
        rw [rp.length]
        exact hQ _ c _ h rfl ok .refl (.int _)
    | cons _ _ => cases d <;> exact h.elim
/-- tuple(..) of a list, a tuple -/
def bTuple : OB := fun ds k => match ds with
  | [.lst xs] => k (.tup xs)
  | [.tup xs] => k (.tup xs)
  | _ => False
theorem bd_tuple : BD X (fun xs H Q => ∃ p ys, xs = [.ref p] ∧ ((SqL X.K H p ys ∧ ∀ l, H l = none → Q (.ref l) (upd H l (.tup ys))) ∨ (SqT X.K H p ys ∧ Q (.ref p) H))) bTuple := by
  intro c vs ds k Q ok r h hQ
  cases r with
  | nil => exact h.elim
  | cons r1 t =>
    rename_i v vs d ds
    cases t with
    | nil =>
      cases d <;> first | exact h.elim | skip
      · obtain ⟨p, us, rfl, f, e, rp⟩ := r1.tup ok
        exact ⟨p, us, rfl, .inr ⟨.of e, hQ _ c _ h rfl ok .refl (.tup f rp)⟩⟩
      · obtain ⟨p, us, rfl, e, rp⟩ := r1.lst ok
        exact ⟨p, us, rfl, .inl ⟨.of e, fun l hl => rp_new_tup ok hl rp h hQ⟩⟩
    | cons _ _ => cases d <;> exact h.elim
/-- list(..) of a list, a tuple (frozen) -/
def bList : OB := fun ds k => match ds with
  | [.lst xs] => k (.lst xs)
  | [.tup xs] => k (.lst xs)
  | _ => False
theorem bd_list : BD X (fun xs H Q => ∃ p ys, xs = [.ref p] ∧ (SqL X.K H p ys ∨ SqT X.K H p ys) ∧ ∀ l, H l = none → Q (.ref l) (upd H l (.lst ys))) bList := by
  intro c vs ds k Q ok r h hQ
  cases r with
  | nil => exact h.elim
  | cons r1 t =>
    rename_i v vs d ds
    cases t with
    | nil =>
      cases d <;> first | exact h.elim | skip
      · obtain ⟨p, us, rfl, f, e, rp⟩ := r1.tup ok
        exact ⟨p, us, rfl, .inr (.of e), fun l hl => rp_new_lst ok hl rp h hQ⟩
      · obtain ⟨p, us, rfl, e, rp⟩ := r1.lst ok
        exact ⟨p, us, rfl, .inl (.of e), fun l hl => rp_new_lst ok hl rp h hQ⟩
    | cons _ _ => cases d <;> exact h.elim
/-- all, any of a list of bools; sum of a list of ints -/
def blsOf : List D → Option (List Bool)
  | [] => some []
  | .bl i :: r => (blsOf r).map (i :: ·)
  | _ => none
theorem blsOf_eq : ∀ {ds : List D} {ns : List Bool}, blsOf ds = some ns → ds = ns.map D.bl
  | [], ns, h => by cases h; rfl
  | d :: ds, ns, h => by
    cases d <;> first | cases h | skip
    rename_i i
    have h' : (blsOf ds).map (i :: ·) = some ns := h
    cases e : blsOf ds with
    | none =>
      rw [e] at h'
      cases h'
    | some ms =>
      rw [e] at h'
      cases h'
      rw [blsOf_eq e]
      rfl
def bAll : OB := fun ds k => match ds with
  | [.lst xs] => ∃ bs, blsOf xs = some bs ∧ k (.bl (bs.all id))
  | _ => False
def bAny : OB := fun ds k => match ds with
  | [.lst xs] => ∃ bs, blsOf xs = some bs ∧ k (.bl (bs.any id))
  | _ => False
def bSum : OB := fun ds k => match ds with
  | [.lst xs] => ∃ ns, intsOf xs = some ns ∧ k (.int ns.sum)
  | _ => False
end
end DL
set_option maxHeartbeats 2000000
namespace DL
open PySem PySem.Spec PyProof.Rows L2
section
variable {X : Cx} {E : XK}
theorem one_bd {r : List V → Hp → VK → Prop} {o : OB} (h0 : ∀ ds k, o ds k → ∃ xs, ds = [.lst xs]) (h1 : ∀ (c : Cf) (p : Addr) (vs : List V) (xs : List D) (k : D → Prop) (Q : VK), c.Ok → c.H p = some (.lst vs) → RPL X.K c vs xs → o [.lst xs] k →
  (∀ d c' z, k d → c'.n = c.n → c'.Ok → Le c c' → RP X.K c' z d → Q z c'.H) → r [.ref p] c.H Q) : BD X r o := by
  intro c vs ds k Q ok r1 h hQ
  obtain ⟨xs, rfl⟩ := h0 ds k h
  cases r1 with
  | cons r1 t =>
    cases t
    obtain ⟨p, us, rfl, e, rp⟩ := r1.lst ok
    exact h1 c p us xs k Q ok e rp h hQ
theorem bd_all : BD X (rAll X.K) bAll := by
  refine one_bd (fun ds k h => ?_) fun c p vs xs k Q ok e rp h hQ => ?_
  · unfold bAll at h
    split at h
    · exact ⟨_, rfl⟩
    · exact h.elim
  · obtain ⟨bs, e1, hk⟩ := h
    rw [blsOf_eq e1] at rp
    exact ⟨p, bs, rfl, .of (by rw [e, rp.bls]), hQ _ c _ hk rfl ok .refl (.bl _)⟩
theorem bd_any : BD X (rAny X.K) bAny := by
  refine one_bd (fun ds k h => ?_) fun c p vs xs k Q ok e rp h hQ => ?_
  · unfold bAny at h
    split at h
    · exact ⟨_, rfl⟩
    · exact h.elim
  · obtain ⟨bs, e1, hk⟩ := h
    rw [blsOf_eq e1] at rp
    exact ⟨p, bs, rfl, .of (by rw [e, rp.bls]), hQ _ c _ hk rfl ok .refl (.bl _)⟩
theorem bd_sum : BD X (rSum X.K) bSum := by
  refine one_bd (fun ds k h => ?_) fun c p vs xs k Q ok e rp h hQ => ?_
  · unfold bSum at h
    split at h
    · exact ⟨_, rfl⟩
    · exact h.elim
  · obtain ⟨bs, e1, hk⟩ := h
    rw [intsOf_eq e1] at rp
    exact ⟨p, bs, rfl, .of (by rw [e, rp.ints]), hQ _ c _ hk rfl ok .refl (.int _)⟩

/-! ### slices -/
abbrev WO := Xn → List Sl → Nat → (Option Int → Nat → Prop) → Prop
def upO (K : PySem.W.Frag) (E : XK) (w : WO) : TO := fun σ H Q => ∃ c η R x, c.H = H ∧ c.Ok ∧ EnvOk K c σ η ∧ w x η c.n R ∧ (∀ d c', R d c'.n → c'.Ok → Le c c' → Q d c'.H) ∧ XW K E x (fun _ => False) c
def oNo : WO := fun _ _ n R => R none n
def oSo (w : WE) : WO := fun x η n R => w x η n fun d n1 => match d with
  | .int i => R (some i) n1
  | _ => False
theorem po_to {e : Option Expr} {t t' : TO} (h : PO X e t) (i : ∀ σ H Q, t' σ H Q → t σ H Q) : PO X e t' := by
  obtain ⟨h⟩ := h
  constructor
  intros
  apply h <;> first | assumption | (apply i; assumption)
theorem qo_none : PO X none (upO X.K E oNo) := po_to po_none fun σ H Q q => by
  obtain ⟨c, η, R, x, e1, ok, en, hw, hr, hx⟩ := q
  show Q none H
  rw [← e1]
  exact hr _ c hw ok .refl
theorem qo_some {e : Expr} {w : WE} (h : PE X e (upB X.K E w)) : PO X (some e) (upO X.K E (oSo w)) := po_to (po_some h) fun σ H Q q => by
  obtain ⟨c, η, R, x, e1, ok, en, hw, hr, hx⟩ := q
  refine ⟨c, η, _, x, e1, ok, en, hw, fun d c' v hd ok' l' rp => ?_, hx⟩
  cases d <;> first | exact hd.elim | skip
  exact ⟨_, rp.int, hr _ c' hd ok' l'⟩
def cutD (xs : List D) (lo hi : Option Int) : List D := (xs.drop (HT.sIx xs.length 0 lo)).take (HT.sIx xs.length xs.length hi - HT.sIx xs.length 0 lo)
def oSl : D → Option Int → Option Int → (D → Prop) → Prop := fun a lo hi k => match a with
  | .lst xs => k (.lst (cutD xs lo hi))
  | .tup xs => k (.tup (cutD xs lo hi))
  | _ => False
def eSl (w : WE) (lo hi : WO) : WE := fun x η n R => w x η n fun a n1 => lo x η n1 fun l n2 => hi x η n2 fun h n3 => oSl a l h fun d => R d n3
theorem SlR.or {r r' : V → Option Int → Option Int → Hp → VK → Prop} (h : SlR X r) (h' : SlR X r') : SlR X (fun x l u H Q => r x l u H Q ∨ r' x l u H Q) := by
  intro pins s σ H x v vl vu lo hi sl Q I rx hs pl pu q
  rcases q with q | q
  · exact h pins s σ H x v vl vu lo hi sl Q I rx hs pl pu q
  · exact h' pins s σ H x v vl vu lo hi sl Q I rx hs pl pu q
theorem cut_rpl {K : PySem.W.Frag} {dr : Addr} {F : Hp} {vs : List V} {ds : List D} (r : RpL K dr F vs ds) (lo hi : Option Int) : RpL K dr F (cutV vs lo hi) (cutD ds lo hi) := by
  unfold cutV cutD
  rw [r.length]
  exact (r.drop _).take _
theorem q_sl {e : Expr} {lo hi : Option Expr} {p2 pos : Pos} {w : WE} {wl wh : WO} (h : PE X e (upB X.K E w)) (hl : PO X lo (upO X.K E wl)) (hh : PO X hi (upO X.K E wh)) : PE X (.Subscript e (.Slice lo hi none p2) pos) (up X.K E (eSl w wl wh)) :=
  pe_to (pe_slice (SlR.or sl_list sl_tupA) h hl hh) fun σ H Q q => by
    obtain ⟨c, η, R, x, e1, ok, en, hw, hr, hx⟩ := q
    refine ⟨c, η, _, x, e1, ok, en, hw, fun a c1 v h1 ok1 l1 r1 => ?_, hx⟩
    refine ⟨c1, η, _, x, rfl, ok1, en.le l1, h1, fun lo c2 h2 ok2 l2 => ?_, hx.le l1⟩
    refine ⟨c2, η, _, x, rfl, ok2, (en.le l1).le l2, h2, fun hi c3 h3 ok3 l3 => ?_, (hx.le l1).le l2⟩
    have r3 := (r1.le l2).le l3
    have l13 := (l1.trans l2).trans l3
    cases a <;> first | exact h3.elim | skip
    · rename_i xs
      obtain ⟨p, vs, rfl, f, e, rp⟩ := r3.tup ok3
      refine .inr ⟨p, vs, rfl, .of e, fun hw => ?_, fun _ l hl => ?_⟩
      · have h3' : R (.tup (cutD xs lo hi)) c3.n := h3
        have ec : cutD xs lo hi = xs := by
          unfold cutD
          rw [rp.length] at hw
          rw [hw.1, hw.2]
          simp
        rw [ec] at h3'
        exact hr _ c3 _ h3' ok3 l13 (.tup f rp)
      · exact rp_new_tup (k := fun d => R d c3.n) ok3 hl (cut_rpl rp lo hi) h3 fun d c' z hk hn ok' l' rp => hr d c' z (by rw [hn]; exact hk) ok' (l13.trans l') rp
    · obtain ⟨p, vs, rfl, e, rp⟩ := r3.lst ok3
      refine .inl ⟨p, vs, rfl, .of e, fun l hl => ?_⟩
      exact rp_new_lst (k := fun d => R d c3.n) ok3 hl (cut_rpl rp lo hi) h3 fun d c' z hk hn ok' l' rp => hr d c' z (by rw [hn]; exact hk) ok' (l13.trans l') rp

/-! ### targets -/
abbrev WG := D → List Sl → (List Sl → Prop) → Prop
abbrev WGs := List D → List Sl → (List Sl → Prop) → Prop
/-- the slots but those at is stand -/
def Out (is : List Nat) (σ σ' : L2.St) : Prop := σ'.length = σ.length ∧ ∀ j : Nat, j ∉ is → σ'[j]? = σ[j]?
theorem Out.refl {is : List Nat} {σ : L2.St} : Out is σ σ := ⟨rfl, fun _ _ => rfl⟩
theorem Out.trans {is : List Nat} {σ σ1 σ2 : L2.St} (a : Out is σ σ1) (b : Out is σ1 σ2) : Out is σ σ2 := ⟨b.1.trans a.1, fun j h => (b.2 j h).trans (a.2 j h)⟩
theorem Out.set {is : List Nat} {σ : L2.St} {i : Nat} {v : Option V} (h : i ∈ is) : Out is σ (σ.set i v) := ⟨by simp, fun j hj => List.getElem?_set_ne (fun z => hj (by rw [← z]; exact h))⟩
def upG (K : PySem.W.Frag) (is : List Nat) (g : WG) : TG := fun v σ H Q => ∃ c η d k, c.H = H ∧ c.Ok ∧ EnvOk K c σ η ∧ RP K c v d ∧ g d η k ∧ ∀ η' σ', k η' → EnvOk K c σ' η' → (∀ a, Owned σ' η' a → Owned σ η a) → Out is σ σ' → Q σ' H
def upGs (K : PySem.W.Frag) (is : List Nat) (g : WGs) : TGs := fun vs σ H Q => ∃ c η ds k, c.H = H ∧ c.Ok ∧ EnvOk K c σ η ∧ RPL K c vs ds ∧ g ds η k ∧ ∀ η' σ', k η' → EnvOk K c σ' η' → (∀ a, Owned σ' η' a → Owned σ η a) → Out is σ σ' → Q σ' H
def gNm (i : Nat) : WG := fun d η k => k (η.set i (.dt d))
def gsNil : WGs := fun ds η k => match ds with
  | [] => k η
  | _ => False
def gsCons (g : WG) (r : WGs) : WGs := fun ds η k => match ds with
  | d :: ds => g d η fun η' => r ds η' k
  | [] => False
def gTp (n : Nat) (g : WGs) : WG := fun d η k => match d with
  | .tup ds => ds.length = n ∧ g ds η k
  | _ => False
theorem pg_to {e : Expr} {t t' : TG} (h : PG X e t) (i : ∀ v σ H Q, t' v σ H Q → t v σ H Q) : PG X e t' := ⟨fun pins s σ H v u Q I r q => h.run pins s σ H v u Q I r (i v σ H Q q)⟩
theorem pgs_to {e : List Expr} {t t' : TGs} (h : PGs X e t) (i : ∀ v σ H Q, t' v σ H Q → t v σ H Q) : PGs X e t' := ⟨fun pins s σ H v u Q I r q => h.run pins s σ H v u Q I r (i v σ H Q q)⟩
theorem qg_nm {e : Expr} {i : Nat} {is : List Nat} (h : PG X e (gName i)) (hi : i ∈ is := by decide) : PG X e (upG X.K is (gNm i)) := pg_to h fun v σ H Q q => by
  obtain ⟨c, η, d, k, e1, ok, en, rp, hg, hk⟩ := q
  exact hk _ _ hg (en.set rp) (fun a => owned_set) (.set hi)
theorem qgs_nil {is : List Nat} : PGs X [] (upGs X.K is gsNil) := pgs_to pgs_nil fun vs σ H Q q => by
  obtain ⟨c, η, ds, k, e1, ok, en, rp, hg, hk⟩ := q
  cases rp with
  | nil => exact ⟨rfl, hk _ _ hg en (fun _ h => h) .refl⟩
  | cons _ _ => exact hg.elim
theorem qgs_cons {e : Expr} {es : List Expr} {g : WG} {r : WGs} {is : List Nat} (h1 : PG X e (upG X.K is g)) (h2 : PGs X es (upGs X.K is r))
    (hs : (assignEach (e :: es) X.env).map (·.2) = assign e X.env :: (assignEach es X.env).map (·.2) := by rfl) : PGs X (e :: es) (upGs X.K is (gsCons g r)) := pgs_to (pgs_cons h1 h2 hs) fun vs σ H Q q => by
  obtain ⟨c, η, ds, k, e1, ok, en, rp, hg, hk⟩ := q
  cases rp with
  | nil => exact hg.elim
  | cons r1 t =>
    refine ⟨_, _, rfl, c, η, _, _, e1, ok, en, r1, hg, fun η' σ' hr en' ho ot => ?_⟩
    exact ⟨c, η', _, _, e1, ok, en', t, hr, fun η2 σ2 h2 en2 ho2 ot2 => hk η2 σ2 h2 en2 (fun a z => ho a (ho2 a z)) (ot.trans ot2)⟩
theorem qg_tp {es : List Expr} {k : Nat} {pos : Pos} {g : WGs} {n : Nat} {is : List Nat} (hc : X.calm = true) (h : PGs X es (upGs X.K is g))
    (hn : (assignEach es X.env).length = n := by rfl) (hst : (assignEach es X.env).findIdx? (·.1) = none := by rfl) : PG X (.Tuple es k pos) (upG X.K is (gTp n g)) := pg_to (pg_tup hc h hn hst) fun v σ H Q q => by
  obtain ⟨c, η, d, k, e1, ok, en, rp, hg, hk⟩ := q
  cases rp <;> first | exact hg.elim | skip
  rename_i a vs ds f r
  refine ⟨a, vs, rfl, .of (by rw [← e1]; exact ok.sub _ _ f), by rw [r.length]; exact hg.1, c, η, ds, k, e1, ok, en, r, hg.2, hk⟩

/-! ### statements -/
def sNext : WS := fun _ k η n => k.nx η n
def sSeq (a b : WS) : WS := fun x k η n => a x { k with nx := fun η' n' => b x k η' n' } η n
def sRet (w : WE) : WS := fun x k η n => w x η n k.rt
def sRetN : WS := fun _ k _ n => k.rt .non n
def sIf (t : WT) (a b : WS) : WS := fun x k η n => t x η n fun c n1 => if c = true then a x k η n1 else b x k η n1
def sExpr (w : WE) : WS := fun x k η n => w x η n fun _ n1 => k.nx η n1
def sAsg (w : WE) (g : WG) : WS := fun x k η n => w x η n fun d n1 => g d η fun η' => k.nx η' n1
def sSetN (i : Nat) (w : WN) : WS := fun x k η n => w x η n fun xs n1 => k.nx (η.set i (.ow xs)) n1
def sNever : WS := fun _ _ _ _ => False
def sBreak : WS := fun _ k η n => k.bk η n
def sCont : WS := fun _ k η n => k.ct η n
variable {st : Stmt} {rest : List Stmt} {pos : Pos}
theorem own_refl {σ : L2.St} {η : List Sl} {c : Cf} : ∀ a, Owned σ η a → Owned σ η a ∨ No c a := fun _ h => .inl h
theorem qss_nil : PSs X [] (upS X.K E sNext) := pss_to pss_nil fun D σ H q => by
  obtain ⟨c, η, k, x, e1, ok, en, hw, h1, _⟩ := q
  show D.nx σ H
  rw [← e1]
  exact h1 η c σ hw ok .refl own_refl en
theorem qs_pass : PS X (.Pass pos) (upS X.K E sNext) := ps_to ps_pass fun D σ H q => by
  obtain ⟨c, η, k, x, e1, ok, en, hw, h1, _⟩ := q
  show D.nx σ H
  rw [← e1]
  exact h1 η c σ hw ok .refl own_refl en
theorem qs_break : PS X (.Break pos) (upS X.K E sBreak) := ps_to ps_break fun D σ H q => by
  obtain ⟨c, η, k, x, e1, ok, en, hw, h1, h2, h3, _⟩ := q
  show D.bk σ H
  rw [← e1]
  exact h3 η c σ hw ok .refl own_refl en
theorem qs_cont : PS X (.Continue pos) (upS X.K E sCont) := ps_to ps_continue fun D σ H q => by
  obtain ⟨c, η, k, x, e1, ok, en, hw, h1, h2, h3, h4, _⟩ := q
  show D.ct σ H
  rw [← e1]
  exact h4 η c σ hw ok .refl own_refl en
theorem qs_never : PS X st (upS X.K E sNever) := ps_to ps_never fun D σ H q => by
  obtain ⟨c, η, k, x, e1, ok, en, hw, _⟩ := q
  exact hw.elim
/-- owners that come along -/
theorem own_trans {σ σ1 σ2 : L2.St} {η η1 η2 : List Sl} {c c1 : Cf} (l : LeO (Owned σ η) c c1) (h1 : ∀ a, Owned σ1 η1 a → Owned σ η a ∨ No c a) (h2 : ∀ a, Owned σ2 η2 a → Owned σ1 η1 a ∨ No c1 a) (ok : c.Ok) (ok1 : c1.Ok) : ∀ a, Owned σ2 η2 a → Owned σ η a ∨ No c a := fun a h => by
  rcases h2 a h with z | z
  · exact h1 a z
  · exact .inr (No.back l z)
theorem qss_cons {w u : WS} (h1 : PS X st (upS X.K E w)) (h2 : PSs X rest (upS X.K E u)) : PSs X (st :: rest) (upS X.K E (sSeq w u)) := pss_to (pss_cons h1 h2) fun D σ H q => by
  obtain ⟨c, η, k, x, e1, ok, en, hw, h1, h2, h3, h4, hx⟩ := q
  refine ⟨c, η, _, x, e1, ok, en, hw, fun η1 c1 σ1 hn ok1 l1 ho1 en1 => ?_, h2, h3, h4, hx⟩
  refine ⟨c1, η1, k, x, rfl, ok1, en1, hn, fun η2 c2 σ2 hn2 ok2 l2 ho2 en2 => ?_, fun d c2 v hd ok2 l2 rp => ?_, fun η2 c2 σ2 hn2 ok2 l2 ho2 en2 => ?_, fun η2 c2 σ2 hn2 ok2 l2 ho2 en2 => ?_, hx.step l1 ho1⟩
  · exact h1 η2 c2 σ2 hn2 ok2 (l1.trans l2 ho1) (own_trans l1 ho1 ho2 ok ok1) en2
  · exact h2 d c2 v hd ok2 (l1.trans l2 ho1) rp
  · exact h3 η2 c2 σ2 hn2 ok2 (l1.trans l2 ho1) (own_trans l1 ho1 ho2 ok ok1) en2
  · exact h4 η2 c2 σ2 hn2 ok2 (l1.trans l2 ho1) (own_trans l1 ho1 ho2 ok ok1) en2
theorem qss_one {w : WS} (h1 : PS X st (upS X.K E w)) : PSs X [st] (upS X.K E w) := pss_one h1
theorem qs_ret {e : Expr} {w : WE} (h : PE X e (up X.K E w)) : PS X (.Return (some e) pos) (upS X.K E (sRet w)) := ps_to (ps_ret h) fun D σ H q => by
  obtain ⟨c, η, k, x, e1, ok, en, hw, h1, h2, h3, h4, hx⟩ := q
  exact ⟨c, η, _, x, e1, ok, en, hw, fun d c' v hd ok' l' rp => h2 d c' v hd ok' (LeO.of l') rp, hx.none⟩
theorem qs_retN : PS X (.Return none pos) (upS X.K E sRetN) := ps_to ps_retN fun D σ H q => by
  obtain ⟨c, η, k, x, e1, ok, en, hw, h1, h2, h3, h4, hx⟩ := q
  show D.rt .non H
  rw [← e1]
  exact h2 .non c .non hw ok .refl .non
theorem up_at {w : WS} {c c' : Cf} {η : List Sl} {k : Wk} {x : Xn} {σ : L2.St} {D : Ends} (en : EnvOk X.K c σ η) (ok' : c'.Ok) (l' : Le c c') (hw : w x k η c'.n)
    (h1 : ∀ η' c' σ', k.nx η' c'.n → c'.Ok → LeO (Owned σ η) c c' → (∀ a, Owned σ' η' a → Owned σ η a ∨ No c a) → EnvOk X.K c' σ' η' → D.nx σ' c'.H)
    (h2 : ∀ d c' v, k.rt d c'.n → c'.Ok → LeO (Owned σ η) c c' → RP X.K c' v d → D.rt v c'.H)
    (h3 : ∀ η' c' σ', k.bk η' c'.n → c'.Ok → LeO (Owned σ η) c c' → (∀ a, Owned σ' η' a → Owned σ η a ∨ No c a) → EnvOk X.K c' σ' η' → D.bk σ' c'.H)
    (h4 : ∀ η' c' σ', k.ct η' c'.n → c'.Ok → LeO (Owned σ η) c c' → (∀ a, Owned σ' η' a → Owned σ η a ∨ No c a) → EnvOk X.K c' σ' η' → D.ct σ' c'.H)
    (hx : XW X.K E x (Owned σ η) c) (ok : c.Ok) : upS X.K E w D σ c'.H := by
  have z : ∀ {σ2 : L2.St} {η2 : List Sl}, (∀ a, Owned σ2 η2 a → Owned σ η a ∨ No c' a) → ∀ a, Owned σ2 η2 a → Owned σ η a ∨ No c a := fun ho => own_trans (LeO.of l') own_refl ho ok ok'
  exact ⟨c', η, k, x, rfl, ok', en.le l', hw, fun η2 c2 σ2 hn ok2 l2 ho en2 => h1 η2 c2 σ2 hn ok2 (l'.thnO l2) (z ho) en2, fun d c2 v hd ok2 l2 rp => h2 d c2 v hd ok2 (l'.thnO l2) rp,
    fun η2 c2 σ2 hn ok2 l2 ho en2 => h3 η2 c2 σ2 hn ok2 (l'.thnO l2) (z ho) en2, fun η2 c2 σ2 hn ok2 l2 ho en2 => h4 η2 c2 σ2 hn ok2 (l'.thnO l2) (z ho) en2, hx.le l'⟩
theorem qs_if {t : Expr} {a b : List Stmt} {wt : WT} {wa wb : WS} (ht : PT X t (upT X.K E wt)) (ha : PSs X a (upS X.K E wa)) (hb : PSs X b (upS X.K E wb)) : PS X (.If t a b pos) (upS X.K E (sIf wt wa wb)) := ps_to (ps_if ht ha hb) fun D σ H q => by
  obtain ⟨c, η, k, x, e1, ok, en, hw, h1, h2, h3, h4, hx⟩ := q
  refine ⟨c, η, _, x, e1, ok, en, hw, fun b c' hd ok' l' => ?_, hx.none⟩
  cases b with
  | true => exact up_at en ok' l' hd h1 h2 h3 h4 hx ok
  | false => exact up_at en ok' l' hd h1 h2 h3 h4 hx ok
theorem qs_expr {e : Expr} {w : WE} (h : PE X e (upB X.K E w)) (hs : swapsWith e none pos.line X.env = pure false := by rfl) : PS X (.Expr e pos) (upS X.K E (sExpr w)) := ps_to (ps_expr h hs) fun D σ H q => by
  obtain ⟨c, η, k, x, e1, ok, en, hw, h1, h2, h3, h4, hx⟩ := q
  exact ⟨c, η, _, x, e1, ok, en, hw, fun d c' v hd ok' l' rp => h1 η c' σ hd ok' (LeO.of l') own_refl (en.le l'), hx.none⟩
theorem asg_up {w : WE} {g : WG} {is : List Nat} : ∀ D σ H, upS X.K E (sAsg w g) D σ H → tAsg (up X.K E w) (upG X.K is g) D σ H := fun D σ H q => by
  obtain ⟨c, η, k, x, e1, ok, en, hw, h1, h2, h3, h4, hx⟩ := q
  refine ⟨c, η, _, x, e1, ok, en, hw, fun d c' v hd ok' l' rp => ?_, hx.none⟩
  exact ⟨c', η, d, _, rfl, ok', en.le l', rp, hd, fun η' σ' hk en' ho _ => h1 η' c' σ' hk ok' (LeO.of l') (fun a z => .inl (ho a z)) en'⟩
theorem qs_asg {tg e : Expr} {w : WE} {g : WG} (is : List Nat) (h : PE X e (up X.K E w)) (hg : PG X tg (upG X.K is g)) (hs : swapsWithSole [tg] e pos.line X.env = pure false := by rfl) (hw : swappedStores [tg] e X.env = pure none := by rfl)
    (h1 : (assignEach [tg] X.env).map (·.2) = [assign tg X.env] := by rfl) : PS X (.Assign [tg] e pos) (upS X.K E (sAsg w g)) := ps_to (ps_asg h hg hs hw h1) asg_up
/-- name = e, frozen -/
theorem qs_set {i : Nat} {y : Str} {e : Expr} {w : WE} {pos' : Pos} (hN : X.N.Nodup) (hi : X.N[i]? = some y) (hy : Loc X.env.scope y) (he : PE X e (up X.K E w)) (hs : swapsWith e (some (.Name y pos')) pos.line X.env = pure false := by rfl) (hf : X.fn y = true ∨ X.env.scope.names.lookup y = some .local := by first | exact .inl rfl | exact .inr rfl | assumption) :
    PS X (.Assign [.Name y pos'] e pos) (upS X.K E (sAsg w (gNm i))) := ps_to (ps_set hN hi hy he hs hf) fun D σ H q => by
  obtain ⟨c, η, k, x, e1, ok, en, hw, h1, h2, h3, h4, hx⟩ := q
  refine ⟨c, η, _, x, e1, ok, en, hw, fun d c' v hd ok' l' rp => ?_, hx.none⟩
  exact h1 _ c' _ hd ok' (LeO.of l') (fun a z => .inl (owned_set z)) ((en.le l').set rp)
/-- name = a new list, owned -/
theorem setN_up {i : Nat} {w : WN} : ∀ D σ H, upS X.K E (sSetN i w) D σ H → tAsg (upN X.K E w) (gName i) D σ H := fun D σ H q => by
  obtain ⟨c, η, k, x, e1, ok, en, hw, h1, h2, h3, h4, hx⟩ := q
  refine ⟨c, η, _, x, e1, ok, en, hw, fun xs c' p vs hd ok' l' hp hF hdr hH rp => ?_, hx.none⟩
  refine h1 _ c' _ hd ok' (LeO.of l') (fun a z => ?_) ((en.le l').own (fun j t _ q1 q2 q3 => ?_) ⟨p, vs, rfl, hH, hF, by rw [l'.dr]; exact hdr, rp⟩)
  · rcases owned_own z with z | z
    · exact .inl z
    · rw [z]
      exact .inr hp
  · obtain ⟨⟨us, hz, hu⟩, _⟩ := en.owned ⟨j, t, q1, q2, q3⟩
    exact hp.ne hz hu
theorem qs_setN {i : Nat} {y : Str} {e : Expr} {w : WN} {pos' : Pos} (hN : X.N.Nodup) (hi : X.N[i]? = some y) (hy : Loc X.env.scope y) (he : PE X e (upN X.K E w)) (hs : swapsWith e (some (.Name y pos')) pos.line X.env = pure false := by rfl) (hf : X.fn y = true ∨ X.env.scope.names.lookup y = some .local := by first | exact .inl rfl | exact .inr rfl | assumption) :
    PS X (.Assign [.Name y pos'] e pos) (upS X.K E (sSetN i w)) := ps_to (ps_set hN hi hy he hs hf) setN_up
/-- an owned slot is frozen -/
def frzAt (η : List Sl) (i : Nat) : List Sl := match η[i]? with
  | some (.ow xs) => η.set i (.dt (.lst xs))
  | _ => η
def sFrz (i : Nat) (w : WS) : WS := fun x k η n => w x k (frzAt η i) n
theorem frz_up {w : WS} (i : Nat) : ∀ D σ H, upS X.K E (sFrz i w) D σ H → upS X.K E w D σ H := fun D σ H q => by
  obtain ⟨c, η, k, x, e1, ok, en, hw, h1, h2, h3, h4, hx⟩ := q
  have hw : w x k (frzAt η i) c.n := hw
  unfold frzAt at hw
  cases hs : η[i]? with
  | none =>
    rw [hs] at hw
    exact ⟨c, η, k, x, e1, ok, en, hw, h1, h2, h3, h4, hx⟩
  | some s =>
    rw [hs] at hw
    cases s with
    | un => exact ⟨c, η, k, x, e1, ok, en, hw, h1, h2, h3, h4, hx⟩
    | cl _ => exact ⟨c, η, k, x, e1, ok, en, hw, h1, h2, h3, h4, hx⟩
    | dt d => exact ⟨c, η, k, x, e1, ok, en, hw, h1, h2, h3, h4, hx⟩
    | ob _ _ _ _ => exact ⟨c, η, k, x, e1, ok, en, hw, h1, h2, h3, h4, hx⟩
    | ow xs =>
      obtain ⟨p, vs, g1, g2, g3, g4, rp⟩ := en.ow hs
      obtain ⟨ok2, l2⟩ := ok.frz g2 g3 g4
      have how : Owned σ η p := ⟨i, _, hs, rfl, g1⟩
      have l3 : LeO (Owned σ η) c ⟨c.dr, upd c.F p (.lst vs), c.H, c.n, c.T⟩ := ⟨l2.dr, l2.f, fun a o _ _ _ h => h, fun a o h1 h2 h3 h4 => l2.fr a o h1 (fun z => h2 (by rw [z]; exact how)) h3 h4, l2.hd, l2.T⟩
      have sub : ∀ a, Owned σ (η.set i (.dt (.lst xs))) a → Owned σ η a := fun a z => owned_move hs rfl z
      have en2 : EnvOk X.K ⟨c.dr, upd c.F p (.lst vs), c.H, c.n, c.T⟩ σ (η.set i (.dt (.lst xs))) := by
        refine en.move hs rfl g1 rfl rfl l2.f (fun a o _ h => h) (fun a hn h => ?_) ⟨_, rfl, .lst upd_same (l3.rpl rp)⟩
        show upd c.F p (.lst vs) a = none
        rw [upd_ne hn]
        exact h
      refine ⟨⟨c.dr, upd c.F p (.lst vs), c.H, c.n, c.T⟩, _, k, x, e1, ok2, en2, hw, fun η2 c2 σ2 hn okk l ho e2 => ?_, fun d c2 v hd okk l rp => ?_, fun η2 c2 σ2 hn okk l ho e2 => ?_, fun η2 c2 σ2 hn okk l ho e2 => ?_, ?_⟩
      · exact h1 η2 c2 σ2 hn okk (l3.trans l fun a z => .inl (sub a z)) (fun a z => (ho a z).imp (sub a) id) e2
      · exact h2 d c2 v hd okk (l3.trans l fun a z => .inl (sub a z)) rp
      · exact h3 η2 c2 σ2 hn okk (l3.trans l fun a z => .inl (sub a z)) (fun a z => (ho a z).imp (sub a) id) e2
      · exact h4 η2 c2 σ2 hn okk (l3.trans l fun a z => .inl (sub a z)) (fun a z => (ho a z).imp (sub a) id) e2
      · exact hx.step l3 fun a z => .inl (sub a z)
theorem qss_frz {sts : List Stmt} {w : WS} (i : Nat) (h : PSs X sts (upS X.K E w)) : PSs X sts (upS X.K E (sFrz i w)) := pss_to h (frz_up i)
theorem qs_frz {w : WS} (i : Nat) (h : PS X st (upS X.K E w)) : PS X st (upS X.K E (sFrz i w)) := ps_to h (frz_up i)
end
end DL
set_option maxHeartbeats 2000000
namespace DL
open PySem PySem.Spec PyProof.Rows L2

/-! ### what is walked -/
/-- the frozen part has grown -/
structure Fs (c c1 : Cf) : Prop where
  dr : c1.dr = c.dr
  f : ∀ a o, c.F a = some o → c1.F a = some o
theorem Fs.of {ow : Addr → Prop} {c c1 : Cf} (l : LeO ow c c1) : Fs c c1 := ⟨l.dr, l.f⟩
theorem Fs.trans {c c1 c2 : Cf} (a : Fs c c1) (b : Fs c1 c2) : Fs c c2 := ⟨b.dr.trans a.dr, fun x o h => b.f x o (a.f x o h)⟩
theorem Fs.rp {K : PySem.W.Frag} {c c1 : Cf} {v : V} {d : D} (l : Fs c c1) (h : RP K c v d) : RP K c1 v d := by
  have e := Rp.mono (K := K) (dr := c.dr) l.f d v h
  show Rp K c1.dr c1.F v d
  rw [l.dr]
  exact e
theorem Fs.rpl {K : PySem.W.Frag} {c c1 : Cf} {v : List V} {d : List D} (l : Fs c c1) (h : RPL K c v d) : RPL K c1 v d := by
  have e := RpL.mono (K := K) (dr := c.dr) l.f d v h
  show RpL K c1.dr c1.F v d
  rw [l.dr]
  exact e
def IterOk (K : PySem.W.Frag) (J : It) (c : Cf) (xs : List D) : Prop := ∀ (i : Nat) (c1 : Cf), c1.Ok → Fs c c1 →
  (∀ d, xs[i]? = some d → J.go i c1.H ∧ ∀ v H2, J.yld i c1.H v H2 → ∃ c2 : Cf, c2.H = H2 ∧ c2.n = c1.n ∧ c2.Ok ∧ Le c1 c2 ∧ RP K c2 v d) ∧ (xs.length ≤ i → J.stop i c1.H)
abbrev WI := Xn → List Sl → Nat → (List D → Nat → Prop) → Prop
def upI (K : PySem.W.Frag) (E : XK) (w : WI) : TI := fun σ H Q => ∃ c η R x, c.H = H ∧ c.Ok ∧ EnvOk K c σ η ∧ w x η c.n R ∧ (∀ xs c' J, R xs c'.n → c'.Ok → Le c c' → IterOk K J c' xs → Q J c'.H) ∧ XW K E x (fun _ => False) c
section
variable {X : Cx} {E : XK} {tg : Expr}
theorem pi_to {e : Expr} {t t' : TI} (h : PI X tg e t) (i : ∀ σ H Q, t' σ H Q → t σ H Q) : PI X tg e t' := ⟨fun pins s σ H Q I q => h.run pins s σ H Q I (i σ H Q q)⟩
/-- a list or a tuple, whichever it is -/
def iSeq (K : PySem.W.Frag) (tl : TE) : TI := fun σ H R => tl σ H fun x H1 => ∃ a, x = .ref a ∧ (((∃ xs, SqL K H1 a xs) ∧ R (Itl K a) H1) ∨ ((∃ xs, SqT K H1 a xs) ∧ R (Itt K a) H1))
theorem pi_seq {l : Expr} {tl : TE} (hl : PE X l tl) : PI X tg l (iSeq X.K tl) := by
  refine ⟨fun pins s σ H R I h => ?_⟩
  refine thn (hl.run pins s σ H _ I h) fun v s1 ⟨x, H1, I1, r1, q1⟩ => ?_
  obtain ⟨a, e, q⟩ := q1
  subst e
  cases r1
  rcases q with ⟨⟨xs, hq⟩, q⟩ | ⟨⟨xs, hq⟩, q⟩
  · obtain ⟨its, rv, p, hz⟩ := I1.list hq
    refine wpAny_pyIter_list p.isList ?_
    refine ⟨s1.heap.objs.size, [s1.heap.objs.size], _, _, H1, rfl, I1.kept (t' := s1.toks) fun b o e => Heap.get?_push_of_some _ e, turn_list a _, ⟨_, Heap.get?_push_size _ rfl, rfl, rfl⟩, fun b hb => ?_, q⟩
    have e : b = s1.heap.objs.size := by simpa using hb
    subst e
    exact I1.fpOk (Nat.le_refl _) (I1.hok.fresh (Nat.le_refl _))
  · obtain ⟨its, rv, p, hz⟩ := I1.tuple hq
    refine wpAny_pyIter_tuple (show s1.heap.IsTuple a its.toArray from p) ?_
    refine ⟨s1.heap.objs.size, [s1.heap.objs.size], _, _, H1, rfl, I1.kept (t' := s1.toks) fun b o e => Heap.get?_push_of_some _ e, turn_tuple a _, ⟨_, Heap.get?_push_size _ rfl, rfl, rfl⟩, fun b hb => ?_, q⟩
    have e : b = s1.heap.objs.size := by simpa using hb
    subst e
    exact I1.fpOk (Nat.le_refl _) (I1.hok.fresh (Nat.le_refl _))
theorem sqL_frz {K : PySem.W.Frag} {H : Hp} {a : Addr} {xs ys : List V} (X0 : H a = some (.lst xs)) (hI : SqL K H a ys) (hk : K.lookup a = none) : ys = xs := by
  rcases hI with (h | ⟨o, h⟩) | ⟨o, its, n, h, _⟩
  · rw [X0] at h
    cases h
    rfl
  · rw [X0] at h
    cases h
  · rw [hk] at h
    cases h
/-- the items of a sequence -/
def seqOf : D → (List D → Prop) → Prop
  | .lst xs, k => k xs
  | .tup xs, k => k xs
  | _, _ => False
def iSq (w : WE) : WI := fun x η n R => w x η n fun d n1 => seqOf d fun xs => R xs n1
theorem iter_lst {K : PySem.W.Frag} {c : Cf} {a : Addr} {vs : List V} {xs : List D} (f : c.F a = some (.lst vs)) (r : RPL K c vs xs) : IterOk K (Itl K a) c xs := fun i c1 ok1 l1 => by
  have e : c1.H a = some (.lst vs) := ok1.sub _ _ (l1.f _ _ f)
  refine ⟨fun d hd => ?_, fun hi => ?_⟩
  · obtain ⟨v, hv, rv⟩ := r.get hd
    refine ⟨⟨vs, v, .of e, hv⟩, fun u H2 hy => ?_⟩
    obtain ⟨rfl, hy⟩ := hy
    have z := hy vs (.of e)
    rw [hv] at z
    cases z
    exact ⟨c1, rfl, rfl, ok1, .refl, l1.rp rv⟩
  · exact ⟨vs, .of e, by rw [r.length]; exact hi⟩
theorem iter_tup {K : PySem.W.Frag} {c : Cf} {a : Addr} {vs : List V} {xs : List D} (f : c.F a = some (.tup vs)) (r : RPL K c vs xs) : IterOk K (Itt K a) c xs := fun i c1 ok1 l1 => by
  have e : c1.H a = some (.tup vs) := ok1.sub _ _ (l1.f _ _ f)
  refine ⟨fun d hd => ?_, fun hi => ?_⟩
  · obtain ⟨v, hv, rv⟩ := r.get hd
    refine ⟨⟨vs, v, .of e, hv⟩, fun u H2 hy => ?_⟩
    obtain ⟨rfl, hy⟩ := hy
    have z := hy vs (.of e)
    rw [hv] at z
    cases z
    exact ⟨c1, rfl, rfl, ok1, .refl, l1.rp rv⟩
  · exact ⟨vs, .of e, by rw [r.length]; exact hi⟩
theorem qi_sq {l : Expr} {w : WE} (h : PE X l (up X.K E w)) : PI X tg l (upI X.K E (iSq w)) := pi_to (pi_seq h) fun σ H Q q => by
  obtain ⟨c, η, R, x, e1, ok, en, hw, hr, hx⟩ := q
  refine ⟨c, η, _, x, e1, ok, en, hw, fun d c' v hd ok' l' rp => ?_, hx⟩
  cases rp <;> first | exact hd.elim | skip
  · rename_i a vs ds f r
    exact ⟨a, rfl, .inr ⟨⟨vs, .of (ok'.sub _ _ f)⟩, hr ds c' _ hd ok' l' (iter_tup f r)⟩⟩
  · rename_i a vs ds f r
    exact ⟨a, rfl, .inl ⟨⟨vs, .of (ok'.sub _ _ f)⟩, hr ds c' _ hd ok' l' (iter_lst f r)⟩⟩
/-- ranges -/
def rangeD (lo : Int) : Nat → List D
  | 0 => []
  | n + 1 => .int lo :: rangeD (lo + 1) n
theorem rangeD_len : ∀ (n : Nat) (lo : Int), (rangeD lo n).length = n
  | 0, _ => rfl
  | n + 1, lo => congrArg Nat.succ (rangeD_len n (lo + 1))
theorem rangeD_get : ∀ (n : Nat) (lo : Int) (i : Nat) (d : D), (rangeD lo n)[i]? = some d → i < n ∧ d = .int (lo + i)
  | 0, _, i, d, h => by simp [rangeD] at h
  | n + 1, lo, 0, d, h => by
    simp [rangeD] at h
    subst h
    exact ⟨Nat.succ_pos _, by simp⟩
  | n + 1, lo, i + 1, d, h => by
    have h' : (rangeD (lo + 1) n)[i]? = some d := by simpa [rangeD] using h
    obtain ⟨h1, h2⟩ := rangeD_get n (lo + 1) i d h'
    refine ⟨Nat.succ_lt_succ h1, ?_⟩
    rw [h2]
    congr 1
    omega
theorem iter_rng {K : PySem.W.Frag} {c : Cf} {lo : Int} {n : Nat} : IterOk K (Itr lo n) c (rangeD lo n) := fun i c1 ok1 l1 => by
  refine ⟨fun d hd => ?_, fun hi => by rw [rangeD_len] at hi; exact hi⟩
  obtain ⟨h1, h2⟩ := rangeD_get n lo i d hd
  refine ⟨h1, fun v H2 hy => ?_⟩
  obtain ⟨rfl, rfl⟩ := hy
  subst h2
  exact ⟨c1, rfl, rfl, ok1, .refl, .int _⟩
def Rg (i : Int) : Prop := -(2 ^ 62) ≤ i ∧ i < 2 ^ 62
def iR1 (w : WA) : WI := fun x η n R => w x η n fun ds n1 => match ds with
  | [.int j] => Rg j ∧ R (rangeD 0 j.toNat) n1
  | _ => False
def iR2 (w : WA) : WI := fun x η n R => w x η n fun ds n1 => match ds with
  | [.int i, .int j] => Rg i ∧ Rg j ∧ R (rangeD i (j - i).toNat) n1
  | _ => False
theorem qi_r1 {a : Expr} {w : WA} {p pos : Pos} (hg : Gl X "range") (hm : X.mg "range" = none) (ha : PA X [a] (upA X.K E w)) (hs : starEach [a] X.env = [(false, eval a X.env)] := by rfl) : PI X tg (.Call (.Name "range" p) [a] [] pos) (upI X.K E (iR1 w)) := pi_to (pi_range1 hg hm ha hs) fun σ H Q q => by
  obtain ⟨c, η, R, x, e1, ok, en, hw, hr, hx⟩ := q
  refine ⟨c, η, _, x, e1, ok, en, hw, fun ds c' vs hd ok' l' rp => ?_, hx⟩
  split at hd
  · rename_i j
    obtain ⟨⟨g1, g2⟩, hd⟩ := hd
    cases rp with
    | cons r1 t =>
      cases t
      cases r1
      exact ⟨j, rfl, g1, g2, hr _ c' _ hd ok' l' iter_rng⟩
  · exact hd.elim
theorem qi_r2 {a b : Expr} {w : WA} {p pos : Pos} (hg : Gl X "range") (hm : X.mg "range" = none) (ha : PA X [a, b] (upA X.K E w)) (hs : starEach [a, b] X.env = [(false, eval a X.env), (false, eval b X.env)] := by rfl) (hs2 : starEach [b] X.env = [(false, eval b X.env)] := by rfl) :
    PI X tg (.Call (.Name "range" p) [a, b] [] pos) (upI X.K E (iR2 w)) := pi_to (pi_range2 hg hm ha hs hs2) fun σ H Q q => by
  obtain ⟨c, η, R, x, e1, ok, en, hw, hr, hx⟩ := q
  refine ⟨c, η, _, x, e1, ok, en, hw, fun ds c' vs hd ok' l' rp => ?_, hx⟩
  split at hd
  · rename_i i j
    obtain ⟨⟨g1, g2⟩, ⟨g3, g4⟩, hd⟩ := hd
    cases rp with
    | cons r1 t =>
      cases t with
      | cons r2 t =>
        cases t
        cases r1
        cases r2
        exact ⟨i, j, rfl, ⟨g1, g2, g3, g4⟩, hr _ c' _ hd ok' l' iter_rng⟩
  · exact hd.elim
/-- enumerate of a list -/
def enumD (i : Int) : List D → List D
  | [] => []
  | d :: ds => .tup [.int i, d] :: enumD (i + 1) ds
theorem enumD_len : ∀ (ds : List D) (i : Int), (enumD i ds).length = ds.length
  | [], _ => rfl
  | d :: ds, i => congrArg Nat.succ (enumD_len ds (i + 1))
theorem enumD_get : ∀ (ds : List D) (s : Int) (i : Nat) (d : D), (enumD s ds)[i]? = some d → ∃ d', ds[i]? = some d' ∧ d = .tup [.int (s + i), d']
  | [], _, i, d, h => by simp [enumD] at h
  | d0 :: ds, s, 0, d, h => by
    simp [enumD] at h
    exact ⟨d0, rfl, by rw [← h]; simp⟩
  | d0 :: ds, s, i + 1, d, h => by
    have h' : (enumD (s + 1) ds)[i]? = some d := by simpa [enumD] using h
    obtain ⟨d', h1, h2⟩ := enumD_get ds (s + 1) i d h'
    refine ⟨d', by simpa using h1, ?_⟩
    rw [h2]
    congr 3
    omega
theorem new_pair {K : PySem.W.Frag} {c : Cf} {T : Addr} {x y : V} {a b : D} (ok : c.Ok) (hT : c.H T = none) (rx : RP K c x a) (ry : RP K c y b) : ∃ c2 : Cf, c2.H = upd c.H T (.tup [x, y]) ∧ c2.n = c.n ∧ c2.Ok ∧ Le c c2 ∧ RP K c2 (.ref T) (.tup [a, b]) := by
  obtain ⟨ok2, l2⟩ := ok.newF (o := .tup [x, y]) hT
  exact ⟨⟨c.dr, upd c.F T (.tup [x, y]), upd c.H T (.tup [x, y]), c.n, c.T⟩, rfl, rfl, ok2, l2, .tup upd_same (.cons (l2.rp rx) (.cons (l2.rp ry) .nil))⟩
theorem iter_enum {K : PySem.W.Frag} {c : Cf} {a : Addr} {vs : List V} {xs : List D} (f : c.F a = some (.lst vs)) (r : RPL K c vs xs) : IterOk K (Ite K a) c (enumD 0 xs) := fun i c1 ok1 l1 => by
  have e : c1.H a = some (.lst vs) := ok1.sub _ _ (l1.f _ _ f)
  refine ⟨fun d hd => ?_, fun hi => ?_⟩
  · obtain ⟨d', h1, h2⟩ := enumD_get xs 0 i d hd
    obtain ⟨v, hv, rv⟩ := r.get h1
    refine ⟨⟨vs, v, .of e, hv⟩, fun u H2 hy => ?_⟩
    obtain ⟨T, z, rfl, hT, rfl, hz⟩ := hy
    have q := hz vs (.of e)
    rw [hv] at q
    cases q
    subst h2
    have := new_pair ok1 hT (Rp.int (K := K) (dr := c1.dr) (F := c1.F) (i : Int)) (l1.rp rv)
    simpa using this
  · rw [enumD_len] at hi
    exact ⟨vs, .of e, by rw [r.length]; exact hi⟩
def iEn (w : WA) : WI := fun x η n R => w x η n fun ds n1 => match ds with
  | [.lst xs] => R (enumD 0 xs) n1
  | _ => False
theorem qi_en {e : Expr} {w : WA} {p pos tpos : Pos} {elts : List Expr} {kk : Nat} (hg : Gl X "enumerate") (hm : X.mg "enumerate" = none) (ha : PA X [e] (upA X.K E w)) (hs : starEach [e] X.env = [(false, eval e X.env)] := by rfl) :
    PI X (.Tuple elts kk tpos) (.Call (.Name "enumerate" p) [e] [] pos) (upI X.K E (iEn w)) := pi_to (pi_enum hg hm ha hs) fun σ H Q q => by
  obtain ⟨c, η, R, x, e1, ok, en, hw, hr, hx⟩ := q
  refine ⟨c, η, _, x, e1, ok, en, hw, fun ds c' vs hd ok' l' rp => ?_, hx⟩
  split at hd
  · cases rp with
    | cons r1 t =>
      cases t
      cases r1 with
      | lst f r => exact ⟨_, _, rfl, .of (ok'.sub _ _ f), hr _ c' _ hd ok' l' (iter_enum f r)⟩
  · exact hd.elim
/-- zip of two lists, of two tuples -/
def zipD : List D → List D → List D
  | a :: as, b :: bs => .tup [a, b] :: zipD as bs
  | _, _ => []
theorem zipD_len : ∀ (as bs : List D), (zipD as bs).length = min as.length bs.length
  | [], _ => by simp [zipD]
  | _ :: _, [] => by simp [zipD]
  | a :: as, b :: bs => by
    show (zipD as bs).length + 1 = min (as.length + 1) (bs.length + 1)
    rw [zipD_len as bs]
    omega
theorem zipD_get : ∀ (as bs : List D) (i : Nat) (d : D), (zipD as bs)[i]? = some d → ∃ a b, as[i]? = some a ∧ bs[i]? = some b ∧ d = .tup [a, b]
  | [], _, i, d, h => by simp [zipD] at h
  | _ :: _, [], i, d, h => by simp [zipD] at h
  | a :: as, b :: bs, 0, d, h => by
    simp [zipD] at h
    exact ⟨a, b, rfl, rfl, h.symm⟩
  | a :: as, b :: bs, i + 1, d, h => by
    obtain ⟨a', b', h1, h2, h3⟩ := zipD_get as bs i d (by simpa [zipD] using h)
    exact ⟨a', b', by simpa using h1, by simpa using h2, h3⟩
def iZp (w : WA) : WI := fun x η n R => w x η n fun ds n1 => match ds with
  | [.lst xs, .lst ys] => R (zipD xs ys) n1
  | [.tup xs, .tup ys] => R (zipD xs ys) n1
  | _ => False
theorem iter_zipL {K : PySem.W.Frag} {c : Cf} {a b : Addr} {vs us : List V} {xs ys : List D} (f : c.F a = some (.lst vs)) (g : c.F b = some (.lst us)) (r : RPL K c vs xs) (s : RPL K c us ys) : IterOk K (Itz K a b) c (zipD xs ys) := fun i c1 ok1 l1 => by
  have e : c1.H a = some (.lst vs) := ok1.sub _ _ (l1.f _ _ f)
  have e' : c1.H b = some (.lst us) := ok1.sub _ _ (l1.f _ _ g)
  refine ⟨fun d hd => ?_, fun hi => ?_⟩
  · obtain ⟨p, q, h1, h2, rfl⟩ := zipD_get xs ys i d hd
    obtain ⟨v, hv, rv⟩ := r.get h1
    obtain ⟨u, hu, ru⟩ := s.get h2
    refine ⟨⟨vs, us, v, u, .of e, .of e', hv, hu⟩, fun w H2 hy => ?_⟩
    obtain ⟨T, z1, z2, rfl, hT, rfl, k1, k2⟩ := hy
    have q1 := k1 vs (.of e)
    rw [hv] at q1
    cases q1
    have q2 := k2 us (.of e')
    rw [hu] at q2
    cases q2
    exact new_pair ok1 hT (l1.rp rv) (l1.rp ru)
  · rw [zipD_len] at hi
    exact ⟨vs, us, .of e, .of e', by rw [r.length, s.length]; omega⟩
theorem iter_zipT {K : PySem.W.Frag} {c : Cf} {a b : Addr} {vs us : List V} {xs ys : List D} (f : c.F a = some (.tup vs)) (g : c.F b = some (.tup us)) (r : RPL K c vs xs) (s : RPL K c us ys) : IterOk K (RZ.ItzT K a b) c (zipD xs ys) := fun i c1 ok1 l1 => by
  have e : c1.H a = some (.tup vs) := ok1.sub _ _ (l1.f _ _ f)
  have e' : c1.H b = some (.tup us) := ok1.sub _ _ (l1.f _ _ g)
  refine ⟨fun d hd => ?_, fun hi => ?_⟩
  · obtain ⟨p, q, h1, h2, rfl⟩ := zipD_get xs ys i d hd
    obtain ⟨v, hv, rv⟩ := r.get h1
    obtain ⟨u, hu, ru⟩ := s.get h2
    refine ⟨⟨vs, us, v, u, .of e, .of e', hv, hu⟩, fun w H2 hy => ?_⟩
    obtain ⟨T, z1, z2, rfl, hT, rfl, k1, k2⟩ := hy
    have q1 := k1 vs (.of e)
    rw [hv] at q1
    cases q1
    have q2 := k2 us (.of e')
    rw [hu] at q2
    cases q2
    exact new_pair ok1 hT (l1.rp rv) (l1.rp ru)
  · rw [zipD_len] at hi
    exact ⟨vs, us, .of e, .of e', by rw [r.length, s.length]; omega⟩
theorem qi_zp {e e2 : Expr} {w : WA} {p pos tpos : Pos} {elts : List Expr} {kk : Nat} (hg : Gl X "zip") (hm : X.mg "zip" = none) (ha : PA X [e, e2] (upA X.K E w))
    (hs : starEach [e, e2] X.env = (false, eval e X.env) :: starEach [e2] X.env := by rfl) (hpl : (backTo pos (starEach [e2] X.env)).any (·.1) = false := by rfl) :
    PI X (.Tuple elts kk tpos) (.Call (.Name "zip" p) [e, e2] [] pos) (upI X.K E (iZp w)) := pi_to (RZ.pi_zipA hg hm ha hs hpl) fun σ H Q q => by
  obtain ⟨c, η, R, x, e1, ok, en, hw, hr, hx⟩ := q
  refine ⟨c, η, _, x, e1, ok, en, hw, fun ds c' vs hd ok' l' rp => ?_, hx⟩
  split at hd
  · cases rp with
    | cons r1 t =>
      cases t with
      | cons r2 t =>
        cases t
        cases r1 with
        | lst f r =>
          cases r2 with
          | lst g s => exact ⟨_, _, _, _, rfl, .inl ⟨.of (ok'.sub _ _ f), .of (ok'.sub _ _ g), hr _ c' _ hd ok' l' (iter_zipL f g r s)⟩⟩
  · cases rp with
    | cons r1 t =>
      cases t with
      | cons r2 t =>
        cases t
        cases r1 with
        | tup f r =>
          cases r2 with
          | tup g s => exact ⟨_, _, _, _, rfl, .inr ⟨.of (ok'.sub _ _ f), .of (ok'.sub _ _ g), hr _ c' _ hd ok' l' (iter_zipT f g r s)⟩⟩
  · exact hd.elim

/-! ### for -/
def runFor (x : Xn) (k : Wk) (g : WG) (b : WS) : List D → List Sl → Nat → Prop
  | [], η, n => k.nx η n
  | d :: ds, η, n => g d η fun η' => b x { nx := runFor x k g b ds, ct := runFor x k g b ds, bk := k.nx, rt := k.rt } η' n
def sFor (wi : WI) (g : WG) (b : WS) : WS := fun x k η n => wi x η n fun xs n1 => runFor x k g b xs η n1
variable {pos : Pos}
theorem qs_for {iter : Expr} {body : List Stmt} {wi : WI} {g : WG} {b : WS} (hp : PassesOwn (model X.prog X.w) X.A X.env X.xe) (hc : X.calm = true) (hi : PI X tg iter (upI X.K E wi)) {is : List Nat} (hg : PG X tg (upG X.K is g)) (hb : PSs X body (upS X.K E b))
    (hs : ∀ x, foldedSetIterable iter X.env x = pure x := by intro _; rfl) : PS X (.For tg iter body [] pos) (upS X.K E (sFor wi g b)) := ps_to (ps_for hp hc hi hg hb hs) fun D σ H q => by
  obtain ⟨c, η, k, x, e1, ok, en, hw, h1, h2, h3, h4, hx⟩ := q
  refine ⟨c, η, _, x, e1, ok, en, hw, fun xs c0 J hd ok0 l0 it => ?_, hx.none⟩
  refine ⟨fun i m σ1 H1 => ∃ c1 η1, c1.H = H1 ∧ c1.Ok ∧ EnvOk X.K c1 σ1 η1 ∧ LeO (Owned σ η) c c1 ∧ (∀ a, Owned σ1 η1 a → Owned σ η a ∨ No c a) ∧ Fs c0 c1 ∧ i + m = xs.length ∧ runFor x k g b (xs.drop i) η1 c1.n,
    ⟨xs.length, c0, η, rfl, ok0, en.le l0, LeO.of l0, own_refl, ⟨rfl, fun _ _ h => h⟩, by omega, by simpa using hd⟩, ?_⟩
  rintro i m σ1 H1 ⟨c1, η1, rfl, ok1, en1, l1, ho1, f1, hm, hrun⟩
  obtain ⟨it1, it2⟩ := it i c1 ok1 f1
  by_cases hlt : i < xs.length
  · have hget : xs[i]? = some xs[i] := List.getElem?_eq_getElem hlt
    obtain ⟨go, yl⟩ := it1 _ hget
    have hdrop : xs.drop i = xs[i] :: xs.drop (i + 1) := (List.getElem_cons_drop (h := hlt)).symm
    rw [hdrop] at hrun
    refine .inr ⟨go, fun σ2 H2 => ∃ c2 η2, c2.H = H2 ∧ c2.Ok ∧ EnvOk X.K c2 σ2 η2 ∧ LeO (Owned σ η) c c2 ∧ (∀ a, Owned σ2 η2 a → Owned σ η a ∨ No c a) ∧ Fs c0 c2 ∧ runFor x k g b (xs.drop (i + 1)) η2 c2.n, fun σ2 H2 hN => ?_, fun v H2 hy => ?_⟩
    · obtain ⟨c2, η2, z1, z2, z3, z4, z5, z6, z7⟩ := hN
      exact ⟨m - 1, by omega, c2, η2, z1, z2, z3, z4, z5, z6, by omega, z7⟩
    · obtain ⟨c2, rfl, hn2, ok2, l2, rp2⟩ := yl v H2 hy
      refine ⟨c2, η1, xs[i], _, rfl, ok2, en1.le l2, rp2, hrun, fun η3 σ3 hb3 en3 ho3 _ => ?_⟩
      have l12 : LeO (Owned σ η) c c2 := l1.thn l2
      have ho3' : ∀ a, Owned σ3 η3 a → Owned σ η a ∨ No c a := fun a z => ho1 a (ho3 a z)
      have f2 : Fs c0 c2 := f1.trans (Fs.of l2)
      have nx : ∀ η4 c4 σ4, runFor x k g b (xs.drop (i + 1)) η4 c4.n → c4.Ok → LeO (Owned σ3 η3) c2 c4 → (∀ a, Owned σ4 η4 a → Owned σ3 η3 a ∨ No c2 a) → EnvOk X.K c4 σ4 η4 → ∃ c2 η2, c2.H = c4.H ∧ c2.Ok ∧ EnvOk X.K c2 σ4 η2 ∧ LeO (Owned σ η) c c2 ∧ (∀ a, Owned σ4 η2 a → Owned σ η a ∨ No c a) ∧ Fs c0 c2 ∧ runFor x k g b (xs.drop (i + 1)) η2 c2.n :=
        fun η4 c4 σ4 hr4 ok4 l4 ho4 en4 => ⟨c4, η4, rfl, ok4, en4, l12.trans l4 ho3', own_trans l12 ho3' ho4 ok ok2, f2.trans (Fs.of l4), hr4⟩
      refine ⟨c2, η3, { nx := runFor x k g b (xs.drop (i + 1)), ct := runFor x k g b (xs.drop (i + 1)), bk := k.nx, rt := k.rt }, x, rfl, ok2, en3, (by rw [hn2]; exact hb3), nx, fun d c4 v hd4 ok4 l4 rp4 => h2 d c4 v hd4 ok4 (l12.trans l4 ho3') rp4, fun η4 c4 σ4 hr4 ok4 l4 ho4 en4 => ?_, nx, hx.step l12 ho3'⟩
      exact h1 η4 c4 σ4 hr4 ok4 (l12.trans l4 ho3') (own_trans l12 ho3' ho4 ok ok2) en4
  · have hdrop : xs.drop i = [] := List.drop_eq_nil_of_le (by omega)
    rw [hdrop] at hrun
    exact .inl ⟨it2 (by omega), h1 η1 c1 σ1 hrun ok1 l1 ho1 en1⟩
/-- while -/
def sWhile (t : WT) (b : WS) : WS := fun x k η n => ∃ (I : List Sl → Nat → Prop) (μ : List Sl → Nat → Nat), I η n ∧ ∀ η1 n1, I η1 n1 → t x η1 n1 fun c n2 => if c = true then b x { nx := fun η3 n3 => I η3 n3 ∧ μ η3 n3 < μ η1 n1, ct := fun η3 n3 => I η3 n3 ∧ μ η3 n3 < μ η1 n1, bk := k.nx, rt := k.rt } η1 n2 else k.nx η1 n2
theorem qs_while {t : Expr} {body : List Stmt} {wt : WT} {b : WS} (hp : PassesOwn (model X.prog X.w) X.A X.env X.xe) (ht : PT X t (upT X.K E wt)) (hb : PSs X body (upS X.K E b)) : PS X (.While t body [] pos) (upS X.K E (sWhile wt b)) := ps_to (ps_while hp ht hb) fun D σ H q => by
  obtain ⟨c, η, k, x, e1, ok, en, hw, h1, h2, h3, h4, hx⟩ := q
  obtain ⟨I, μ, hI, hstep⟩ := hw
  refine ⟨fun m σ1 H1 => ∃ c1 η1, c1.H = H1 ∧ c1.Ok ∧ EnvOk X.K c1 σ1 η1 ∧ LeO (Owned σ η) c c1 ∧ (∀ a, Owned σ1 η1 a → Owned σ η a ∨ No c a) ∧ I η1 c1.n ∧ m = μ η1 c1.n, ⟨_, c, η, e1, ok, en, .refl, own_refl, hI, rfl⟩, ?_⟩
  rintro m σ1 H1 ⟨c1, η1, rfl, ok1, en1, l1, ho1, hI1, rfl⟩
  refine ⟨c1, η1, _, x, rfl, ok1, en1, hstep η1 c1.n hI1, fun b c2 hd ok2 l2 => ?_, (hx.step l1 ho1).none⟩
  have l12 : LeO (Owned σ η) c c2 := l1.thn l2
  cases b with
  | false => exact h1 η1 c2 σ1 hd ok2 l12 ho1 (en1.le l2)
  | true =>
    replace hd := hd
    rw [if_pos rfl] at hd
    have nx : ∀ η4 c4 σ4, (I η4 c4.n ∧ μ η4 c4.n < μ η1 c1.n) → c4.Ok → LeO (Owned σ1 η1) c2 c4 → (∀ a, Owned σ4 η4 a → Owned σ1 η1 a ∨ No c2 a) → EnvOk X.K c4 σ4 η4 → ∃ m', m' < μ η1 c1.n ∧ ∃ c1 η1, c1.H = c4.H ∧ c1.Ok ∧ EnvOk X.K c1 σ4 η1 ∧ LeO (Owned σ η) c c1 ∧ (∀ a, Owned σ4 η1 a → Owned σ η a ∨ No c a) ∧ I η1 c1.n ∧ m' = μ η1 c1.n :=
      fun η4 c4 σ4 hr4 ok4 l4 ho4 en4 => ⟨_, hr4.2, c4, η4, rfl, ok4, en4, l12.trans l4 ho1, own_trans l12 ho1 ho4 ok ok2, hr4.1, rfl⟩
    refine iteT ⟨_, fun σ' H' h => h, c2, η1, { nx := fun η3 n3 => I η3 n3 ∧ μ η3 n3 < μ η1 c1.n, ct := fun η3 n3 => I η3 n3 ∧ μ η3 n3 < μ η1 c1.n, bk := k.nx, rt := k.rt }, x, rfl, ok2, en1.le l2, hd, nx, fun d c4 v hd4 ok4 l4 rp4 => h2 d c4 v hd4 ok4 (l12.trans l4 ho1) rp4, fun η4 c4 σ4 hr4 ok4 l4 ho4 en4 => ?_, nx, hx.step l12 ho1⟩
    exact h1 η4 c4 σ4 hr4 ok4 (l12.trans l4 ho1) (own_trans l12 ho1 ho4 ok ok2) en4

/-! ### list comprehensions -/
def wipeS (η : List Sl) : List Nat → List Sl
  | [] => η
  | v :: vs => (wipeS η vs).set v .un
theorem EnvOk.wipe {K : PySem.W.Frag} {c : Cf} {σ : L2.St} {η : List Sl} (e : EnvOk K c σ η) : ∀ vs : List Nat, EnvOk K c (L2.wipe σ vs) (wipeS η vs)
  | [] => e
  | v :: vs => (EnvOk.wipe e vs).unset
def runLc (x : Xn) (η : List Sl) (g : WG) (t : WT) (w : WE) (R : List D → Nat → Prop) : List D → List D → Nat → Prop
  | [], acc, n => R acc n
  | d :: ds, acc, n => g d η fun η' => t x η' n fun b n1 => if b = true then w x η' n1 fun y n2 => acc.length < sizeLine ∧ runLc x η g t w R ds (acc ++ [y]) n2 else runLc x η g t w R ds acc n1
def nLc (vs : List Nat) (wi : WI) (g : WG) (t : WT) (w : WE) : WN := fun x η n R => wi x η n fun xs n1 => runLc x (wipeS η vs) g t w R xs [] n1
def wYes : WT := fun _ _ n R => R true n
theorem pts_to {e : List Expr} {t t' : TT} (h : PTs X e t) (i : ∀ σ H Q, t' σ H Q → t σ H Q) : PTs X e t' := ⟨fun pins s σ H Q I q => h.run pins s σ H Q I (i σ H Q q)⟩
theorem qts_nil : PTs X [] (upT X.K E wYes) := pts_to pts_nil fun σ H Q q => by
  obtain ⟨c, η, R, x, e1, ok, en, hw, hr, hx⟩ := q
  show Q true H
  rw [← e1]
  exact hr true c hw ok .refl
theorem qts_one {e : Expr} {t : WT} (h : PT X e (upT X.K E t)) : PTs X [e] (upT X.K E t) := pts_one h
/-- the list under way, at D, is changed: c goes on -/
theorem Cf.Ok.put {c0 c : Cf} {p : Addr} {o u : HO} (ok : c.Ok) (l : Le c0 c) (h0 : No c0 p) (hp : c.H p = some o) (hF : c.F p = none) (hd : p ≠ c.dr) (hz1 : ∀ ps, o ≠ .tbl ps := by exact nofun) (hz2 : ∀ φ, o ≠ .ext φ := by exact nofun) (hz3 : ∀ ps, u ≠ .tbl ps := by exact nofun) : (⟨c.dr, c.F, upd c.H p u, c.n, c.T⟩ : Cf).Ok ∧ Le c0 ⟨c.dr, c.F, upd c.H p u, c.n, c.T⟩ := by
  refine ⟨⟨fun a w e => ?_, ok.nf, ?_, tabs_put ok.tb hp hz1 hz2, ok.nt⟩, l.dr, l.f, fun a w h1 h2 hz h3 => ?_, l.fr, fun a w hw e => ?_, l.T⟩
  · show upd c.H p u a = some w
    rw [upd_ne (ne_of_none e hF)]
    exact ok.sub _ _ e
  · show Drw c.n c.F (upd c.H p u c.dr)
    rw [upd_ne (Ne.symm hd)]
    exact ok.dw
  · show upd c.H p u a = some w
    rw [upd_ne (fun z => h0.ne hz (by rw [← z]; exact h3))]
    exact l.h a w h1 h2 hz h3
  · obtain ⟨o', hz', e'⟩ := l.hd a w hw e
    exact upd_some hz' hz3 e'
/-! the comprehension's block -/
theorem wipe_get (σ : L2.St) : ∀ (is : List Nat) (j : Nat), (L2.wipe σ is)[j]? = if j ∈ is then (σ[j]?).map (fun _ => none) else σ[j]?
  | [], j => by simp [L2.wipe]
  | i :: is, j => by
    unfold L2.wipe
    by_cases h : j = i
    · subst h
      rw [List.getElem?_set]
      simp only [if_true, List.mem_cons, true_or, L2.wipe_length]
      by_cases hl : j < σ.length
      · simp [hl]
      · simp [hl]
    · rw [List.getElem?_set_ne (Ne.symm h), wipe_get σ is j]
      simp [h]
theorem wipe_out {is : List Nat} {σ σ' : L2.St} (h : Out is (L2.wipe σ is) σ') : L2.wipe σ' is = L2.wipe σ is := by
  apply List.ext_getElem?
  intro j
  rw [wipe_get, wipe_get]
  by_cases hj : j ∈ is
  · rw [if_pos hj, if_pos hj]
    have hl : σ'.length = σ.length := by rw [h.1, L2.wipe_length]
    by_cases hb : j < σ.length
    · rw [List.getElem?_eq_getElem hb, List.getElem?_eq_getElem (by omega : j < σ'.length)]
      rfl
    · rw [List.getElem?_eq_none_iff.mpr (by omega : σ.length ≤ j), List.getElem?_eq_none_iff.mpr (by omega : σ'.length ≤ j)]
  · rw [if_neg hj, if_neg hj, h.2 j hj, wipe_get, if_neg hj]
theorem lc_up {K : PySem.W.Frag} {is : List Nat} {wi : WI} {g : WG} {t : WT} {w : WE} : ∀ σ H Q, upN K E (nLc is wi g t w) σ H Q → tLc (upI K E wi) (upG K is g) (upT K E t) (up K E w) is σ H Q := fun σ H Q q => by
  obtain ⟨c, η, R, x, e1, ok, en, hw, hr, hx⟩ := q
  refine ⟨c, η, _, x, e1, ok, en, hw, fun xs c0 J hd ok0 l0 it => ?_, hx⟩
  intro L hL
  obtain ⟨okL, lL, hFL, hdL⟩ := ok0.newH (o := .lst []) hL
  have hL0 : No c L := No.back l0 (No.of hL)
  have hLd : L ≠ c.dr := by rw [← l0.dr]; exact hdL
  have enw : EnvOk K c (L2.wipe σ is) (wipeS η is) := en.wipe is
  refine ⟨fun i m H1 => ∃ c1 vs acc, c1.H = H1 ∧ c1.Ok ∧ Le c c1 ∧ Fs c0 c1 ∧ c1.H L = some (.lst vs) ∧ c1.F L = none ∧ RPL K c1 vs acc ∧ i + m = xs.length ∧ runLc x (wipeS η is) g t w R (xs.drop i) acc c1.n,
    ⟨xs.length, ⟨c0.dr, c0.F, upd c0.H L (.lst []), c0.n, c0.T⟩, [], [], rfl, okL, l0.trans lL, Fs.of lL, upd_same, hFL, .nil, by omega, by simpa using hd⟩, ?_⟩
  rintro i m H1 ⟨c1, vs, acc, rfl, ok1, l1, f1, hH1, hF1, rp1, hm, hrun⟩
  obtain ⟨it1, it2⟩ := it i c1 ok1 f1
  by_cases hlt : i < xs.length
  · have hget : xs[i]? = some xs[i] := List.getElem?_eq_getElem hlt
    obtain ⟨go, yl⟩ := it1 _ hget
    have hdrop : xs.drop i = xs[i] :: xs.drop (i + 1) := (List.getElem_cons_drop (h := hlt)).symm
    rw [hdrop] at hrun
    refine .inr ⟨go, fun H2 => ∃ c2 vs acc, c2.H = H2 ∧ c2.Ok ∧ Le c c2 ∧ Fs c0 c2 ∧ c2.H L = some (.lst vs) ∧ c2.F L = none ∧ RPL K c2 vs acc ∧ runLc x (wipeS η is) g t w R (xs.drop (i + 1)) acc c2.n, fun H2 hN => ?_, fun v H2 hy => ?_⟩
    · obtain ⟨c2, vs2, acc2, z1, z2, z3, z4, z5, z6, z7, z8⟩ := hN
      exact ⟨m - 1, by omega, c2, vs2, acc2, z1, z2, z3, z4, z5, z6, z7, by omega, z8⟩
    · obtain ⟨c2, rfl, hn2, ok2, l2, rp2⟩ := yl v H2 hy
      have hdr1 : L ≠ c1.dr := by rw [l1.dr]; exact hLd
      have l12 := l1.trans l2
      have hH2 : c2.H L = some (.lst vs) := l2.h _ _ hdr1 (fun z => z) nofun hH1
      have hF2 : c2.F L = none := l2.fr _ _ hdr1 (fun z => z) (by intro _ z; cases z) hF1 hH1
      have hdr2 : L ≠ c2.dr := by rw [l12.dr]; exact hLd
      refine ⟨c2, wipeS η is, xs[i], _, rfl, ok2, enw.le l12, rp2, hrun, fun η3 σ3 hb3 en3 ho3 ot => ?_⟩
      refine ⟨wipe_out ot, ?_⟩
      refine ⟨c2, η3, _, x, rfl, ok2, en3, (by rw [hn2]; exact hb3), fun b c3 hd3 ok3 l3 => ?_, hx.le l12⟩
      have hH3 : c3.H L = some (.lst vs) := l3.h _ _ hdr2 (fun z => z) nofun hH2
      have hF3 : c3.F L = none := l3.fr _ _ hdr2 (fun z => z) (by intro _ z; cases z) hF2 hH2
      have hdr3 : L ≠ c3.dr := by rw [l3.dr]; exact hdr2
      cases b with
      | false => exact iteF ⟨c3, vs, acc, rfl, ok3, l12.trans l3, (f1.trans (Fs.of l2)).trans (Fs.of l3), hH3, hF3, l3.rpl (l2.rpl rp1), hd3⟩
      | true =>
        refine iteT ⟨c3, η3, _, x, rfl, ok3, en3.le l3, hd3, fun y c4 u hd4 ok4 l4 rp4 => ?_, (hx.le l12).le l3⟩
        have hH4 : c4.H L = some (.lst vs) := l4.h _ _ hdr3 (fun z => z) nofun hH3
        have hF4 : c4.F L = none := l4.fr _ _ hdr3 (fun z => z) (by intro _ z; cases z) hF3 hH3
        have hdr4 : L ≠ c4.dr := by rw [l4.dr]; exact hdr3
        have l04 := (l12.trans l3).trans l4
        obtain ⟨ok5, l5⟩ := ok4.put (u := .lst (vs ++ [u])) l04 hL0 hH4 hF4 hdr4
        have rp5 : RPL K c4 vs acc := l4.rpl (l3.rpl (l2.rpl rp1))
        refine ⟨vs, hH4, by rw [rp1.length]; exact hd4.1, ⟨c4.dr, c4.F, upd c4.H L (.lst (vs ++ [u])), c4.n, c4.T⟩, vs ++ [u], acc ++ [y], rfl, ok5, l5, ?_, upd_same, hF4, RpL.append rp5 (.cons rp4 .nil), hd4.2⟩
        exact ((f1.trans (Fs.of l2)).trans (Fs.of l3)).trans ⟨l4.dr, l4.f⟩
  · have hdrop : xs.drop i = [] := List.drop_eq_nil_of_le (by omega)
    rw [hdrop] at hrun
    exact .inl ⟨it2 (by omega), hr acc c1 L vs hrun ok1 l1 hL0 hF1 hLd hH1 rp1⟩
theorem qn_lc {elt tg iter : Expr} {ifs : List Expr} {scope : Scope} {own : List (Str × Nat)} {wi : WI} {g : WG} {t : WT} {w : WE} (hc : X.calm = true) (hN : X.N.Nodup) (hi : PI X tg iter (upI X.K E wi)) (bk : BlkOk X.N X.env.scope scope own)
    (hg : ∀ (s : Shared) (H : Hp) (C : Addr) (cl : List (Str × Addr)) (fp : List Addr), PG (X.blk s H scope (compEnvC scope cl C X.env) fp) tg (upG X.K (own.map (·.2)) g)) (ht : ∀ (s : Shared) (H : Hp) (C : Addr) (cl : List (Str × Addr)) (fp : List Addr), PTs (X.blk s H scope (compEnvC scope cl C X.env) fp) ifs (upT X.K E t))
    (he : ∀ (s : Shared) (H : Hp) (C : Addr) (cl : List (Str × Addr)) (fp : List Addr), PE (X.blk s H scope (compEnvC scope cl C X.env) fp) elt (up X.K E w)) (hs : ∀ x, foldedSetIterable iter X.env x = pure x := by intro _; rfl) :
    PE X (.ListComp elt [⟨tg, iter, ifs, 0⟩] scope pos) (upN X.K E (nLc (own.map (·.2)) wi g t w)) := pe_to (pe_lc hc hN hi bk hg ht he hs) lc_up
/-- y = [..] on one line, y a local: owned | frozen -/
theorem qs_setLcN {i : Nat} {y : Str} {py : Pos} {elt tg iter : Expr} {ifs : List Expr} {scope : Scope} {own : List (Str × Nat)} {spos : Pos} {wi : WI} {g : WG} {t : WT} {w : WE} (hc : X.calm = true) (hN : X.N.Nodup) (hy : X.N[i]? = some y) (hyl : X.env.scope.names.lookup y = some .local)
    (hsw : swapsWith (.ListComp elt [⟨tg, iter, ifs, 0⟩] scope pos) (some (.Name y py)) spos.line X.env = pure true) (hi : PI X tg iter (upI X.K E wi)) (bk : BlkOk X.N X.env.scope scope own)
    (hg : ∀ (s : Shared) (H : Hp) (C : Addr) (cl : List (Str × Addr)) (fp : List Addr), PG (X.blk s H scope (compEnvC scope cl C X.env) fp) tg (upG X.K (own.map (·.2)) g)) (ht : ∀ (s : Shared) (H : Hp) (C : Addr) (cl : List (Str × Addr)) (fp : List Addr), PTs (X.blk s H scope (compEnvC scope cl C X.env) fp) ifs (upT X.K E t))
    (he : ∀ (s : Shared) (H : Hp) (C : Addr) (cl : List (Str × Addr)) (fp : List Addr), PE (X.blk s H scope (compEnvC scope cl C X.env) fp) elt (up X.K E w)) (hs : ∀ x, foldedSetIterable iter X.env x = pure x := by intro _; rfl) :
    PS X (.Assign [.Name y py] (.ListComp elt [⟨tg, iter, ifs, 0⟩] scope pos) spos) (upS X.K E (sSetN i (nLc (own.map (·.2)) wi g t w))) := ps_to (ps_setLc hc hN hy hyl hsw hi bk hg ht he hs) fun D σ H q => by
  have z : tAsg (upN X.K E (nLc (own.map (·.2)) wi g t w)) (gName i) D σ H := setN_up D σ H q
  exact lc_up σ H _ z
theorem qs_setLc {i : Nat} {y : Str} {py : Pos} {elt tg iter : Expr} {ifs : List Expr} {scope : Scope} {own : List (Str × Nat)} {spos : Pos} {wi : WI} {g : WG} {t : WT} {w : WE} (hc : X.calm = true) (hN : X.N.Nodup) (hy : X.N[i]? = some y) (hyl : X.env.scope.names.lookup y = some .local)
    (hsw : swapsWith (.ListComp elt [⟨tg, iter, ifs, 0⟩] scope pos) (some (.Name y py)) spos.line X.env = pure true) (hi : PI X tg iter (upI X.K E wi)) (bk : BlkOk X.N X.env.scope scope own)
    (hg : ∀ (s : Shared) (H : Hp) (C : Addr) (cl : List (Str × Addr)) (fp : List Addr), PG (X.blk s H scope (compEnvC scope cl C X.env) fp) tg (upG X.K (own.map (·.2)) g)) (ht : ∀ (s : Shared) (H : Hp) (C : Addr) (cl : List (Str × Addr)) (fp : List Addr), PTs (X.blk s H scope (compEnvC scope cl C X.env) fp) ifs (upT X.K E t))
    (he : ∀ (s : Shared) (H : Hp) (C : Addr) (cl : List (Str × Addr)) (fp : List Addr), PE (X.blk s H scope (compEnvC scope cl C X.env) fp) elt (up X.K E w)) (hs : ∀ x, foldedSetIterable iter X.env x = pure x := by intro _; rfl) :
    PS X (.Assign [.Name y py] (.ListComp elt [⟨tg, iter, ifs, 0⟩] scope pos) spos) (upS X.K E (sAsg (eFz (nLc (own.map (·.2)) wi g t w)) (gNm i))) := ps_to (ps_setLc hc hN hy hyl hsw hi bk hg ht he hs) fun D σ H q => by
  obtain ⟨c, η, k, x, e1, ok, en, hw, h1, h2, h3, h4, hx⟩ := q
  refine lc_up σ H _ (fz_up σ H _ ⟨c, η, _, x, e1, ok, en, hw, fun d c' v hd ok' l' rp => ?_, hx.none⟩)
  exact h1 _ c' _ hd ok' (LeO.of l') (fun a z => .inl (owned_set z)) ((en.le l').set rp)
end
end DL
set_option maxHeartbeats 2000000
namespace DL
open PySem PySem.Spec PyProof.Rows L2
section
variable {X : Cx} {E : XK} {pos : Pos}

/-! ### an owned object is changed -/
theorem own_putO {K : PySem.W.Frag} {c : Cf} {σ : L2.St} {η : List Sl} {i : Nat} {p : Addr} {o o0 : HO} {s1 s0 : Sl} (ok : c.Ok) (en : EnvOk K c σ η) (hs : η[i]? = some s1) (h1 : s1.isOw = true) (hp : σ[i]? = some (some (.ref p))) (hH : c.H p = some o0) (hF : c.F p = none) (hd : p ≠ c.dr)
    (r : SlOk K ⟨c.dr, c.F, upd c.H p o, c.n, c.T⟩ (some (.ref p)) s0) (hz1 : ∀ ps, o0 ≠ .tbl ps := by exact nofun) (hz2 : ∀ φ, o0 ≠ .ext φ := by exact nofun) (hz3 : ∀ ps, o ≠ .tbl ps := by exact nofun) :
    (⟨c.dr, c.F, upd c.H p o, c.n, c.T⟩ : Cf).Ok ∧ LeO (Owned σ η) c ⟨c.dr, c.F, upd c.H p o, c.n, c.T⟩ ∧ EnvOk K ⟨c.dr, c.F, upd c.H p o, c.n, c.T⟩ σ (η.set i s0) ∧ ∀ a, Owned σ (η.set i s0) a → Owned σ η a := by
  have how : Owned σ η p := ⟨i, _, hs, h1, hp⟩
  refine ⟨⟨fun a w e => ?_, ok.nf, ?_, tabs_put ok.tb hH hz1 hz2, ok.nt⟩, ⟨rfl, fun _ _ h => h, fun a w h1 h2 _ h3 => ?_, fun a o _ _ _ h _ => h, fun a w hw e => upd_some hw hz3 e, rfl⟩, en.move hs h1 hp rfl rfl (fun _ _ h => h) (fun a w hn h => ?_) (fun a _ h => h) r, fun a h => owned_move hs h1 h⟩
  · show upd c.H p o a = some w
    rw [upd_ne (ne_of_none e hF)]
    exact ok.sub _ _ e
  · show Drw c.n c.F (upd c.H p o c.dr)
    rw [upd_ne (Ne.symm hd)]
    exact ok.dw
  · show upd c.H p o a = some w
    rw [upd_ne (fun z => h2 (by rw [z]; exact how))]
    exact h3
  · show upd c.H p o a = some w
    rw [upd_ne hn]
    exact h
theorem own_put {K : PySem.W.Frag} {c : Cf} {σ : L2.St} {η : List Sl} {i : Nat} {p : Addr} {vs vs' : List V} {xs xs' : List D} (ok : c.Ok) (en : EnvOk K c σ η) (hs : η[i]? = some (Sl.ow xs)) (hp : σ[i]? = some (some (.ref p))) (hH : c.H p = some (.lst vs)) (hF : c.F p = none) (hd : p ≠ c.dr) (r : RPL K c vs' xs') :
    (⟨c.dr, c.F, upd c.H p (.lst vs'), c.n, c.T⟩ : Cf).Ok ∧ LeO (Owned σ η) c ⟨c.dr, c.F, upd c.H p (.lst vs'), c.n, c.T⟩ ∧ EnvOk K ⟨c.dr, c.F, upd c.H p (.lst vs'), c.n, c.T⟩ σ (η.set i (.ow xs')) ∧ ∀ a, Owned σ (η.set i (.ow xs')) a → Owned σ η a :=
  own_putO ok en hs rfl hp hH hF hd ⟨p, vs', rfl, upd_same, hF, hd, r⟩
/-- a method of a list that changes it -/
abbrev OM := List D → List D → (List D → Prop) → Prop
def MD (X : Cx) (r : V → List V → Hp → VK → Prop) (f : OM) : Prop := ∀ (c : Cf) (p : Addr) (vs us : List V) (xs ds : List D) (k : List D → Prop) (Q : VK), c.Ok → c.H p = some (.lst vs) → RPL X.K c vs xs → RPL X.K c us ds → f xs ds k →
  (∀ xs' vs', k xs' → RPL X.K c vs' xs' → Q .non (upd c.H p (.lst vs'))) → r (.ref p) us c.H Q
def owS : Option Sl → (List D → Prop) → Prop
  | some (.ow xs), k => k xs
  | _, _ => False
def sMt (i : Nat) (f : OM) (w : WA) : WS := fun x k η n => w x η n fun ds n1 => owS η[i]? fun xs => f xs ds fun xs' => k.nx (η.set i (.ow xs')) n1
theorem mt_up {i : Nat} {r : V → List V → Hp → VK → Prop} {f : OM} {w : WA} (h : MD X r f) : ∀ D σ H, upS X.K E (sMt i f w) D σ H → (∃ p vs, σ[i]? = some (some (.ref p)) ∧ H p = some (.lst vs)) → tDrop (tBM X.K "list" r (tVar i) (upA X.K E w)) D σ H := fun D σ H q hz => by
  obtain ⟨c, η, k, x, e1, ok, en, hw, h1, h2, h3, h4, hx⟩ := q
  obtain ⟨p0, vs0, hz1, hz2⟩ := hz
  refine ⟨_, hz1, .inl ⟨rfl, vs0, .of hz2⟩, ?_⟩
  refine ⟨c, η, _, x, e1, ok, en, hw, fun ds c1 us hd ok1 l1 rp => ?_, hx.none⟩
  have en1 := en.le l1
  cases hs : η[i]? with
  | none =>
    rw [hs] at hd
    exact hd.elim
  | some s =>
    rw [hs] at hd
    cases s with
    | un => exact hd.elim
    | cl _ => exact hd.elim
    | dt d => exact hd.elim
    | ob _ _ _ _ => exact hd.elim
    | ow xs =>
      obtain ⟨p, vs, g1, g2, g3, g4, rpx⟩ := en1.ow hs
      rw [hz1] at g1
      cases g1
      refine h c1 p0 vs us xs ds _ _ ok1 g2 rpx rp hd fun xs' vs' hk rp' => ?_
      obtain ⟨ok2, l2, en2, ho2⟩ := own_put ok1 en1 hs hz1 g2 g3 g4 rp'
      exact h1 _ ⟨c1.dr, c1.F, upd c1.H p0 (.lst vs'), c1.n, c1.T⟩ σ hk ok2 (LeO.trans (LeO.of l1) l2 own_refl) (fun a z => .inl (ho2 a z)) en2
/-- the slot's list is there from the first -/
theorem sMt_own {K : PySem.W.Frag} {i : Nat} {D : Ends} {σ : L2.St} {H : Hp} {w : WS} (hw : ∀ x k η n, w x k η n → ∃ xs, η[i]? = some (Sl.ow xs)) (q : upS K E w D σ H) : ∃ p vs, σ[i]? = some (some (.ref p)) ∧ H p = some (.lst vs) := by
  obtain ⟨c, η, k, x, e1, ok, en, hq, _⟩ := q
  obtain ⟨xs, hs⟩ := hw _ _ _ _ hq
  obtain ⟨p, vs, g1, g2, _⟩ := en.ow hs
  exact ⟨p, vs, g1, by rw [← e1]; exact g2⟩
/-- ahead of the arguments the slot is an owner -/
def sMt' (i : Nat) (f : OM) (w : WA) : WS := fun x k η n => (∃ xs, η[i]? = some (Sl.ow xs)) ∧ sMt i f w x k η n
theorem qs_mt {i : Nat} {name : Str} {id : String} {y : Str} {e : Expr} {es : List Expr} {npos apos cpos : Pos} {r : V → List V → Hp → VK → Prop} {f : OM} {w : WA} (h : MD X r f) (slot : Slot "list" name id) (hty : typeOf (.builtin id) = pure (.type "method_descriptor")) (hm : MtR X id r)
    (hv : PE X (.Name y npos) (tVar i)) (ha : PA X (e :: es) (upA X.K E w)) (hb : PE X (.Call (.Attribute (.Name y npos) name apos) (e :: es) [] cpos) (tBM X.K "list" r (tVar i) (upA X.K E w)))
    (hs : swapsWith (.Call (.Attribute (.Name y npos) name apos) (e :: es) [] cpos) none pos.line X.env = pure false := by rfl) : PS X (.Expr (.Call (.Attribute (.Name y npos) name apos) (e :: es) [] cpos) pos) (upS X.K E (sMt' i f w)) :=
  ps_to (ps_expr hb hs) fun D σ H q => by
    have hz := sMt_own (i := i) (fun _ _ _ _ h => h.1) q
    obtain ⟨c, η, k, x, e1, ok, en, hw, h1⟩ := q
    exact mt_up h D σ H ⟨c, η, k, x, e1, ok, en, hw.2, h1⟩ hz
def mAppend : OM := fun xs ds k => match ds with
  | [d] => xs.length < sizeLine ∧ k (xs ++ [d])
  | _ => False
theorem md_append : MD X rAppend mAppend := by
  intro c p vs us xs ds k Q ok hp rx rd h hQ
  cases rd with
  | nil => exact h.elim
  | cons r1 t =>
    cases t with
    | nil => exact ⟨p, vs, _, rfl, rfl, hp, by rw [rx.length]; exact h.1, hQ _ _ h.2 (rx.append (.cons r1 .nil))⟩
    | cons _ _ => exact h.elim
def mExtend : OM := fun xs ds k => match ds with
  | [.lst ys] => xs.length + ys.length ≤ sizeLine ∧ k (xs ++ ys)
  | _ => False
theorem md_extend : MD X rExtend mExtend := by
  intro c p vs us xs ds k Q ok hp rx rd h hQ
  cases rd with
  | nil => exact h.elim
  | cons r1 t =>
    cases t with
    | nil =>
      cases r1 <;> first | exact h.elim | skip
      rename_i a vs2 ds2 f r2
      exact ⟨p, a, vs, vs2, rfl, rfl, hp, ok.sub _ _ f, by rw [rx.length, r2.length]; exact h.1, hQ _ _ h.2 (rx.append r2)⟩
    | cons _ _ => cases r1 <;> exact h.elim
def rInsert : V → List V → Hp → VK → Prop := fun x vs H Q => ∃ (l : Addr) (xs : List V) (i : Int) (y : V), x = .ref l ∧ vs = [.int i, y] ∧ H l = some (.lst xs) ∧ xs.length < sizeLine ∧ 0 ≤ i ∧ i < 2 ^ 63 ∧
    Q .non (upd H l (.lst (xs.take i.toNat ++ [y] ++ xs.drop i.toNat)))
def mInsert : OM := fun xs ds k => match ds with
  | [.int i, d] => xs.length < sizeLine ∧ 0 ≤ i ∧ i < 2 ^ 63 ∧ k (xs.take i.toNat ++ [d] ++ xs.drop i.toNat)
  | _ => False
theorem md_insert : MD X rInsert mInsert := by
  intro c p vs us xs ds k Q ok hp rx rd h hQ
  cases rd with
  | nil => exact h.elim
  | cons r1 t =>
    cases t with
    | nil => cases r1 <;> exact h.elim
    | cons r2 t =>
      cases t with
      | nil =>
        cases r1 <;> first | exact h.elim | skip
        obtain ⟨h0, h1, h2, hk⟩ := h
        exact ⟨p, vs, _, _, rfl, rfl, hp, by rw [rx.length]; exact h0, h1, h2, hQ _ _ hk (((rx.take _).append (.cons r2 .nil)).append (rx.drop _))⟩
      | cons _ _ => cases r1 <;> exact h.elim
variable {y : Str} {e e2 : Expr} {npos apos cpos : Pos}
theorem qs_append {i : Nat} {w : WA} (hv : PE X (.Name y npos) (tVar i)) (ha : PA X [e] (upA X.K E w))
    (hb : attributeBase (.Name y npos) "append" X.env (eval (.Name y npos) X.env) = eval (.Name y npos) X.env := by rfl)
    (hfew : ((backTo cpos (starEach [e] X.env)).all (fun x => !x.1) && (backToKw cpos (keywordEach [] X.env)).all (fun x => x.1.isSome) && decide ([e].length + ([] : List Keyword).length + (if ([] : List Keyword).isEmpty then 0 else 1) < 30)) = true := by rfl)
    (hline : (apos.endLine == cpos.line) = true := by rfl) (hst : starEach [e] X.env = (false, eval e X.env) :: starEach [] X.env := by rfl) (hpl : (backTo cpos (starEach [] X.env)).any (·.1) = false := by rfl)
    (hs : swapsWith (.Call (.Attribute (.Name y npos) "append" apos) [e] [] cpos) none pos.line X.env = pure false := by rfl) :
    PS X (.Expr (.Call (.Attribute (.Name y npos) "append" apos) [e] [] cpos) pos) (upS X.K E (sMt' i mAppend w)) :=
  qs_mt md_append PySem.F.slot_list_append PySem.F.type_list_append mt_append hv ha (pe_bm PySem.F.plainAttrs_list PySem.F.slot_list_append PySem.F.type_list_append mt_append hv ha hb hfew hline hst hpl) hs
theorem qs_extend {i : Nat} {w : WA} (hv : PE X (.Name y npos) (tVar i)) (ha : PA X [e] (upA X.K E w))
    (hb : attributeBase (.Name y npos) "extend" X.env (eval (.Name y npos) X.env) = eval (.Name y npos) X.env := by rfl)
    (hfew : ((backTo cpos (starEach [e] X.env)).all (fun x => !x.1) && (backToKw cpos (keywordEach [] X.env)).all (fun x => x.1.isSome) && decide ([e].length + ([] : List Keyword).length + (if ([] : List Keyword).isEmpty then 0 else 1) < 30)) = true := by rfl)
    (hline : (apos.endLine == cpos.line) = true := by rfl) (hst : starEach [e] X.env = (false, eval e X.env) :: starEach [] X.env := by rfl) (hpl : (backTo cpos (starEach [] X.env)).any (·.1) = false := by rfl)
    (hs : swapsWith (.Call (.Attribute (.Name y npos) "extend" apos) [e] [] cpos) none pos.line X.env = pure false := by rfl) :
    PS X (.Expr (.Call (.Attribute (.Name y npos) "extend" apos) [e] [] cpos) pos) (upS X.K E (sMt' i mExtend w)) :=
  qs_mt md_extend PySem.F.slot_list_extend PySem.F.type_list_extend mt_extend hv ha (pe_bm PySem.F.plainAttrs_list PySem.F.slot_list_extend PySem.F.type_list_extend mt_extend hv ha hb hfew hline hst hpl) hs
/-- y[e2] = e, y owned -/
def sPutIx (i : Nat) (wi we : WE) : WS := fun x k η n => we x η n fun d n1 => wi x η n1 fun j n2 => owS η[i]? fun xs => match j with
  | .int j => ∃ m, ixN xs.length j = some m ∧ k.nx (η.set i (.ow (xs.set m d))) n2
  | _ => False
theorem qs_putIx {i : Nat} {wi we : WE} {spos : Pos} (hv : PE X (.Name y npos) (tVar i)) (hi : PE X e2 (upB X.K E wi)) (he : PE X e (up X.K E we))
    (hs : swapsWithSole [.Subscript (.Name y npos) e2 spos] e pos.line X.env = pure false := by rfl) (hw : swappedStores [.Subscript (.Name y npos) e2 spos] e X.env = pure none := by rfl)
    (h1 : (assignEach [.Subscript (.Name y npos) e2 spos] X.env).map (·.2) = [assign (.Subscript (.Name y npos) e2 spos) X.env] := by rfl)
    (ha : ∀ v, assign (.Subscript (.Name y npos) e2 spos) X.env v = (do
      let ov ← holding [v] (eval (.Name y npos) X.env)
      let iv ← holding [v, ov] (eval e2 X.env)
      standAt spos
      holding [v, ov, iv] (setItem ov iv v)
      release [v, ov, iv] []) := by intro _; rfl) : PS X (.Assign [.Subscript (.Name y npos) e2 spos] e pos) (upS X.K E (fun x k η n => (∃ xs, η[i]? = some (Sl.ow xs)) ∧ sPutIx i wi we x k η n)) :=
  ps_to (ps_asg he (pg_sub hv hi set_list ha) hs hw h1) fun D σ H q => by
    obtain ⟨p0, vs0, hz1, hz2⟩ := sMt_own (i := i) (fun _ _ _ _ h => h.1) q
    obtain ⟨c, η, k, x, e1, ok, en, ⟨_, hw⟩, h1, h2, h3, h4, hx⟩ := q
    refine ⟨c, η, _, x, e1, ok, en, hw, fun d c1 v hd ok1 l1 rp => ?_, hx.none⟩
    refine ⟨_, hz1, c1, η, _, x, rfl, ok1, en.le l1, hd, fun j c2 u hd2 ok2 l2 rp2 => ?_, hx.none.le l1⟩
    have en2 := (en.le l1).le l2
    cases hs : η[i]? with
    | none =>
      rw [hs] at hd2
      exact hd2.elim
    | some s =>
      rw [hs] at hd2
      cases s with
      | un => exact hd2.elim
      | cl _ => exact hd2.elim
      | dt d => exact hd2.elim
      | ob _ _ _ _ => exact hd2.elim
      | ow xs =>
        obtain ⟨p, vs, g1, g2, g3, g4, rpx⟩ := en2.ow hs
        rw [hz1] at g1
        cases g1
        cases j <;> first | exact hd2.elim | skip
        obtain ⟨m, hm, hk⟩ := hd2
        refine ⟨p0, vs, _, m, rfl, rp2.int, g2, by rw [rpx.length]; exact hm, ?_⟩
        have rp' : RPL X.K c2 (vs.set m v) (xs.set m d) := RpL.set (l2.rp rp) m rpx
        obtain ⟨ok3, l3, en3, ho3⟩ := own_put ok2 en2 hs hz1 g2 g3 g4 rp'
        exact h1 _ ⟨c2.dr, c2.F, upd c2.H p0 (.lst (vs.set m v)), c2.n, c2.T⟩ σ hk ok3 (LeO.trans (LeO.of (l1.trans l2)) l3 own_refl) (fun a z => .inl (ho3 a z)) en3

/-! ### own defs -/
abbrev Ct := Xn → List D → Nat → (D → Nat → Prop) → Prop
def spU (K : PySem.W.Frag) (m : Nat) (C : Ct) : Sp := fun vs H Q E => ∃ c ds R x, c.H = H ∧ c.Ok ∧ c.T = TK K ∧ RPL K c vs ds ∧ ds.length = m ∧ C x ds c.n R ∧ (∀ d c' v, R d c'.n → c'.Ok → Le c c' → RP K c' v d → Q v c'.H) ∧ XW K E x (fun _ => False) c
theorem spU_len {K : PySem.W.Frag} {m : Nat} {C : Ct} {vs : List V} {H : Hp} {Q : VK} {E : XK} (h : spU K m C vs H Q E) : vs.length = m := by
  obtain ⟨c, ds, R, x, _, _, _, r, hl, _⟩ := h
  rw [r.length, hl]
/-- f(..): dds the defaults -/
def eCall (m : Nat) (C : Ct) (dds : List D) (w : WA) : WE := fun x η n R => w x η n fun ds n1 => (ds ++ dds).length = m ∧ C x (ds ++ dds) n1 R
theorem call_up {K : PySem.W.Frag} {m : Nat} {C : Ct} {dvs : List V} {dds : List D} {w : WA} (hd : ∀ dr F, RpL K dr F dvs dds) : ∀ σ H Q, up K E (eCall m C dds w) σ H Q → tCall (spU K m C) dvs E (upA K E w) σ H Q := fun σ H Q q => by
  obtain ⟨c, η, R, x, e1, ok, en, hw, hr, hx⟩ := q
  refine ⟨c, η, _, x, e1, ok, en, hw, fun ds c1 vs hc ok1 l1 rp => ?_, hx⟩
  exact ⟨c1, ds ++ dds, R, x, rfl, ok1, l1.T.trans en.T, rp.append (hd _ _), hc.1, hc.2, fun d c2 v h2 ok2 l2 r2 => hr d c2 v h2 ok2 (l1.trans l2) r2, hx.le l1⟩
theorem call_up0 {K : PySem.W.Frag} {m : Nat} {C : Ct} {dvs : List V} {dds : List D} {w : WA} (hd : ∀ dr F, RpL K dr F dvs dds) (hC : ∀ x x' ds n R, C x ds n R → C x' ds n R) : ∀ σ H Q, up K E (eCall m C dds w) σ H Q → tCall (spU K m C) dvs E0 (upA K E w) σ H Q := fun σ H Q q => by
  obtain ⟨c, η, R, x, e1, ok, en, hw, hr, hx⟩ := q
  refine ⟨c, η, _, x, e1, ok, en, hw, fun ds c1 vs hc ok1 l1 rp => ?_, hx⟩
  exact ⟨c1, ds ++ dds, R, fun _ _ => False, rfl, ok1, l1.T.trans en.T, rp.append (hd _ _), hc.1, hC x _ _ _ _ hc.2, fun d c2 v h2 ok2 l2 r2 => hr d c2 v h2 ok2 (l1.trans l2) r2, fun d c' cls od h => h.elim⟩
/-- a contract that speaks of no exception -/
def Calm (C : Ct) : Prop := ∀ x x' ds n R, C x ds n R → C x' ds n R
variable {es : List Expr} {f : Addr} {fd : FuncData} {ps : List Str} {k m : Nat} {C : Ct} {p : Pos} {w : WA} {nm : Str}
theorem q_call (F : FnOk X.prog X.w X.K X.mg X.base CX0 k f fd ps (spU X.K m C)) (hC : Calm C) (hr : Room k X.A) (hg : Gl X nm) (hm : X.mg nm = some (.ref f)) (hk : PySem.W.keepIn X.K (.ref f) = true) (hb : Binds X.K fd ps [])
    (ha : PA X (e :: es) (upA X.K E w)) (hdb : (nm == ("__debug__" : Str)) = false := by decide) (he : starEach (e :: es) X.env = (false, eval e X.env) :: starEach es X.env := by rfl) (hpl : (backTo pos (starEach es X.env)).any (·.1) = false := by rfl) :
    PE X (.Call (.Name nm p) (e :: es) [] pos) (up X.K E (eCall m C [] w)) := pe_to (pe_call F hr hg hm hk hb .nil pass0 ha hdb he hpl) (call_up0 (fun _ _ => .nil) hC)
theorem q_call0 (F : FnOk X.prog X.w X.K X.mg X.base CX0 k f fd ps (spU X.K m C)) (hC : Calm C) (hr : Room k X.A) (hg : Gl X nm) (hm : X.mg nm = some (.ref f)) (hk : PySem.W.keepIn X.K (.ref f) = true) (hb : Binds X.K fd ps [])
    (hdb : (nm == ("__debug__" : Str)) = false := by decide) : PE X (.Call (.Name nm p) [] [] pos) (up X.K E (eCall m C [] aNil)) := pe_to (pe_call0 F hr hg hm hk hb .nil pass0 hdb) fun σ H Q q => by
  obtain ⟨c, η, R, x, e1, ok, en, hw, hr, hx⟩ := q
  exact ⟨c, [], R, fun _ _ => False, e1, ok, en.T, .nil, hw.1, hC x _ _ _ _ hw.2, hr, fun d c' cls od h => h.elim⟩
/-- the def's body keeps its contract -/
theorem env_start {K : PySem.W.Frag} {c : Cf} {N : List Str} : ∀ {vs : List V} {ds : List D}, c.T = TK K → RPL K c vs ds → EnvOk K c (L2.start N vs) (ds.map Sl.dt ++ List.replicate (N.length - ds.length) Sl.un) := fun {vs ds} hT r => by
  have hl := r.length
  have noow : ∀ (i : Nat) s, (ds.map Sl.dt ++ List.replicate (N.length - ds.length) Sl.un)[i]? = some s → s.isOw = true → False := fun i s h hs => by
    have hm := List.mem_of_getElem? h
    rcases List.mem_append.mp hm with z | z
    · obtain ⟨d, _, e⟩ := List.mem_map.mp z
      subst e
      cases hs
    · have e := (List.mem_replicate.mp z).2
      subst e
      cases hs
  refine ⟨by simp [L2.start, hl], fun i s h => ?_, fun i j s t a h1 _ g1 _ _ _ => (noow i s h1 g1).elim, hT⟩
  by_cases hi : i < ds.length
  · rw [List.getElem?_append_left (by simpa using hi), List.getElem?_map, List.getElem?_eq_getElem hi] at h
    cases h
    obtain ⟨v, hv, rv⟩ := r.get (List.getElem?_eq_getElem hi)
    refine ⟨some v, ?_, v, rfl, rv⟩
    unfold L2.start
    rw [List.getElem?_append_left (by simp; omega), List.getElem?_map, hv]
    rfl
  · rw [List.getElem?_append_right (by simpa using hi)] at h
    have := List.mem_of_getElem? h
    have e := (List.mem_replicate.mp this).2
    subst e
    have hb : i - (ds.map Sl.dt).length < N.length - ds.length := by
      have := (List.getElem?_eq_some_iff.mp h).1
      simpa using this
    refine ⟨none, ?_, trivial⟩
    unfold L2.start
    rw [List.getElem?_append_right (by simp; omega), List.getElem?_replicate]
    simp at hb ⊢
    omega
theorem start_noown {ds : List D} {σ : L2.St} {n : Nat} {a : Addr} (h : Owned σ (ds.map Sl.dt ++ List.replicate n Sl.un) a) : False := by
  obtain ⟨i, s, h1, hs, _⟩ := h
  have hm := List.mem_of_getElem? h1
  rcases List.mem_append.mp hm with z | z
  · obtain ⟨d, _, e⟩ := List.mem_map.mp z
    subst e
    cases hs
  · have e := (List.mem_replicate.mp z).2
    subst e
    cases hs
theorem body_up {K : PySem.W.Frag} {N : List Str} {w : WS} {vs : List V} {H : Hp} {Q : VK} (h : spU K m C vs H Q E) (hw : ∀ x ds n R, ds.length = m → C x ds n R → w x { nx := fun _ n => R .non n, rt := R } (ds.map Sl.dt ++ List.replicate (N.length - m) Sl.un) n) :
    upS K E w { nx := fun _ H' => Q .non H', rt := Q } (L2.start N vs) H := by
  obtain ⟨c, ds, R, x, e1, ok, hT, r, hl, hc, hr, hx⟩ := h
  have en := env_start (N := N) hT r
  rw [hl] at en
  have le : ∀ {c' : Cf}, LeO (Owned (L2.start N vs) (ds.map Sl.dt ++ List.replicate (N.length - m) Sl.un)) c c' → Le c c' := fun l => ⟨l.dr, l.f, fun a o h1 _ h3 => l.h a o h1 (fun z => start_noown z) h3, fun a o h1 _ h3 h4 => l.fr a o h1 (fun z => start_noown z) h3 h4, l.hd, l.T⟩
  refine ⟨c, _, { nx := fun _ n => R .non n, rt := R }, x, e1, ok, en, hw x ds c.n R hl hc, fun η' c' σ' hn ok' l' _ _ => hr _ c' _ hn ok' (le l') .non, fun d c' v hn ok' l' rp => hr d c' v hn ok' (le l') rp, fun η' c' σ' hn _ _ _ _ => hn.elim, fun η' c' σ' hn _ _ _ _ => hn.elim, fun d c' cls od hxx ok' l' xo => hx d c' cls od hxx ok' (le l') xo⟩
theorem fn_up {P : Program} {wd : World} {K : PySem.W.Frag} {mg : Str → Option Value} {base : Heap} {x qual : Str} {params : Arguments} {body : List Stmt} {scope : Scope} {dvs : List V} {kws : List (Str × V)} {N : List Str} {w : WS}
    (F : FunD K x qual params body scope dvs kws f fd) (S : FnScope N ps scope) (hps : ps.length = m)
    (hb : ∀ (cdv : Value) (A : Around) (outer : List Env) (s : Shared) (H : Hp) (E : XK), Room k (A.deeper (envOfC qual scope s.heap.objs.size f cdv)) → PSs (cxOf CX0 P wd K mg base N qual scope f cdv A outer s H E).nox body (upS K E w))
    (hw : ∀ x ds n R, ds.length = m → C x ds n R → w x { nx := fun _ n => R .non n, rt := R } (ds.map Sl.dt ++ List.replicate (N.length - m) Sl.un) n) : FnOk P wd K mg base CX0 (k + 1) f fd ps (spU K m C) :=
  F.ok S (fun vs H Q E h => (spU_len h).trans hps.symm) fun cdv A outer s H vs Q E hr h => ⟨_, (hb cdv A outer s H E hr).nox, body_up h hw⟩
/-- a def of the module, by its name: what it keeps, how it is called -/
def Fn (P : Program) (wd : World) (K : PySem.W.Frag) (mg : Str → Option Value) (base : Heap) (nm : Str) (ps : List Str) (m k : Nat) (C : Ct) : Prop :=
  ∃ fd, FnOk P wd K mg base CX0 k (He.ga K nm) fd ps (spU K m C) ∧ Binds K fd ps [] ∧ PySem.W.keepIn K (.ref (He.ga K nm)) = true ∧ mg nm = some (.ref (He.ga K nm))
theorem q_f {j : Nat} (F : Fn X.prog X.w X.K X.mg X.base nm ps m j C) (hC : Calm C) (hr : Room k X.A) (hj : j ≤ k) (hg : Gl X nm) (ha : PA X (e :: es) (upA X.K E w)) (hdb : (nm == ("__debug__" : Str)) = false := by decide)
    (he : starEach (e :: es) X.env = (false, eval e X.env) :: starEach es X.env := by rfl) (hpl : (backTo pos (starEach es X.env)).any (·.1) = false := by rfl) : PE X (.Call (.Name nm p) (e :: es) [] pos) (up X.K E (eCall m C [] w)) := by
  obtain ⟨fd, F, b, kp, g⟩ := F
  exact q_call F hC (hr.mono hj) hg g kp b ha hdb he hpl
theorem q_f0 {j : Nat} (F : Fn X.prog X.w X.K X.mg X.base nm ps m j C) (hC : Calm C) (hr : Room k X.A) (hj : j ≤ k) (hg : Gl X nm) (hdb : (nm == ("__debug__" : Str)) = false := by decide) : PE X (.Call (.Name nm p) [] [] pos) (up X.K E (eCall m C [] aNil)) := by
  obtain ⟨fd, F, b, kp, g⟩ := F
  exact q_call0 F hC (hr.mono hj) hg g kp b hdb
/-- a, b = e1, e2 of two plain locals -/
def sPar (i j : Nat) (w : WA) : WS := fun x k η n => w x η n fun ds n1 => match ds with
  | [d, e] => k.nx ((η.set i (.dt d)).set j (.dt e)) n1
  | _ => False
theorem par_up {i j : Nat} {K : PySem.W.Frag} : ∀ D σ H, upS K E (sPar i j w) D σ H → tPar i j (upA K E w) D σ H := fun D σ H q => by
  obtain ⟨c, η, k, x, e1, ok, en, hw, h1, h2, h3, h4, hx⟩ := q
  refine ⟨c, η, _, x, e1, ok, en, hw, fun ds c1 vs hd ok1 l1 rp => ?_, hx.none⟩
  split at hd
  · cases rp with
    | cons r1 t =>
      cases t with
      | cons r2 t =>
        cases t
        refine ⟨_, _, rfl, h1 _ c1 _ hd ok1 (LeO.of l1) (fun a z => .inl (owned_set (owned_set z))) (((en.le l1).set r1).set r2)⟩
  · exact hd.elim
end
end DL
set_option maxHeartbeats 2000000
/-! t[::-1] of a tuple -/
namespace HT
open PySem PySem.Spec PyProof.Rows
section
variable {prog : Program} {w : World} {A : Around} {E : Value → Shared → Prop} {s : Shared}
theorem adjust_rev (n : Nat) : Builtin.Slice.sliceAdjust none none (-1) (n : Int) = ((n : Int) - 1, -1) := by
  unfold Builtin.Slice.sliceAdjust
  simp only [show (-1 : Int) < 0 by decide, if_true]
theorem places_rev (n : Nat) : Builtin.Slice.slicePlaces ((n : Int) - 1) (-1) (-1) = n := by
  unfold Builtin.Slice.slicePlaces
  rw [if_neg (by decide)]
  by_cases h : (n : Int) - 1 > -1
  · rw [if_pos h]
    have e : ((n : Int) - 1 - -1 - 1) / (- -1) = (n : Int) - 1 := by
      rw [show (- -1 : Int) = 1 by decide, Int.ediv_one]
      omega
    rw [e]
    omega
  · rw [if_neg h]
    omega
theorem sliceApplied_rev {sl : Addr} {u : Tok} {n : Nat} {Q : Int × Int × Nat → Shared → Prop} (hs : s.heap.IsSliceOf sl .none .none (.int (-1) u)) (h : Q ((n : Int) - 1, -1, n) s) : wpAny (model prog w) A (Builtin.Slice.sliceApplied (.ref sl) (pure (n : Int))) Q E s := by
  obtain ⟨os, hos, hcs, hds⟩ := id hs
  unfold Builtin.Slice.sliceApplied Builtin.Slice.sliceFields
  refine wpAny_bind (wpAny_bind (wpAny_field hos hds (x := .none) rfl (wpAny_bind (wpAny_field hos hds (x := .none) rfl (wpAny_bind (wpAny_field hos hds (x := .int (-1) u) rfl (wpAny_pure ?_)))))))
  refine wpAny_bind (slicePart_int ?_)
  show wpAny _ _ (if ((-1 : Int) == 0) = true then _ else _) _ _ s
  rw [if_neg (by decide)]
  refine wpAny_bind (slicePart_none (wpAny_bind (slicePart_none (wpAny_bind (wpAny_pure ?_)))))
  show wpAny _ _ (match Builtin.Slice.sliceAdjust none none (-1) (n : Int) with | (lo, hi) => pure (lo, (-1 : Int), Builtin.Slice.slicePlaces lo hi (-1))) _ _ s
  rw [adjust_rev n]
  show wpAny _ _ (pure ((n : Int) - 1, (-1 : Int), Builtin.Slice.slicePlaces ((n : Int) - 1) (-1) (-1))) _ _ s
  rw [places_rev]
  exact wpAny_pure h
theorem pick_rev (xs : Array Value) : ((List.range xs.size).filterMap fun (m : Nat) => xs[(((xs.size : Int) - 1) + (m : Int) * (-1)).toNat]?).toArray = xs.toList.reverse.toArray := by
  have e : (List.range xs.size).filterMap (fun (m : Nat) => xs[(((xs.size : Int) - 1) + (m : Int) * (-1)).toNat]?) = ((List.range xs.size).map fun k => xs.size - 1 - k).filterMap (xs[·]?) := by
    rw [List.filterMap_map]
    congr 1
    funext m
    show xs[(((xs.size : Int) - 1) + (m : Int) * (-1)).toNat]? = xs[xs.size - 1 - m]?
    congr 1
    omega
  rw [e, PySem.W.krv_range, List.filterMap_reverse, PySem.W.krv_all]
theorem getItem_tuple_rev {t sl : Addr} {items : Array Value} {u : Tok} {Q : Value → Shared → Prop} (ht : IsTup s.heap t items) (hs : s.heap.IsSliceOf sl .none .none (.int (-1) u))
    (h : Q (.ref s.heap.objs.size) { s with heap := s.heap.push { cls := .type "tuple", data := .seq items.toList.reverse.toArray } })
    (hsz : items.size ≤ sizeLine) : wpAny (model prog w) A (getItem (.ref t) (.ref sl)) Q E s := by
  have htake : sizeOk (.seq items.toList.reverse.toArray) := by
    show items.toList.reverse.toArray.size ≤ sizeLine
    rw [List.size_toArray, List.length_reverse, Array.length_toList]
    exact hsz
  obtain ⟨os, hos, hcs, hds⟩ := id hs
  have hTs : s.TypeIs (.ref sl) "slice" := ⟨os, hos, hcs⟩
  unfold getItem
  try with_reducible refine wpAny_holding ?_
  first | refine wpAny_bind (wpAny_pure ?_) | skip
  refine wpAny_bind (wpAny_sequenceKey ht.typeIs (by decide) ?_)
  refine wpAny_bind (wpAny_callSpecial?_slot (name := Str.ofString "__getitem__") ht.typeIs PyProof.Rows.slot_tuple_getitem
    (wpAny_call_entry PyProof.Rows.slot_tuple_getitem ht.typeIs entry_tuple_getitem ?_ (args_tuple_getitem _ _)))
  show wpAny _ _ (Builtin.Tuple.tupleItemsOf (.ref t) >>= _) _ _ s
  refine wpAny_bind (tupleItemsOf_ ht ?_)
  refine wpAny_bind (wpAny_typeOf hTs ?_)
  rw [if_pos (by decide)]
  refine wpAny_bind (sliceApplied_rev (n := items.size) hs ?_)
  have hno : ¬ ((((items.size : Int) - 1) == 0 && (-1 : Int) == 1 && items.size == items.size) = true) := by
    intro q
    rw [Bool.and_eq_true, Bool.and_eq_true] at q
    exact absurd (eq_of_beq q.1.2) (by decide)
  show wpAny _ _ (if (((items.size : Int) - 1) == 0 && (-1 : Int) == 1 && items.size == items.size) = true then _ else _) _ _ s
  rw [if_neg hno, pick_rev]
  first
    | exact wpAny_bind (m := Builtin.Tuple.tupleExact _) (wpAny_newObj_type (wpAny_pure ⟨_, rfl, wpAny_pure h⟩) htake)
    | exact wpAny_bind (m := Builtin.Tuple.tupleExact _) (wpAny_newObj_type (wpAny_bind (wpAny_pure (wpAny_pure ⟨_, rfl, wpAny_pure h⟩))) htake)
    | exact wpAny_bind (wpAny_bind (m := Builtin.Tuple.tupleExact _) (wpAny_newObj_type (wpAny_pure (wpAny_pure ⟨_, rfl, wpAny_pure h⟩)) htake))
    | exact wpAny_bind (wpAny_bind (m := Builtin.Tuple.tupleExact _) (wpAny_newObj_type (wpAny_pure ⟨_, rfl, wpAny_pure h⟩) htake))
end
end HT
namespace DL
open PySem PySem.Spec PyProof.Rows L2
section
variable {X : Cx} {E : XK} {pos : Pos} {e : Expr}
/-- x[::-1] of a list, of a tuple -/
def tRevA (K : PySem.W.Frag) (te : TE) : TE := fun σ H Q => te σ H fun x H1 => ∃ a xs, x = .ref a ∧ ((SqL K H1 a xs ∧ ∀ p, H1 p = none → Q (.ref p) (upd H1 p (.lst xs.reverse))) ∨ (SqT K H1 a xs ∧ ∀ p, H1 p = none → Q (.ref p) (upd H1 p (.tup xs.reverse))))
theorem pe_revA {te : TE} {k : Nat} {p1 p2 p3 : Pos} (he : PE X e te) : PE X (.Subscript e (.Slice none none (some (.UnaryOp .USub (.Constant (.int 1) k p1) p2)) p3) pos) (tRevA X.K te) := by
  refine ⟨fun pins s σ H Q I h => ?_⟩
  refine Subscript_ (thn (he.run pins s σ H _ I h) fun v s1 ⟨x, H1, I1, r1, q1⟩ => ?_)
  obtain ⟨a, xs, ex, q⟩ := q1
  subst ex
  cases r1
  have hst : PO X (some (.UnaryOp .USub (.Constant (.int 1) k p1) p2)) (tPart (tUn (rU fun i => .int (-i)) (tC (.int 1)))) := po_some (pe_un un_neg pe_int)
  refine wpAny_Slice (thn (po_none.run pins s1 σ H1 (fun o H2 => o = none ∧ H2 = H1) I1 ⟨rfl, rfl⟩) fun vl s2 ⟨l, H2, I2, pl, el, e2⟩ => ?_)
  subst el e2
  refine thn (po_none.run pins s2 σ H2 (fun o H3 => o = none ∧ H3 = H2) I2 ⟨rfl, rfl⟩) fun vu s3 ⟨u, H3, I3, pu, eu, e3⟩ => ?_
  subst eu e3
  refine thn (hst.run pins s3 σ H3 (fun o H4 => o = some (-1) ∧ H4 = H3) I3 ⟨1, rfl, -1, rfl, rfl, rfl⟩) fun vs s4 ⟨o, H4, I4, ps, eo, e4⟩ => ?_
  subst eo e4
  have I5 : Inv X pins σ H4 { s4 with heap := s4.heap.push { cls := .type "slice", data := .fields #[vl, vu, vs] } } := I4.kept (t' := s4.toks) fun b ob q => Heap.get?_push_of_some _ q
  show wpAny (model X.prog X.w) X.A (subscriptTail e (.Slice none none (some (.UnaryOp .USub (.Constant (.int 1) k p1) p2)) p3) (.ref a) (.ref s4.heap.objs.size)) (EP X pins σ Q) X.xe { s4 with heap := s4.heap.push { cls := .type "slice", data := .fields #[vl, vu, vs] } }
  rcases q with ⟨hx, q⟩ | ⟨hx, q⟩
  · obtain ⟨its, r, ht, hz⟩ := I5.list hx
    have hlen := r.length
    refine tail_any (ops := [.ref a, .ref s4.heap.objs.size]) ht.isList.typeIs (PySem.slot_list_getitem.lookup) ?_ (by with_unfolding_all rfl)
    refine wpAny_getItem_list_slice ht.isList (Heap.IsSliceOf.new _ vl vu vs) pl pu ps (by decide) ?_ (by rw [List.size_toArray]; omega)
    rw [PySem.W.krv_pick]
    refine ⟨.ref _, _, I5.laid (t' := s4.toks) (o := .lst xs.reverse) (fun b ob q => Heap.get?_push_of_some _ q) (Nat.le_refl _) ?_, rfl, q _ (I5.hok.fresh (Nat.le_refl _))⟩
    exact ⟨by rw [List.length_reverse]; exact hz, _, 0, r.reverse, Heap.get?_push_size _ rfl⟩
  · obtain ⟨its, r, ht, hz⟩ := I5.tuple hx
    have hlen := r.length
    cases pl
    cases pu
    cases ps
    refine tail_any (ops := [.ref a, .ref s4.heap.objs.size]) ht.typeIs (PyProof.Rows.slot_tuple_getitem.lookup) ?_ (by with_unfolding_all rfl)
    refine HT.getItem_tuple_rev ht (Heap.IsSliceOf.new _ _ _ _) ?_ (by rw [List.size_toArray]; omega)
    refine ⟨.ref _, _, I5.laid (t' := s4.toks) (o := .tup xs.reverse) (fun b ob q => Heap.get?_push_of_some _ q) (Nat.le_refl _) ?_, rfl, q _ (I5.hok.fresh (Nat.le_refl _))⟩
    exact ⟨by rw [List.length_reverse]; exact hz, _, r.reverse, IsTup.new _ _⟩
def eRev (w : WE) : WE := fun x η n R => w x η n fun d n1 => match d with
  | .lst xs => R (.lst xs.reverse) n1
  | .tup xs => R (.tup xs.reverse) n1
  | _ => False
theorem q_rev {w : WE} {k : Nat} {p1 p2 p3 : Pos} (he : PE X e (upB X.K E w)) : PE X (.Subscript e (.Slice none none (some (.UnaryOp .USub (.Constant (.int 1) k p1) p2)) p3) pos) (up X.K E (eRev w)) := pe_to (pe_revA he) fun σ H Q q => by
  obtain ⟨c, η, R, x, e1, ok, en, hw, hr, hx⟩ := q
  refine ⟨c, η, _, x, e1, ok, en, hw, fun d c1 v hd ok1 l1 rp => ?_, hx⟩
  cases d <;> first | exact hd.elim | skip
  · obtain ⟨p, vs, rfl, _, e, r⟩ := rp.tup ok1
    exact ⟨p, vs, rfl, .inr ⟨.of e, fun t ht => rp_new_tup (k := fun d => R d c1.n) ok1 ht r.rev hd fun d c' z hk hn ok' l' rp => hr d c' z (by rw [hn]; exact hk) ok' (l1.trans l') rp⟩⟩
  · obtain ⟨p, vs, rfl, e, r⟩ := rp.lst ok1
    exact ⟨p, vs, rfl, .inl ⟨.of e, fun t ht => rp_new_lst (k := fun d => R d c1.n) ok1 ht r.rev hd fun d c' z hk hn ok' l' rp => hr d c' z (by rw [hn]; exact hk) ok' (l1.trans l') rp⟩⟩
/-- module constants -/
theorem q_gi {x : Str} {i : Int} (hg : Gl X x) (hm : ∃ t, X.mg x = some (.int i t)) (hd : (x == ("__debug__" : Str)) = false := by decide) : PE X (.Name x pos) (up X.K E (eC (.int i))) := by
  obtain ⟨t, hm⟩ := hm
  exact q_c (pe_glob (v := .int i) hg hm ⟨t, rfl⟩ hd) fun _ _ => .int i
theorem q_gs {x z : Str} (hg : Gl X x) (hm : ∃ t, X.mg x = some (.str z t)) (hd : (x == ("__debug__" : Str)) = false := by decide) : PE X (.Name x pos) (up X.K E (eC (.str z))) := by
  obtain ⟨t, hm⟩ := hm
  exact q_c (pe_glob (v := .str z) hg hm ⟨t, rfl⟩ hd) fun _ _ => .str z
/-- a, b = .. (two plain locals) -/
theorem qs_par {i j : Nat} {x y : Str} {a b : Expr} {w : WA} {px py pt : Pos} {kt k2 pt2} (hc : X.calm = true) (hN : X.N.Nodup) (hi : X.N[i]? = some x) (hj : X.N[j]? = some y) (hij : i ≠ j)
    (hx : X.env.scope.names.lookup x = some .local) (hy : X.env.scope.names.lookup y = some .local) (ha : PA X [a, b] (upA X.K E w))
    (hw : swappedStores [.Tuple [.Name x px, .Name y py] kt pt] (.Tuple [a, b] k2 pt2) X.env = pure (some [x, y]))
    (hs : swapsWithSole [.Tuple [.Name x px, .Name y py] kt pt] (.Tuple [a, b] k2 pt2) pos.line X.env = pure false := by rfl) :
    PS X (.Assign [.Tuple [.Name x px, .Name y py] kt pt] (.Tuple [a, b] k2 pt2) pos) (upS X.K E (sPar i j w)) := ps_to (ps_par hc hN hi hj hij hx hy ha hw hs) par_up
end
end DL
set_option maxHeartbeats 2000000
namespace DL
open PySem PySem.Spec PyProof.Rows L2

/-! ### fields -/
def putN {α : Type} (f : Str) (d : α) : List Str → List α → List Str × List α
  | g :: ns, x :: fs => if g = f then (g :: ns, d :: fs) else let r := putN f d ns fs; (g :: r.1, x :: r.2)
  | _, _ => ([f], [d])
def lkN {α : Type} (f : Str) : List Str → List α → Option α
  | g :: ns, x :: fs => if g = f then some x else lkN f ns fs
  | _, _ => none
theorem putF_zip (f : Str) (v : V) : ∀ (ns : List Str) (vs : List V), ns.length = vs.length → putF f v (ns.zip vs) = (putN f v ns vs).1.zip (putN f v ns vs).2 ∧ (putN f v ns vs).1.length = (putN f v ns vs).2.length ∧ (putN f v ns vs).1.length ≤ ns.length + 1
  | [], [], _ => ⟨rfl, rfl, Nat.le_refl _⟩
  | g :: ns, x :: vs, h => by
    obtain ⟨i1, i2, i3⟩ := putF_zip f v ns vs (by simpa using h)
    show (if g = f then (g, v) :: ns.zip vs else (g, x) :: putF f v (ns.zip vs)) = _ ∧ _
    by_cases hg : g = f
    · simp only [putN, if_pos hg]
      exact ⟨rfl, by simpa using h, by simp⟩
    · simp only [putN, if_neg hg]
      refine ⟨by rw [i1]; rfl, by simpa using i2, ?_⟩
      show (putN f v ns vs).1.length + 1 ≤ _
      simp only [List.length_cons]
      omega
  | [], _ :: _, h => by cases h
  | _ :: _, [], h => by cases h
theorem putN_rpl {K : PySem.W.Frag} {dr : Addr} {F : Hp} {f : Str} {v : V} {d : D} (r : Rp K dr F v d) : ∀ (ns : List Str) (vs : List V) (ds : List D), RpL K dr F vs ds → (putN f v ns vs).1 = (putN f d ns ds).1 ∧ RpL K dr F (putN f v ns vs).2 (putN f d ns ds).2
  | [], _, _, q => by
    cases q <;> exact ⟨rfl, .cons r .nil⟩
  | g :: ns, _, _, q => by
    cases q with
    | nil => exact ⟨rfl, .cons r .nil⟩
    | cons r1 t =>
      obtain ⟨i1, i2⟩ := putN_rpl r ns _ _ t
      by_cases hg : g = f
      · simp only [putN, if_pos hg]
        exact ⟨trivial, .cons r t⟩
      · simp only [putN, if_neg hg]
        exact ⟨by rw [i1], .cons r1 i2⟩
theorem lkN_rpl {K : PySem.W.Frag} {dr : Addr} {F : Hp} {f : Str} {d : D} : ∀ (ns : List Str) (vs : List V) (ds : List D), RpL K dr F vs ds → ns.length = vs.length → lkN f ns ds = some d → ∃ v, (ns.zip vs).lookup f = some v ∧ Rp K dr F v d
  | [], _, _, _, _, h => by cases h
  | g :: ns, _, _, q, hl, h => by
    cases q with
    | nil => cases h
    | cons r1 t =>
      rename_i v0 vs0 d0 ds0
      have h' : (if g = f then some d0 else lkN f ns ds0) = some d := h
      show ∃ v, List.lookup f ((g, v0) :: ns.zip vs0) = some v ∧ _
      by_cases hg : g = f
      · rw [if_pos hg] at h'
        cases h'
        have hb : (f == g) = true := beq_iff_eq.mpr hg.symm
        exact ⟨v0, by simp only [List.lookup, hb], r1⟩
      · rw [if_neg hg] at h'
        obtain ⟨v, e, r⟩ := lkN_rpl ns vs0 ds0 t (by simpa using hl) h'
        have hb : (f == g) = false := beq_eq_false_iff_ne.mpr (fun z => hg z.symm)
        exact ⟨v, by simp only [List.lookup, hb]; exact e, r⟩
section
variable {X : Cx} {E : XK} {pos : Pos} {e e2 : Expr} {es : List Expr}
/-- what of the text a class must have -/
structure CF (K : PySem.W.Frag) (cn : Str) (fs : List Str) : Prop where
  cls : Cls K (He.ga K cn)
  no : ∀ f ∈ fs, NoAttr K (He.ga K cn) f
def fldS (cn f : Str) : Option Sl → (D → Prop) → Prop
  | some (.dt (.ins c ns fs)), k => c = cn ∧ ∃ y, lkN f ns fs = some y ∧ k y
  | some (.ob _ c ns fs), k => c = cn ∧ ∃ y, lkN f ns fs = some y ∧ k y
  | _, _ => False
/-- self.f by the slot -/
def eFldV (cn : Str) (i : Nat) (f : Str) : WE := fun _ η n R => fldS cn f η[i]? fun y => R y n
theorem q_fldV {y : Str} {npos : Pos} {cn f : Str} {i : Nat} {fl : List Str} (c : CF X.K cn fl) (hf : f ∈ fl) (hv : PE X (.Name y npos) (tVar i)) (hb : attributeBase (.Name y npos) f X.env (eval (.Name y npos) X.env) = eval (.Name y npos) X.env := by rfl) :
    PE X (.Attribute (.Name y npos) f pos) (up X.K E (eFldV cn i f)) := pe_to (pe_fld hv hb) fun σ H Q q => by
  obtain ⟨cf, η, R, x, e1, ok, en, hw, hr, hx⟩ := q
  have hw : fldS cn f η[i]? fun y => R y cf.n := hw
  cases hs : η[i]? with
  | none =>
    rw [hs] at hw
    exact hw.elim
  | some s =>
    rw [hs] at hw
    cases s with
    | un => exact hw.elim
    | cl _ => exact hw.elim
    | ow _ => exact hw.elim
    | dt d =>
      cases d <;> first | exact hw.elim | skip
      obtain ⟨rfl, y, hy, hk⟩ := hw
      obtain ⟨v, e2, rp⟩ := en.dt hs
      cases rp with
      | ins f1 l1 r1 =>
        obtain ⟨u, hu, ru⟩ := lkN_rpl _ _ _ r1 l1 hy
        refine ⟨_, e2, _, _, _, _, u, rfl, (by rw [← e1]; exact ok.sub _ _ f1), c.cls, c.no f hf, hu, ?_⟩
        rw [← e1]
        exact hr y cf u hk ok .refl ru
    | ob p c' ns fs =>
      obtain ⟨rfl, y, hy, hk⟩ := hw
      obtain ⟨dx, vs, e2, h1, h2, h3, h4, rp⟩ := en.ob hs
      obtain ⟨u, hu, ru⟩ := lkN_rpl _ _ _ rp h4 hy
      refine ⟨_, e2, _, _, _, _, u, rfl, (by rw [← e1]; exact h1), c.cls, c.no f hf, hu, ?_⟩
      rw [← e1]
      exact hr y cf u hk ok .refl ru
/-- e.f, a frozen instance -/
def eFld (cn f : Str) (w : WE) : WE := fun x η n R => w x η n fun d n1 => match d with
  | .ins c ns fs => c = cn ∧ ∃ y, lkN f ns fs = some y ∧ R y n1
  | _ => False
theorem q_fld {cn f : Str} {fl : List Str} {w : WE} (c : CF X.K cn fl) (hf : f ∈ fl) (he : PE X e (up X.K E w)) (hb : attributeBase e f X.env (eval e X.env) = eval e X.env := by rfl) : PE X (.Attribute e f pos) (up X.K E (eFld cn f w)) := pe_to (pe_fld he hb) fun σ H Q q => by
  obtain ⟨cf, η, R, x, e1, ok, en, hw, hr, hx⟩ := q
  refine ⟨cf, η, _, x, e1, ok, en, hw, fun d c1 v hd ok1 l1 rp => ?_, hx⟩
  cases rp <;> first | exact hd.elim | skip
  rename_i f1 l2 r1
  obtain ⟨rfl, y, hy, hk⟩ := hd
  obtain ⟨u, hu, ru⟩ := lkN_rpl _ _ _ r1 l2 hy
  exact ⟨_, _, _, _, u, rfl, ok1.sub _ _ f1, c.cls, c.no f hf, hu, hr y c1 u hk ok1 l1 ru⟩
/-- self.f = e, self under way -/
def obS (cn : Str) : Option Sl → (Addr → List Str → List D → Prop) → Prop
  | some (.ob p c ns fs), k => c = cn ∧ k p ns fs
  | _, _ => False
def sPutF (cn : Str) (i : Nat) (f : Str) (w : WE) : WS := fun x k η n => w x η n fun d n1 => obS cn η[i]? fun p ns fs => ns.length < 900 ∧ k.nx (η.set i (.ob p cn (putN f d ns fs).1 (putN f d ns fs).2)) n1
theorem qs_putF {y : Str} {npos apos : Pos} {cn f : Str} {i : Nat} {fl : List Str} {w : WE} (c : CF X.K cn fl) (hf : f ∈ fl) (hv : PE X (.Name y npos) (tVar i)) (he : PE X e (up X.K E w)) (hs : swapsWith e (some (.Attribute (.Name y npos) f apos)) pos.line X.env = pure false := by rfl) :
    PS X (.Assign [.Attribute (.Name y npos) f apos] e pos) (upS X.K E (sPutF cn i f w)) := ps_to (ps_fld hv he hs) fun D σ H q => by
  obtain ⟨cf, η, k, x, e1, ok, en, hw, h1, h2, h3, h4, hx⟩ := q
  refine ⟨cf, η, _, x, e1, ok, en, hw, fun d c1 v hd ok1 l1 rp => ?_, hx.none⟩
  have en1 := en.le l1
  cases hs : η[i]? with
  | none =>
    rw [hs] at hd
    exact hd.elim
  | some s =>
    rw [hs] at hd
    cases s with
    | un => exact hd.elim
    | cl _ => exact hd.elim
    | ow _ => exact hd.elim
    | dt _ => exact hd.elim
    | ob p c' ns fs =>
      obtain ⟨rfl, hn, hk⟩ := hd
      obtain ⟨dx, vs, e2, g1, g2, g3, g4, rpx⟩ := en1.ob hs
      obtain ⟨z1, z2, z3⟩ := putF_zip f v ns vs g4
      obtain ⟨z4, z5⟩ := putN_rpl (f := f) rp ns vs fs rpx
      refine ⟨_, e2, p, _, dx, _, rfl, g1, c.cls, c.no f hf, ?_, ?_⟩
      · rw [List.length_zip]
        omega
      · rw [z1]
        have r' : SlOk X.K ⟨c1.dr, c1.F, upd c1.H p (.ins (He.ga X.K c') dx ((putN f v ns vs).1.zip (putN f v ns vs).2)), c1.n, c1.T⟩ (some (.ref p)) (.ob p c' (putN f d ns fs).1 (putN f d ns fs).2) := by
          refine ⟨dx, (putN f v ns vs).2, rfl, ?_, g2, g3, by rw [← z4]; exact z2, z5⟩
          rw [← z4]
          exact upd_same
        obtain ⟨ok2, l2, en2, ho2⟩ := own_putO ok1 en1 hs rfl e2 g1 g2 g3 r'
        exact h1 _ ⟨c1.dr, c1.F, upd c1.H p (.ins (He.ga X.K c') dx ((putN f v ns vs).1.zip (putN f v ns vs).2)), c1.n, c1.T⟩ σ hk ok2 (LeO.trans (LeO.of l1) l2 own_refl) (fun a z => .inl (ho2 a z)) en2

/-! ### a new instance -/
abbrev Ci := Xn → List D → Nat → (List Str → List D → Nat → Prop) → Prop
def spI (K : PySem.W.Frag) (cn : Str) (m : Nat) (C : Ci) : Sp := fun vs H Q E => ∃ c p dx us ds R x, vs = .ref p :: us ∧ c.H = H ∧ c.Ok ∧ c.T = TK K ∧ c.H p = some (.ins (He.ga K cn) dx []) ∧ c.F p = none ∧ p ≠ c.dr ∧ RPL K c us ds ∧ ds.length = m ∧ C x ds c.n R ∧
  (∀ ns fs c' vs', R ns fs c'.n → c'.Ok → LeO (fun a => a = p) c c' → (∃ dx', c'.H p = some (.ins (He.ga K cn) dx' (ns.zip vs'))) → c'.F p = none → ns.length = vs'.length → RPL K c' vs' fs → Q .non c'.H) ∧ XW K E x (fun a => a = p) c
theorem spI_len {K : PySem.W.Frag} {cn : Str} {m : Nat} {C : Ci} {vs : List V} {H : Hp} {Q : VK} {E : XK} (h : spI K cn m C vs H Q E) : vs.length = m + 1 := by
  obtain ⟨c, p, dx, us, ds, R, x, rfl, _, _, _, _, _, _, r, hl, _⟩ := h
  show us.length + 1 = m + 1
  rw [r.length, hl]
def eMake (cn : Str) (m : Nat) (C : Ci) (dds : List D) (w : WA) : WE := fun x η n R => w x η n fun ds n1 => (ds ++ dds).length = m ∧ C x (ds ++ dds) n1 fun ns fs n2 => R (.ins cn ns fs) n2
theorem make_at {K : PySem.W.Frag} {cn : Str} {m : Nat} {C : Ci} {c c1 : Cf} {ds : List D} {us : List V} {R : D → Nat → Prop} {x : Xn} {Q : VK} {E' : XK} (l1 : Le c c1) (ok1 : c1.Ok) (hT : c1.T = TK K) (rp : RPL K c1 us ds) (hl : ds.length = m) (hC : C x ds c1.n fun ns fs n2 => R (.ins cn ns fs) n2)
    (hr : ∀ d c' v, R d c'.n → c'.Ok → Le c c' → RP K c' v d → Q v c'.H) (hx : XW K E' x (fun _ => False) c) : ∀ p dx, c1.H p = none → c1.H dx = none → dx ≠ p → spI K cn m C (.ref p :: us) (upd (upd c1.H dx (.own p)) p (.ins (He.ga K cn) dx [])) (fun v H2 => v = .non ∧ Q (.ref p) H2) E' := fun p dx hp hdx hne => by
  obtain ⟨okA, lA, fA, dA⟩ := ok1.newH (o := .own p) hdx
  have hp2 : (⟨c1.dr, c1.F, upd c1.H dx (.own p), c1.n, c1.T⟩ : Cf).H p = none := by
    show upd c1.H dx (.own p) p = none
    rw [upd_ne (Ne.symm hne)]
    exact hp
  obtain ⟨okB, lB, fB, dB⟩ := okA.newH (o := .ins (He.ga K cn) dx []) hp2
  have lAB := lA.trans lB
  have hp0 : No c p := No.back l1 (No.of hp)
  refine ⟨⟨c1.dr, c1.F, upd (upd c1.H dx (.own p)) p (.ins (He.ga K cn) dx []), c1.n, c1.T⟩, p, dx, us, ds, _, x, rfl, rfl, okB, hT, upd_same, fB, dB, lAB.rpl rp, hl, hC, fun ns fs c2 vs' hR ok2 l2 ⟨dx', h2⟩ f2 hl2 rp2 => ⟨rfl, ?_⟩, fun d c2 cls od hd ok2 l2 xo => ?_⟩
  · have hd2 : p ≠ c2.dr := by
      rw [l2.dr]
      exact dB
    obtain ⟨ok3, l3⟩ := ok2.frz h2 f2 hd2
    refine hr _ ⟨c2.dr, upd c2.F p (.ins (He.ga K cn) dx' (ns.zip vs')), c2.H, c2.n, c2.T⟩ _ hR ok3 ?_ (.ins upd_same hl2 (l3.rpl rp2))
    have lx : LeO (fun a => a = p) c c2 := (l1.trans lAB).thnO l2
    refine ⟨lx.dr, fun a o q => l3.f a o (lx.f a o q), fun a o q1 q2 qz q3 => lx.h a o q1 (fun z => ?_) qz q3, fun a o q1 q2 qz q3 q4 => ?_, lx.hd, lx.T⟩
    · rw [z] at q3
      exact hp0.ne qz q3
    · have nap : a ≠ p := fun z => by
        rw [z] at q4
        exact hp0.ne qz q4
      show upd c2.F p _ a = none
      rw [upd_ne nap]
      exact lx.fr a o q1 nap qz q3 q4
  · have lx : LeO (fun a => a = p) c c2 := (l1.trans lAB).thnO l2
    refine hx d c2 cls od hd ok2 ⟨lx.dr, lx.f, fun a o q1 _ qz q3 => lx.h a o q1 (fun z => ?_) qz q3, fun a o q1 _ qz q3 q4 => lx.fr a o q1 (fun z => ?_) qz q3 q4, lx.hd, lx.T⟩ xo
    · rw [z] at q3
      exact hp0.ne qz q3
    · rw [z] at q4
      exact hp0.ne qz q4
def CalmI (C : Ci) : Prop := ∀ x x' ds n R, C x ds n R → C x' ds n R
/-- a class of the module: its maker, the init's contract, positional arguments and defaults dds -/
def Mkr (P : Program) (wd : World) (K : PySem.W.Frag) (mg : Str → Option Value) (base : Heap) (cn : Str) (ps : List Str) (m k : Nat) (C : Ci) (dds : List D) : Prop :=
  ∃ f fd ds dvs, L2.Mk K (He.ga K cn) f ∧ FnOk P wd K mg base CX0 k f fd ps (spI K cn m C) ∧ Binds K fd ps ds ∧ Vals dvs ds ∧ (∀ dr F, RpL K dr F dvs dds) ∧ mg cn = some (.ref (He.ga K cn))
theorem q_mk {cn : Str} {ps : List Str} {m k j : Nat} {C : Ci} {dds : List D} {w : WA} {p : Pos} (M : Mkr X.prog X.w X.K X.mg X.base cn ps m j C dds) (hC : CalmI C) (hr : Room k X.A) (hj : j + 1 ≤ k) (hg : Gl X cn) (ha : PA X (e :: es) (upA X.K E w)) (hdb : (cn == ("__debug__" : Str)) = false := by decide)
    (he : starEach (e :: es) X.env = (false, eval e X.env) :: starEach es X.env := by rfl) (hpl : (backTo pos (starEach es X.env)).any (·.1) = false := by rfl) : PE X (.Call (.Name cn p) (e :: es) [] pos) (up X.K E (eMake cn m C dds w)) := by
  obtain ⟨f, fd, ds, dvs, mk, F, b, hd, hrp, g⟩ := M
  refine pe_to (pe_make mk F (hr.mono hj) hg g b hd pass0 ha hdb he hpl) fun σ H Q q => ?_
  obtain ⟨c, η, R, x, e1, ok, en, hw, hr, hx⟩ := q
  refine ⟨c, η, _, x, e1, ok, en, hw, fun ds c1 vs hc ok1 l1 rp => ?_, hx⟩
  exact make_at (x := fun _ _ => False) l1 ok1 (l1.T.trans en.T) (rp.append (hrp _ _)) hc.1 (hC _ _ _ _ _ hc.2) hr fun d c' cls od h => h.elim
/-- the init's body keeps its contract -/
theorem init_up {K : PySem.W.Frag} {cn : Str} {m : Nat} {C : Ci} {N : List Str} {w : WS} {vs : List V} {H : Hp} {Q : VK} (hN : m + 1 ≤ N.length) (h : spI K cn m C vs H Q E)
    (hw : ∀ p x ds n R, ds.length = m → C x ds n R → w x { nx := fun η n => obS cn η[0]? fun p' ns fs => p' = p ∧ R ns fs n, rt := fun _ _ => False } (.ob p cn [] [] :: (ds.map Sl.dt ++ List.replicate (N.length - (m + 1)) Sl.un)) n) :
    upS K E w { nx := fun _ H' => Q .non H', rt := Q } (L2.start N vs) H := by
  obtain ⟨c, p, dx, us, ds, R, x, rfl, e1, ok, hT, hp, hF, hd, r, hl, hc, hr, hx⟩ := h
  have enu : EnvOk K c (L2.start N (.ref p :: us)) (Sl.un :: (ds.map Sl.dt ++ List.replicate (N.length - (m + 1)) Sl.un)) := by
    obtain ⟨n0, N', rfl⟩ : ∃ n0 N', N = n0 :: N' := by
      cases N with
      | nil => simp at hN
      | cons a b => exact ⟨a, b, rfl⟩
    have en := env_start (K := K) (c := c) (N := N') hT r
    rw [hl] at en
    have el : (n0 :: N').length - (m + 1) = N'.length - m := by simp
    rw [el]
    have es : L2.start (n0 :: N') (.ref p :: us) = some (.ref p) :: L2.start N' us := by
      unfold L2.start
      simp
    rw [es]
    refine ⟨by simp [en.len], fun i s h => ?_, fun i j s t a h1 h2 g1 g2 h3 h4 => ?_, hT⟩
    · cases i with
      | zero =>
        simp at h
        subst h
        exact ⟨_, rfl, trivial⟩
      | succ i => exact en.sl i s (by simpa using h)
    · cases i with
      | zero =>
        simp at h1
        subst h1
        cases g1
      | succ i =>
        cases j with
        | zero =>
          simp at h2
          subst h2
          cases g2
        | succ j => exact congrArg Nat.succ (en.inj i j s t a (by simpa using h1) (by simpa using h2) g1 g2 (by simpa using h3) (by simpa using h4))
  have noow : ∀ a, Owned (L2.start N (.ref p :: us)) (Sl.un :: (ds.map Sl.dt ++ List.replicate (N.length - (m + 1)) Sl.un)) a → False := fun a ⟨i, s, h1, h2, h3⟩ => by
    cases i with
    | zero =>
      simp at h1
      subst h1
      cases h2
    | succ i => exact start_noown (σ := (L2.start N (.ref p :: us)).tail) ⟨i, s, by simpa using h1, h2, by
        cases hs : L2.start N (.ref p :: us) with
        | nil =>
          rw [hs] at h3
          simp at h3
        | cons a b =>
          rw [hs] at h3
          simpa using h3⟩
  have h0 : (L2.start N (.ref p :: us))[0]? = some (some (V.ref p)) := by
    unfold L2.start
    rfl
  have en : EnvOk K c (L2.start N (.ref p :: us)) (Sl.ob p cn [] [] :: (ds.map Sl.dt ++ List.replicate (N.length - (m + 1)) Sl.un)) := by
    have z := enu.own (i := 0) (p := p) (s0 := .ob p cn [] []) (fun j t _ q1 q2 q3 => noow p ⟨j, t, q1, q2, q3⟩) ⟨dx, [], rfl, hp, hF, hd, rfl, .nil⟩
    have e2 : (L2.start N (.ref p :: us)).set 0 (some (.ref p)) = L2.start N (.ref p :: us) := by
      cases hs : L2.start N (.ref p :: us) with
      | nil => rfl
      | cons a b =>
        rw [hs] at h0
        simp at h0
        rw [h0]
        rfl
    rw [e2] at z
    exact z
  have how : ∀ a, Owned (L2.start N (.ref p :: us)) (Sl.ob p cn [] [] :: (ds.map Sl.dt ++ List.replicate (N.length - (m + 1)) Sl.un)) a → a = p := fun a ⟨i, s, h1, h2, h3⟩ => by
    cases i with
    | zero =>
      rw [h0] at h3
      cases h3
      rfl
    | succ i => exact (noow a ⟨i + 1, s, by simpa using h1, h2, h3⟩).elim
  have le : ∀ {c' : Cf}, LeO (Owned (L2.start N (.ref p :: us)) (Sl.ob p cn [] [] :: (ds.map Sl.dt ++ List.replicate (N.length - (m + 1)) Sl.un))) c c' → LeO (fun a => a = p) c c' := fun l => ⟨l.dr, l.f, fun a o h1 h2 h3 => l.h a o h1 (fun z => h2 (how a z)) h3, fun a o h1 h2 h3 h4 => l.fr a o h1 (fun z => h2 (how a z)) h3 h4, l.hd, l.T⟩
  refine ⟨c, _, { nx := fun η n => obS cn η[0]? fun p' ns fs => p' = p ∧ R ns fs n, rt := fun _ _ => False }, x, e1, ok, en, hw p x ds c.n R hl hc, fun η' c' σ' hn ok' l' ho en' => ?_, fun d c' v hn ok' l' rp => hn.elim, fun η' c' σ' hn _ _ _ _ => hn.elim, fun η' c' σ' hn _ _ _ _ => hn.elim, fun d c' cls od hxx ok' l' xo => hx d c' cls od hxx ok' (le l') xo⟩
  have hn : obS cn η'[0]? fun p' ns fs => p' = p ∧ R ns fs c'.n := hn
  cases hs : η'[0]? with
  | none =>
    rw [hs] at hn
    exact hn.elim
  | some s =>
    rw [hs] at hn
    cases s with
    | un => exact hn.elim
    | cl _ => exact hn.elim
    | ow _ => exact hn.elim
    | dt _ => exact hn.elim
    | ob p' c2 ns fs =>
      obtain ⟨rfl, rfl, hR⟩ := hn
      obtain ⟨dx', vs', g1, g2, g3, g4, g5, g6⟩ := en'.ob hs
      exact hr ns fs c' vs' hR ok' (le l') ⟨dx', g2⟩ g3 g5 g6
theorem fn_init {P : Program} {wd : World} {K : PySem.W.Frag} {mg : Str → Option Value} {base : Heap} {x qual : Str} {params : Arguments} {body : List Stmt} {scope : Scope} {dvs : List V} {kws : List (Str × V)} {N : List Str} {w : WS} {f : Addr} {fd : FuncData} {cn : Str} {m k : Nat} {C : Ci} {ps : List Str}
    (F : FunD K x qual params body scope dvs kws f fd) (S : FnScope N ps scope) (hps : ps.length = m + 1) (hN : m + 1 ≤ N.length)
    (hb : ∀ (cdv : Value) (A : Around) (outer : List Env) (s : Shared) (H : Hp) (E : XK), Room k (A.deeper (envOfC qual scope s.heap.objs.size f cdv)) → PSs (cxOf CX0 P wd K mg base N qual scope f cdv A outer s H E).nox body (upS K E w))
    (hw : ∀ p x ds n R, ds.length = m → C x ds n R → w x { nx := fun η n => obS cn η[0]? fun p' ns fs => p' = p ∧ R ns fs n, rt := fun _ _ => False } (.ob p cn [] [] :: (ds.map Sl.dt ++ List.replicate (N.length - (m + 1)) Sl.un)) n) : FnOk P wd K mg base CX0 (k + 1) f fd ps (spI K cn m C) :=
  F.ok S (fun vs H Q E h => (spI_len h).trans hps.symm) fun cdv A outer s H vs Q E hr h => ⟨_, (hb cdv A outer s H E hr).nox, init_up hN h hw⟩
end
end DL
set_option maxHeartbeats 2000000
namespace DL
open PySem PySem.Spec PyProof.Rows L2

/-! ### keywords -/
section
variable {X : Cx} {E : XK} {pos : Pos} {e e2 : Expr} {es : List Expr} {kws : List Keyword}
theorem pk_to {t t' : TA} (h : PK X kws t) (i : ∀ σ H Q, t' σ H Q → t σ H Q) : PK X kws t' := ⟨fun pos pins s σ H Q I q => h.run pos pins s σ H Q I (i σ H Q q)⟩
theorem qk_nil : PK X [] (upA X.K E aNil) := pk_to pk_nil fun σ H Q q => by
  obtain ⟨c, η, R, x, e1, ok, en, hw, hr, hx⟩ := q
  show Q [] H
  rw [← e1]
  exact hr [] c [] hw ok .refl .nil
theorem qk_cons {w : WE} {r : WA} {nm : Option Str} {kpos : Pos} (ha : PE X e (up X.K E w)) (hr : PK X kws (upA X.K E r)) : PK X (⟨nm, e, kpos⟩ :: kws) (upA X.K E (aCons w r)) := pk_to (pk_cons ha hr) fun σ H Q q => by
  obtain ⟨c, η, R, x, e1, ok, en, hw, hr, hx⟩ := q
  refine ⟨c, η, _, x, e1, ok, en, hw, fun d c1 v h1 ok1 l1 r1 => ?_, hx⟩
  refine ⟨c1, η, _, x, rfl, ok1, en.le l1, h1, fun ds c2 vs h2 ok2 l2 r2 => ?_, hx.le l1⟩
  exact hr (d :: ds) c2 (v :: vs) h2 ok2 (l1.trans l2) (.cons (l2.rp r1) r2)
def gP {α : Type} (d : α) (pm : List Nat) (us ws : List α) : List α := pm.map fun i => (us ++ ws).getD i d
theorem vals_getD {vs : List V} {us : List Value} (r : Vals vs us) (i : Nat) : RelV (vs.getD i .non) (us.getD i .none) := by
  have hl := r.length
  by_cases h : i < vs.length
  · have e1 : vs[i]? = some vs[i] := List.getElem?_eq_getElem h
    obtain ⟨u, e2, ru⟩ := r.get e1
    rw [List.getD_eq_getElem?_getD, List.getD_eq_getElem?_getD, e1, e2]
    exact ru
  · rw [List.getD_eq_getElem?_getD, List.getD_eq_getElem?_getD, List.getElem?_eq_none_iff.mpr (by omega), List.getElem?_eq_none_iff.mpr (by omega)]
    rfl
theorem gP_vals {vs zs : List V} {us ws : List Value} (r : Vals vs us) (rz : Vals zs ws) : ∀ pm : List Nat, Vals (gP .non pm vs zs) (gP .none pm us ws)
  | [] => .nil
  | i :: pm => .cons (vals_getD (r.append rz) i) (gP_vals r rz pm)
theorem rpl_getD {K : PySem.W.Frag} {dr : Addr} {F : Hp} {vs : List V} {ds : List D} (r : RpL K dr F vs ds) (i : Nat) : Rp K dr F (vs.getD i .non) (ds.getD i .non) := by
  have hl := r.length
  by_cases h : i < ds.length
  · have e1 : ds[i]? = some ds[i] := List.getElem?_eq_getElem h
    obtain ⟨u, e2, ru⟩ := r.get e1
    rw [List.getD_eq_getElem?_getD, List.getD_eq_getElem?_getD, e1, e2]
    exact ru
  · rw [List.getD_eq_getElem?_getD, List.getD_eq_getElem?_getD, List.getElem?_eq_none_iff.mpr (by omega), List.getElem?_eq_none_iff.mpr (by omega)]
    exact .non
theorem gP_rpl {K : PySem.W.Frag} {dr : Addr} {F : Hp} {vs zs : List V} {ds es : List D} (r : RpL K dr F vs ds) (rz : RpL K dr F zs es) : ∀ pm : List Nat, RpL K dr F (gP .non pm vs zs) (gP .non pm ds es)
  | [] => .nil
  | i :: pm => .cons (rpl_getD (r.append rz) i) (gP_rpl r rz pm)
theorem kbn_mk {K : PySem.W.Frag} {x qual : Str} {params : Arguments} {body : List Stmt} {scope : Scope} {kw : List (Str × V)} {f : Addr} {fd : FuncData} {ps ks : List Str} (n : Nat) (pm : List Nat) (F : FunD K x qual params body scope [] kw f fd)
    (h : ∀ (kV doc pmm : Value) (an : Option Addr) (cdv ct : Value) (us ws : List Value), us.length = n → ws.length = ks.length → bindArgs (PySem.W.fnOf x qual params body scope .none kV doc pmm an cdv ct) ⟨us, ks.zip ws⟩ = pure (ps.zip (gP .none pm us ws))) : KBn K fd ps n ks (gP .none pm) (gP .non pm) := by
  obtain ⟨oc, od, dV, kV, doc, pmm, an, cdv, ct, osl, rfl, lk, hcd, hD, hK⟩ := F.ex
  rcases hD with ⟨_, rfl⟩ | ⟨e, _⟩
  · exact ⟨fun s us ws _ h1 h2 => .of_eq (h kV doc pmm an cdv ct us ws h1 h2), fun r rz => gP_vals r rz pm⟩
  · exact absurd rfl e
/-- f(.., k = v, ..), any number of places -/
def eCallK (m n l : Nat) (C : Ct) (pm : List Nat) (w wk : WA) : WE := fun x η nn R => w x η nn fun ds n1 => wk x η n1 fun es n2 => ds.length = n ∧ es.length = l ∧ pm.length = m ∧ C x (gP .non pm ds es) n2 R
/-- a def's call with keywords -/
def FnK (P : Program) (wd : World) (K : PySem.W.Frag) (mg : Str → Option Value) (base : Heap) (nm : Str) (ps : List Str) (m k : Nat) (C : Ct) (n : Nat) (ks : List Str) (pm : List Nat) : Prop :=
  ∃ fd, FnOk P wd K mg base CX0 k (He.ga K nm) fd ps (spU K m C) ∧ KBn K fd ps n ks (gP .none pm) (gP .non pm) ∧ PySem.W.keepIn K (.ref (He.ga K nm)) = true ∧ mg nm = some (.ref (He.ga K nm))
theorem callK_up {K : PySem.W.Frag} {m n l : Nat} {C : Ct} {pm : List Nat} {w wk : WA} (hC : Calm C) : ∀ σ H Q, up K E (eCallK m n l C pm w wk) σ H Q → tCallN n l (spU K m C) (gP .non pm) E0 (upA K E w) (upA K E wk) σ H Q := fun σ H Q q => by
  obtain ⟨c, η, R, x, e1, ok, en, hw, hr, hx⟩ := q
  refine ⟨c, η, _, x, e1, ok, en, hw, fun ds c1 vs hc ok1 l1 rp => ?_, hx⟩
  refine ⟨c1, η, _, x, rfl, ok1, en.le l1, hc, fun es c2 zs hc2 ok2 l2 rz => ?_, hx.le l1⟩
  obtain ⟨h1, h2, h3, h4⟩ := hc2
  refine ⟨by rw [rp.length]; exact h1, by rw [rz.length]; exact h2, ?_⟩
  exact ⟨c2, _, R, fun _ _ => False, rfl, ok2, (l1.trans l2).T.trans en.T, gP_rpl (l2.rpl rp) rz pm, by simp [gP, h3], hC _ _ _ _ _ h4, fun d c3 v h5 ok3 l3 r3 => hr d c3 v h5 ok3 ((l1.trans l2).trans l3) r3, fun d c' cls od h => h.elim⟩
theorem q_fk {nm : Str} {ps : List Str} {m k j n : Nat} {C : Ct} {ks : List Str} {pm : List Nat} {p : Pos} {w wk : WA} (F : FnK X.prog X.w X.K X.mg X.base nm ps m j C n ks pm) (hC : Calm C) (hr : Room k X.A) (hj : j ≤ k) (hg : Gl X nm) (ha : PA X (e :: es) (upA X.K E w)) (hkw : PK X kws (upA X.K E wk))
    (hall : (backToKw pos (keywordEach kws X.env)).all (·.1.isSome) = true := by rfl) (hks : (backToKw pos (keywordEach kws X.env)).filterMap (·.1) = ks := by rfl)
    (hdb : (nm == ("__debug__" : Str)) = false := by decide) (he : starEach (e :: es) X.env = (false, eval e X.env) :: starEach es X.env := by rfl)
    (hpl : ((backTo pos (starEach (e :: es) X.env)).any (·.1) || (backToKw pos (keywordEach kws X.env)).any (·.1.isNone)) = false := by rfl) :
    PE X (.Call (.Name nm p) (e :: es) kws pos) (up X.K E (eCallK m n ks.length C pm w wk)) := by
  obtain ⟨fd, F, b, kp, g⟩ := F
  exact pe_to (pe_callN F (hr.mono hj) hg g kp b pass0 ha hkw hall hks hdb he hpl) (callK_up hC)
/-- f(k = v, ..) -/
theorem pe_callN0 {CX : CXT} {k : Nat} {f : Addr} {fd : FuncData} {ps ks : List Str} {sp : Sp} {E : XK} {x : Str} {p : Pos} {tk : TA} {g : List Value → List Value → List Value} {gV : List V → List V → List V} (F : FnOk X.prog X.w X.K X.mg X.base CX k f fd ps sp) (hr : Room k X.A) (hg : Gl X x) (hm : X.mg x = some (.ref f)) (hk : PySem.W.keepIn X.K (.ref f) = true) (hb : KBn X.K fd ps 0 ks g gV) (hx : Passes CX X E)
    (hkw : PK X kws tk) (hall : (backToKw pos (keywordEach kws X.env)).all (·.1.isSome) = true := by rfl) (hks : (backToKw pos (keywordEach kws X.env)).filterMap (·.1) = ks := by rfl)
    (hdb : (x == ("__debug__" : Str)) = false := by decide)
    (hpl : ((backTo pos (starEach [] X.env)).any (·.1) || (backToKw pos (keywordEach kws X.env)).any (·.1.isNone)) = false := by rfl) :
    PE X (.Call (.Name x p) [] kws pos) (tCallN 0 ks.length sp gV E tNil tk) := by
  refine ⟨fun pins s σ H Q I h => ?_⟩
  refine wpAny_Call_Name_kw (ld_glob I hg hm ?_ hdb)
  refine PySem.W.callWith_KW0 (h₀ := X.base) I.ok.mod.kin hk hall (thn (hkw.run pos pins s σ H _ I h) fun ws s2 ⟨zs, H2, I2, rz, l1, l2, q2⟩ => ⟨I2.kIn, ?_⟩) hpl
  rw [hks]
  exact run_fnN (us := []) (vs := []) F hr hb hx I2 .nil rz l1 l2 q2
theorem q_fk0 {nm : Str} {ps : List Str} {m k j : Nat} {C : Ct} {ks : List Str} {pm : List Nat} {p : Pos} {wk : WA} (F : FnK X.prog X.w X.K X.mg X.base nm ps m j C 0 ks pm) (hC : Calm C) (hr : Room k X.A) (hj : j ≤ k) (hg : Gl X nm) (hkw : PK X kws (upA X.K E wk))
    (hall : (backToKw pos (keywordEach kws X.env)).all (·.1.isSome) = true := by rfl) (hks : (backToKw pos (keywordEach kws X.env)).filterMap (·.1) = ks := by rfl)
    (hdb : (nm == ("__debug__" : Str)) = false := by decide)
    (hpl : ((backTo pos (starEach [] X.env)).any (·.1) || (backToKw pos (keywordEach kws X.env)).any (·.1.isNone)) = false := by rfl) :
    PE X (.Call (.Name nm p) [] kws pos) (up X.K E (eCallK m 0 ks.length C pm aNil wk)) := by
  obtain ⟨fd, F, b, kp, g⟩ := F
  refine pe_to (pe_callN0 F (hr.mono hj) hg g kp b pass0 hkw hall hks hdb hpl) fun σ H Q q => ?_
  obtain ⟨c, η, R, x, e1, ok, en, hw, hr, hx⟩ := q
  refine ⟨c, η, _, x, e1, ok, en, hw, fun es c2 zs hc2 ok2 l2 rz => ?_, hx⟩
  obtain ⟨h1, h2, h3, h4⟩ := hc2
  refine ⟨rfl, by rw [rz.length]; exact h2, ?_⟩
  exact ⟨c2, _, R, fun _ _ => False, rfl, ok2, l2.T.trans en.T, gP_rpl .nil rz pm, by simp [gP, h3], hC _ _ _ _ _ h4, fun d c3 v h5 ok3 l3 r3 => hr d c3 v h5 ok3 (l2.trans l3) r3, fun d c' cls od h => h.elim⟩
end

/-! ### own comparisons -/
section
variable {X : Cx} {E : XK}
/-- x op y by the class's own method -/
def rOwn (C : Addr) (sp : Sp) (neg : Bool) : R2 := fun x y H Q => ∃ a b dx dy fs gs, x = .ref a ∧ y = .ref b ∧ H a = some (.ins C dx fs) ∧ H b = some (.ins C dy gs) ∧ sp [.ref a, .ref b] H (fun v H' => ∃ t, v = .bl t ∧ Q (.bl (if neg then !t else t)) H') E0
theorem own_run {k : Nat} {f : Addr} {fd : FuncData} {ps : List Str} {sp : Sp} {A : Around} {pins : List (Addr × Obj)} {s : Shared} {σ : L2.St} {H : Hp} {a b : Addr} {Qv : VK} {Q : Value → Shared → Prop} {E' : Value → Shared → Prop} (F : FnOk X.prog X.w X.K X.mg X.base CX0 k f fd ps sp) (hb : Binds X.K fd ps []) (hr : Room k A) (hA : A.frames = X.A.frames) (I : Inv X pins σ H s)
    (hsp : sp [.ref a, .ref b] H Qv E0) (hq : ∀ v u H' s', Inv X pins σ H' s' → RelV v u → Qv v H' → Q u s') : wpAny (model X.prog X.w) A (call (.ref f) [.ref a, .ref b]) Q E' s := by
  have e0 : Env0 X.prog X.w X.K X.mg X.base A X.stack s H := by
    have e := I.env0
    exact ⟨by rw [hA]; exact e.frames, e.mod, e.bs, e.bsz, e.funs, e.frf, e.hok, e.bare⟩
  have hl := F.len _ _ _ _ hsp
  have r2 : Vals [V.ref a, V.ref b] [Value.ref a, Value.ref b] := .cons rfl (.cons rfl .nil)
  refine wpAny_call (codeAny_mono (F.run A X.stack s H ⟨[.ref a, .ref b], []⟩ [.ref a, .ref b] [.ref a, .ref b] _ E0 hr e0 (by
    have := hb s [.ref a, .ref b] I.kIn (by simpa using hl)
    simpa using this) r2 hsp) fun r s' hq' => ?_)
  cases r with
  | error e => exact False.elim hq'
  | ok fl =>
    cases fl with
    | ret w =>
      obtain ⟨z, H', I', rz, qz⟩ := I.after hq'
      exact hq z w H' s' I' rz qz
    | next => exact False.elim hq'
    | brk => exact False.elim hq'
    | cont => exact False.elim hq'
theorem op_own {op : CmpOp} {k : Nat} {f C : Addr} {fd : FuncData} {ps : List Str} {sp : Sp} (hop : ∀ v u, compareOp op v u = richCompare op v u) (F : FnOk X.prog X.w X.K X.mg X.base CX0 k f fd ps sp) (hs : PySem.W.findIn X.K (.ref C) (cmpInfo op).2.1 = some (some (.ref f))) (hf : PySem.W.isFn X.K (.ref f) = true) (hb : Binds X.K fd ps []) (hr : Room k X.A) :
    OpR X (compareOp op) (rOwn C sp false) := by
  intro pins s σ H x y v u Q I rx ry h
  obtain ⟨a, b, dx, dy, fs, gs, rfl, rfl, ha, hb', hsp⟩ := h
  cases rx
  cases ry
  obtain ⟨mA, J, _⟩ := ins_get I.hok ha
  obtain ⟨mB, J', _⟩ := ins_get I.hok hb'
  obtain ⟨od, J, _⟩ := J.look
  obtain ⟨od', J', _⟩ := J'.look
  obtain ⟨m, hF⟩ := I.fr
  rw [hop]
  refine PySem.W.cmp_K (op := op) (tb := .ref C) hr.units0 hF I.ok.mod.kin J J'.type (by simp [PySem.W.notFirst]) hs hf ?_
  refine own_run F hb hr rfl I hsp fun v u H' s' I' rv qv => ?_
  obtain ⟨t, rfl, q⟩ := qv
  cases rv
  exact ⟨.bl t, H', I', rfl, q⟩
/-- != by the class's own ==: object.__ne__ asks it -/
theorem objNe_K {prog : Program} {w : World} {A : Around} {E : Value → Shared → Prop} {s : Shared} {K : PySem.W.Frag} {x C f : Addr} {ox : Obj} {od : Option Obj} {b : Value} (KX : K.In s.heap) (I : PySem.W.InstAt s.heap x ox C od) (hs : PySem.W.findIn K (.ref C) "__eq__" = some (some (.ref f))) (hf : PySem.W.isFn K (.ref f) = true) (hu : A.units < cLine) {Q : PySem.Fin → Shared → Prop}
    (hcall : wpAny (model prog w) A (call (.ref f) [.ref x, b]) (fun v s' => ∃ t, v = .bool t ∧ Q (.done (.ret (.bool (!t)))) s') E s) :
    wpAny (model prog w) A (Builtin.«object.__ne__» ⟨[.ref x, b], []⟩) Q E s := by
  unfold Builtin.«object.__ne__»
  repeat (first
    | with_reducible refine wpAny_cRoomFor hu ?_
    | (refine wpAny_bind (m := callSpecialIfBound? (.ref x) (Str.ofString "__eq__") [b])
        (PySem.W.ifBound_K KX I hs hf (wpAny_mono hcall (fun r s' hr => by
          obtain ⟨b, rfl, hq⟩ := hr
          repeat (first | exact hq | exact wpAny_pure hq | exact wpAny_truthy_bool hq | (refine wpAny_bind (m := truthy (.bool _)) (wpAny_truthy_bool ?_)) | wp_step)) fun _ _ e => e)))
    | wp_step)
theorem ifBoundB_K {M : Model} {A : Around} {E : Value → Shared → Prop} {s : Shared} {K : PySem.W.Frag} {x C : Addr} {ox : Obj} {od : Option Obj} {name : Str} {id : String} {args : List Value} {Q : Option Value → Shared → Prop} (S : Slot "object" name id) (KX : K.In s.heap) (I : PySem.W.InstAt s.heap x ox C od) (hne : PySem.W.findIn K (.ref C) name = some (some (.builtin id)))
    (h : wpAny M A (call (.builtin id) (.ref x :: args)) (fun v => Q (some v)) E s) : wpAny M A (callSpecialIfBound? (.ref x) name args) Q E s := by
  simp only [callSpecialIfBound?, bindSpecialIfBound?]
  refine wpAny_holding (wpAny_bind (wpAny_bind (wpAny_bind (I.type.here ((PySem.W.looks_findIn KX hne).here ?_)))))
  simp only [S.bind]
  refine wpAny_bind (wpAny_askSetting (wpAny_ite ?_))
  have fin : wpAny M A (call (.builtin id) ([.ref x] ++ args) >>= fun v => pure (some v)) Q E s := wpAny_bind (wpAny_mono h (fun v s' h' => wpAny_pure h') fun _ _ h' => h')
  split
  · exact wpAny_bind (wpAny_pure (wpAny_pure fin))
  · exact wpAny_tryCatch (wpAny_bind (wpAny_pure (wpAny_pure fin)))
theorem ne_K {prog : Program} {w : World} {A : Around} {E : Value → Shared → Prop} {s : Shared} {K : PySem.W.Frag} {x C f : Addr} {ox : Obj} {od : Option Obj} {b : Addr} {ob : Obj} {odb : Option Obj} (KX : K.In s.heap) (I : PySem.W.InstAt s.heap x ox C od) (J : PySem.W.InstAt s.heap b ob C odb) (hne : PySem.W.findIn K (.ref C) "__ne__" = some (some (.builtin "object.__ne__"))) (hsub : PySem.W.subIn K (.ref C) (.type "object") = some true)
    (hs : PySem.W.findIn K (.ref C) "__eq__" = some (some (.ref f))) (hf : PySem.W.isFn K (.ref f) = true) (hu : A.units + 1 < cLine) {Q : Value → Shared → Prop}
    (hcall : wpAny (model prog w) A.in1 (call (.ref f) [.ref x, .ref b]) (fun v s' => ∃ t, v = .bool t ∧ Q (.bool (!t)) s') E s) :
    wpAny (model prog w) A (richCompare .NotEq (.ref x) (.ref b)) Q E s := by
  have FB := PySem.F.cmp_object
  have one : wpAny (model prog w) A (tryCompare (.ref x) "__ne__" (.ref b)) (fun r s' => ∃ v, r = some v ∧ Q v s') E s := by
    unfold tryCompare
    have chk : ∀ {Q' : Unit → Shared → Prop}, Q' () s → wpAny (model prog w) A.in1 (checkBuiltinCall "object.__ne__" ⟨[.ref x, .ref b], []⟩) Q' E s := fun {Q'} hq => by
      simp only [checkBuiltinCall, F.cmpKind_ne, F.cmpSplit_ne]
      refine wpAny_bind ?_
      unfold isInstance
      refine wpAny_bind (I.type.here ((PySem.W.looks_subIn KX hsub).here ?_))
      cases hsig : Manifest.signature? "object.__ne__" with
      | none => exact wpAny_pure hq
      | some sig =>
        have ha := F.cmpArgs_ne (.ref x) (.ref b)
        simp only [argsOk, hsig] at ha
        have h2 : Bind.checkArgs "object.__ne__" sig ⟨[.ref x, .ref b], []⟩ = pure () := ha
        show wpAny _ _ (Bind.checkArgs "object.__ne__" sig ⟨[.ref x, .ref b], []⟩) Q' E _
        rw [h2]
        exact wpAny_pure hq
    refine wpAny_bind (ifBoundB_K FB.ne KX I hne (wpAny_call (codeAny_call_builtin FB.ne.plain F.cmpEntry_ne (chk (objNe_K (A := A.in1) KX I hs hf hu (wpAny_mono hcall (fun v s' hv => ?_) fun _ _ e => e))))))
    obtain ⟨t, rfl, hq⟩ := hv
    first | exact ⟨t, rfl, wpAny_pure ⟨_, rfl, hq⟩⟩ | exact ⟨t, rfl, wpAny_pure (wpAny_pure ⟨_, rfl, hq⟩)⟩ | exact ⟨t, rfl, ⟨_, rfl, hq⟩⟩
  unfold richCompare
  simp only [oneThing_ref]
  refine wpAny_holding (wpAny_bind (wpAny_cRoomFor (Nat.lt_of_succ_lt hu) ?_))
  rw [cmpInfo_NotEq]
  dsimp only
  refine wpAny_bind (I.type.here (wpAny_bind (J.type.here ?_)))
  rw [show (Value.ref C != Value.ref C) = false from by simp]
  simp only [Bool.false_eq_true, if_false]
  refine wpAny_bind (wpAny_pure ?_)
  simp only [Bool.false_eq_true, if_false]
  refine wpAny_bind (wpAny_mono one (fun r s' z => ?_) fun _ _ e => e)
  obtain ⟨v, rfl, hq⟩ := z
  first | exact wpAny_pure hq | exact wpAny_pure (wpAny_pure hq)
theorem op_ownNe {k : Nat} {f C : Addr} {fd : FuncData} {ps : List Str} {sp : Sp} (F : FnOk X.prog X.w X.K X.mg X.base CX0 k f fd ps sp) (hne : PySem.W.findIn X.K (.ref C) "__ne__" = some (some (.builtin "object.__ne__"))) (hsub : PySem.W.subIn X.K (.ref C) (.type "object") = some true)
    (hs : PySem.W.findIn X.K (.ref C) "__eq__" = some (some (.ref f))) (hf : PySem.W.isFn X.K (.ref f) = true) (hb : Binds X.K fd ps []) (hr : Room (k + 1) X.A) : OpR X (compareOp .NotEq) (rOwn C sp true) := by
  intro pins s σ H x y v u Q I rx ry h
  obtain ⟨a, b, dx, dy, fs, gs, rfl, rfl, ha, hb', hsp⟩ := h
  cases rx
  cases ry
  obtain ⟨mA, J, _⟩ := ins_get I.hok ha
  obtain ⟨mB, J', _⟩ := ins_get I.hok hb'
  obtain ⟨od, J, _⟩ := J.look
  obtain ⟨od', J', _⟩ := J'.look
  show wpAny _ _ (richCompare .NotEq _ _) _ _ _
  refine ne_K I.kIn J J' hne hsub hs hf (by have := hr.un; omega) (own_run F hb hr.in1 rfl I hsp fun v u H' s' I' rv qv => ?_)
  obtain ⟨t, rfl, q⟩ := qv
  cases rv
  exact ⟨t, rfl, .bl (!t), H', I', rfl, q⟩
/-- on data: the method's contract -/
def oOwn (cn : Str) (C : Ct) (neg : Bool) : O2 := fun a b k => match a, b with
  | .ins c ns fs, .ins c' ns' fs' => c = cn ∧ c' = cn ∧ ∀ n, C (fun _ _ => False) [.ins c ns fs, .ins c' ns' fs'] n fun d n' => n' = n ∧ match d with
    | .bl t => k (.bl (if neg then !t else t))
    | _ => False
  | _, _ => False
theorem opd_own {cn : Str} {C : Ct} {neg : Bool} : OpD X (rOwn (He.ga X.K cn) (spU X.K 2 C) neg) (oOwn cn C neg) := by
  intro c v u a b k Q ok hT ra rb h hQ
  cases a <;> cases b <;> first | exact h.elim | skip
  obtain ⟨rfl, rfl, hC⟩ := h
  have fa : ∀ {v : V} {cn : Str} {ns : List Str} {fs : List D}, RB X.K c v (.ins cn ns fs) → ∃ a dx us, v = .ref a ∧ c.H a = some (.ins (He.ga X.K cn) dx us) ∧ RP X.K c v (.ins cn ns fs) := fun h => by
    cases h with
    | fz h =>
      cases h with
      | ins f l r => exact ⟨_, _, _, rfl, ok.sub _ _ f, .ins f l r⟩
    | ow ev ed h hf hd r => cases ed
  obtain ⟨p, dx, us, rfl, hp, rp⟩ := fa ra
  obtain ⟨q, dy, ws, rfl, hq, rq⟩ := fa rb
  refine ⟨p, q, dx, dy, us, ws, rfl, rfl, hp, hq, c, _, _, fun _ _ => False, rfl, ok, hT, .cons rp (.cons rq .nil), rfl, hC c.n, fun d c' v hd ok' l' rd => ?_, fun d c' cls od h => h.elim⟩
  obtain ⟨hn, hd⟩ := hd
  cases d <;> first | exact hd.elim | skip
  cases rd
  exact ⟨_, rfl, hQ _ c' _ hd hn ok' l' (.bl _)⟩
/-- a class's own method, as a comparison asks it -/
structure OwnOp (P : Program) (wd : World) (K : PySem.W.Frag) (mg : Str → Option Value) (base : Heap) (cn nm : Str) (k : Nat) (C : Ct) : Prop where
  ex : ∃ f fd ps, FnOk P wd K mg base CX0 k f fd ps (spU K 2 C) ∧ PySem.W.findIn K (.ref (He.ga K cn)) nm = some (some (.ref f)) ∧ PySem.W.isFn K (.ref f) = true ∧ Binds K fd ps []
variable {pos : Pos} {a b : Expr} {wa wb : WE} {cn : Str} {k j : Nat} {C : Ct}
theorem q_own {op : CmpOp} (hop : ∀ v u, compareOp op v u = richCompare op v u) (O : OwnOp X.prog X.w X.K X.mg X.base cn (cmpInfo op).2.1 j C) (hr : Room k X.A) (hj : j ≤ k) (ha : PE X a (upB X.K E wa)) (hb : PE X b (upB X.K E wb)) (hm : behindInMarks op b = false) : PE X (.Compare a [op] [b] pos) (up X.K E (eBin (oOwn cn C false) wa wb)) := by
  obtain ⟨f, fd, ps, F, hs, hf, b⟩ := O.ex
  exact q_cmp (op_own hop F hs hf b (hr.mono hj)) opd_own ha hb hm
theorem qt_own {op : CmpOp} (hop : ∀ v u, compareOp op v u = richCompare op v u) (O : OwnOp X.prog X.w X.K X.mg X.base cn (cmpInfo op).2.1 j C) (hr : Room k X.A) (hj : j ≤ k) (ha : PE X a (upB X.K E wa)) (hb : PE X b (upB X.K E wb)) (hm : behindInMarks op b = false) : PT X (.Compare a [op] [b] pos) (upT X.K E (wTest (eBin (oOwn cn C false) wa wb))) := by
  obtain ⟨f, fd, ps, F, hs, hf, b⟩ := O.ex
  exact qt_cmp (op_own hop F hs hf b (hr.mono hj)) opd_own ha hb hm
/-- the class has no != of its own -/
structure NoNe (K : PySem.W.Frag) (cn : Str) : Prop where
  ne : PySem.W.findIn K (.ref (He.ga K cn)) "__ne__" = some (some (.builtin "object.__ne__"))
  sub : PySem.W.subIn K (.ref (He.ga K cn)) (.type "object") = some true
theorem q_ownNe (N : NoNe X.K cn) (O : OwnOp X.prog X.w X.K X.mg X.base cn "__eq__" j C) (hr : Room k X.A) (hj : j + 1 ≤ k) (ha : PE X a (upB X.K E wa)) (hb : PE X b (upB X.K E wb)) (hm : behindInMarks .NotEq b = false) : PE X (.Compare a [.NotEq] [b] pos) (up X.K E (eBin (oOwn cn C true) wa wb)) := by
  obtain ⟨f, fd, ps, F, hs, hf, b⟩ := O.ex
  exact q_cmp (op_ownNe F N.ne N.sub hs hf b (hr.mono hj)) opd_own ha hb hm
theorem qt_ownNe (N : NoNe X.K cn) (O : OwnOp X.prog X.w X.K X.mg X.base cn "__eq__" j C) (hr : Room k X.A) (hj : j + 1 ≤ k) (ha : PE X a (upB X.K E wa)) (hb : PE X b (upB X.K E wb)) (hm : behindInMarks .NotEq b = false) : PT X (.Compare a [.NotEq] [b] pos) (upT X.K E (wTest (eBin (oOwn cn C true) wa wb))) := by
  obtain ⟨f, fd, ps, F, hs, hf, b⟩ := O.ex
  exact qt_cmp (op_ownNe F N.ne N.sub hs hf b (hr.mono hj)) opd_own ha hb hm
end
end DL
set_option maxHeartbeats 4000000
namespace DL
open PySem PySem.Spec PyProof.Rows L2
/-! ### the law's draws -/
def rSetD : TSet := fun o i v H Q => ∃ a H', o = .ref a ∧ DPut H a i v H' ∧ Q H'
theorem set_dict {X : Cx} (hu : X.A.units + 1 < cLine) : PSet X rSetD := by
  intro pins s σ H o i v ov iv u Q I ro ri rv h
  obtain ⟨a, H', rfl, g, q⟩ := h
  cases ro
  exact d_setItem hu I g ri rv fun s' I' => ⟨H', I', q⟩
abbrev tDk (k : Str) : TE := tDGet (tVar 0) (tC (.str k))
abbrev rMd : R2 := rI (fun _ j => 0 < j) fun i j => .int (i % j)
abbrev rDw : R2 := rI CDivW fun i j => .int (i / j)
abbrev rAd : R2 := rI0 fun i j => .int (i + j)
abbrev rMu : R2 := rI CMul fun i j => .int (i * j)
abbrev rLn (K : PySem.W.Frag) : List V → Hp → VK → Prop := fun xs H Q => ∃ p ys, xs = [.ref p] ∧ (SqL K H p ys ∨ SqT K H p ys) ∧ Q (.int ys.length) H
abbrev tI (i : Int) : TE := tC (.int i)
def t_next (K : PySem.W.Frag) : TS :=
  tSeq (tIfS (tTest (tOp (rI0 fun i j => .bl (decide (j < i))) (tDk "left") (tI 0)))
    (tSeq (tAsg (tTup (tCons (tDk "left") (tCons (tOp rDw (tDk "left") (tVar 1)) tNil))) (gTup K 2 (gCons (gName 2) (gCons (gSub (tVar 0) (tC (.str "left")) rSetD) gNil)))) (tRet (tOp rMd (tVar 2) (tVar 1)))) tNext)
  (tSeq (tAsg (tDk "cells") (gName 3))
  (tSeq (tAsg (tOp (rIxL K) (tVar 3) (tOp rMd (tDk "at") (tCB (rLn K) (tCons (tVar 3) tNil)))) (gName 2))
  (tSeq (sDPut (tVar 0) (tC (.str "at")) (tOp rAd (tDk "at") (tI 1)))
  (tSeq (tIfS (tAnd (tTest (tOp (rI0 fun i j => .bl (decide (j ≤ i))) (tVar 2) (tOp (rI CPow fun i j => .int (i ^ j.toNat)) (tI 10) (tI 18)))) (tTest (tOp (rI0 fun i j => .bl (decide (i ≤ j))) (tDk "at") (tCB (rLn K) (tCons (tVar 3) tNil)))))
    (tSeq (sDPut (tVar 0) (tC (.str "left")) (tOp rDw (tVar 2) (tVar 1))) (tRet (tOp rMd (tVar 2) (tVar 1)))) tNext)
  (tSeq (sDPut (tVar 0) (tC (.str "used")) (tOp rAd (tDk "used") (tI 1)))
  (tSeq (tAsg (tOp rAd (tOp rMd (tVar 2) (tI 1000000007)) (tOp rMu (tOp rMu (tI 7919) (tDk "used")) (tDk "used"))) (gName 4))
  (tSeq (tFor (iTup K (tTup (tCons (tDk "at") (tCons (tDk "used") tNil)))) (gName 5)
    (tSeq (tAsg (tOp rMd (tOp rMu (tOp rAd (tOp rAd (tVar 4) (tOp rMu (tI 31) (tVar 5))) (tI 7)) (tI 48271)) (tI 2147483647)) (gName 4))
      (tAsg (tOp rMd (tOp rMu (tVar 4) (tOp rAd (tI 69621) (tOp rMu (tI 2) (tOp rMd (tVar 5) (tI 1000))))) (tI 2147483629)) (gName 4))))
  (tRet (tOp rMd (tOp (rI CDiv fun i j => .int (i / j)) (tVar 4) (tI 7)) (tVar 1))))))))))
def C_L_next : Ct := fun _ ds n R => match ds with
  | [.drw, .int m] => 0 < m ∧ m < 2 ^ 250 ∧ 1 ≤ n ∧ ∀ r, 0 ≤ r → r < m → R (.int r) (n - 1)
  | _ => False
theorem calm_L_next : Calm C_L_next := fun _ _ _ _ _ h => h
abbrev drwL (ca : Addr) (a l u : Int) : List (Key × V) := [(.inr "cells", .ref ca), (.inr "at", .int a), (.inr "left", .int l), (.inr "used", .int u)]
theorem v_cells (ca : Addr) (a l u : Int) : valV (drwL ca a l u) (.inr "cells") = some (.ref ca) := rfl
theorem v_at (ca : Addr) (a l u : Int) : valV (drwL ca a l u) (.inr "at") = some (.int a) := rfl
theorem v_left (ca : Addr) (a l u : Int) : valV (drwL ca a l u) (.inr "left") = some (.int l) := rfl
theorem v_used (ca : Addr) (a l u : Int) : valV (drwL ca a l u) (.inr "used") = some (.int u) := rfl
theorem p_at (ca : Addr) (a l u z : Int) : putK (drwL ca a l u) (.inr "at") (.int z) = drwL ca z l u := rfl
theorem p_left (ca : Addr) (a l u z : Int) : putK (drwL ca a l u) (.inr "left") (.int z) = drwL ca a z u := rfl
theorem p_used (ca : Addr) (a l u z : Int) : putK (drwL ca a l u) (.inr "used") (.int z) = drwL ca a l z := rfl
/-- the configuration behind a draw -/
theorem drw_after {c : Cf} {H' : Hp} {n : Nat} {ca : Addr} {cells : List Int} {a l u : Int} (ok : c.Ok) (hH : ∀ b o, b ≠ c.dr → c.H b = some o → H' b = some o) (hd : H' c.dr = some (.dK (drwL ca a l u))) (hc : c.F ca = some (.lst (cells.map V.int))) (h1 : cells ≠ []) (h2 : cells.length ≤ 64) (h3 : 0 ≤ a) (h4 : 0 ≤ u) (h5 : a + n ≤ 2 ^ 40) (h6 : u + n ≤ 2 ^ 40) :
    (⟨c.dr, c.F, H', n, c.T⟩ : Cf).Ok ∧ Le c ⟨c.dr, c.F, H', n, c.T⟩ := by
  refine ⟨⟨fun b o e => hH b o (fun z => ?_) (ok.sub b o e), ok.nf, ⟨ca, cells, a, l, u, hd, hc, h1, h2, h3, h4, h5, h6⟩, fun q hq => ?_, ok.nt⟩, rfl, fun _ _ h => h, fun b o q1 _ _ q3 => hH b o q1 q3, fun _ _ _ _ _ h _ => h, fun b o hz e => ?_, rfl⟩
  · rw [z, ok.nf] at e
    cases e
  · obtain ⟨_, _, _, _, _, e1, _⟩ := ok.dw
    obtain ⟨ps, f1, f2, f3⟩ := ok.tb q hq
    refine ⟨ps, hH _ _ (fun z => ?_) f1, f2, fun pos cv hc => ?_⟩
    · rw [z, e1] at f1
      cases f1
    · obtain ⟨c', g1, g2⟩ := f3 pos cv hc
      refine ⟨c', g1, hH _ _ (fun z => ?_) g2⟩
      rw [z, e1] at g2
      cases g2
  · by_cases hb : b = c.dr
    · exact ⟨.dK (drwL ca a l u), (by intro _ z; cases z), by rw [hb]; exact hd⟩
    · exact ⟨o, hz, hH b o hb e⟩
theorem pure_next {K : PySem.W.Frag} {E : XK} (vs : List V) (H : Hp) (Q : VK) (h : spU K 2 C_L_next vs H Q E) : t_next K { nx := fun _ H' => Q .non H', rt := Q } (vs.map some ++ [none, none, none, none]) H := by
  obtain ⟨c, ds, R, x, rfl, ok, hT, r, hl, hC, hr, hx⟩ := h
  obtain ⟨m, rfl, m0, m1, n1, hR⟩ : ∃ m, ds = [.drw, .int m] ∧ 0 < m ∧ m < 2 ^ 250 ∧ 1 ≤ c.n ∧ ∀ r, 0 ≤ r → r < m → R (.int r) (c.n - 1) := by
    unfold C_L_next at hC
    split at hC
    · exact ⟨_, rfl, hC⟩
    · exact hC.elim
  cases r with
  | cons r1 t =>
  cases t with
  | cons r2 t =>
  cases t
  cases r1
  cases r2
  obtain ⟨ca, cells, a, l, u, ed, hca, hne, hlen, h0, hu0, ha, hu⟩ := ok.dw
  have kd : ∀ {H' : Hp} {k : Str} {a l u : Int}, H' c.dr = some (.dK (drwL ca a l u)) → DGet H' c.dr (.str k) (valV (drwL ca a l u) (.inr k)) := fun e => DGet.k (k := Sum.inr _) e
  have kp : ∀ {H' : Hp} {k : Str} {v : V} {a l u : Int}, H' c.dr = some (.dK (drwL ca a l u)) → DPut H' c.dr (.str k) v (upd H' c.dr (.dK (putK (drwL ca a l u) (.inr k) v))) := fun e => DPut.k (k := Sum.inr _) e (by show 4 < sizeLine; decide)
  have dv : CDivW 0 m := DivOk.w ⟨m0, m1⟩
  have fin : ∀ {H' : Hp} {a' l' u' : Int} (v : Int), (∀ b o, b ≠ c.dr → c.H b = some o → H' b = some o) → H' c.dr = some (.dK (drwL ca a' l' u')) → 0 ≤ a' → a' ≤ a + 1 → 0 ≤ u' → u' ≤ u + 1 → Q (.int (v % m)) H' := fun {H' a' l' u'} v hk hd q1 q2 q3 q4 => by
    obtain ⟨ok', l'⟩ := drw_after (n := c.n - 1) ok hk hd hca hne hlen q1 q3 (by omega) (by omega)
    exact hr _ ⟨c.dr, c.F, H', c.n - 1, c.T⟩ _ (hR _ (Int.emod_nonneg v (by omega)) (Int.emod_lt_of_pos v m0)) ok' l' (.int _)
  -- if draw['left'] > 0
  refine ⟨_, rfl, c.dr, .int l, rfl, kd ed, l, 0, rfl, rfl, _, rfl, ite2 (fun hleft => ?_) (fun hleft => ?_)⟩
  · -- cell, draw['left'] = ..
    refine ⟨_, rfl, c.dr, .int l, rfl, kd ed, _, rfl, c.dr, .int l, rfl, kd ed, _, rfl, l, m, rfl, rfl, dv, (by show 2 ≤ sizeLine; decide), fun t ht => ?_⟩
    have ht' : c.dr ≠ t := ne_of_none ed ht
    have ed' : upd c.H t (.tup [.int l, .int (l / m)]) c.dr = some (.dK (drwL ca a l u)) := by
      rw [upd_ne ht']
      exact ed
    refine ⟨t, _, rfl, .of upd_same, rfl, _, _, rfl, _, _, rfl, _, rfl, c.dr, _, rfl, kp ed', rfl, ?_⟩
    refine ⟨_, rfl, _, rfl, l, m, rfl, rfl, m0, fin l (fun b o q1 q2 => ?_) upd_same h0 (by omega) hu0 (by omega)⟩
    rw [upd_ne q1, upd_ne (ne_of_none q2 ht)]
    exact q2
  · -- cells, cell
    have hcl : SqL K c.H ca (cells.map V.int) := .of (ok.sub _ _ hca)
    have hpos : (0 : Int) < ((cells.map V.int).length : Int) := by
      cases cells with
      | nil => exact absurd rfl hne
      | cons _ _ =>
        simp only [List.map_cons, List.length_cons]
        omega
    refine ⟨_, rfl, c.dr, .ref ca, rfl, kd ed, ?_⟩
    have hix : 0 ≤ a % ((cells.map V.int).length : Int) ∧ a % ((cells.map V.int).length : Int) < ((cells.map V.int).length : Int) := ⟨Int.emod_nonneg _ (by omega), Int.emod_lt_of_pos _ hpos⟩
    obtain ⟨cell, hcell⟩ : ∃ cell, atI (cells.map V.int) (a % ((cells.map V.int).length : Int)) = some (V.int cell) := by
      unfold atI ixN
      rw [if_pos hix.1, if_pos hix.2]
      have hb : (a % ((cells.map V.int).length : Int)).toNat < (cells.map V.int).length := by omega
      refine ⟨cells[(a % ((cells.map V.int).length : Int)).toNat]'(by simpa using hb), ?_⟩
      show (cells.map V.int)[(a % ((cells.map V.int).length : Int)).toNat]? = _
      rw [List.getElem?_eq_getElem hb, List.getElem_map]
    refine ⟨_, rfl, _, rfl, c.dr, .int a, rfl, kd ed, _, rfl, ca, _, rfl, .inl hcl, a, _, rfl, rfl, hpos, ca, _, _, .int cell, rfl, rfl, hcl, hcell, ?_⟩
    -- draw['at'] = draw['at'] + 1
    refine ⟨_, rfl, c.dr, .int a, rfl, kd ed, a, 1, rfl, rfl, _, rfl, c.dr, _, rfl, kp ed, ?_⟩
    rw [p_at]
    have hk2 : ∀ b o, b ≠ c.dr → c.H b = some o → upd c.H c.dr (.dK (drwL ca (a + 1) l u)) b = some o := fun b o q1 q2 => by
      rw [upd_ne q1]
      exact q2
    have hcan : ca ≠ c.dr := fun z => by
      rw [z, ok.nf] at hca
      cases hca
    have hcl2 : SqL K (upd c.H c.dr (.dK (drwL ca (a + 1) l u))) ca (cells.map V.int) := .of (by rw [upd_ne hcan]; exact ok.sub _ _ hca)
    have ed2 : upd c.H c.dr (.dK (drwL ca (a + 1) l u)) c.dr = some (.dK (drwL ca (a + 1) l u)) := upd_same
    generalize upd c.H c.dr (.dK (drwL ca (a + 1) l u)) = H2 at hk2 hcl2 ed2
    have rest : ∀ {D : Ends}, (∀ σ H', σ = [some (.ref c.dr), some (.int m), some (.int cell), some (.ref ca), none, none] → H' = H2 → D.nx σ H') → True := fun _ => trivial
    -- the plain way
    have plain : (tSeq (sDPut (tVar 0) (tC (.str "used")) (tOp rAd (tDk "used") (tI 1)))
  (tSeq (tAsg (tOp rAd (tOp rMd (tVar 2) (tI 1000000007)) (tOp rMu (tOp rMu (tI 7919) (tDk "used")) (tDk "used"))) (gName 4))
  (tSeq (tFor (iTup K (tTup (tCons (tDk "at") (tCons (tDk "used") tNil)))) (gName 5)
    (tSeq (tAsg (tOp rMd (tOp rMu (tOp rAd (tOp rAd (tVar 4) (tOp rMu (tI 31) (tVar 5))) (tI 7)) (tI 48271)) (tI 2147483647)) (gName 4))
      (tAsg (tOp rMd (tOp rMu (tVar 4) (tOp rAd (tI 69621) (tOp rMu (tI 2) (tOp rMd (tVar 5) (tI 1000))))) (tI 2147483629)) (gName 4))))
  (tRet (tOp rMd (tOp (rI CDiv fun i j => .int (i / j)) (tVar 4) (tI 7)) (tVar 1)))))) { nx := fun _ H' => Q .non H', rt := Q } [some (.ref c.dr), some (.int m), some (.int cell), some (.ref ca), none, none] H2 := by
      refine ⟨_, rfl, c.dr, .int u, rfl, kd ed2, u, 1, rfl, rfl, _, rfl, c.dr, _, rfl, kp ed2, ?_⟩
      rw [p_used]
      have ed3 : upd H2 c.dr (.dK (drwL ca (a + 1) l (u + 1))) c.dr = some (.dK (drwL ca (a + 1) l (u + 1))) := upd_same
      have hk3 : ∀ b o, b ≠ c.dr → c.H b = some o → upd H2 c.dr (.dK (drwL ca (a + 1) l (u + 1))) b = some o := fun b o q1 q2 => by
        rw [upd_ne q1]
        exact hk2 b o q1 q2
      generalize upd H2 c.dr (.dK (drwL ca (a + 1) l (u + 1))) = H3 at hk3 ed3
      refine ⟨_, rfl, cell, 1000000007, rfl, rfl, (by show (0 : Int) < 1000000007; decide), _, rfl, c.dr, .int (u + 1), rfl, kd ed3, 7919, u + 1, rfl, rfl, .inl (by decide), _, rfl, c.dr, .int (u + 1), rfl, kd ed3, _, u + 1, rfl, rfl, .inr (by omega), _, _, rfl, rfl, ?_⟩
      refine ⟨_, rfl, c.dr, .int (a + 1), rfl, kd ed3, _, rfl, c.dr, .int (u + 1), rfl, kd ed3, (by show 2 ≤ sizeLine; decide), fun t ht => ?_⟩
      have ht' : c.dr ≠ t := ne_of_none ed3 ht
      have ed4 : upd H3 t (.tup [.int (a + 1), .int (u + 1)]) c.dr = some (.dK (drwL ca (a + 1) l (u + 1))) := by
        rw [upd_ne ht']
        exact ed3
      have hk4 : ∀ b o, b ≠ c.dr → c.H b = some o → upd H3 t (.tup [.int (a + 1), .int (u + 1)]) b = some o := fun b o q1 q2 => by
        rw [upd_ne (ne_of_none (hk3 b o q1 q2) ht)]
        exact hk3 b o q1 q2
      have ht4 : SqT K (upd H3 t (.tup [.int (a + 1), .int (u + 1)])) t [.int (a + 1), .int (u + 1)] := .of upd_same
      generalize upd H3 t (.tup [.int (a + 1), .int (u + 1)]) = H4 at hk4 ed4 ht4
      refine ⟨t, rfl, ⟨_, ht4⟩, for_tup (K := K) (a := t) (xs := [.int (a + 1), .int (u + 1)]) (fun i σ H' => H' = H4 ∧ ∃ (z : Int) (y : Option V), σ = [some (.ref c.dr), some (.int m), some (.int cell), some (.ref ca), some (.int z), y]) ⟨rfl, _, none, rfl⟩ (fun i σ H' _ ⟨e, _⟩ => e ▸ ht4) ?_ ?_⟩
      · rintro i y σ H' hy ⟨rfl, z, y', rfl⟩
        obtain ⟨k, rfl, k0, k1⟩ : ∃ k : Int, y = .int k ∧ 0 ≤ k ∧ k ≤ 2 ^ 41 := by
          rcases i with _ | _ | i
          · simp at hy
            exact ⟨a + 1, hy.symm, by omega, by omega⟩
          · simp at hy
            exact ⟨u + 1, hy.symm, by omega, by omega⟩
          · simp at hy
        refine ⟨_, rfl, _, rfl, 31, k, rfl, rfl, .inl (by decide), z, _, rfl, rfl, _, 7, rfl, rfl, _, 48271, rfl, rfl, .inr (by decide), _, 2147483647, rfl, rfl, (by show (0 : Int) < 2147483647; decide), ?_⟩
        refine ⟨_, rfl, _, rfl, k, 1000, rfl, rfl, (by show (0 : Int) < 1000; decide), 2, _, rfl, rfl, .inl (by decide), 69621, _, rfl, rfl, _, _, rfl, rfl, .inr ?_, _, 2147483629, rfl, rfl, (by show (0 : Int) < 2147483629; decide), rfl, _, _, rfl⟩
        have e1 := Int.emod_nonneg k (show (1000 : Int) ≠ 0 by decide)
        have e2 := Int.emod_lt_of_pos k (show (0 : Int) < 1000 by decide)
        omega
      · rintro σ H' ⟨rfl, z, y, rfl⟩
        exact ⟨_, rfl, z, 7, rfl, rfl, ⟨by decide, by decide⟩, _, rfl, _, m, rfl, rfl, m0, fin _ hk4 ed4 (by omega) (by omega) (by omega) (by omega)⟩
    -- if cell >= 10 ** 18 and ..
    refine ⟨_, rfl, 10, 18, rfl, rfl, ⟨by decide, by decide, by decide⟩, cell, _, rfl, rfl, _, rfl, ?_⟩
    refine ite2 (fun hbig => ?_) (fun hbig => ?_)
    · refine ⟨_, rfl, c.dr, .int (a + 1), rfl, kd ed2, _, rfl, ca, _, rfl, .inl hcl2, a + 1, _, rfl, rfl, _, rfl, ?_⟩
      refine ite2 (fun hat => ?_) (fun hat => plain)
      refine ⟨_, rfl, _, rfl, cell, m, rfl, rfl, dv, _, rfl, c.dr, _, rfl, kp ed2, ?_⟩
      refine ⟨_, rfl, _, rfl, cell, m, rfl, rfl, m0, fin cell (fun b o q1 q2 => ?_) upd_same (by omega) (by omega) hu0 (by omega)⟩
      rw [upd_ne q1]
      exact hk2 b o q1 q2
    · exact iteF plain
end DL
set_option maxHeartbeats 4000000
namespace DL
open PySem PySem.Spec PyProof.Rows L2
/-! ### the law's begin, the law's own def -/
def rCatS (K : PySem.W.Frag) : R2 := fun x y H Q => ∃ l b xs zs, x = .ref l ∧ y = .ref b ∧ SqL K H l xs ∧ SqL K H b zs ∧ xs.length + zs.length ≤ sizeLine ∧ ∀ p, H p = none → Q (.ref p) (upd H p (.lst (xs ++ zs)))
theorem op_catS {X : Cx} : OpR X (binaryOp .Add) (rCatS X.K) := by
  intro pins s σ H x y v u Q I rx ry h
  obtain ⟨l, b, xs, zs, rfl, rfl, hH, hB, hz, q⟩ := h
  cases rx
  cases ry
  obtain ⟨its, r, pl, _⟩ := I.list hH
  obtain ⟨its2, r2, pl2, _⟩ := I.list hB
  have e1 := r.length
  have e2 := r2.length
  obtain ⟨m, F⟩ := I.fr
  obtain ⟨⟨cls, dd, data, sl⟩, ho, hc, n, hd⟩ := id pl.isList
  obtain ⟨⟨cls2, dd2, data2, sl2⟩, ho2, hc2, n2, hd2⟩ := id pl2.isList
  simp only at hc hd hc2 hd2
  subst hc hd hc2 hd2
  have sz : its.toArray.size + its2.toArray.size ≤ sizeLine := by
    rw [List.size_toArray, List.size_toArray]
    omega
  have fin : EP X pins σ Q (.ref s.heap.objs.size) { s with heap := s.heap.push { cls := .type "list", data := .seq (its.toArray ++ its2.toArray) } } := by
    have ea : its.toArray ++ its2.toArray = (its ++ its2).toArray := by simp
    rw [ea]
    exact ⟨.ref _, _, I.lnew (t' := s.toks) (r.append r2) (by rw [List.length_append]; omega), rfl, q _ I.fresh⟩
  exact concat_meets ⟨_, ho, rfl⟩ ⟨_, ho2, rfl⟩ noFill_list_add seq_list_add PySem.F.slot_list_add PySem.F.entry_list_add (PySem.F.args_list_add_2 _ _) (list_addW l b its.toArray its2.toArray n n2 dd dd2 sl sl2 (by simpa using sz)) ⟨ho, ho2, fin⟩
/-- {'cells': script + [0], 'at': 0, 'left': 0, 'used': 0} -/
def t_begin (K : PySem.W.Frag) : TS := tRet (tDisp [(tC (.str "cells"), tOp (rCatS K) (tVar 0) (tLst (tCons (tI 0) tNil))), (tC (.str "at"), tI 0), (tC (.str "left"), tI 0), (tC (.str "used"), tI 0)])
def spBegin (K : PySem.W.Frag) : Sp := fun vs H Q _ => ∃ (a : Addr) (ns : List Int), vs = [.ref a] ∧ SqL K H a (ns.map V.int) ∧ ns.length ≤ 63 ∧
  ∀ H' p ca, Same H H' → H p = none → H' p = some (.dK (drwL ca 0 0 0)) → H' ca = some (.lst ((ns ++ [0]).map V.int)) → Q (.ref p) H'
theorem pure_begin {K : PySem.W.Frag} {E : XK} (vs : List V) (H : Hp) (Q : VK) (h : spBegin K vs H Q E) : t_begin K { nx := fun _ H' => Q .non H', rt := Q } (vs.map some) H := by
  obtain ⟨a, ns, rfl, hS, hlen, q⟩ := h
  intro p hp
  have s1 : Same H (upd H p (.dK [])) := fun b o e => by
    rw [upd_ne (ne_of_none e hp)]
    exact e
  refine ⟨_, rfl, Nat.le_of_lt (by show 1 < sizeLine; decide), fun t ht => ?_⟩
  have s2 : Same H (upd (upd H p (.dK [])) t (.lst [.int 0])) := fun b o e => by
    rw [upd_ne (ne_of_none (s1 b o e) ht)]
    exact s1 b o e
  have hp2 : upd (upd H p (.dK [])) t (.lst [.int 0]) p = some (.dK []) := by
    rw [upd_ne (ne_of_none (show upd H p (.dK []) p = some (.dK []) from upd_same) ht)]
    exact upd_same
  have ht2 : upd (upd H p (.dK [])) t (.lst [.int 0]) t = some (.lst [.int 0]) := upd_same
  generalize upd (upd H p (.dK [])) t (.lst [.int 0]) = H2 at s2 hp2 ht2
  refine ⟨a, t, ns.map V.int, [.int 0], rfl, rfl, s2.seq hS, .of ht2, by simp only [List.length_map, List.length_singleton]; exact Nat.le_trans (by omega : ns.length + 1 ≤ 64) (by decide), fun c hc => ?_⟩
  have hcp : p ≠ c := ne_of_none hp2 hc
  have hp3 : upd H2 c (.lst (ns.map V.int ++ [.int 0])) p = some (.dK []) := by
    rw [upd_ne hcp]
    exact hp2
  refine ⟨hp3, [(.inr "cells", .ref c), (.inr "at", .int 0), (.inr "left", .int 0), (.inr "used", .int 0)], rfl, by show 4 ≤ 15; decide, ?_⟩
  refine q _ p c (fun b o e => ?_) hp upd_same ?_
  · rw [upd_ne (ne_of_none e hp), upd_ne (ne_of_none (s2 b o e) hc)]
    exact s2 b o e
  · rw [upd_ne (Ne.symm hcp), upd_same]
    simp
def spLaw (K : PySem.W.Frag) : Sp := fun vs H Q _ => ∃ (a : Addr) (ns : List Int), vs = [.ref a] ∧ SqL K H a (ns.map V.int) ∧ ns.length ≤ 63 ∧ LamX.Tabs (TK K) H ∧ ∀ H', Q (.bl true) H'
/-- the law's def: draw = begin(script), then the rest by data -/
theorem law_pure {K : PySem.W.Frag} {E : XK} {N : List Str} {w : WS} (hN : 2 ≤ N.length) (vs : List V) (H : Hp) (Q : VK) (h : spLaw K vs H Q E)
    (hw : w (fun _ _ => False) { nx := fun _ _ => False, rt := fun d _ => d = .bl true } (.un :: .dt .drw :: List.replicate (N.length - 2) Sl.un) (2 ^ 39)) :
    tSeq (tAsg (tCall (spBegin K) [] E0 (tCons (tVar 0) tNil)) (gName 1)) (upS K E w) { nx := fun _ H' => Q .non H', rt := Q } (L2.start N vs) H := by
  obtain ⟨a, ns, rfl, hS, hlen, hT, q⟩ := h
  refine ⟨.ref a, rfl, a, ns, rfl, hS, hlen, fun H' p ca sm hp hH' hca => ?_⟩
  obtain ⟨n0, n1, N', rfl⟩ : ∃ n0 n1 N', N = n0 :: n1 :: N' := by
    cases N with
    | nil => simp at hN
    | cons x r =>
      cases r with
      | nil => simp at hN
      | cons y r => exact ⟨x, y, r, rfl⟩
  have es : (L2.start (n0 :: n1 :: N') [V.ref a]).set 1 (some (.ref p)) = some (.ref a) :: some (.ref p) :: List.replicate N'.length none := by
    unfold L2.start
    simp [List.replicate_succ]
  have pne : p ≠ ca := fun z => by
    rw [z, hca] at hH'
    cases hH'
  show upS K E w _ ((L2.start (n0 :: n1 :: N') [V.ref a]).set 1 (some (.ref p))) H'
  rw [es]
  have hok : (⟨p, fun b => if b = ca then some (.lst ((ns ++ [0]).map V.int)) else none, H', 2 ^ 39, TK K⟩ : Cf).Ok := by
    refine ⟨fun b o e => ?_, if_neg pne, ⟨ca, ns ++ [0], 0, 0, 0, hH', if_pos rfl, by simp, by simp; omega, by decide, by decide, by show (0 : Int) + ((2 ^ 39 : Nat) : Int) ≤ 2 ^ 40; decide, by show (0 : Int) + ((2 ^ 39 : Nat) : Int) ≤ 2 ^ 40; decide⟩, hT.ext sm, fun b ps e => ?_⟩
    · by_cases hb : b = ca
      · subst hb
        have e' : (if b = b then some (HO.lst ((ns ++ [0]).map V.int)) else none) = some o := e
        rw [if_pos rfl] at e'
        cases e'
        exact hca
      · have e' : (if b = ca then some (HO.lst ((ns ++ [0]).map V.int)) else none) = some o := e
        rw [if_neg hb] at e'
        cases e'
    · have e' : (if b = ca then some (HO.lst ((ns ++ [0]).map V.int)) else none) = some (.tbl ps) := e
      by_cases hb : b = ca
      · rw [if_pos hb] at e'
        cases e'
      · rw [if_neg hb] at e'
        cases e'
  have en : EnvOk K ⟨p, fun b => if b = ca then some (.lst ((ns ++ [0]).map V.int)) else none, H', 2 ^ 39, TK K⟩ (some (.ref a) :: some (.ref p) :: List.replicate N'.length none) (.un :: .dt .drw :: List.replicate N'.length Sl.un) := by
    refine ⟨by simp, fun i s h => ?_, fun i j s t a h1 _ g1 _ _ _ => ?_, rfl⟩
    · rcases i with _ | _ | i
      · simp at h
        subst h
        exact ⟨_, rfl, trivial⟩
      · simp at h
        subst h
        exact ⟨_, rfl, _, rfl, .drw⟩
      · have h' : (List.replicate N'.length Sl.un)[i]? = some s := by simpa using h
        have e := (List.mem_replicate.mp (List.mem_of_getElem? h')).2
        subst e
        have hb : i < N'.length := by
          have := (List.getElem?_eq_some_iff.mp h').1
          simpa using this
        exact ⟨none, by simp [hb], trivial⟩
    · have hm := List.mem_of_getElem? h1
      rcases List.mem_cons.mp hm with e | hm
      · subst e
        cases g1
      · rcases List.mem_cons.mp hm with e | hm
        · subst e
          cases g1
        · have e := (List.mem_replicate.mp hm).2
          subst e
          cases g1
  refine ⟨⟨p, fun b => if b = ca then some (.lst ((ns ++ [0]).map V.int)) else none, H', 2 ^ 39, TK K⟩, _, { nx := fun _ _ => False, rt := fun d _ => d = .bl true }, fun _ _ => False, rfl, hok, en, ?_, fun η' c' σ' hn _ _ _ _ => hn.elim, fun d c' v hd _ _ rp => ?_, fun η' c' σ' hn _ _ _ _ => hn.elim, fun η' c' σ' hn _ _ _ _ => hn.elim, fun d c' cls od h => h.elim⟩
  · have e : (n0 :: n1 :: N').length - 2 = N'.length := by simp
    rw [e] at hw
    exact hw
  · have hd : d = .bl true := hd
    subst hd
    cases rp
    exact q _
end DL
set_option maxHeartbeats 4000000
namespace DL
open PySem PySem.Spec PyProof.Rows L2
theorem u65 {k : Nat} {A : Around} (r : Room k A) : A.units + 65 < cLine := by
  have := r.un
  omega
/-! ### isinstance -/
/-- the built-in type of a datum -/
def tyN : D → Option String
  | .non => some "NoneType"
  | .bl _ => some "bool"
  | .int _ => some "int"
  | .str _ => some "str"
  | .tup _ => some "tuple"
  | .lst _ => some "list"
  | .drw => some "dict"
  | .dct _ _ => some "dict"
  | .ins _ _ _ => none
/-- what of the text an instance's type asks -/
structure InsT (K : PySem.W.Frag) (cn : Str) : Prop where
  cls : Cls K (He.ga K cn)
  ha : PySem.W.findIn K (.ref (He.ga K cn)) "__class__" = some (some (.builtin "object.__class__"))
  hn : PySem.W.specialIn K (.builtin "object.__class__") "__get__" = some (some (.builtin "getset_descriptor.__get__"))
  htk : PySem.W.takesIn K (.builtin "object.__class__") = some true
  hm : PySem.W.mroIn K (He.ga K cn) (.type "object") = some true
theorem ty_of {K : PySem.W.Frag} {c : Cf} {v : V} {d : D} {T : String} (ok : c.Ok) (h : RB K c v d) (ht : tyN d = some T) : TyX K c.H v (.type T) := by
  cases d <;> first | cases ht | skip
  · rw [h.non]
    exact .base .non
  · rw [h.bl]
    exact .base (.bl _)
  · rw [h.int]
    exact .base (.int _)
  · rw [h.str]
    exact .base (.str _)
  · obtain ⟨p, vs, rfl, _, e, _⟩ := h.tup ok
    exact .base (.tup e)
  · obtain ⟨p, vs, rfl, e, _⟩ := h.lst ok
    exact .base (.lst e)
  · cases h with
    | fz h =>
      cases h
      obtain ⟨ca, cells, a, l, u, e, _⟩ := ok.dw
      exact .base (.dK e)
    | ow ev ed h hf hd r => cases ed
  · cases h with
    | fz h =>
      cases h with
      | dct e l r => exact .base (.dT (ok.sub _ _ e))
    | ow ev ed h hf hd r => cases ed
theorem ty_ins {K : PySem.W.Frag} {c : Cf} {v : V} {cn : Str} {ns : List Str} {fs : List D} (I : InsT K cn) (ok : c.Ok) (h : RB K c v (.ins cn ns fs)) : TyX K c.H v (.ref (He.ga K cn)) := by
  cases h with
  | fz h =>
    cases h with
    | ins f l r => exact .base (.ins (ok.sub _ _ f) I.cls I.ha I.hn I.htk I.hm)
  | ow ev ed h hf hd r => cases ed
section
variable {X : Cx} {E : XK} {pos p p2 : Pos} {e : Expr}
/-- isinstance(e, T), T a built-in type; no instance may be asked -/
def eIsB (T : String) (w : WE) : WE := fun x η n R => w x η n fun d n1 => ∃ a b, tyN d = some a ∧ kitB a T = some b ∧ R (.bl b) n1
theorem cls_arg {x : Str} {T : String} (hg : Gl X x) (hm : X.mg x = none) (hv : bootBuiltins x = some (.type T)) (hn : x ≠ "__name__" := by decide) (hd : (x == ("__debug__" : Str)) = false := by decide) : PE X (.Name x pos) (tC (.ty T)) := pe_bltn hg hm hv rfl hn hd
theorem q_isB {x : Str} {T : String} {w : WE} (hc : PE X (.Name x p2) (tC (.ty T))) (hg : Gl X "isinstance") (hm : X.mg "isinstance" = none) (he : PE X e (upB X.K E w))
    (hs : starEach [e, .Name x p2] X.env = (false, eval e X.env) :: starEach [.Name x p2] X.env := by rfl) (hs2 : starEach [.Name x p2] X.env = (false, eval (.Name x p2) X.env) :: starEach [] X.env := by rfl) (hpl : (backTo pos (starEach [.Name x p2] X.env)).any (·.1) = false := by rfl) :
    PE X (.Call (.Name "isinstance" p) [e, .Name x p2] [] pos) (up X.K E (eIsB T w)) := pe_to (pe_callB call_isi hg hm (by decide +kernel) (pa_cons he (pa_cons hc pa_nil hs2) hs) (by decide) (by decide) hs hpl) fun σ H Q q => by
  obtain ⟨c, η, R, x, e1, ok, en, hw, hr, hx⟩ := q
  refine ⟨c, η, _, x, e1, ok, en, hw, fun d c1 v hd ok1 l1 rp => ?_, hx⟩
  obtain ⟨a, b, h1, h2, hk⟩ := hd
  exact ⟨v, .ty T, _, _, b, rfl, .ty T, ty_of ok1 rp h1, kit_ty h2, hr _ c1 _ hk ok1 l1 (.bl b)⟩
/-- isinstance(e, C), C an own class -/
structure IsC (K : PySem.W.Frag) (cn : Str) : Prop where
  t : InsT K cn
  no : ∀ T ∈ ["NoneType", "bool", "int", "str", "tuple", "list", "dict"], PySem.W.kitOne K (.type T) (.ref (He.ga K cn)) = some false
def eIsC (cn : Str) (w : WE) : WE := fun x η n R => w x η n fun d n1 => match d with
  | .ins c _ _ => c = cn ∧ R (.bl true) n1
  | _ => R (.bl false) n1
theorem q_isC {cn : Str} {w : WE} (C : IsC X.K cn) (hgc : Gl X cn) (hmc : X.mg cn = some (.ref (He.ga X.K cn))) (hg : Gl X "isinstance") (hm : X.mg "isinstance" = none) (he : PE X e (upB X.K E w)) (hd : (cn == ("__debug__" : Str)) = false := by decide)
    (hs : starEach [e, .Name cn p2] X.env = (false, eval e X.env) :: starEach [.Name cn p2] X.env := by rfl) (hs2 : starEach [.Name cn p2] X.env = (false, eval (.Name cn p2) X.env) :: starEach [] X.env := by rfl) (hpl : (backTo pos (starEach [.Name cn p2] X.env)).any (·.1) = false := by rfl) :
    PE X (.Call (.Name "isinstance" p) [e, .Name cn p2] [] pos) (up X.K E (eIsC cn w)) := pe_to (pe_callB call_isi hg hm (by decide +kernel) (pa_cons he (pa_cons (pe_glob (v := .ref (He.ga X.K cn)) hgc hmc rfl hd) pa_nil hs2) hs) (by decide) (by decide) hs hpl) fun σ H Q q => by
  obtain ⟨c, η, R, x, e1, ok, en, hw, hr, hx⟩ := q
  refine ⟨c, η, _, x, e1, ok, en, hw, fun d c1 v hd ok1 l1 rp => ?_, hx⟩
  have no : ∀ T, tyN d = some T → T ∈ ["NoneType", "bool", "int", "str", "tuple", "list", "dict"] → R (.bl false) c1.n → rIsi X.K [v, .ref (He.ga X.K cn)] c1.H Q := fun T h1 h2 hk =>
    ⟨v, _, _, _, false, rfl, .own _, ty_of ok1 rp h1, C.no T h2, hr _ c1 _ hk ok1 l1 (.bl false)⟩
  cases d with
  | ins c' ns fs =>
    obtain ⟨rfl, hk⟩ := hd
    refine ⟨v, _, _, _, true, rfl, .own _, ty_ins C.t ok1 rp, ?_, hr _ c1 _ hk ok1 l1 (.bl true)⟩
    unfold PySem.W.kitOne
    rw [if_pos (by simp)]
  | non => exact no _ rfl (by decide) hd
  | bl _ => exact no _ rfl (by decide) hd
  | int _ => exact no _ rfl (by decide) hd
  | str _ => exact no _ rfl (by decide) hd
  | tup _ => exact no _ rfl (by decide) hd
  | lst _ => exact no _ rfl (by decide) hd
  | drw => exact no _ rfl (by decide) hd
  | dct _ _ => exact no _ rfl (by decide) hd
end
end DL
set_option maxHeartbeats 4000000
namespace DL
open PySem PySem.Spec PyProof.Rows L2
/-! ### how the readings are worked out -/
theorem atI_nat {α : Type} {xs : List α} {i : Int} (h : 0 ≤ i) : atI xs i = xs[i.toNat]? := by
  unfold atI ixN
  rw [if_pos h]
  by_cases h2 : i < xs.length
  · rw [if_pos h2]; rfl
  · rw [if_neg h2]
    rw [List.getElem?_eq_none (by omega)]
    rfl
theorem atI_0 {α : Type} (a : α) (l : List α) : atI (a :: l) 0 = some a := by rw [atI_nat (by decide)]; rfl
theorem atI_1 {α : Type} (a b : α) (l : List α) : atI (a :: b :: l) 1 = some b := by rw [atI_nat (by decide)]; rfl
theorem atI_2 {α : Type} (a b c : α) (l : List α) : atI (a :: b :: c :: l) 2 = some c := by rw [atI_nat (by decide)]; rfl
theorem atI_3 {α : Type} (a b c d : α) (l : List α) : atI (a :: b :: c :: d :: l) 3 = some d := by rw [atI_nat (by decide)]; rfl
theorem r_bin (o : O2) (wa wb : WE) (x : Xn) (η : List Sl) (n : Nat) (R : D → Nat → Prop) : eBin o wa wb x η n R = wa x η n fun a n1 => wb x η n1 fun b n2 => o a b fun d => R d n2 := rfl
theorem r_ixT0 (a : D) (l : List D) (k : D → Prop) : oIx (.tup (a :: l)) (.int 0) k = k a := by simp [oIx, atI_0]
theorem r_ixT1 (a b : D) (l : List D) (k : D → Prop) : oIx (.tup (a :: b :: l)) (.int 1) k = k b := by simp [oIx, atI_1]
theorem r_ixT2 (a b c : D) (l : List D) (k : D → Prop) : oIx (.tup (a :: b :: c :: l)) (.int 2) k = k c := by simp [oIx, atI_2]
theorem r_ixT3 (a b c d : D) (l : List D) (k : D → Prop) : oIx (.tup (a :: b :: c :: d :: l)) (.int 3) k = k d := by simp [oIx, atI_3]
theorem r_ixL0 (a : D) (l : List D) (k : D → Prop) : oIx (.lst (a :: l)) (.int 0) k = k a := by simp [oIx, atI_0]
theorem r_ixL1 (a b : D) (l : List D) (k : D → Prop) : oIx (.lst (a :: b :: l)) (.int 1) k = k b := by simp [oIx, atI_1]
theorem r_ixL2 (a b c : D) (l : List D) (k : D → Prop) : oIx (.lst (a :: b :: c :: l)) (.int 2) k = k c := by simp [oIx, atI_2]
theorem r_ixL3 (a b c d : D) (l : List D) (k : D → Prop) : oIx (.lst (a :: b :: c :: d :: l)) (.int 3) k = k d := by simp [oIx, atI_3]
theorem r_sub (i j : Int) (k : D → Prop) : oSub (.int i) (.int j) k = k (.int (i - j)) := rfl
theorem r_add (i j : Int) (k : D → Prop) : oAdd (.int i) (.int j) k = k (.int (i + j)) := rfl
theorem r_mul (i j : Int) (k : D → Prop) : oMul (.int i) (.int j) k = (MulOk i j ∧ k (.int (i * j))) := rfl
theorem r_div (i j : Int) (k : D → Prop) : oDiv (.int i) (.int j) k = (DivOk j ∧ k (.int (i / j))) := rfl
theorem r_mod (i j : Int) (k : D → Prop) : oMod (.int i) (.int j) k = (0 < j ∧ k (.int (i % j))) := rfl
theorem r_pow (i j : Int) (k : D → Prop) : oPow (.int i) (.int j) k = ((0 ≤ j ∧ j ≤ 1000000 ∧ -(2 ^ 64) < i ∧ i < 2 ^ 64) ∧ k (.int (i ^ j.toNat))) := rfl
theorem r_le (i j : Int) (k : D → Prop) : oLe (.int i) (.int j) k = k (.bl (decide (i ≤ j))) := rfl
theorem r_gt (i j : Int) (k : D → Prop) : oGt (.int i) (.int j) k = k (.bl (decide (j < i))) := rfl
theorem r_ge (i j : Int) (k : D → Prop) : oGe (.int i) (.int j) k = k (.bl (decide (j ≤ i))) := rfl
theorem r_lt (i j : Int) (k : D → Prop) : oLt (.int i) (.int j) k = k (.bl (decide (i < j))) := rfl
theorem lay_int (i : Int) : Lay (.int i) := rfl
theorem lay_non : Lay .non := rfl
theorem lay_bl (i : Bool) : Lay (.bl i) := rfl
theorem deq_int (i j : Int) : deq (.int i) (.int j) = decide (i = j) := by
  unfold deq py PyData.eqv
  by_cases h : i = j <;> simp [h]
theorem r_eqI (i j : Int) (k : D → Prop) : oEq (.int i) (.int j) k = k (.bl (decide (i = j))) := by
  unfold oEq; rw [deq_int]; simp [lay_int]
theorem r_neI (i j : Int) (k : D → Prop) : oNe (.int i) (.int j) k = k (.bl (!decide (i = j))) := by
  unfold oNe; rw [deq_int]; simp [lay_int]
theorem r_sIf (t : WT) (a b : WS) (x : Xn) (k : Wk) (η : List Sl) (n : Nat) : sIf t a b x k η n = t x η n fun c n1 => if c = true then a x k η n1 else b x k η n1 := rfl
theorem r_asg (w : WE) (i : Nat) (x : Xn) (k : Wk) (η : List Sl) (n : Nat) : sAsg w (gNm i) x k η n = w x η n fun d n1 => k.nx (η.set i (.dt d)) n1 := rfl
theorem r_asg2 (w : WE) (i j : Nat) (x : Xn) (k : Wk) (η : List Sl) (n : Nat) : sAsg w (gTp 2 (gsCons (gNm i) (gsCons (gNm j) gsNil))) x k η n = w x η n fun d n1 => gTp 2 (gsCons (gNm i) (gsCons (gNm j) gsNil)) d η fun η' => k.nx η' n1 := rfl
theorem r_g2 (i j : Nat) (a b : D) (η : List Sl) (k : List Sl → Prop) : gTp 2 (gsCons (gNm i) (gsCons (gNm j) gsNil)) (.tup [a, b]) η k = k ((η.set i (.dt a)).set j (.dt b)) := by
  simp [gTp, gsCons, gNm, gsNil]
theorem mulOk_of {i j : Int} (h1 : -(2 ^ 250) < i) (h2 : i < 2 ^ 250) (h3 : -(2 ^ 250) < j) (h4 : j < 2 ^ 250) : MulOk i j := Or.inr ⟨⟨h1, h2⟩, h3, h4⟩
/-- how a body stands at its start -/
abbrev st0 (ds : List D) (N : List Str) : List Sl := ds.map Sl.dt ++ List.replicate (N.length - ds.length) Sl.un
/-- by a truth value -/
def bT (d : D) (P Q : Prop) : Prop := match d with
  | .bl b => if b = true then P else Q
  | _ => False
theorem bT_bl (b : Bool) (P Q : Prop) : bT (.bl b) P Q = if b = true then P else Q := rfl
theorem r_andV (wa wb : WE) (x : Xn) (η : List Sl) (n : Nat) (R : D → Nat → Prop) : eAndV wa wb x η n R = wa x η n fun a n1 => bT a (wb x η n1 R) (R (.bl false) n1) := by
  unfold eAndV
  congr 1
  funext a n1
  cases a <;> first | rfl | skip
  rename_i b; cases b <;> rfl
theorem r_orV (wa wb : WE) (x : Xn) (η : List Sl) (n : Nat) (R : D → Nat → Prop) : eOrV wa wb x η n R = wa x η n fun a n1 => bT a (R (.bl true) n1) (wb x η n1 R) := by
  unfold eOrV
  congr 1
  funext a n1
  cases a <;> first | rfl | skip
  rename_i b; cases b <;> rfl
theorem r_ifAnd (b c : Bool) (R : D → Nat → Prop) (n : Nat) : (if b = true then R (.bl c) n else R (.bl false) n) = R (.bl (b && c)) n := by cases b <;> rfl
theorem r_ifOr (b c : Bool) (R : D → Nat → Prop) (n : Nat) : (if b = true then R (.bl true) n else R (.bl c) n) = R (.bl (b || c)) n := by cases b <;> rfl
theorem r_isC (cn : Str) (ns : List Str) (fs : List D) (w : WE) (x : Xn) (η : List Sl) (n : Nat) (R : D → Nat → Prop) (h : w x η n fun d n1 => ∃ ns fs, d = .ins cn ns fs ∧ R (.bl true) n1) (m : ∀ P Q : D → Nat → Prop, (∀ d n, P d n → Q d n) → w x η n P → w x η n Q) : eIsC cn w x η n R := by
  refine m _ _ (fun d n1 q => ?_) h
  obtain ⟨ns, fs, rfl, q⟩ := q
  exact ⟨rfl, q⟩
theorem r_dt (d : D) (k : D → Prop) : dtS (some (.dt d)) k = k d := rfl
theorem r_rd (d : D) (k : D → Prop) : rdS (some (.dt d)) k = k d := rfl
theorem r_rdo (d : List D) (k : D → Prop) : rdS (some (.ow d)) k = k (.lst d) := rfl
theorem r_owS (d : List D) (k : List D → Prop) : owS (some (.ow d)) k = k d := rfl
/-- a truth value out of a value -/
def tB (d : D) (k : Bool → Prop) : Prop := match d with
  | .bl b => k b
  | _ => False
theorem tB_bl (b : Bool) (k : Bool → Prop) : tB (.bl b) k = k b := rfl
theorem r_test (w : WE) (x : Xn) (η : List Sl) (n : Nat) (R : Bool → Nat → Prop) : wTest w x η n R = w x η n fun d n1 => tB d fun b => R b n1 := rfl
theorem r_notV (w : WE) (x : Xn) (η : List Sl) (n : Nat) (R : D → Nat → Prop) : eNotV w x η n R = w x η n fun d n1 => tB d fun b => R (.bl !b) n1 := rfl
theorem r_tru (w : WE) (x : Xn) (η : List Sl) (n : Nat) (R : Bool → Nat → Prop) : wTru w x η n R = w x η n fun d n1 => truth d fun b => R b n1 := rfl
theorem r_trB (b : Bool) (k : Bool → Prop) : truth (.bl b) k = k b := rfl
theorem r_trL (b : List D) (k : Bool → Prop) : truth (.lst b) k = k (!b.isEmpty) := rfl
theorem r_trI (i : Int) (k : Bool → Prop) : truth (.int i) k = k (i != 0) := rfl
theorem r_sqL (xs : List D) (k : List D → Prop) : seqOf (.lst xs) k = k xs := rfl
theorem r_sqT (xs : List D) (k : List D → Prop) : seqOf (.tup xs) k = k xs := rfl
/-- two values -/
def tw (ds : List D) (k : D → D → Prop) : Prop := match ds with
  | [d, e] => k d e
  | _ => False
theorem tw_2 (d e : D) (k : D → D → Prop) : tw [d, e] k = k d e := rfl
theorem r_par (i j : Nat) (w : WA) (x : Xn) (k : Wk) (η : List Sl) (n : Nat) : sPar i j w x k η n = w x η n fun ds n1 => tw ds fun d e => k.nx ((η.set i (.dt d)).set j (.dt e)) n1 := rfl
/-- a row turned round -/
def rvD (d : D) (k : D → Prop) : Prop := match d with
  | .lst xs => k (.lst xs.reverse)
  | .tup xs => k (.tup xs.reverse)
  | _ => False
theorem r_rev (w : WE) (x : Xn) (η : List Sl) (n : Nat) (R : D → Nat → Prop) : eRev w x η n R = w x η n fun d n1 => rvD d fun r => R r n1 := by
  unfold eRev
  congr 1
theorem rv_t (xs : List D) (k : D → Prop) : rvD (.tup xs) k = k (.tup xs.reverse) := rfl
theorem rv_l (xs : List D) (k : D → Prop) : rvD (.lst xs) k = k (.lst xs.reverse) := rfl
theorem r_mt (i : Nat) (f : OM) (w : WA) (x : Xn) (k : Wk) (η : List Sl) (n : Nat) : sMt' i f w x k η n = ((∃ xs, η[i]? = some (Sl.ow xs)) ∧ w x η n fun ds n1 => owS η[i]? fun xs => f xs ds fun xs' => k.nx (η.set i (.ow xs')) n1) := rfl
theorem r_ext (xs ys : List D) (k : List D → Prop) : mExtend xs [.lst ys] k = (xs.length + ys.length ≤ sizeLine ∧ k (xs ++ ys)) := rfl
theorem r_app (xs : List D) (y : D) (k : List D → Prop) : mAppend xs [y] k = (xs.length < sizeLine ∧ k (xs ++ [y])) := rfl
theorem r_len (xs : List D) (k : D → Prop) : bLen [.lst xs] k = k (.int xs.length) := rfl
theorem r_lenT (xs : List D) (k : D → Prop) : bLen [.tup xs] k = k (.int xs.length) := rfl
theorem ow_ex (xs : List D) : (∃ ys, some (Sl.ow xs) = some (Sl.ow ys)) = True := eq_true ⟨xs, rfl⟩
theorem size2 : (2 ≤ sizeLine) = True := eq_true (by decide)
theorem size4 : (4 ≤ sizeLine) = True := eq_true (by decide)
theorem size0 : (0 ≤ sizeLine) = True := eq_true (by decide)
theorem size1 : (1 ≤ sizeLine) = True := eq_true (by decide)
theorem size3 : (3 ≤ sizeLine) = True := eq_true (by decide)
/-! ### what can be compared -/
def LayN (k : Nat) (d : D) : Prop := (py d).canLay0 = true ∧ (py d).depth ≤ k
theorem LayN.lay {k : Nat} {d : D} (h : LayN k d) (hk : k ≤ 64 := by decide) : Lay d := by
  unfold Lay SeqAt.shaped
  rw [h.1]
  simp
  have := h.2
  omega
theorem LayN.mono {k l : Nat} {d : D} (h : LayN k d) (hk : k ≤ l) : LayN l d := ⟨h.1, Nat.le_trans h.2 hk⟩
theorem LayN.of {d : D} (h : Lay d) : LayN 64 d := ⟨SeqAt.canLay_of_shaped h, SeqAt.depth_of_shaped h⟩
theorem layAll {k : Nat} : ∀ {xs : List D}, (∀ d, d ∈ xs → LayN k d) → PyData.canLayAll0 (pyL xs) = true ∧ PyData.depthAll (pyL xs) ≤ k
  | [], _ => ⟨rfl, Nat.zero_le _⟩
  | d :: xs, h => by
    have h1 := h d (List.mem_cons_self ..)
    have h2 := layAll (xs := xs) fun e he => h e (List.mem_cons_of_mem _ he)
    unfold pyL PyData.canLayAll0 PyData.depthAll
    rw [h1.1, h2.1]
    exact ⟨rfl, Nat.max_le.2 ⟨h1.2, h2.2⟩⟩
theorem LayN.lst {k : Nat} {xs : List D} (h : ∀ d, d ∈ xs → LayN k d) : LayN (k + 1) (.lst xs) := ⟨(layAll h).1, Nat.succ_le_succ (layAll h).2⟩
theorem LayN.tup {k : Nat} {xs : List D} (h : ∀ d, d ∈ xs → LayN k d) : LayN (k + 1) (.tup xs) := ⟨(layAll h).1, Nat.succ_le_succ (layAll h).2⟩
theorem LayN.int {k : Nat} (i : Int) : LayN k (.int i) := ⟨rfl, Nat.zero_le _⟩
theorem LayN.bl {k : Nat} (i : Bool) : LayN k (.bl i) := ⟨rfl, Nat.zero_le _⟩
theorem LayN.non {k : Nat} : LayN k .non := ⟨rfl, Nat.zero_le _⟩
theorem deq_nil (xs : List D) : deq (.lst xs) (.lst []) = xs.isEmpty := by
  cases xs <;> rfl
theorem r_neNil (xs : List D) (k : D → Prop) (h : LayN 63 (.lst xs)) : oNe (.lst xs) (.lst []) k = k (.bl (!xs.isEmpty)) := by
  unfold oNe
  rw [deq_nil]
  have h1 : Lay (.lst []) := rfl
  have h2 : Lay (.lst xs) := h.lay
  simp [h1, h2]
/-! ### comprehensions and loops over mapped rows -/
theorem lc_map {α : Type} (emb : α → D) (b : α → Bool) (f : α → D) {x : Xn} {η : List Sl} {g : WG} {t : WT} {w : WE} {R : List D → Nat → Prop} : ∀ (ys : List α) (acc : List D) (n : Nat)
    (hs : ∀ a, a ∈ ys → ∀ (Q : Option D → Nat → Prop), Q (if b a = true then some (f a) else none) n → g (emb a) η fun η' => t x η' n fun c n1 => if c = true then w x η' n1 fun y n2 => Q (some y) n2 else Q none n1)
    (hl : acc.length + ys.length ≤ sizeLine) (h : R (acc ++ (ys.filter b).map f) n), runLc x η g t w R (ys.map emb) acc n
  | [], acc, n, hs, hl, h => by simpa [runLc] using h
  | a :: ys, acc, n, hs, hl, h => by
    have hl' : acc.length + (ys.length + 1) ≤ sizeLine := hl
    refine hs a (List.mem_cons_self ..) (fun o n2 => match o with | some y => acc.length < sizeLine ∧ runLc x η g t w R (ys.map emb) (acc ++ [y]) n2 | none => runLc x η g t w R (ys.map emb) acc n2) ?_
    have hs' : ∀ a, a ∈ ys → ∀ (Q : Option D → Nat → Prop), Q (if b a = true then some (f a) else none) n → g (emb a) η fun η' => t x η' n fun c n1 => if c = true then w x η' n1 fun y n2 => Q (some y) n2 else Q none n1 := fun a ha => hs a (List.mem_cons_of_mem _ ha)
    cases e : b a with
    | true =>
      refine ⟨by omega, ?_⟩
      refine lc_map emb b f ys _ n hs' (by simp; omega) ?_
      rw [List.filter_cons_of_pos e] at h
      simpa using h
    | false =>
      refine lc_map emb b f ys _ n hs' (by omega) ?_
      rw [List.filter_cons_of_neg (by simp [e])] at h
      exact h
theorem for_ind {α : Type} (emb : α → D) {x : Xn} {k : Wk} {g : WG} {b : WS} (I : List α → List Sl → Nat → Prop) (hnil : ∀ η n, I [] η n → k.nx η n)
    (hs : ∀ a ys η n (nxt : List Sl → Nat → Prop), I (a :: ys) η n → (∀ η n, I ys η n → nxt η n) → g (emb a) η fun η' => b x { nx := nxt, ct := nxt, bk := k.nx, rt := k.rt } η' n) :
    ∀ (ys : List α) η n, I ys η n → runFor x k g b (ys.map emb) η n
  | [], η, n, h => hnil η n h
  | a :: ys, η, n, h => hs a ys η n _ h fun η n h => for_ind emb I hnil hs ys η n h
theorem for_cnt {x : Xn} {k : Wk} {g : WG} {b : WS} (I : Nat → List Sl → Nat → Prop) (hnil : ∀ η n, I 0 η n → k.nx η n)
    (hs : ∀ d m η n (nxt : List Sl → Nat → Prop), I (m + 1) η n → (∀ η n, I m η n → nxt η n) → g d η fun η' => b x { nx := nxt, ct := nxt, bk := k.nx, rt := k.rt } η' n) :
    ∀ (xs : List D) η n, I xs.length η n → runFor x k g b xs η n
  | [], η, n, h => hnil η n h
  | d :: xs, η, n, h => hs d xs.length η n _ h fun η n h => for_cnt I hnil hs xs η n h
/-- a comprehension whose items are drawn -/
theorem lc_draw {P : D → Prop} {c : Nat} {x : Xn} {η : List Sl} {g : WG} {t : WT} {w : WE} {R : List D → Nat → Prop}
    (hs : ∀ d n (Q : D → Nat → Prop) (Z : Nat → Prop), c ≤ n → (∀ y, P y → Q y (n - c)) → g d η fun η' => t x η' n fun b n1 => if b = true then w x η' n1 fun y n2 => Q y n2 else Z n1) :
    ∀ (xs acc : List D) (n : Nat), (∀ y, y ∈ acc → P y) → c * xs.length ≤ n → acc.length + xs.length ≤ sizeLine → (∀ ys, ys.length = acc.length + xs.length → (∀ y, y ∈ ys → P y) → R ys (n - c * xs.length)) → runLc x η g t w R xs acc n
  | [], acc, n, ha, hn, hl, h => by
    have := h acc rfl ha
    simpa [runLc] using this
  | d :: xs, acc, n, ha, hn, hl, h => by
    have e : c * (xs.length + 1) = c * xs.length + c := Nat.mul_succ ..
    have hn' : c * (xs.length + 1) ≤ n := hn
    have hl' : acc.length + (xs.length + 1) ≤ sizeLine := hl
    refine hs d n (fun y n2 => acc.length < sizeLine ∧ runLc x η g t w R xs (acc ++ [y]) n2) _ (by omega) fun y hy => ⟨by omega, ?_⟩
    refine lc_draw hs xs (acc ++ [y]) (n - c) (fun z hz => ?_) (by omega) (by simp; omega) fun ys hy1 hy2 => ?_
    · rcases List.mem_append.1 hz with q | q
      · exact ha z q
      · rw [List.mem_singleton.1 q]; exact hy
    · have := h ys (by rw [hy1]; simp; omega) hy2
      have e2 : n - c * (d :: xs).length = n - c - c * xs.length := by
        show n - c * (xs.length + 1) = _
        omega
      rw [e2] at this
      exact this
/-- range(j) -/
def r1D (ds : List D) (k : List D → Prop) : Prop := match ds with
  | [.int j] => Rg j ∧ k (rangeD 0 j.toNat)
  | _ => False
theorem r_R1 (w : WA) (x : Xn) (η : List Sl) (n : Nat) (R : List D → Nat → Prop) : iR1 w x η n R = w x η n fun ds n1 => r1D ds fun xs => R xs n1 := rfl
theorem r1D_i (j : Int) (k : List D → Prop) : r1D [.int j] k = (Rg j ∧ k (rangeD 0 j.toNat)) := rfl
end DL
set_option maxHeartbeats 4000000
namespace DL
open PySem PySem.Spec PyProof.Rows L2
/-! ### a list times a number; repr of a row -/
section
variable {X : Cx} {E : XK} {pos : Pos}
def oRep : O2 := fun a b k => match a, b with
  | .lst xs, .int i => 0 ≤ i ∧ i < 2 ^ 62 ∧ xs.length * i.toNat ≤ sizeLine ∧ k (.lst (List.replicate i.toNat xs).flatten)
  | _, _ => False
theorem RPL.rep {K : PySem.W.Frag} {c : Cf} {vs : List V} {xs : List D} (r : RPL K c vs xs) : ∀ n : Nat, RPL K c (List.replicate n vs).flatten (List.replicate n xs).flatten
  | 0 => .nil
  | n + 1 => by
    rw [List.replicate_succ, List.replicate_succ, List.flatten_cons, List.flatten_cons]
    exact r.append (RPL.rep r n)
theorem opd_rep : OpD X rRep oRep := by
  intro c v u a b k Q ok hT ra rb h hQ
  cases a <;> cases b <;> first | exact h.elim | skip
  obtain ⟨p, vs, e1, h1, r1⟩ := ra.lst ok
  obtain ⟨g1, g2, g3, hk⟩ := h
  exact ⟨p, _, vs, e1, rb.int, h1, by omega, by omega, by rw [r1.length]; exact g3, fun t ht => rp_new_lst ok ht (RPL.rep r1 _) hk hQ⟩
def rRepr (K : PySem.W.Frag) : List V → Hp → VK → Prop := fun xs H Q => ∃ x p d, xs = [x] ∧ x = .ref p ∧ Dp K H x d ∧ d.showable = true ∧ d.hasDict = false ∧ d.depth ≤ 60 ∧ d.shown.length ≤ sizeLine ∧ Q (.str d.shown) H
theorem call_reprU (hg : X.A.guards = some []) (hu : X.A.units + 64 < cLine) : CallR X (.builtin "repr") (rRepr X.K) := by
  intro pins s σ H xs us Q I r h
  obtain ⟨x, p, d, rfl, rfl, hd, h1, h2, h3, h4, q⟩ := h
  obtain ⟨u, rfl, ru⟩ := vals1 r
  obtain ⟨as, r1⟩ := Dp.reads I d _ u hd ru
  cases ru
  exact repr_of_reads' r1 h1 (fun z => absurd (h2.symm.trans z) (by simp)) hg (by omega) (fun _ _ e => e) (fun h' u tk hk => ⟨.str _, H, I.kept hk, ⟨_, rfl⟩, q⟩) h4
def bRepr : OB := fun ds k => match ds with
  | [.lst xs] => plainD (.lst xs) = true ∧ (py (.lst xs)).showable = true ∧ (py (.lst xs)).hasDict = false ∧ (py (.lst xs)).depth ≤ 60 ∧ (py (.lst xs)).shown.length ≤ sizeLine ∧ k (.str (py (.lst xs)).shown)
  | _ => False
theorem bd_repr : BD X (rRepr X.K) bRepr := by
  intro c vs ds k Q ok r h hQ
  unfold bRepr at h
  split at h
  · rename_i xs
    cases r with
    | cons r1 r2 =>
      cases r2
      obtain ⟨p, us, rfl, e, rp⟩ := r1.lst ok
      obtain ⟨h0, h1, h2, h3, h4, hk⟩ := h
      exact ⟨_, p, _, rfl, rfl, r1.dp ok h0, h1, h2, h3, h4, hQ _ c _ hk rfl ok .refl (.str _)⟩
  · exact h.elim
end
/-! ### a def that is run with no repr under way -/
structure FnOkG (P : Program) (w : World) (K : PySem.W.Frag) (mg : Str → Option Value) (base : Heap) (CX : CXT) (k : Nat) (f : Addr) (fd : FuncData) (ps : List Str) (sp : Sp) : Prop where
  len : ∀ vs H Q E, sp vs H Q E → vs.length = ps.length
  run : ∀ (A : Around) (st : List Env) (s : Shared) (H : Hp) (ar : Args) (us : List Value) (vs : List V) (Q : VK) (E : XK), A.guards = some [] → Room k A → Env0 P w K mg base A st s H → BindsTo s fd ar (ps.zip us) → Vals vs us →
    sp vs H Q E → codeAny (model P w) A (.call (.ref f) ar) (CR CX st P w H s Q E) s
theorem okG {P : Program} {w : World} {K : PySem.W.Frag} {mg : Str → Option Value} {base : Heap} {x qual : Str} {params : Arguments} {body : List Stmt} {scope : Scope} {dvs : List V} {kws : List (Str × V)} {f : Addr} {fd : FuncData} {CX : CXT} {N ps : List Str} {k : Nat} {sp : Sp}
    (F : FunD K x qual params body scope dvs kws f fd) (S : FnScope N ps scope) (len : ∀ vs H Q E, sp vs H Q E → vs.length = ps.length)
    (hb : ∀ (cdv : Value) (A : Around) (st : List Env) (s : Shared) (H : Hp) (vs : List V) (Q : VK) (E : XK), A.guards = some [] → Room k (A.deeper (envOfC qual scope s.heap.objs.size f cdv)) → sp vs H Q E →
      ∃ t, PSs (cxOf CX P w K mg base N qual scope f cdv A st s H E) body t ∧ t { nx := fun _ H' => Q .non H', rt := Q } (start N vs) H) : FnOkG P w K mg base CX (k + 1) f fd ps sp := by
  obtain ⟨oc, od, dV, kV, doc, pm, an, cdv, ct, osl, rfl, lk, hcd, _, _⟩ := F.ex
  constructor
  · exact len
  intro A st s H ar us vs Q E hgu hr e0 bt rv hs
  have old : ∀ b o, base.get? b = some o → s.heap.get? b = some o := fun b o e => (e0.bs b o e).1
  have kin : K.In s.heap := e0.mod.kin.keeps old
  have nol : s.heap.NoLimit := e0.mod.nolimit.keeps old
  have nms : ∀ y ∈ ps.zip us, scope.names.lookup y.1 = some .local ∨ (scope.names.lookup y.1 = some .cell ∧ ((cellsFrom (s.heap.objs.size + 1) scope.names []).lookup y.1).isSome = true) := by
    intro y hy
    cases S.par y.1 (List.of_mem_zip hy).1 with
    | inl q => exact Or.inl q
    | inr q => exact Or.inr (And.intro q (PySem.W.cellsFrom_some _ _ _ (Or.inl q)))
  apply codeAny_call_function hr.depth (kin _ _ lk) rfl S.co S.gen rfl (PySem.W.codeRec_of kin hcd)
  apply bt
  apply wpAny_newFunctionEnv_cells S.kind nms
  intro env he s1 ic
  subst he
  constructor
  · exact nol.keeps ic.toInCall.keep
  apply codeAny_func
  obtain ⟨t, pt, ht⟩ := hb cdv A st s H vs Q E hgu (hr.deeper _) hs
  have J := inv_start (CX := CX) (E := E) S hr.hd e0 (len _ _ _ _ hs) rv ic
  apply wpAny_mono (pt.run [] s1 (start N vs) H _ J ht)
  · intro fl s' z
    match fl, z with
    | .ret u, ⟨v, σ', H', J', rv', q⟩ => exact ⟨v, H', J'.os, J'.bare, J'.base, J'.hok, rv', q⟩
    | .next, ⟨σ', H', J', q⟩ => exact ⟨V.non, H', J'.os, J'.bare, J'.base, J'.hok, (rfl : RelV V.non Value.none), q⟩
    | .brk, ⟨_, _, _, q⟩ => exact q.elim
    | .cont, ⟨_, _, _, q⟩ => exact q.elim
  · intro e s' z
    exact z
/-- the law's def from the row's head -/
theorem law_callG {P : Program} {w : World} {K : PySem.W.Frag} {mg mb : Str → Option Value} {k : Nat} {fa a : Addr} {fd : FuncData} {x : Str} {sp : Sp} {s1 : Shared} {vs : List Value} {ns : List Int}
    (KX : K.In s1.heap) (hn : s1.heap.Ns mainGlobals mg) (hb : s1.heap.Ns builtinsNs mb) (hbb : ∀ x : Str, x ≠ "__name__" → mb x = bootBuiltins x) (hlim : s1.heap.NoLimit) (hg : s1.gens = #[])
    (ha : s1.heap.get? a = some { cls := .type "list", data := .seq vs.toArray }) (hi : IntsAre vs ns) (hl : ns.length ≤ sizeLine) (hr : Room k callerA)
    (F : ∀ base : Heap, K.In base → base.Ns mainGlobals mg → FnOkG P w K mg base CX0 k fa fd [x] sp) (bt : ∀ (s : Shared) (u : Value), BindsTo s fd ⟨[u], []⟩ [(x, u)])
    (hs : ∀ H : Hp, SqL K H a (ns.map V.int) → sp [.ref a] H (fun v _ => v = .bl true) fun _ _ _ => False) :
    codeAny (model P w) callerA (.call (.ref fa) ⟨[.ref a], []⟩) (fun r s' => r = .ok (.ret (.bool true)) ∧ OldK s1.heap s'.heap ∧ s'.os = s1.os ∧ AllBare s'.gens) s1 := by
  have rv := vals_ints hi
  have lv := hi.length
  -- H tells at most the script, as a frozen list
  have core : ∀ H : Hp, (∀ b u, H b = some u → b = a ∧ K.lookup a = none ∧ ∃ o xs, u = .frz o (.lst xs)) → SqL K H a (ns.map V.int) → HOk P w H s1.heap →
      codeAny (model P w) callerA (.call (.ref fa) ⟨[.ref a], []⟩) (fun r s' => r = .ok (.ret (.bool true)) ∧ OldK s1.heap s'.heap ∧ s'.os = s1.os ∧ AllBare s'.gens) s1 := by
    intro H one hS hok
    have noD : ∀ {b : Addr} {o : Obj} {es : Array DictEntry} {ep : Nat}, s1.heap.get? b = some o → o.data = .dict es ep → H b = none := by
      intro b o es ep e d
      match q : H b with
      | none => rfl
      | some u =>
        obtain ⟨rfl, _, _⟩ := one b u q
        rw [ha] at e
        cases e
        cases (d : Data.seq vs.toArray _ = Data.dict es ep)
    have nsB : ∀ {b : Addr} {m : Str → Option Value}, s1.heap.Ns b m → (hidT s1.heap H).Ns b m := by
      rintro b m ⟨o, es, ep, e, d, r⟩
      exact ⟨o, es, ep, hidT_get e (noD e d), d, r⟩
    have kB : K.In (hidT s1.heap H) := by
      intro b o e
      apply hidT_get (KX b o e)
      match q : H b with
      | none => rfl
      | some u =>
        obtain ⟨rfl, z, _⟩ := one b u q
        rw [z] at e
        cases e
    have md : Mod K mg (hidT s1.heap H) := by
      obtain ⟨mc, c1, c2⟩ := hlim
      exact ⟨kB, nsB hn, ⟨mb, nsB hb, hbb⟩, ⟨mc, nsB c1, c2⟩⟩
    have e0 : Env0 P w K mg (hidT s1.heap H) callerA [] s1 H := by
      refine ⟨rfl, md, fun b o e => of_hidT e, Nat.le_of_eq (hidT_size _ _), trivial, fun b hb => ?_, hok, .of_eq hg⟩
      cases (hb : b ∈ ([] : List Addr))
    have go := (F _ kB (nsB hn)).run callerA [] s1 H ⟨[.ref a], []⟩ [.ref a] [.ref a] (fun v _ => v = .bl true) (fun _ _ _ => False) rfl hr e0 (bt s1 (.ref a)) (.cons rfl .nil) (hs H hS)
    apply codeAny_mono go
    intro r s' z
    match r, z with
    | .error e, z => exact (z : False).elim
    | .ok .next, z => exact (z : False).elim
    | .ok .brk, z => exact (z : False).elim
    | .ok .cont, z => exact (z : False).elim
    | .ok (.ret u), ⟨v, H', os, ba, un, hok', r', q⟩ =>
      obtain rfl : v = .bl true := q
      obtain rfl : u = Value.bool true := r'
      refine ⟨rfl, OldK.of_keep fun b o e => ?_, os, ba⟩
      match qb : H b with
      | none => exact un.keep b o e qb (fun z => nomatch (show b ∈ ([] : List Addr) from z)) (by simp)
      | some u =>
        obtain ⟨_, _, ob, xs, rfl⟩ := one b u qb
        have e1 := (hok b _ qb).1
        have e2 := (hok' b _ (un.frzs b ob _ qb)).1
        rw [e] at e1
        cases e1
        exact e2
  match hk : K.lookup a with
  | some o =>
    have e := KX a o hk
    rw [ha] at e
    cases e
    apply core fun _ => none
    · intro b u z
      cases z
    · exact .inr ⟨_, vs.toArray, _, hk, rfl, rfl, rfl, by rw [List.size_toArray, lv]; exact hl, by simpa using rv⟩
    · intro b u z
      cases (z : (none : Option HO) = some u)
  | none =>
    let Hs : Hp := fun b => if b = a then some (.frz { cls := .type "list", data := .seq vs.toArray } (.lst (ns.map V.int))) else none
    have at_ : Hs a = some (.frz { cls := .type "list", data := .seq vs.toArray } (.lst (ns.map V.int))) := if_pos rfl
    have off : ∀ b u, Hs b = some u → b = a := fun b u z => Classical.byContradiction fun n => by
      rw [show Hs b = none from if_neg n] at z
      cases z
    apply core Hs
    · intro b u z
      obtain rfl := off b u z
      rw [at_] at z
      cases z
      exact ⟨rfl, hk, _, _, rfl⟩
    · exact .inl (.inr ⟨_, at_⟩)
    · intro b u z
      obtain rfl := off b u z
      rw [at_] at z
      cases z
      exact ⟨ha, by rw [List.length_map]; exact hl, vs, _, rv, ha⟩
theorem walk_ofG {l : PySem.W.OpenLaw} {n k : Nat} {q : Program} {loose : List Str} {XP : (Str → Option Value) → Heap → Prop} {YP : World → Heap → Prop} {d : DefRec} {x : Str}
    (hn : l.most = some n) (hn2 : n ≤ sizeLine) (hdf : d.params.defaults = []) (hr : Room k callerA)
    (F : ∀ (w : World) (mg : Str → Option Value) (fa : Addr) (h : Heap), YP w h → h.Ns mainGlobals mg → mg d.name = some (.ref fa) →
      ∃ (K : PySem.W.Frag) (fd : FuncData) (sp : Sp), K.In h ∧ (∀ (s : Shared) (u : Value), BindsTo s fd ⟨[u], []⟩ [(x, u)]) ∧
        (∀ (H : Hp) (a : Addr) (ns : List Int), ns.length ≤ n → SqL K H a (ns.map V.int) → sp [.ref a] H (fun v _ => v = .bl true) fun _ _ _ => False) ∧
        ∀ base : Heap, K.In base → base.Ns mainGlobals mg → FnOkG l.prog w K mg base CX0 k fa fd [x] sp) :
    PySem.W.WalkO q loose XP YP l.row.toRowW d [] (fun f vs => PySem.call f vs) := by
  apply Att.attach_call hn hdf
  intro w s0 s1 mg mb fa o pm cd doc a vs ns G Y ho hd hcd hmg hobj hints hlen hg
  obtain ⟨K, fd, sp, KX, bt, hsp, hF⟩ := F w mg fa _ Y G.T.g hmg
  exact law_callG KX G.T.g G.T.b G.T.builtins G.T.nolimit hg hobj hints (Nat.le_trans hlen hn2) hr hF bt fun H hS => hsp H a ns hlen hS
/-- a def of the module by any promise -/
def FnS (P : Program) (wd : World) (K : PySem.W.Frag) (mg : Str → Option Value) (base : Heap) (nm : Str) (ps : List Str) (k : Nat) (sp : Sp) : Prop :=
  ∃ fd, FnOk P wd K mg base CX0 k (He.ga K nm) fd ps sp ∧ Binds K fd ps [] ∧ PySem.W.keepIn K (.ref (He.ga K nm)) = true ∧ mg nm = some (.ref (He.ga K nm))
end DL
set_option maxHeartbeats 4000000
namespace DL
open PySem PySem.Spec PyProof.Rows L2
/-! ### points and edges -/
abbrev Pt := Int × Int
def pt (p : Pt) : D := .tup [.int p.1, .int p.2]
def ed (e : Pt × Pt) : D := .tup [pt e.1, pt e.2]
/-- within bounds -/
structure Bd (p : Pt) : Prop where
  x0 : -10000000 ≤ p.1
  x1 : p.1 ≤ 10000000
  y0 : -10000000 ≤ p.2
  y1 : p.2 ≤ 10000000
def turn (o a b : Pt) : Int := (a.1 - o.1) * (b.2 - o.2) - (a.2 - o.2) * (b.1 - o.1)
def prod (o a b : Pt) : Int := (a.1 - o.1) * (b.1 - o.1) + (a.2 - o.2) * (b.2 - o.2)
def ltP (p q : Pt) : Bool := HT.lexLt [p.1, p.2] [q.1, q.2]
def ordE (e : Pt × Pt) : Pt × Pt := if ltP e.1 e.2 = true then e else (e.2, e.1)
def apartI (i j : Int) : Bool := (decide (0 < i) && decide (0 < j)) || (decide (i < 0) && decide (j < 0))
def overW (e o : Pt × Pt) : Bool :=
  let a := ordE e
  let b := ordE o
  let low := if ltP b.1 a.1 = true then a.1 else b.1
  let high := if ltP b.2 a.2 = true then b.2 else a.2
  !ltP low high
def meetW (e o : Pt × Pt) : Bool :=
  let a := ordE e
  let b := ordE o
  if decide (a = b) = true then true
  else if (decide (turn a.1 a.2 b.1 = 0) && decide (turn a.1 a.2 b.2 = 0) && decide (turn b.1 b.2 a.1 = 0) && decide (turn b.1 b.2 a.2 = 0)) = true then overW e o
  else if (apartI (turn a.1 a.2 b.1) (turn a.1 a.2 b.2) || apartI (turn b.1 b.2 a.1) (turn b.1 b.2 a.2)) = true then true
  else (decide (b.1 = a.1) || decide (b.1 = a.2)) || (decide (b.2 = a.1) || decide (b.2 = a.2))
def offP (p a b : Pt) : Int × Int :=
  let size := prod a b b
  let far := prod a b p
  if far ≤ 0 then (prod a p p, 1) else if size ≤ far then (prod b p p, 1) else (turn a b p ^ 2, size)
def fr (q : Int × Int) : D := .tup [.int q.1, .int q.2]
/-- a slack by its two numbers -/
def slk (q : Int × Int) : D := .ins "Slack" ["own_num", "own_den"] [.int q.1, .int q.2]
/-- in lowest terms -/
def low (q : Int × Int) : Int × Int := (q.1 / (Int.gcd q.1 q.2 : Int), q.2 / (Int.gcd q.1 q.2 : Int))
/-! ### contracts -/
def C_turning : Ct := fun _ ds n R => ∃ o a b : Pt, ds = [pt o, pt a, pt b] ∧ Bd o ∧ Bd a ∧ Bd b ∧ R (.int (turn o a b)) n
def C_product : Ct := fun _ ds n R => ∃ o a b : Pt, ds = [pt o, pt a, pt b] ∧ Bd o ∧ Bd a ∧ Bd b ∧ R (.int (prod o a b)) n
def C_in_order : Ct := fun _ ds n R => ∃ e : Pt × Pt, ds = [ed e] ∧ R (ed (ordE e)) n
def C_are_apart : Ct := fun _ ds n R => ∃ i j : Int, ds = [.int i, .int j] ∧ R (.bl (apartI i j)) n
def C_overlap_well : Ct := fun _ ds n R => ∃ e o : Pt × Pt, ds = [ed e, ed o] ∧ R (.bl (overW e o)) n
def C_meet_well : Ct := fun _ ds n R => ∃ e o : Pt × Pt, ds = [ed e, ed o] ∧ Bd e.1 ∧ Bd e.2 ∧ Bd o.1 ∧ Bd o.2 ∧ R (.bl (meetW e o)) n
def C_offset_parts : Ct := fun _ ds n R => ∃ p a b : Pt, ds = [pt p, pt a, pt b] ∧ Bd p ∧ Bd a ∧ Bd b ∧ R (fr (offP p a b)) n
def C_offset_of : Ct := fun _ ds n R => ∃ (p : Pt) (e : Pt × Pt), ds = [pt p, ed e] ∧ Bd p ∧ Bd e.1 ∧ Bd e.2 ∧ R (slk (low (offP p e.1 e.2))) n
def C_is_integer : Ct := fun _ ds n R => ∃ d a, ds = [d] ∧ tyN d = some a ∧ R (.bl (decide (a = "int"))) n
def C_common : Ct := fun _ ds n R => ∃ a b : Int, ds = [.int a, .int b] ∧ 0 ≤ a ∧ 0 ≤ b ∧ R (.int (Int.gcd a b)) n
def C_Slack_init : Ci := fun _ ds n R => ∃ a b : Int, ds = [.int a, .int b] ∧ 0 ≤ a ∧ 1 ≤ b ∧ b < 2 ^ 250 ∧ R ["own_num", "own_den"] [.int (low (a, b)).1, .int (low (a, b)).2] n
def C_Slack_eq : Ct := fun _ ds n R => ∃ p q : Int × Int, ds = [slk p, slk q] ∧ R (.bl (decide (p = q))) n
/-! the law's own -/
def C_L_pick : Ct := fun _ ds n R => ∃ xs, ds = [.drw, .lst xs] ∧ xs ≠ [] ∧ xs.length ≤ 1000000 ∧ 1 ≤ n ∧ ∀ d, d ∈ xs → R d (n - 1)
def C_L_cross : Ct := C_turning
def liesL (s : Pt) (e : Pt × Pt) : Bool := if decide (turn e.1 e.2 s = 0) = true then decide ((e.1.1 - s.1) * (e.2.1 - s.1) ≤ 0) && decide ((e.1.2 - s.2) * (e.2.2 - s.2) ≤ 0) else false
def C_L_lies : Ct := fun _ ds n R => ∃ (s : Pt) (e : Pt × Pt), ds = [pt s, ed e] ∧ Bd s ∧ Bd e.1 ∧ Bd e.2 ∧ R (.bl (liesL s e)) n
/-- a point of near that is no point of rest lies on rest -/
def touL (near rest : Pt × Pt) : Bool := ([near.1, near.2].filter fun k => !(decide (rest.1 = k) || decide (rest.2 = k))).any fun k => liesL k rest
def meetL (e o : Pt × Pt) : Bool :=
  if (decide (o = e) || decide ((o.2, o.1) = e)) = true then true
  else if touL e o = true then false
  else if touL o e = true then false
  else if decide (0 ≤ turn e.1 e.2 o.1 * turn e.1 e.2 o.2) = true then true
  else decide (0 ≤ turn o.1 o.2 e.1 * turn o.1 o.2 e.2)
def C_L_meet : Ct := fun _ ds n R => ∃ e o : Pt × Pt, ds = [ed e, ed o] ∧ Bd e.1 ∧ Bd e.2 ∧ Bd o.1 ∧ Bd o.2 ∧ R (.bl (meetL e o)) n
def offL (s a b : Pt) : Int × Int :=
  let x := b.1 - a.1
  let y := b.2 - a.2
  let l := s.1 - a.1
  let u := s.2 - a.2
  if l * x + u * y ≤ 0 ∨ x * x + y * y = 0 then (l * l + u * u, 1)
  else if x * x + y * y ≤ l * x + u * y then ((s.1 - b.1) * (s.1 - b.1) + (s.2 - b.2) * (s.2 - b.2), 1)
  else ((l * l + u * u) * (x * x + y * y) - (l * x + u * y) ^ 2, x * x + y * y)
def C_L_offset : Ct := fun _ ds n R => ∃ s a b : Pt, ds = [pt s, pt a, pt b] ∧ Bd s ∧ Bd a ∧ Bd b ∧ R (fr (offL s a b)) n
def C_L_spot : Ct := fun _ ds n R => ∃ f : Int, ds = [.drw, .int f] ∧ 0 ≤ f ∧ f ≤ 1000000 ∧ 2 ≤ n ∧ ∀ i j : Int, 0 ≤ i → i < 6 → 0 ≤ j → j < 6 → R (pt (i * f, j * f - 3)) (n - 2)
theorem calm_L_pick : Calm C_L_pick := fun _ _ _ _ _ h => h
theorem calm_L_cross : Calm C_L_cross := fun _ _ _ _ _ h => h
theorem calm_L_lies : Calm C_L_lies := fun _ _ _ _ _ h => h
theorem calm_L_meet : Calm C_L_meet := fun _ _ _ _ _ h => h
theorem calm_L_offset : Calm C_L_offset := fun _ _ _ _ _ h => h
theorem calm_L_spot : Calm C_L_spot := fun _ _ _ _ _ h => h
theorem calm_turning : Calm C_turning := fun _ _ _ _ _ h => h
theorem calm_product : Calm C_product := fun _ _ _ _ _ h => h
theorem calm_in_order : Calm C_in_order := fun _ _ _ _ _ h => h
theorem calm_are_apart : Calm C_are_apart := fun _ _ _ _ _ h => h
theorem calm_overlap_well : Calm C_overlap_well := fun _ _ _ _ _ h => h
theorem calm_meet_well : Calm C_meet_well := fun _ _ _ _ _ h => h
theorem calm_offset_parts : Calm C_offset_parts := fun _ _ _ _ _ h => h
theorem calm_offset_of : Calm C_offset_of := fun _ _ _ _ _ h => h
theorem calm_is_integer : Calm C_is_integer := fun _ _ _ _ _ h => h
theorem calm_common : Calm C_common := fun _ _ _ _ _ h => h
theorem calm_Slack_init : CalmI C_Slack_init := fun _ _ _ _ _ h => h
end DL
set_option maxHeartbeats 4000000
namespace DL
open PySem PySem.Spec PyProof.Rows L2
theorem pt_inj (p q : Pt) : (pt p = pt q) = (p = q) := by
  obtain ⟨a, b⟩ := p; obtain ⟨c, d⟩ := q
  simp [pt]
theorem ed_inj (p q : Pt × Pt) : (ed p = ed q) = (p = q) := by
  obtain ⟨a, b⟩ := p; obtain ⟨c, d⟩ := q
  simp only [ed, D.tup.injEq, List.cons.injEq, pt_inj, and_true, Prod.mk.injEq]
theorem slk_inj (p q : Int × Int) : (slk p = slk q) = (p = q) := by
  obtain ⟨a, b⟩ := p; obtain ⟨c, d⟩ := q
  simp [slk]
theorem fr_inj (p q : Int × Int) : (fr p = fr q) = (p = q) := pt_inj p q
theorem r_pt0 (p : Pt) (k : D → Prop) : oIx (pt p) (.int 0) k = k (.int p.1) := r_ixT0 _ _ _
theorem r_pt1 (p : Pt) (k : D → Prop) : oIx (pt p) (.int 1) k = k (.int p.2) := r_ixT1 _ _ _ _
theorem r_fr0 (p : Pt) (k : D → Prop) : oIx (fr p) (.int 0) k = k (.int p.1) := r_ixT0 _ _ _
theorem r_fr1 (p : Pt) (k : D → Prop) : oIx (fr p) (.int 1) k = k (.int p.2) := r_ixT1 _ _ _ _
theorem r_ed0 (e : Pt × Pt) (k : D → Prop) : oIx (ed e) (.int 0) k = k (pt e.1) := r_ixT0 _ _ _
theorem r_ed1 (e : Pt × Pt) (k : D → Prop) : oIx (ed e) (.int 1) k = k (pt e.2) := r_ixT1 _ _ _ _
theorem r_g2pt (i j : Nat) (p : Pt) (η : List Sl) (k : List Sl → Prop) : gTp 2 (gsCons (gNm i) (gsCons (gNm j) gsNil)) (pt p) η k = k ((η.set i (.dt (.int p.1))).set j (.dt (.int p.2))) := r_g2 _ _ _ _ _ _
theorem r_g2fr (i j : Nat) (p : Pt) (η : List Sl) (k : List Sl → Prop) : gTp 2 (gsCons (gNm i) (gsCons (gNm j) gsNil)) (fr p) η k = k ((η.set i (.dt (.int p.1))).set j (.dt (.int p.2))) := r_g2 _ _ _ _ _ _
theorem r_g2ed (i j : Nat) (e : Pt × Pt) (η : List Sl) (k : List Sl → Prop) : gTp 2 (gsCons (gNm i) (gsCons (gNm j) gsNil)) (ed e) η k = k ((η.set i (.dt (pt e.1))).set j (.dt (pt e.2))) := r_g2 _ _ _ _ _ _
theorem ed_mk (a b : Pt) : D.tup [pt a, pt b] = ed (a, b) := rfl
theorem r_ltP (p q : Pt) (k : D → Prop) : oLt (pt p) (pt q) k = k (.bl (ltP p q)) := by
  simp [pt, oLt, intsOf, ltP]
theorem lay_pt (p : Pt) : Lay (pt p) := rfl
theorem lay_ed (p : Pt × Pt) : Lay (ed p) := rfl
theorem lay_ed2 (p q : Pt × Pt) : Lay (.tup [ed p, ed q]) := rfl
theorem deq_pt (p q : Pt) : deq (pt p) (pt q) = decide (p = q) := by
  obtain ⟨a, b⟩ := p; obtain ⟨c, d⟩ := q
  unfold deq pt
  simp only [py, pyL, PyData.eqv, PyData.eqvAll]
  by_cases h : a = c <;> by_cases h' : b = d <;> simp [h, h']
theorem deq_ed (p q : Pt × Pt) : deq (ed p) (ed q) = decide (p = q) := by
  obtain ⟨a, b⟩ := p; obtain ⟨c, d⟩ := q
  have e1 := deq_pt a c
  have e2 := deq_pt b d
  unfold deq at *
  unfold ed
  simp only [py, pyL, PyData.eqv, PyData.eqvAll] at *
  rw [e1, e2]
  by_cases h : a = c <;> by_cases h' : b = d <;> simp [h, h']
theorem r_eqP (p q : Pt) (k : D → Prop) : oEq (pt p) (pt q) k = k (.bl (decide (p = q))) := by
  unfold oEq; rw [deq_pt]; simp [lay_pt]
theorem r_neP (p q : Pt) (k : D → Prop) : oNe (pt p) (pt q) k = k (.bl (!decide (p = q))) := by
  unfold oNe; rw [deq_pt]; simp [lay_pt]
theorem r_eqE (p q : Pt × Pt) (k : D → Prop) : oEq (ed p) (ed q) k = k (.bl (decide (p = q))) := by
  unfold oEq; rw [deq_ed]; simp [lay_ed]
theorem r_inE (p : Pt) (e : Pt × Pt) (k : D → Prop) : oIn (pt p) (ed e) k = k (.bl (decide (e.1 = p) || decide (e.2 = p))) := by
  unfold oIn ed
  simp only [dIn, List.any, deq_pt]
  rw [show (Lay (.tup [pt e.1, pt e.2])) = True from eq_true (lay_ed e), show Lay (pt p) = True from eq_true (lay_pt p)]
  simp
theorem r_notInE (p : Pt) (e : Pt × Pt) (k : D → Prop) : oNotIn (pt p) (ed e) k = k (.bl (!(decide (e.1 = p) || decide (e.2 = p)))) := by
  unfold oNotIn ed
  simp only [dIn, List.any, deq_pt]
  rw [show (Lay (.tup [pt e.1, pt e.2])) = True from eq_true (lay_ed e), show Lay (pt p) = True from eq_true (lay_pt p)]
  simp
theorem r_inEE (p a b : Pt × Pt) (k : D → Prop) : oIn (ed p) (.tup [ed a, ed b]) k = k (.bl (decide (a = p) || decide (b = p))) := by
  unfold oIn
  simp only [dIn, List.any, deq_ed]
  rw [show (Lay (.tup [ed a, ed b])) = True from eq_true (lay_ed2 a b), show Lay (ed p) = True from eq_true (lay_ed p)]
  simp
theorem rv_ed (e : Pt × Pt) (k : D → Prop) : rvD (ed e) k = k (ed (e.2, e.1)) := rfl
theorem layN_pt (p : Pt) : LayN 1 (pt p) := ⟨rfl, Nat.le_refl _⟩
theorem layN_ed (e : Pt × Pt) : LayN 2 (ed e) := ⟨rfl, Nat.le_refl _⟩
theorem layN_pts {k : Nat} (hk : 1 ≤ k) (xs : List Pt) : LayN (k + 1) (.lst (xs.map pt)) := LayN.lst fun d h => by
  obtain ⟨p, _, rfl⟩ := List.mem_map.1 h
  exact (layN_pt p).mono hk
theorem r_sqE (e : Pt × Pt) (k : List D → Prop) : seqOf (ed e) k = k [pt e.1, pt e.2] := rfl
theorem r_ne0 (k : D → Prop) : oNe (.lst []) (.lst []) k = k (.bl false) := by
  have : Lay (.lst []) := rfl
  have e : deq (.lst []) (.lst []) = true := rfl
  unfold oNe; rw [e]; simp [this]
theorem r_ne1 (a : Pt) (k : D → Prop) : oNe (.lst [pt a]) (.lst []) k = k (.bl true) := by
  have : Lay (.lst []) := rfl
  have h : Lay (.lst [pt a]) := rfl
  have e : deq (.lst [pt a]) (.lst []) = false := rfl
  unfold oNe; rw [e]; simp [this, h]
theorem r_ne2 (a b : Pt) (k : D → Prop) : oNe (.lst [pt a, pt b]) (.lst []) k = k (.bl true) := by
  have : Lay (.lst []) := rfl
  have h : Lay (.lst [pt a, pt b]) := rfl
  have e : deq (.lst [pt a, pt b]) (.lst []) = false := rfl
  unfold oNe; rw [e]; simp [this, h]
theorem r_eqL4 (a b c d a' b' c' d' : Int) (k : D → Prop) : oEq (.lst [.int a, .int b, .int c, .int d]) (.lst [.int a', .int b', .int c', .int d']) k = k (.bl (decide (a = a') && decide (b = b') && decide (c = c') && decide (d = d'))) := by
  have h : Lay (.lst [.int a, .int b, .int c, .int d]) := rfl
  have h' : Lay (.lst [.int a', .int b', .int c', .int d']) := rfl
  have e : deq (.lst [.int a, .int b, .int c, .int d]) (.lst [.int a', .int b', .int c', .int d']) = (decide (a = a') && decide (b = b') && decide (c = c') && decide (d = d')) := by
    unfold deq
    simp only [py, pyL, PyData.eqv, PyData.eqvAll]
    by_cases h1 : a = a' <;> by_cases h2 : b = b' <;> by_cases h3 : c = c' <;> by_cases h4 : d = d' <;> simp [h1, h2, h3, h4]
  unfold oEq; rw [e]; simp [h, h']
/-! ### the contracts as rules -/
theorem c_in_order (x : Xn) (e : Pt × Pt) (n : Nat) (R : D → Nat → Prop) : C_in_order x [ed e] n R = R (ed (ordE e)) n := by
  simp only [C_in_order, List.cons.injEq, ed_inj, and_true, exists_eq_left']
theorem c_turning (x : Xn) (o a b : Pt) (n : Nat) (R : D → Nat → Prop) : C_turning x [pt o, pt a, pt b] n R = (Bd o ∧ Bd a ∧ Bd b ∧ R (.int (turn o a b)) n) := by
  simp only [C_turning, List.cons.injEq, pt_inj, and_true, and_assoc, exists_and_left, exists_eq_left']
theorem c_product (x : Xn) (o a b : Pt) (n : Nat) (R : D → Nat → Prop) : C_product x [pt o, pt a, pt b] n R = (Bd o ∧ Bd a ∧ Bd b ∧ R (.int (prod o a b)) n) := by
  simp only [C_product, List.cons.injEq, pt_inj, and_true, and_assoc, exists_and_left, exists_eq_left']
theorem c_cross (x : Xn) (o a b : Pt) (n : Nat) (R : D → Nat → Prop) : C_L_cross x [pt o, pt a, pt b] n R = (Bd o ∧ Bd a ∧ Bd b ∧ R (.int (turn o a b)) n) := c_turning ..
theorem c_are_apart (x : Xn) (i j : Int) (n : Nat) (R : D → Nat → Prop) : C_are_apart x [.int i, .int j] n R = R (.bl (apartI i j)) n := by
  simp only [C_are_apart, List.cons.injEq, D.int.injEq, and_true, and_assoc, exists_and_left, exists_eq_left']
theorem c_overlap_well (x : Xn) (e o : Pt × Pt) (n : Nat) (R : D → Nat → Prop) : C_overlap_well x [ed e, ed o] n R = R (.bl (overW e o)) n := by
  simp only [C_overlap_well, List.cons.injEq, ed_inj, and_true, and_assoc, exists_and_left, exists_eq_left']
theorem c_meet_well (x : Xn) (e o : Pt × Pt) (n : Nat) (R : D → Nat → Prop) : C_meet_well x [ed e, ed o] n R = (Bd e.1 ∧ Bd e.2 ∧ Bd o.1 ∧ Bd o.2 ∧ R (.bl (meetW e o)) n) := by
  simp only [C_meet_well, List.cons.injEq, ed_inj, and_true, and_assoc, exists_and_left, exists_eq_left']
theorem c_offset_parts (x : Xn) (p a b : Pt) (n : Nat) (R : D → Nat → Prop) : C_offset_parts x [pt p, pt a, pt b] n R = (Bd p ∧ Bd a ∧ Bd b ∧ R (fr (offP p a b)) n) := by
  simp only [C_offset_parts, List.cons.injEq, pt_inj, and_true, and_assoc, exists_and_left, exists_eq_left']
theorem c_offset_of (x : Xn) (p : Pt) (e : Pt × Pt) (n : Nat) (R : D → Nat → Prop) : C_offset_of x [pt p, ed e] n R = (Bd p ∧ Bd e.1 ∧ Bd e.2 ∧ R (slk (low (offP p e.1 e.2))) n) := by
  simp only [C_offset_of, List.cons.injEq, pt_inj, ed_inj, and_true, and_assoc, exists_and_left, exists_eq_left']
theorem c_is_integer (x : Xn) (i : Int) (n : Nat) (R : D → Nat → Prop) : C_is_integer x [.int i] n R = R (.bl true) n := by
  simp [C_is_integer, tyN]
theorem c_common (x : Xn) (i j : Int) (n : Nat) (R : D → Nat → Prop) : C_common x [.int i, .int j] n R = (0 ≤ i ∧ 0 ≤ j ∧ R (.int (Int.gcd i j)) n) := by
  simp only [C_common, List.cons.injEq, D.int.injEq, and_true, and_assoc, exists_and_left, exists_eq_left']
theorem c_Slack_init (x : Xn) (i j : Int) (n : Nat) (R : List Str → List D → Nat → Prop) : C_Slack_init x [.int i, .int j] n R = (0 ≤ i ∧ 1 ≤ j ∧ j < 2 ^ 250 ∧ R ["own_num", "own_den"] [.int (low (i, j)).1, .int (low (i, j)).2] n) := by
  simp only [C_Slack_init, List.cons.injEq, D.int.injEq, and_true, and_assoc, exists_and_left, exists_eq_left']
theorem c_L_lies (x : Xn) (p : Pt) (e : Pt × Pt) (n : Nat) (R : D → Nat → Prop) : C_L_lies x [pt p, ed e] n R = (Bd p ∧ Bd e.1 ∧ Bd e.2 ∧ R (.bl (liesL p e)) n) := by
  simp only [C_L_lies, List.cons.injEq, pt_inj, ed_inj, and_true, and_assoc, exists_and_left, exists_eq_left']
theorem c_L_meet (x : Xn) (e o : Pt × Pt) (n : Nat) (R : D → Nat → Prop) : C_L_meet x [ed e, ed o] n R = (Bd e.1 ∧ Bd e.2 ∧ Bd o.1 ∧ Bd o.2 ∧ R (.bl (meetL e o)) n) := by
  simp only [C_L_meet, List.cons.injEq, ed_inj, and_true, and_assoc, exists_and_left, exists_eq_left']
theorem c_L_offset (x : Xn) (p a b : Pt) (n : Nat) (R : D → Nat → Prop) : C_L_offset x [pt p, pt a, pt b] n R = (Bd p ∧ Bd a ∧ Bd b ∧ R (fr (offL p a b)) n) := by
  simp only [C_L_offset, List.cons.injEq, pt_inj, and_true, and_assoc, exists_and_left, exists_eq_left']
theorem c_L_spot (x : Xn) (f : Int) (n : Nat) (R : D → Nat → Prop) : C_L_spot x [.drw, .int f] n R = (0 ≤ f ∧ f ≤ 1000000 ∧ 2 ≤ n ∧ ∀ i j : Int, 0 ≤ i → i < 6 → 0 ≤ j → j < 6 → R (pt (i * f, j * f - 3)) (n - 2)) := by
  simp only [C_L_spot, List.cons.injEq, D.int.injEq, and_true, true_and, exists_eq_left']
theorem slk_mk (q : Int × Int) : D.ins "Slack" ["own_num", "own_den"] [.int q.1, .int q.2] = slk q := rfl
theorem r_ownNe (p q : Int × Int) (k : D → Prop) : oOwn "Slack" C_Slack_eq true (slk p) (slk q) k = k (.bl (!decide (p = q))) := by
  unfold oOwn slk
  apply propext
  constructor
  · rintro ⟨_, _, h⟩
    obtain ⟨a, b, e, h2, h3⟩ := h 0
    have e' : [slk p, slk q] = [slk a, slk b] := e
    simp only [List.cons.injEq, slk_inj, and_true] at e'
    obtain ⟨rfl, rfl⟩ := e'
    exact h3
  · intro h
    exact ⟨rfl, rfl, fun n => ⟨p, q, rfl, rfl, h⟩⟩
theorem gP_10 (a b : D) : gP D.non [1, 0] [] [a, b] = [b, a] := rfl
theorem r_rep4 (d : D) (k : D → Prop) : oRep (.lst [d]) (.int 4) k = k (.lst [d, d, d, d]) := by
  unfold oRep
  apply propext
  constructor
  · exact fun h => h.2.2.2
  · exact fun h => ⟨by decide, by decide, by show 1 * 4 ≤ sizeLine; decide, h⟩
theorem r_addL (xs ys : List D) (k : D → Prop) : oAdd (.lst xs) (.lst ys) k = (xs.length + ys.length ≤ sizeLine ∧ k (.lst (xs ++ ys))) := rfl
theorem repr_b4 (b : Bool) (k : D → Prop) (h : k (.str (py (.lst [.bl b, .bl b, .bl b, .bl b])).shown)) : bRepr [.lst [.bl b, .bl b, .bl b, .bl b]] k := by
  cases b
  · exact ⟨rfl, rfl, rfl, by decide +kernel, by decide +kernel, h⟩
  · exact ⟨rfl, rfl, rfl, by decide +kernel, by decide +kernel, h⟩
theorem ne_b4 (b : Bool) (k : D → Prop) (h : k (.bl false)) : oNe (.str (py (.lst [.bl b, .bl b, .bl b, .bl b])).shown) (.str (py (.lst [.bl b, .bl b, .bl b, .bl b])).shown) k := by
  have e : deq (.str (py (.lst [.bl b, .bl b, .bl b, .bl b])).shown) (.str (py (.lst [.bl b, .bl b, .bl b, .bl b])).shown) = true := by
    unfold deq py PyData.eqv
    simp
  unfold oNe
  rw [e]
  refine ⟨?_, ?_, h⟩ <;> cases b <;> unfold Lay <;> decide +kernel
end DL
set_option maxHeartbeats 4000000
namespace DL
open PySem PySem.Spec PyProof.Rows L2
/-! ### the head's hook with further facts -/
abbrev AlQ : Type := He.AlD × Bool
def obsQ (n : Nat) (fa : List He.Fa) (fn : List He.DefD) (ex : PySem.W.Frag → Bool) (g : Addr → Option Obj) : AlQ := (He.obsD fa fn (He.frG g (He.asD g n)), ex (He.frG g (He.asD g n)))
def hookQ (n : Nat) (fa : List He.Fa) (fn : List He.DefD) (ex : PySem.W.Frag → Bool) : PySem.W.Hook where
  α := AlQ
  obs := fun s => obsQ n fa fn ex s.heap.get?
  val := fun _ => (He.valD fn, true)
  says := fun _ h => ∃ K : PySem.W.Frag, K.In h ∧ He.SaysD fa fn K ∧ ex K = true
  of := fun _ _ e => ⟨_, He.frG_in, congrArg (fun z : AlQ => z.1) e, congrArg (fun z : AlQ => z.2) e⟩
  keeps := fun _ _ _ ⟨K, hK, c⟩ k => ⟨K, PySem.W.Frag.In.keeps hK k, c⟩
theorem obsQ_eq {n : Nat} {fa : List He.Fa} {fn : List He.DefD} {ex : PySem.W.Frag → Bool} {g : Addr → Option Obj} {s : Shared} (h : ∀ a, g a = s.heap.get? a) : obsQ n fa fn ex g = (hookQ n fa fn ex).obs s := by
  have e : g = s.heap.get? := funext h
  rw [e]
  rfl
/-- a class: no own unequal, its instances' type -/
def clsX (K : PySem.W.Frag) (cn : Str) : Bool :=
  He.eqO (PySem.W.findIn K (.ref (He.ga K cn)) "__ne__") (some (some (.builtin "object.__ne__"))) && decide (PySem.W.subIn K (.ref (He.ga K cn)) (.type "object") = some true) &&
  (He.eqO (PySem.W.findIn K (.ref (He.ga K cn)) "__class__") (some (some (.builtin "object.__class__"))) && He.eqO (PySem.W.specialIn K (.builtin "object.__class__") "__get__") (some (some (.builtin "getset_descriptor.__get__"))) &&
  decide (PySem.W.takesIn K (.builtin "object.__class__") = some true) && decide (PySem.W.mroIn K (He.ga K cn) (.type "object") = some true) &&
  ["NoneType", "bool", "int", "str", "tuple", "list", "dict"].all fun T => decide (PySem.W.kitOne K (.type T) (.ref (He.ga K cn)) = some false))
theorem clsX_ok {K : PySem.W.Frag} {cn : Str} (c : Cls K (He.ga K cn)) (h : clsX K cn = true) : NoNe K cn ∧ IsC K cn := by
  unfold clsX at h
  simp only [Bool.and_eq_true, decide_eq_true_eq, List.all_eq_true] at h
  obtain ⟨⟨h1, h2⟩, ⟨⟨⟨h3, h4⟩, h5⟩, h6⟩, h7⟩ := h
  exact ⟨⟨He.eqO_ok h1, h2⟩, ⟨⟨c, He.eqO_ok h3, He.eqO_ok h4, h5, h6⟩, h7⟩⟩
theorem st_m {w : WS} {C : Ct} {N : List Str} {m : Nat} (h : ∀ x ds n R, ds.length = m → C x ds n R → w x { nx := fun _ n => R .non n, rt := R } (st0 ds N) n) :
    ∀ x ds n R, ds.length = m → C x ds n R → w x { nx := fun _ n => R .non n, rt := R } (ds.map Sl.dt ++ List.replicate (N.length - m) Sl.un) n := fun x ds n R hl hc => by
  have := h x ds n R hl hc
  subst hl
  exact this
theorem start_next {K : PySem.W.Frag} {E : XK} {N : List Str} (hN : N.length = 6) (vs : List V) (H : Hp) (Q : VK) (h : spU K 2 C_L_next vs H Q E) : t_next K { nx := fun _ H' => Q .non H', rt := Q } (L2.start N vs) H := by
  have hl := spU_len h
  have := pure_next vs H Q h
  have e : L2.start N vs = vs.map some ++ [none, none, none, none] := by
    unfold L2.start
    rw [hN, hl]
    rfl
  rw [e]
  exact this
theorem spBegin_len {K : PySem.W.Frag} {E : XK} {vs : List V} {H : Hp} {Q : VK} (h : spBegin K vs H Q E) : vs.length = 1 := by
  obtain ⟨a, ns, rfl, _⟩ := h
  rfl
theorem start_begin {K : PySem.W.Frag} {E : XK} {N : List Str} (hN : N.length = 1) (vs : List V) (H : Hp) (Q : VK) (h : spBegin K vs H Q E) : t_begin K { nx := fun _ H' => Q .non H', rt := Q } (L2.start N vs) H := by
  have hl := spBegin_len h
  have := pure_begin vs H Q h
  have e : L2.start N vs = vs.map some := by
    unfold L2.start
    rw [hN, hl]
    simp
  rw [e]
  exact this
theorem spLaw_len {K : PySem.W.Frag} {E : XK} {vs : List V} {H : Hp} {Q : VK} (h : spLaw K vs H Q E) : vs.length = 1 := by
  obtain ⟨a, ns, rfl, _⟩ := h
  rfl
end DL
set_option maxHeartbeats 4000000
namespace DL
open PySem PySem.Spec PyProof.Rows L2
/-! ### own exceptions are made and raised -/
section
variable {X : Cx} {e : Expr} {es : List Expr} {ta : TA} {p1 p2 pos : Pos}
/-- what the family's own class (no __init__ of its own) is -/
structure ExB (K : PySem.W.Frag) (CS : Addr) : Prop where
  ga : PySem.W.specialIn K (.ref CS) "__getattribute__" = some (some (.builtin "type.__getattribute__"))
  rd : ∃ mc, PySem.W.typeIn K (.ref CS) = some mc ∧ PySem.W.readsIn K CS mc = true ∧ PySem.W.findCls K (.ref CS) mc "__init__" = some (.val (.builtin "ValueError.__init__"))
/-- Base.__init__(self, ..) -/
theorem pe_shinit {x : Str} {CS : Addr} {pl : Sem Bool} (B : ExB X.K CS) (hg : Gl X x) (hm : X.mg x = some (.ref CS)) (ha : PA X (e :: es) ta)
    (hc : eval (.Call (.Attribute (.Name x p1) "__init__" p2) (e :: es) [] pos) X.env = (do
      let ov ← eval (.Name x p1) X.env
      standAt p2.atName
      let (f, first) ← holding [ov] (getMethod ov "__init__" pl)
      callWith pos f first (backTo pos (starEach (e :: es) X.env)) (backToKw pos (keywordEach [] X.env))) := by rfl)
    (hdb : (x == ("__debug__" : Str)) = false := by decide) (he : starEach (e :: es) X.env = (false, eval e X.env) :: starEach es X.env := by rfl) (hpl : (backTo pos (starEach es X.env)).any (·.1) = false := by rfl) :
    PE X (.Call (.Attribute (.Name x p1) "__init__" p2) (e :: es) [] pos) (tVeI X.K ta) := by
  obtain ⟨mc, m1, m2, m3⟩ := B.rd
  refine ⟨fun pins s σ H Q I h => ?_⟩
  apply PySem.W.methodCall_KW (ld_glob I hg hm ?_ hdb) hc
  obtain ⟨m, fr⟩ := I.fr
  apply PySem.W.method_of_cls fr I.ok.mod.kin B.ga
  apply PySem.W.cls_val fr I.ok.mod.kin m1 m2 m3 (by decide +kernel)
  show wpAny _ _ (callWith pos (Value.builtin "ValueError.__init__") [] (backTo pos (starEach (e :: es) X.env)) []) _ _ _
  apply PyProof.Rows.callWith_method1 (thn (ha.run pos pins _ σ H _ (I.tok _) h) fun us s1 z => ?_) he hpl
  obtain ⟨vs, H1, I1, r1, a, C, ws, ev, hl, T, ea, q⟩ := z
  subst ev
  match us, r1 with
  | u0 :: ur, .cons ra rs =>
    obtain rfl : u0 = Value.ref a := ra
    apply oinit_ok T I1 ea
    · rw [← Paired.length rs, sizeLine_eq]
      omega
    · intro s' J
      exact ⟨.non, H1, J, rfl, q⟩
end
/-- the fields, the last one first, as the dict keeps them -/
def exHp (a C dx : Addr) (fs : List (Str × V)) (H : Hp) : Hp := upd (upd H dx (exd dx fs)) a (exo a C (some dx))
/-- an exception's __init__ of the fields fl -/
def spX (K : PySem.W.Frag) (fl : List Str) : Sp := fun vs H Q _ => ∃ (a C : Addr) (ws : List V), vs = .ref a :: ws ∧ ws.length = fl.length ∧ OexC K C ∧ (∀ f, f ∈ fl → PySem.W.findIn K (.ref C) f = some none) ∧ H a = some (exo a C none) ∧
  ∀ dx, H dx = none → dx ≠ a → ∀ H', (∀ b, b ≠ a → b ≠ dx → H' b = H b) → H' a = some (exo a C (some dx)) → H' dx = some (exd dx (fl.zip ws).reverse) → Q .non H'
def tX1 (K : PySem.W.Frag) (z : Str) (f : Str) : TS := tSeq (tDrop (tVeI K (tCons (tVar 0) (tCons (tC (.str z)) tNil)))) (tOst K f (tVar 0) (tVar 1))
def tX2 (K : PySem.W.Frag) (z : Str) (f g : Str) : TS := tSeq (tDrop (tVeI K (tCons (tVar 0) (tCons (tC (.str z)) tNil)))) (tSeq (tOst K f (tVar 0) (tVar 1)) (tOst K g (tVar 0) (tVar 2)))
theorem pure_X1 {K : PySem.W.Frag} {E : XK} {z f : Str} {N : List Str} (vs : List V) (H : Hp) (Q : VK) (h : spX K [f] vs H Q E) : tX1 K z f { nx := fun _ H' => Q .non H', rt := Q } (L2.start N vs) H := by
  obtain ⟨a, C, ws, rfl, hl, T, hno, ha, q⟩ := h
  match ws, hl with
  | [w], _ =>
  have s0 : (L2.start N [V.ref a, w])[0]? = some (some (V.ref a)) := rfl
  have s1 : (L2.start N [V.ref a, w])[1]? = some (some w) := rfl
  refine ⟨.ref a, s0, a, C, [.str z], rfl, by simp, T, ha, ?_⟩
  refine ⟨w, s1, .ref a, s0, a, C, rfl, T, hno f (by simp), .inl ⟨ha, fun dx hd hne => ?_⟩⟩
  refine q dx hd hne _ (fun b h1 h2 => ?_) upd_same ?_
  · rw [upd_ne h1, upd_ne h2]
  · rw [upd_ne hne, upd_same]
    rfl
theorem pure_X2 {K : PySem.W.Frag} {E : XK} {z f g : Str} {N : List Str} (vs : List V) (H : Hp) (Q : VK) (h : spX K [f, g] vs H Q E) : tX2 K z f g { nx := fun _ H' => Q .non H', rt := Q } (L2.start N vs) H := by
  obtain ⟨a, C, ws, rfl, hl, T, hno, ha, q⟩ := h
  match ws, hl with
  | [w, u], _ =>
  have s0 : (L2.start N [V.ref a, w, u])[0]? = some (some (V.ref a)) := rfl
  have s1 : (L2.start N [V.ref a, w, u])[1]? = some (some w) := rfl
  have s2 : (L2.start N [V.ref a, w, u])[2]? = some (some u) := rfl
  refine ⟨.ref a, s0, a, C, [.str z], rfl, by simp, T, ha, ?_⟩
  refine ⟨w, s1, .ref a, s0, a, C, rfl, T, hno f (by simp), .inl ⟨ha, fun dx hd hne => ?_⟩⟩
  refine ⟨u, s2, .ref a, s0, a, C, rfl, T, hno g (by simp), .inr ⟨dx, [(f, w)], upd_same, ?_, by simp, ?_⟩⟩
  · rw [upd_ne hne, upd_same]
  refine q dx hd hne _ (fun b h1 h2 => ?_) ?_ upd_same
  · rw [upd_ne h2, upd_ne h1, upd_ne h2]
  · rw [upd_ne (Ne.symm hne), upd_same]
theorem spX_len {K : PySem.W.Frag} {fl : List Str} {E : XK} {vs : List V} {H : Hp} {Q : VK} (h : spX K fl vs H Q E) : vs.length = fl.length + 1 := by
  obtain ⟨a, C, ws, rfl, hl, _⟩ := h
  simp [hl]
/-- an exception class by its name, its __init__ -/
def ExM (P : Program) (wd : World) (K : PySem.W.Frag) (mg : Str → Option Value) (base : Heap) (cn : Str) (ps fl : List Str) (k : Nat) : Prop :=
  ∃ fI fd, OexC K (He.ga K cn) ∧ PySem.W.findIn K (.ref (He.ga K cn)) "__init__" = some (some (.ref fI)) ∧ PySem.W.typeIn K (.ref fI) = some (.type "function") ∧ FnOk P wd K mg base CX0 k fI fd ps (spX K fl) ∧ Binds K fd ps [] ∧
    mg cn = some (.ref (He.ga K cn)) ∧ ∀ f, f ∈ fl → PySem.W.findIn K (.ref (He.ga K cn)) f = some none
/-- raise C(..) -/
def sRaise (cn : Str) (fl : List Str) (w : WA) : WS := fun x _ η n => w x η n fun ds n1 => ds.length = fl.length ∧ x (.ins cn fl.reverse ds.reverse) n1
section
variable {X : Cx} {E : XK}
theorem upd_gone {H H2 : Hp} {a d : Addr} {fs : List (Str × V)} (ha : H a = none) (hda : d ≠ a) (h : ∀ b, b ≠ a → b ≠ d → H2 b = upd H a (exo a a none) b) : upd (del H2 a) d (.xd fs) = upd H d (.xd fs) := by
  funext b
  by_cases h1 : b = d
  · subst h1
    rw [upd_same, upd_same]
  · rw [upd_ne h1, upd_ne h1]
    by_cases h2 : b = a
    · subst h2
      rw [del_same, ha]
    · rw [del_ne h2, h b h2 h1, upd_ne h2]
theorem zip_rev {α β : Type} : ∀ (xs : List α) (ys : List β), xs.length = ys.length → (xs.zip ys).reverse = xs.reverse.zip ys.reverse
  | [], [], _ => rfl
  | x :: xs, y :: ys, h => by
    have h' : xs.length = ys.length := Nat.succ.inj h
    rw [List.zip_cons_cons, List.reverse_cons, zip_rev xs ys h', List.reverse_cons, List.reverse_cons, List.zip_append (by simp [h'])]
    rfl
theorem qs_raise {cn : Str} {ps fl : List Str} {k j : Nat} {w : WA} {p pos pos2 : Pos} {e : Expr} {es : List Expr} (M : ExM X.prog X.w X.K X.mg X.base cn ps fl j) (hc : X.calm = true) (tk : Takes X (fun cls d _ H => E cls d H)) (hr : Room k X.A) (hj : j + 1 ≤ k) (hg : Gl X cn) (hm : fl.length ≤ 1000) (ha : PA X (e :: es) (upA X.K E w))
    (hdb : (cn == ("__debug__" : Str)) = false := by decide) (he : starEach (e :: es) X.env = (false, eval e X.env) :: starEach es X.env := by rfl) (hpl : (backTo pos (starEach es X.env)).any (·.1) = false := by rfl) :
    PS X (.Raise (some (.Call (.Name cn p) (e :: es) [] pos)) none pos2) (upS X.K E (sRaise cn fl w)) := by
  obtain ⟨fI, fd, T, iC, tI, F, b, g, hno⟩ := M
  refine ps_to (ps_raise hc tk (pmk_oex T iC tI F (hr.mono hj) b .nil pass0 hg g ha hdb he hpl)) fun D σ H q => ?_
  obtain ⟨c, η, k', x, e1, ok, en, hw, h1, h2, h3, h4, hx⟩ := q
  refine ⟨c, η, _, x, e1, ok, en, hw, fun ds c1 vs hd ok1 l1 rp => ?_, hx.none⟩
  obtain ⟨hl, hxd⟩ := hd
  have hv : vs.length = fl.length := by rw [rp.length, hl]
  refine ⟨by omega, fun a hna => ?_⟩
  rw [List.append_nil]
  refine ⟨a, _, vs, rfl, hv, T, hno, upd_same, fun dx hdx hne H' hb hHa hHd => ⟨rfl, dx, _, hHa, hHd, ?_, ?_⟩⟩
  · rw [upd_ne hne] at hdx
    exact hdx
  · have hdx1 : c1.H dx = none := by
      rw [upd_ne hne] at hdx
      exact hdx
    have eqH : upd (del H' a) dx (.xd (fl.zip vs).reverse) = upd c1.H dx (.xd (fl.zip vs).reverse) := upd_gone hna hne fun b q1 q2 => by
      rw [hb b q1 q2, upd_ne q1, upd_ne q1]
    rw [eqH, zip_rev fl vs hv.symm]
    obtain ⟨ok2, l2⟩ := ok1.newF (o := .xd (fl.reverse.zip vs.reverse)) hdx1
    exact hx _ ⟨c1.dr, upd c1.F dx (.xd (fl.reverse.zip vs.reverse)), upd c1.H dx (.xd (fl.reverse.zip vs.reverse)), c1.n, c1.T⟩ _ _ hxd ok2 (LeO.of (l1.trans l2)) ⟨cn, fl.reverse, ds.reverse, dx, vs.reverse, rfl, rfl, rfl, upd_same, by simp [hv], (l2.rpl rp).rev⟩
end
end DL
set_option maxHeartbeats 4000000
namespace DL
open PySem PySem.Spec PyProof.Rows L2
/-! ### defs that may raise -/
abbrev TkE (X : Cx) (E : XK) : Prop := Takes X (fun cls d _ H => E cls d H)
theorem TkE.pass {X : Cx} {E : XK} (tk : TkE X E) : Passes (L2.CX X.prog X.w) X E := passes_call tk fun _ _ _ _ h => h
def FnX (P : Program) (wd : World) (K : PySem.W.Frag) (mg : Str → Option Value) (base : Heap) (nm : Str) (ps : List Str) (m k : Nat) (C : Ct) : Prop :=
  ∃ fd, FnOk P wd K mg base (L2.CX P wd) k (He.ga K nm) fd ps (spU K m C) ∧ Binds K fd ps [] ∧ PySem.W.keepIn K (.ref (He.ga K nm)) = true ∧ mg nm = some (.ref (He.ga K nm))
def FnKX (P : Program) (wd : World) (K : PySem.W.Frag) (mg : Str → Option Value) (base : Heap) (nm : Str) (ps : List Str) (m k : Nat) (C : Ct) (n : Nat) (ks : List Str) (pm : List Nat) : Prop :=
  ∃ fd, FnOk P wd K mg base (L2.CX P wd) k (He.ga K nm) fd ps (spU K m C) ∧ KBn K fd ps n ks (gP .none pm) (gP .non pm) ∧ PySem.W.keepIn K (.ref (He.ga K nm)) = true ∧ mg nm = some (.ref (He.ga K nm))
def MkrX (P : Program) (wd : World) (K : PySem.W.Frag) (mg : Str → Option Value) (base : Heap) (cn : Str) (ps : List Str) (m k : Nat) (C : Ci) (dds : List D) : Prop :=
  ∃ f fd ds dvs, L2.Mk K (He.ga K cn) f ∧ FnOk P wd K mg base (L2.CX P wd) k f fd ps (spI K cn m C) ∧ Binds K fd ps ds ∧ Vals dvs ds ∧ (∀ dr F, RpL K dr F dvs dds) ∧ mg cn = some (.ref (He.ga K cn))
/-- nothing is promised: such a def need not be looked at -/
theorem fn_no {P : Program} {wd : World} {K : PySem.W.Frag} {mg : Str → Option Value} {base : Heap} {f : Addr} {fd : FuncData} {ps : List Str} {m k : Nat} {CX : CXT} : FnOk P wd K mg base CX k f fd ps (spU K m fun _ _ _ _ => False) :=
  ⟨fun vs H Q E ⟨_, _, _, _, _, _, _, _, _, h, _⟩ => h.elim, fun A outer s H args us vs Q E _ _ _ _ ⟨_, _, _, _, _, _, _, _, _, h, _⟩ => h.elim⟩
section
variable {X : Cx} {E : XK} {pos p : Pos} {e : Expr} {es : List Expr} {nm cn : Str} {ps : List Str} {m k j n : Nat} {C : Ct} {w wk : WA} {kws : List Keyword}
theorem q_fx (F : FnX X.prog X.w X.K X.mg X.base nm ps m j C) (tk : TkE X E) (hr : Room k X.A) (hj : j ≤ k) (hg : Gl X nm) (ha : PA X (e :: es) (upA X.K E w)) (hdb : (nm == ("__debug__" : Str)) = false := by decide)
    (he : starEach (e :: es) X.env = (false, eval e X.env) :: starEach es X.env := by rfl) (hpl : (backTo pos (starEach es X.env)).any (·.1) = false := by rfl) : PE X (.Call (.Name nm p) (e :: es) [] pos) (up X.K E (eCall m C [] w)) := by
  obtain ⟨fd, F, b, kp, g⟩ := F
  exact pe_to (pe_call F (hr.mono hj) hg g kp b .nil tk.pass ha hdb he hpl) (call_up fun _ _ => .nil)
theorem callKX_up {K : PySem.W.Frag} {m n l : Nat} {C : Ct} {pm : List Nat} {w wk : WA} : ∀ σ H Q, up K E (eCallK m n l C pm w wk) σ H Q → tCallN n l (spU K m C) (gP .non pm) E (upA K E w) (upA K E wk) σ H Q := fun σ H Q q => by
  obtain ⟨c, η, R, x, e1, ok, en, hw, hr, hx⟩ := q
  refine ⟨c, η, _, x, e1, ok, en, hw, fun ds c1 vs hc ok1 l1 rp => ?_, hx⟩
  refine ⟨c1, η, _, x, rfl, ok1, en.le l1, hc, fun es c2 zs hc2 ok2 l2 rz => ?_, hx.le l1⟩
  obtain ⟨h1, h2, h3, h4⟩ := hc2
  refine ⟨by rw [rp.length]; exact h1, by rw [rz.length]; exact h2, ?_⟩
  exact ⟨c2, _, R, x, rfl, ok2, (l1.trans l2).T.trans en.T, gP_rpl (l2.rpl rp) rz pm, by simp [gP, h3], h4, fun d c3 v h5 ok3 l3 r3 => hr d c3 v h5 ok3 ((l1.trans l2).trans l3) r3, (hx.le l1).le l2⟩
theorem q_fkx0 {ks : List Str} {pm : List Nat} (F : FnKX X.prog X.w X.K X.mg X.base nm ps m j C 0 ks pm) (tk : TkE X E) (hr : Room k X.A) (hj : j ≤ k) (hg : Gl X nm) (hkw : PK X kws (upA X.K E wk))
    (hall : (backToKw pos (keywordEach kws X.env)).all (·.1.isSome) = true := by rfl) (hks : (backToKw pos (keywordEach kws X.env)).filterMap (·.1) = ks := by rfl)
    (hdb : (nm == ("__debug__" : Str)) = false := by decide)
    (hpl : ((backTo pos (starEach [] X.env)).any (·.1) || (backToKw pos (keywordEach kws X.env)).any (·.1.isNone)) = false := by rfl) :
    PE X (.Call (.Name nm p) [] kws pos) (up X.K E (eCallK m 0 ks.length C pm aNil wk)) := by
  obtain ⟨fd, F, b, kp, g⟩ := F
  refine pe_to (pe_callN0 F (hr.mono hj) hg g kp b tk.pass hkw hall hks hdb hpl) fun σ H Q q => ?_
  obtain ⟨c, η, R, x, e1, ok, en, hw, hr, hx⟩ := q
  refine ⟨c, η, _, x, e1, ok, en, hw, fun es c2 zs hc2 ok2 l2 rz => ?_, hx⟩
  obtain ⟨h1, h2, h3, h4⟩ := hc2
  refine ⟨rfl, by rw [rz.length]; exact h2, ?_⟩
  exact ⟨c2, _, R, x, rfl, ok2, l2.T.trans en.T, gP_rpl .nil rz pm, by simp [gP, h3], h4, fun d c3 v h5 ok3 l3 r3 => hr d c3 v h5 ok3 (l2.trans l3) r3, hx.le l2⟩
theorem q_mkx {C : Ci} {dds : List D} (M : MkrX X.prog X.w X.K X.mg X.base cn ps m j C dds) (tk : TkE X E) (hr : Room k X.A) (hj : j + 1 ≤ k) (hg : Gl X cn) (ha : PA X (e :: es) (upA X.K E w)) (hdb : (cn == ("__debug__" : Str)) = false := by decide)
    (he : starEach (e :: es) X.env = (false, eval e X.env) :: starEach es X.env := by rfl) (hpl : (backTo pos (starEach es X.env)).any (·.1) = false := by rfl) : PE X (.Call (.Name cn p) (e :: es) [] pos) (up X.K E (eMake cn m C dds w)) := by
  obtain ⟨f, fd, ds, dvs, mk, F, b, hd, hrp, g⟩ := M
  refine pe_to (pe_make mk F (hr.mono hj) hg g b hd tk.pass ha hdb he hpl) fun σ H Q q => ?_
  obtain ⟨c, η, R, x, e1, ok, en, hw, hr, hx⟩ := q
  refine ⟨c, η, _, x, e1, ok, en, hw, fun ds c1 vs hc ok1 l1 rp => ?_, hx⟩
  exact make_at (x := x) l1 ok1 (l1.T.trans en.T) (rp.append (hrp _ _)) hc.1 hc.2 hr hx
end
section
variable {P : Program} {wd : World} {K : PySem.W.Frag} {mg : Str → Option Value} {base : Heap} {x qual : Str} {params : Arguments} {body : List Stmt} {scope : Scope} {dvs : List V} {kws : List (Str × V)} {N : List Str} {w : WS} {f : Addr} {fd : FuncData} {m k : Nat} {ps : List Str} {cn : Str}
theorem fn_upX {C : Ct} (F : FunD K x qual params body scope dvs kws f fd) (S : FnScope N ps scope) (hps : ps.length = m)
    (hb : ∀ (cdv : Value) (A : Around) (outer : List Env) (s : Shared) (H : Hp) (E : XK), Room k (A.deeper (envOfC qual scope s.heap.objs.size f cdv)) → TkE (cxOf (L2.CX P wd) P wd K mg base N qual scope f cdv A outer s H E) E → PSs (cxOf (L2.CX P wd) P wd K mg base N qual scope f cdv A outer s H E) body (upS K E w))
    (hw : ∀ x ds n R, ds.length = m → C x ds n R → w x { nx := fun _ n => R .non n, rt := R } (ds.map Sl.dt ++ List.replicate (N.length - m) Sl.un) n) : FnOk P wd K mg base (L2.CX P wd) (k + 1) f fd ps (spU K m C) :=
  F.ok S (fun vs H Q E h => (spU_len h).trans hps.symm) fun cdv A outer s H vs Q E hr h => ⟨_, hb cdv A outer s H E hr (takes_of rfl rfl rfl rfl), body_up h hw⟩
theorem fn_initX {C : Ci} (F : FunD K x qual params body scope dvs kws f fd) (S : FnScope N ps scope) (hps : ps.length = m + 1) (hN : m + 1 ≤ N.length)
    (hb : ∀ (cdv : Value) (A : Around) (outer : List Env) (s : Shared) (H : Hp) (E : XK), Room k (A.deeper (envOfC qual scope s.heap.objs.size f cdv)) → TkE (cxOf (L2.CX P wd) P wd K mg base N qual scope f cdv A outer s H E) E → PSs (cxOf (L2.CX P wd) P wd K mg base N qual scope f cdv A outer s H E) body (upS K E w))
    (hw : ∀ p x ds n R, ds.length = m → C x ds n R → w x { nx := fun η n => obS cn η[0]? fun p' ns fs => p' = p ∧ R ns fs n, rt := fun _ _ => False } (.ob p cn [] [] :: (ds.map Sl.dt ++ List.replicate (N.length - (m + 1)) Sl.un)) n) : FnOk P wd K mg base (L2.CX P wd) (k + 1) f fd ps (spI K cn m C) :=
  F.ok S (fun vs H Q E h => (spI_len h).trans hps.symm) fun cdv A outer s H vs Q E hr h => ⟨_, hb cdv A outer s H E hr (takes_of rfl rfl rfl rfl), init_up hN h hw⟩
end
end DL
set_option maxHeartbeats 4000000
namespace DL
open PySem PySem.Spec PyProof.Rows L2
/-! ### an exception that is caught and kept -/
/-- at a: an exception of the class cls with the dict d, behind its catch -/
def ExV (a : Addr) (cls : Value) (d : Option Addr) : HO := .ext fun h => ∃ (oe : Obj) (vs : Array Value), h.get? a = some oe ∧ Zc cls d oe ∧ oe.data = .fields vs
theorem exV_ok {P : Program} {w : World} {H : Hp} {h : Heap} {a : Addr} {cls : Value} {d : Option Addr} {oe : Obj} {vs : Array Value} (e : h.get? a = some oe) (z : Zc cls d oe) (hd : oe.data = .fields vs) : ObjOk P w H h a (ExV a cls d) :=
  ⟨⟨oe, vs, e, z, hd⟩, ⟨oe, e⟩, fun _ _ ⟨o, v, q, r⟩ k => ⟨o, v, k o q, r⟩⟩
section
variable {X : Cx} {pins : List (Addr × Obj)} {σ : L2.St} {H : Hp} {s : Shared}
/-- an object that came up in this call is tracked from now on -/
theorem track {a : Addr} {o : HO} {oe : Obj} {vs : Array Value} (I : Inv X pins σ H s) (n0 : X.s_0.heap.get? a = none) (na : H a = none) (nL : a ≠ X.env.locals) (nP : ∀ p, p ∈ X.pn ++ pins → p.1 ≠ a) (he : s.heap.get? a = some oe) (hd : oe.data = .fields vs)
    (new : ObjOk X.prog X.w (upd H a o) s.heap a o) : Inv X pins σ (upd H a o) s := by
  have ne0 : ∀ b u, X.s_0.heap.get? b = some u → b ≠ a := fun b u e z => by
    rw [z, n0] at e
    cases e
  have cne : ∀ x c, X.env.cells.lookup x = some c → c ≠ a := fun x c e z => by
    obtain ⟨v, ob, ho, hc⟩ := I.cell x c e
    rw [z, he] at ho
    cases ho
    rw [hd] at hc
    cases hc
  have neH : ∀ b u, H b = some u → b ≠ a := fun b u e z => by
    rw [z, na] at e
    cases e
  refine ⟨I.ok, I.os, I.bare, ⟨I.base.keep, I.base.slot, fun b u e n hx => ?_, I.base.there, fun b xs e => ?_, fun b u v e => ?_, fun b ps e => ?_⟩, I.loc, I.cell, ?_, fun x c e => ?_, fun p hp => ?_, L2.HOk.laidN I.hok (fun _ _ e => e) na new, I.len⟩
  · rw [upd_ne (ne0 b u e)]
    exact I.base.free b u e n hx
  · have q := I.base.tups b xs e
    rw [upd_ne (neH b _ q)]
    exact q
  · have q := I.base.frzs b u v e
    rw [upd_ne (neH b _ q)]
    exact q
  · obtain ⟨m, q⟩ := I.base.tbls b ps e
    exact ⟨m, by rw [upd_ne (neH b _ q)]; exact q⟩
  · rw [upd_ne (Ne.symm nL)]
    exact I.free
  · rw [upd_ne (cne x c e)]
    exact I.freeC x c e
  · obtain ⟨q1, q2, q3, q4, q5⟩ := I.pin p hp
    exact ⟨q1, by rw [upd_ne (nP p hp)]; exact q2, q3, q4, q5⟩
theorem toSuite {a : Addr} (I : Inv X pins σ H s) : Inv (X.suite a (X.pn ++ pins)) [] σ H s :=
  ⟨I.ok.suite _ _, I.os, I.bare, I.base, I.loc, I.cell, I.free, I.freeC, fun p hp => I.pin p (by rw [List.append_nil] at hp; exact hp), I.hok, I.len⟩
theorem ofSuite {a : Addr} {pn' : List (Addr × Obj)} (I : Inv (X.suite a (X.pn ++ pins)) pn' σ H s) (ok : X.Ok) : Inv X pins σ H s :=
  ⟨ok, I.os, I.bare, I.base, I.loc, I.cell, I.free, I.freeC, fun p hp => I.pin p (List.mem_append_left _ hp), I.hok, I.len⟩
end
/-- the wish of 'except (A, B, C) as n': every exception of the body is one of these -/
def wAs3 (K : PySem.W.Frag) (cs : List Value) (i : Nat) (ts : TS) (D : Ends) : WX := fun cls d σ H =>
  PySem.W.exmAny K cls cs = some true ∧ ∀ a, H a = none → ts { nx := fun σ' H' => D.nx (σ'.set i none) H', rt := D.rt, bk := fun σ' H' => D.bk (σ'.set i none) H', ct := fun σ' H' => D.ct (σ'.set i none) H' } (σ.set i (some (.ref a))) (upd H a (ExV a cls d))
section
variable {X : Cx}
theorem ps_try3 {x1 x2 x3 n : Str} {c1 c2 c3 : Addr} {i : Nat} {body suite : List Stmt} {b0 : Stmt} {p1 p2 p3 pt pos pos' : Pos} {kt} {tb : WX → TS} {ts : TS} (hs : X.stack = X.env :: X.outer) (hf : X.env.frame = some X.env.locals) (hex : X.ex = []) (hN : X.N.Nodup) (hi : X.N[i]? = some n) (hln : X.env.kindOf n = some .local)
    (g1 : Gl X x1) (m1 : X.mg x1 = some (.ref c1)) (g2 : Gl X x2) (m2 : X.mg x2 = some (.ref c2)) (g3 : Gl X x3) (m3 : X.mg x3 = some (.ref c3))
    (hb : ∀ (W : WX) (pn : List (Addr × Obj)) (xe : Value → Shared → Prop), Takes (X.tr pn xe) W → PassesOwn (model X.prog X.w) X.A X.env xe → PSs (X.tr pn xe) body (tb W))
    (hsu : ∀ (a : Addr) (pn : List (Addr × Obj)), PSs (X.suite a pn) (b0 :: suite) ts)
    (d1 : (x1 == ("__debug__" : Str)) = false := by decide) (d2 : (x2 == ("__debug__" : Str)) = false := by decide) (d3 : (x3 == ("__debug__" : Str)) = false := by decide) :
    PS X (.Try body [.ExceptHandler (some (.Tuple [.Name x1 p1, .Name x2 p2, .Name x3 p3] kt pt)) (some n) (b0 :: suite) pos'] [] [] pos) (fun D σ H => tb (wAs3 X.K [.ref c1, .ref c2, .ref c3] i ts D) D σ H) := by
  constructor
  intro pins s σ H D I h
  have ok := I.ok
  have hfr : X.A.frames = some (X.env :: X.outer) := by
    rw [ok.frames, hs]
  have hloc : Loc X.env.scope n := Or.inl hln
  apply wpAny_Try_except
  let xe0 : Value → Shared → Prop := fun e s1 => wpAny (model X.prog X.w) X.A (noteFrame e X.env) (fun _ s2 => wpAny (model X.prog X.w) X.A (setFlight e none) (fun _ s3 =>
    wpAny (model X.prog X.w) X.A (handleBy e X.env [.ExceptHandler (some (.Tuple [.Name x1 p1, .Name x2 p2, .Name x3 p3] kt pt)) (some n) (b0 :: suite) pos']) (SP X pins D) X.xe s3) X.xe s2) X.xe s1
  have take : Takes (X.tr (X.pn ++ pins) xe0) (wAs3 X.K [.ref c1, .ref c2, .ref c3] i ts D) := by
    rintro u s' ⟨a, B, sI, pins', σ', H', cls, d, rfl, J', nb, up, sky, na, os, ag, hm, hyes⟩
    have J : Inv X pins σ' H' sI := J'.ofTry ok
    have sky' : Sky B (X.env :: X.outer) a (Zc cls d) X.env.locals s'.heap := by
      rw [← hs]
      exact sky
    show wpAny (model X.prog X.w) X.A (noteFrame (.ref a) X.env) _ _ _
    apply Sky.land Zc.steady hfr hf sky'
    intro h3 fl3 up3
    have J3 : Inv X pins σ' H' { s' with heap := h3 } := J.landed nb fl3.1 (up.trans up3) os ag
    obtain ⟨oe3, vs3, he3, hz3, hd3⟩ := fl3.there
    have nfr : a ∉ frs (X.env :: X.outer) := fun hm' => by
      obtain ⟨_, o', e', hnf⟩ := fl3.2.2.1.mem hm'
      rw [he3] at e'
      cases e'
      exact hnf _ hd3
    have nL : a ≠ X.env.locals := fun z => nfr (List.mem_filterMap.mpr ⟨X.env, List.mem_cons_self, by rw [hf, z]⟩)
    -- a is new
    have nI : sI.heap.get? a = none := by
      match q : sI.heap.get? a with
      | none => rfl
      | some o =>
        have := nb a o q (by rw [hs]; exact nfr)
        rw [fl3.2.1] at this
        cases this
    have n0 : X.s_0.heap.get? a = none := by
      match q : X.s_0.heap.get? a with
      | none => rfl
      | some o =>
        obtain ⟨o', q'⟩ := J.base.there a o q (by rw [hex]; exact fun z => nomatch z)
        rw [nI] at q'
        cases q'
    have nP : ∀ p, p ∈ X.pn ++ pins → p.1 ≠ a := fun p hp z => by
      have q := (J.pin p hp).1
      rw [z, nI] at q
      cases q
    have S3 : Inv (X.suite a (X.pn ++ pins)) [] σ' H' { s' with heap := h3 } := toSuite J3
    apply wpAny_handleBy_cons (codeAny_handlers_test ?_) (by intro q; cases q)
    apply wpAny_Tuple_spliced
    show wpAny _ _ (spliced ((false, eval (.Name x1 p1) X.env) :: backTo pt (starEach [.Name x2 p2, .Name x3 p3] X.env))) _ _ _
    refine Calls.spliced_cons (ld_glob (X := X.suite a (X.pn ++ pins)) S3 g1 m1 ?_ d1)
    show wpAny _ _ (spliced ((false, eval (.Name x2 p2) X.env) :: backTo pt (starEach [.Name x3 p3] X.env))) _ _ _
    refine Calls.spliced_cons (ld_glob (X := X.suite a (X.pn ++ pins)) S3 g2 m2 ?_ d2)
    show wpAny _ _ (spliced ((false, eval (.Name x3 p3) X.env) :: backTo pt (starEach [] X.env))) _ _ _
    refine Calls.spliced_cons (ld_glob (X := X.suite a (X.pn ++ pins)) S3 g3 m3 ?_ d3)
    refine Calls.spliced_nil ⟨by show 3 ≤ sizeLine; decide, ?_⟩
    -- the tuple of the classes is new
    have kp : ∀ b o, h3.get? b = some o → (h3.push { cls := .type "tuple", data := .seq [Value.ref c1, .ref c2, .ref c3].toArray }).get? b = some o := fun b o e => Heap.get?_push_of_some _ e
    have tp : (h3.push { cls := .type "tuple", data := .seq [Value.ref c1, .ref c2, .ref c3].toArray }).get? h3.objs.size = some { cls := .type "tuple", data := .seq [Value.ref c1, .ref c2, .ref c3].toArray } := Heap.get?_push_size _ rfl
    show wpAny _ _ (excMatches (.ref a) (.ref h3.objs.size)) _ _ { s' with heap := h3.push { cls := .type "tuple", data := .seq [Value.ref c1, .ref c2, .ref c3].toArray } }
    generalize h3.push { cls := .type "tuple", data := .seq [Value.ref c1, .ref c2, .ref c3].toArray } = h5 at kp tp
    have fl5 : HandSPX.FlyingZ B (X.env :: X.outer) a (Zc cls d) h5 := by
      obtain ⟨k1, k2, k3, oe, vs, T, oT, ts', e1, e2, e3, e4, e5, e6, e7, e8, e9⟩ := fl3
      exact ⟨fun b o e => kp b o (k1 b o e), k2, Heap.FunFrames.of_keeps (fun b o e _ => ⟨o, kp b o e, rfl⟩) k3, oe, vs, T, oT, ts', kp _ _ e1, e2, e3, e4, e5, e6, kp _ _ e7, e8, e9⟩
    have up5 : h3.UpToSlots h5 := Heap.UpToSlots.of_keeps kp
    have J5 : Inv X pins σ' H' { s' with heap := h5 } := J.landed nb fl5.1 ((up.trans up3).trans up5) os ag
    have LT : PySem.W.Looks (model X.prog X.w) h5 (typeOf (.ref a)) cls := fun A Q E s k q => wpAny_typeOf_ref (k _ _ (kp _ _ he3)) (by rw [hz3.1]; exact q)
    have LM := PySem.W.exm_tup3 (M := model X.prog X.w) J5.kIn LT tp hm
    refine LM.here ?_
    apply codeAny_handlers_suite_as
    apply HandSPX.lands_againZ fl5
    intro h4 fl4 up4
    have J4 : Inv X pins σ' H' { s' with heap := h4 } := J.landed nb fl4.1 (((up.trans up3).trans up5).trans up4) os ag
    obtain ⟨oe4, vs4, he4, hz4, hd4⟩ := fl4.there
    have J6 : Inv X pins σ' (upd H' a (ExV a cls d)) { s' with heap := h4 } := track J4 n0 na nL nP he4 hd4 (exV_ok he4 hz4 hd4)
    have S4 : Inv (X.suite a (X.pn ++ pins)) [] σ' (upd H' a (ExV a cls d)) { s' with heap := h4 } := toSuite J6
    refine store_ok (X := X.suite a (X.pn ++ pins)) (v := .ref a) S4 hN hi hloc rfl (fun s5 S5 => ?_) (.inr hln)
    refine wpAny_mono ((hsu a (X.pn ++ pins)).run [] s5 _ _ _ S5 (hyes a na)) (fun f s6 hsp => ?_) (fun _ _ z => False.elim z)
    have fin : ∀ {σ6 : L2.St} {H6 : Hp} {Q : Shared → Prop}, Inv (X.suite a (X.pn ++ pins)) [] σ6 H6 s6 → (∀ s7, Inv X pins (σ6.set i none) H6 s7 → Q s7) →
        wpAny (model X.prog X.w) X.A (do bindName X.env n .none; unbindBehindTheSuite X.env n pos') (fun _ s7 => Q s7) X.xe s6 := fun {σ6 H6 Q} S6 hq => gone_ok (ofSuite S6 ok) hN hi hln hq
    match f, hsp with
    | .next, ⟨σ6, H6, S6, q6⟩ => exact fin S6 fun s7 J7 => ⟨_, _, J7, q6⟩
    | .brk, ⟨σ6, H6, S6, q6⟩ => exact fin S6 fun s7 J7 => ⟨_, _, J7, q6⟩
    | .cont, ⟨σ6, H6, S6, q6⟩ => exact fin S6 fun s7 J7 => ⟨_, _, J7, q6⟩
    | .ret u, ⟨v6, σ6, H6, S6, r6, q6⟩ => exact fin S6 fun s7 J7 => ⟨_, _, _, J7, r6, q6⟩
  apply wpAny_mono ((hb _ _ _ take PassesOwn.looking).run [] s σ H D (I.toTry _) h)
  · intro f s1 hsp
    match f, hsp with
    | .next, ⟨σ', H', J', q⟩ => exact wpAny_execs_nil ⟨σ', H', J'.ofTry ok, q⟩
    | .brk, ⟨σ', H', J', q⟩ => exact ⟨σ', H', J'.ofTry ok, q⟩
    | .cont, ⟨σ', H', J', q⟩ => exact ⟨σ', H', J'.ofTry ok, q⟩
    | .ret u, ⟨v, σ', H', J', r, q⟩ => exact ⟨v, σ', H', J'.ofTry ok, r, q⟩
  · intro e s1 he
    exact he
end
end DL
set_option maxHeartbeats 4000000
namespace DL
open PySem PySem.Spec PyProof.Rows L2
/-! ### a kept exception is asked -/
/-- what the text says of an exception class that is asked -/
structure ExQ (K : PySem.W.Frag) (C : Addr) : Prop where
  cl : (PySem.W.clsIn K C).isSome = true
  ga : PySem.W.findIn K (.ref C) "__getattribute__" = some (some (.builtin "BaseException.__getattribute__"))
  gt : PySem.W.findIn K (.ref C) "__getattr__" = some none
  sb : PySem.W.subIn K (.ref C) (.type "BaseException") = some true
  hd : PySem.W.hasDictIn K C = true
  ha : PySem.W.findIn K (.ref C) "__class__" = some (some (.builtin "object.__class__"))
  hn : PySem.W.specialIn K (.builtin "object.__class__") "__get__" = some (some (.builtin "getset_descriptor.__get__"))
  ht : PySem.W.takesIn K (.builtin "object.__class__") = some true
  hm : PySem.W.mroIn K C (.type "object") = some true
/-- v is None, or a kept exception of the class D with the fields fs -/
def KeptV (H : Hp) (v : V) (D : Addr) (fs : List (Str × V)) : Prop := ∃ a dd, v = .ref a ∧ H a = some (ExV a (.ref D) (some dd)) ∧ H dd = some (.xd fs)
section
variable {X : Cx} {pins : List (Addr × Obj)} {σ : L2.St} {H : Hp} {s : Shared}
theorem kept_at {a dd D : Addr} {fs : List (Str × V)} (I : Inv X pins σ H s) (h1 : H a = some (ExV a (.ref D) (some dd))) (h2 : H dd = some (.xd fs)) : ∃ (oe od : Obj) (mA : Str → Option Value), PySem.W.InstAt s.heap a oe D (some od) ∧ (∀ name, PySem.W.lookIn name od = some (mA name)) ∧ ∀ f, RelO (fs.lookup f) (mA f) := by
  obtain ⟨⟨oe, vs, he, hz, hd⟩, _, _⟩ := I.hok a _ h1
  obtain ⟨mA, hns, hr⟩ := (show ObjOk X.prog X.w H s.heap dd (.xd fs) from I.hok dd _ h2)
  obtain ⟨od, ho, hl⟩ := lookIn_ns hns
  refine ⟨oe, od, mA, ⟨he, hz.1, ?_, ?_⟩, hl, hr⟩
  · unfold PySem.W.notCls
    rw [hd]
  · rw [hz.2]
    exact ho
/-- isinstance(v, C), v None or a kept exception -/
def rIsV (K : PySem.W.Frag) (C : Addr) : List V → Hp → VK → Prop := fun xs H Q => ∃ (v : V) (b : Bool), xs = [v, .ref C] ∧ ((v = .non ∧ PySem.W.kitOne K (.type "NoneType") (.ref C) = some b) ∨ ∃ D fs, KeptV H v D fs ∧ ExQ K D ∧ PySem.W.kitOne K (.ref D) (.ref C) = some b) ∧ Q (.bl b) H
theorem call_isV {C : Addr} : CallR X (.builtin "isinstance") (rIsV X.K C) := by
  intro pins s σ H xs us Q I r h
  obtain ⟨v, b, rfl, hv, q⟩ := h
  rcases hv with ⟨rfl, e⟩ | ⟨D, fs, ⟨a, dd, rfl, h1, h2⟩, T, e⟩
  · exact call_isi pins s σ H [.non, .ref C] us Q I r ⟨.non, .ref C, _, _, b, rfl, .own _, .base .non, e, q⟩
  · match us, r with
    | [u0, u1], .cons ra (.cons rb .nil) =>
      obtain rfl : u0 = Value.ref a := ra
      obtain rfl : u1 = Value.ref C := rb
      obtain ⟨oe, od, mA, J, hl, hr⟩ := kept_at I h1 h2
      apply PySem.W.kia_one (PySem.W.kitx_exc T.cl T.ga T.gt T.sb T.ha T.hn T.ht T.hm) I.kIn J e (fun z => nomatch z)
      intro tk
      exact ⟨.bl b, H, I.kept (t' := tk) fun _ _ z => z, rfl, q⟩
/-- v.f, v a kept exception -/
def tKept (K : PySem.W.Frag) (f : Str) (te : TE) : TE := fun σ H Q => te σ H fun v H1 => ∃ D fs y, KeptV H1 v D fs ∧ ExQ K D ∧ PySem.W.findIn K (.ref D) f = some none ∧ fs.lookup f = some y ∧ Q y H1
theorem pe_kept {f : Str} {e : Expr} {te : TE} {pos : Pos} (he : PE X e te) (hb : attributeBase e f X.env (eval e X.env) = eval e X.env := by rfl) : PE X (.Attribute e f pos) (tKept X.K f te) := by
  constructor
  intro pins s σ H Q I h
  apply attr_of hb
  apply thn (he.run pins s σ H _ I h)
  rintro u s1 ⟨v, H1, I1, rx, D, fs, y, ⟨a, dd, rfl, h1, h2⟩, T, hno, hl, q⟩
  obtain rfl : u = Value.ref a := rx
  obtain ⟨oe, od, mA, J, lk, hr⟩ := kept_at I1 h1 h2
  obtain ⟨w, hw, rw'⟩ := RelO.some_of (v := y) (o := mA f) (by rw [← hl]; exact hr f)
  exact HandSPX.exc_get I1.kIn J T.ga T.gt T.sb (PySem.W.findObj_own T.hd hno rfl (by rw [lk, hw])) (handed_of rw') ⟨y, H1, I1.tok _, rw', q⟩
end
end DL
set_option maxHeartbeats 4000000
namespace DL
open PySem PySem.Spec PyProof.Rows L2
/-! ### the law's 'said': a lambda is called, its exception told -/
theorem takes_len {X : Cx} {W : WX} (tk : Takes X W) : Takes X (fun cls d σ H => σ.length = X.N.length → W cls d σ H) := by
  rintro u s' ⟨a, B, sI, pins, σ, H, cls, d, e, I, nb, up, sky, na, os, ag, w⟩
  exact tk u s' ⟨a, B, sI, pins, σ, H, cls, d, e, I, nb, up, sky, na, os, ag, w I.len⟩
/-- if isinstance(caught, C): return [z, caught.given] -/
def tCase (K : PySem.W.Frag) (C : Addr) (z : Str) (rest : TS) : TS := tSeq (tIfS (L2.tB (tCB (rIsV K C) (tCons (tVar 1) (tCons (tC (.ref C)) tNil)))) (tRet (tLst (tCons (tC (.str z)) (tCons (tKept K "given" (tVar 1)) tNil)))) tNext) rest
def tChain (K : PySem.W.Frag) (fin : TS) : List (Addr × Str) → TS
  | [] => fin
  | (C, z) :: r => tCase K C z (tChain K fin r)
/-- which of the cases an exception of the class D meets -/
inductive Hits (K : PySem.W.Frag) (D : Addr) : List (Addr × Str) → Str → Prop
  | hit {C : Addr} {z : Str} {r : List (Addr × Str)} (h : PySem.W.kitOne K (.ref D) (.ref C) = some true) : Hits K D ((C, z) :: r) z
  | miss {C : Addr} {z z' : Str} {r : List (Addr × Str)} (h : PySem.W.kitOne K (.ref D) (.ref C) = some false) (t : Hits K D r z) : Hits K D ((C, z') :: r) z
theorem chain_non {K : PySem.W.Frag} {fin : TS} {D : Ends} {σ : L2.St} {H : Hp} (h1 : σ[1]? = some (some .non)) (h : fin D σ H) : ∀ l : List (Addr × Str), (∀ p, p ∈ l → PySem.W.kitOne K (.type "NoneType") (.ref p.1) = some false) → tChain K fin l D σ H
  | [], _ => h
  | (C, z) :: r, hk => by
    refine ⟨.non, h1, .non, false, rfl, .inl ⟨rfl, hk (C, z) (List.mem_cons_self ..)⟩, false, rfl, ?_⟩
    exact chain_non h1 h r fun p hp => hk p (List.mem_cons_of_mem _ hp)
theorem chain_hit {K : PySem.W.Frag} {fin : TS} {D : Ends} {σ : L2.St} {H : Hp} {v y : V} {E : Addr} {fs : List (Str × V)} (h1 : σ[1]? = some (some v)) (hk : KeptV H v E fs) (T : ExQ K E) (hno : PySem.W.findIn K (.ref E) "given" = some none) (hy : fs.lookup ("given" : Str) = some y) :
    ∀ {l : List (Addr × Str)} {z : Str}, Hits K E l z → (∀ p, H p = none → D.rt (.ref p) (upd H p (.lst [.str z, y]))) → tChain K fin l D σ H := fun {l z} hh => by
  induction hh with
  | hit h =>
    intro hq
    refine ⟨v, h1, v, true, rfl, .inr ⟨E, fs, hk, T, h⟩, true, rfl, ?_⟩
    exact ⟨v, h1, E, fs, y, hk, T, hno, hy, by show 2 ≤ sizeLine; decide, hq⟩
  | miss h t ih =>
    intro hq
    exact ⟨v, h1, v, false, rfl, .inr ⟨E, fs, hk, T, h⟩, false, rfl, ih hq⟩
/-- what becomes of the lambda's reading: cs the classes that are caught, l the cases -/
def TTs (K : PySem.W.Frag) (cs : List Value) (l : List (Addr × Str)) (fv : V → Hp → VK → Prop) : (XK → Hp → VK → Prop) → Hp → VK → Prop := fun tl H Q => ∀ t, H t = none → ∀ Q' : VK, (∀ v H', fv v H' Q → Q' v H') →
  tl (fun cls d H' => ∃ E dd fs y z, cls = .ref E ∧ d = some dd ∧ H' dd = some (.xd fs) ∧ fs.lookup ("given" : Str) = some y ∧ ExQ K E ∧ PySem.W.findIn K (.ref E) "given" = some none ∧ PySem.W.exmAny K cls cs = some true ∧ Hits K E l z ∧
    ∀ a p, H' a = none → upd H' a (ExV a cls d) p = none → Q (.ref p) (upd (upd H' a (ExV a cls d)) p (.lst [.str z, y]))) (upd H t (.tup [.non, .non])) Q'
section
variable {X : Cx}
theorem said_gives {Ng : List Str} {x a e q fnd cgt : Str} {sg : Scope} {g : Addr} {cdg : Value} {x1 x2 x3 : Str} {c1 c2 c3 : Addr} {p1 p2 pf pa q1 q2 q3 pt pc pe pb pos' pos : Pos} {kt : Nat} {st0 : Stmt} {rest : List Stmt} {fin : TS} {l : List (Addr × Str)} {fv : V → Hp → VK → Prop}
    (hNd : Ng.Nodup) (hN4 : Ng.length = 4) (n2 : Ng[2]? = some fnd) (n1 : Ng[1]? = some cgt) (n3 : Ng[3]? = some e) (l1 : sg.names.lookup cgt = some .local) (l2 : sg.names.lookup fnd = some .local) (l3 : sg.names.lookup e = some .local)
    (g1 : sg.names.lookup x1 = some .globalImplicit) (m1 : X.mg x1 = some (.ref c1)) (g2 : sg.names.lookup x2 = some .globalImplicit) (m2 : X.mg x2 = some (.ref c2)) (g3 : sg.names.lookup x3 = some .globalImplicit) (m3 : X.mg x3 = some (.ref c3))
    (d1 : (x1 == ("__debug__" : Str)) = false) (d2 : (x2 == ("__debug__" : Str)) = false) (d3 : (x3 == ("__debug__" : Str)) = false)
    (h0 : ∀ (s : Shared) (H : Hp), PS (cxOf C8.CX0 X.prog X.w X.K X.mg X.base Ng x sg g cdg X.A X.stack s H C8.E0).nox st0 (tAsg (tTup (tCons (tC .non) (tCons (tC .non) tNil))) (gTup X.K 2 (gCons (gName 1) (gCons (gName 2) gNil)))))
    (hsu : ∀ (s : Shared) (H : Hp) (ad : Addr) (pn : List (Addr × Obj)), PSs ((cxOf C8.CX0 X.prog X.w X.K X.mg X.base Ng x sg g cdg X.A X.stack s H C8.E0).nox.suite ad pn) [.Assign [.Name cgt pc] (.Name e pe) pb] (tAsg (tVar 3) (gName 1)))
    (hset : ∀ (s : Shared) (H : Hp) (pn : List (Addr × Obj)) (xe : Value → Shared → Prop) (te : TE), PE ((cxOf C8.CX0 X.prog X.w X.K X.mg X.base Ng x sg g cdg X.A X.stack s H C8.E0).tr pn xe) (.Call (.Name a p1) [] [] p2) te → PS ((cxOf C8.CX0 X.prog X.w X.K X.mg X.base Ng x sg g cdg X.A X.stack s H C8.E0).tr pn xe) (.Assign [.Name fnd pf] (.Call (.Name a p1) [] [] p2) pa) (tAsg te (gName 2)))
    (hrest : ∀ (s : Shared) (H : Hp), PSs (cxOf C8.CX0 X.prog X.w X.K X.mg X.base Ng x sg g cdg X.A X.stack s H C8.E0).nox rest (tChain X.K fin l))
    (hk : ∀ p, p ∈ l → PySem.W.kitOne X.K (.type "NoneType") (.ref p.1) = some false)
    (hfin : ∀ (D : Ends) (σ : L2.St) (H : Hp) (v : V), σ[1]? = some (some .non) → σ[2]? = some (some v) → fv v H D.rt → fin D σ H) :
    LamX.GivesTo X Ng x sg g cdg (st0 :: .Try [.Assign [.Name fnd pf] (.Call (.Name a p1) [] [] p2) pa] [.ExceptHandler (some (.Tuple [.Name x1 q1, .Name x2 q2, .Name x3 q3] kt pt)) (some e) [.Assign [.Name cgt pc] (.Name e pe) pb] pos'] [] [] pos :: rest) a q (TTs X.K [.ref c1, .ref c2, .ref c3] l fv) := by
  intro f c' s H Q tl act hc h
  refine ⟨_, pss_cons (h0 s H) (pss_cons (ps_try3 (X := (cxOf C8.CX0 X.prog X.w X.K X.mg X.base Ng x sg g cdg X.A X.stack s H C8.E0).nox) (i := 3) (ts := tAsg (tVar 3) (gName 1))
    (tb := fun W D σ H => σ.length = 4 ∧ ∃ Ech : XK, (∀ cls d σ' H', Ech cls d H' → σ'.length = 4 → W cls d σ' H') ∧ σ[0]? = some (some (.ref f)) ∧ H c' = some (LamX.CodeO c' q) ∧ tl Ech H fun v H1 => D.nx (σ.set 2 (some v)) H1)
    rfl rfl rfl hNd n3 l3 g1 m1 g2 m2 g3 m3 (fun W pn xe tk _ => ?_) (fun ad pn => hsu s H ad pn) d1 d2 d3) (hrest s H)), ?_⟩
  · constructor
    intro pins s' σ H' D I h'
    obtain ⟨_, Ech, hW, h1, h2, h3⟩ := h'
    have hp := act _ pn xe Ech p1 p2 (takes_len tk) (fun cls d σ' H' hE hl => hW cls d σ' H' hE (hl.trans hN4))
    exact (pss_one (hset s H pn xe _ hp)).run pins s' σ H' D I ⟨h1, h2, h3⟩
  · -- the pure part
    have hst : L2.start Ng [V.ref f] = [some (.ref f), none, none, none] := by
      unfold L2.start
      rw [hN4]
      rfl
    rw [hst]
    refine ⟨by show 2 ≤ sizeLine; decide, fun t ht => ⟨t, [.non, .non], rfl, .of upd_same, rfl, .non, [.non], rfl, .non, [], rfl, rfl, ?_⟩⟩
    refine ⟨rfl, fun cls d H' => ∃ E dd fs y z, cls = .ref E ∧ d = some dd ∧ H' dd = some (.xd fs) ∧ fs.lookup ("given" : Str) = some y ∧ ExQ X.K E ∧ PySem.W.findIn X.K (.ref E) "given" = some none ∧ PySem.W.exmAny X.K cls [.ref c1, .ref c2, .ref c3] = some true ∧ Hits X.K E l z ∧
      ∀ a p, H' a = none → upd H' a (ExV a cls d) p = none → Q (.ref p) (upd (upd H' a (ExV a cls d)) p (.lst [.str z, y])), fun cls d σ' H' hE hl => ⟨?_, fun ad had => ?_⟩, rfl, (by rw [upd_ne (ne_of_none hc ht)]; exact hc), ?_⟩
    rotate_left 2
    · refine h t ht _ fun v H1 hv => ?_
      exact chain_non (D := { nx := fun _ H' => Q .non H', rt := Q }) rfl (hfin { nx := fun _ H' => Q .non H', rt := Q } _ H1 v rfl rfl hv) l hk
    · obtain ⟨E, dd, fs, y, z, rfl, rfl, h1, h2, h3, h4, h5, h6, h7⟩ := hE
      exact h5
    · obtain ⟨E, dd, fs, y, z, rfl, rfl, h1, h2, h3, h4, h5, h6, h7⟩ := hE
      -- behind the suite: caught is the exception
      have hlen : (((σ'.set 3 (some (V.ref ad))).set 1 (some (V.ref ad))).set 3 none).length = 4 := by simpa using hl
      refine ⟨.ref ad, by rw [List.getElem?_set_self (by omega)], ?_⟩
      refine chain_hit (v := .ref ad) (E := E) (fs := fs) (y := y) ?_ ⟨ad, dd, rfl, upd_same, ?_⟩ h3 h4 h2 h6 fun p hp => h7 ad p had hp
      · rw [List.getElem?_set_ne (by decide), List.getElem?_set_self (by simp; omega)]
      · rw [upd_ne (ne_of_none h1 had)]
        exact h1
end
end DL
set_option maxHeartbeats 4000000
namespace DL
open PySem PySem.Spec PyProof.Rows L2
/-- said(lambda: e): the value, or what tells the exception -/
def eSaid (tag : Str → Option Str) (w : WE) : WE := fun x η n R => w (fun d n' => ∃ cn v z, d = .ins cn ["given"] [v] ∧ tag cn = some z ∧ R (.lst [.str z, v]) n') η n R
theorem said_up {K : PySem.W.Frag} {E : XK} {tag : Str → Option Str} {cs : List Value} {l : List (Addr × Str)} {w : WE}
    (hD : ∀ cn z, tag cn = some z → ExQ K (He.ga K cn) ∧ PySem.W.findIn K (.ref (He.ga K cn)) "given" = some none ∧ PySem.W.exmAny K (.ref (He.ga K cn)) cs = some true ∧ Hits K (He.ga K cn) l z) :
    ∀ σ H Q, up K E (eSaid tag w) σ H Q → LamX.tLam (TK K) (TTs K cs l fun v H Q => Q v H) (fun E' => up K E' w) σ H Q := fun σ H Q q => by
  obtain ⟨c, η, R, x, rfl, ok, en, hw, hr, hx⟩ := q
  refine ⟨by rw [← en.T]; exact ok.tb, fun H1 eN tb1 t ht Q' hQ' => ?_⟩
  have ok1 : (⟨c.dr, c.F, H1, c.n, c.T⟩ : Cf).Ok := by
    obtain ⟨ca, cells, a, l', u, e1, r1⟩ := ok.dw
    refine ⟨fun a o e => eN a o (ok.sub a o e) (fun ps z => ok.nt a ps (by rw [← z]; exact e)), ok.nf, ⟨ca, cells, a, l', u, eN _ _ e1 (by intro _ z; cases z), r1⟩, by show LamX.Tabs c.T H1; rw [en.T]; exact tb1, ok.nt⟩
  have l1 : Le c ⟨c.dr, c.F, H1, c.n, c.T⟩ := ⟨rfl, fun _ _ h => h, fun a o _ _ hz h => eN a o h hz, fun _ _ _ _ _ h _ => h, fun a o hz h => ⟨o, hz, eN a o h hz⟩, rfl⟩
  obtain ⟨okT, lT⟩ := ok1.newF (o := .tup [.non, .non]) ht
  replace l1 := l1.trans lT
  refine ⟨⟨c.dr, upd c.F t (.tup [.non, .non]), upd H1 t (.tup [.non, .non]), c.n, c.T⟩, η, R, _, rfl, okT, en.le l1, hw, fun d c' v hR ok' l' rp => hQ' _ _ (hr d c' v hR ok' (l1.trans l') rp), fun d c' cls od hd ok' l' xo => ?_⟩
  obtain ⟨cn, v, z, rfl, ht, hR⟩ := hd
  obtain ⟨k, ns, fs, dd, vs, e1, rfl, rfl, hF, hl, rp⟩ := xo
  cases e1
  obtain ⟨h1, h2, h3, h4⟩ := hD _ _ ht
  match vs, hl with
  | [y], _ =>
  refine ⟨_, dd, [(("given" : Str), y)], y, z, rfl, rfl, ok'.sub _ _ hF, by simp [List.lookup], h1, h2, h3, h4, fun a p ha hp => ?_⟩
  obtain ⟨okA, lA, _, _⟩ := ok'.newH (o := ExV a (.ref (He.ga K cn)) (some dd)) ha
  obtain ⟨okB, lB⟩ := okA.newF (o := .lst [.str z, y]) hp
  cases rp with
  | cons ry rn =>
    exact hr (.lst [.str z, v]) ⟨c'.dr, upd c'.F p (.lst [.str z, y]), upd (upd c'.H a (ExV a (.ref (He.ga K cn)) (some dd))) p (.lst [.str z, y]), c'.n, c'.T⟩ (.ref p) hR okB (((l1.trans l').trans lA).trans lB) (.lst upd_same (.cons (.str z) (.cons ((lA.trans lB).rp ry) .nil)))
end DL
set_option maxHeartbeats 4000000
namespace DL
open PySem PySem.Spec PyProof.Rows L2
/-- the law's def from the row's head, with tables of code objects -/
theorem law_callGT {P : Program} {w : World} {K : PySem.W.Frag} {mg mb : Str → Option Value} {k : Nat} {fa a : Addr} {cs : List (Addr × Addr)} {fd : FuncData} {x : Str} {sp : Sp} {s1 : Shared} {vs : List Value} {ns : List Int}
    (KX : K.In s1.heap) (hn : s1.heap.Ns mainGlobals mg) (hb : s1.heap.Ns builtinsNs mb) (hbb : ∀ x : Str, x ≠ "__name__" → mb x = bootBuiltins x) (hlim : s1.heap.NoLimit) (hg : s1.gens = #[])
    (hT : ∀ p, p ∈ cs → s1.heap.get? p.2 = some { cls := .none, data := .fields #[] }) (nT : ∀ p, p ∈ cs → K.lookup p.2 = none) (hC : ∀ p, p ∈ cs → PySem.W.CodeHd s1.heap p.1 p.2)
    (hbm : ∃ (bm : Addr) (ob : Obj), mg "__builtins__" = some (.ref bm) ∧ bm ≠ builtinsNs ∧ s1.heap.get? bm = some ob ∧ ob.cls = .type "module" ∧ ob.dict = some builtinsNs ∧ ob.data = .plain)
    (ha : s1.heap.get? a = some { cls := .type "list", data := .seq vs.toArray }) (hi : IntsAre vs ns) (hl : ns.length ≤ sizeLine) (hr : Room k callerA)
    (F : ∀ base : Heap, K.In base → base.Ns mainGlobals mg → (∀ p, p ∈ cs → LamX.TabB base mg p.1 p.2) → FnOkG P w K mg base CX0 k fa fd [x] sp) (bt : ∀ (s : Shared) (u : Value), BindsTo s fd ⟨[u], []⟩ [(x, u)])
    (hs : ∀ H : Hp, (∀ p, p ∈ cs → H p.2 = some (.tbl #[])) → SqL K H a (ns.map V.int) → sp [.ref a] H (fun v _ => v = .bl true) fun _ _ _ => False) :
    codeAny (model P w) callerA (.call (.ref fa) ⟨[.ref a], []⟩) (fun r s' => r = .ok (.ret (.bool true)) ∧ OldK s1.heap s'.heap ∧ s'.os = s1.os ∧ AllBare s'.gens) s1 := by
  have rv := vals_ints hi
  have lv := hi.length
  have tabAt : ∀ b, b ∈ cs.map (·.2) → s1.heap.get? b = some { cls := .none, data := .fields #[] } := by
    intro b z
    obtain ⟨p, hp, rfl⟩ := List.mem_map.1 z
    exact hT p hp
  have aNot : a ∉ cs.map (·.2) := by
    intro z
    have e := tabAt a z
    rw [ha] at e
    cases (congrArg Obj.data (Option.some.inj e) : Data.seq vs.toArray _ = Data.fields #[])
  have core : ∀ H : Hp, (∀ p, p ∈ cs → H p.2 = some (.tbl #[])) → (∀ b u, H b = some u → (b = a ∧ K.lookup a = none ∧ ∃ o xs, u = .frz o (.lst xs)) ∨ (b ∈ cs.map (·.2) ∧ u = .tbl #[])) → SqL K H a (ns.map V.int) → HOk P w H s1.heap →
      codeAny (model P w) callerA (.call (.ref fa) ⟨[.ref a], []⟩) (fun r s' => r = .ok (.ret (.bool true)) ∧ OldK s1.heap s'.heap ∧ s'.os = s1.os ∧ AllBare s'.gens) s1 := by
    intro H hH one hS hok
    have free : ∀ {b : Addr} {o : Obj}, s1.heap.get? b = some o → (∀ v n, o.data ≠ .seq v n) → o.data ≠ .fields #[] → H b = none := by
      intro b o e q1 q2
      match q : H b with
      | none => rfl
      | some u =>
        rcases one b u q with ⟨rfl, _, _⟩ | ⟨z, _⟩
        · rw [ha] at e
          cases e
          exact (q1 _ _ rfl).elim
        · rw [tabAt b z] at e
          cases e
          exact (q2 rfl).elim
    have nsB : ∀ {b : Addr} {m : Str → Option Value}, s1.heap.Ns b m → (hidT s1.heap H).Ns b m := by
      rintro b m ⟨o, es, ep, e, d, r⟩
      refine ⟨o, es, ep, hidT_get e (free e (fun v n z => ?_) fun z => ?_), d, r⟩ <;> rw [d] at z <;> cases z
    have kB : K.In (hidT s1.heap H) := by
      intro b o e
      apply hidT_get (KX b o e)
      match q : H b with
      | none => rfl
      | some u =>
        rcases one b u q with ⟨rfl, z, _⟩ | ⟨z, _⟩
        · rw [z] at e
          cases e
        · obtain ⟨p, hp, rfl⟩ := List.mem_map.1 z
          rw [nT p hp] at e
          cases e
    have md : Mod K mg (hidT s1.heap H) := by
      obtain ⟨mc, c1, c2⟩ := hlim
      exact ⟨kB, nsB hn, ⟨mb, nsB hb, hbb⟩, ⟨mc, nsB c1, c2⟩⟩
    have TB : ∀ p, p ∈ cs → LamX.TabB (hidT s1.heap H) mg p.1 p.2 := by
      intro p hp
      constructor
      · obtain ⟨o, us, file, tf, flags, tg, inF, text, tt, e1, r1, r2, r3, r4⟩ := hC p hp
        refine ⟨o, us, file, tf, flags, tg, inF, text, tt, hidT_get e1 (free e1 (fun v n z => ?_) fun z => ?_), r1, r2, r3, r4⟩
        · rw [r2] at z
          cases z
        · rw [r2] at z
          cases z
          simp at r3
      · obtain ⟨bm, ob, b1, b2, b3, b4, b5, b6⟩ := hbm
        refine ⟨bm, ob, b1, b2, fun q => ?_, fun q => ?_, hidT_get b3 (free b3 (fun v n z => ?_) fun z => ?_), b4, b5, b6⟩
        · obtain ⟨o, es, ep, e, hd, _⟩ := hn
          rw [q, e] at b3
          cases b3
          rw [hd] at b6
          cases b6
        · rw [q, hT p hp] at b3
          cases b3
          cases b6
        · rw [b6] at z
          cases z
        · rw [b6] at z
          cases z
      · intro z
        obtain ⟨o, es, ep, e, hd, _⟩ := hn
        rw [z, hT p hp] at e
        cases e
        cases hd
    have e0 : Env0 P w K mg (hidT s1.heap H) callerA [] s1 H := by
      refine ⟨rfl, md, fun b o e => of_hidT e, Nat.le_of_eq (hidT_size _ _), trivial, fun b hb => ?_, hok, .of_eq hg⟩
      cases (hb : b ∈ ([] : List Addr))
    have go := (F _ kB (nsB hn) TB).run callerA [] s1 H ⟨[.ref a], []⟩ [.ref a] [.ref a] (fun v _ => v = .bl true) (fun _ _ _ => False) rfl hr e0 (bt s1 (.ref a)) (.cons rfl .nil) (hs H hH hS)
    apply codeAny_mono go
    intro r s' z
    match r, z with
    | .error e, z => exact (z : False).elim
    | .ok .next, z => exact (z : False).elim
    | .ok .brk, z => exact (z : False).elim
    | .ok .cont, z => exact (z : False).elim
    | .ok (.ret u), ⟨v, H', os, ba, un, hok', r', q⟩ =>
      obtain rfl : v = .bl true := q
      obtain rfl : u = Value.bool true := r'
      have key : ∀ b o, b ∉ cs.map (·.2) → s1.heap.get? b = some o → s'.heap.get? b = some o := by
        intro b o nb e
        match qb : H b with
        | none => exact un.keep b o e qb (fun z => nomatch (show b ∈ ([] : List Addr) from z)) (by simp)
        | some u =>
          rcases one b u qb with ⟨_, _, ob, xs, rfl⟩ | ⟨z, _⟩
          · have e1 := (hok b _ qb).1
            have e2 := (hok' b _ (un.frzs b ob _ qb)).1
            rw [e] at e1
            cases e1
            exact e2
          · exact absurd z nb
      have grown : ∀ p, p ∈ cs → ∃ more : Array Value, s'.heap.get? p.2 = some { cls := .none, data := .fields more } := by
        intro p hp
        obtain ⟨more, z⟩ := un.tbls p.2 #[] (hH p hp)
        exact ⟨_, hok' p.2 _ z⟩
      refine ⟨rfl, ⟨fun b o e => ?_, fun b o e => ?_⟩, os, ba⟩
      · by_cases z : b ∈ cs.map (·.2)
        · obtain ⟨p, hp, rfl⟩ := List.mem_map.1 z
          obtain ⟨more, hm⟩ := grown p hp
          rw [hT p hp] at e
          cases e
          exact .inr (.inl ⟨((hC p hp).tab (hT p hp)).isCodeTable, rfl, #[], more, rfl, by rw [Array.empty_append]; exact hm⟩)
        · exact .inl (key b o z e)
      · by_cases z : b ∈ cs.map (·.2)
        · obtain ⟨p, hp, rfl⟩ := List.mem_map.1 z
          obtain ⟨more, hm⟩ := grown p hp
          exact ⟨_, hm⟩
        · exact ⟨o, key b o z e⟩
  let Hs : Hp := fun b => if b ∈ cs.map (·.2) then some (.tbl #[]) else if b = a ∧ K.lookup a = none then some (.frz { cls := .type "list", data := .seq vs.toArray } (.lst (ns.map V.int))) else none
  have hA : ∀ b u, Hs b = some u → (b ∈ cs.map (·.2) ∧ u = .tbl #[]) ∨ (b = a ∧ K.lookup a = none ∧ u = .frz { cls := .type "list", data := .seq vs.toArray } (.lst (ns.map V.int))) := by
    intro b u z
    by_cases z1 : b ∈ cs.map (·.2)
    · rw [show Hs b = some (.tbl #[]) from if_pos z1] at z
      exact .inl ⟨z1, (Option.some.inj z).symm⟩
    · have e1 : Hs b = if b = a ∧ K.lookup a = none then some (.frz { cls := .type "list", data := .seq vs.toArray } (.lst (ns.map V.int))) else none := if_neg z1
      rw [e1] at z
      by_cases z2 : b = a ∧ K.lookup a = none
      · rw [if_pos z2] at z
        exact .inr ⟨z2.1, z2.2, (Option.some.inj z).symm⟩
      · rw [if_neg z2] at z
        cases z
  apply core Hs
  · intro p hp
    exact if_pos (List.mem_map.2 ⟨p, hp, rfl⟩)
  · intro b u z
    rcases hA b u z with ⟨z1, z2⟩ | ⟨z1, z2, z3⟩
    · exact .inr ⟨z1, z2⟩
    · exact .inl ⟨z1, z2, _, _, z3⟩
  · match hk : K.lookup a with
    | some o =>
      have e := KX a o hk
      rw [ha] at e
      cases e
      exact .inr ⟨_, vs.toArray, _, hk, rfl, rfl, rfl, by rw [List.size_toArray, lv]; exact hl, by simpa using rv⟩
    | none => exact .inl (.inr ⟨_, (if_neg aNot).trans (if_pos ⟨rfl, hk⟩)⟩)
  · intro b u z
    rcases hA b u z with ⟨z1, rfl⟩ | ⟨rfl, _, rfl⟩
    · exact tabAt b z1
    · exact ⟨ha, by rw [List.length_map]; exact hl, vs, _, rv, ha⟩
theorem walk_ofGT {l : PySem.W.OpenLaw} {n k : Nat} {q : Program} {loose : List Str} {XP : (Str → Option Value) → Heap → Prop} {YP : World → Heap → Prop} {d : DefRec} {x : Str}
    (hn : l.most = some n) (hn2 : n ≤ sizeLine) (hdf : d.params.defaults = []) (hr : Room k callerA)
    (F : ∀ (w : World) (mg : Str → Option Value) (fa : Addr) (h : Heap), YP w h → h.Ns mainGlobals mg → mg d.name = some (.ref fa) →
      ∃ (K : PySem.W.Frag) (fd : FuncData) (cs : List (Addr × Addr)) (sp : Sp), K.In h ∧ (∀ p, p ∈ cs → h.get? p.2 = some { cls := .none, data := .fields #[] }) ∧ (∀ p, p ∈ cs → K.lookup p.2 = none) ∧ (∀ p, p ∈ cs → PySem.W.CodeHd h p.1 p.2) ∧
        (∀ (s : Shared) (u : Value), BindsTo s fd ⟨[u], []⟩ [(x, u)]) ∧
        (∀ (H : Hp) (a : Addr) (ns : List Int), ns.length ≤ n → (∀ p, p ∈ cs → H p.2 = some (.tbl #[])) → SqL K H a (ns.map V.int) → sp [.ref a] H (fun v _ => v = .bl true) fun _ _ _ => False) ∧
        ∀ base : Heap, K.In base → base.Ns mainGlobals mg → (∀ p, p ∈ cs → LamX.TabB base mg p.1 p.2) → FnOkG l.prog w K mg base CX0 k fa fd [x] sp) :
    PySem.W.WalkO q loose XP YP l.row.toRowW d [] (fun f vs => PySem.call f vs) := by
  apply Att.attach_call hn hdf
  intro w s0 s1 mg mb fa o pm cd doc a vs ns G Y ho hd hcd hmg hobj hints hlen hg
  obtain ⟨K, fd, cs, sp, KX, hT, nT, hC, bt, hsp, hF⟩ := F w mg fa _ Y G.T.g hmg
  exact law_callGT KX G.T.g G.T.b G.T.builtins G.T.nolimit hg hT nT hC G.T.bmain hobj hints (Nat.le_trans hlen hn2) hr hF bt fun H hH hS => hsp H a ns hlen hH hS
end DL
set_option maxHeartbeats 4000000
namespace DL
open PySem PySem.Spec PyProof.Rows L2
/-- as okG, and the def's code object is known (for the lambdas that it makes) -/
theorem okC {P : Program} {w : World} {K : PySem.W.Frag} {mg : Str → Option Value} {base : Heap} {x qual : Str} {params : Arguments} {body : List Stmt} {scope : Scope} {dvs : List V} {kws : List (Str × V)} {pp : Str × Option Str} {fd : FuncData} {CX : CXT} {N ps : List Str} {k : Nat} {sp : Sp}
    (F : FunD K x qual params body scope dvs kws (He.fAd K pp) fd) (S : FnScope N ps scope) (len : ∀ vs H Q E, sp vs H Q E → vs.length = ps.length)
    (hb : ∀ (A : Around) (st : List Env) (s : Shared) (H : Hp) (vs : List V) (Q : VK) (E : XK), A.guards = some [] → Room k (A.deeper (envOfC qual scope s.heap.objs.size (He.fAd K pp) (.ref (He.codeOf K pp)))) → sp vs H Q E →
      ∃ t, PSs (cxOf CX P w K mg base N qual scope (He.fAd K pp) (.ref (He.codeOf K pp)) A st s H E) body t ∧ t { nx := fun _ H' => Q .non H', rt := Q } (start N vs) H) : FnOkG P w K mg base CX (k + 1) (He.fAd K pp) fd ps sp := by
  obtain ⟨oc, od, dV, kV, doc, pm, an, cdv, ct, osl, rfl, lk, hcd, _, _⟩ := F.ex
  obtain ⟨c, rfl⟩ := He.codeIn_ref hcd
  have ec : He.codeOf K pp = c := He.codeOf_eq lk rfl
  rw [ec] at hb
  constructor
  · exact len
  intro A st s H ar us vs Q E hgu hr e0 bt rv hs
  have old : ∀ b o, base.get? b = some o → s.heap.get? b = some o := fun b o e => (e0.bs b o e).1
  have kin : K.In s.heap := e0.mod.kin.keeps old
  have nol : s.heap.NoLimit := e0.mod.nolimit.keeps old
  have nms : ∀ y ∈ ps.zip us, scope.names.lookup y.1 = some .local ∨ (scope.names.lookup y.1 = some .cell ∧ ((cellsFrom (s.heap.objs.size + 1) scope.names []).lookup y.1).isSome = true) := by
    intro y hy
    cases S.par y.1 (List.of_mem_zip hy).1 with
    | inl q => exact Or.inl q
    | inr q => exact Or.inr (And.intro q (PySem.W.cellsFrom_some _ _ _ (Or.inl q)))
  apply codeAny_call_function hr.depth (kin _ _ lk) rfl S.co S.gen rfl (PySem.W.codeRec_of kin hcd)
  apply bt
  apply wpAny_newFunctionEnv_cells S.kind nms
  intro env he s1 ic
  subst he
  constructor
  · exact nol.keeps ic.toInCall.keep
  apply codeAny_func
  obtain ⟨t, pt, ht⟩ := hb A st s H vs Q E hgu (hr.deeper _) hs
  have J := inv_start (CX := CX) (E := E) S hr.hd e0 (len _ _ _ _ hs) rv ic
  apply wpAny_mono (pt.run [] s1 (start N vs) H _ J ht)
  · intro fl s' z
    match fl, z with
    | .ret u, ⟨v, σ', H', J', rv', q⟩ => exact ⟨v, H', J'.os, J'.bare, J'.base, J'.hok, rv', q⟩
    | .next, ⟨σ', H', J', q⟩ => exact ⟨V.non, H', J'.os, J'.bare, J'.base, J'.hok, (rfl : RelV V.non Value.none), q⟩
    | .brk, ⟨_, _, _, q⟩ => exact q.elim
    | .cont, ⟨_, _, _, q⟩ => exact q.elim
  · intro e s' z
    exact z
/-- a call of a def that wants no repr under way -/
def FnG (P : Program) (wd : World) (K : PySem.W.Frag) (mg : Str → Option Value) (base : Heap) (nm : Str) (ps : List Str) (m k : Nat) (C : Ct) : Prop :=
  ∃ fd, FnOkG P wd K mg base CX0 k (He.ga K nm) fd ps (spU K m C) ∧ Binds K fd ps [] ∧ PySem.W.keepIn K (.ref (He.ga K nm)) = true ∧ mg nm = some (.ref (He.ga K nm))
section
variable {X : Cx} {E : XK} {pos p : Pos} {e : Expr} {es : List Expr} {nm : Str} {ps : List Str} {m k j : Nat} {C : Ct} {w : WA}
theorem q_fg (F : FnG X.prog X.w X.K X.mg X.base nm ps m j C) (hC : Calm C) (hgd : X.A.guards = some []) (hr : Room k X.A) (hj : j ≤ k) (hg : Gl X nm) (ha : PA X (e :: es) (upA X.K E w)) (hdb : (nm == ("__debug__" : Str)) = false := by decide)
    (he : starEach (e :: es) X.env = (false, eval e X.env) :: starEach es X.env := by rfl) (hpl : (backTo pos (starEach es X.env)).any (·.1) = false := by rfl) : PE X (.Call (.Name nm p) (e :: es) [] pos) (up X.K E (eCall m C [] w)) := by
  obtain ⟨fd, F, b, kp, g⟩ := F
  have main : PE X (.Call (.Name nm p) (e :: es) [] pos) (tCall (spU X.K m C) [] E0 (upA X.K E w)) := by
    constructor
    intro pins s σ H Q I h
    apply wpAny_Call_Name_kw (ld_glob I hg g ?_ hdb)
    apply PySem.W.callWith_K (h₀ := X.base) I.ok.mod.kin kp (thn (ha.run pos pins s σ H _ I h) fun us s1 z => ?_) he hpl
    obtain ⟨vs, H1, I1, r, q⟩ := z
    refine ⟨I1.kIn, ?_⟩
    have q' : spU X.K m C vs H1 Q E0 := by
      rw [List.append_nil] at q
      exact q
    have hl : (us ++ []).length = ps.length := by
      rw [List.append_nil, ← r.length]
      exact F.len _ _ _ _ q'
    have bb := b s1 us I1.kIn hl
    rw [List.append_nil] at bb
    apply wpAny_call (codeAny_mono (F.run X.A X.stack s1 H1 ⟨us, []⟩ us vs Q E0 hgd (hr.mono hj) I1.env0 bb r q') fun rr s' z => ?_)
    match rr, z with
    | .error e, z => exact (z : False).elim
    | .ok .next, z => exact (z : False).elim
    | .ok .brk, z => exact (z : False).elim
    | .ok .cont, z => exact (z : False).elim
    | .ok (.ret u), z => exact I1.after z
  exact pe_to main (call_up0 (fun _ _ => .nil) hC)
end
end DL
set_option maxHeartbeats 4000000
namespace DL
open PySem PySem.Spec PyProof.Rows L2
/-! ### own exception classes, read off the written part -/
def oexB (K : PySem.W.Frag) (C : Addr) : Bool := match K.lookup C with
  | some ⟨.type "type", _, .cls cd, sl⟩ => (match cd.mro, sl.toList with
    | .ref C' :: bm, [_, _, _, _, some (.builtin n), _] => C' == C && n == "ValueError.__new__" && !cd.hasDel && cd.hasDict && PySem.HandSPX.refsVE bm
    | _, _ => false)
  | _ => false
theorem oexB_ok {K : PySem.W.Frag} {C : Addr} (h : oexB K C = true) : ∃ nm q N bs bm sn sub ab col dd k0 k1 k2 k3 k5, K.lookup C = some (excClassObj nm q C N bs bm true sn sub ab col dd k0 k1 k2 k3 k5 "ValueError.__new__") ∧ PySem.HandSPX.refsVE bm = true := by
  unfold oexB at h
  split at h
  · rename_i dd cd sl ho
    split at h
    · rename_i C' bm k0 k1 k2 k3 n k5 hm hs
      simp only [Bool.and_eq_true, beq_iff_eq, Bool.not_eq_true'] at h
      obtain ⟨⟨⟨⟨rfl, rfl⟩, hdel⟩, hdi⟩, ht⟩ := h
      obtain ⟨nm, bs, mro, ns, qn, hd, sn, sub, ab, col, del⟩ := cd
      dsimp only at hm hdel hdi
      subst hm hdel hdi
      have hsl : sl = #[k0, k1, k2, k3, some (.builtin "ValueError.__new__"), k5] := by
        obtain ⟨l⟩ := sl
        simp only at hs
        rw [hs]
      subst hsl
      exact ⟨nm, qn, ns, bs, bm, sn, sub, ab, col, dd, k0, k1, k2, k3, k5, ho, ht⟩
    · cases h
  · cases h
/-- an exception class of the program (of ValueErrors) -/
def excX (K : PySem.W.Frag) (cn : Str) (fl : List Str) : Bool :=
  oexB K (He.ga K cn) && He.eqO (PySem.W.findIn K (.ref (He.ga K cn)) "__setattr__") (some (some (.builtin "object.__setattr__"))) && decide (PySem.W.subIn K (.ref (He.ga K cn)) (.type "BaseException") = some true) &&
  decide (PySem.W.typeIn K (.ref (He.ga K cn)) = some (.type "type")) && PySem.W.keepIn K (.ref (He.ga K cn)) && (PySem.W.clsIn K (He.ga K cn)).isSome && He.eqO (PySem.W.findIn K (.ref (He.ga K cn)) "__getattribute__") (some (some (.builtin "BaseException.__getattribute__"))) &&
  He.eqO (PySem.W.findIn K (.ref (He.ga K cn)) "__getattr__") (some none) && PySem.W.hasDictIn K (He.ga K cn) && He.eqO (PySem.W.findIn K (.ref (He.ga K cn)) "__class__") (some (some (.builtin "object.__class__"))) &&
  He.eqO (PySem.W.specialIn K (.builtin "object.__class__") "__get__") (some (some (.builtin "getset_descriptor.__get__"))) && decide (PySem.W.takesIn K (.builtin "object.__class__") = some true) && decide (PySem.W.mroIn K (He.ga K cn) (.type "object") = some true) &&
  He.eqO (PySem.W.findIn K (.ref (He.ga K cn)) "__init__") (some (some (.ref (He.ma K (He.ga K cn) "__init__")))) && decide (PySem.W.typeIn K (.ref (He.ma K (He.ga K cn) "__init__")) = some (.type "function")) &&
  fl.all fun f => He.eqO (PySem.W.findIn K (.ref (He.ga K cn)) f) (some none)
structure ExcX (K : PySem.W.Frag) (cn : Str) (fl : List Str) : Prop where
  o : OexC K (He.ga K cn)
  q : ExQ K (He.ga K cn)
  i : PySem.W.findIn K (.ref (He.ga K cn)) "__init__" = some (some (.ref (He.ma K (He.ga K cn) "__init__")))
  t : PySem.W.typeIn K (.ref (He.ma K (He.ga K cn) "__init__")) = some (.type "function")
  n : ∀ f, f ∈ fl → PySem.W.findIn K (.ref (He.ga K cn)) f = some none
theorem excX_ok {K : PySem.W.Frag} {cn : Str} {fl : List Str} (h : excX K cn fl = true) : ExcX K cn fl := by
  unfold excX at h
  simp only [Bool.and_eq_true, decide_eq_true_eq, List.all_eq_true] at h
  obtain ⟨⟨⟨⟨⟨⟨⟨⟨⟨⟨⟨⟨⟨⟨⟨h1, h2⟩, h3⟩, h4⟩, h5⟩, h6⟩, h7⟩, h8⟩, h9⟩, h10⟩, h11⟩, h12⟩, h13⟩, h14⟩, h15⟩, h16⟩ := h
  exact ⟨⟨oexB_ok h1, He.eqO_ok h2, h3, h4, h5⟩, ⟨h6, He.eqO_ok h7, He.eqO_ok h8, h3, h9, He.eqO_ok h10, He.eqO_ok h11, h12, h13⟩, He.eqO_ok h14, h15, fun f hf => He.eqO_ok (h16 f hf)⟩
/-- the family's own class -/
def famX (K : PySem.W.Frag) (cn : Str) (id : String) : Bool :=
  He.eqO (PySem.W.specialIn K (.ref (He.ga K cn)) "__getattribute__") (some (some (.builtin "type.__getattribute__"))) && (match PySem.W.typeIn K (.ref (He.ga K cn)) with
    | some mc => PySem.W.readsIn K (He.ga K cn) mc && (match PySem.W.findCls K (.ref (He.ga K cn)) mc "__init__" with
      | some (.val (.builtin z)) => z == id
      | _ => false)
    | none => false)
theorem famX_ok {K : PySem.W.Frag} {cn : Str} (h : famX K cn "ValueError.__init__" = true) : ExB K (He.ga K cn) := by
  unfold famX at h
  rw [Bool.and_eq_true] at h
  obtain ⟨h1, h2⟩ := h
  refine ⟨He.eqO_ok h1, ?_⟩
  cases e : PySem.W.typeIn K (.ref (He.ga K cn)) with
  | none =>
    rw [e] at h2
    cases h2
  | some mc =>
    rw [e] at h2
    dsimp only at h2
    rw [Bool.and_eq_true] at h2
    obtain ⟨h3, h4⟩ := h2
    refine ⟨mc, rfl, h3, ?_⟩
    split at h4
    · rename_i z q
      rw [q, beq_iff_eq.mp h4]
    · cases h4
/-! ### said -/
/-- what the text's 'said' is, whoever calls it -/
def SaidF (P : Program) (wd : World) (K : PySem.W.Frag) (mg : Str → Option Value) (base : Heap) (fv : V → Hp → VK → Prop) (cs : List Value) (l : List (Addr × Str)) : Prop :=
  ∃ (g : Addr) (pg : Arguments) (bg : List Stmt) (sg : Scope) (dV kV doc pm cdv ct oc : Value) (an od : Option Addr) (osl : Array (Option Value)) (Ng : List Str) (a : Str), mg "_law_said" = some (.ref g) ∧ PySem.W.keepIn K (.ref g) = true ∧
    K.lookup g = some ⟨oc, od, .func (PySem.W.fnOf "_law_said" "_law_said" pg bg sg dV kV doc pm an cdv ct), osl⟩ ∧ PySem.W.codeIn K cdv "_law_said" = true ∧ L2.Binds K (PySem.W.fnOf "_law_said" "_law_said" pg bg sg dV kV doc pm an cdv ct) [a] [] ∧
    FnScope Ng [a] sg ∧ Ng[0]? = some a ∧ Vis sg a ∧ (a == ("__debug__" : Str)) = false ∧ (a == ("__classdict__" : Str)) = false ∧
    ∀ X : Cx, X.prog = P → X.w = wd → X.K = K → X.mg = mg → X.base = base → ∀ q, LamX.GivesTo X Ng "_law_said" sg g cdv bg a q (TTs K cs l fv)
theorem tk_mem {K : PySem.W.Frag} {q : Str} (h : q ∈ lamDefs) : ((He.cT K (q, none)).2, q ++ ".<locals>." ++ "<lambda>") ∈ TK K := List.mem_map.2 ⟨q, h, rfl⟩
/-- the tables of the defs differ -/
def lamX (K : PySem.W.Frag) : Bool := lamDefs.all fun p => lamDefs.all fun q => p == q || !((He.cT K (p, none)).2 == (He.cT K (q, none)).2)
theorem tk_one {K : PySem.W.Frag} (h : lamX K = true) {q : Str} (hq : q ∈ lamDefs) : ∀ p ∈ TK K, p.1 = (He.cT K (q, none)).2 → p.2 = q ++ ".<locals>." ++ "<lambda>" := fun p hp e => by
  obtain ⟨r, hr, rfl⟩ := List.mem_map.1 hp
  have h1 := List.all_eq_true.mp (List.all_eq_true.mp h r hr) q hq
  simp only [Bool.or_eq_true, beq_iff_eq, Bool.not_eq_true', beq_eq_false_iff_ne] at h1
  rcases h1 with h1 | h1
  · rw [h1]
  · exact absurd e h1
/-- a lambda without parameters is bound -/
theorem lam_bind {params : Arguments} {body : Expr} {scope : Scope} (h : ∀ (q : Str) (cl : List (Str × Addr)) (pm cv ctv : Value), bindArgs (PySem.W.kla_fn "<lambda>" q params body scope cl pm cv ctv) ⟨[], []⟩ = pure []) : ∀ (q : Str) (cl : List (Str × Addr)) (pm cv ctv : Value), bindArgs (PySem.W.kla_fn "<lambda>" q params body scope cl pm cv ctv) ⟨[], []⟩ = pure [] := h
section
variable {X : Cx} {E : XK} {p lpos pos : Pos} {params : Arguments} {body : Expr} {scope : Scope} {k : Nat} {w : WE} {cs : List Value} {l : List (Addr × Str)} {tag : Str → Option Str}
theorem q_said {q : Str} (S : SaidF X.prog X.w X.K X.mg X.base (fun v H Q => Q v H) cs l) (hD : ∀ cn z, tag cn = some z → ExQ X.K (He.ga X.K cn) ∧ PySem.W.findIn X.K (.ref (He.ga X.K cn)) "given" = some none ∧ PySem.W.exmAny X.K (.ref (He.ga X.K cn)) cs = some true ∧ Hits X.K (He.ga X.K cn) l z)
    (hg : Gl X "_law_said") (TB : LamX.TabB X.base X.mg (He.cT X.K (q, none)).1 (He.cT X.K (q, none)).2) (hcode : X.env.code = .ref (He.cT X.K (q, none)).1) (hq : X.env.qual = q ++ ".<locals>.") (hin : q ∈ lamDefs) (hX : lamX X.K = true) (hr : Room (k + 2) X.A) (L : LamX.LamS X.env.scope scope) (hdef : defaultsOf params X.env = ([], []))
    (hbind : ∀ (q : Str) (cl : List (Str × Addr)) (pm cv ctv : Value), bindArgs (PySem.W.kla_fn "<lambda>" q params body scope cl pm cv ctv) ⟨[], []⟩ = pure [])
    (hbody : ∀ (A : Around) (outer : List Env) (s : Shared) (H : Hp) (E : XK) (f c' : Addr), Room k (A.deeper (LamX.lamEnv X scope s.heap.objs.size f c')) → TkE (LamX.lamCx X A outer s H E scope f c') E → PE (LamX.lamCx X A outer s H E scope f c') body (up X.K E w)) :
    PE X (.Call (.Name "_law_said" p) [.Lambda params body scope lpos] [] pos) (up X.K E (eSaid tag w)) := by
  obtain ⟨g, pg, bg, sg, dV, kV, doc, pm, cdv, ct, oc, an, od, osl, Ng, a, hm, hk, lk, hcg, hb, Sg, hNg, hva, ha1, ha2, hG⟩ := S
  refine pe_to (LamX.pe_lamcall (T := TK X.K) (t := fun E => up X.K E w) hg hm hk lk hcg hb Sg hNg hva (hG X rfl rfl rfl rfl rfl _) TB hcode (by rw [hq]; exact tk_mem hin) (by rw [hq]; exact tk_one hX hin) hr L hdef hbind (fun A outer s H E f c' hr' => hbody A outer s H E f c' hr' (takes_of rfl rfl rfl rfl)) (by decide) ha1 ha2) (said_up hD)
end
section
variable {X : Cx} {E : XK} {sts : List Stmt}
theorem qss_never : PSs X sts (upS X.K E sNever) := by
  constructor
  intro pins s σ H D I q
  obtain ⟨c, η, k, x, _, _, _, hw, _⟩ := q
  exact hw.elim
end
end DL
set_option maxHeartbeats 4000000
namespace DL
open PySem PySem.Spec PyProof.Rows L2
/-! ### a chain as a value -/
def eChain (o o' : O2) (wa wb wc : WE) : WE := fun x η n R => wa x η n fun a n1 => wb x η n1 fun b n2 => o a b fun d => match d with
  | .bl true => wc x η n2 fun c n3 => o' b c fun d => R d n3
  | .bl false => R (.bl false) n2
  | _ => False
section
variable {X : Cx} {E : XK}
theorem q_chain {e1 e2 e3 : Expr} {pos : Pos} {op op' : CmpOp} {wa wb wc : WE} {r r' : R2} {o o' : O2} (ho : OpR X (compareOp op) r) (ho' : OpR X (compareOp op') r') (h : OpD X r o) (h' : OpD X r' o') (ha : PE X e1 (upB X.K E wa)) (hb : PE X e2 (upB X.K E wb)) (hc : PE X e3 (upB X.K E wc))
    (hm : lastMarks [op, op'] [e2, e3] = false := by with_unfolding_all rfl) : PE X (.Compare e1 [op, op'] [e2, e3] pos) (up X.K E (eChain o o' wa wb wc)) := pe_to (pe_chain ho ho' ha hb hc hm) fun σ H Q q => by
  obtain ⟨c, η, R, x, e1, ok, en, hw, hr, hx⟩ := q
  refine ⟨c, η, _, x, e1, ok, en, hw, fun da c1 v h1 ok1 l1 r1 => ?_, hx⟩
  refine ⟨c1, η, _, x, rfl, ok1, en.le l1, h1, fun db c2 u h2 ok2 l2 r2 => ?_, hx.le l1⟩
  refine h c2 v u da db _ _ ok2 ((l1.trans l2).T.trans en.T) (r1.le l2) r2 h2 fun d c3 z hk hn ok3 l3 r3 => ?_
  cases d <;> first | exact hk.elim | skip
  rename_i t
  cases r3
  refine ⟨t, rfl, ?_⟩
  cases t with
  | false => exact ite_ff (hr (.bl false) c3 _ (by rw [hn]; exact hk) ok3 ((l1.trans l2).trans l3) (.bl _))
  | true =>
    refine ite_tt ⟨c3, η, _, x, rfl, ok3, ((en.le l1).le l2).le l3, (by rw [hn]; exact hk), fun dc c4 w h4 ok4 l4 r4 => ?_, ((hx.le l1).le l2).le l3⟩
    refine h' c4 u w db dc _ _ ok4 ((((l1.trans l2).trans l3).trans l4).T.trans en.T) ((r2.le l3).le l4) r4 h4 fun d c5 z hk hn5 ok5 l5 r5 => ?_
    exact hr d c5 z (by rw [hn5]; exact hk) ok5 (((l1.trans l2).trans l3).trans (l4.trans l5)) r5
/-! ### texts compared -/
def oEqS : O2 := fun a b k => match a, b with
  | .str s, .str t => k (.bl (decide (s = t)))
  | _, _ => False
def oNeS : O2 := fun a b k => match a, b with
  | .str s, .str t => k (.bl (!decide (s = t)))
  | _, _ => False
theorem dec_V (s t : Str) : decide (V.str s = V.str t) = decide (s = t) := by
  by_cases h : s = t
  · simp [h]
  · rw [decide_eq_false h, decide_eq_false (fun z => h (V.str.inj z))]
theorem opd_eqS : OpD X rEq oEqS := by
  intro c v u a b k Q ok hT ra rb h hQ
  cases a <;> cases b <;> first | exact h.elim | skip
  rename_i s t
  obtain rfl := ra.str
  obtain rfl := rb.str
  refine ⟨rfl, ?_⟩
  rw [dec_V]
  exact hQ _ c _ h rfl ok .refl (.bl _)
theorem opd_neS : OpD X rNe oNeS := by
  intro c v u a b k Q ok hT ra rb h hQ
  cases a <;> cases b <;> first | exact h.elim | skip
  rename_i s t
  obtain rfl := ra.str
  obtain rfl := rb.str
  refine ⟨rfl, ?_⟩
  rw [dec_V]
  exact hQ _ c _ h rfl ok .refl (.bl _)
/-! ### a def that may raise, called where it does not -/
theorem pass_E0 : Passes (L2.CX X.prog X.w) X E0 := fun _ _ _ _ _ _ _ ⟨_, _, _, _, _, _, _, _, _, _, _, _, h⟩ => h.elim
def xNo : Xn := fun _ _ => False
def eCallN (m : Nat) (C : Ct) (w : WA) : WE := fun x η n R => w x η n fun ds n1 => ds.length = m ∧ C xNo ds n1 R
theorem XW.no {K : PySem.W.Frag} {E : XK} {ow : Addr → Prop} {c : Cf} : XW K E xNo ow c := fun _ _ _ _ h => h.elim
variable {pos p : Pos} {e : Expr} {es : List Expr} {nm cn : Str} {ps : List Str} {m k j n : Nat} {C : Ct} {w wk : WA} {kws : List Keyword}
theorem q_fxn (F : FnX X.prog X.w X.K X.mg X.base nm ps m j C) (hr : Room k X.A) (hj : j ≤ k) (hg : Gl X nm) (ha : PA X (e :: es) (upA X.K E w)) (hdb : (nm == ("__debug__" : Str)) = false := by decide)
    (he : starEach (e :: es) X.env = (false, eval e X.env) :: starEach es X.env := by rfl) (hpl : (backTo pos (starEach es X.env)).any (·.1) = false := by rfl) : PE X (.Call (.Name nm p) (e :: es) [] pos) (up X.K E (eCallN m C w)) := by
  obtain ⟨fd, F, b, kp, g⟩ := F
  refine pe_to (pe_call F (hr.mono hj) hg g kp b .nil pass_E0 ha hdb he hpl) fun σ H Q q => ?_
  obtain ⟨c, η, R, x, e1, ok, en, hw, hr, hx⟩ := q
  refine ⟨c, η, _, x, e1, ok, en, hw, fun ds c1 vs hc ok1 l1 rp => ?_, hx⟩
  show spU X.K m C (vs ++ []) c1.H Q E0
  rw [List.append_nil]
  exact ⟨c1, ds, R, xNo, rfl, ok1, l1.T.trans en.T, rp, hc.1, hc.2, fun d c' v h1 ok' l' r' => hr d c' v h1 ok' (l1.trans l') r', XW.no⟩
def eCallKN (m l : Nat) (C : Ct) (pm : List Nat) (wk : WA) : WE := fun x η nn R => wk x η nn fun es n2 => es.length = l ∧ pm.length = m ∧ C xNo (gP .non pm [] es) n2 R
theorem q_fkxn0 {ks : List Str} {pm : List Nat} (F : FnKX X.prog X.w X.K X.mg X.base nm ps m j C 0 ks pm) (hr : Room k X.A) (hj : j ≤ k) (hg : Gl X nm) (hkw : PK X kws (upA X.K E wk))
    (hall : (backToKw pos (keywordEach kws X.env)).all (·.1.isSome) = true := by rfl) (hks : (backToKw pos (keywordEach kws X.env)).filterMap (·.1) = ks := by rfl)
    (hdb : (nm == ("__debug__" : Str)) = false := by decide)
    (hpl : ((backTo pos (starEach [] X.env)).any (·.1) || (backToKw pos (keywordEach kws X.env)).any (·.1.isNone)) = false := by rfl) :
    PE X (.Call (.Name nm p) [] kws pos) (up X.K E (eCallKN m ks.length C pm wk)) := by
  obtain ⟨fd, F, b, kp, g⟩ := F
  refine pe_to (pe_callN0 F (hr.mono hj) hg g kp b pass_E0 hkw hall hks hdb hpl) fun σ H Q q => ?_
  obtain ⟨c, η, R, x, e1, ok, en, hw, hr, hx⟩ := q
  refine ⟨c, η, _, x, e1, ok, en, hw, fun es c2 zs hc2 ok2 l2 rz => ?_, hx⟩
  obtain ⟨h2, h3, h4⟩ := hc2
  refine ⟨rfl, by rw [rz.length]; exact h2, ?_⟩
  exact ⟨c2, _, R, xNo, rfl, ok2, l2.T.trans en.T, gP_rpl .nil rz pm, by simp [gP, h3], h4, fun d c3 v h5 ok3 l3 r3 => hr d c3 v h5 ok3 (l2.trans l3) r3, XW.no⟩
end
end DL
set_option maxHeartbeats 4000000
namespace DL
open PySem PySem.Spec PyProof.Rows L2
/-! ### more of how readings are worked out -/
theorem lc_mapY {α : Type} (emb : α → D) (f : α → D) {x : Xn} {η : List Sl} {g : WG} {w : WE} {R : List D → Nat → Prop} : ∀ (ys : List α) (acc : List D) (n : Nat)
    (hs : ∀ a, a ∈ ys → ∀ (Q : D → Nat → Prop), Q (f a) n → g (emb a) η fun η' => w x η' n Q)
    (hl : acc.length + ys.length ≤ sizeLine) (h : R (acc ++ ys.map f) n), runLc x η g wYes w R (ys.map emb) acc n
  | [], acc, n, hs, hl, h => by simpa [runLc] using h
  | a :: ys, acc, n, hs, hl, h => by
    have hl' : acc.length + (ys.length + 1) ≤ sizeLine := hl
    refine hs a (List.mem_cons_self ..) (fun y n2 => acc.length < sizeLine ∧ runLc x η g wYes w R (ys.map emb) (acc ++ [y]) n2) ⟨by omega, ?_⟩
    refine lc_mapY emb f ys _ n (fun a ha => hs a (List.mem_cons_of_mem _ ha)) (by simp; omega) ?_
    simpa using h
theorem lc_mapD (f : D → D) {x : Xn} {η : List Sl} {g : WG} {w : WE} {R : List D → Nat → Prop} (ys : List D) (n : Nat)
    (hs : ∀ a, a ∈ ys → ∀ (Q : D → Nat → Prop), Q (f a) n → g a η fun η' => w x η' n Q)
    (hl : ys.length ≤ sizeLine) (h : R (ys.map f) n) : runLc x η g wYes w R ys [] n := by
  have := lc_mapY (emb := fun d => d) f (x := x) (η := η) (g := g) (w := w) (R := R) ys [] n hs (by simpa using hl) (by simpa using h)
  simpa using this
theorem bls_map (bs : List Bool) : blsOf (bs.map D.bl) = some bs := by
  induction bs with
  | nil => rfl
  | cons b bs ih => simp [blsOf, ih]
theorem r_allB (bs : List Bool) (k : D → Prop) : bAll [.lst (bs.map D.bl)] k = k (.bl (bs.all id)) := by
  simp [bAll, bls_map]
theorem r_anyB (bs : List Bool) (k : D → Prop) : bAny [.lst (bs.map D.bl)] k = k (.bl (bs.any id)) := by
  simp [bAny, bls_map]
theorem r_allM {α : Type} (f : α → Bool) (xs : List α) (k : D → Prop) : bAll [.lst (xs.map fun a => D.bl (f a))] k = k (.bl (xs.all f)) := by
  have e : (xs.map fun a => D.bl (f a)) = (xs.map f).map D.bl := by simp
  rw [e, r_allB]
  simp
theorem r_anyM {α : Type} (f : α → Bool) (xs : List α) (k : D → Prop) : bAny [.lst (xs.map fun a => D.bl (f a))] k = k (.bl (xs.any f)) := by
  have e : (xs.map fun a => D.bl (f a)) = (xs.map f).map D.bl := by simp
  rw [e, r_anyB]
  simp
theorem r_all2 (a b : Bool) (k : D → Prop) : bAll [.lst [.bl a, .bl b]] k = k (.bl (a && b)) := by
  have := r_allB [a, b] k
  simpa using this
/-- a chain's reading -/
theorem r_chain (o o' : O2) (wa wb wc : WE) (x : Xn) (η : List Sl) (n : Nat) (R : D → Nat → Prop) : eChain o o' wa wb wc x η n R = wa x η n fun a n1 => wb x η n1 fun b n2 => o a b fun d => bT d (wc x η n2 fun c n3 => o' b c fun d => R d n3) (R (.bl false) n2) := by
  unfold eChain
  congr 1
  funext a n1
  congr 1
  funext b n2
  congr 1
  funext d
  cases d <;> first | rfl | skip
  rename_i b; cases b <;> rfl
theorem r_wchain (o o' : O2) (wa wb wc : WE) (x : Xn) (η : List Sl) (n : Nat) (R : Bool → Nat → Prop) : wChain o o' wa wb wc x η n R = wa x η n fun a n1 => wb x η n1 fun b n2 => o a b fun d => bT d (wc x η n2 fun c n3 => o' b c fun d => tB d fun k => R k n3) (R false n2) := by
  unfold wChain
  congr 1
  funext a n1
  congr 1
  funext b n2
  congr 1
  funext d
  cases d <;> first | rfl | skip
  rename_i b; cases b <;> rfl
theorem r_neg (w : WE) (x : Xn) (η : List Sl) (n : Nat) (R : D → Nat → Prop) (i : Int) (h : ∀ Q : D → Nat → Prop, w x η n Q = Q (.int i) n) : eNeg w x η n R = R (.int (-i)) n := by
  unfold eNeg
  rw [h]
theorem r_negC (i : Int) (x : Xn) (η : List Sl) (n : Nat) (R : D → Nat → Prop) : eNeg (eC (.int i)) x η n R = R (.int (-i)) n := rfl
theorem r_ixTn (xs : List D) (i : Int) (d : D) (k : D → Prop) (h : atI xs i = some d) : oIx (.tup xs) (.int i) k = k d := by simp [oIx, h]
theorem r_ixLn (xs : List D) (i : Int) (d : D) (k : D → Prop) (h : atI xs i = some d) : oIx (.lst xs) (.int i) k = k d := by simp [oIx, h]
theorem atI_last {α : Type} (xs : List α) (h : xs ≠ []) : atI xs (-1) = some (xs.getLast h) := by
  unfold atI ixN
  have hl := List.length_pos_iff.2 h
  rw [if_neg (by decide)]
  rw [if_pos (by omega)]
  simp only [Option.bind_some]
  rw [List.getElem?_eq_getElem (by omega), List.getLast_eq_getElem]
  congr 2
  omega
theorem atI_last2 {α : Type} (xs : List α) (h : 2 ≤ xs.length) : atI xs (-2) = some (xs[xs.length - 2]) := by
  unfold atI ixN
  rw [if_neg (by decide)]
  rw [if_pos (by omega)]
  simp only [Option.bind_some]
  rw [List.getElem?_eq_getElem (by omega)]
  congr 2
  omega
theorem while_by {t : WT} {b : WS} {x : Xn} {k : Wk} {η : List Sl} {n : Nat} (I : List Sl → Nat → Prop) (μ : List Sl → Nat → Nat) (h0 : I η n)
    (hs : ∀ η1 n1 (nxt : List Sl → Nat → Prop), I η1 n1 → (∀ η' n', I η' n' → μ η' n' < μ η1 n1 → nxt η' n') → t x η1 n1 fun c n2 => if c = true then b x { nx := nxt, ct := nxt, bk := k.nx, rt := k.rt } η1 n2 else k.nx η1 n2) : sWhile t b x k η n :=
  ⟨I, μ, h0, fun η1 n1 h => hs η1 n1 _ h fun η' n' h1 h2 => ⟨h1, h2⟩⟩
theorem sIx_nat (n j : Nat) (d : Nat) : HT.sIx n d (some (j : Int)) = min j n := by
  unfold HT.sIx
  simp only
  rw [if_neg (by omega)]
  omega
theorem cutD_nat (xs : List D) (i j : Nat) : cutD xs (some (i : Int)) (some (j : Int)) = (xs.drop i).take (j - i) := by
  unfold cutD
  rw [sIx_nat, sIx_nat]
  by_cases h : i ≤ xs.length
  · rw [Nat.min_eq_left h]
    by_cases h2 : j ≤ xs.length
    · rw [Nat.min_eq_left h2]
    · rw [Nat.min_eq_right (by omega), List.take_of_length_le (by simp), List.take_of_length_le (by simp; omega)]
  · have e1 : xs.drop i = [] := List.drop_of_length_le (by omega)
    have e2 : min i xs.length = xs.length := by omega
    rw [e1, e2]
    simp
theorem cutD_from (xs : List D) (i : Nat) : cutD xs (some (i : Int)) none = xs.drop i := by
  unfold cutD
  rw [sIx_nat]
  show ((xs.drop (min i xs.length)).take (xs.length - min i xs.length)) = _
  by_cases h : i ≤ xs.length
  · rw [Nat.min_eq_left h, List.take_of_length_le (by simp)]
  · have e1 : xs.drop i = [] := List.drop_of_length_le (by omega)
    have e2 : min i xs.length = xs.length := by omega
    rw [e1, e2]
    simp
theorem cutD_to (xs : List D) (j : Nat) : cutD xs none (some (j : Int)) = xs.take j := by
  unfold cutD
  rw [sIx_nat]
  show ((xs.drop 0).take (min j xs.length - 0)) = _
  rw [List.drop_zero, Nat.sub_zero]
  by_cases h : j ≤ xs.length
  · rw [Nat.min_eq_left h]
  · rw [Nat.min_eq_right (by omega), List.take_of_length_le (by omega), List.take_of_length_le (by omega)]
theorem r_sl (w : WE) (lo hi : WO) (x : Xn) (η : List Sl) (n : Nat) (R : D → Nat → Prop) : eSl w lo hi x η n R = w x η n fun a n1 => lo x η n1 fun l n2 => hi x η n2 fun h n3 => oSl a l h fun d => R d n3 := rfl
/-- an int out of a value -/
def tI' (d : D) (k : Int → Prop) : Prop := match d with
  | .int i => k i
  | _ => False
theorem tI'_i (i : Int) (k : Int → Prop) : tI' (.int i) k = k i := rfl
theorem r_oSo (w : WE) (x : Xn) (η : List Sl) (n : Nat) (R : Option Int → Nat → Prop) : oSo w x η n R = w x η n fun d n1 => tI' d fun i => R (some i) n1 := rfl
theorem r_oNo (x : Xn) (η : List Sl) (n : Nat) (R : Option Int → Nat → Prop) : oNo x η n R = R none n := rfl
theorem r_slT (xs : List D) (l h : Option Int) (k : D → Prop) : oSl (.tup xs) l h k = k (.tup (cutD xs l h)) := rfl
theorem r_slL (xs : List D) (l h : Option Int) (k : D → Prop) : oSl (.lst xs) l h k = k (.lst (cutD xs l h)) := rfl
theorem r_raise (cn : Str) (fl : List Str) (w : WA) (x : Xn) (k : Wk) (η : List Sl) (n : Nat) : sRaise cn fl w x k η n = w x η n fun ds n1 => ds.length = fl.length ∧ x (.ins cn fl.reverse ds.reverse) n1 := rfl
theorem r_expr (w : WE) (x : Xn) (k : Wk) (η : List Sl) (n : Nat) : sExpr w x k η n = w x η n fun _ n1 => k.nx η n1 := rfl
theorem r_addT (xs ys : List D) (k : D → Prop) : oAdd (.tup xs) (.tup ys) k = (xs.length + ys.length ≤ sizeLine ∧ k (.tup (xs ++ ys))) := rfl
theorem r_said (tag : Str → Option Str) (w : WE) (x : Xn) (η : List Sl) (n : Nat) (R : D → Nat → Prop) : eSaid tag w x η n R = w (fun d n' => ∃ cn v z, d = .ins cn ["given"] [v] ∧ tag cn = some z ∧ R (.lst [.str z, v]) n') η n R := rfl
/-- a zip's reading -/
def zpD (ds : List D) (k : List D → Prop) : Prop := match ds with
  | [.tup xs, .tup ys] => k (zipD xs ys)
  | [.lst xs, .lst ys] => k (zipD xs ys)
  | _ => False
theorem r_zp (w : WA) (x : Xn) (η : List Sl) (n : Nat) (R : List D → Nat → Prop) : iZp w x η n R = w x η n fun ds n1 => zpD ds fun xs => R xs n1 := by
  unfold iZp
  congr 1
  funext ds n1
  unfold zpD
  split
  · rfl
  · rfl
  · rename_i h1 h2
    split
    · exact absurd rfl (h2 _ _)
    · exact absurd rfl (h1 _ _)
    · rfl
theorem zpD_t (xs ys : List D) (k : List D → Prop) : zpD [.tup xs, .tup ys] k = k (zipD xs ys) := rfl
theorem zpD_l (xs ys : List D) (k : List D → Prop) : zpD [.lst xs, .lst ys] k = k (zipD xs ys) := rfl
theorem r_tupB (xs : List D) (k : D → Prop) : bTuple [.lst xs] k = k (.tup xs) := rfl
theorem r_lstB (xs : List D) (k : D → Prop) : bList [.tup xs] k = k (.lst xs) := rfl
theorem r_callN (m : Nat) (C : Ct) (w : WA) (x : Xn) (η : List Sl) (n : Nat) (R : D → Nat → Prop) : eCallN m C w x η n R = w x η n fun ds n1 => ds.length = m ∧ C xNo ds n1 R := rfl
theorem r_callKN (m l : Nat) (C : Ct) (pm : List Nat) (wk : WA) (x : Xn) (η : List Sl) (n : Nat) (R : D → Nat → Prop) : eCallKN m l C pm wk x η n R = wk x η n fun es n2 => es.length = l ∧ pm.length = m ∧ C xNo (gP .non pm [] es) n2 R := rfl
theorem r_asg3 (w : WE) (i j l : Nat) (x : Xn) (k : Wk) (η : List Sl) (n : Nat) : sAsg w (gTp 3 (gsCons (gNm i) (gsCons (gNm j) (gsCons (gNm l) gsNil)))) x k η n = w x η n fun d n1 => gTp 3 (gsCons (gNm i) (gsCons (gNm j) (gsCons (gNm l) gsNil))) d η fun η' => k.nx η' n1 := rfl
theorem r_g3 (i j l : Nat) (a b c : D) (η : List Sl) (k : List Sl → Prop) : gTp 3 (gsCons (gNm i) (gsCons (gNm j) (gsCons (gNm l) gsNil))) (.tup [a, b, c]) η k = k (((η.set i (.dt a)).set j (.dt b)).set l (.dt c)) := by
  simp [gTp, gsCons, gNm, gsNil]
theorem r_putIx (i : Nat) (wi we : WE) (x : Xn) (k : Wk) (η : List Sl) (n : Nat) : sPutIx i wi we x k η n = we x η n fun d n1 => wi x η n1 fun j n2 => owS η[i]? fun xs => match j with
  | .int j => ∃ m, ixN xs.length j = some m ∧ k.nx (η.set i (.ow (xs.set m d))) n2
  | _ => False := rfl
theorem c_L_next (m : Int) (x : Xn) (n : Nat) (R : D → Nat → Prop) : C_L_next x [.drw, .int m] n R = (0 < m ∧ m < 2 ^ 250 ∧ 1 ≤ n ∧ ∀ r : Int, 0 ≤ r → r < m → R (.int r) (n - 1)) := rfl
end DL
set_option maxHeartbeats 4000000
namespace DL
open PySem PySem.Spec PyProof.Rows L2
/-! ### what can be shown by repr, and how long it is -/
structure Shw (k b : Nat) (d : D) : Prop where
  pl : plainD d = true
  sh : (py d).showable = true
  hd : (py d).hasDict = false
  dp : (py d).depth ≤ k
  ln : (py d).shown.length ≤ b
theorem Shw.mono {k b k' b' : Nat} {d : D} (h : Shw k b d) (hk : k ≤ k') (hb : b ≤ b') : Shw k' b' d := ⟨h.pl, h.sh, h.hd, Nat.le_trans h.dp hk, Nat.le_trans h.ln hb⟩
theorem Shw.non {k : Nat} : Shw k 4 .non := ⟨rfl, rfl, rfl, Nat.zero_le _, by decide +kernel⟩
theorem Shw.bl {k : Nat} (b : Bool) : Shw k 5 (.bl b) := ⟨rfl, rfl, rfl, Nat.zero_le _, by cases b <;> decide +kernel⟩
theorem Shw.int {k : Nat} {i : Int} (h : i.natAbs < 2 ^ 250) : Shw k 1921 (.int i) := by
  have hl : i.natAbs.log2 < 1920 := by
    by_cases h0 : i.natAbs = 0
    · rw [h0]; decide
    · exact Nat.lt_trans ((Nat.log2_lt h0).2 h) (by decide)
  refine ⟨rfl, ?_, rfl, Nat.zero_le _, ?_⟩
  · show decide (i.natAbs.log2 < 1920) = true
    exact decide_eq_true hl
  · exact PyProof.Rows.int_text_len_1921 hl
theorem Shw.str {k b : Nat} {x : Str} (h : (reprText x).length ≤ b) : Shw k b (.str x) := ⟨rfl, rfl, rfl, Nat.zero_le _, h⟩
theorem shw_all {k b : Nat} : ∀ {xs : List D}, (∀ d ∈ xs, Shw k b d) → plainL xs = true ∧ PyData.showableAll (pyL xs) = true ∧ PyData.hasDictAll (pyL xs) = false ∧ PyData.depthAll (pyL xs) ≤ k ∧ piled (PyData.shownAll (pyL xs)) ≤ xs.length * (b + 2) ∧ (PyData.shownAll (pyL xs)).length = xs.length
  | [], _ => ⟨rfl, rfl, rfl, Nat.zero_le _, by simp [pyL, PyData.shownAll, piled], rfl⟩
  | d :: xs, h => by
    have h1 := h d (List.mem_cons_self ..)
    obtain ⟨a1, a2, a3, a4, a5, a6⟩ := shw_all (xs := xs) fun e he => h e (List.mem_cons_of_mem _ he)
    refine ⟨?_, ?_, ?_, ?_, ?_, ?_⟩
    · show (plainD d && plainL xs) = true
      rw [h1.pl, a1]
      rfl
    · show ((py d).showable && PyData.showableAll (pyL xs)) = true
      rw [h1.sh, a2]
      rfl
    · show ((py d).hasDict || PyData.hasDictAll (pyL xs)) = false
      rw [h1.hd, a3]
      rfl
    · show max (py d).depth (PyData.depthAll (pyL xs)) ≤ k
      exact Nat.max_le.2 ⟨h1.dp, a4⟩
    · show piled ((py d).shown :: PyData.shownAll (pyL xs)) ≤ (xs.length + 1) * (b + 2)
      rw [piled_cons, Nat.succ_mul]
      have := h1.ln
      omega
    · show (PyData.shownAll (pyL xs)).length + 1 = xs.length + 1
      rw [a6]
theorem join_len (ts : List Str) : (Str.join ", " ts).length ≤ piled ts := by
  by_cases h : ts = []
  · subst h
    exact Nat.zero_le _
  · have := join_length_add ts h
    omega
theorem piled_sum : ∀ ts : List Str, piled ts = (ts.map (·.length)).sum + 2 * ts.length
  | [] => by simp [piled]
  | t :: ts => by
    rw [piled_cons, piled_sum ts]
    simp
    omega
theorem Shw.lst {k b : Nat} {xs : List D} (h : ∀ d ∈ xs, Shw k b d) (m : Nat) (hm : xs.length ≤ m) : Shw (k + 1) (m * (b + 2) + 3) (.lst xs) := by
  obtain ⟨a1, a2, a3, a4, a5, _⟩ := shw_all h
  refine ⟨a1, a2, a3, Nat.succ_le_succ a4, ?_⟩
  show (listText (PyData.shownAll (pyL xs))).length ≤ _
  unfold listText
  rw [strLen_append]
  have q := textFrom_len_le (PyData.shownAll (pyL xs)) 0 "["
  have q2 := piled_sum (PyData.shownAll (pyL xs))
  have : xs.length * (b + 2) ≤ m * (b + 2) := Nat.mul_le_mul_right _ hm
  have e1 : ((("[" : String) : Str)).length = 1 := rfl
  have e2 : ((("]" : String) : Str)).length = 1 := rfl
  omega
theorem Shw.tup {k b : Nat} {xs : List D} (h : ∀ d ∈ xs, Shw k b d) (m : Nat) (hm : xs.length ≤ m) : Shw (k + 1) (m * (b + 2) + 3) (.tup xs) := by
  obtain ⟨a1, a2, a3, a4, a5, _⟩ := shw_all h
  refine ⟨a1, a2, a3, Nat.succ_le_succ a4, ?_⟩
  show (tupleText (PyData.shownAll (pyL xs))).length ≤ _
  unfold tupleText
  rw [strLen_append, strLen_append]
  have := join_len (PyData.shownAll (pyL xs))
  have : xs.length * (b + 2) ≤ m * (b + 2) := Nat.mul_le_mul_right _ hm
  have e1 : ((("(" : String) : Str)).length = 1 := rfl
  have e2 : (((if (PyData.shownAll (pyL xs)).length == 1 then ",)" else ")" : String) : Str)).length ≤ 2 := by split <;> decide
  omega
theorem repr_of {k b : Nat} {xs : List D} {K : D → Prop} (h : Shw k b (.lst xs)) (hK : K (.str (py (.lst xs)).shown)) (hk : k ≤ 60 := by decide) (hb : b ≤ sizeLine := by decide) : bRepr [.lst xs] K :=
  ⟨h.pl, h.sh, h.hd, Nat.le_trans h.dp hk, Nat.le_trans h.ln hb, hK⟩
theorem deq_str_self (s : Str) : deq (.str s) (.str s) = true := by
  unfold deq py PyData.eqv
  simp
mutual
theorem deq_self : ∀ d : D, plainD d = true → deq d d = true
  | .non, _ => rfl
  | .bl b, _ => by cases b <;> rfl
  | .int i, _ => by rw [deq_int]; simp
  | .str s, _ => deq_str_self s
  | .tup xs, h => deqL_self xs h
  | .lst xs, h => deqL_self xs h
  | .ins _ _ _, h => by cases h
  | .drw, h => by cases h
  | .dct _ _, h => by cases h
theorem deqL_self : ∀ xs : List D, plainL xs = true → PyData.eqvAll (pyL xs) (pyL xs) = true
  | [], _ => rfl
  | d :: xs, h => by
    have h' : (plainD d && plainL xs) = true := h
    rw [Bool.and_eq_true] at h'
    show (PyData.eqv (py d) (py d) && PyData.eqvAll (pyL xs) (pyL xs)) = true
    rw [show PyData.eqv (py d) (py d) = true from deq_self d h'.1, deqL_self xs h'.2]
    rfl
end
theorem ne_same {d : D} {k : D → Prop} (hl : Lay d) (h : k (.bl false)) : oNe d d k := by
  refine ⟨hl, hl, ?_⟩
  rw [deq_self d hl.plainD]
  exact h
theorem eq_same {d : D} {k : D → Prop} (hl : Lay d) (h : k (.bl true)) : oEq d d k := by
  refine ⟨hl, hl, ?_⟩
  rw [deq_self d hl.plainD]
  exact h
theorem rep_lst (xs : List D) (m : Nat) (k : D → Prop) (h1 : m ≤ 1000) (h2 : xs.length * m ≤ sizeLine) (h : k (.lst (List.replicate m xs).flatten)) : oRep (.lst xs) (.int m) k := by
  refine ⟨by omega, by omega, by simpa using h2, ?_⟩
  simpa using h
theorem r_eqS (s t : Str) (k : D → Prop) : oEqS (.str s) (.str t) k = k (.bl (decide (s = t))) := rfl
theorem r_neS (s t : Str) (k : D → Prop) : oNeS (.str s) (.str t) k = k (.bl (!decide (s = t))) := rfl
/-- one statement, then what it left -/
theorem seq_cut {a b : WS} {x : Xn} {k : Wk} {η : List Sl} {n : Nat} (P : List Sl → Nat → Prop) (h1 : ∀ nxt : List Sl → Nat → Prop, (∀ η' n', P η' n' → nxt η' n') → a x { k with nx := nxt } η n) (h2 : ∀ η' n', P η' n' → b x k η' n') : sSeq a b x k η n := h1 _ h2
theorem seq_to {a b : WS} {x : Xn} {k : Wk} {η η1 : List Sl} {n n1 : Nat} (h1 : ∀ nxt : List Sl → Nat → Prop, nxt η1 n1 → a x { k with nx := nxt } η n) (h2 : b x k η1 n1) : sSeq a b x k η n := h1 _ h2
end DL
set_option maxHeartbeats 4000000
namespace DL
open PySem PySem.Spec PyProof.Rows L2
/-! ### what the head tells of the law's 'said' -/
def hitsB (K : PySem.W.Frag) (D : Addr) : List (Addr × Str) → Option Str
  | [] => none
  | (C, z) :: r => match PySem.W.kitOne K (.ref D) (.ref C) with
    | some true => some z
    | some false => hitsB K D r
    | none => none
theorem hits_ok {K : PySem.W.Frag} {D : Addr} {z : Str} : ∀ {l : List (Addr × Str)}, hitsB K D l = some z → Hits K D l z
  | [], h => by cases h
  | (C, z') :: r, h => by
    unfold hitsB at h
    split at h
    · rename_i e
      cases h
      exact .hit e
    · rename_i e
      exact .miss e (hits_ok h)
    · cases h
def saidX (K : PySem.W.Frag) (excs : List Str) (tag : Str → Option Str) (cs : List Value) (l : List (Addr × Str)) : Bool :=
  excs.all fun cn => decide (PySem.W.exmAny K (.ref (He.ga K cn)) cs = some true) && decide (hitsB K (He.ga K cn) l = tag cn)
def nonX (K : PySem.W.Frag) (l : List (Addr × Str)) : Bool := l.all fun p => decide (PySem.W.kitOne K (.type "NoneType") (.ref p.1) = some false)
theorem saidX_ok {K : PySem.W.Frag} {excs : List Str} {tag : Str → Option Str} {cs : List Value} {l : List (Addr × Str)} (h : saidX K excs tag cs l = true) (hx : ∀ cn, cn ∈ excs → ExcX K cn ["given"]) (ht : ∀ cn z, tag cn = some z → cn ∈ excs) :
    ∀ cn z, tag cn = some z → ExQ K (He.ga K cn) ∧ PySem.W.findIn K (.ref (He.ga K cn)) "given" = some none ∧ PySem.W.exmAny K (.ref (He.ga K cn)) cs = some true ∧ Hits K (He.ga K cn) l z := fun cn z e => by
  have hm := ht cn z e
  have h1 := List.all_eq_true.mp h cn hm
  simp only [Bool.and_eq_true, decide_eq_true_eq] at h1
  exact ⟨(hx cn hm).q, (hx cn hm).n "given" (by simp), h1.1, hits_ok (h1.2.trans e)⟩
theorem nonX_ok {K : PySem.W.Frag} {l : List (Addr × Str)} (h : nonX K l = true) : ∀ p, p ∈ l → PySem.W.kitOne K (.type "NoneType") (.ref p.1) = some false := fun p hp => of_decide_eq_true (List.all_eq_true.mp h p hp)
theorem exM_of {P : Program} {wd : World} {K : PySem.W.Frag} {mg : Str → Option Value} {base : Heap} {cn : Str} {ps fl : List Str} {fd : FuncData} {k : Nat} (T : ExcX K cn fl) (g : mg cn = some (.ref (He.ga K cn))) (F : FnOk P wd K mg base CX0 k (He.ma K (He.ga K cn) "__init__") fd ps (spX K fl)) (b : Binds K fd ps []) : ExM P wd K mg base cn ps fl k :=
  ⟨_, fd, T.o, T.i, T.t, F, b, g, T.n⟩
theorem tabs_start {K : PySem.W.Frag} {H : Hp} (h : ∀ p, p ∈ (lamDefs.map fun q => He.cT K (q, none)) → H p.2 = some (.tbl #[])) : LamX.Tabs (TK K) H := fun p hp => by
  obtain ⟨q, hq, rfl⟩ := List.mem_map.1 hp
  exact LamX.TabS.nil (h _ (List.mem_map.2 ⟨q, hq, rfl⟩))
/-! ### the head's hook: tables of code objects, the interpreter's statics, one more Bool -/
def asY (g : Addr → Option Obj) (n : Nat) : List Addr := He.asD g n ++ [cStatics]
abbrev AlY : Type := He.AlD × Bool
def obsY (n : Nat) (fa : List He.Fa) (fn : List He.DefD) (tf : List He.Defn) (ex : PySem.W.Frag → Bool) (g : Addr → Option Obj) : AlY := (He.obsD fa fn (He.frT g (asY g n)), ex (He.frT g (asY g n)) && He.tabsB g tf (He.frT g (asY g n)))
structure SaysY (fa : List He.Fa) (fn : List He.DefD) (tf : List He.Defn) (ex : PySem.W.Frag → Bool) (h : Heap) (K : PySem.W.Frag) : Prop where
  d : He.SaysD fa fn K
  more : ex K = true
  hd : ∀ p ∈ tf, PySem.W.codeHdIn K (He.cT K p).1 (He.cT K p).2 = true
  out : ∀ p ∈ tf, K.lookup (He.cT K p).2 = none
  empty : ∀ p ∈ tf, h.get? (He.cT K p).2 = some { cls := .none, data := .fields #[] }
theorem saysY_of {n : Nat} {fa : List He.Fa} {fn : List He.DefD} {tf : List He.Defn} {ex : PySem.W.Frag → Bool} {h : Heap} (e : obsY n fa fn tf ex h.get? = (He.valD fn, true)) : SaysY fa fn tf ex h (He.frT h.get? (asY h.get? n)) := by
  have e1 : He.obsD fa fn (He.frT h.get? (asY h.get? n)) = He.valD fn := congrArg (fun z : AlY => z.1) e
  have e2 : (ex (He.frT h.get? (asY h.get? n)) && He.tabsB h.get? tf (He.frT h.get? (asY h.get? n))) = true := congrArg (fun z : AlY => z.2) e
  obtain ⟨h1, h2⟩ := He.ba e2
  have key : ∀ p ∈ tf, PySem.W.codeHdIn (He.frT h.get? (asY h.get? n)) (He.cT (He.frT h.get? (asY h.get? n)) p).1 (He.cT (He.frT h.get? (asY h.get? n)) p).2 = true ∧ ∃ o, h.get? (He.cT (He.frT h.get? (asY h.get? n)) p).2 = some o ∧ He.emptyTab o = true := fun p hp => by
    obtain ⟨h3, h4⟩ := He.ba (List.all_eq_true.mp h2 p hp)
    refine ⟨h3, ?_⟩
    cases q : h.get? (He.cT (He.frT h.get? (asY h.get? n)) p).2 with
    | none =>
      rw [q] at h4
      cases h4
    | some o =>
      rw [q] at h4
      exact ⟨o, rfl, h4⟩
  exact ⟨e1, h1, fun p hp => (key p hp).1, fun p hp => by
    obtain ⟨_, o, q, z⟩ := key p hp
    exact He.frT_none q z, fun p hp => by
    obtain ⟨_, o, q, z⟩ := key p hp
    rw [q, He.emptyTab_eq z]⟩
def hookY (n : Nat) (fa : List He.Fa) (fn : List He.DefD) (tf : List He.Defn) (ex : PySem.W.Frag → Bool) : PySem.W.Hook where
  α := AlY
  obs := fun s => obsY n fa fn tf ex s.heap.get?
  val := fun _ => (He.valD fn, true)
  says := fun _ h => ∃ K : PySem.W.Frag, K.In h ∧ SaysY fa fn tf ex h K
  of := fun _ _ e => ⟨_, He.frT_in, saysY_of e⟩
  keeps := fun _ _ _ ⟨K, hK, c⟩ k => ⟨K, PySem.W.Frag.In.keeps hK k, ⟨c.d, c.more, c.hd, c.out, fun p hp => k _ _ (c.empty p hp)⟩⟩
theorem obsY_eq {n : Nat} {fa : List He.Fa} {fn : List He.DefD} {tf : List He.Defn} {ex : PySem.W.Frag → Bool} {g : Addr → Option Obj} {s : Shared} (h : ∀ a, g a = s.heap.get? a) : obsY n fa fn tf ex g = (hookY n fa fn tf ex).obs s := by
  have e : g = s.heap.get? := funext h
  rw [e] <;> rfl
end DL
set_option maxHeartbeats 2000000
/-! ### texts: str(n), int(text), text * n, signs, split, f-strings -/
namespace DL
open PySem PySem.Spec PyProof.Rows L2
def sgn (c : Nat) : Str := ⟨#[c]⟩
section
variable {X : Cx} {E : XK} {pos : Pos}
/-- str(n) -/
def bStrI : OB := fun ds k => match ds with
  | [.int i] => i.natAbs.log2 < 1920 ∧ k (.str (toString i))
  | _ => False
theorem bd_strI : BD X (fun xs H Q => ∃ i, xs = [.int i] ∧ i.natAbs.log2 < 1920 ∧ Q (.str (toString i)) H) bStrI := by
  intro c vs ds k Q ok r h hQ
  unfold bStrI at h
  split at h
  · rename_i i
    cases r with
    | cons r1 r2 =>
      cases r2
      exact ⟨i, by rw [r1.int], h.1, hQ _ c _ h.2 rfl ok .refl (.str _)⟩
  · exact h.elim
/-- int(text) -/
def bIntS : OB := fun ds k => match ds with
  | [.str a] => a.length ≤ 640 ∧ ∃ n, PySem.intText? a = some n ∧ k (.int n)
  | _ => False
theorem bd_intS : BD X (fun xs H Q => ∃ a n, xs = [.str a] ∧ PySem.intText? a = some n ∧ a.length ≤ 640 ∧ Q (.int n) H) bIntS := by
  intro c vs ds k Q ok r h hQ
  unfold bIntS at h
  split at h
  · rename_i a
    obtain ⟨h1, n, h2, hk⟩ := h
    cases r with
    | cons r1 r2 =>
      cases r2
      exact ⟨a, n, by rw [r1.str], h2, h1, hQ _ c _ hk rfl ok .refl (.int _)⟩
  · exact h.elim
/-- text * n, two times or more -/
def strRep (x : Str) (n : Nat) : Str := ⟨(List.replicate n x.cps).foldl (· ++ ·) #[]⟩
theorem rep_size (x : Array Nat) : ∀ (n : Nat) (acc : Array Nat), ((List.replicate n x).foldl (· ++ ·) acc).size = acc.size + x.size * n
  | 0, acc => by simp
  | n + 1, acc => by
    rw [List.replicate_succ, List.foldl_cons, rep_size x n, Array.size_append, Nat.mul_succ]
    omega
theorem strRep_len (x : Str) (n : Nat) : (strRep x n).length = x.length * n := by
  show ((List.replicate n x.cps).foldl (· ++ ·) #[]).size = x.cps.size * n
  rw [rep_size]
  simp
def rMulS : R2 := fun x y H Q => ∃ (a : Str) (n : Nat), x = .str a ∧ y = .int (n : Int) ∧ 2 ≤ n ∧ 1 ≤ a.length ∧ a.length * n ≤ 100000 ∧ Q (.str (strRep a n)) H
theorem op_mulS : OpR X (binaryOp .Mult) rMulS := by
  intro pins s σ H x y v u Q I rx ry h
  obtain ⟨a, n, rfl, rfl, h2, h1, hl, q⟩ := h
  obtain ⟨t, rfl⟩ := rx
  obtain ⟨t', rfl⟩ := ry
  have hn : n ≤ 100000 := Nat.le_trans (by have := Nat.mul_le_mul h1 (Nat.le_refl n); omega) hl
  have hal : a.length ≤ 100000 := Nat.le_trans (by have := Nat.mul_le_mul (Nat.le_refl a.length) (show 1 ≤ n by omega); omega) hl
  have e1 : ((n : Int) == 1 || a.length == 0) = false := by
    rw [Bool.or_eq_false_iff, beq_eq_false_iff_ne, beq_eq_false_iff_ne]
    omega
  have hlong : Builtin.Str.tooLong (a.length * n) = false := by
    unfold Builtin.Str.tooLong
    rw [decide_eq_false_iff_not]
    have : (100000 : Nat) ≤ sizeLine := by decide
    omega
  refine PySem.P.mul_str ?_ (fun _ _ => ?_) (fun _ _ => ?_) ?_
  · rw [Bool.or_eq_false_iff, decide_eq_false_iff_not, decide_eq_false_iff_not]
    omega
  · have : ((2 : Int) ^ 63 - 1) / (n : Int) ≥ (2 ^ 63 - 1) / 100000 := by
      apply Int.le_ediv_of_mul_le (by omega)
      have h3 : ((2 : Int) ^ 63 - 1) / 100000 * (n : Int) ≤ ((2 : Int) ^ 63 - 1) / 100000 * 100000 := Int.mul_le_mul_of_nonneg_left (by omega) (by decide)
      exact Int.le_trans h3 (by decide)
    have h4 : ((2 : Int) ^ 63 - 1) / 100000 ≥ 100000 := by decide
    omega
  · rw [Int.toNat_natCast]
    exact hlong
  · rw [if_neg (by omega), if_neg (by rw [e1]; decide)]
    refine ⟨?_, .str _, H, I.tok _, ⟨_, rfl⟩, ?_⟩
    · rw [Int.toNat_natCast]
      have := strRep_len a n
      have h5 : (100000 : Nat) ≤ sizeLine := by decide
      show (strRep a n).length ≤ sizeLine
      omega
    · rw [Int.toNat_natCast]
      exact q
def oMulS : O2 := fun a b k => match a, b with
  | .str x, .int i => ∃ n : Nat, i = (n : Int) ∧ 2 ≤ n ∧ 1 ≤ x.length ∧ x.length * n ≤ 100000 ∧ k (.str (strRep x n))
  | _, _ => False
theorem opd_mulS : OpD X rMulS oMulS := by
  intro c v u a b k Q ok hT ra rb h hQ
  cases a <;> cases b <;> first | exact h.elim | skip
  rename_i x i
  obtain ⟨n, rfl, h2, h1, hl, hk⟩ := h
  exact ⟨x, n, ra.str, rb.int, h2, h1, hl, hQ _ c _ hk rfl ok .refl (.str _)⟩
/-- one sign in a text -/
def oInSg : O2 := fun a b k => match a, b with
  | .str x, .str z => ∃ c, x = sgn c ∧ k (.bl (decide (c ∈ z.cps.toList)))
  | _, _ => False
theorem opd_inSg : OpD X (fun x y H Q => ∃ (c : Nat) (z : Str), x = .str ⟨#[c]⟩ ∧ y = .str z ∧ Q (.bl (decide (c ∈ z.cps.toList))) H) oInSg := by
  intro c v u a b k Q ok hT ra rb h hQ
  cases a <;> cases b <;> first | exact h.elim | skip
  rename_i x z
  obtain ⟨d, rfl, hk⟩ := h
  exact ⟨d, z, ra.str, rb.str, hQ _ c _ hk rfl ok .refl (.bl _)⟩
/-- for a sign of a text -/
def iTx (w : WE) : WI := fun x η n R => w x η n fun d n1 => match d with
  | .str z => R (z.cps.toList.map fun c => .str (sgn c)) n1
  | _ => False
theorem iter_tx {K : PySem.W.Frag} {c : Cf} (z : Str) : IterOk K (Its z) c (z.cps.toList.map fun c => .str (sgn c)) := fun i c1 ok1 l1 => by
  refine ⟨fun d hd => ?_, fun hi => ?_⟩
  · rw [List.getElem?_map] at hd
    cases he : z.cps.toList[i]? with
    | none =>
      rw [he] at hd
      cases hd
    | some a =>
      rw [he] at hd
      have ed : D.str (sgn a) = d := Option.some.inj hd
      subst ed
      have hlt : i < z.cps.toList.length := (List.getElem?_eq_some_iff.1 he).1
      refine ⟨by show i < z.cps.size; simpa using hlt, fun v H2 hy => ?_⟩
      obtain ⟨rfl, b, hb, rfl⟩ := hy
      have eb : b = a := by
        rw [Array.getElem?_toList] at he
        rw [hb] at he
        exact Option.some.inj he
      subst eb
      exact ⟨c1, rfl, rfl, ok1, .refl, .str _⟩
  · show z.cps.size ≤ i
    simpa using hi
theorem qi_tx {tg l : Expr} {w : WE} (h : PE X l (up X.K E w)) : PI X tg l (upI X.K E (iTx w)) := pi_to (pi_str h) fun σ H Q q => by
  obtain ⟨c, η, R, x, e1, ok, en, hw, hr, hx⟩ := q
  refine ⟨c, η, _, x, e1, ok, en, hw, fun d c' v hd ok' l' rp => ?_, hx⟩
  cases rp <;> first | exact hd.elim | skip
  rename_i z
  exact ⟨z, rfl, hr _ c' _ hd ok' l' (iter_tx z)⟩
/-- text.split(sep): a new list -/
def eSplit (w1 w2 : WE) : WE := fun x η n R => w1 x η n fun a n1 => match a with
  | .str s => w2 x η n1 fun b n2 => match b with
    | .str t => (t.length == 0) = false ∧ s.length + 2 ≤ sizeLine ∧ R (.lst ((Txt.split s t).map D.str)) n2
    | _ => False
  | _ => False
theorem rpl_strs {K : PySem.W.Frag} {dr : Addr} {F : Hp} : ∀ (l : List Str), RpL K dr F (l.map V.str) (l.map D.str)
  | [] => .nil
  | a :: l => .cons (.str a) (rpl_strs l)
theorem q_split {o e : Expr} {w1 w2 : WE} {apos : Pos} (ho : PE X o (up X.K E w1)) (he : PE X e (up X.K E w2)) (hs : starEach [e] X.env = [(false, eval e X.env)] := by rfl) (hbase : attributeBase o "split" X.env (eval o X.env) = eval o X.env := by rfl) (hline : (apos.endLine == pos.line) = true := by rfl) :
    PE X (.Call (.Attribute o "split" apos) [e] [] pos) (up X.K E (eSplit w1 w2)) := pe_to (pe_split ho he hs hbase hline) fun σ H Q q => by
  obtain ⟨c, η, R, x, e1, ok, en, hw, hr, hx⟩ := q
  refine ⟨c, η, _, x, e1, ok, en, hw, fun a c1 v h1 ok1 l1 r1 => ?_, hx⟩
  cases a <;> first | exact h1.elim | skip
  rename_i s
  cases r1
  refine ⟨⟨s, rfl⟩, c1, η, _, x, rfl, ok1, en.le l1, h1, fun b c2 u h2 ok2 l2 r2 => ?_, hx.le l1⟩
  cases b <;> first | exact h2.elim | skip
  rename_i t
  cases r2
  obtain ⟨z1, z2, hR⟩ := h2
  refine ⟨s, t, rfl, rfl, z1, z2, fun p hp => ?_⟩
  obtain ⟨ok3, l3⟩ := ok2.newF (o := .lst ((Txt.split s t).map V.str)) hp
  exact hr _ ⟨c2.dr, upd c2.F p _, upd c2.H p _, c2.n, c2.T⟩ _ hR ok3 ((l1.trans l2).trans l3) (.lst upd_same (rpl_strs _))
/-- f"{a}/{b}": ints and texts -/
def fmtD (d : D) (k : Str → Prop) : Prop := match d with
  | .int i => i.natAbs.log2 < 1920 ∧ k (toString i)
  | .str s => s.length ≤ sizeLine ∧ k s
  | _ => False
def eFm (w : WE) : WE := fun x η n R => w x η n fun d n1 => fmtD d fun s => R (.str s) n1
theorem q_fm {e : Expr} {w : WE} (h : PE X e (up X.K E w)) : PE X (.FormattedValue e (-1) none pos) (up X.K E (eFm w)) := pe_to (pe_fmt h) fun σ H Q q => by
  obtain ⟨c, η, R, x, e1, ok, en, hw, hr, hx⟩ := q
  refine ⟨c, η, _, x, e1, ok, en, hw, fun a c1 v h1 ok1 l1 r1 => ?_, hx⟩
  cases a <;> first | exact h1.elim | skip
  · rename_i i
    cases r1
    exact .inr ⟨i, rfl, h1.1, hr _ c1 _ h1.2 ok1 l1 (.str _)⟩
  · rename_i s
    cases r1
    exact .inl ⟨s, rfl, h1.1, hr _ c1 _ h1.2 ok1 l1 (.str _)⟩
/-- f-strings of three parts -/
def tSt (d : D) (k : Str → Prop) : Prop := match d with
  | .str s => k s
  | _ => False
def eJ3 (w1 w2 w3 : WE) : WE := fun x η n R => w1 x η n fun a n1 => tSt a fun s1 => (Str.empty ++ s1).length ≤ sizeLine ∧ w2 x η n1 fun b n2 => tSt b fun s2 => (Str.empty ++ s1 ++ s2).length ≤ sizeLine ∧ w3 x η n2 fun c n3 => tSt c fun s3 => (Str.empty ++ s1 ++ s2 ++ s3).length ≤ sizeLine ∧ R (.str (Str.empty ++ s1 ++ s2 ++ s3)) n3
theorem q_j3 {v1 v2 v3 : Expr} {w1 w2 w3 : WE} (h1 : PE X v1 (up X.K E w1)) (h2 : PE X v2 (up X.K E w2)) (h3 : PE X v3 (up X.K E w3)) : PE X (.JoinedStr [v1, v2, v3] pos) (up X.K E (eJ3 w1 w2 w3)) := pe_to (pe_joined (.cons h1 (.cons h2 (.cons h3 .nil)))) fun σ H Q q => by
  obtain ⟨c, η, R, x, e1, ok, en, hw, hr, hx⟩ := q
  refine ⟨c, η, _, x, e1, ok, en, hw, fun a c1 v g1 ok1 l1 r1 => ?_, hx⟩
  cases a <;> first | exact g1.elim | skip
  cases r1
  refine ⟨_, rfl, g1.1, c1, η, _, x, rfl, ok1, en.le l1, g1.2, fun b c2 u g2 ok2 l2 r2 => ?_, hx.le l1⟩
  cases b <;> first | exact g2.elim | skip
  cases r2
  refine ⟨_, rfl, g2.1, c2, η, _, x, rfl, ok2, (en.le l1).le l2, g2.2, fun d c3 u3 g3 ok3 l3 r3 => ?_, (hx.le l1).le l2⟩
  cases d <;> first | exact g3.elim | skip
  cases r3
  exact ⟨_, rfl, g3.1, hr _ c3 _ g3.2 ok3 ((l1.trans l2).trans l3) (.str _)⟩
end
end DL
set_option maxHeartbeats 2000000
/-! ### own binary operators -/
namespace PySem.W
open PySem PySem.Calls PyProof.Rows Builtin
section
variable {prog : Program} {w : World} {A : Around} {E : Value → Shared → Prop} {s : Shared} {K : Frag} {x C L f r : Addr} {h₀ : Heap} {m : Str → Option Value} {ox : Obj} {od : Option Obj}
/-- the class fills a number slot in Python -/
theorem inPy_K {M : Model} {h : Heap} {nm : String} {rv : Option Value} (X : K.In h) (hs : findIn K (.ref C) (PySem.dunder nm) = some (some (.ref f))) (hr : findIn K (.ref C) (dunderR nm) = some rv) (hrv : ∀ id, rv ≠ some (.builtin id)) : Looks M h (numberSlotInPython (.ref C) nm) true := by
  intro A Q E s k q
  unfold numberSlotInPython
  refine wpAny_bind (looks_findIn X hs A _ E s k ?_)
  refine wpAny_bind (wpAny_pure ?_)
  refine wpAny_bind (looks_findIn X hr A _ E s k ?_)
  have e : calledByName (.ref C) (dunderR nm) rv = pure rv.isSome := by
    cases rv with
    | none => rfl
    | some v =>
      cases v <;> first | rfl | exact absurd rfl (hrv _)
  rw [e]
  refine wpAny_bind (wpAny_pure ?_)
  rw [if_pos (by simp)]
  exact wpAny_pure q
/-- x * n, x an instance with its own method, n an int -/
theorem mulI_K {n : Int} {t : Tok} {Q : Value → Shared → Prop} {rv : Option Value} (F : Fr h₀ L s.heap m) (X₀ : K.In h₀) (I : InstAt s.heap x ox C od) (hc : selfFirst K C = true)
    (hs : findIn K (.ref C) (PySem.dunder "mul") = some (some (.ref f))) (hf : isFn K (.ref f) = true) (hr : findIn K (.ref C) (dunderR "mul") = some rv) (hrv : ∀ id, rv ≠ some (.builtin id))
    (h : wpAny (model prog w) A (call (.ref f) [.ref x, .int n t]) (CmpBack Q) E s) : wpAny (model prog w) A (binaryOp .Mult (.ref x) (.int n t)) Q E s := by
  have X := X₀.keeps F.keep
  obtain ⟨cd, hcd, hm⟩ := any_some hc
  obtain ⟨rest, hm⟩ : ∃ rest, cd.mro = .ref C :: rest := by
    cases q : cd.mro with
    | nil => rw [q] at hm; cases hm
    | cons a r => rw [q] at hm; exact ⟨r, by rw [List.head?_cons] at hm; cases (beq_iff_eq.mp hm); rfl⟩
  unfold binaryOp
  refine wpAny_holding (wpAny_bind ?_)
  show wpAny (model prog w) A (binaryOp1 "mul" (.ref x) (.int n t)) _ _ _
  unfold binaryOp1
  refine wpAny_bind (I.type.here (wpAny_bind (wpAny_typeOf (typeIs_int s n t) (wpAny_bind ((fills_K X hcd hm hs).here ?_)))))
  rw [show (Value.ref C == Value.type "int") = false from rfl]
  simp only [Bool.false_eq_true, if_false]
  refine wpAny_bind (wpAny_of_eq PySem.F.fills_int_mul ?_)
  simp only [Bool.and_self, if_true]
  refine wpAny_bind ((looks_subIn (K := K) X (t := .type "int") (base := .ref C) (r := false) rfl).here ?_)
  simp only [Bool.false_eq_true, if_false, Bool.not_false, Bool.and_self, if_true, pure_bind, bind_assoc]
  refine wpAny_bind ((inPy_K X hs hr hrv).here ?_)
  simp only [if_true]
  refine wpAny_bind (wpAny_of_eq (show numberSlotInPython (.type "int") "mul" = pure false from rfl) ?_)
  simp only [Bool.not_false, if_true]
  refine wpAny_bind (wpAny_of_eq PySem.F.slot_int_rmul.lookup ?_)
  refine wpAny_bind (m := tryMethod (.ref x) _ (.int n t)) ?_
  unfold tryMethod
  refine wpAny_bind (special_fn X I hs (beq_iff_eq.mp hf) (wpAny_mono h (fun v s' hv => ?_) fun _ _ e => e))
  cases v <;> first | exact hv.elim | exact wpAny_pure (wpAny_pure (wpAny_pure hv))
theorem intMul_inst {a : Int} {t : Tok} {dd : Option Addr} {cl : Value} {sl : Array (Option Value)} : Meets (Builtin.«int.__mul__» ⟨[.int a t, .ref x], []⟩) (fun _ R s => s.heap.get? x = some { cls := cl, dict := dd, data := .plain, slots := sl } ∧ R (.ok (.ret Value.notImplemented)) s) :=
  .of_wp fun prog w A R s h => by obtain ⟨hp, g, d, tk, os⟩ := s; obtain ⟨hl, h⟩ := h; wp_walk; exact ⟨_, rfl, h⟩
/-- n * x, x an instance with its own reflected method, n an int -/
theorem rmulI_K {n : Int} {t : Tok} {Q : Value → Shared → Prop} (F : Fr h₀ L s.heap m) (X₀ : K.In h₀) (I : InstAt s.heap x ox C od) (hdat : ox.data = .plain) (hc : selfFirst K C = true)
    (hs : findIn K (.ref C) (PySem.dunder "mul") = some (some (.ref f))) (hr : findIn K (.ref C) (dunderR "mul") = some (some (.ref r))) (hf : isFn K (.ref r) = true) (hsub : subIn K (.ref C) (.type "int") = some false)
    (h : wpAny (model prog w) A (call (.ref r) [.ref x, .int n t]) (CmpBack Q) E s) : wpAny (model prog w) A (binaryOp .Mult (.int n t) (.ref x)) Q E s := by
  have X := X₀.keeps F.keep
  obtain ⟨cd, hcd, hm⟩ := any_some hc
  obtain ⟨rest, hm⟩ : ∃ rest, cd.mro = .ref C :: rest := by
    cases q : cd.mro with
    | nil => rw [q] at hm; cases hm
    | cons a r => rw [q] at hm; exact ⟨r, by rw [List.head?_cons] at hm; cases (beq_iff_eq.mp hm); rfl⟩
  unfold binaryOp
  refine wpAny_holding (wpAny_bind ?_)
  show wpAny (model prog w) A (binaryOp1 "mul" (.int n t) (.ref x)) _ _ _
  unfold binaryOp1
  refine wpAny_bind (wpAny_typeOf (typeIs_int s n t) (wpAny_bind (I.type.here (wpAny_bind (wpAny_of_eq PySem.F.fills_int_mul ?_)))))
  rw [show (Value.type "int" == Value.ref C) = false from rfl]
  simp only [Bool.false_eq_true, if_false]
  refine wpAny_bind ((fills_K X hcd hm hs).here ?_)
  simp only [Bool.and_self, if_true]
  refine wpAny_bind ((looks_subIn X hsub).here ?_)
  simp only [Bool.false_eq_true, if_false, Bool.not_false, Bool.and_self, if_true, pure_bind, bind_assoc]
  refine wpAny_bind (wpAny_of_eq (show numberSlotInPython (.type "int") "mul" = pure false from rfl) ?_)
  simp only [Bool.false_eq_true, if_false, if_true]
  refine wpAny_bind (m := tryMethod (.int n t) _ (.ref x)) ?_
  refine PySem.wpAny_tryMethod_declines (typeIs_int s n t) PySem.F.slot_int_mul (wpAny_mono (Q := fun v s' => v = .notImplemented ∧ s' = s) ?_ (fun v s' z => ⟨z.1, ?_⟩) fun _ _ e => e)
  · obtain ⟨cl, dd, dt, sl⟩ := ox
    have e : dt = .plain := hdat
    subst e
    exact PySem.call_meets PySem.F.slot_int_mul (typeIs_int s n t) PySem.F.entry_int_mul (PySem.F.args_int_mul_2 _ _) intMul_inst ⟨I.at_, rfl, rfl⟩
  · rw [z.2]
    refine wpAny_bind (m := tryMethod (.ref x) _ (.int n t)) ?_
    unfold tryMethod
    refine wpAny_bind (special_fn X I hr (beq_iff_eq.mp hf) (wpAny_mono h (fun v s' hv => ?_) fun _ _ e => e))
    cases v <;> first | exact hv.elim | exact wpAny_pure (wpAny_bind (wpAny_rule (wpAny_pure (wpAny_pure hv))))
end
end PySem.W
set_option maxHeartbeats 2000000
/-! ### own operators on data -/
namespace DL
open PySem PySem.Spec PyProof.Rows L2
theorem cmpBack_rel {Q : Value → Shared → Prop} {z : V} {w : Value} {s : Shared} (r : RelV z w) (q : Q w s) : PySem.W.CmpBack Q w s := by
  cases z with
  | non => cases r; exact q
  | bl b => cases r; exact q
  | int i => obtain ⟨t, rfl⟩ := r; exact q
  | str x => obtain ⟨t, rfl⟩ := r; exact q
  | byt x => obtain ⟨t, rfl⟩ := r; exact q
  | flt x => obtain ⟨t, rfl⟩ := r; exact q
  | ref a => cases r; exact q
  | ty n => cases r; exact q
section
variable {X : Cx} {E : XK} {CX : CXT}
theorem own_runX {k : Nat} {f : Addr} {fd : FuncData} {ps : List Str} {sp : Sp} {A : Around} {pins : List (Addr × Obj)} {s : Shared} {σ : L2.St} {H : Hp} {vs : List V} {us : List Value} {Qv : VK} {Q : Value → Shared → Prop} (F : FnOk X.prog X.w X.K X.mg X.base CX k f fd ps sp) (hb : Binds X.K fd ps []) (hr : Room k A) (hA : A.frames = X.A.frames) (hx : Passes CX X E) (I : Inv X pins σ H s)
    (r2 : Vals vs us) (hsp : sp vs H Qv E) (hq : ∀ v u H' s', Inv X pins σ H' s' → RelV v u → Qv v H' → Q u s') : wpAny (model X.prog X.w) A (call (.ref f) us) Q X.xe s := by
  have e0 : Env0 X.prog X.w X.K X.mg X.base A X.stack s H := by
    have e := I.env0
    exact ⟨by rw [hA]; exact e.frames, e.mod, e.bs, e.bsz, e.funs, e.frf, e.hok, e.bare⟩
  have hl := F.len _ _ _ _ hsp
  refine wpAny_call (codeAny_mono (F.run A X.stack s H ⟨us, []⟩ us vs _ E hr e0 (by
    have := hb s us I.kIn (by rw [List.append_nil, ← r2.length]; exact hl)
    simpa using this) r2 hsp) fun r s' hq' => ?_)
  cases r with
  | error e => exact hx pins σ H s e s' I hq'
  | ok fl =>
    cases fl with
    | ret w =>
      obtain ⟨z, H', I', rz, qz⟩ := I.after hq'
      exact hq z w H' s' I' rz qz
    | next => exact False.elim hq'
    | brk => exact False.elim hq'
    | cont => exact False.elim hq'
/-- what of the text an own operator asks -/
structure OpK (K : PySem.W.Frag) (C f : Addr) (nm : String) : Prop where
  sf : PySem.W.selfFirst K C = true
  at_ : PySem.W.findIn K (.ref C) (PySem.dunder nm) = some (some (.ref f))
  fn : PySem.W.isFn K (.ref f) = true
def rOwn2 (C : Addr) (sp : Sp) (E : XK) : R2 := fun x y H Q => ∃ a b dx dy fs gs, x = .ref a ∧ y = .ref b ∧ H a = some (.ins C dx fs) ∧ H b = some (.ins C dy gs) ∧ sp [x, y] H Q E
theorem op_own2 {op : Operator} {k : Nat} {f C : Addr} {fd : FuncData} {ps : List Str} {sp : Sp} (F : FnOk X.prog X.w X.K X.mg X.base CX k f fd ps sp) (O : OpK X.K C f op.info.2) (hb : Binds X.K fd ps []) (hr : Room k X.A) (hx : Passes CX X E) : OpR X (binaryOp op) (rOwn2 C sp E) := by
  intro pins s σ H x y v u Q I rx ry h
  obtain ⟨a, b, dx, dy, fs, gs, rfl, rfl, ha, hb', hsp⟩ := h
  cases rx
  cases ry
  obtain ⟨mA, J, _⟩ := ins_get I.hok ha
  obtain ⟨mB, J', _⟩ := ins_get I.hok hb'
  obtain ⟨od, J, _⟩ := J.look
  obtain ⟨od', J', _⟩ := J'.look
  obtain ⟨m, hF⟩ := I.fr
  refine PySem.W.binop_K hF I.ok.mod.kin J J'.type O.sf O.at_ O.fn ?_
  exact own_runX F hb hr rfl hx I (show Vals [V.ref a, V.ref b] [Value.ref a, Value.ref b] from .cons rfl (.cons rfl .nil)) hsp fun v u H' s' I' rv qv => cmpBack_rel rv ⟨v, H', I', rv, qv⟩
/-- x * n -/
structure MulK (K : PySem.W.Frag) (C f r : Addr) : Prop where
  o : OpK K C f "mul"
  rt : PySem.W.findIn K (.ref C) (dunderR "mul") = some (some (.ref r))
  rf : PySem.W.isFn K (.ref r) = true
  ni : PySem.W.subIn K (.ref C) (.type "int") = some false
def rOwnI (C : Addr) (sp : Sp) (E : XK) : R2 := fun x y H Q => ∃ a dx fs n, x = .ref a ∧ y = .int n ∧ H a = some (.ins C dx fs) ∧ sp [x, y] H Q E
theorem op_mulI {k : Nat} {f r C : Addr} {fd : FuncData} {ps : List Str} {sp : Sp} (F : FnOk X.prog X.w X.K X.mg X.base CX k f fd ps sp) (O : MulK X.K C f r) (hb : Binds X.K fd ps []) (hr : Room k X.A) (hx : Passes CX X E) : OpR X (binaryOp .Mult) (rOwnI C sp E) := by
  intro pins s σ H x y v u Q I rx ry h
  obtain ⟨a, dx, fs, n, rfl, rfl, ha, hsp⟩ := h
  cases rx
  obtain ⟨t, rfl⟩ := ry
  obtain ⟨mA, J, _⟩ := ins_get I.hok ha
  obtain ⟨od, J, _⟩ := J.look
  obtain ⟨m, hF⟩ := I.fr
  refine PySem.W.mulI_K hF I.ok.mod.kin J O.o.sf O.o.at_ O.o.fn O.rt (fun id => nofun) ?_
  exact own_runX F hb hr rfl hx I (show Vals [V.ref a, V.int n] [Value.ref a, Value.int n t] from .cons rfl (.cons ⟨t, rfl⟩ .nil)) hsp fun v u H' s' I' rv qv => cmpBack_rel rv ⟨v, H', I', rv, qv⟩
/-- n * x -/
def rOwnR (C : Addr) (sp : Sp) (E : XK) : R2 := fun x y H Q => ∃ a dx fs n, y = .ref a ∧ x = .int n ∧ H a = some (.ins C dx fs) ∧ sp [y, x] H Q E
theorem op_rmulI {k : Nat} {f r C : Addr} {fd : FuncData} {ps : List Str} {sp : Sp} (F : FnOk X.prog X.w X.K X.mg X.base CX k r fd ps sp) (O : MulK X.K C f r) (hb : Binds X.K fd ps []) (hr : Room k X.A) (hx : Passes CX X E) : OpR X (binaryOp .Mult) (rOwnR C sp E) := by
  intro pins s σ H x y v u Q I rx ry h
  obtain ⟨a, dx, fs, n, rfl, rfl, ha, hsp⟩ := h
  cases ry
  obtain ⟨t, rfl⟩ := rx
  obtain ⟨mA, J, hpl⟩ := ins_get I.hok ha
  obtain ⟨od, J, _⟩ := J.look
  obtain ⟨m, hF⟩ := I.fr
  refine PySem.W.rmulI_K hF I.ok.mod.kin J rfl O.o.sf O.o.at_ O.rt O.rf O.ni ?_
  exact own_runX F hb hr rfl hx I (show Vals [V.ref a, V.int n] [Value.ref a, Value.int n t] from .cons rfl (.cons ⟨t, rfl⟩ .nil)) hsp fun v u H' s' I' rv qv => cmpBack_rel rv ⟨v, H', I', rv, qv⟩
end
end DL
set_option maxHeartbeats 2000000
/-! ### sleeping generators are left alone by what does not wake them -/
namespace DL
open PySem PyProof.Rows
/-- a sleeper in whose place nothing can go on -/
def poison : GenState → GenState
  | .suspended _ l c p fs cl => .suspended (fun _ => .unsupported "") l c p fs cl
  | x => x
theorem poison_seen (x : GenState) : (poison x).seen = x.seen := by cases x <;> rfl
/-- which of the generators sleep, and how -/
abbrev Slp := Nat → Option GenState
def real (P : Slp) (s : Shared) : Shared := { s with gens := s.gens.mapIdx fun i x => (P i).getD x }
structure SlpOk (P : Slp) (s : Shared) : Prop where
  at_ : ∀ i x, P i = some x → s.gens[i]? = some (poison x) ∧ ∃ k l c p fs cl, x = .suspended k l c p fs cl
  fr : ∀ i k l c p fs cl, P i = none → s.gens[i]? = some (.suspended k l c p fs cl) → splitAtGen fs = none
section
variable {P : Slp} {s : Shared}
theorem real_get (i : Nat) : (real P s).gens[i]? = (s.gens[i]?).map fun x => (P i).getD x := by
  show (s.gens.mapIdx fun i x => (P i).getD x)[i]? = _
  rw [Array.getElem?_mapIdx]
theorem real_size : (real P s).gens.size = s.gens.size := by
  show (s.gens.mapIdx _).size = _
  rw [Array.size_mapIdx]
theorem real_none {i : Nat} {x : GenState} (h : P i = none) (e : s.gens[i]? = some x) : (real P s).gens[i]? = some x := by
  rw [real_get, e, h]
  rfl
theorem real_setGen {g : Nat} {x : GenState} (h : P g = none) : real P (s.setGen g x) = (real P s).setGen g x := by
  have e : (s.gens.setIfInBounds g x).mapIdx (fun i x => (P i).getD x) = (s.gens.mapIdx fun i x => (P i).getD x).setIfInBounds g x := by
    apply Array.ext_getElem?
    intro i
    rw [Array.getElem?_mapIdx, Array.getElem?_setIfInBounds, Array.getElem?_setIfInBounds, Array.getElem?_mapIdx, Array.size_mapIdx]
    by_cases hi : g = i
    · subst hi
      by_cases hl : g < s.gens.size
      · simp [hl, h]
      · simp [hl]
    · simp [hi]
  show ({ s with gens := (s.gens.setIfInBounds g x).mapIdx (fun i x => (P i).getD x) } : Shared) = { s with gens := (s.gens.mapIdx fun i x => (P i).getD x).setIfInBounds g x }
  rw [e]
theorem real_push {x : GenState} (h : P s.gens.size = none) : real P { s with gens := s.gens.push x } = { real P s with gens := (real P s).gens.push x } := by
  have e : (s.gens.push x).mapIdx (fun i x => (P i).getD x) = (s.gens.mapIdx fun i x => (P i).getD x).push x := by
    apply Array.ext_getElem?
    intro i
    rw [Array.getElem?_mapIdx, Array.getElem?_push, Array.getElem?_push, Array.getElem?_mapIdx, Array.size_mapIdx]
    by_cases hi : i = s.gens.size
    · subst hi
      simp [h]
    · simp [hi]
  show ({ s with gens := (s.gens.push x).mapIdx (fun i x => (P i).getD x) } : Shared) = { s with gens := (s.gens.mapIdx fun i x => (P i).getD x).push x }
  rw [e]
theorem SlpOk.free (o : SlpOk P s) : P s.gens.size = none := by
  cases e : P s.gens.size with
  | none => rfl
  | some x =>
    have := (o.at_ _ _ e).1
    simp at this
theorem SlpOk.ne (o : SlpOk P s) {g : Nat} {x : GenState} (e : s.gens[g]? = some x) (hx : ∀ k l c p fs cl, x ≠ .suspended k l c p fs cl) : P g = none := by
  cases h : P g with
  | none => rfl
  | some y =>
    obtain ⟨h1, k, l, c, p, fs, cl, rfl⟩ := o.at_ _ _ h
    rw [h1] at e
    exact absurd (Option.some.inj e).symm (hx _ _ _ _ _ _)
theorem SlpOk.set (o : SlpOk P s) {g : Nat} {x : GenState} (h : P g = none) (hx : ∀ k l c p fs cl, x = .suspended k l c p fs cl → splitAtGen fs = none) : SlpOk P (s.setGen g x) := by
  refine ⟨fun i y e => ?_, fun i k l c p fs cl e q => ?_⟩
  · obtain ⟨h1, h2⟩ := o.at_ i y e
    refine ⟨?_, h2⟩
    show (s.gens.setIfInBounds g x)[i]? = _
    have hg : g ≠ i := fun z => by
      rw [z, e] at h
      cases h
    rw [Array.getElem?_setIfInBounds_ne hg]
    exact h1
  · have q' : (s.gens.setIfInBounds g x)[i]? = some (.suspended k l c p fs cl) := q
    by_cases hg : g = i
    · subst hg
      rw [Array.getElem?_setIfInBounds, if_pos rfl] at q'
      by_cases hl : g < s.gens.size
      · rw [if_pos hl] at q'
        exact hx _ _ _ _ _ _ (Option.some.inj q')
      · rw [if_neg hl] at q'
        cases q'
    · rw [Array.getElem?_setIfInBounds_ne hg] at q'
      exact o.fr i k l c p fs cl e q'
theorem SlpOk.push (o : SlpOk P s) {c : Code} : SlpOk P { s with gens := s.gens.push (.fresh c) } := by
  refine ⟨fun i y e => ?_, fun i k l c' p fs cl e q => ?_⟩
  · obtain ⟨h1, h2⟩ := o.at_ i y e
    refine ⟨?_, h2⟩
    have hl : i < s.gens.size := (Array.getElem?_eq_some_iff.1 h1).1
    show (s.gens.push _)[i]? = _
    rw [Array.getElem?_push, if_neg (by omega)]
    exact h1
  · have q' : (s.gens.push (.fresh c))[i]? = some (.suspended k l c' p fs cl) := q
    rw [Array.getElem?_push] at q'
    split at q'
    · cases q'
    · exact o.fr i k l c' p fs cl e q'
theorem SlpOk.of {t : Shared} (o : SlpOk P s) (h : t.gens = s.gens) : SlpOk P t := ⟨fun i x e => by rw [h]; exact o.at_ i x e, fun i k l c p fs cl e q => o.fr i k l c p fs cl e (by rw [← h]; exact q)⟩
end
/-- the frames that a sleeper keeps hold no generator's -/
def EndOk : End → Prop
  | .ret _ => True
  | .susp _ _ _ _ _ _ fs => splitAtGen fs = none
theorem split_append : ∀ (a b : List Frame), splitAtGen a = none → splitAtGen b = none → splitAtGen (a ++ b) = none
  | [], _, _, h => h
  | .ret k h g l c p kp :: a, b, h1, h2 => by
    have q : (splitAtGen a).map (fun x => (Frame.ret k h g l c p kp :: x.1, x.2.1, x.2.2)) = none := h1
    rw [Option.map_eq_none_iff] at q
    show (splitAtGen (a ++ b)).map _ = none
    rw [split_append a b q h2]
    rfl
  | .gen g k l c p :: a, b, h1, _ => by cases h1
theorem split_tail {k h g l c p kp} {fs : List Frame} (e : splitAtGen (.ret k h g l c p kp :: fs) = none) : splitAtGen fs = none := by
  have q : (splitAtGen fs).map (fun x => (Frame.ret k h g l c p kp :: x.1, x.2.1, x.2.2)) = none := e
  rwa [Option.map_eq_none_iff] at q
theorem no_unsup {M : Model} {Γ : Ctx} {p : Pos} {w : String} {fs : List Frame} {s s' : Shared} {e : End} (h : Runs M Γ p (.unsupported w) fs s e s') : False := by
  cases h with
  | segRet h _ => cases h
  | segGen h _ => cases h
  | segSuspOut _ h => cases h
  | segSuspGen _ h _ _ => cases h
theorem gen_ok {e : End} (b : EndOk e) : ∀ k l c p fs cl, e.genState = .suspended k l c p fs cl → splitAtGen fs = none := by
  intro k l c p fs cl z
  cases e with
  | ret _ => cases z
  | susp _ _ _ _ _ _ _ =>
    injection z with _ _ _ _ z _
    rw [← z]
    exact b
theorem seen_real {P : Slp} {s : Shared} {g : Nat} {st : GenState} (q : s.gens[g]? = some st) (o : SlpOk P s) : ∃ st', (real P s).gens[g]? = some st' ∧ st'.seen = st.seen := by
  cases hg : P g with
  | none => exact ⟨st, real_none hg q, rfl⟩
  | some y =>
    obtain ⟨h1, _⟩ := o.at_ g y hg
    have e1 : st = poison y := Option.some.inj (q.symm.trans h1)
    refine ⟨y, by rw [real_get, q, hg]; rfl, ?_⟩
    rw [e1, poison_seen]
theorem runs_real {M : Model} {P : Slp} {Γ : Ctx} {p : Pos} {t : Sem PySem.Fin} {fs : List Frame} {s s' : Shared} {e : End} (h : Runs M Γ p t fs s e s') :
    splitAtGen fs = none → SlpOk P s → SlpOk P s' ∧ EndOk e ∧ Runs M Γ p t fs (real P s) e (real P s') := by
  induction h with
  | done => exact fun _ o => ⟨o, trivial, .done⟩
  | raise => exact fun _ o => ⟨o, trivial, .raise⟩
  | again q _ ih => exact fun _ o => let ⟨a, b, c⟩ := ih rfl o; ⟨a, b, .again q c⟩
  | rule _ ih => exact fun _ o => let ⟨a, b, c⟩ := ih rfl o; ⟨a, b, .rule c⟩
  | «at» _ ih => exact fun _ o => let ⟨a, b, c⟩ := ih rfl o; ⟨a, b, .at c⟩
  | load q _ ih => exact fun _ o => let ⟨a, b, c⟩ := ih rfl o; ⟨a, b, .load q c⟩
  | update q _ ih => exact fun _ o => let ⟨a, b, c⟩ := ih rfl (o.of rfl); ⟨a, b, .update q c⟩
  | loadIfAlive _ ih => exact fun _ o => let ⟨a, b, c⟩ := ih rfl o; ⟨a, b, .loadIfAlive c⟩
  | point _ ih => exact fun _ o => let ⟨a, b, c⟩ := ih rfl o; ⟨a, b, .point c⟩
  | alloc _ ih => exact fun _ o => let ⟨a, b, c⟩ := ih rfl (o.of rfl); ⟨a, b, .alloc c⟩
  | fresh _ ih => exact fun _ o => let ⟨a, b, c⟩ := ih rfl (o.of rfl); ⟨a, b, .fresh c⟩
  | ask _ ih => exact fun _ o => let ⟨a, b, c⟩ := ih rfl o; ⟨a, b, .ask c⟩
  | choose q _ ih => exact fun _ o => let ⟨a, b, c⟩ := ih rfl (o.of rfl); ⟨a, b, .choose q c⟩
  | os _ ih => exact fun _ o => let ⟨a, b, c⟩ := ih rfl (o.of rfl); ⟨a, b, .os c⟩
  | handled _ ih => exact fun _ o => let ⟨a, b, c⟩ := ih rfl o; ⟨a, b, .handled c⟩
  | genState q _ ih =>
    intro _ o
    obtain ⟨a, b, c⟩ := ih rfl o
    obtain ⟨st, h1, h2⟩ := seen_real q o
    exact ⟨a, b, .genState h1 (by rw [h2]; exact c)⟩
  | stack _ ih => exact fun _ o => let ⟨a, b, c⟩ := ih rfl o; ⟨a, b, .stack c⟩
  | thread _ ih => exact fun _ o => let ⟨a, b, c⟩ := ih rfl o; ⟨a, b, .thread c⟩
  | newGen _ ih =>
    intro _ o
    obtain ⟨a, b, c⟩ := ih rfl o.push
    rw [real_push o.free] at c
    refine ⟨a, b, .newGen ?_⟩
    rw [real_size]
    exact c
  | call _ _ ih1 ih2 =>
    intro _ o
    obtain ⟨a, _, c⟩ := ih1 rfl o
    obtain ⟨a2, b2, c2⟩ := ih2 rfl a
    exact ⟨a2, b2, .call c c2⟩
  | callSusp _ ih =>
    intro _ o
    obtain ⟨a, b, c⟩ := ih rfl o
    exact ⟨a, split_append _ _ b rfl, .callSusp c⟩
  | yield => exact fun _ o => ⟨o, rfl, .yield⟩
  | resumeFresh q _ hq _ ih1 ih2 =>
    intro _ o
    have hP := o.ne q (by intro k l c p fs cl z; cases z)
    obtain ⟨a, b, c⟩ := ih1 rfl (o.set (x := .running) hP (by intro k l c p fs cl z; cases z))
    obtain ⟨a2, b2, c2⟩ := ih2 rfl (a.set hP (gen_ok b))
    rw [real_setGen hP] at c c2
    exact ⟨a2, b2, .resumeFresh (real_none hP q) c hq c2⟩
  | @resumeSuspended Γ p g r l k s k₀ l₀ c₀ p₀ fs cl e₁ s₁ e s' q h1 hq _ ih1 ih2 =>
    intro _ o
    cases hP : P g with
    | some y =>
      obtain ⟨h2, k, l, c, p, fs', cl', rfl⟩ := o.at_ g y hP
      have e1 := Option.some.inj (q.symm.trans h2)
      injection e1 with e1
      rw [e1] at h1
      exact (no_unsup h1).elim
    | none =>
      obtain ⟨a, b, c⟩ := ih1 (o.fr _ _ _ _ _ _ _ hP q) (o.set (x := .running) hP (by intro k l c p fs cl z; cases z))
      obtain ⟨a2, b2, c2⟩ := ih2 rfl (a.set hP (gen_ok b))
      rw [real_setGen hP] at c c2
      exact ⟨a2, b2, .resumeSuspended (real_none hP q) c hq c2⟩
  | resumeJustStarted q hv _ ih =>
    intro _ o
    have hP := o.ne q (by intro k l c p fs cl z; cases z)
    obtain ⟨a, b, c⟩ := ih rfl o
    exact ⟨a, b, .resumeJustStarted (real_none hP q) hv c⟩
  | resumeThrowFresh q _ ih =>
    intro _ o
    have hP := o.ne q (by intro k l c p fs cl z; cases z)
    obtain ⟨a, b, c⟩ := ih rfl (o.set hP (by intro k l c p fs cl z; cases z))
    rw [real_setGen hP] at c
    exact ⟨a, b, .resumeThrowFresh (real_none hP q) c⟩
  | resumeRunning q _ ih =>
    intro _ o
    have hP := o.ne q (by intro k l c p fs cl z; cases z)
    obtain ⟨a, b, c⟩ := ih rfl o
    exact ⟨a, b, .resumeRunning (real_none hP q) c⟩
  | resumeFinished q _ ih =>
    intro _ o
    have hP := o.ne q (by intro k l c p fs cl z; cases z)
    obtain ⟨a, b, c⟩ := ih rfl o
    exact ⟨a, b, .resumeFinished (real_none hP q) c⟩
  | segRet _ _ ih1 ih2 =>
    intro hf o
    obtain ⟨a, _, c⟩ := ih1 rfl o
    obtain ⟨a2, b2, c2⟩ := ih2 (split_tail hf) a
    exact ⟨a2, b2, .segRet c c2⟩
  | segGen _ _ _ _ => exact fun hf _ => nomatch hf
  | segSuspOut hs _ ih =>
    intro hf o
    obtain ⟨a, b, c⟩ := ih rfl o
    exact ⟨a, split_append _ _ b hs, .segSuspOut hs c⟩
  | segSuspGen hs _ _ _ _ _ =>
    intro hf o
    rw [hf] at hs
    cases hs
theorem wp_real {α : Type} (M : Model) (P : Slp) (Γ : Ctx) (t : Sem α) : ∀ (Q : α → Pos → Shared → Prop) (E : Value → Pos → Shared → Prop) (p : Pos) (s : Shared), SlpOk P s → Sem.wp M Γ t Q E p s →
    Sem.wp M Γ t (fun a p' s' => ∃ s1, SlpOk P s1 ∧ Q a p' s1 ∧ s' = real P s1) (fun e p' s' => ∃ s1, SlpOk P s1 ∧ E e p' s1 ∧ s' = real P s1) p (real P s) := by
  induction t with
  | pure a => exact fun Q E p s o h => ⟨s, o, h, rfl⟩
  | raise e => exact fun Q E p s o h => ⟨s, o, h, rfl⟩
  | unsupported _ => exact fun Q E p s o h => h
  | finish _ => exact fun Q E p s o h => h
  | rule _ k ih => exact fun Q E p s o h => ih () Q E p s o h
  | «at» p' k ih => exact fun Q E p s o h => ih () Q E p' s o h
  | load a _ k ih => exact fun Q E p s o h => let ⟨ob, ho, h⟩ := h; ⟨ob, ho, ih ob Q E p s o h⟩
  | update a _ f k ih => exact fun Q E p s o h => ⟨h.1, ih () Q E p { s with heap := s.heap.update a f } (o.of rfl) h.2⟩
  | loadIfAlive a k ih => exact fun Q E p s o h => ih _ Q E p s o h
  | point _ k ih => exact fun Q E p s o h => ih () Q E p s o h
  | register _ _ => exact fun Q E p s o h => h
  | alloc ob k ih => exact fun Q E p s o h => ih _ Q E p { s with heap := s.heap.push ob } (o.of rfl) h
  | fresh k ih => exact fun Q E p s o h => ih _ Q E p { s with toks := s.toks + 1 } (o.of rfl) h
  | ask k ih => exact fun Q E p s o h => ih _ Q E p s o h
  | choose src m k ih => exact fun Q E p s o h => ⟨h.1, ih _ Q E p { s with drawn := s.drawn.bump src } (o.of rfl) h.2⟩
  | os q _ k ih => exact fun Q E p s o h => ih _ Q E p { s with os := (Os.step s.os q).1 } (o.of rfl) h
  | call c hd _ _ k ih =>
    intro Q E p s o h
    obtain ⟨r, s', hr, h⟩ := h
    obtain ⟨a, _, b⟩ := runs_real hr rfl o
    exact ⟨r, real P s', b, ih r Q E p s' a h⟩
  | handled own k ih => exact fun Q E p s o h => ih _ Q E p s o h
  | genState g k ih =>
    intro Q E p s o h
    obtain ⟨st, hs, h⟩ := h
    obtain ⟨st', h1, h2⟩ := seen_real hs o
    exact ⟨st', h1, by rw [h2]; exact ih _ Q E p s o h⟩
  | newGen c k ih =>
    intro Q E p s o h
    have := ih _ Q E p _ o.push h
    rw [real_push o.free] at this
    show Sem.wp M Γ (k (real P s).gens.size) _ _ _ _
    rw [real_size]
    exact this
  | resume g r lv k ih =>
    intro Q E p s o h
    obtain ⟨res, s', hw, h⟩ := h
    unfold Wakes at hw
    cases hg : s.gens[g]? with
    | none =>
      rw [hg] at hw
      exact hw.elim
    | some gs =>
      rw [hg] at hw
      have fin : P g = none → Wakes M Γ p g r (real P s) res (real P s') → SlpOk P s' → Sem.wp M Γ (.resume g r lv k) _ _ p (real P s) := fun _ w o' => ⟨res, real P s', w, ih res Q E p s' o' h⟩
      cases gs with
      | fresh c =>
        have hP := o.ne hg (by intro k l c p fs cl z; cases z)
        cases r with
        | send v =>
          by_cases hv : v = .none
          · subst hv
            obtain ⟨e₁, s₁, h1, hq, rfl, rfl⟩ := hw
            obtain ⟨a, b, c'⟩ := runs_real h1 rfl (o.set (x := .running) hP (by intro k l c p fs cl z; cases z))
            rw [real_setGen hP] at c'
            refine fin hP ?_ (a.set hP ?_)
            · unfold Wakes
              rw [real_none hP hg]
              exact ⟨e₁, _, c', hq, rfl, real_setGen hP⟩
            · exact gen_ok b
          · have : res = .justStarted ∧ s' = s := by cases v <;> first | exact absurd rfl hv | exact hw
            obtain ⟨rfl, rfl⟩ := this
            exact fin hP (Sem.wakes_justStarted M Γ (real_none hP hg) hv) o
        | throw x =>
          obtain ⟨rfl, rfl⟩ := hw
          refine fin hP ?_ (o.set hP (by intro k l c p fs cl z; cases z))
          unfold Wakes
          rw [real_none hP hg]
          exact ⟨rfl, real_setGen hP⟩
      | suspended k₀ l₀ c₀ p₀ fs cl =>
        obtain ⟨e₁, s₁, h1, hq, rfl, rfl⟩ := hw
        cases hP : P g with
        | some y =>
          obtain ⟨h2, k, l, c, p, fs', cl', rfl⟩ := o.at_ g y hP
          have e1 := Option.some.inj (hg.symm.trans h2)
          injection e1 with e1
          rw [e1] at h1
          exact (no_unsup h1).elim
        | none =>
          obtain ⟨a, b, c'⟩ := runs_real h1 (o.fr _ _ _ _ _ _ _ hP hg) (o.set (x := .running) hP (by intro k l c p fs cl z; cases z))
          rw [real_setGen hP] at c'
          refine fin hP ?_ (a.set hP ?_)
          · unfold Wakes
            rw [real_none hP hg]
            exact ⟨e₁, _, c', hq, rfl, real_setGen hP⟩
          · exact gen_ok b
      | running =>
        have hP := o.ne hg (by intro k l c p fs cl z; cases z)
        obtain ⟨rfl, rfl⟩ := hw
        refine fin hP ?_ o
        unfold Wakes
        rw [real_none hP hg]
        exact ⟨rfl, rfl⟩
      | finished =>
        have hP := o.ne hg (by intro k l c p fs cl z; cases z)
        obtain ⟨rfl, rfl⟩ := hw
        refine fin hP ?_ o
        unfold Wakes
        rw [real_none hP hg]
        exact ⟨rfl, rfl⟩
  | yield _ _ _ _ => exact fun Q E p s o h => h
  | stack k ih => exact fun Q E p s o h => ih _ Q E p s o h
  | fork _ _ => exact fun Q E p s o h => h
  | thread k ih => exact fun Q E p s o h => ih _ Q E p s o h
  | await _ _ _ _ _ => exact fun Q E p s o h => h
/-! ### the form that is used -/
def drowse (s : Shared) : Shared := { s with gens := s.gens.map poison }
def slpOf (s : Shared) : Slp := fun i => match s.gens[i]? with
  | some (.suspended k l c p fs cl) => some (.suspended k l c p fs cl)
  | _ => none
theorem slp_some {s : Shared} {i : Nat} {x : GenState} (h : slpOf s i = some x) : s.gens[i]? = some x ∧ ∃ k l c p fs cl, x = .suspended k l c p fs cl := by
  unfold slpOf at h
  split at h
  · rename_i e
    cases h
    exact ⟨e, _, _, _, _, _, _, rfl⟩
  · cases h
theorem slp_none {s : Shared} {i : Nat} {x : GenState} (h : slpOf s i = none) (e : s.gens[i]? = some x) : poison x = x := by
  cases x with
  | suspended k l c p fs cl =>
    unfold slpOf at h
    rw [e] at h
    cases h
  | _ => rfl
theorem drowse_ok (s : Shared) : SlpOk (slpOf s) (drowse s) := by
  refine ⟨fun i x h => ?_, fun i k l c p fs cl h q => ?_⟩
  · obtain ⟨h1, h2⟩ := slp_some h
    refine ⟨?_, h2⟩
    show (s.gens.map poison)[i]? = _
    rw [Array.getElem?_map, h1]
    rfl
  · have q' : (s.gens.map poison)[i]? = some (.suspended k l c p fs cl) := q
    rw [Array.getElem?_map] at q'
    obtain ⟨x, e, z⟩ := Option.map_eq_some_iff.1 q'
    rw [slp_none h e] at z
    rw [z] at e
    unfold slpOf at h
    rw [e] at h
    cases h
theorem drowse_real (s : Shared) : real (slpOf s) (drowse s) = s := by
  have e : (s.gens.map poison).mapIdx (fun i x => (slpOf s i).getD x) = s.gens := by
    apply Array.ext_getElem?
    intro i
    rw [Array.getElem?_mapIdx, Array.getElem?_map]
    cases h : s.gens[i]? with
    | none => rfl
    | some x =>
      cases q : slpOf s i with
      | none =>
        rw [Option.map_some, Option.map_some]
        exact congrArg some (slp_none q h)
      | some y =>
        rw [Option.map_some, Option.map_some]
        have := (slp_some q).1
        rw [h] at this
        exact this.symm
  show ({ s with gens := (s.gens.map poison).mapIdx (fun i x => (slpOf s i).getD x) } : Shared) = s
  rw [e]
/-- s' is what s1 is, with the sleepers of s still there -/
structure Woke (s s1 s' : Shared) : Prop where
  eq : s' = { s1 with gens := s'.gens }
  kept : ∀ (i : Nat) k l c p fs cl, s.gens[i]? = some (GenState.suspended k l c p fs cl) → s'.gens[i]? = some (GenState.suspended k l c p fs cl)
  bare : AllBare s.gens → AllBare s1.gens → AllBare s'.gens
theorem woke_of {s s1 : Shared} (o : SlpOk (slpOf s) s1) : Woke s s1 (real (slpOf s) s1) := by
  refine ⟨rfl, fun i k l c p fs cl h => ?_, fun h1 h2 y hy => ?_⟩
  · have q : slpOf s i = some (.suspended k l c p fs cl) := by
      unfold slpOf
      rw [h]
    rw [real_get, (o.at_ i _ q).1, q]
    rfl
  · obtain ⟨i, hi⟩ := Array.mem_iff_getElem?.1 hy
    rw [real_get] at hi
    obtain ⟨x, e, z⟩ := Option.map_eq_some_iff.1 hi
    cases q : slpOf s i with
    | none =>
      rw [q] at z
      rw [← z]
      exact h2 x (Array.mem_iff_getElem?.2 ⟨i, e⟩)
    | some w =>
      rw [q] at z
      rw [← z]
      exact h1 w (Array.mem_iff_getElem?.2 ⟨i, (slp_some q).1⟩)
theorem drowse_bare {s : Shared} (h : AllBare s.gens) : AllBare (drowse s).gens := fun y hy => by
  have hy' : y ∈ s.gens.map poison := hy
  obtain ⟨x, hx, rfl⟩ := Array.mem_map.1 hy'
  have := h x hx
  cases x <;> exact this
theorem asleep {α : Type} {M : Model} {A : Around} {t : Sem α} {Q : α → Shared → Prop} {E : Value → Shared → Prop} {s : Shared} (h : wpAny M A t Q E (drowse s)) :
    wpAny M A t (fun a s' => ∃ s1, Q a s1 ∧ Woke s s1 s') (fun e s' => ∃ s1, E e s1 ∧ Woke s s1 s') s := fun Γ p hΓ => by
  have q := wp_real M (slpOf s) Γ t _ _ p (drowse s) (drowse_ok s) (h Γ p hΓ)
  rw [drowse_real] at q
  refine Sem.wp_mono M Γ t ?_ ?_ p s q
  · rintro a p' s' ⟨s1, o, hq, rfl⟩
    exact ⟨s1, hq, woke_of o⟩
  · rintro a p' s' ⟨s1, o, hq, rfl⟩
    exact ⟨s1, hq, woke_of o⟩
end DL
set_option maxHeartbeats 2000000
/-! ### one waking of a generator, to whatever end -/
namespace DL
open PySem PySem.Spec PyProof.Rows L2 GenW
def Sg (M : Model) (A : Around) (Z : End → Shared → Prop) (c : Code) (t : Sem PySem.Fin) (fs : List Frame) (s : Shared) : Prop :=
  ∀ Γ p, Γ.code = c → Γ.Woken A → ∃ e s', Runs M Γ p t fs s e s' ∧ Z e s'
section
variable {M : Model} {A : Around} {Z : End → Shared → Prop} {c : Code} {fs : List Frame} {s : Shared}
theorem sg_wrap {α : Type} {m : Sem α} {K : α → Sem PySem.Fin} {H : Value → Sem PySem.Fin} {gd lv}
    (h : wpAny M (A.over c fs) m (fun a s' => Sg M A Z c (K a) fs s') (fun x s' => Sg M A Z c (H x) fs s') s) : Sg M A Z c (m.wrap K H gd lv) fs s := by
  rintro Γ p rfl hΓ
  exact runs_wrap_of_wp K H gd lv m (h (Γ.over fs) p (hΓ.over fs)) (fun a p' s' h' => h' Γ p' rfl hΓ) (fun x p' s' h' => h' Γ p' rfl hΓ)
theorem sg_bind_wrap {α β : Type} {m : Sem α} {f : α → Sem β} {K : β → Sem PySem.Fin} {H : Value → Sem PySem.Fin} {gd lv}
    (h : wpAny M (A.over c fs) m (fun a s' => Sg M A Z c ((f a).wrap K H gd lv) fs s') (fun x s' => Sg M A Z c (H x) fs s') s) : Sg M A Z c ((m >>= f).wrap K H gd lv) fs s := by
  rw [Sem.bind_eq_wrap', Sem.wrap_wrap]
  exact sg_wrap h
theorem sg_at {p' : Pos} {k : Unit → Sem PySem.Fin} (h : Sg M A Z c (k ()) fs s) : Sg M A Z c (.at p' k) fs s :=
  sg_wrap (m := standAt p') (K := k) (H := .raise) (gd := id) (lv := id) (wpAny_standAt h)
theorem sg_point {l : List Value} {k : Unit → Sem PySem.Fin} (h : Sg M A Z c (k ()) fs s) : Sg M A Z c (.point l k) fs s :=
  sg_wrap (m := point) (K := k) (H := .raise) (gd := id) (lv := fun _ => l) (wpAny_point h)
theorem sg_call {c' : Code} {h g l} {k : Result → Sem PySem.Fin} (hc : ∀ p, Sg M A Z c' (M.den c') (.ret k h g l c p [] :: fs) s) : Sg M A Z c (.call c' h g l k) fs s := by
  rintro Γ p rfl hΓ
  obtain ⟨e, s', hr, he⟩ := hc p (Γ.goto c') p rfl (hΓ.goto c')
  exact ⟨e, s', runs_call_seg hr, he⟩
theorem sg_leaf {k h g l c₁ p₁ kp} (r : Result) (hk : Sg M A Z c₁ (k r) fs s) : Sg M A Z c (leafOf r) (.ret k h g l c₁ p₁ kp :: fs) s := by
  rintro Γ p rfl hΓ
  obtain ⟨e, s', hr, he⟩ := hk (Γ.goto c₁) p₁ rfl (hΓ.goto c₁)
  exact ⟨e, s', Runs.pop r hr, he⟩
theorem sg_again {c' : Code} (hq : c'.quiet = true) (hc : Sg M A Z c' (M.den c') fs s) : Sg M A Z c (.pure (.again c')) fs s := by
  rintro Γ p rfl hΓ
  obtain ⟨e, s', hr, he⟩ := hc (Γ.goto c') p rfl (hΓ.goto c')
  exact ⟨e, s', Runs.head (c₁ := c') (fun _ _ x => .again hq x) hr, he⟩
theorem sg_end (r : Result) (h : Z (.ret r) s) : Sg M A Z c (leafOf r) [] s := by
  rintro Γ p rfl _
  exact ⟨.ret r, s, Runs.leaf r, h⟩
theorem sg_yield {v g l} {k : Resume → Sem PySem.Fin} (hfs : splitAtGen fs = none) (h : ∀ p, Z (.susp v g l k c p fs) s) : Sg M A Z c (.yield v g l k) fs s := by
  rintro Γ p rfl _
  exact ⟨_, s, Runs.yield' fs hfs, h p⟩
theorem sg_execs_cons {env : Env} {K : Flow → Sem PySem.Fin} {H : Value → Sem PySem.Fin} {gd lv} {st : Stmt} {rest : List Stmt}
    (h : Sg M A Z c ((exec st env).wrap (fun f => match f with | .next => (execs rest env).wrap K H gd lv | f => K f) H gd lv) fs s) :
    Sg M A Z c ((execs (st :: rest) env).wrap K H gd lv) fs s := by
  rw [execs_cons_wrap]
  exact h
end
section
variable {prog : Program} {w : World} {A : Around} {Z : End → Shared → Prop} {s : Shared} {c : Code} {fs : List Frame} {env : Env} {K : Flow → Sem PySem.Fin} {H : Value → Sem PySem.Fin} {gd : Bool → Bool} {lv : List Value → List Value}
theorem sg_Expr_Yield {e : Expr} {ypos pos : Pos} (hfs : splitAtGen fs = none)
    (h : wpAny (model prog w) (A.over c fs) (eval e env) (fun v s' => ∀ g l p k, g = gd false → (∀ (Z' : End → Shared → Prop) s'', Sg (model prog w) A Z' c (K .next) fs s'' → Sg (model prog w) A Z' c (k (.send .none)) fs s'') → Z (.susp v g l k c p fs) s') (fun _ _ => False) s)
    (hco : env.scope.isCoroutine = false := by rfl) (hi : interactive env = false := by rfl) :
    Sg (model prog w) A Z c ((exec (.Expr (.Yield (some e) ypos) pos) env).wrap K H gd lv) fs s := by
  rw [exec_Expr env _ pos hi rfl]
  show Sg _ A Z c (.at pos fun _ => ((eval e env >>= fun v => (standAt ypos >>= fun _ => yieldOut env v)) >>= fun x =>
    dropValue (.Yield (some e) ypos) pos x).wrap K H gd lv) fs s
  have hy : ∀ v, yieldOut env v = yieldValue v := fun v => by simp only [yieldOut, hco, Bool.false_eq_true, if_false]
  simp only [hy]
  refine sg_at ?_
  rw [Sem.bind_eq_wrap', Sem.bind_eq_wrap', Sem.wrap_wrap, Sem.wrap_wrap]
  refine sg_wrap (wpAny_mono h (fun v s' h' => ?_) fun _ _ x => x.elim)
  refine sg_at (sg_yield hfs fun p => ?_)
  exact h' _ _ _ _ rfl fun Z' s'' hx => hx
theorem sg_For {target iter : Expr} {body orelse : List Stmt} {pos : Pos}
    (h : wpAny (model prog w) (A.over c fs) (eval iter env) (fun v s1 => wpAny (model prog w) (A.over c fs) (pyIter v) (fun it s2 => ∀ p l, Sg (model prog w) A Z (.forLoop target it body orelse env) ((model prog w).den (.forLoop target it body orelse env))
        (.ret (fun r => ((match r with | .ok f => (.pure f : Sem Flow) | .error e => .raise e).onRaise (cameBack env)).wrap K H gd lv) none (gd false) l c p [] :: fs) s2) (fun _ _ => False) s1) (fun _ _ => False) s)
    (hs : ∀ x, foldedSetIterable iter env x = pure x := by intro _; rfl) :
    Sg (model prog w) A Z c ((exec (.For target iter body orelse pos) env).wrap K H gd lv) fs s := by
  show Sg _ _ _ _ (((do
    standAt pos
    let x ← foldedSetIterable iter env (← eval iter env)
    standAt iter.pos
    runOwn (.forLoop target (← holding [x] (pyIter x)) body orelse env) env) : Sem Flow).wrap K H gd lv) _ _
  refine sg_bind_wrap (wpAny_standAt ?_)
  refine sg_bind_wrap (wpAny_mono h (fun v s1 h1 => ?_) fun _ _ z => z.elim)
  rw [hs]
  refine sg_bind_wrap (wpAny_pure ?_)
  refine sg_bind_wrap (wpAny_standAt ?_)
  refine sg_bind_wrap (wpAny_holding (wpAny_mono h1 (fun it s2 h2 => ?_) fun _ _ z => z.elim))
  exact sg_call fun p => h2 p _
/-- one turn of a loop -/
theorem sg_forLoop {target : Expr} {it : Value} {body orelse : List Stmt}
    (h : wpAny (model prog w) (A.over (.forLoop target it body orelse env) fs) (pyNext it) (fun r s1 => match r with
      | none => Sg (model prog w) A Z (.forLoop target it body orelse env) (.pure (.again (.block orelse env))) fs s1
      | some v => wpAny (model prog w) (A.over (.forLoop target it body orelse env) fs) (letOwnedTupleGo target it v) (fun _ s2 => wpAny (model prog w) (A.over (.forLoop target it body orelse env) fs) (assign target env v) (fun _ s3 =>
          Sg (model prog w) A Z (.forLoop target it body orelse env) ((execs body env).wrap (fun f => match f with
            | .next | .cont => .pure (.again (.forLoop target it body orelse env))
            | .brk => .pure (.done .next)
            | .ret v => .pure (.done (.ret v))) (fun e => (do noteFrame e env; theTreesLotGoes e : Sem Unit).wrap (fun _ => .raise e) .raise id id) id id) fs s3) (fun _ _ => False) s2) (fun _ _ => False) s1) (fun _ _ => False) s) :
    Sg (model prog w) A Z (.forLoop target it body orelse env) ((model prog w).den (.forLoop target it body orelse env)) fs s := by
  show Sg _ A Z _ ((forTurn target it body orelse env).onRaise (fun x => do noteFrame x env; theTreesLotGoes x)) fs s
  unfold forTurn
  rw [Sem.onRaise_eq_wrap]
  refine sg_bind_wrap (wpAny_standAt ?_)
  refine sg_bind_wrap (wpAny_onRaise (wpAny_mono h (fun r s1 h1 => ?_) fun _ _ z => z.elim))
  cases r with
  | none => exact h1
  | some v =>
    refine sg_bind_wrap (wpAny_mono h1 (fun _ s2 h2 => ?_) fun _ _ z => z.elim)
    refine sg_bind_wrap (wpAny_mono h2 (fun _ s3 h3 => ?_) fun _ _ z => z.elim)
    rw [Sem.bind_eq_wrap', Sem.wrap_wrap]
    rw [Sem.wrap_congr (execs body env) _ _ (K' := fun f => match f with
            | .next | .cont => .pure (.again (.forLoop target it body orelse env))
            | .brk => .pure (.done .next)
            | .ret v => .pure (.done (.ret v))) (H' := fun e => (do noteFrame e env; theTreesLotGoes e : Sem Unit).wrap (fun _ => .raise e) .raise id id)
        (fun f => by cases f <;> rfl) (fun e => by first | exact Sem.bind_eq_wrap _ _ | rfl)]
    exact h3
/-- the loop's end, no else -/
theorem sg_forEnd {target : Expr} {it : Value} {body : List Stmt} {k : Result → Sem PySem.Fin} {hh : Option Value} {g : Bool} {l : List Value} {p : Pos} {c' : Code} (h : Sg (model prog w) A Z c (k (.ok .next)) fs s) :
    Sg (model prog w) A Z c' (.pure (.again (.block [] env))) (.ret k none g l c p [] :: fs) s := by
  refine sg_again rfl ?_
  exact sg_leaf (.ok .next) h
theorem sg_func {body : List Stmt}
    (h : Sg (model prog w) A Z (.func body env) ((execs body env).wrap (fun f => .pure (.done (.ret (match f with | .ret v => v | _ => .none))))
      (fun e => (leaving env e).wrap (fun _ => .raise e) .raise id id) id id) fs s) :
    Sg (model prog w) A Z (.func body env) ((model prog w).den (.func body env)) fs s := by
  show Sg _ A Z _ (.point [] fun _ => ((execs body env).onRaise (leaving env)) >>= _) fs s
  refine sg_point ?_
  rw [Sem.onRaise_eq_wrap, Sem.bind_eq_wrap', Sem.wrap_wrap]
  rw [Sem.wrap_congr (execs body env) _ _ (K' := fun f => .pure (.done (.ret (match f with | .ret v => v | _ => .none))))
    (H' := fun e => (leaving env e).wrap (fun _ => .raise e) .raise id id) (fun f => by cases f <;> rfl)
    (fun e => by rw [Sem.bind_eq_wrap, Sem.wrap_wrap]; rfl)]
  exact h
end
/-- a generator is woken -/
def GenState.To (M : Model) (A : Around) (Z : End → Shared → Prop) (gs : GenState) (s : Shared) : Prop :=
  match gs with
  | .fresh c => Sg M A Z c (M.den c) [] s
  | .suspended k _ c _ fs _ => Sg M A Z c (k (.send .none)) fs s
  | _ => False
theorem resume_to {M : Model} {A : Around} {E : Value → Shared → Prop} {s : Shared} {g : Nat} {gs : GenState} {Z : End → Shared → Prop}
    {l : List Value} {α : Type} {k : GenResult → Sem α} {Q : α → Shared → Prop} (hg : s.gens[g]? = some gs)
    (hgo : GenState.To M A Z gs (s.setGen g .running))
    (hZ : ∀ e s₁, Z e s₁ → e.quiet = true ∧ wpAny M A (k e.result) Q E (s₁.setGen g e.genState)) :
    wpAny M A (.resume g (.send .none) l k) Q E s := by
  intro Γ p hΓ
  rw [Sem.wp_resume]
  have hB : ∀ c, (Γ.wake c p).Woken A := fun c => hΓ.wake c p
  cases gs with
  | fresh c =>
    obtain ⟨e₁, s₁, hr, he⟩ := hgo (Γ.wake c p) p rfl (hB c)
    exact ⟨_, _, by unfold Wakes; rw [hg]; exact ⟨e₁, s₁, hr, (hZ _ _ he).1, rfl, rfl⟩, (hZ _ _ he).2 Γ p hΓ⟩
  | suspended k₀ l₀ c₀ p₀ fs₀ cl =>
    obtain ⟨e₁, s₁, hr, he⟩ := hgo (Γ.wake c₀ p) p₀ rfl (hB c₀)
    exact ⟨_, _, by unfold Wakes; rw [hg]; exact ⟨e₁, s₁, hr, (hZ _ _ he).1, rfl, rfl⟩, (hZ _ _ he).2 Γ p hΓ⟩
  | running => exact hgo.elim
  | finished => exact hgo.elim
section
variable {P : Program} {w : World} {A : Around} {E : Value → Shared → Prop} {s : Shared}
/-- next(g), no exception -/
theorem next_to {a : Addr} {g : Nat} {gs : GenState} {Z : End → Shared → Prop} {Q : Option Value → Shared → Prop} (hh : A.handled = none)
    (hl : s.heap.NoLimit) (hroom : A.depth < recursionLimit) (hg : s.heap.IsGen a g) (hgs : s.gens[g]? = some gs)
    (hgo : GenState.To (model P w) A.in1 Z gs (s.setGen g .running))
    (hZ : ∀ e s₁, Z e s₁ → match e with
      | .ret r => r = .ok (.ret .none) ∧ ∀ h', (∀ b o, s₁.heap.get? b = some o → h'.get? b = some o) → Q none { s₁.setGen g .finished with heap := h' }
      | .susp v g₀ l k c p fs => (End.susp v g₀ l k c p fs).quiet = true ∧ Q (some v) (s₁.setGen g (End.susp v g₀ l k c p fs).genState)) :
    wpAny (model P w) A (pyNext (.ref a)) Q E s := by
  unfold pyNext
  refine wpAny_bind (wpAny_attempt (wpAny_callSpecial?_slot (name := Str.ofString "__next__") hg.typeIs slot_gen_next
    (wpAny_call_entry slot_gen_next hg.typeIs entry_gen_next ?_ (args_gen_next _))))
  show wpAny _ A.in1 (Builtin.Generator.genWake (.ref a) (.send .none)) _ _ s
  unfold Builtin.Generator.genWake
  refine wpAny_bind (wpAny_holding (wpAny_genNumber hg (wpAny_bind (wpAny_genState hgs ?_))))
  cases gs with
  | running => exact hgo.elim
  | finished => exact hgo.elim
  | _ =>
    refine wpAny_bind (wpAny_roomToWake hl hroom ?_)
    show wpAny _ A.in1 (.resume g (.send .none) [] _) _ _ s
    refine resume_to hgs hgo (fun e s₁ he => ?_)
    have q := hZ e s₁ he
    cases e with
    | ret r =>
      obtain ⟨hr, hp⟩ := q
      subst hr
      refine ⟨rfl, ?_⟩
      show wpAny _ A.in1 (newExc (.type "StopIteration") [] >>= _) _ _ _
      refine wpAny_bind ?_
      simp only [newExc, newTuple]
      refine wpAny_bind (wpAny_newObj_type ?_ (by size_fits))
      refine wpAny_bind (m := firstArgMember _ _) (wpAny_of_eq (a := Value.none) (by first | rfl | (simp only [firstArgMember]; rfl)) ?_)
      refine wpAny_newObj_type ?_ (by size_fits)
      simp only [raiseNew]
      refine wpAny_bind (wpAny_bind (wpAny_handled ?_))
      first | rw [show A.in1.handled = none from hh] | rw [hh]
      refine wpAny_throw ?_
      refine wpAny_bind (wpAny_isInstance (T := "StopIteration") (b := true) ⟨_, Heap.get?_push_size _ rfl, rfl⟩ isSubtype_stop ?_)
      exact wpAny_pure (hp _ fun b o hb => Heap.get?_push_of_some _ (Heap.get?_push_of_some _ hb))
    | susp v g₀ l k c p fs =>
      obtain ⟨q1, q2⟩ := q
      exact ⟨q1, wpAny_pure ⟨v, rfl, wpAny_pure q2⟩⟩
end
end DL
set_option maxHeartbeats 2000000
/-! ### a generator's context, told anew at each waking -/
namespace DL
open PySem PySem.Spec PyProof.Rows L2 GenW
def cutH (h : Heap) (n : Nat) : Heap := ⟨h.objs.extract 0 n, h.life⟩
theorem cutH_get (h : Heap) (n : Nat) (b : Addr) : (cutH h n).get? b = if b < n then h.get? b else none := by
  unfold cutH Heap.get?
  by_cases hb : b < n
  · rw [if_pos hb]
    have e : (h.objs.extract 0 n)[b]? = h.objs[b]? := by
      rw [Array.getElem?_extract]
      by_cases hl : b < h.objs.size
      · rw [if_pos (by rw [Nat.sub_zero, Nat.lt_min]; exact ⟨hb, hl⟩), Nat.zero_add]
      · rw [if_neg (by rw [Nat.sub_zero, Nat.lt_min]; exact fun z => hl z.2), Array.getElem?_eq_none (Nat.le_of_not_lt hl)]
    simp only [e]
  · rw [if_neg hb]
    have e : (h.objs.extract 0 n)[b]? = none := by
      rw [Array.getElem?_extract, if_neg]
      rw [Nat.sub_zero, Nat.lt_min]
      exact fun z => hb z.1
    simp only [e]
theorem cutH_size {h : Heap} {n : Nat} (hn : n ≤ h.objs.size) : (cutH h n).objs.size = n := by
  show (h.objs.extract 0 n).size = n
  rw [Array.size_extract, Nat.sub_zero, Nat.min_eq_left hn]
theorem cutH_some {h : Heap} {n : Nat} {b : Addr} {o : Obj} (e : (cutH h n).get? b = some o) : b < n ∧ h.get? b = some o := by
  rw [cutH_get] at e
  by_cases hb : b < n
  · rw [if_pos hb] at e
    exact ⟨hb, e⟩
  · rw [if_neg hb] at e
    cases e
def cutS (s : Shared) (n : Nat) : Shared := { s with heap := cutH s.heap n }
def isCell (o : Obj) : Bool := match o.data with
  | .cell _ => true
  | _ => false
theorem isCell_no {o : Obj} (h : isCell o = false) : ∀ v, o.data ≠ .cell v := fun v e => by
  unfold isCell at h
  rw [e] at h
  cases h
theorem isCell_of {o : Obj} (h : ∀ v, o.data ≠ .cell v) : isCell o = false := by
  unfold isCell
  split
  · rename_i v e
    exact absurd e (h v)
  · rfl
/-- what is young and none of the generator's own: kept while it runs -/
def pnOf (h : Heap) (n : Nat) (own : List Addr) : List (Addr × Obj) := (List.range h.objs.size).filterMap fun b => (h.get? b).bind fun o => if n < b ∧ b ∉ own ∧ isCell o = false then some (b, o) else none
theorem mem_pnOf {h : Heap} {n : Nat} {own : List Addr} {p : Addr × Obj} : p ∈ pnOf h n own ↔ h.get? p.1 = some p.2 ∧ n < p.1 ∧ p.1 ∉ own ∧ ∀ v, p.2.data ≠ .cell v := by
  unfold pnOf
  rw [List.mem_filterMap]
  constructor
  · rintro ⟨b, hb, e⟩
    obtain ⟨o, ho, e⟩ := Option.bind_eq_some_iff.1 e
    split at e
    · rename_i hc
      cases e
      exact ⟨ho, hc.1, hc.2.1, isCell_no hc.2.2⟩
    · cases e
  · rintro ⟨h1, h2, h3, h4⟩
    refine ⟨p.1, List.mem_range.2 (Heap.lt_size h1), Option.bind_eq_some_iff.2 ⟨p.2, h1, ?_⟩⟩
    rw [if_pos ⟨h2, h3, isCell_of h4⟩]
/-- young cells, as they stand -/
def cellH (h : Heap) (n : Nat) : Hp := fun b => (h.get? b).bind fun o => if n < b ∧ isCell o = true then some (.frz o (.own b)) else none
theorem cellH_some {h : Heap} {n : Nat} {b : Addr} {u : HO} (e : cellH h n b = some u) : ∃ o, h.get? b = some o ∧ n < b ∧ isCell o = true ∧ u = .frz o (.own b) := by
  obtain ⟨o, ho, e⟩ := Option.bind_eq_some_iff.1 e
  split at e
  · rename_i hc
    cases e
    exact ⟨o, ho, hc.1, hc.2, rfl⟩
  · cases e
theorem cellH_low {h : Heap} {n : Nat} {b : Addr} (hb : b ≤ n) : cellH h n b = none := by
  cases e : cellH h n b with
  | none => rfl
  | some u =>
    obtain ⟨_, _, hl, _⟩ := cellH_some e
    exact absurd hb (Nat.not_le_of_lt hl)
theorem cellH_no {h : Heap} {n : Nat} {b : Addr} {o : Obj} (ho : h.get? b = some o) (hd : ∀ v, o.data ≠ .cell v) : cellH h n b = none := by
  cases e : cellH h n b with
  | none => rfl
  | some u =>
    obtain ⟨o', ho', _, hc, _⟩ := cellH_some e
    rw [ho] at ho'
    cases ho'
    rw [isCell_of hd] at hc
    cases hc
theorem cellH_at {h : Heap} {n : Nat} {b : Addr} {o : Obj} (ho : h.get? b = some o) (hb : n < b) (hc : isCell o = true) : cellH h n b = some (.frz o (.own b)) := by
  unfold cellH
  rw [ho]
  show (if n < b ∧ isCell o = true then _ else _) = _
  rw [if_pos ⟨hb, hc⟩]
/-- what may change while it runs -/
abbrev chOf (n : Nat) (own : List Addr) : List Addr := n :: own
/-- the context -/
def gX (P : Program) (w : World) (K : PySem.W.Frag) (mg : Str → Option Value) (base : Heap) (N : List Str) (qual : Str) (scope : Scope) (f : Addr) (cd : Value) (A : Around) (outer : List Env) (n : Nat) (own : List Addr) (s : Shared) : Cx where
  prog := P
  w := w
  K := K
  mg := mg
  base := base
  A := A.deeper (envOfC qual scope n f cd)
  N := N
  s_0 := cutS s n
  H_0 := cellH s.heap n
  env := envOfC qual scope n f cd
  outer := outer
  stack := envOfC qual scope n f cd :: outer
  ex := []
  calm := true
  fn := fun _ => true
  pn := pnOf s.heap n own
  xe := fun _ _ => False
/-- what must hold where a generator is woken -/
structure WakeOk (base : Heap) (outer : List Env) (n : Nat) (s : Shared) : Prop where
  bs : ∀ b o, base.get? b = some o → s.heap.get? b = some o
  funs : (cutH s.heap n).FunFrames base outer
  bare : AllBare s.gens
/-- what a waking leaves as it was -/
structure KeptG (fs ch : List Addr) (s s' : Shared) : Prop where
  os : s'.os = s.os
  bare : AllBare s'.gens
  keep : ∀ b o, s.heap.get? b = some o → b ∉ fs → b ∉ ch → s'.heap.get? b = some o
  slot : ∀ b o, s.heap.get? b = some o → b ∈ fs → b ∉ ch → ∃ sl, s'.heap.get? b = some { o with slots := sl }
section
variable {P : Program} {w : World} {K : PySem.W.Frag} {mg : Str → Option Value} {base : Heap} {N : List Str} {qual : Str} {scope : Scope} {f : Addr} {cd : Value} {A : Around} {outer : List Env} {n : Nat} {own : List Addr} {s s' : Shared} {ip : List (Addr × Obj)} {σ : L2.St} {H : Hp}
/-- the generator's names, as they stand -/
def Slots (N : List Str) (scope : Scope) (n : Nat) (σ : L2.St) (h : Heap) : Prop := ∃ m, h.Ns n m ∧ ∀ (i : Nat) (x : Str) (v : V), N[i]? = some x → σ[i]? = some (some v) → Vis scope x → ∃ u, RelV v u ∧ m x = some u
theorem wake_inv (md : Mod K mg base) (hk : scope.kind = .function) (hl : ∀ y ∈ scope.names, y.2 ≠ .cell ∧ y.2 ≠ .free) (hc : cellsFrom (n + 1) scope.names [] = []) (hd : A.handled = none) (hfr : A.frames = some outer) (hbz : base.objs.size ≤ n) (W : WakeOk base outer n s)
    (hsl : Slots N scope n σ s.heap) (hσ : σ.length = N.length) (hip : ∀ p ∈ ip, s.heap.get? p.1 = some p.2 ∧ n < p.1 ∧ ∀ v, p.2.data ≠ .cell v) :
    Inv (gX P w K mg base N qual scope f cd A outer n own s) ip σ (cellH s.heap n) s := by
  obtain ⟨m, hns, hm⟩ := hsl
  have hn : n ≤ s.heap.objs.size := Nat.le_of_lt hns.lt
  have noc : ∀ x c, (envOfC qual scope n f cd).cells.lookup x = some c → False := fun x c e => by
    have e' : (cellsFrom (n + 1) scope.names []).lookup x = some c := e
    rw [hc] at e'
    cases e'
  have nok : ∀ x, (envOfC qual scope n f cd).kindOf x = some .cell ∨ (envOfC qual scope n f cd).kindOf x = some .free → False := fun x h => by
    have h' : scope.names.lookup x = some .cell ∨ scope.names.lookup x = some .free := h
    rcases h' with z | z
    · exact (hl _ (PySem.mem_of_lookup z)).1 rfl
    · exact (hl _ (PySem.mem_of_lookup z)).2 rfl
  have hfs : ∀ b, b ∈ frs outer → b < n := fun b hb => by
    obtain ⟨_, o, ho, _⟩ := W.funs.mem hb
    exact (cutH_some ho).1
  have un : Un (frs outer) [] (cellH s.heap n) (cellH s.heap n) (cutH s.heap n) s.heap := Un.kept fun b o e => (cutH_some e).2
  have ok : (gX P w K mg base N qual scope f cd A outer n own s).Ok := by
    refine ⟨md, hk, rfl, rfl, ?_, fun x y c e _ => (noc x c e).elim, fun x h => (nok x h).elim, fun x c _ e => (noc x c e).elim, fun _ => hd, Around.frames_deeper hfr, .inr ⟨rfl, rfl⟩, fun b z => absurd z (by simp [gX]), fun b o e => ⟨?_, cellH_low (Nat.le_of_lt (Nat.lt_of_lt_of_le (Heap.lt_size e) hbz))⟩, ?_, fun b o _ => by simp [gX], fun b z => absurd z (by simp [gX]), W.funs, fun b hb => cellH_low (Nat.le_of_lt (hfs b hb))⟩
    · show (cutH s.heap n).objs.size ≤ n
      rw [cutH_size hn]
      exact Nat.le_refl _
    · show (cutH s.heap n).get? b = some o
      rw [cutH_get, if_pos (Nat.lt_of_lt_of_le (Heap.lt_size e) hbz)]
      exact W.bs b o e
    · show base.objs.size ≤ (cutH s.heap n).objs.size
      rw [cutH_size hn]
      exact hbz
  refine ⟨ok, rfl, W.bare, un, ⟨m, hns, fun i x v h1 h2 h3 => ?_⟩, fun x c e => (noc x c e).elim, cellH_low (Nat.le_refl n), fun x c e => (noc x c e).elim, fun p hp => ?_, fun a o e => ?_, hσ⟩
  · obtain ⟨u, r, e⟩ := hm i x v h1 h2 h3
    refine ⟨u, r, .inl ⟨?_, e⟩⟩
    have h3' : Vis scope x := h3
    rcases h3' with z | z | z
    · exact z
    · exact ((hl _ (PySem.mem_of_lookup z)).1 rfl).elim
    · exact ((hl _ (PySem.mem_of_lookup z)).2 rfl).elim
  · have hp' : p ∈ pnOf s.heap n own ++ ip := hp
    rcases List.mem_append.1 hp' with z | z
    · obtain ⟨h1, h2, h3, h4⟩ := mem_pnOf.1 z
      exact ⟨h1, cellH_no h1 h4, Nat.ne_of_gt h2, fun hb => absurd (hfs _ hb) (Nat.not_lt_of_gt h2), h4⟩
    · obtain ⟨h1, h2, h4⟩ := hip p z
      exact ⟨h1, cellH_no h1 h4, Nat.ne_of_gt h2, fun hb => absurd (hfs _ hb) (Nat.not_lt_of_gt h2), h4⟩
  · obtain ⟨o', ho, _, _, rfl⟩ := cellH_some e
    exact ⟨ho, o', ho⟩
/-- behind a waking -/
theorem wake_kept (I : Inv (gX P w K mg base N qual scope f cd A outer n own s) ip σ H s') : KeptG (frs outer) (chOf n own) s s' := by
  have hfs : ∀ b, b ∈ frs outer → b < n := fun b hb => by
    obtain ⟨_, o, ho, _⟩ := I.ok.funs.mem hb
    exact (cutH_some ho).1
  refine ⟨I.os, I.bare, fun b o e h1 h2 => ?_, fun b o e h1 h2 => ?_⟩
  · have c1 : b ≠ n := fun z => h2 (by rw [z]; exact List.mem_cons_self)
    have c2 : b ∉ own := fun z => h2 (List.mem_cons_of_mem _ z)
    by_cases hb : b < n
    · exact I.base.keep b o (by show (cutH s.heap n).get? b = some o; rw [cutH_get, if_pos hb]; exact e) (cellH_low (Nat.le_of_lt hb)) h1 (by simp [gX])
    · have hl : n < b := Nat.lt_of_le_of_ne (Nat.le_of_not_lt hb) (Ne.symm c1)
      cases q : isCell o with
      | false => exact (I.pin (b, o) (List.mem_append_left _ (mem_pnOf.2 ⟨e, hl, c2, isCell_no q⟩))).1
      | true => exact (I.hok b _ (I.base.frzs b _ _ (cellH_at e hl q))).1
  · exact I.base.slot b o (by show (cutH s.heap n).get? b = some o; rw [cutH_get, if_pos (hfs b h1)]; exact e) (cellH_low (Nat.le_of_lt (hfs b h1))) h1 (by simp [gX])
theorem wake_slots (hl : ∀ y ∈ scope.names, y.2 ≠ .cell ∧ y.2 ≠ .free) (I : Inv (gX P w K mg base N qual scope f cd A outer n own s) ip σ H s') : Slots N scope n σ s'.heap := by
  obtain ⟨m, hns, hm⟩ := I.loc
  refine ⟨m, hns, fun i x v h1 h2 h3 => ?_⟩
  obtain ⟨u, r, lk⟩ := hm i x v h1 h2 h3
  refine ⟨u, r, ?_⟩
  rcases lk with ⟨_, e⟩ | ⟨z, _⟩
  · exact e
  · have z' : scope.names.lookup x = some .cell ∨ scope.names.lookup x = some .free := z
    rcases z' with z | z
    · exact ((hl _ (PySem.mem_of_lookup z)).1 rfl).elim
    · exact ((hl _ (PySem.mem_of_lookup z)).2 rfl).elim
end
end DL
set_option maxHeartbeats 2000000
/-! ### the heap never shrinks -/
namespace DL
open PySem PySem.Spec PyProof.Rows L2 GenW
open Sem (wp)
theorem runs_hsz {M : Model} {Γ : PySem.Ctx} {p : Pos} {t : Sem PySem.Fin} {fs : List Frame} {s s' : Shared} {e : End} (h : Runs M Γ p t fs s e s') : s.heap.objs.size ≤ s'.heap.objs.size := by
  induction h <;> (try simp only [Shared.setGen, Heap.size_update, Heap.size_push] at *) <;> omega
theorem wakes_hsz {M : Model} {Γ : PySem.Ctx} {p : Pos} {g : Nat} {r : Resume} {s s' : Shared} {res : GenResult} (h : Wakes M Γ p g r s res s') : s.heap.objs.size ≤ s'.heap.objs.size := by
  unfold Wakes at h
  split at h
  · exact h.elim
  · split at h
    · obtain ⟨e₁, s₁, hr, _, _, rfl⟩ := h
      have q := runs_hsz hr
      exact q
    · rw [h.2]; exact Nat.le_refl _
    · rw [h.2]; exact Nat.le_refl _
  · obtain ⟨e₁, s₁, hr, _, _, rfl⟩ := h
    have q := runs_hsz hr
    exact q
  · rw [h.2]; exact Nat.le_refl _
  · rw [h.2]; exact Nat.le_refl _
theorem wp_hsz {α : Type} (M : Model) (Γ : PySem.Ctx) (n : Nat) (t : Sem α) : ∀ (Q : α → Pos → Shared → Prop) (E : Value → Pos → Shared → Prop) (p : Pos) (s : Shared), n ≤ s.heap.objs.size → wp M Γ t Q E p s →
    wp M Γ t (fun a p' s' => n ≤ s'.heap.objs.size ∧ Q a p' s') (fun e p' s' => n ≤ s'.heap.objs.size ∧ E e p' s') p s := by
  induction t with
  | pure a => exact fun Q E p s hn h => ⟨hn, h⟩
  | raise e => exact fun Q E p s hn h => ⟨hn, h⟩
  | unsupported _ => exact fun Q E p s _ h => h
  | finish _ => exact fun Q E p s _ h => h
  | rule _ k ih => exact fun Q E p s hn h => ih () Q E p s hn h
  | «at» p' k ih => exact fun Q E p s hn h => ih () Q E p' s hn h
  | load a _ k ih => exact fun Q E p s hn h => let ⟨o, ho, h⟩ := h; ⟨o, ho, ih o Q E p s hn h⟩
  | update a _ f k ih => exact fun Q E p s hn h => ⟨h.1, ih () Q E p { s with heap := s.heap.update a f } (by show n ≤ (s.heap.update a f).objs.size; rw [Heap.size_update]; exact hn) h.2⟩
  | loadIfAlive a k ih => exact fun Q E p s hn h => ih _ Q E p s hn h
  | point _ k ih => exact fun Q E p s hn h => ih () Q E p s hn h
  | register _ _ => exact fun Q E p s _ h => h
  | alloc o k ih => exact fun Q E p s hn h => ih _ Q E p { s with heap := s.heap.push o } (by show n ≤ (s.heap.push o).objs.size; rw [Heap.size_push]; exact Nat.le_succ_of_le hn) h
  | fresh k ih => exact fun Q E p s hn h => ih _ Q E p { s with toks := s.toks + 1 } hn h
  | ask k ih => exact fun Q E p s hn h => ih _ Q E p s hn h
  | choose src m k ih => exact fun Q E p s hn h => ⟨h.1, ih _ Q E p { s with drawn := s.drawn.bump src } hn h.2⟩
  | os q _ k ih => exact fun Q E p s hn h => ih _ Q E p { s with os := (Os.step s.os q).1 } hn h
  | call c hd _ _ k ih => exact fun Q E p s hn h => let ⟨r, s', hr, h⟩ := h; ⟨r, s', hr, ih r Q E p s' (Nat.le_trans hn (runs_hsz hr)) h⟩
  | handled own k ih => exact fun Q E p s hn h => ih _ Q E p s hn h
  | genState g k ih => exact fun Q E p s hn h => let ⟨st, hs, h⟩ := h; ⟨st, hs, ih _ Q E p s hn h⟩
  | newGen c k ih => exact fun Q E p s hn h => ih _ Q E p { s with gens := s.gens.push (.fresh c) } hn h
  | resume g r _ k ih => exact fun Q E p s hn h => let ⟨res, s', hw, h⟩ := h; ⟨res, s', hw, ih res Q E p s' (Nat.le_trans hn (wakes_hsz hw)) h⟩
  | yield _ _ _ _ => exact fun Q E p s _ h => h
  | stack k ih => exact fun Q E p s hn h => ih _ Q E p s hn h
  | fork _ _ => exact fun Q E p s _ h => h
  | thread k ih => exact fun Q E p s hn h => ih _ Q E p s hn h
  | await _ _ _ _ _ => exact fun Q E p s _ h => h
theorem wpAny_hsz {α : Type} {M : Model} {A : Around} {s : Shared} {t : Sem α} {Q : α → Shared → Prop} {E : Value → Shared → Prop} {n : Nat} (hn : n ≤ s.heap.objs.size)
    (h : wpAny M A t (fun a s' => n ≤ s'.heap.objs.size → Q a s') (fun e s' => n ≤ s'.heap.objs.size → E e s') s) : wpAny M A t Q E s :=
  wpAny_mono (fun Γ p hΓ => wp_hsz M Γ n t _ _ p s hn (h Γ p hΓ) : wpAny M A t (fun a s' => n ≤ s'.heap.objs.size ∧ (n ≤ s'.heap.objs.size → Q a s')) (fun e s' => n ≤ s'.heap.objs.size ∧ (n ≤ s'.heap.objs.size → E e s')) s)
    (fun _ _ x => x.2 x.1) fun _ _ x => x.2 x.1
end DL
set_option maxHeartbeats 2000000
/-! ### all_shortcuts: what it hands out -/
namespace DL
open PySem PySem.Spec PyProof.Rows L2 GenW
def OwnAt (own : List (Addr × Obj)) (s : Shared) : Prop := ∀ p ∈ own, s.heap.get? p.1 = some p.2
/-- a tuple of ints is handed out -/
structure GItem (fs : List Addr) (n : Nat) (own own' : List (Addr × Obj)) (x : List Int) (s₀ : Shared) (v : Value) (s' : Shared) : Prop where
  kept : KeptG fs (chOf n (own.map (·.1))) s₀ s'
  len : x.length ≤ sizeLine
  hasn : ∃ o, (n, o) ∈ own'
  item : ∃ t us, v = .ref t ∧ s₀.heap.objs.size ≤ t ∧ IsTup s'.heap t us.toArray ∧ Vals (x.map V.int) us ∧ ∀ p ∈ own', p.1 ≠ t
  own : ∀ p ∈ own', s'.heap.get? p.1 = some p.2 ∧ (∀ v, p.2.data ≠ .cell v) ∧ (p.1 = n ∨ p.1 ∈ own.map (·.1) ∨ s₀.heap.objs.size ≤ p.1)
/-- the generator's code, that will hand out these -/
def RdyC (M : Model) (A : Around) (base : Heap) (outer : List Env) (n : Nat) : List (List Int) → List (Addr × Obj) → Code → Sem PySem.Fin → List Frame → Prop
  | [], own, c, t, fs => ∀ s, WakeOk base outer n s → OwnAt own s → Sg M A (fun e s' => match e with
      | .ret r => r = .ok (.ret .none) ∧ KeptG (frs outer) (chOf n (own.map (·.1))) s s'
      | .susp _ _ _ _ _ _ _ => False) c t fs s
  | x :: xs, own, c, t, fs => ∀ s, WakeOk base outer n s → OwnAt own s → Sg M A (fun e s' => match e with
      | .ret _ => False
      | .susp v g l k c p fs => (End.susp v g l k c p fs).quiet = true ∧ ∃ own', GItem (frs outer) n own own' x s v s' ∧ RdyC M A base outer n xs own' c (k (.send .none)) fs) c t fs s
def ZE (M : Model) (A : Around) (base : Heap) (outer : List Env) (n : Nat) (xs : List (List Int)) (own : List (Addr × Obj)) (s : Shared) (e : End) (s' : Shared) : Prop :=
  match xs with
  | [] => (match e with
      | .ret r => r = .ok (.ret .none) ∧ KeptG (frs outer) (chOf n (own.map (·.1))) s s'
      | .susp _ _ _ _ _ _ _ => False)
  | x :: xs => (match e with
      | .ret _ => False
      | .susp v g l k c p fs => (End.susp v g l k c p fs).quiet = true ∧ ∃ own', GItem (frs outer) n own own' x s v s' ∧ RdyC M A base outer n xs own' c (k (.send .none)) fs)
theorem rdy_iff {M : Model} {A : Around} {base : Heap} {outer : List Env} {n : Nat} {xs : List (List Int)} {own : List (Addr × Obj)} {c : Code} {t : Sem PySem.Fin} {fs : List Frame} :
    RdyC M A base outer n xs own c t fs ↔ ∀ s, WakeOk base outer n s → OwnAt own s → Sg M A (ZE M A base outer n xs own s) c t fs s := by
  cases xs with
  | nil => exact Iff.rfl
  | cons x xs => exact Iff.rfl
/-! ranges, made and turned -/
section
variable {X : Cx} {pins : List (Addr × Obj)} {σ : L2.St} {H : Hp} {s : Shared} {E : Value → Shared → Prop} {it : Addr} {lo : Int} {c : Nat} {tg : Expr}
theorem rng_item (I : Inv X pins σ H s) (hc : X.calm = true) (hf : FpOk X pins H it) (st : IsRangeIter s.heap it lo ((c + 1 : Nat) : Int) 1) :
    wpAny (model X.prog X.w) X.A (pyNext (.ref it)) (fun r s1 => ∃ u, r = some u ∧ wpAny (model X.prog X.w) X.A (letOwnedTupleGo tg (.ref it) u) (fun _ s2 => Inv X pins σ H s2 ∧ RelV (.int lo) u ∧ IsRangeIter s2.heap it (lo + 1) (c : Int) 1) E s1) E s := by
  have T := turn_range (P := X.prog) (w := X.w) (K := X.K) (tg := tg) it lo (c + 1)
  have st' : IsRangeIter s.heap it (lo + ((0 : Nat) : Int) * 1) (((c + 1 : Nat) : Int) - ((0 : Nat) : Int)) 1 := by
    have e1 : lo + ((0 : Nat) : Int) * 1 = lo := by simp
    have e2 : ((c + 1 : Nat) : Int) - ((0 : Nat) : Int) = ((c + 1 : Nat) : Int) := by simp
    rw [e1, e2]
    exact st
  refine wpAny_mono (T.item X rfl rfl rfl hc 0 pins s σ H E I (fun b hb => by rw [List.mem_singleton.1 hb]; exact hf) st' (Nat.succ_pos c)) (fun r s1 hr => ?_) fun _ _ z => z
  obtain ⟨u, e, h⟩ := hr
  refine ⟨u, e, wpAny_mono h (fun _ s2 hs => ?_) fun _ _ z => z⟩
  obtain ⟨x, H', I', rv, ⟨e1, e2⟩, st2, _⟩ := hs
  subst e1 e2
  have f1 : lo + ((0 : Nat) : Int) = lo := by simp
  rw [f1] at rv
  refine ⟨I', rv, ?_⟩
  have g1 : lo + ((0 + 1 : Nat) : Int) * 1 = lo + 1 := by simp
  have g2 : ((c + 1 : Nat) : Int) - ((0 + 1 : Nat) : Int) = (c : Int) := by simp
  rw [g1, g2] at st2
  exact st2
theorem rng_done (I : Inv X pins σ H s) (hc : X.calm = true) (hf : FpOk X pins H it) (st : IsRangeIter s.heap it lo ((0 : Nat) : Int) 1) :
    wpAny (model X.prog X.w) X.A (pyNext (.ref it)) (fun r s1 => r = none ∧ Inv X pins σ H s1) E s := by
  have T := turn_range (P := X.prog) (w := X.w) (K := X.K) (tg := .Name "i" ⟨0, 0, 0, 0⟩) it lo 0
  have st' : IsRangeIter s.heap it (lo + ((0 : Nat) : Int) * 1) (((0 : Nat) : Int) - ((0 : Nat) : Int)) 1 := by
    have e1 : lo + ((0 : Nat) : Int) * 1 = lo := by simp
    have e2 : ((0 : Nat) : Int) - ((0 : Nat) : Int) = ((0 : Nat) : Int) := by simp
    rw [e1, e2]
    exact st
  exact T.done X rfl rfl rfl hc 0 pins s σ H E I (fun b hb => by rw [List.mem_singleton.1 hb]; exact hf) st' (Nat.le_refl 0)
/-- an iterator over a range just made -/
def RngAt (X : Cx) (pins : List (Addr × Obj)) (σ : L2.St) (m : Nat) (lo hi : Int) (H : Hp) (itv : Value) (s2 : Shared) : Prop :=
  ∃ it, itv = .ref it ∧ Inv X pins σ H s2 ∧ IsRangeIter s2.heap it lo ((hi - lo).toNat : Nat) 1 ∧ m ≤ it ∧ it < s2.heap.objs.size ∧ FpOk X pins H it
theorem rng_it {hi : Int} {t u v : Tok} {tk : Nat} (I : Inv X pins σ H s) (h1 : -(2 ^ 62) ≤ lo) (h2 : lo < 2 ^ 62) (h3 : -(2 ^ 62) ≤ hi) (h4 : hi < 2 ^ 62) {m : Nat} (hm : m ≤ s.heap.objs.size) :
    wpAny (model X.prog X.w) X.A (pyIter (.ref s.heap.objs.size)) (RngAt X pins σ m lo hi H) E { s with heap := s.heap.push { cls := .type "range", data := .fields #[.int lo t, .int hi u, .int 1 v] }, toks := tk } := by
  refine wpAny_pyIter_range (IsRange.new ..) (small_one h1 h2 h3 h4) ?_
  have I1 : Inv X pins σ H { s with heap := s.heap.push { cls := .type "range", data := .fields #[.int lo t, .int hi u, .int 1 v] }, toks := tk } := I.kept fun b o e => Heap.get?_push_of_some _ e
  refine ⟨(s.heap.push { cls := .type "range", data := .fields #[.int lo t, .int hi u, .int 1 v] }).objs.size, rfl, I1.kept (t' := tk) fun b o e => Heap.get?_push_of_some _ e, ?_, ?_, ?_, I1.fpOk (Nat.le_refl _) (I1.hok.fresh (Nat.le_refl _))⟩
  · have e2 : (((hi - lo).toNat : Nat) : Int) = Builtin.Range.rangeSize lo hi 1 := by rw [rangeSize_one]; split <;> omega
    rw [e2]
    exact Heap.get?_push_size _ rfl
  · rw [Heap.size_push]
    exact Nat.le_succ_of_le hm
  · show _ < (Heap.push _ _).objs.size
    rw [Heap.size_push _ { cls := .type "range_iterator", data := _ }]
    exact Nat.lt_succ_self _
theorem rng_made1 {a : Expr} {ta : TA} {p pos : Pos} {j : Int} {m : Nat} (hg : Gl X "range") (hmg : X.mg "range" = none) (ha : PA X [a] ta) (I : Inv X pins σ H s) (h3 : -(2 ^ 62) ≤ j) (h4 : j < 2 ^ 62) (hm : m ≤ s.heap.objs.size) (h : ta σ H fun vs H1 => vs = [.int j] ∧ H1 = H) (hs : starEach [a] X.env = [(false, eval a X.env)] := by rfl) :
    wpAny (model X.prog X.w) X.A (eval (.Call (.Name "range" p) [a] [] pos) X.env) (fun v s1 => wpAny (model X.prog X.w) X.A (pyIter v) (RngAt X pins σ m 0 j H) E s1) X.xe s := by
  refine Call_ (ld_blt I hg hmg boot_range (PyProof.Rows.callWith_type1 (wpAny_hsz hm (wpAny_mono (ha.run pos pins s σ H _ I h) (fun us s1 hq hsz => ?_) fun _ _ z _ => z)) hs rfl))
  obtain ⟨vs, H1, I1, r1, e, e1⟩ := hq
  subst e e1
  cases r1 with
  | cons r rr =>
    cases rr
    obtain ⟨t, rfl⟩ := r
    exact call_range_1 (rng_it I1 (by omega) (by omega) h3 h4 hsz)
theorem rng_made2 {a b : Expr} {ta : TA} {p pos : Pos} {i j : Int} {m : Nat} (hg : Gl X "range") (hmg : X.mg "range" = none) (ha : PA X [a, b] ta) (I : Inv X pins σ H s) (h1 : -(2 ^ 62) ≤ i) (h2 : i < 2 ^ 62) (h3 : -(2 ^ 62) ≤ j) (h4 : j < 2 ^ 62) (hm : m ≤ s.heap.objs.size) (h : ta σ H fun vs H1 => vs = [.int i, .int j] ∧ H1 = H)
    (hs : starEach [a, b] X.env = [(false, eval a X.env), (false, eval b X.env)] := by rfl) (hs2 : starEach [b] X.env = [(false, eval b X.env)] := by rfl) :
    wpAny (model X.prog X.w) X.A (eval (.Call (.Name "range" p) [a, b] [] pos) X.env) (fun v s1 => wpAny (model X.prog X.w) X.A (pyIter v) (RngAt X pins σ m i j H) E s1) X.xe s := by
  refine Call_ (ld_blt I hg hmg boot_range (PyProof.Rows.callWith_type1 (wpAny_hsz hm (wpAny_mono (ha.run pos pins s σ H _ I h) (fun us s1 hq hsz => ?_) fun _ _ z _ => z)) (by rw [hs, hs2]) (by rw [hs2]; rfl)))
  obtain ⟨vs, H1, I1, r1, e, e1⟩ := hq
  subst e e1
  cases r1 with
  | cons r rr =>
    cases rr with
    | cons r' rr =>
      cases rr
      obtain ⟨t, rfl⟩ := r
      obtain ⟨t', rfl⟩ := r'
      exact call_range_2 (rng_it I1 h1 h2 h3 h4 hsz)
end
end DL
set_option maxHeartbeats 2000000
/-! ### all_shortcuts -/
namespace DL
open PySem PySem.Spec PyProof.Rows L2 GenW
abbrev gN : List Str := ["many", "i", "j"]
def gScope : Scope := { kind := .function, names := [(Str.ofString "many", .local), (Str.ofString "i", .local), (Str.ofString "j", .local), (Str.ofString "range", .globalImplicit)], isGenerator := true, isCoroutine := false, more := [] }
def rowJ (i : Nat) : Nat → Nat → List (List Int)
  | _, 0 => []
  | j, c + 1 => [(i : Int), (j : Int)] :: rowJ i (j + 1) c
def rowsI (many : Nat) : Nat → Nat → List (List Int)
  | _, 0 => []
  | i, c + 1 => rowJ i (i + 1) (many - (i + 1)) ++ rowsI many (i + 1) c
theorem gN_nd : gN.Nodup := by decide
theorem gS_loc : ∀ y ∈ gScope.names, y.2 ≠ .cell ∧ y.2 ≠ .free := by decide +kernel
theorem gS_cells (n : Nat) : cellsFrom (n + 1) gScope.names [] = [] := rfl
section
variable {P : Program} {w : World} {K : PySem.W.Frag} {mg : Str → Option Value} {base : Heap} {qual : Str} {f : Addr} {cd : Value} {A : Around} {outer : List Env} {n many : Nat}
structure GenOk (K : PySem.W.Frag) (mg : Str → Option Value) (base : Heap) (A : Around) (outer : List Env) (n many : Nat) : Prop where
  md : Mod K mg base
  rg : mg "range" = none
  hd : A.handled = none
  fr : A.frames = some outer
  bz : base.objs.size ≤ n
  lt : many < 2 ^ 61
abbrev gXc (P : Program) (w : World) (K : PySem.W.Frag) (mg : Str → Option Value) (base : Heap) (qual : Str) (f : Addr) (cd : Value) (A : Around) (outer : List Env) (n : Nat) (own : List (Addr × Obj)) (s : Shared) : Cx :=
  gX P w K mg base gN qual gScope f cd A outer n (own.map (·.1)) s
def OwnIn (n : Nat) (own : List (Addr × Obj)) (s₀ : Shared) (it : Addr) : Prop := n < it ∧ (it ∈ own.map (·.1) ∨ s₀.heap.objs.size ≤ it)
theorem fpok {own ip : List (Addr × Obj)} {s₀ s : Shared} {σ : L2.St} {H : Hp} {it : Addr} (I : Inv (gXc P w K mg base qual f cd A outer n own s₀) ip σ H s) (hn : OwnIn n own s₀ it) (hH : H it = none) (hp : ∀ p ∈ ip, p.1 ≠ it) (hz : n ≤ s₀.heap.objs.size) : FpOk (gXc P w K mg base qual f cd A outer n own s₀) ip H it := by
  refine ⟨hH, Nat.ne_of_gt hn.1, fun hb => ?_, .inr ?_, fun x c e => ?_, fun p hq => ?_⟩
  · obtain ⟨_, o, ho, _⟩ := I.ok.funs.mem hb
    exact absurd (cutH_some ho).1 (Nat.not_lt_of_gt hn.1)
  · show (cutH s₀.heap n).objs.size ≤ it
    rw [cutH_size hz]
    exact Nat.le_of_lt hn.1
  · have e' : (cellsFrom (n + 1) gScope.names []).lookup x = some c := e
    rw [gS_cells] at e'
    cases e'
  · have hq' : p ∈ pnOf s₀.heap n (own.map (·.1)) ++ ip := hq
    rcases List.mem_append.1 hq' with z | z
    · obtain ⟨h1, _, h3, _⟩ := mem_pnOf.1 z
      intro e
      rcases hn.2 with y | y
      · rw [e] at h3
        exact h3 y
      · have := Heap.lt_size h1
        rw [e] at this
        exact absurd this (Nat.not_lt_of_le y)
    · exact hp p z
/-- the names i, j, many -/
theorem g_var {own : List (Addr × Obj)} {s₀ : Shared} {i : Nat} {x : Str} {pos : Pos} (h : gN[i]? = some x) (hx : Vis gScope x) (hd : (x == ("__debug__" : Str)) = false := by decide) (hcd : (x == ("__classdict__" : Str)) = false := by decide) :
    PE (gXc P w K mg base qual f cd A outer n own s₀) (.Name x pos) (tVar i) := pe_var h hx hd hcd
theorem g_set {own : List (Addr × Obj)} {s₀ : Shared} {i : Nat} {x : Str} {pos : Pos} (h : gN[i]? = some x) (hx : Loc gScope x) : PG (gXc P w K mg base qual f cd A outer n own s₀) (.Name x pos) (gName i) := pg_name gN_nd h hx
variable {p1 p2 p3 p4 p5 p6 p7 p8 p9 q1 q2 q3 q4 q5 q6 q7 q8 : Pos}
/-- the yield, and behind it -/
abbrev gY (q1 q2 q3 q4 q5 : Pos) : List Stmt := [.Expr (.Yield (some (.Tuple [.Name "i" q1, .Name "j" q2] 0 q3)) q4) q5]
theorem seg_inner (ok : GenOk K mg base A outer n many) {itI itJ : Addr} {oI : Obj} {i : Nat} {rest : List (List Int)} {k1 : Result → Sem PySem.Fin} {l1 : List Value} {c1 : Code} {pp : Pos} {fs1 : List Frame}
    (hov : A.over c1 fs1 = A.deeper (envOfC qual gScope n f cd)) (hsp : splitAtGen fs1 = none) (hgd : fs1.any Frame.guarded = false) (hij : itI ≠ itJ) (hoI : ∀ v, oI.data ≠ .cell v)
    (kont : ∀ (own : List (Addr × Obj)) (s₀ s : Shared) (H : Hp) (jv : Option V), Inv (gXc P w K mg base qual f cd A outer n own s₀) [(itI, oI)] [some (.int many), some (.int i), jv] H s → n < s₀.heap.objs.size → s₀.heap.objs.size ≤ s.heap.objs.size → OwnIn n own s₀ itI →
      Sg (model P w) A (ZE (model P w) A base outer n rest own s₀) c1 (k1 (.ok .next)) fs1 s) :
    ∀ (c j : Nat) (own : List (Addr × Obj)) (s₀ s : Shared) (H : Hp) (jv : Option V), Inv (gXc P w K mg base qual f cd A outer n own s₀) [(itI, oI)] [some (.int many), some (.int i), jv] H s → n < s₀.heap.objs.size → s₀.heap.objs.size ≤ s.heap.objs.size → OwnIn n own s₀ itI → OwnIn n own s₀ itJ → H itJ = none →
      IsRangeIter s.heap itJ (j : Int) (c : Int) 1 →
      Sg (model P w) A (ZE (model P w) A base outer n (rowJ i j c ++ rest) own s₀) (.forLoop (.Name "j" p1) (.ref itJ) (gY q1 q2 q3 q4 q5) [] (envOfC qual gScope n f cd)) ((model P w).den (.forLoop (.Name "j" p1) (.ref itJ) (gY q1 q2 q3 q4 q5) [] (envOfC qual gScope n f cd))) (.ret k1 none false l1 c1 pp [] :: fs1) s := by
  have hov2 : A.over (.forLoop (.Name "j" p1) (.ref itJ) (gY q1 q2 q3 q4 q5) [] (envOfC qual gScope n f cd)) (.ret k1 none false l1 c1 pp [] :: fs1) = A.deeper (envOfC qual gScope n f cd) := (over_loop rfl rfl).trans hov
  intro c
  induction c with
  | zero =>
    intro j own s₀ s H jv I hz0 hz oI' oJ hHJ st
    refine sg_forLoop ?_
    rw [hov2]
    have fj := fpok I oJ hHJ (fun p hp => by rw [List.mem_singleton.1 hp]; exact hij) (Nat.le_of_lt hz0)
    refine wpAny_hsz hz (wpAny_mono (rng_done (E := fun _ _ => False) I rfl fj st) (fun r s1 hr hsz => ?_) fun _ _ z _ => z)
    obtain ⟨rfl, I1⟩ := hr
    exact sg_forEnd (hh := none) (it := .none) (target := .Name "j" p1) (body := []) (kont own s₀ s1 H jv I1 hz0 hsz oI')
  | succ c ih =>
    intro j own s₀ s H jv I hz0 hz oI' oJ hHJ st
    refine sg_forLoop ?_
    rw [hov2]
    have fj := fpok I oJ hHJ (fun p hp => by rw [List.mem_singleton.1 hp]; exact hij) (Nat.le_of_lt hz0)
    refine wpAny_hsz hz (wpAny_mono (rng_item (E := fun _ _ => False) (tg := .Name "j" p1) I rfl fj st) (fun r s1 hr hsz => ?_) fun _ _ z _ => z)
    obtain ⟨u, rfl, hgo⟩ := hr
    refine wpAny_hsz hsz (wpAny_mono hgo (fun _ s2 hs hsz2 => ?_) fun _ _ z _ => z)
    obtain ⟨I2, ru, st2⟩ := hs
    -- the iterator is pinned from here on
    have oJd : ∀ v, ({ cls := .type "range_iterator", dict := none, data := .fields #[rawInt ((j : Int) + 1), rawInt (c : Int), rawInt 1], slots := #[] } : Obj).data ≠ .cell v := fun v z => by
      have z' : Data.fields _ = Data.cell v := z
      cases z'
    have I2' : Inv (gXc P w K mg base qual f cd A outer n own s₀) [(itJ, { cls := .type "range_iterator", dict := none, data := .fields #[rawInt ((j : Int) + 1), rawInt (c : Int), rawInt 1], slots := #[] }), (itI, oI)] [some (.int many), some (.int i), jv] H s2 := by
      refine I2.pins_of fun p hp => ?_
      rcases List.mem_cons.1 hp with rfl | hp
      · exact ⟨st2, hHJ, fj.2.1, fj.2.2.1, oJd⟩
      · exact I2.pin p (List.mem_append_right _ hp)
    refine wpAny_hsz hsz2 (wpAny_mono ((g_set (i := 2) (x := "j") (pos := p1) rfl (.inl rfl)).run _ s2 _ H (.int j) u (fun σ' H' => σ' = [some (V.int many), some (.int i), some (.int j)] ∧ H' = H) I2' ru ⟨rfl, rfl⟩) (fun _ s3 hs hsz3 => ?_) fun _ _ z _ => z)
    obtain ⟨σ3, H3, I3, e3, e3'⟩ := hs
    subst e3 e3'
    refine sg_execs_cons ?_
    refine sg_Expr_Yield (by show (splitAtGen fs1).map _ = none; rw [hsp]; rfl) ?_ rfl rfl
    rw [hov2]
    refine wpAny_Tuple_spliced ?_
    have PAt : PA (gXc P w K mg base qual f cd A outer n own s₀) [.Name "i" q1, .Name "j" q2] (tCons (tVar 1) (tCons (tVar 2) tNil)) := pa_cons (g_var rfl (.inl rfl)) (pa_cons (g_var rfl (.inl rfl)) pa_nil)
    refine wpAny_hsz hsz3 (wpAny_mono (PAt.run q3 _ s3 _ H3 (fun xs H' => xs = [.int i, .int j] ∧ H' = H3) I3 ⟨_, rfl, _, rfl, rfl, rfl⟩) (fun us s4 hs hsz4 => ?_) fun _ _ z _ => z)
    obtain ⟨xs, H4, I4, rus, e4, e4'⟩ := hs
    subst e4 e4'
    refine ⟨by rw [← rus.length]; show 2 ≤ sizeLine; decide, ?_⟩
    have hf4 : H4 s4.heap.objs.size = none := I4.hok.fresh (Nat.le_refl _)
    have I5 : Inv (gXc P w K mg base qual f cd A outer n own s₀) [(itJ, { cls := .type "range_iterator", dict := none, data := .fields #[rawInt ((j : Int) + 1), rawInt (c : Int), rawInt 1], slots := #[] }), (itI, oI)] [some (.int many), some (.int i), some (.int j)] H4
        { s4 with heap := s4.heap.push { cls := .type "tuple", data := .seq us.toArray } } := I4.kept (t' := s4.toks) fun b o e => Heap.get?_push_of_some _ e
    intro g l p k hg hk
    obtain ⟨on, hon⟩ : ∃ on, (s4.heap.push { cls := .type "tuple", data := .seq us.toArray }).get? n = some on := by
      obtain ⟨m, hns, _⟩ := I5.loc
      obtain ⟨o, _, _, ho, _⟩ := hns
      exact ⟨o, ho⟩
    have hond : ∀ v, on.data ≠ .cell v := fun v z => by
      obtain ⟨m, ⟨o, es, ep, ho, hd, _⟩, _⟩ := I5.loc
      have e := hon.symm.trans ho
      cases e
      first
        | exact absurd (z.symm.trans hd) (by simp)
        | (obtain ⟨hd1, hd2⟩ := hd; exact absurd (z.symm.trans hd1) (by simp))
        | (obtain ⟨hd1, hd2⟩ := hd; exact absurd (z.symm.trans hd2) (by simp))
    have hpinI : (s4.heap.push { cls := .type "tuple", data := .seq us.toArray }).get? itI = some oI := (I5.pin (itI, oI) (List.mem_append_right _ (by simp))).1
    have hpinJ : (s4.heap.push { cls := .type "tuple", data := .seq us.toArray }).get? itJ = some { cls := .type "range_iterator", dict := none, data := .fields #[rawInt ((j : Int) + 1), rawInt (c : Int), rawInt 1], slots := #[] } := (I5.pin (itJ, _) (List.mem_append_right _ List.mem_cons_self)).1
    have ltI : itI < s4.heap.objs.size := Heap.lt_size ((I4.pin (itI, oI) (List.mem_append_right _ (by simp))).1)
    have ltJ : itJ < s4.heap.objs.size := Heap.lt_size ((I4.pin (itJ, _) (List.mem_append_right _ List.mem_cons_self)).1)
    show (End.susp _ g l k _ p _).quiet = true ∧ ∃ own', GItem (frs outer) n own own' [(i : Int), (j : Int)] s₀ _ _ ∧ RdyC (model P w) A base outer n (rowJ i (j + 1) c ++ rest) own' _ (k (.send .none)) _
    refine ⟨?_, [(n, on), (itI, oI), (itJ, { cls := .type "range_iterator", dict := none, data := .fields #[rawInt ((j : Int) + 1), rawInt (c : Int), rawInt 1], slots := #[] })], ⟨wake_kept I5, by show 2 ≤ sizeLine; decide, ⟨on, List.mem_cons_self⟩, ⟨s4.heap.objs.size, us, rfl, hsz4, ⟨_, Heap.get?_push_size _ rfl, rfl, _, rfl⟩, rus, ?_⟩, ?_⟩, ?_⟩
    · subst hg
      have hgd' : (Frame.ret k1 none false l1 c1 pp [] :: fs1).any Frame.guarded = false := hgd
      simp [End.quiet, hgd']
    · intro q hq
      rcases List.mem_cons.1 hq with rfl | hq
      · exact Nat.ne_of_lt (Nat.lt_of_lt_of_le hz0 hsz4)
      · rcases List.mem_cons.1 hq with rfl | hq
        · exact Nat.ne_of_lt ltI
        · rw [List.mem_singleton.1 hq]
          exact Nat.ne_of_lt ltJ
    · intro q hq
      rcases List.mem_cons.1 hq with rfl | hq
      · exact ⟨hon, hond, .inl rfl⟩
      · rcases List.mem_cons.1 hq with rfl | hq
        · exact ⟨hpinI, hoI, .inr oI'.2⟩
        · rw [List.mem_singleton.1 hq]
          exact ⟨hpinJ, oJd, .inr oJ.2⟩
    · rw [rdy_iff]
      intro s6 W6 O6
      have g6n : s6.heap.get? n = some on := O6 (n, on) (by simp)
      have g6I : s6.heap.get? itI = some oI := O6 (itI, oI) (by simp)
      have g6J : s6.heap.get? itJ = some { cls := .type "range_iterator", dict := none, data := .fields #[rawInt ((j : Int) + 1), rawInt (c : Int), rawInt 1], slots := #[] } := O6 (itJ, _) (by simp)
      have sl6 : Slots gN gScope n [some (.int many), some (.int i), some (.int j)] s6.heap := by
        obtain ⟨m, hns, hm⟩ := wake_slots gS_loc I5
        exact ⟨m, hns.at' fun o e => (by rw [hon] at e; cases e; exact g6n), hm⟩
      have I6 : Inv (gXc P w K mg base qual f cd A outer n [(n, on), (itI, oI), (itJ, { cls := .type "range_iterator", dict := none, data := .fields #[rawInt ((j : Int) + 1), rawInt (c : Int), rawInt 1], slots := #[] })] s6) [(itI, oI)] [some (.int many), some (.int i), some (.int j)] (cellH s6.heap n) s6 :=
        wake_inv ok.md rfl gS_loc (gS_cells n) ok.hd ok.fr ok.bz W6 sl6 rfl fun q hq => by
          rw [List.mem_singleton.1 hq]
          exact ⟨g6I, oI'.1, hoI⟩
      refine hk _ s6 (sg_again rfl ?_)
      exact ih (j + 1) _ s6 s6 _ _ I6 (Heap.lt_size g6n) (Nat.le_refl _) ⟨oI'.1, .inl (by simp)⟩ ⟨oJ.1, .inl (by simp)⟩ (cellH_no g6J oJd) (by
        have : ((j + 1 : Nat) : Int) = (j : Int) + 1 := by simp
        rw [this]
        exact g6J)
end
end DL
set_option maxHeartbeats 2000000
namespace DL
open PySem PySem.Spec PyProof.Rows L2 GenW
section
variable {P : Program} {w : World} {K : PySem.W.Frag} {mg : Str → Option Value} {base : Heap} {qual : Str} {f : Addr} {cd : Value} {A : Around} {outer : List Env} {n many : Nat}
variable {p0 p1 p2 p3 p4 p5 p6 p7 p8 p9 p10 p11 p12 q1 q2 q3 q4 q5 : Pos}
abbrev gB (p1 p2 p3 p4 p5 p6 p7 p8 q1 q2 q3 q4 q5 : Pos) : List Stmt :=
  [.For (.Name "j" p1) (.Call (.Name "range" p2) [.BinOp (.Name "i" p3) .Add (.Constant (.int 1) 0 p4) p5, .Name "many" p6] [] p7) (gY q1 q2 q3 q4 q5) [] p8]
theorem seg_outer (ok : GenOk K mg base A outer n many) {itI : Addr} {k0 : Result → Sem PySem.Fin} {l0 : List Value} {c0 : Code} {pp : Pos}
    (hov : A.over c0 [] = A.deeper (envOfC qual gScope n f cd))
    (kont : ∀ (own : List (Addr × Obj)) (s₀ s : Shared) (H : Hp) (σ : L2.St), Inv (gXc P w K mg base qual f cd A outer n own s₀) [] σ H s → Sg (model P w) A (ZE (model P w) A base outer n [] own s₀) c0 (k0 (.ok .next)) [] s) :
    ∀ (c i : Nat) (own : List (Addr × Obj)) (s₀ s : Shared) (H : Hp) (iv jv : Option V), i + c = many → Inv (gXc P w K mg base qual f cd A outer n own s₀) [] [some (.int many), iv, jv] H s → n < s₀.heap.objs.size → s₀.heap.objs.size ≤ s.heap.objs.size → OwnIn n own s₀ itI → H itI = none →
      IsRangeIter s.heap itI (i : Int) (c : Int) 1 →
      Sg (model P w) A (ZE (model P w) A base outer n (rowsI many i c) own s₀) (.forLoop (.Name "i" p9) (.ref itI) (gB p1 p2 p3 p4 p5 p6 p7 p8 q1 q2 q3 q4 q5) [] (envOfC qual gScope n f cd)) ((model P w).den (.forLoop (.Name "i" p9) (.ref itI) (gB p1 p2 p3 p4 p5 p6 p7 p8 q1 q2 q3 q4 q5) [] (envOfC qual gScope n f cd))) [.ret k0 none false l0 c0 pp []] s := by
  have hov2 : A.over (.forLoop (.Name "i" p9) (.ref itI) (gB p1 p2 p3 p4 p5 p6 p7 p8 q1 q2 q3 q4 q5) [] (envOfC qual gScope n f cd)) [.ret k0 none false l0 c0 pp []] = A.deeper (envOfC qual gScope n f cd) := (over_loop rfl rfl).trans hov
  intro c
  induction c with
  | zero =>
    intro i own s₀ s H iv jv hic I hz0 hz oI hHI st
    refine sg_forLoop ?_
    rw [hov2]
    have fi := fpok I oI hHI (fun p hp => (nomatch hp)) (Nat.le_of_lt hz0)
    refine wpAny_mono (rng_done (E := fun _ _ => False) I rfl fi st) (fun r s1 hr => ?_) fun _ _ z => z
    obtain ⟨rfl, I1⟩ := hr
    exact sg_forEnd (hh := none) (it := .none) (target := .Name "i" p9) (body := []) (kont own s₀ s1 H _ I1)
  | succ c ih =>
    intro i own s₀ s H iv jv hic I hz0 hz oI hHI st
    refine sg_forLoop ?_
    rw [hov2]
    have fi := fpok I oI hHI (fun p hp => (nomatch hp)) (Nat.le_of_lt hz0)
    refine wpAny_hsz hz (wpAny_mono (rng_item (E := fun _ _ => False) (tg := .Name "i" p9) I rfl fi st) (fun r s1 hr hsz => ?_) fun _ _ z _ => z)
    obtain ⟨u, rfl, hgo⟩ := hr
    refine wpAny_hsz hsz (wpAny_mono hgo (fun _ s2 hs hsz2 => ?_) fun _ _ z _ => z)
    obtain ⟨I2, ru, st2⟩ := hs
    have oId : ∀ v, ({ cls := .type "range_iterator", dict := none, data := .fields #[rawInt ((i : Int) + 1), rawInt (c : Int), rawInt 1], slots := #[] } : Obj).data ≠ .cell v := fun v z => by
      have z' : Data.fields _ = Data.cell v := z
      cases z'
    have I2' : Inv (gXc P w K mg base qual f cd A outer n own s₀) [(itI, { cls := .type "range_iterator", dict := none, data := .fields #[rawInt ((i : Int) + 1), rawInt (c : Int), rawInt 1], slots := #[] })] [some (.int many), iv, jv] H s2 := by
      refine I2.pins_of fun p hp => ?_
      rcases List.mem_cons.1 hp with rfl | hp
      · exact ⟨st2, hHI, fi.2.1, fi.2.2.1, oId⟩
      · exact (nomatch hp)
    refine wpAny_hsz hsz2 (wpAny_mono ((g_set (i := 1) (x := "i") (pos := p9) rfl (.inl rfl)).run _ s2 _ H (.int i) u (fun σ' H' => σ' = [some (V.int many), some (.int i), jv] ∧ H' = H) I2' ru ⟨rfl, rfl⟩) (fun _ s3 hs hsz3 => ?_) fun _ _ z _ => z)
    obtain ⟨σ3, H3, I3, e3, e3'⟩ := hs
    subst e3 e3'
    refine sg_execs_cons ?_
    refine sg_For ?_
    rw [hov2]
    have PAt : PA (gXc P w K mg base qual f cd A outer n own s₀) [.BinOp (.Name "i" p3) .Add (.Constant (.int 1) 0 p4) p5, .Name "many" p6] (tCons (tAdd (tVar 1) (tC (.int 1))) (tCons (tVar 0) tNil)) :=
      pa_cons (pe_add (g_var rfl (.inl rfl)) pe_int) (pa_cons (g_var rfl (.inl rfl)) pa_nil)
    have hlt := ok.lt
    refine wpAny_mono (rng_made2 (X := gXc P w K mg base qual f cd A outer n own s₀) (E := fun _ _ => False) (i := (i : Int) + 1) (j := many) (p := p2) (pos := p7) rfl ok.rg PAt I3 (by omega) (by omega) (by omega) (by omega) hsz3 ?_) (fun v s4 hs => ?_) fun _ _ z => z
    · exact ⟨_, rfl, i, 1, rfl, rfl, _, rfl, rfl, rfl⟩
    refine wpAny_mono hs (fun itv s5 hs => ?_) fun _ _ z => z
    obtain ⟨itJ, rfl, I5, st5, hJ1, hJ2, fJ⟩ := hs
    intro p l
    have hsz5 : s₀.heap.objs.size ≤ s5.heap.objs.size := Nat.le_trans hJ1 (Nat.le_of_lt hJ2)
    have hij : itI ≠ itJ := fJ.2.2.2.2.2 (itI, _) (List.mem_append_right _ List.mem_cons_self)
    have oJ : OwnIn n own s₀ itJ := ⟨Nat.lt_of_lt_of_le hz0 hJ1, .inr hJ1⟩
    have hrow : rowsI many i (c + 1) = rowJ i (i + 1) (many - (i + 1)) ++ rowsI many (i + 1) c := rfl
    rw [hrow]
    have e6 : ((many : Int) - ((i : Int) + 1)).toNat = many - (i + 1) := by omega
    rw [e6] at st5
    refine seg_inner ok (rest := rowsI many (i + 1) c) hov2 rfl rfl hij oId ?_ (many - (i + 1)) (i + 1) own s₀ s5 H3 jv I5 hz0 hsz5 oI oJ fJ.1 (by
      have : ((i + 1 : Nat) : Int) = (i : Int) + 1 := by simp
      rw [this]
      exact st5)
    intro own6 s06 s6 H6 jv6 I6 hz06 hz6 oI6
    have p6 := I6.pin (itI, _) (List.mem_append_right _ List.mem_cons_self)
    refine sg_again rfl ?_
    exact ih (i + 1) own6 s06 s6 H6 _ _ (by omega) (I6.pins_of fun p hp => I6.pin p (List.mem_append_left _ (by simpa using hp))) hz06 hz6 oI6 p6.2.1 (by
      have : ((i + 1 : Nat) : Int) = (i : Int) + 1 := by simp
      rw [this]
      exact p6.1)
/-- the whole def -/
abbrev gD (p1 p2 p3 p4 p5 p6 p7 p8 p9 p10 p11 p12 p0 q1 q2 q3 q4 q5 : Pos) : List Stmt :=
  [.For (.Name "i" p9) (.Call (.Name "range" p10) [.Name "many" p11] [] p12) (gB p1 p2 p3 p4 p5 p6 p7 p8 q1 q2 q3 q4 q5) [] p0]
theorem rdy_all (ok : GenOk K mg base A outer n many) {on : Obj} (hsl : ∀ h : Heap, h.get? n = some on → Slots gN gScope n [some (.int many), none, none] h) :
    RdyC (model P w) A base outer n (rowsI many 0 many) [(n, on)] (.func (gD p1 p2 p3 p4 p5 p6 p7 p8 p9 p10 p11 p12 p0 q1 q2 q3 q4 q5) (envOfC qual gScope n f cd)) ((model P w).den (.func (gD p1 p2 p3 p4 p5 p6 p7 p8 p9 p10 p11 p12 p0 q1 q2 q3 q4 q5) (envOfC qual gScope n f cd))) [] := by
  rw [rdy_iff]
  intro s W O
  have g1 : s.heap.get? n = some on := O (n, on) (by simp)
  have I : Inv (gXc P w K mg base qual f cd A outer n [(n, on)] s) [] [some (.int many), none, none] (cellH s.heap n) s :=
    wake_inv ok.md rfl gS_loc (gS_cells n) ok.hd ok.fr ok.bz W (hsl _ g1) rfl fun q hq => (nomatch hq)
  have hz := Heap.lt_size g1
  have hlt := ok.lt
  refine sg_func (sg_execs_cons (sg_For ?_))
  rw [over_func]
  have PAt : PA (gXc P w K mg base qual f cd A outer n [(n, on)] s) [.Name "many" p11] (tCons (tVar 0) tNil) := pa_cons (g_var rfl (.inl rfl)) pa_nil
  refine wpAny_mono (rng_made1 (X := gXc P w K mg base qual f cd A outer n [(n, on)] s) (E := fun _ _ => False) (j := many) (p := p10) (pos := p12) rfl ok.rg PAt I (by omega) (by omega) (Nat.le_refl _) ?_) (fun v s4 hs => ?_) fun _ _ z => z
  · exact ⟨_, rfl, rfl, rfl⟩
  refine wpAny_mono hs (fun itv s5 hs => ?_) fun _ _ z => z
  obtain ⟨itI, rfl, I5, st5, hJ1, hJ2, fJ⟩ := hs
  intro p l
  have e6 : ((many : Int) - 0).toNat = many := by omega
  rw [e6] at st5
  refine seg_outer ok over_func ?_ many 0 [(n, on)] s s5 _ _ _ (by omega) I5 hz (Nat.le_trans hJ1 (Nat.le_of_lt hJ2)) ⟨Nat.lt_of_lt_of_le hz hJ1, .inr hJ1⟩ fJ.1 st5
  intro own s₀ s6 H σ I6
  exact sg_end (.ok (.ret .none)) ⟨rfl, wake_kept I6⟩
end
end DL
set_option maxHeartbeats 2000000
/-! ### for over a generator -/
namespace DL
open PySem PySem.Spec PyProof.Rows L2 GenW
def RdyS (M : Model) (A : Around) (base : Heap) (outer : List Env) (n : Nat) (xs : List (List Int)) (own : List (Addr × Obj)) : GenState → Prop
  | .fresh c => RdyC M A base outer n xs own c (M.den c) []
  | .suspended k _ c _ fs _ => RdyC M A base outer n xs own c (k (.send .none)) fs
  | _ => False
/-- a generator just made -/
structure Made (P : Program) (w : World) (base : Heap) (outer : List Env) (xs : List (List Int)) (a : Addr) (g n : Nat) (go on : Obj) (c : Code) (s s' : Shared) : Prop where
  na : n < a
  sn : s.heap.objs.size = n
  ga : s'.heap.get? a = some go
  gen : go.cls = .type "generator" ∧ (∃ nm qn, go.data = .fields #[.int g 0, nm, qn]) ∧ go.slots = #[]
  gn : s'.heap.get? n = some on
  nc : ∀ v, on.data ≠ .cell v
  st : s'.gens[g]? = some (.fresh c)
  os : s'.os = s.os
  bare : AllBare s'.gens
  keep : ∀ b o, s.heap.get? b = some o → s'.heap.get? b = some o
  rdy : ∀ A : Around, A.handled = none → A.frames = some outer → RdyC (model P w) A base outer n xs [(n, on)] c ((model P w).den c) []
abbrev TMk := L2.St → Hp → (List (List Int) → Hp → Prop) → Prop
structure PMk (X : Cx) (e : Expr) (t : TMk) : Prop where
  run : ∀ (pins : List (Addr × Obj)) (s : Shared) (σ : L2.St) (H : Hp) (R : List (List Int) → Hp → Prop), Inv X pins σ H s → t σ H R → wpAny (model X.prog X.w) X.A (eval e X.env)
    (fun u s' => ∃ a g n go on c xs H1 sc, u = .ref a ∧ Inv X pins σ H1 sc ∧ Made X.prog X.w X.base X.stack xs a g n go on c sc s' ∧ R xs H1) X.xe s
section
variable {X : Cx} {pins : List (Addr × Obj)} {σ : L2.St} {H : Hp} {s s' : Shared}
theorem inv_gens {g' : Array GenState} (I : Inv X pins σ H s) (h : AllBare g') : Inv X pins σ H { s with gens := g' } := ⟨I.ok, I.os, h, I.base, I.loc, I.cell, I.free, I.freeC, I.pin, I.hok, I.len⟩
theorem inv_woke {s1 : Shared} (I : Inv X pins σ H s1) (hs : AllBare s.gens) (w : Woke s s1 s') : Inv X pins σ H s' := by
  have b := w.bare hs I.bare
  rw [w.eq] at b ⊢
  exact inv_gens I b
/-- the tracked heap stands while it runs -/
theorem kept_hok {fs ch : List Addr} (k : KeptG fs ch s s') (ok : HOk X.prog X.w H s.heap) (hf : ∀ b ∈ fs, H b = none) (hc : ∀ b ∈ ch, H b = none) : HOk X.prog X.w H s'.heap := fun b u q =>
  (ok b u q).stay (fun c v hv e => by
    have n1 : H c ≠ none := by
      rcases hv with z | z
      · rw [z, q]; simp
      · rw [z]; simp
    exact k.keep c v e (fun z => n1 (hf c z)) fun z => n1 (hc c z)) (fun _ y => y) fun _ _ y => y
theorem kept_un {fs ch : List Addr} (k : KeptG fs ch s s') : Un fs ch H H s.heap s'.heap :=
  ⟨fun b o e _ h1 h2 => k.keep b o e h1 h2, fun b o e _ h1 h2 => k.slot b o e h1 h2, fun _ _ _ n _ => n, fun b o e h2 => by
    by_cases h1 : b ∈ fs
    · obtain ⟨sl, z⟩ := k.slot b o e h1 h2
      exact ⟨_, z⟩
    · exact ⟨o, k.keep b o e h1 h2⟩, fun _ _ q => q, fun _ _ _ q => q, fun _ ps q => ⟨#[], by rw [q]; simp⟩⟩
/-- where the consumer stands -/
structure Low (X : Cx) (pins : List (Addr × Obj)) (n : Nat) : Prop where
  s0 : X.s_0.heap.objs.size ≤ n
  loc : X.env.locals < n
  cell : ∀ x c, X.env.cells.lookup x = some c → c < n
  pin : ∀ p ∈ X.pn ++ pins, p.1 < n
  fr : ∀ b ∈ frs X.stack, b < n
theorem low_of (I : Inv X pins σ H s) : Low X pins s.heap.objs.size := by
  refine ⟨I.sz, I.lt, fun x c e => ?_, fun p hp => Heap.lt_size (I.pin p hp).1, fun b hb => ?_⟩
  · obtain ⟨v, q⟩ := I.cell x c e
    exact q.lt
  · obtain ⟨_, o, ho, _⟩ := I.env0.funs.mem hb
    exact Heap.lt_size ho
theorem frs_sub (I : Inv X pins σ H s) : ∀ b ∈ X.fs, b ∈ frs X.stack := fun b hb => by
  rcases I.ok.stk with z | ⟨z, _⟩
  · rw [z]
    exact hb
  · rw [z]
    show b ∈ List.filterMap _ (_ :: _)
    rw [List.filterMap_cons]
    split
    · exact hb
    · exact List.mem_cons_of_mem _ hb
theorem cut_funs {h base : Heap} {n : Nat} : ∀ {l : List Env}, h.FunFrames base l → (∀ b ∈ frs l, b < n) → (cutH h n).FunFrames base l
  | [], _, _ => trivial
  | env :: rest, hl, hb => by
    obtain ⟨hk, ⟨L, o, hf, hn, ho, hd⟩, hr⟩ := hl
    have e : frs (env :: rest) = L :: frs rest := by
      show List.filterMap _ (env :: rest) = _
      rw [List.filterMap_cons, hf]
      rfl
    rw [e] at hb
    exact ⟨hk, ⟨L, o, hf, hn, by rw [cutH_get, if_pos (hb L List.mem_cons_self)]; exact ho, hd⟩, cut_funs hr fun b z => hb b (List.mem_cons_of_mem _ z)⟩
theorem wake_ok {n : Nat} {g : Nat} (I : Inv X pins σ H s) (lw : ∀ b ∈ frs X.stack, b < n) : WakeOk X.base X.stack n (s.setGen g .running) :=
  ⟨I.bk, cut_funs I.env0.funs lw, allBare_setGen I.bare rfl⟩
end
/-- the consumer at a turn -/
structure LoopI (X : Cx) (pins : List (Addr × Obj)) (a : Addr) (g n : Nat) (go : Obj) (xs : List (List Int)) (σ : L2.St) (H : Hp) (s : Shared) : Prop where
  ex : ∃ own gs, Inv X ((a, go) :: (own ++ pins)) σ H s ∧ s.gens[g]? = some gs ∧ RdyS (model X.prog X.w) X.A.in1 X.base X.stack n xs own gs ∧ (∃ o, (n, o) ∈ own) ∧ ∀ p ∈ own, n ≤ p.1 ∧ p.1 ≠ a
theorem isGen_of {h : Heap} {a : Addr} {g : Nat} {go : Obj} (e : h.get? a = some go) (hg : go.cls = .type "generator" ∧ (∃ nm qn, go.data = .fields #[.int g 0, nm, qn]) ∧ go.slots = #[]) : h.IsGen a g :=
  let ⟨h1, ⟨nm, qn, h2⟩, h3⟩ := hg
  ⟨go, nm, qn, e, h1, h2, h3⟩
section
variable {X : Cx} {tg : Expr}
def tForG (ti : TMk) (g : TG) (tb : TS) : TS := fun D σ H => ti σ H fun xs H1 => ∃ W : Nat → L2.St → Hp → Prop, W 0 σ H1 ∧ (∀ σ H, W xs.length σ H → D.nx σ H) ∧
  ∀ i x σ H, xs[i]? = some x → W i σ H → ∀ p, H p = none → g (.ref p) σ (upd H p (.tup (x.map V.int))) fun σ2 H2 => tb { D with nx := W (i + 1), ct := W (i + 1), bk := D.nx } σ2 H2
theorem ps_forG {iter : Expr} {body : List Stmt} {ti : TMk} {g : TG} {tb : TS} {pos : Pos} {k : Nat} (hx : ∀ e s, ¬ X.xe e s) (hc : X.calm = true) (hr : Room k X.A) (hi : PMk X iter ti) (hg : PG X tg g) (hb : PSs X body tb)
    (hs : ∀ x, foldedSetIterable iter X.env x = pure x := by intro _; rfl) : PS X (.For tg iter body [] pos) (tForG ti g tb) := by
  have hp : PassesOwn (model X.prog X.w) X.A X.env X.xe := fun e s z => (hx e s z).elim
  refine ⟨fun pins s σ H D I h => ?_⟩
  refine wpAny_For (thn (hi.run pins s σ H _ I h) fun v s1 h1 => ?_) hs
  obtain ⟨a, gn, n, go, on, c, xs, H1, sc, rfl, I1, M, W, w0, wend, step⟩ := h1
  have lw : Low X pins n := by
    rw [← M.sn]
    exact low_of I1
  have I1' : Inv X pins σ H1 s1 := I1.call' (ch := []) M.os (Un.kept M.keep) (I1.hok.kept M.keep) M.bare fun b z => (nomatch z)
  have frn : ∀ b, n ≤ b → H1 b = none ∧ b ≠ X.env.locals ∧ b ∉ X.fs := fun b hb => by
    refine ⟨I1.hok.fresh (by rw [M.sn]; exact hb), Nat.ne_of_gt (Nat.lt_of_lt_of_le lw.loc hb), fun z => ?_⟩
    exact I1.nofs (by rw [M.sn]; exact hb) z
  have god : ∀ v, go.data ≠ .cell v := fun v z => by
    obtain ⟨_, ⟨nm, qn, e⟩, _⟩ := M.gen
    rw [e] at z
    cases z
  refine wpAny_pyIter_gen (isGen_of M.ga M.gen) ?_
  refine codeAny_forLoop_any (fun m s' => ∃ i σ' H', m = xs.length - i ∧ i ≤ xs.length ∧ LoopI X pins a gn n go (xs.drop i) σ' H' s' ∧ W i σ' H') ?_ xs.length ⟨0, σ, H1, (Nat.sub_zero _).symm, Nat.zero_le _, ⟨[(n, on)], .fresh c, ?_, M.st, M.rdy _ (I1.ok.hd hc) I1.ok.frames, ⟨on, List.mem_singleton.2 rfl⟩, fun p hp => ?_⟩, w0⟩
  rotate_left
  · refine I1'.pins_of fun p hp => ?_
    rcases List.mem_cons.1 hp with rfl | hp
    · obtain ⟨f1, f2, f3⟩ := frn a (Nat.le_of_lt M.na)
      exact ⟨M.ga, f1, f2, f3, god⟩
    · rcases List.mem_cons.1 hp with rfl | hp
      · obtain ⟨f1, f2, f3⟩ := frn n (Nat.le_refl n)
        exact ⟨M.gn, f1, f2, f3, M.nc⟩
      · exact I1'.pin p (List.mem_append_right _ hp)
  · rw [List.mem_singleton.1 hp]
    exact ⟨Nat.le_refl n, Nat.ne_of_lt M.na⟩
  rintro m s3 ⟨i, σ3, H3, hm, hle, L, w3⟩
  obtain ⟨own, gs, I3, g3, r3, ⟨o3, hn3⟩, ho3⟩ := L.ex
  have I3p : Inv X ((a, go) :: pins) σ3 H3 s3 := I3.pins_of fun p hp => I3.pin p (List.mem_append_right _ (by
    rcases List.mem_cons.1 hp with rfl | hp
    · exact List.mem_cons_self
    · exact List.mem_cons_of_mem _ (List.mem_append_right _ hp)))
  have pown : ∀ p ∈ own, s3.heap.get? p.1 = some p.2 ∧ H3 p.1 = none ∧ p.1 ≠ X.env.locals ∧ p.1 ∉ X.fs ∧ ∀ v, p.2.data ≠ .cell v := fun p hp => I3.pin p (List.mem_append_right _ (List.mem_cons_of_mem _ (List.mem_append_left _ hp)))
  have hchn : ∀ b ∈ chOf n (own.map (·.1)), H3 b = none ∧ n ≤ b ∧ b ≠ a := fun b hb => by
    rcases List.mem_cons.1 hb with rfl | hb
    · exact ⟨(pown _ hn3).2.1, Nat.le_refl _, Nat.ne_of_lt M.na⟩
    · obtain ⟨p, hp, rfl⟩ := List.mem_map.1 hb
      exact ⟨(pown p hp).2.1, ho3 p hp⟩
  have chs : ∀ b ∈ chOf n (own.map (·.1)), (b ∈ X.ex ∨ X.s_0.heap.objs.size ≤ b) ∧ b ≠ X.env.locals ∧ (∀ x c, X.env.cells.lookup x = some c → c ≠ b) ∧ ∀ p ∈ X.pn ++ ((a, go) :: pins), p.1 ≠ b := fun b hb => by
    obtain ⟨_, h2, h3⟩ := hchn b hb
    refine ⟨.inr (Nat.le_trans lw.s0 h2), Nat.ne_of_gt (Nat.lt_of_lt_of_le lw.loc h2), fun x c e => Nat.ne_of_lt (Nat.lt_of_lt_of_le (lw.cell x c e) h2), fun p hp => ?_⟩
    rcases List.mem_append.1 hp with z | z
    · exact Nat.ne_of_lt (Nat.lt_of_lt_of_le (lw.pin p (List.mem_append_left _ z)) h2)
    · rcases List.mem_cons.1 z with rfl | z
      · exact fun e => h3 e.symm
      · exact Nat.ne_of_lt (Nat.lt_of_lt_of_le (lw.pin p (List.mem_append_right _ z)) h2)
  -- behind a waking
  have after : ∀ s4, KeptG (frs X.stack) (chOf n (own.map (·.1))) (s3.setGen gn .running) s4 → Inv X ((a, go) :: pins) σ3 H3 s4 := fun s4 k => by
    have I3r : Inv X ((a, go) :: pins) σ3 H3 (s3.setGen gn .running) := inv_gens I3p (allBare_setGen I3.bare rfl)
    exact I3r.call' (ch := chOf n (own.map (·.1))) k.os (kept_un k) (kept_hok k I3r.hok I3r.env0.frf fun b hb => (hchn b hb).1) k.bare chs
  have pa : s3.heap.get? a = some go := (I3.pin (a, go) (List.mem_append_right _ List.mem_cons_self)).1
  have to : GenState.To (model X.prog X.w) X.A.in1 (ZE (model X.prog X.w) X.A.in1 X.base X.stack n (xs.drop i) own (s3.setGen gn .running)) gs (s3.setGen gn .running) := by
    have wk : WakeOk X.base X.stack n (s3.setGen gn .running) := wake_ok I3 lw.fr
    have ow : OwnAt own (s3.setGen gn .running) := fun p hp => (pown p hp).1
    cases gs with
    | fresh c => exact rdy_iff.1 r3 _ wk ow
    | suspended k l c p fs cl => exact rdy_iff.1 r3 _ wk ow
    | running => exact r3.elim
    | finished => exact r3.elim
  have hgl : gn < s3.gens.size := (Array.getElem?_eq_some_iff.mp g3).1
  refine wpAny_passesOwn hp (wpAny_gsz (n := gn + 1) hgl (next_to (I3.ok.hd hc) I3.nolimit hr.depth (isGen_of pa M.gen) g3 to (fun e s4 hz => ?_)))
  by_cases hlt : i < xs.length
  · -- an item
    have ed : xs.drop i = xs[i] :: xs.drop (i + 1) := List.drop_eq_getElem_cons hlt
    rw [ed] at hz
    cases e with
    | ret r => exact hz.elim
    | susp v g₀ l k c p fs =>
      obtain ⟨hq, own', G, R⟩ := hz
      refine ⟨hq, fun hgz => ?_⟩
      obtain ⟨t, us, rfl, htz, tup, rv, hto⟩ := G.item
      have bare' : AllBare (s4.setGen gn (End.susp (.ref t) g₀ l k c p fs).genState).gens := allBare_setGen G.kept.bare (End.bare_of_quiet hq)
      have ht3 : H3 t = none := I3.hok.fresh htz
      have hlen : (xs[i].map V.int).length ≤ sizeLine := by
        rw [List.length_map]
        exact G.len
      have al : a < s3.heap.objs.size := Heap.lt_size pa
      have I3r : Inv X ((a, go) :: pins) σ3 H3 (s3.setGen gn .running) := inv_gens I3p (allBare_setGen I3.bare rfl)
      have un := kept_un (H := H3) G.kept
      have hok := kept_hok G.kept I3r.hok I3r.env0.frf fun b hb => (hchn b hb).1
      have I5 : Inv X ((a, go) :: pins) σ3 (upd H3 t (.tup (xs[i].map V.int))) (s4.setGen gn (End.susp (.ref t) g₀ l k c p fs).genState) := by
        refine I3r.call' (ch := chOf n (own.map (·.1))) G.kept.os ⟨un.keep, un.slot, fun b o e n' h2 => ?_, un.there, fun b ys q => ?_, fun b o u q => ?_, fun b ps q => ?_⟩ (fun b u q => ?_) bare' (chs)
        · rw [upd_ne (Nat.ne_of_lt (Nat.lt_of_lt_of_le (Heap.lt_size e) htz))]
          exact n'
        · rw [upd_ne (ne_of_none q ht3)]
          exact q
        · rw [upd_ne (ne_of_none q ht3)]
          exact q
        · exact ⟨#[], by rw [upd_ne (ne_of_none q ht3), q]; simp⟩
        · by_cases hbt : b = t
          · subst hbt
            rw [upd_same] at q
            cases q
            exact ⟨hlen, us, rv, tup⟩
          · rw [upd_ne hbt] at q
            exact (hok b u q).stay (fun _ _ _ z => z) (fun d z => by rw [upd_ne (ne_of_none z ht3)]; exact z) fun d ys z => by rw [upd_ne (ne_of_none z ht3)]; exact z
      have po : ∀ p ∈ own', H3 p.1 = none ∧ n ≤ p.1 ∧ p.1 ≠ a := fun p hp => by
        rcases (G.own p hp).2.2 with z | z | z
        · rw [z]
          exact hchn n List.mem_cons_self
        · exact hchn _ (List.mem_cons_of_mem _ z)
        · exact ⟨I3.hok.fresh z, Nat.le_trans (Nat.le_of_lt (Heap.lt_size (pown _ hn3).1)) z, Nat.ne_of_gt (Nat.lt_of_lt_of_le al z)⟩
      have I6 : Inv X ((a, go) :: (own' ++ pins)) σ3 (upd H3 t (.tup (xs[i].map V.int))) (s4.setGen gn (End.susp (.ref t) g₀ l k c p fs).genState) := by
        refine I5.pins_of fun p hp => ?_
        rcases List.mem_cons.1 hp with rfl | hp
        · exact I5.pin _ (List.mem_append_right _ List.mem_cons_self)
        · rcases List.mem_append.1 hp with z | z
          · obtain ⟨z1, z2, z3⟩ := po p z
            obtain ⟨y1, y2, _⟩ := G.own p z
            refine ⟨y1, by rw [upd_ne (hto p z)]; exact z1, Nat.ne_of_gt (Nat.lt_of_lt_of_le lw.loc z2), fun hb => ?_, y2⟩
            exact absurd (lw.fr _ (frs_sub I3 _ hb)) (Nat.not_lt_of_le z2)
          · exact I5.pin p (List.mem_append_right _ (List.mem_cons_of_mem _ z))
      have g6 : (s4.setGen gn (End.susp (.ref t) g₀ l k c p fs).genState).gens[gn]? = some (End.susp (.ref t) g₀ l k c p fs).genState := setGen_at (by
        have q : (s4.setGen gn (End.susp (.ref t) g₀ l k c p fs).genState).gens.size = s4.gens.size := setGen_size _ _ _
        have hgz' : gn + 1 ≤ (s4.setGen gn (End.susp (.ref t) g₀ l k c p fs).genState).gens.size := hgz
        omega)
      generalize hs6 : s4.setGen gn (End.susp (.ref t) g₀ l k c p fs).genState = s6 at I6 g6 ⊢
      obtain ⟨gc, ⟨nm, qn, gd⟩, gsl⟩ := M.gen
      have pa6 : s6.heap.get? a = some go := (I6.pin (a, go) (List.mem_append_right _ List.mem_cons_self)).1
      refine wpAny_passesOwn hp (go_of pa6 gc gd (by decide) ?_)
      have A1 := asleep (hg.run _ (drowse s6) σ3 _ (.ref t) (.ref t) _ (inv_gens I6 (drowse_bare I6.bare)) rfl (step i xs[i] σ3 H3 (List.getElem?_eq_getElem hlt) w3 t ht3))
      refine wpAny_passesOwn hp (wpAny_mono A1 (fun _ s7 hs7 => ?_) fun e s7 z => ?_)
      rotate_left
      · obtain ⟨_, z, _⟩ := z
        exact (hx _ _ z).elim
      obtain ⟨s7', ⟨σ7, H7, I7', q7⟩, wk7⟩ := hs7
      have I7 := inv_woke I7' I6.bare wk7
      have g7 := wk7.kept gn _ _ _ _ _ _ g6
      have A2 := asleep (hb.run _ (drowse s7) σ7 H7 _ (inv_gens I7 (drowse_bare I7.bare)) q7)
      refine wpAny_passesOwn hp (wpAny_mono A2 (fun f s8 hs8 => ?_) fun e s8 z => ?_)
      rotate_left
      · obtain ⟨_, z, _⟩ := z
        exact (hx _ _ z).elim
      obtain ⟨s8', q8, wk8⟩ := hs8
      have g8 := wk8.kept gn _ _ _ _ _ _ g7
      have again : ∀ {σ8 : L2.St} {H8 : Hp}, Inv X ((a, go) :: (own' ++ pins)) σ8 H8 s8' → W (i + 1) σ8 H8 → ∃ m', m' < m ∧ ∃ i σ' H', m' = xs.length - i ∧ i ≤ xs.length ∧ LoopI X pins a gn n go (xs.drop i) σ' H' s8 ∧ W i σ' H' := fun {σ8 H8} I8 w8 =>
        ⟨xs.length - (i + 1), by omega, i + 1, σ8, H8, rfl, hlt, ⟨own', _, inv_woke I8 I7.bare wk8, g8, R, G.hasn, fun p hp => (po p hp).2⟩, w8⟩
      have drop : ∀ {σ8 : L2.St} {H8 : Hp}, Inv X ((a, go) :: (own' ++ pins)) σ8 H8 s8' → Inv X pins σ8 H8 s8 := fun {σ8 H8} I8 =>
        let J := inv_woke I8 I7.bare wk8
        J.pins_of fun p hp => J.pin p (List.mem_append_right _ (List.mem_cons_of_mem _ (List.mem_append_right _ hp)))
      cases f with
      | next => obtain ⟨σ8, H8, I8, n8⟩ := q8; exact again I8 n8
      | cont => obtain ⟨σ8, H8, I8, n8⟩ := q8; exact again I8 n8
      | brk => obtain ⟨σ8, H8, I8, n8⟩ := q8; exact ⟨σ8, H8, drop I8, n8⟩
      | ret v => obtain ⟨x8, σ8, H8, I8, r8, n8⟩ := q8; exact ⟨x8, σ8, H8, drop I8, r8, n8⟩
  · have ed : xs.drop i = [] := List.drop_eq_nil_of_le (Nat.le_of_not_lt hlt)
    rw [ed] at hz
    cases e with
    | susp v g₀ l k c p fs => exact hz.elim
    | ret r =>
      obtain ⟨hr, k⟩ := hz
      refine ⟨hr, fun h' hk hgz => ?_⟩
      have I4 := after s4 k
      have I5 : Inv X ((a, go) :: pins) σ3 H3 { s4.setGen gn .finished with heap := h' } := I4.call' (ch := []) rfl (Un.kept hk) (I4.hok.kept hk) (allBare_setGen I4.bare rfl) fun b z => (nomatch z)
      have e : i = xs.length := by omega
      subst e
      exact wpAny_execs_nil ⟨σ3, H3, I5.pins_of fun p hp => I5.pin p (List.mem_append_right _ (List.mem_cons_of_mem _ hp)), wend σ3 H3 w3⟩
end
end DL
set_option maxHeartbeats 2000000
/-! ### a generator is made by a call -/
namespace DL
open PySem PySem.Spec PyProof.Rows L2 GenW
def GMkOk (P : Program) (w : World) (K : PySem.W.Frag) (mg : Str → Option Value) (base : Heap) (k : Nat) (f : Addr) (fd : FuncData) : Prop :=
  ∀ (A : Around) (st : List Env) (s : Shared) (H : Hp) (ar : Args) (us : List Value) (many : Nat), Room k A → Env0 P w K mg base A st s H → BindsTo s fd ar ([("many" : Str)].zip us) → Vals [.int many] us → many < 2 ^ 61 →
    codeAny (model P w) A (.call (.ref f) ar) (fun r s' => ∃ a g n go on c, r = .ok (.ret (.ref a)) ∧ Made P w base st (rowsI many 0 many) a g n go on c s s') s
section
variable {P : Program} {w : World} {K : PySem.W.Frag} {mg : Str → Option Value} {base : Heap} {x qual : Str} {params : Arguments} {dvs : List V} {kws : List (Str × V)} {f : Addr} {fd : FuncData} {p0 p1 p2 p3 p4 p5 p6 p7 p8 p9 p10 p11 p12 q1 q2 q3 q4 q5 : Pos}
theorem genf_of {body : List Stmt} {scope : Scope} (F : FunD K x qual params body scope dvs kws f fd) (hbd : body = gD p1 p2 p3 p4 p5 p6 p7 p8 p9 p10 p11 p12 p0 q1 q2 q3 q4 q5) (hsc : scope = gScope) (hrg : mg "range" = none) (k : Nat) : GMkOk P w K mg base k f fd := by
  obtain ⟨oc, od, dV, kV, doc, pm, an, cdv, ct, osl, rfl, lk, hcd, _, _⟩ := F.ex
  subst hbd hsc
  intro A st s H ar us many hr e0 hb rv hlt
  have KX : K.In s.heap := e0.mod.kin.keeps fun b o e => (e0.bs b o e).1
  have lim : s.heap.NoLimit := e0.mod.nolimit.keeps fun b o e => (e0.bs b o e).1
  obtain ⟨u, rfl, ru⟩ : ∃ u, us = [u] ∧ RelV (.int many) u := by
    cases rv with
    | cons r rr =>
      cases rr
      exact ⟨_, rfl, r⟩
  have hkind : ∀ y ∈ [("many" : Str)].zip [u], gScope.names.lookup y.1 = some .local ∨ (gScope.names.lookup y.1 = some .cell ∧ ((cellsFrom (s.heap.objs.size + 1) gScope.names []).lookup y.1).isSome = true) := fun y hy => by
    have e : y = (("many" : Str), u) := List.mem_singleton.1 hy
    rw [e]
    exact .inl rfl
  refine codeAny_call_generator hr.depth (KX _ _ lk) rfl rfl rfl rfl (PySem.W.codeRec_of KX hcd) (hb _ _ _ _ ?_)
  refine wpAny_newFunctionEnv_cells rfl hkind fun env he s1 y => ?_
  subst he
  have lim1 : s1.heap.NoLimit := lim.keeps y.toInCall.keep
  refine ⟨lim1, ?_⟩
  obtain ⟨h1, tk, es1, hk1⟩ := y.done
  have os1 : s1.os = s.os := by rw [es1]
  have gen1 : s1.gens = s.gens := by rw [es1]
  have lt1 : s.heap.objs.size < s1.heap.objs.size := y.toInCall.ns.lt
  have kp1 : ∀ b o, s.heap.get? b = some o → s1.heap.get? b = some o := y.toInCall.keep
  have ns1 := y.toInCall.ns
  obtain ⟨on, hon⟩ : ∃ on, s1.heap.get? s.heap.objs.size = some on := by
    obtain ⟨o, _, _, ho, _⟩ := ns1
    exact ⟨o, ho⟩
  have hond : ∀ v, on.data ≠ .cell v := fun v z => by
    obtain ⟨o, es, ep, ho, hd, _⟩ := ns1
    have e := hon.symm.trans ho
    cases e
    first
      | exact absurd (z.symm.trans hd) (by simp)
      | (obtain ⟨hd1, hd2⟩ := hd; exact absurd (z.symm.trans hd1) (by simp))
      | (obtain ⟨hd1, hd2⟩ := hd; exact absurd (z.symm.trans hd2) (by simp))
  refine ⟨s1.heap.objs.size, s1.gens.size, s.heap.objs.size, _, on, _, rfl, lt1, rfl, Heap.get?_push_size _ rfl, ⟨rfl, ⟨_, _, rfl⟩, rfl⟩, Heap.get?_push_of_some _ hon, hond, Array.getElem?_push_size .., os1, AllBare.push (by rw [gen1]; exact e0.bare) rfl, fun b o e => Heap.get?_push_of_some _ (kp1 b o e), fun A' hh hf => ?_⟩
  refine rdy_all ⟨e0.mod, hrg, hh, hf, e0.bsz, hlt⟩ fun h hh' => ?_
  refine ⟨_, ns1.at' fun o e => (by have e' := hon.symm.trans e; cases e'; exact hh'), fun i nm v e1 e2 e3 => ?_⟩
  match i, e1, e2 with
  | 0, e1, e2 =>
    cases e1
    cases e2
    exact ⟨u, ru, bindL_get (P := [("many" : Str)]) (vs := [u]) (i := 0) (by decide) rfl rfl rfl⟩
  | 1, _, e2 => cases e2
  | 2, _, e2 => cases e2
end
/-- the generator def of the module, by its name -/
def GenF (P : Program) (wd : World) (K : PySem.W.Frag) (mg : Str → Option Value) (base : Heap) (nm : Str) (k : Nat) : Prop :=
  ∃ fd, GMkOk P wd K mg base k (He.ga K nm) fd ∧ Binds K fd ["many"] [] ∧ PySem.W.keepIn K (.ref (He.ga K nm)) = true ∧ mg nm = some (.ref (He.ga K nm))
section
variable {X : Cx}
def tMk (t : TA) : TMk := fun σ H R => t σ H fun vs H1 => ∃ many : Nat, vs = [.int many] ∧ many < 2 ^ 61 ∧ R (rowsI many 0 many) H1
theorem pmk_call {nm : Str} {e : Expr} {t : TA} {p pos : Pos} {k j : Nat} (F : GenF X.prog X.w X.K X.mg X.base nm j) (hr : Room k X.A) (hj : j ≤ k) (hg : Gl X nm) (ha : PA X [e] t) (hdb : (nm == ("__debug__" : Str)) = false := by decide)
    (he : starEach [e] X.env = (false, eval e X.env) :: starEach [] X.env := by rfl) (hpl : (backTo pos (starEach [] X.env)).any (·.1) = false := by rfl) : PMk X (.Call (.Name nm p) [e] [] pos) (tMk t) := by
  obtain ⟨fd, F, hb, hk, hm⟩ := F
  refine ⟨fun pins s σ H R I h => ?_⟩
  refine wpAny_Call_Name_kw (ld_glob I hg hm ?_ hdb)
  refine PySem.W.callWith_K (h₀ := X.base) I.ok.mod.kin hk (thn (ha.run pos pins s σ H _ I h) fun us s1 ⟨vs, H1, I1, r, many, e1, hlt, q⟩ => ⟨I1.kIn, ?_⟩) he hpl
  subst e1
  have r2 : us.length = 1 := by rw [← r.length]; rfl
  have hl2 : (us ++ []).length = 1 := by rw [List.append_nil]; exact r2
  have hbb := hb s1 us I1.kIn hl2
  rw [List.append_nil] at hbb
  refine wpAny_call (codeAny_mono (F X.A X.stack s1 H1 ⟨us, []⟩ us many (hr.mono hj) I1.env0 hbb r hlt) fun r s' hq => ?_)
  obtain ⟨a, g, n, go, on, c, rfl, M⟩ := hq
  exact ⟨a, g, n, go, on, c, _, H1, s1, rfl, I1, M, q⟩
end
end DL
set_option maxHeartbeats 2000000
/-! ### {k: v for .. in .. for .. in ..}, the keys tuples of ints and texts -/
namespace DL
open PySem PySem.Spec PyProof.Rows L2
theorem turn2_out (kx vx t0 i0 t1 i1 : Expr) (scope : Scope) (pos : Pos) (it acc : Value) (env : Env) :
    compTurn (.DictComp kx vx [⟨t0, i0, [], 0⟩, ⟨t1, i1, [], 0⟩] scope pos) 0 it acc env = (do
      standAt i0.pos
      match ← pyNext it with
      | none => pure (.done .next)
      | some v =>
        letOwnedTupleGo t0 it v
        assign t0 env v
        let x ← eval i1 env
        standAt i1.pos
        let x ← foldedSetIterable i1 env x
        let it1 ← holding [x] (pyIter x)
        let _ ← runOwn (.compStart (.DictComp kx vx [⟨t0, i0, [], 0⟩, ⟨t1, i1, [], 0⟩] scope pos) 1 it1 acc env) env
        again (.compLoop (.DictComp kx vx [⟨t0, i0, [], 0⟩, ⟨t1, i1, [], 0⟩] scope pos) 0 it acc env)) := by rfl
theorem turn2_in (kx vx t0 i0 t1 i1 : Expr) (scope : Scope) (pos : Pos) (it : Value) (D : Addr) (env : Env) :
    compTurn (.DictComp kx vx [⟨t0, i0, [], 0⟩, ⟨t1, i1, [], 0⟩] scope pos) 1 it (.ref D) env = (do
      standAt i1.pos
      match ← pyNext it with
      | none => pure (.done .next)
      | some v =>
        letOwnedTupleGo t1 it v
        assign t1 env v
        (do
          let kv ← eval kx env
          let vv ← holding [kv] (eval vx env)
          standAt { kx.pos with endLine := vx.pos.endLine, endCol := vx.pos.endCol }
          holding [kv, vv] (dictSet D kv vv))
        again (.compLoop (.DictComp kx vx [⟨t0, i0, [], 0⟩, ⟨t1, i1, [], 0⟩] scope pos) 1 it (.ref D) env)) := by rfl
section
variable {prog : Program} {w : World} {A : Around} {R : Result → Shared → Prop} {s : Shared} {kx vx t0 i0 t1 i1 : Expr} {scope : Scope} {pos : Pos} {it : Value} {D : Addr} {env : Env}
theorem loop2_out (hs : ∀ x, foldedSetIterable i1 env x = pure x) (I : Nat → Shared → Prop)
    (turn : ∀ n s, I n s → wpAny (model prog w) A (pyNext it) (fun r s₁ => match r with
      | none => R (.ok .next) s₁
      | some v => wpAny (model prog w) A (letOwnedTupleGo t0 it v) (fun _ s₁' => wpAny (model prog w) A (assign t0 env v) (fun _ s₂ =>
          wpAny (model prog w) A (eval i1 env) (fun x s₄ => wpAny (model prog w) A (pyIter x) (fun it1 s₅ =>
              codeAny (model prog w) A (.compStart (.DictComp kx vx [⟨t0, i0, [], 0⟩, ⟨t1, i1, [], 0⟩] scope pos) 1 it1 (.ref D) env) (fun r s' => match r with
                | .ok _ => ∃ m, m < n ∧ I m s'
                | .error _ => False) s₅) (fun _ _ => False) s₄) (fun _ _ => False) s₂) (fun _ _ => False) s₁') (fun _ _ => False) s₁) (fun _ _ => False) s)
    (n : Nat) (h : I n s) :
    codeAny (model prog w) A (.compLoop (.DictComp kx vx [⟨t0, i0, [], 0⟩, ⟨t1, i1, [], 0⟩] scope pos) 0 it (.ref D) env) R s := by
  refine codeAny_loop rfl I (fun n s hI => ?_) n h
  show wpAny _ A ((compTurn (.DictComp kx vx [⟨t0, i0, [], 0⟩, ⟨t1, i1, [], 0⟩] scope pos) 0 it (.ref D) env).onRaise (fun x => do noteFrame x env; theTreesLotGoes x)) _ _ s
  refine wpAny_noted ?_
  rw [turn2_out]
  refine wpAny_bind (wpAny_standAt (wpAny_bind (wpAny_mono (turn n s hI) (fun r s₁ h₁ => ?_) fun _ _ h' => h'.elim)))
  cases r with
  | none => exact wpAny_pure h₁
  | some v =>
    refine wpAny_bind (wpAny_mono h₁ (fun _ s₁' h₁' => ?_) fun _ _ h' => h'.elim)
    refine wpAny_bind (wpAny_mono h₁' (fun _ s₂ h₂ => wpAny_bind (wpAny_mono h₂ (fun x s₄ h₄ => ?_) fun _ _ h' => h'.elim)) fun _ _ h' => h'.elim)
    refine wpAny_bind (wpAny_standAt (wpAny_bind (wpAny_of_eq (hs x) (wpAny_bind (wpAny_holding (wpAny_mono h₄ (fun it1 s₅ h₅ => ?_) fun _ _ h' => h'.elim))))))
    refine wpAny_bind (wpAny_runOwn ?_)
    rw [Around.mark_none]
    refine codeAny_mono h₅ fun r s' hr => ?_
    cases r with
    | ok f => first
        | exact wpAny_pure ⟨rfl, hr⟩
        | exact wpAny_bind (wpAny_pure (wpAny_pure ⟨rfl, hr⟩))
    | error e => exact hr.elim
theorem loop2_in (I : Nat → Shared → Prop)
    (turn : ∀ n s, I n s → wpAny (model prog w) A (pyNext it) (fun r s₁ => match r with
      | none => R (.ok .next) s₁
      | some v => wpAny (model prog w) A (letOwnedTupleGo t1 it v) (fun _ s₁' => wpAny (model prog w) A (assign t1 env v) (fun _ s₂ =>
          wpAny (model prog w) A (eval kx env) (fun kv s₄ => wpAny (model prog w) A (eval vx env) (fun vv s₅ =>
              wpAny (model prog w) A (dictSet D kv vv) (fun _ s₆ => ∃ m, m < n ∧ I m s₆) (fun _ _ => False) s₅) (fun _ _ => False) s₄) (fun _ _ => False) s₂) (fun _ _ => False) s₁') (fun _ _ => False) s₁) (fun _ _ => False) s)
    (n : Nat) (h : I n s) :
    codeAny (model prog w) A (.compLoop (.DictComp kx vx [⟨t0, i0, [], 0⟩, ⟨t1, i1, [], 0⟩] scope pos) 1 it (.ref D) env) R s := by
  refine codeAny_loop rfl I (fun n s hI => ?_) n h
  show wpAny _ A ((compTurn (.DictComp kx vx [⟨t0, i0, [], 0⟩, ⟨t1, i1, [], 0⟩] scope pos) 1 it (.ref D) env).onRaise (fun x => do noteFrame x env; theTreesLotGoes x)) _ _ s
  refine wpAny_noted ?_
  rw [turn2_in]
  refine wpAny_bind (wpAny_standAt (wpAny_bind (wpAny_mono (turn n s hI) (fun r s₁ h₁ => ?_) fun _ _ h' => h'.elim)))
  cases r with
  | none => exact wpAny_pure h₁
  | some v =>
    refine wpAny_bind (wpAny_mono h₁ (fun _ s₁' h₁' => ?_) fun _ _ h' => h'.elim)
    refine wpAny_bind (wpAny_mono h₁' (fun _ s₂ h₂ => wpAny_bind (wpAny_bind (wpAny_mono h₂ (fun kv s₄ h₄ => ?_) fun _ _ h' => h'.elim))) fun _ _ h' => h'.elim)
    exact wpAny_bind (wpAny_holding (wpAny_mono h₄ (fun vv s₅ h₅ => wpAny_bind (wpAny_standAt (wpAny_holding (wpAny_mono h₅ (fun _ s₆ h₆ => wpAny_pure ⟨rfl, h₆⟩) fun _ _ h' => h'.elim)))) fun _ _ h' => h'.elim))
theorem start2_in {acc : Value} (h0 : codeAny (model prog w) A (.compLoop (.DictComp kx vx [⟨t0, i0, [], 0⟩, ⟨t1, i1, [], 0⟩] scope pos) 1 it acc env) R s)
    (h : wpAny (model prog w) A (pyIter it) (fun it' s' => codeAny (model prog w) A (.compLoop (.DictComp kx vx [⟨t0, i0, [], 0⟩, ⟨t1, i1, [], 0⟩] scope pos) 1 it' acc env) R s')
      (notedBy (model prog w) A env fun x s' => R (.error x) s') s) :
    codeAny (model prog w) A (.compStart (.DictComp kx vx [⟨t0, i0, [], 0⟩, ⟨t1, i1, [], 0⟩] scope pos) 1 it acc env) R s := by
  refine codeAny_of_tree ?_
  show wpAny _ _ ((compStart (.DictComp kx vx [⟨t0, i0, [], 0⟩, ⟨t1, i1, [], 0⟩] scope pos) 1 it acc env).onRaise (fun x => do noteFrame x env; standAt theWindowsPlace)) _ _ s
  refine wpAny_notedAt ?_
  unfold compStart
  show wpAny _ _ (ask >>= _) _ _ s
  refine wpAny_bind (wpAny_askSetting (wpAny_ite ?_))
  split
  · first
      | exact wpAny_bind (wpAny_pure (wpAny_pure (And.intro rfl h0)))
      | exact wpAny_pure (And.intro rfl h0)
  · first
      | exact wpAny_bind (wpAny_rule (wpAny_bind (wpAny_standAt (wpAny_bind (wpAny_mono h (fun it' s' h' => wpAny_pure (And.intro rfl h')) fun _ _ x => x)))))
      | (refine wpAny_bind (wpAny_rule ?_); show wpAny _ _ (standAt i1.pos >>= _) _ _ s; exact wpAny_bind (wpAny_standAt (wpAny_bind (wpAny_mono h (fun it' s' h' => wpAny_pure (And.intro rfl h')) fun _ _ x => x))))
end
/-- d[k] = v by a comprehension, k a tuple -/
theorem setT {X : Cx} {pins : List (Addr × Obj)} {σ : L2.St} {H : Hp} {s : Shared} {E : Value → Shared → Prop} {D b : Addr} {kvs : List (List Key × V)} {k : List Key} {v : V} {r : Value} {Q : Unit → Shared → Prop} (hu : X.A.units + 1 < cLine) (I : Inv X pins σ H s) (hD : H D = some (.dT kvs)) (hb : H b = some (.tup (k.map kV))) (hz : kvs.length < sizeLine)
    (rv : RelV v r) (h : ∀ s', Inv X pins σ (upd H D (.dT (putK kvs k v))) s' → Q () s') : wpAny (model X.prog X.w) X.A (dictSet D (.ref b) r) Q E s := by
  obtain ⟨z, hd, xs, rel, dd⟩ := dt_of I.hok hD
  have hz' : xs.length ≤ sizeLine := by rw [← Paired.length rel]; exact z
  have hl : (putK kvs k v).length ≤ sizeLine := by have := length_putK kvs k v; omega
  refine wpAny_dictSet_heap (hsz := hz') (show X.A.units < cLine from Nat.lt_of_succ_lt hu) (key_of I.hok hb) dd fun h' dd' hs => h _ ?_
  obtain ⟨q, es, ep, hq, h2, h3, h4, _, h5⟩ := dd'
  refine d_write I (by rw [hD]; exact True.intro) hs ⟨q, hq⟩ ⟨hl, hd, _, (rel.put k hb rv).keeps fun c ys ec => ?_, q, es, ep, hq, h2, h3, h4, h5⟩
  rw [upd_ne (ne_of ec hD (fun z => nomatch z))]
  exact ec
end DL
set_option maxHeartbeats 2000000
namespace DL
open PySem PySem.Spec PyProof.Rows L2
section
variable {X : Cx}
/-- what one clause walks: from where, step by step, to where -/
def Goes (J : It) (step : V → Hp → (Hp → Prop) → Prop) (fin : Hp → Prop) (H : Hp) : Prop := ∃ W : Nat → Nat → Hp → Prop, (∃ m, W 0 m H) ∧ ∀ i m H, W i m H →
  (J.stop i H ∧ fin H) ∨ (J.go i H ∧ ∃ Nx : Hp → Prop, (∀ H', Nx H' → ∃ m', m' < m ∧ W (i + 1) m' H') ∧ ∀ x H', J.yld i H x H' → step x H' Nx)
/-- {k: v for tg in iter for tg1 in iter1}: keys tuples; D the new dict -/
def tDc2 (wi : TI) (g : TG) (wi1 : TI) (g1 : TG) (tk tv : TE) (vs vs1 : List Nat) : TE := fun σ H Q => wi σ H fun J H1 => ∀ D, H1 D = none →
  Goes J (fun x H' Nx => g x (wipe σ vs) H' fun σ2 H2 => wipe σ2 vs = wipe σ vs ∧ wi1 σ2 H2 fun J1 H4 =>
    Goes J1 (fun x H' Nx1 => g1 x (wipe σ2 vs1) H' fun σ3 H5 => wipe σ3 vs1 = wipe σ2 vs1 ∧ tk σ3 H5 fun y H6 => tv σ3 H6 fun z H7 =>
      ∃ kvs k b, y = .ref b ∧ H7 D = some (.dT kvs) ∧ H7 b = some (.tup (k.map kV)) ∧ kvs.length < sizeLine ∧ Nx1 (upd H7 D (.dT (putK kvs k z)))) Nx H4) (fun H => Q (.ref D) H) (upd H1 D (.dT []))
theorem dc2_core {pins : List (Addr × Obj)} {s : Shared} {σ : L2.St} {H : Hp} {Q : VK} {kx vx tg iter tg1 iter1 : Expr} {scope : Scope} {own : List (Str × Nat)} {vs1 : List Nat} {pos pos' : Pos} {wi wi1 : TI} {g g1 : TG} {tk tv : TE} {use : Option (Value → Sem Unit)} {Qf : Value → Shared → Prop}
    (hc : X.calm = true) (hN : X.N.Nodup) (hu : X.A.units + 1 < cLine) (I : Inv X pins σ H s) (hi : PI X tg iter wi) (ok : BlkOk X.N X.env.scope scope own) (hv : ∀ i ∈ vs1, i ∈ own.map (·.2))
    (hg : ∀ (s : Shared) (H : Hp) (C : Addr) (cl : List (Str × Addr)) (fp : List Addr), PG (X.blk s H scope (compEnvC scope cl C X.env) fp) tg g)
    (hk : ∀ (s : Shared) (H : Hp) (C : Addr) (cl : List (Str × Addr)) (fp : List Addr), PE (X.blk s H scope (compEnvC scope cl C X.env) fp) kx tk)
    (he : ∀ (s : Shared) (H : Hp) (C : Addr) (cl : List (Str × Addr)) (fp : List Addr), PE (X.blk s H scope (compEnvC scope cl C X.env) fp) vx tv) (hs : ∀ x, foldedSetIterable iter X.env x = pure x)
    (hi1 : ∀ (s : Shared) (H : Hp) (C : Addr) (cl : List (Str × Addr)) (fp : List Addr), PI (X.blk s H scope (compEnvC scope cl C X.env) fp) tg1 iter1 wi1)
    (hg1 : ∀ (s : Shared) (H : Hp) (C : Addr) (cl : List (Str × Addr)) (fp : List Addr), PG (X.blk s H scope (compEnvC scope cl C X.env) fp) tg1 g1)
    (hs1 : ∀ env x, foldedSetIterable iter1 env x = pure x) (h : tDc2 wi g wi1 g1 tk tv (own.map (·.2)) vs1 σ H Q)
    (hRR : ∀ D C s' m H', Inv X pins σ H' s' → Q (.ref D) H' → s'.heap.Ns C m → FpOk X pins H' C → compPost (model X.prog X.w) X.A X.xe use Qf (.ref D) C (.ok .next) s') :
    wpAny (model X.prog X.w) X.A (comprehension (.DictComp kx vx [⟨tg, iter, [], 0⟩, ⟨tg1, iter1, [], 0⟩] scope pos) scope X.env pos' newDict false (eval iter X.env) use) Qf X.xe s := by
  have hfree : ∀ y ∈ scope.names, y.2 = .free → ∃ c, X.env.cells.lookup y.1 = some c := fun y hy e => (ok.free y hy e).elim (fun k => I.ok.has _ (.inl k)) fun k => I.ok.has _ (.inr k)
  refine wpAny_comprehension_free (use := use) rfl hs (closure_ok hfree) ok.kind (fun y hy e => by rw [ok.uniq y hy, e]) (thn (hi.run pins s σ H _ I h) fun xv s1 hx => thn hx fun itv s2 h2 => ?_)
  obtain ⟨it, fp, tn, J, H2, e, I2, T, st2, f2, q⟩ := h2
  subst e
  refine wpAny_newObj_type (newEnv_comp ?_)
  generalize hD : s2.heap.objs.size = D
  have hDn : H2 D = none := I2.hok.fresh (Nat.le_of_eq hD)
  obtain ⟨W, ⟨m0, w0⟩, turn⟩ := q D hDn
  generalize hs3 : ({ s2 with heap := s2.heap.push { cls := .type "dict", data := .dict #[] } } : Shared) = s3
  have I3 : Inv X pins σ (upd H2 D (.dT [])) s3 := by
    rw [← hs3]
    refine I2.laid (t' := s2.toks) (fun b o e => Heap.get?_push_of_some _ e) (Nat.le_of_eq hD) ?_
    rw [← hD]
    exact dt_empty s2.heap I2.big
  have h3 : s3.heap = s2.heap.push { cls := .type "dict", data := .dict #[] } := by rw [← hs3]
  have f3 : ∀ b ∈ fp, FpOk X pins (upd H2 D (.dT [])) b ∧ b < s3.heap.objs.size := fun b hb => by
    obtain ⟨o, e, _⟩ := T.obj _ _ st2 b hb
    have hlt := Heap.lt_size e
    refine ⟨⟨?_, (f2 b hb).2⟩, by rw [h3, Heap.size_push]; exact Nat.lt_succ_of_lt hlt⟩
    rw [upd_ne (by rw [← hD]; exact Nat.ne_of_lt hlt)]
    exact (f2 b hb).1
  have st3 : tn 0 s3.heap := T.keep _ _ _ st2 fun b _ o e => by rw [h3]; exact Heap.get?_push_of_some _ e
  have I4 := block_start I3 ok hN f3
  have pg := hg s3 (upd H2 D (.dT [])) s3.heap.objs.size (cellsFrom (s3.heap.objs.size + 1) scope.names (cloFrom X.env.cells scope.names [])) fp
  have pk := hk s3 (upd H2 D (.dT [])) s3.heap.objs.size (cellsFrom (s3.heap.objs.size + 1) scope.names (cloFrom X.env.cells scope.names [])) fp
  have pe := he s3 (upd H2 D (.dT [])) s3.heap.objs.size (cellsFrom (s3.heap.objs.size + 1) scope.names (cloFrom X.env.cells scope.names [])) fp
  have pi1 := hi1 s3 (upd H2 D (.dT [])) s3.heap.objs.size (cellsFrom (s3.heap.objs.size + 1) scope.names (cloFrom X.env.cells scope.names [])) fp
  have pg1 := hg1 s3 (upd H2 D (.dT [])) s3.heap.objs.size (cellsFrom (s3.heap.objs.size + 1) scope.names (cloFrom X.env.cells scope.names [])) fp
  show codeAny _ _ (.compStart (.DictComp kx vx [⟨tg, iter, [], 0⟩, ⟨tg1, iter1, [], 0⟩] scope pos) 0 (.ref it) (.ref D) (compEnvC scope (cellsFrom (s3.heap.objs.size + 1) scope.names (cloFrom X.env.cells scope.names [])) s3.heap.objs.size X.env)) (compPost (model X.prog X.w) X.A X.xe use Qf (.ref D) s3.heap.objs.size) { s3 with heap := pushCells (s3.heap.push { cls := .type "dict", data := .dict #[] }) scope.names }
  have nfp : ∀ b ∈ fp, (upd H2 D (.dT [])) b = none := fun b hb => (f3 b hb).1.1
  generalize hce : compEnvC scope (cellsFrom (s3.heap.objs.size + 1) scope.names (cloFrom X.env.cells scope.names [])) s3.heap.objs.size X.env = ce at I4 pg pk pe pi1 pg1 ⊢
  have cL : ce.locals = s3.heap.objs.size := by subst hce; rfl
  generalize hH3 : upd H2 D (.dT []) = H3 at I3 I4 pg pk pe pi1 pg1 w0 nfp f3
  generalize hs4 : ({ s3 with heap := pushCells (s3.heap.push { cls := .type "dict", data := .dict #[] }) scope.names } : Shared) = s4 at I4 ⊢
  have st4 : tn 0 s4.heap := T.keep _ _ _ st3 fun b _ o e => by rw [← hs4]; exact pushCells_keeps _ _ _ _ (Heap.get?_push_of_some _ e)
  generalize hY : X.blk s3 H3 scope ce fp = Y at I4 pg pk pe pi1 pg1
  have Yc : Y.calm = true := by subst hY; exact hc
  have Yp : Y.prog = X.prog ∧ Y.w = X.w ∧ Y.K = X.K ∧ Y.A = X.A ∧ Y.env = ce := by subst hY; exact ⟨rfl, rfl, rfl, rfl, rfl⟩
  have stat : ∀ {σ' : L2.St} {H' : Hp} {s' : Shared}, Inv Y [] σ' H' s' → (∀ b ∈ fp, H' b = none) → ∀ b ∈ fp, FpOk Y [] H' b := by
    subst hY
    exact fun {σ' H' s'} I' hn b hb => ⟨hn b hb, (I'.ok.exf b hb).1, I'.ok.exfs b hb, .inl hb, fun x c e => (I'.ok.exf b hb).2 x c e, fun p hp => absurd (show p ∈ ([] : List (Addr × Obj)) ++ [] from hp) (by simp)⟩
  have back : ∀ {σ' : L2.St} {H' : Hp} {s' : Shared}, Inv Y [] σ' H' s' → Inv X pins σ H' s' ∧ H' s3.heap.objs.size = none ∧ ∃ m, s'.heap.Ns s3.heap.objs.size m := by
    subst hY
    intro σ' H' s' I'
    refine ⟨I3.call' (ch := fp) I'.os I'.base I'.hok I'.bare fun b hb => ⟨(f3 b hb).1.2.2.2.1, (f3 b hb).1.2.1, (f3 b hb).1.2.2.2.2.1, (f3 b hb).1.2.2.2.2.2⟩, ?_, ?_⟩
    · have z : H' ce.locals = none := I'.free
      rw [cL] at z
      exact z
    · obtain ⟨m, hn, _⟩ := I'.loc
      have hn : s'.heap.Ns ce.locals m := hn
      rw [cL] at hn
      exact ⟨m, hn⟩
  have Yx : ∀ {α : Type} {t : Sem α} {P Q : α → Shared → Prop} {s' : Shared}, wpAny (model Y.prog Y.w) Y.A t P Y.xe s' → (∀ a s'', P a s'' → Q a s'') → wpAny (model X.prog X.w) X.A t Q (fun _ _ => False) s' := by
    subst hY
    intro α t P Q s' hh hq
    exact wpAny_mono hh hq fun _ _ z => z
  obtain ⟨y1, y2, y3, y4, y5⟩ := Yp
  have loop : codeAny (model X.prog X.w) X.A (.compLoop (.DictComp kx vx [⟨tg, iter, [], 0⟩, ⟨tg1, iter1, [], 0⟩] scope pos) 0 (.ref it) (.ref D) ce) (compPost (model X.prog X.w) X.A X.xe use Qf (.ref D) s3.heap.objs.size) s4 := by
    refine loop2_out (hs1 ce) (fun n s' => ∃ i H', Inv Y [] (wipe σ (own.map (·.2))) H' s' ∧ tn i s'.heap ∧ (∀ b ∈ fp, H' b = none) ∧ W i n H') ?_ m0 ⟨0, H3, I4, st4, nfp, w0⟩
    rintro n s5 ⟨i, H5, I5, st5, n5, w5⟩
    rcases turn i n H5 w5 with ⟨stop, qq⟩ | ⟨go, Nx, hNx, step⟩
    · have td := T.done Y y1 y2 y3 Yc i [] s5 _ H5 (fun _ _ => False) I5 (stat I5 n5) st5 stop
      rw [y4] at td
      refine thnF td fun r s6 ⟨hr, I6⟩ => ?_
      subst hr
      obtain ⟨I7, nC, m, hn⟩ := back I6
      exact hRR D s3.heap.objs.size s6 m H5 I7 qq hn (I3.fpOk (Nat.le_refl _) nC)
    · have ti := T.item Y y1 y2 y3 Yc i [] s5 _ H5 (fun _ _ => False) I5 (stat I5 n5) st5 go
      rw [y4] at ti
      refine thnF ti fun r s6 ⟨u, hr, h6⟩ => ?_
      subst hr
      refine thnF h6 fun _ s7 ⟨x, H7, I7, r7, yd7, st7, n7⟩ => ?_
      have I7' := I7.pinned (stat I7 n7) (T.obj _ _ st7)
      have r8 := pg.run _ s7 _ H7 x u _ I7' r7 (step x H7 yd7)
      rw [y5] at r8
      refine Yx r8 fun _ s8 ⟨σ8, H8, I8, hw8, q8⟩ => ?_
      have fin : ∀ {σ9 : L2.St} {s' : Shared} {H' : Hp}, Inv Y ([] ++ pinsAt fp s7.heap) σ9 H' s' → (wipe σ (own.map (·.2))).length = σ9.length → (∀ (j : Nat) v, (wipe σ (own.map (·.2)))[j]? = some (some v) → σ9[j]? = some (some v)) → Nx H' →
          ∃ m, m < n ∧ ∃ i H', Inv Y [] (wipe σ (own.map (·.2))) H' s' ∧ tn i s'.heap ∧ (∀ b ∈ fp, H' b = none) ∧ W i m H' := fun {σ9 s' H'} I' hl hk nx => by
        obtain ⟨m', hm, w'⟩ := hNx H' nx
        have pin' : ∀ b ∈ fp, ∀ o, s7.heap.get? b = some o → s'.heap.get? b = some o ∧ H' b = none := fun b hb o e =>
          let z := I'.pin (b, o) (List.mem_append_right _ (List.mem_append_right _ (mem_pinsAt hb e)))
          ⟨z.1, z.2.1⟩
        refine ⟨m', hm, i + 1, H', (I'.unpinned (pins := [])).weak hl hk, T.keep _ _ _ st7 fun b hb o e => (pin' b hb o e).1, fun b hb => ?_, w'⟩
        obtain ⟨o, e, _⟩ := T.obj _ _ st7 b hb
        exact (pin' b hb o e).2
      have hl8 : (wipe σ (own.map (·.2))).length = σ8.length := by rw [← hw8, wipe_length]
      have hk9 : ∀ (j : Nat) v, (wipe σ (own.map (·.2)))[j]? = some (some v) → (wipe σ8 vs1)[j]? = some (some v) := fun j v e => by
        rw [← hw8] at e
        obtain ⟨e1, e2⟩ := wipe_some e
        rw [L2.wipe_out fun z => e2 (hv j z)]
        exact e1
      have r9 := pi1.run _ s8 σ8 H8 _ I8 q8
      rw [y5] at r9
      refine Yx r9 fun xv s10 hx => Yx hx fun itv s11 h11 => ?_
      obtain ⟨it1, fp1, tn1, J1, H11, e1, I11, T1, st11, f11, W1, ⟨m1, w1⟩, turn1⟩ := h11
      subst e1
      have stat1 : ∀ {H' : Hp}, (∀ b ∈ fp1, H' b = none) → ∀ b ∈ fp1, FpOk Y ([] ++ pinsAt fp s7.heap) H' b := fun hn b hb => ⟨hn b hb, (f11 b hb).2⟩
      have loop1 : codeAny (model X.prog X.w) X.A (.compLoop (.DictComp kx vx [⟨tg, iter, [], 0⟩, ⟨tg1, iter1, [], 0⟩] scope pos) 1 (.ref it1) (.ref D) ce)
          (fun r s' => match r with
            | .ok _ => ∃ m, m < n ∧ ∃ i H', Inv Y [] (wipe σ (own.map (·.2))) H' s' ∧ tn i s'.heap ∧ (∀ b ∈ fp, H' b = none) ∧ W i m H'
            | .error _ => False) s11 := by
        refine loop2_in (fun k s' => ∃ j H', Inv Y ([] ++ pinsAt fp s7.heap) (wipe σ8 vs1) H' s' ∧ tn1 j s'.heap ∧ (∀ b ∈ fp1, H' b = none) ∧ W1 j k H') ?_ m1 ⟨0, H11, I11.weak (wipe_length _ _) (fun j v e => (wipe_some e).1), st11, fun b hb => (f11 b hb).1, w1⟩
        rintro k s12 ⟨j, H12, I12, st12, n12, w12⟩
        rcases turn1 j k H12 w12 with ⟨stop1, nx1⟩ | ⟨go1, Nx1, hNx1, step1⟩
        · have td := T1.done Y rfl rfl rfl Yc j _ s12 (wipe σ8 vs1) H12 (fun _ _ => False) I12 (stat1 n12) st12 stop1
          rw [y1, y2, y4] at td
          refine thnF td fun r s13 ⟨hr, I13⟩ => ?_
          subst hr
          exact fin I13 (hl8.trans (wipe_length σ8 vs1).symm) hk9 nx1
        · have ti := T1.item Y rfl rfl rfl Yc j _ s12 (wipe σ8 vs1) H12 (fun _ _ => False) I12 (stat1 n12) st12 go1
          rw [y1, y2, y4] at ti
          refine thnF ti fun r s13 ⟨u1, hr, h13⟩ => ?_
          subst hr
          refine thnF h13 fun _ s14 ⟨x1, H14, I14, r14, y14, st14, n14⟩ => ?_
          have I14' := I14.pinned (stat1 n14) (T1.obj _ _ st14)
          have r15 := pg1.run _ s14 (wipe σ8 vs1) H14 x1 u1 _ I14' r14 (step1 x1 H14 y14)
          rw [y5] at r15
          refine Yx r15 fun _ s15 ⟨σ15, H15, I15, hw15, q15⟩ => ?_
          have fin1 : ∀ {s' : Shared} {H' : Hp}, Inv Y (([] ++ pinsAt fp s7.heap) ++ pinsAt fp1 s14.heap) σ15 H' s' → Nx1 H' → ∃ m, m < k ∧ ∃ j H', Inv Y ([] ++ pinsAt fp s7.heap) (wipe σ8 vs1) H' s' ∧ tn1 j s'.heap ∧ (∀ b ∈ fp1, H' b = none) ∧ W1 j m H' := fun {s' H'} I' nx => by
            obtain ⟨m', hm, w'⟩ := hNx1 H' nx
            have pin' : ∀ b ∈ fp1, ∀ o, s14.heap.get? b = some o → s'.heap.get? b = some o ∧ H' b = none := fun b hb o e =>
              let z := I'.pin (b, o) (List.mem_append_right _ (List.mem_append_right _ (mem_pinsAt hb e)))
              ⟨z.1, z.2.1⟩
            refine ⟨m', hm, j + 1, H', I'.unpinned.weak (by rw [← hw15, wipe_length]) (fun j v e => by rw [← hw15] at e; exact (wipe_some e).1), T1.keep _ _ _ st14 fun b hb o e => (pin' b hb o e).1, fun b hb => ?_, w'⟩
            obtain ⟨o, e, _⟩ := T1.obj _ _ st14 b hb
            exact (pin' b hb o e).2
          have r16 := pk.run _ s15 σ15 H15 _ I15 q15
          rw [y5] at r16
          refine Yx r16 fun kv s16 ⟨yk, H16, I16, rk16, q16⟩ => ?_
          have r17 := pe.run _ s16 σ15 H16 _ I16 q16
          rw [y5] at r17
          refine Yx r17 fun vv s17 ⟨yv, H17, I17, rv17, kvs, kk, b, eb, hD17, hb17, hz17, nx⟩ => ?_
          subst eb
          obtain rfl : kv = Value.ref b := rk16
          have := setT (X := Y) (E := fun _ _ => False) (by rw [y4]; exact hu) I17 hD17 hb17 hz17 rv17 (Q := fun _ s6 => ∃ m, m < k ∧ ∃ j H', Inv Y ([] ++ pinsAt fp s7.heap) (wipe σ8 vs1) H' s6 ∧ tn1 j s6.heap ∧ (∀ b ∈ fp1, H' b = none) ∧ W1 j m H') fun s18 I18 => fin1 I18 nx
          rw [y1, y2, y4] at this
          exact this
      have sf := T1.self X.A 0 s11 (fun it' s' => codeAny (model X.prog X.w) X.A (.compLoop (.DictComp kx vx [⟨tg, iter, [], 0⟩, ⟨tg1, iter1, [], 0⟩] scope pos) 1 it' (.ref D) ce) _ s') (notedBy (model X.prog X.w) X.A ce fun _ _ => False) st11 loop1
      rw [y1, y2] at sf
      exact start2_in loop1 sf
  exact codeAny_compStart_dict loop (T.self X.A 0 _ _ _ st4 loop)
/-- as a value -/
theorem pe_dc2 {kx vx tg iter tg1 iter1 : Expr} {scope : Scope} {own : List (Str × Nat)} {vs1 : List Nat} {pos : Pos} {wi wi1 : TI} {g g1 : TG} {tk tv : TE} (hc : X.calm = true) (hN : X.N.Nodup) (hu : X.A.units + 1 < cLine) (hi : PI X tg iter wi) (ok : BlkOk X.N X.env.scope scope own) (hv : ∀ i ∈ vs1, i ∈ own.map (·.2))
    (hg : ∀ (s : Shared) (H : Hp) (C : Addr) (cl : List (Str × Addr)) (fp : List Addr), PG (X.blk s H scope (compEnvC scope cl C X.env) fp) tg g)
    (hi1 : ∀ (s : Shared) (H : Hp) (C : Addr) (cl : List (Str × Addr)) (fp : List Addr), PI (X.blk s H scope (compEnvC scope cl C X.env) fp) tg1 iter1 wi1)
    (hg1 : ∀ (s : Shared) (H : Hp) (C : Addr) (cl : List (Str × Addr)) (fp : List Addr), PG (X.blk s H scope (compEnvC scope cl C X.env) fp) tg1 g1)
    (hk : ∀ (s : Shared) (H : Hp) (C : Addr) (cl : List (Str × Addr)) (fp : List Addr), PE (X.blk s H scope (compEnvC scope cl C X.env) fp) kx tk)
    (he : ∀ (s : Shared) (H : Hp) (C : Addr) (cl : List (Str × Addr)) (fp : List Addr), PE (X.blk s H scope (compEnvC scope cl C X.env) fp) vx tv) (hs : ∀ x, foldedSetIterable iter X.env x = pure x := by intro _; rfl) (hs1 : ∀ env x, foldedSetIterable iter1 env x = pure x := by intro _ _; rfl) :
    PE X (.DictComp kx vx [⟨tg, iter, [], 0⟩, ⟨tg1, iter1, [], 0⟩] scope pos) (tDc2 wi g wi1 g1 tk tv (own.map (·.2)) vs1) := by
  refine ⟨fun pins s σ H Q I h => ?_⟩
  rw [arm_eval_DictComp]
  refine dc2_core hc hN hu I hi ok hv hg hk he hs hi1 hg1 hs1 h fun D C s' m H' I' q hn f => ⟨m, hn, fun h'' sb => ?_⟩
  obtain ⟨f0, f1, f2, f3, f4, f5⟩ := f
  exact ⟨.ref D, H', I'.turned (t' := s'.toks) (fun b o hb e => (sb.2 b hb).trans e) f0 f1 f3 f4 f5, rfl, q⟩
end
end DL
set_option maxHeartbeats 2000000
/-! ### data level: for over a generator; dicts with tuple keys -/
namespace DL
open PySem PySem.Spec PyProof.Rows L2
def pairD (x : List Int) : D := .tup (x.map D.int)
def iGn (w : WA) : WI := fun x η n R => w x η n fun ds n1 => match ds with
  | [.int m] => 0 ≤ m ∧ m < 2 ^ 61 ∧ R ((rowsI m.toNat 0 m.toNat).map pairD) n1
  | _ => False
section
variable {X : Cx} {E : XK} {tg : Expr} {pos : Pos}
theorem qs_forG {nm : Str} {e : Expr} {w : WA} {body : List Stmt} {g : WG} {b : WS} {k j : Nat} {p pos' : Pos} (hx : ∀ e s, ¬ X.xe e s) (hc : X.calm = true) (F : GenF X.prog X.w X.K X.mg X.base nm j) (hr : Room k X.A) (hj : j ≤ k) (hgl : Gl X nm) (ha : PA X [e] (upA X.K E w)) {is : List Nat} (hg : PG X tg (upG X.K is g)) (hb : PSs X body (upS X.K E b))
    (hdb : (nm == ("__debug__" : Str)) = false := by decide) (he : starEach [e] X.env = (false, eval e X.env) :: starEach [] X.env := by rfl) (hs : ∀ x, foldedSetIterable (.Call (.Name nm p) [e] [] pos') X.env x = pure x := by intro _; rfl) :
    PS X (.For tg (.Call (.Name nm p) [e] [] pos') body [] pos) (upS X.K E (sFor (iGn w) g b)) := ps_to (ps_forG hx hc hr (pmk_call F hr hj hgl ha hdb he) hg hb hs) fun D σ H q => by
  obtain ⟨c, η, k, x, e1, ok, en, hw, h1, h2, h3, h4, hx⟩ := q
  refine ⟨c, η, _, x, e1, ok, en, hw, fun ds c0 vs hd ok0 l0 rp => ?_, hx.none⟩
  obtain ⟨m, rfl, m0, m1, hrun⟩ : ∃ m, ds = [.int m] ∧ 0 ≤ m ∧ m < 2 ^ 61 ∧ runFor x k g b ((rowsI m.toNat 0 m.toNat).map pairD) η c0.n := by
    split at hd
    · exact ⟨_, rfl, hd⟩
    · exact hd.elim
  have ev : vs = [.int m] := by
    cases rp with
    | cons r t =>
      cases r
      cases t
      rfl
  subst ev
  refine ⟨m.toNat, by rw [Int.toNat_of_nonneg m0], by omega, ?_⟩
  generalize rowsI m.toNat 0 m.toNat = xs at hrun
  refine ⟨fun i σ1 H1 => ∃ c1 η1, c1.H = H1 ∧ c1.Ok ∧ EnvOk X.K c1 σ1 η1 ∧ LeO (Owned σ η) c c1 ∧ (∀ a, Owned σ1 η1 a → Owned σ η a ∨ No c a) ∧ runFor x k g b ((xs.drop i).map pairD) η1 c1.n,
    ⟨c0, η, rfl, ok0, en.le l0, LeO.of l0, own_refl, by simpa using hrun⟩, fun σ1 H1 hW => ?_, fun i y σ1 H1 hy hW p hp => ?_⟩
  · obtain ⟨c1, η1, rfl, ok1, en1, l1, ho1, hr1⟩ := hW
    rw [List.drop_length] at hr1
    exact h1 η1 c1 σ1 hr1 ok1 l1 ho1 en1
  · obtain ⟨c1, η1, rfl, ok1, en1, l1, ho1, hr1⟩ := hW
    have hlt : i < xs.length := (List.getElem?_eq_some_iff.1 hy).1
    have hyy : xs[i] = y := (List.getElem?_eq_some_iff.1 hy).2
    have hdrop : xs.drop i = y :: xs.drop (i + 1) := by rw [← hyy]; exact (List.getElem_cons_drop (h := hlt)).symm
    rw [hdrop] at hr1
    obtain ⟨ok2, l2⟩ := ok1.newF (o := .tup (y.map V.int)) hp
    have rp2 : RP X.K ⟨c1.dr, upd c1.F p (.tup (y.map V.int)), upd c1.H p (.tup (y.map V.int)), c1.n, c1.T⟩ (.ref p) (pairD y) := .tup upd_same (RpL.ofInts _ _ y)
    generalize hc2 : (⟨c1.dr, upd c1.F p (.tup (y.map V.int)), upd c1.H p (.tup (y.map V.int)), c1.n, c1.T⟩ : Cf) = c2 at ok2 l2 rp2
    have hH : upd c1.H p (.tup (y.map V.int)) = c2.H := by rw [← hc2]
    have hn2 : c2.n = c1.n := by rw [← hc2]
    rw [hH]
    refine ⟨c2, η1, pairD y, _, rfl, ok2, en1.le l2, rp2, hr1, fun η3 σ3 hb3 en3 ho3 _ => ?_⟩
    have l12 : LeO (Owned σ η) c c2 := l1.thn l2
    have ho3' : ∀ a, Owned σ3 η3 a → Owned σ η a ∨ No c a := fun a z => ho1 a (ho3 a z)
    have nx : ∀ η4 c4 σ4, runFor x k g b ((xs.drop (i + 1)).map pairD) η4 c4.n → c4.Ok → LeO (Owned σ3 η3) c2 c4 → (∀ a, Owned σ4 η4 a → Owned σ3 η3 a ∨ No c2 a) → EnvOk X.K c4 σ4 η4 → ∃ c2 η2, c2.H = c4.H ∧ c2.Ok ∧ EnvOk X.K c2 σ4 η2 ∧ LeO (Owned σ η) c c2 ∧ (∀ a, Owned σ4 η2 a → Owned σ η a ∨ No c a) ∧ runFor x k g b ((xs.drop (i + 1)).map pairD) η2 c2.n :=
      fun η4 c4 σ4 hr4 ok4 l4 ho4 en4 => ⟨c4, η4, rfl, ok4, en4, l12.trans l4 ho3', own_trans l12 ho3' ho4 ok ok2, hr4⟩
    refine ⟨c2, η3, { nx := runFor x k g b ((xs.drop (i + 1)).map pairD), ct := runFor x k g b ((xs.drop (i + 1)).map pairD), bk := k.nx, rt := k.rt }, x, rfl, ok2, en3, (by rw [hn2]; exact hb3), nx, fun d c4 v hd4 ok4 l4 rp4 => h2 d c4 v hd4 ok4 (l12.trans l4 ho3') rp4, fun η4 c4 σ4 hr4 ok4 l4 ho4 en4 => ?_, nx, hx.step l12 ho3'⟩
    exact h1 η4 c4 σ4 hr4 ok4 (l12.trans l4 ho3') (own_trans l12 ho3' ho4 ok ok2) en4
end
end DL
set_option maxHeartbeats 2000000
namespace DL
open PySem PySem.Spec PyProof.Rows L2
section
variable {K : PySem.W.Frag}
theorem goes_by {J : It} {xs : List D} {c0 c1 : Cf} {step : V → Hp → (Hp → Prop) → Prop} {fin : Hp → Prop} (it : IterOk K J c0 xs) (P : List D → Cf → Prop) (ok1 : c1.Ok) (f1 : Fs c0 c1) (h0 : P xs c1) (hend : ∀ c, c.Ok → P [] c → fin c.H)
    (hstep : ∀ d l c1 c2 v, c1.Ok → Fs c0 c1 → P (d :: l) c1 → c2.n = c1.n → c2.Ok → Le c1 c2 → RP K c2 v d → step v c2.H (fun H => ∃ c3 : Cf, c3.H = H ∧ c3.Ok ∧ Fs c0 c3 ∧ P l c3)) : Goes J step fin c1.H := by
  refine ⟨fun i m H => ∃ c1 : Cf, c1.H = H ∧ c1.Ok ∧ Fs c0 c1 ∧ i + m = xs.length ∧ P (xs.drop i) c1, ⟨xs.length, c1, rfl, ok1, f1, by omega, h0⟩, ?_⟩
  rintro i m H ⟨c1, rfl, ok1, f1, hm, hP⟩
  obtain ⟨it1, it2⟩ := it i c1 ok1 f1
  by_cases hlt : i < xs.length
  · obtain ⟨go, yl⟩ := it1 _ (List.getElem?_eq_getElem hlt)
    have hdrop : xs.drop i = xs[i] :: xs.drop (i + 1) := (List.getElem_cons_drop (h := hlt)).symm
    rw [hdrop] at hP
    refine .inr ⟨go, fun H => ∃ c3 : Cf, c3.H = H ∧ c3.Ok ∧ Fs c0 c3 ∧ P (xs.drop (i + 1)) c3, fun H' hN => ?_, fun v H' hy => ?_⟩
    rotate_left
    · obtain ⟨c2, rfl, hn2, ok2, l2, rp2⟩ := yl v H' hy
      exact hstep xs[i] (xs.drop (i + 1)) c1 c2 v ok1 f1 hP hn2 ok2 l2 rp2
    · obtain ⟨c3, z1, z2, z3, z4⟩ := hN
      exact ⟨m - 1, by omega, c3, z1, z2, z3, by omega, z4⟩
  · have hdrop : xs.drop i = [] := List.drop_eq_nil_of_le (by omega)
    rw [hdrop] at hP
    exact .inl ⟨it2 (by omega), hend c1 ok1 hP⟩
end
/-- the clauses of a dict comprehension; the keys are new -/
def runDi (x : Xn) (η : List Sl) (g1 : WG) (wk wv : WE) (R : List (List L2.Key) → List D → Nat → Prop) : List D → List (List L2.Key) → List D → Nat → Prop
  | [], ks, ds, n => R ks ds n
  | y :: ys, ks, ds, n => g1 y η fun η' => wk x η' n fun kd n1 => wv x η' n1 fun vd n2 => ∃ is : List Int, kd = .tup (is.map D.int) ∧ (is.map fun i => (Sum.inl i : L2.Key)) ∉ ks ∧ ks.length < sizeLine ∧ runDi x η g1 wk wv R ys (ks ++ [is.map fun i => (Sum.inl i : L2.Key)]) (ds ++ [vd]) n2
def runDo (x : Xn) (η : List Sl) (vs1 : List Nat) (g : WG) (wi1 : WI) (g1 : WG) (wk wv : WE) (R : List (List L2.Key) → List D → Nat → Prop) : List D → List (List L2.Key) → List D → Nat → Prop
  | [], ks, ds, n => R ks ds n
  | d :: xs, ks, ds, n => g d η fun η2 => wi1 x η2 n fun ys n1 => runDi x (wipeS η2 vs1) g1 wk wv (fun ks ds n2 => runDo x η vs1 g wi1 g1 wk wv R xs ks ds n2) ys ks ds n1
def eDc2 (vs vs1 : List Nat) (wi : WI) (g : WG) (wi1 : WI) (g1 : WG) (wk wv : WE) : WE := fun x η n R => wi x η n fun xs n1 => runDo x (wipeS η vs) vs1 g wi1 g1 wk wv (fun ks ds n => R (.dct ks ds) n) xs [] [] n1
theorem putK_new {κ : Type} [DecidableEq κ] : ∀ (ks : List κ) (vs : List V) (k : κ) (v : V), k ∉ ks → ks.length = vs.length → putK (ks.zip vs) k v = (ks ++ [k]).zip (vs ++ [v]) := fun ks vs k v hn hl => by
  unfold putK
  rw [if_neg]
  · rw [List.zip_append hl]
    rfl
  · intro h
    obtain ⟨p, hp, e⟩ := List.any_eq_true.1 h
    rw [decide_eq_true_eq] at e
    exact hn (by rw [← e]; exact (List.of_mem_zip hp).1)
theorem kV_ints (is : List Int) : (is.map fun i => (Sum.inl i : L2.Key)).map kV = is.map V.int := by
  rw [List.map_map]
  rfl
theorem EnvOk.but {K : PySem.W.Frag} {c c' : Cf} {σ : L2.St} {η : List Sl} {L : Addr} {kvs : List (List L2.Key × V)} (e : EnvOk K c σ η) (l : LeO (fun a => a = L) c c') (hL : c.H L = some (.dT kvs)) : EnvOk K c' σ η := ⟨e.len, fun i s h => by
  obtain ⟨o, e1, e2⟩ := e.sl i s h
  refine ⟨o, e1, ?_⟩
  cases s with
  | un => trivial
  | cl _ => exact e2
  | dt d =>
    obtain ⟨v, e, r⟩ := e2
    exact ⟨v, e, l.rp r⟩
  | ow xs =>
    obtain ⟨p, vs, e, h1, h2, h3, r⟩ := e2
    have hp : p ≠ L := fun z => by rw [z, hL] at h1; cases h1
    exact ⟨p, vs, e, l.h _ _ h3 hp nofun h1, l.fr _ _ h3 hp (by intro _ z; cases z) h2 h1, by rw [l.dr]; exact h3, l.rpl r⟩
  | ob p cn ns fs =>
    obtain ⟨dx, vs, e, h1, h2, h3, h4, r⟩ := e2
    have hp : p ≠ L := fun z => by rw [z, hL] at h1; cases h1
    exact ⟨dx, vs, e, l.h _ _ h3 hp nofun h1, l.fr _ _ h3 hp (by intro _ z; cases z) h2 h1, by rw [l.dr]; exact h3, h4, l.rpl r⟩, e.inj, l.T.trans e.T⟩
/-- the dict under way, at L, is changed -/
theorem putL {c4 c : Cf} {L : Addr} {kvs : List (List L2.Key × V)} {u : HO} (l : LeO (fun a => a = L) c4 c) (hH : c.H L = some (.dT kvs)) (hz : ∀ ps, u ≠ .tbl ps := by exact nofun) : LeO (fun a => a = L) c4 ⟨c.dr, c.F, upd c.H L u, c.n, c.T⟩ := by
  refine ⟨l.dr, l.f, fun a w h1 h2 hz h3 => ?_, l.fr, fun a w hw e => ?_, l.T⟩
  · show upd c.H L u a = some w
    rw [upd_ne h2]
    exact l.h a w h1 h2 hz h3
  · obtain ⟨o', hz', e'⟩ := l.hd a w hw e
    exact upd_some hz' hz e'
section
variable {X : Cx} {E : XK}
theorem dc2_up {K : PySem.W.Frag} {is vs1 : List Nat} {wi wi1 : WI} {g g1 : WG} {wk wv : WE} : ∀ σ H Q, up K E (eDc2 is vs1 wi g wi1 g1 wk wv) σ H Q → tDc2 (upI K E wi) (upG K is g) (upI K E wi1) (upG K vs1 g1) (up K E wk) (up K E wv) is vs1 σ H Q := fun σ H Q q => by
  obtain ⟨c, η, R, x, e1, ok, en, hw, hr, hx⟩ := q
  refine ⟨c, η, _, x, e1, ok, en, hw, fun xs c0 J hd ok0 l0 it => ?_, hx⟩
  intro L hL
  obtain ⟨okL, lL, hFL, hdL⟩ := ok0.newH (o := .dT []) hL
  have hL0 : No c L := No.back l0 (No.of hL)
  have hLd : L ≠ c.dr := by rw [← l0.dr]; exact hdL
  have enw : EnvOk K c (L2.wipe σ is) (wipeS η is) := en.wipe is
  refine goes_by (c1 := ⟨c0.dr, c0.F, upd c0.H L (.dT []), c0.n, c0.T⟩) it (fun l c1 => ∃ ks vs ds, Le c c1 ∧ c1.H L = some (.dT (ks.zip vs)) ∧ c1.F L = none ∧ ks.length = vs.length ∧ RPL K c1 vs ds ∧ runDo x (wipeS η is) vs1 g wi1 g1 wk wv (fun ks ds n => R (.dct ks ds) n) l ks ds c1.n) okL (Fs.of lL) ⟨[], [], [], l0.trans lL, upd_same, hFL, rfl, .nil, hd⟩ ?_ ?_
  · rintro c1 ok1 ⟨ks, vs, ds, l1, hH1, hF1, hl1, rp1, hrun⟩
    have hd1 : L ≠ c1.dr := by rw [l1.dr]; exact hLd
    obtain ⟨ok2, l2⟩ := ok1.frz hH1 hF1 hd1
    refine hr (.dct ks ds) ⟨c1.dr, upd c1.F L (.dT (ks.zip vs)), c1.H, c1.n, c1.T⟩ (.ref L) hrun ok2 ?_ (.dct upd_same hl1 (l2.rpl rp1))
    refine ⟨l1.dr, fun a u q => l2.f a u (l1.f a u q), fun a u h1 h2 h3 => l1.h a u h1 h2 h3, fun a u h1 h2 hz h3 h4 => ?_, l1.hd, l1.T⟩
    show upd c1.F L _ a = none
    rw [upd_ne (fun z => hL0.ne hz (by rw [← z]; exact h4))]
    exact l1.fr a u h1 h2 hz h3 h4
  · rintro d l c1 c2 v ok1 f1 ⟨ks, vs, ds, l1, hH1, hF1, hl1, rp1, hrun⟩ hn2 ok2 l2 rp2
    have hdr1 : L ≠ c1.dr := by rw [l1.dr]; exact hLd
    have l12 := l1.trans l2
    refine ⟨c2, wipeS η is, d, _, rfl, ok2, enw.le l12, rp2, hrun, fun η3 σ3 hb3 en3 ho3 ot => ?_⟩
    refine ⟨wipe_out ot, ?_⟩
    refine ⟨c2, η3, _, x, rfl, ok2, en3, (by rw [hn2]; exact hb3), fun ys c4 J1 hd4 ok4 l4 it4 => ?_, hx.le l12⟩
    have l14 := l12.trans l4
    have hH4 : c4.H L = some (.dT (ks.zip vs)) := (l2.trans l4).h _ _ hdr1 (fun z => z) nofun hH1
    have hF4 : c4.F L = none := (l2.trans l4).fr _ _ hdr1 (fun z => z) (by intro _ z; cases z) hF1 hH1
    have en4 : EnvOk K c4 (L2.wipe σ3 vs1) (wipeS η3 vs1) := (en3.le l4).wipe vs1
    refine goes_by it4 (fun l1 c5 => ∃ ks vs ds, Le c c5 ∧ LeO (fun a => a = L) c4 c5 ∧ c5.H L = some (.dT (ks.zip vs)) ∧ c5.F L = none ∧ ks.length = vs.length ∧ RPL K c5 vs ds ∧ runDi x (wipeS η3 vs1) g1 wk wv (fun ks ds n2 => runDo x (wipeS η is) vs1 g wi1 g1 wk wv (fun ks ds n => R (.dct ks ds) n) l ks ds n2) l1 ks ds c5.n) ok4 ⟨rfl, fun _ _ h => h⟩ ?_ ?_ ?_
    · exact ⟨ks, vs, ds, l14, .refl, hH4, hF4, hl1, (l2.trans l4).rpl rp1, hd4⟩
    · rintro c5 ok5 ⟨ks5, vs5, ds5, l5, l45, hH5, hF5, hl5, rp5, hrun5⟩
      exact ⟨c5, rfl, ok5, ((f1.trans (Fs.of l2)).trans (Fs.of l4)).trans (Fs.of l45), ks5, vs5, ds5, l5, hH5, hF5, hl5, rp5, hrun5⟩
    · rintro d5 r5 c5 c6 v6 ok5 f5 ⟨ks5, vs5, ds5, l5, l45, hH5, hF5, hl5, rp5, hrun5⟩ hn6 ok6 l6 rp6
      have hd5 : L ≠ c5.dr := by rw [l5.dr]; exact hLd
      have e6 : EnvOk K c6 (L2.wipe σ3 vs1) (wipeS η3 vs1) := (en4.but l45 hH4).le l6
      refine ⟨c6, wipeS η3 vs1, d5, _, rfl, ok6, e6, rp6, hrun5, fun η7 σ7 hb7 en7 ho7 ot7 => ?_⟩
      refine ⟨wipe_out ot7, ?_⟩
      refine ⟨c6, η7, _, x, rfl, ok6, en7, (by rw [hn6]; exact hb7), fun kd c8 vk hk8 ok8 l8 rp8 => ?_, hx.le (l5.trans l6)⟩
      refine ⟨c8, η7, _, x, rfl, ok8, en7.le l8, hk8, fun vd c9 vv hv9 ok9 l9 rp9 => ?_, hx.le ((l5.trans l6).trans l8)⟩
      obtain ⟨js, rfl, hnk, hsz, hrun9⟩ := hv9
      have l69 := (l6.trans l8).trans l9
      have hd9 : L ≠ c9.dr := by rw [(l5.trans l69).dr]; exact hLd
      have hH9 : c9.H L = some (.dT (ks5.zip vs5)) := l69.h _ _ hd5 (fun z => z) nofun hH5
      have hF9 : c9.F L = none := l69.fr _ _ hd5 (fun z => z) (by intro _ z; cases z) hF5 hH5
      obtain ⟨b, us, rfl, fb, eb, rb⟩ := (RB.fz (l9.rp rp8) : RB K c9 vk (.tup (js.map D.int))).tup ok9
      have hus : us = js.map V.int := rb.ints
      subst hus
      obtain ⟨ok10, l10⟩ := ok9.put (u := .dT (putK (ks5.zip vs5) (js.map fun i => (Sum.inl i : L2.Key)) vv)) (l5.trans l69) hL0 hH9 hF9 hd9
      have hlz : (ks5.zip vs5).length = ks5.length := by
        rw [List.length_zip, hl5]
        exact Nat.min_self _
      refine ⟨ks5.zip vs5, js.map fun i => (Sum.inl i : L2.Key), b, rfl, hH9, by rw [kV_ints]; exact eb, by rw [hlz]; exact hsz, ⟨c9.dr, c9.F, upd c9.H L (.dT (putK (ks5.zip vs5) (js.map fun i => (Sum.inl i : L2.Key)) vv)), c9.n, c9.T⟩, rfl, ok10, f5.trans ⟨l69.dr, l69.f⟩, ?_⟩
      refine ⟨ks5 ++ [js.map fun i => (Sum.inl i : L2.Key)], vs5 ++ [vv], ds5 ++ [vd], l10, putL (l45.thn l69) hH9, ?_, hF9, by simp [hl5], RpL.append (l69.rpl rp5) (.cons rp9 .nil), hrun9⟩
      show upd c9.H L _ L = _
      rw [upd_same, putK_new _ _ _ _ hnk hl5]
/-- {k: v for .. for ..}, frozen -/
theorem q_dc2 {kx vx tg iter tg1 iter1 : Expr} {scope : Scope} {own : List (Str × Nat)} {vs1 : List Nat} {pos : Pos} {wi wi1 : WI} {g g1 : WG} {wk wv : WE} {k : Nat} (hc : X.calm = true) (hN : X.N.Nodup) (hr : Room k X.A) (hi : PI X tg iter (upI X.K E wi)) (ok : BlkOk X.N X.env.scope scope own) (hv : ∀ i ∈ vs1, i ∈ own.map (·.2))
    (hg : ∀ (s : Shared) (H : Hp) (C : Addr) (cl : List (Str × Addr)) (fp : List Addr), PG (X.blk s H scope (compEnvC scope cl C X.env) fp) tg (upG X.K (own.map (·.2)) g))
    (hi1 : ∀ (s : Shared) (H : Hp) (C : Addr) (cl : List (Str × Addr)) (fp : List Addr), PI (X.blk s H scope (compEnvC scope cl C X.env) fp) tg1 iter1 (upI X.K E wi1))
    (hg1 : ∀ (s : Shared) (H : Hp) (C : Addr) (cl : List (Str × Addr)) (fp : List Addr), PG (X.blk s H scope (compEnvC scope cl C X.env) fp) tg1 (upG X.K vs1 g1))
    (hk : ∀ (s : Shared) (H : Hp) (C : Addr) (cl : List (Str × Addr)) (fp : List Addr), PE (X.blk s H scope (compEnvC scope cl C X.env) fp) kx (up X.K E wk))
    (he : ∀ (s : Shared) (H : Hp) (C : Addr) (cl : List (Str × Addr)) (fp : List Addr), PE (X.blk s H scope (compEnvC scope cl C X.env) fp) vx (up X.K E wv)) (hs : ∀ x, foldedSetIterable iter X.env x = pure x := by intro _; rfl) (hs1 : ∀ env x, foldedSetIterable iter1 env x = pure x := by intro _ _; rfl) :
    PE X (.DictComp kx vx [⟨tg, iter, [], 0⟩, ⟨tg1, iter1, [], 0⟩] scope pos) (up X.K E (eDc2 (own.map (·.2)) vs1 wi g wi1 g1 wk wv)) := pe_to (pe_dc2 hc hN (by have := hr.un; omega) hi ok hv hg hi1 hg1 hk he hs hs1) dc2_up
/-- d[(i, j)], frozen -/
def getK : List (List L2.Key) → List D → List L2.Key → Option D
  | k :: ks, d :: ds, j => if k = j then some d else getK ks ds j
  | _, _, _ => none
theorem getK_val {K : PySem.W.Frag} {dr : Addr} {F : Hp} {j : List L2.Key} {d : D} : ∀ {ks : List (List L2.Key)} {vs : List V} {ds : List D}, RpL K dr F vs ds → getK ks ds j = some d → ∃ v, valV (ks.zip vs) j = some v ∧ Rp K dr F v d
  | [], _, ds, _, h => by cases ds <;> cases h
  | k :: ks, _, [], _, h => by cases h
  | k :: ks, _, d' :: ds, r, h => by
    cases r with
    | @cons v vs _ _ r t =>
      have h' : (if k = j then some d' else getK ks ds j) = some d := h
      by_cases e : k = j
      · rw [if_pos e] at h'
        cases h'
        exact ⟨v, valV_pos (p := (k, v)) e, r⟩
      · rw [if_neg e] at h'
        obtain ⟨u, h1, h2⟩ := getK_val t h'
        exact ⟨u, by rw [List.zip_cons_cons, valV_neg (p := (k, v)) e]; exact h1, h2⟩
def eDg (w1 w2 : WE) : WE := fun x η n R => w1 x η n fun a n1 => w2 x η n1 fun b n2 => match a with
  | .dct ks ds => ∃ is : List Int, b = .tup (is.map D.int) ∧ ∃ d, getK ks ds (is.map fun i => (Sum.inl i : L2.Key)) = some d ∧ R d n2
  | _ => False
theorem q_dg {o i : Expr} {w1 w2 : WE} {pos : Pos} {k : Nat} (hr : Room k X.A) (ho : PE X o (up X.K E w1)) (hi : PE X i (up X.K E w2)) (hs : NoSl i) : PE X (.Subscript o i pos) (up X.K E (eDg w1 w2)) := pe_to (pe_dget (by have := hr.un; omega) ho hi hs) fun σ H Q q => by
  obtain ⟨c, η, R, x, e1, ok, en, hw, hr, hx⟩ := q
  refine ⟨c, η, _, x, e1, ok, en, hw, fun a c1 v h1 ok1 l1 r1 => ?_, hx⟩
  refine ⟨c1, η, _, x, rfl, ok1, en.le l1, h1, fun b c2 u h2 ok2 l2 r2 => ?_, hx.le l1⟩
  have r12 := l2.rp r1
  cases a <;> first | exact h2.elim | skip
  rename_i ks ds
  obtain ⟨is, rfl, d, hg, hR⟩ := h2
  cases r12 with
  | @dct a ks vs ds e hl r =>
    obtain ⟨v, hv, rv⟩ := getK_val r hg
    cases r2 with
    | @tup b us _ eb rb =>
      have hus : us = is.map V.int := rb.ints
      subst hus
      refine ⟨a, v, rfl, ?_, hr d c2 v hR ok2 (l1.trans l2) rv⟩
      rw [← hv]
      exact DGet.t (ok2.sub _ _ e) (by rw [kV_ints]; exact ok2.sub _ _ eb)
end
end DL
set_option maxHeartbeats 2000000
/-! ### a list of lists that grow -/
namespace DL
open PySem PySem.Spec PyProof.Rows L2
theorem mem_rowJ {i : Nat} : ∀ {c j : Nat} {x : List Int}, x ∈ rowJ i j c → ∃ k : Nat, x = [(i : Int), (k : Int)] ∧ j ≤ k ∧ k < j + c
  | 0, j, x, h => by cases h
  | c + 1, j, x, h => by
    rcases List.mem_cons.1 h with rfl | h
    · exact ⟨j, rfl, Nat.le_refl _, by omega⟩
    · obtain ⟨k, e, h1, h2⟩ := mem_rowJ h
      exact ⟨k, e, by omega, by omega⟩
theorem mem_rowsI {m : Nat} : ∀ {c i : Nat} {x : List Int}, x ∈ rowsI m i c → ∃ a b : Nat, x = [(a : Int), (b : Int)] ∧ a < b ∧ b < m
  | 0, i, x, h => by cases h
  | c + 1, i, x, h => by
    rcases List.mem_append.1 h with h | h
    · obtain ⟨k, e, h1, h2⟩ := mem_rowJ h
      exact ⟨i, k, e, by omega, by omega⟩
    · exact mem_rowsI h
def RowsL (c : Cf) : List Addr → List (List Int) → Prop
  | [], [] => True
  | q :: qs, r :: rs => (c.H q = some (.lst (r.map V.int)) ∧ c.F q = none ∧ q ≠ c.dr) ∧ RowsL c qs rs
  | _, _ => False
theorem RowsL.len {c : Cf} : ∀ {qs : List Addr} {rows : List (List Int)}, RowsL c qs rows → qs.length = rows.length
  | [], [], _ => rfl
  | _ :: _, _ :: _, h => congrArg Nat.succ (RowsL.len h.2)
theorem RowsL.get {c : Cf} : ∀ {qs : List Addr} {rows : List (List Int)} {k : Nat} {r : List Int}, RowsL c qs rows → rows[k]? = some r → ∃ q, qs[k]? = some q ∧ c.H q = some (.lst (r.map V.int)) ∧ c.F q = none ∧ q ≠ c.dr
  | [], [], k, r, _, e => by simp at e
  | q :: qs, r' :: rs, 0, r, h, e => by
    simp at e
    subst e
    exact ⟨q, rfl, h.1⟩
  | q :: qs, r' :: rs, k + 1, r, h, e => by
    obtain ⟨q', h1, h2⟩ := RowsL.get h.2 (show rs[k]? = some r by simpa using e)
    exact ⟨q', by simpa using h1, h2⟩
theorem RowsL.le {c c' : Cf} (l : Le c c') : ∀ {qs : List Addr} {rows : List (List Int)}, RowsL c qs rows → RowsL c' qs rows
  | [], [], _ => trivial
  | _ :: _, _ :: _, h => ⟨⟨l.h _ _ h.1.2.2 (fun z => z) nofun h.1.1, l.fr _ _ h.1.2.2 (fun z => z) (by intro _ z; cases z) h.1.2.1 h.1.1, by rw [l.dr]; exact h.1.2.2⟩, RowsL.le l h.2⟩
theorem RowsL.out {c : Cf} {q : Addr} {u : HO} : ∀ {qs : List Addr} {rows : List (List Int)}, q ∉ qs → RowsL c qs rows → RowsL ⟨c.dr, c.F, upd c.H q u, c.n, c.T⟩ qs rows
  | [], [], _, _ => trivial
  | p :: qs, _ :: _, hn, h => ⟨⟨by show upd c.H q u p = _; rw [upd_ne (fun z => hn (by rw [z]; exact List.mem_cons_self))]; exact h.1.1, h.1.2⟩, RowsL.out (fun z => hn (List.mem_cons_of_mem _ z)) h.2⟩
theorem RowsL.put {c : Cf} {q : Addr} {r' : List Int} : ∀ {qs : List Addr} {rows : List (List Int)} {k : Nat}, qs.Nodup → qs[k]? = some q → RowsL c qs rows → RowsL ⟨c.dr, c.F, upd c.H q (.lst (r'.map V.int)), c.n, c.T⟩ qs (rows.set k r')
  | [], [], k, _, e, _ => by simp at e
  | p :: qs, r :: rs, 0, nd, e, h => by
    simp at e
    subst e
    exact ⟨⟨upd_same, h.1.2⟩, RowsL.out (List.nodup_cons.1 nd).1 h.2⟩
  | p :: qs, r :: rs, k + 1, nd, e, h => by
    have e' : qs[k]? = some q := by simpa using e
    have hpq : p ≠ q := fun z => (List.nodup_cons.1 nd).1 (by rw [z]; exact List.mem_of_getElem? e')
    exact ⟨⟨by show upd c.H q _ p = _; rw [upd_ne hpq]; exact h.1.1, h.1.2⟩, RowsL.put (List.nodup_cons.1 nd).2 e' h.2⟩
theorem RowsL.snoc {c : Cf} {q : Addr} {r : List Int} (hq : c.H q = some (.lst (r.map V.int)) ∧ c.F q = none ∧ q ≠ c.dr) : ∀ {qs : List Addr} {rows : List (List Int)}, RowsL c qs rows → RowsL c (qs ++ [q]) (rows ++ [r])
  | [], [], _ => ⟨hq, trivial⟩
  | _ :: _, _ :: _, h => ⟨h.1, RowsL.snoc hq h.2⟩
structure Grid (c0 c : Cf) (L : Addr) (qs : List Addr) (rows : List (List Int)) : Prop where
  le : Le c0 c
  hL : c.H L = some (.lst (qs.map V.ref))
  fL : c.F L = none
  dL : L ≠ c.dr
  nd : (L :: qs).Nodup
  no : ∀ q ∈ L :: qs, No c0 q
  rs : RowsL c qs rows
theorem Grid.step {c0 c c' : Cf} {L : Addr} {qs : List Addr} {rows : List (List Int)} (g : Grid c0 c L qs rows) (l : Le c c') : Grid c0 c' L qs rows :=
  ⟨g.le.trans l, l.h _ _ g.dL (fun z => z) nofun g.hL, l.fr _ _ g.dL (fun z => z) (by intro _ z; cases z) g.fL g.hL, by rw [l.dr]; exact g.dL, g.nd, g.no, g.rs.le l⟩
theorem Grid.put {c0 c : Cf} {L q : Addr} {qs : List Addr} {rows : List (List Int)} {k : Nat} {r r' : List Int} (g : Grid c0 c L qs rows) (ok : c.Ok) (hq : qs[k]? = some q) (hr : rows[k]? = some r) :
    (⟨c.dr, c.F, upd c.H q (.lst (r'.map V.int)), c.n, c.T⟩ : Cf).Ok ∧ Grid c0 ⟨c.dr, c.F, upd c.H q (.lst (r'.map V.int)), c.n, c.T⟩ L qs (rows.set k r') := by
  obtain ⟨q', e, h1, h2, h3⟩ := g.rs.get hr
  rw [hq] at e
  cases e
  have hm : q ∈ qs := List.mem_of_getElem? hq
  obtain ⟨ok2, l2⟩ := ok.put (u := .lst (r'.map V.int)) g.le (g.no q (List.mem_cons_of_mem _ hm)) h1 h2 h3
  have hLq : L ≠ q := fun z => (List.nodup_cons.1 g.nd).1 (by rw [z]; exact hm)
  exact ⟨ok2, l2, by show upd c.H q _ L = _; rw [upd_ne hLq]; exact g.hL, g.fL, g.dL, g.nd, g.no, RowsL.put (List.nodup_cons.1 g.nd).2 hq g.rs⟩
def gridD (rows : List (List Int)) : D := .lst (rows.map fun r => .lst (r.map D.int))
/-- all of it is frozen -/
theorem Grid.frz {K : PySem.W.Frag} {c0 c : Cf} {L : Addr} {qs : List Addr} {rows : List (List Int)} (g : Grid c0 c L qs rows) (ok : c.Ok) : ∃ c' : Cf, c'.H = c.H ∧ c'.n = c.n ∧ c'.Ok ∧ Le c0 c' ∧ RP K c' (.ref L) (gridD rows) := by
  have hall : ∀ q ∈ L :: qs, ∃ vs, c.H q = some (.lst vs) ∧ q ≠ c.dr := fun q hq => by
    rcases List.mem_cons.1 hq with rfl | hq
    · exact ⟨_, g.hL, g.dL⟩
    · obtain ⟨k, hk⟩ := List.getElem?_of_mem hq
      have hlt : k < rows.length := by rw [← g.rs.len]; exact (List.getElem?_eq_some_iff.1 hk).1
      obtain ⟨q', e, h1, _, h3⟩ := g.rs.get (List.getElem?_eq_getElem hlt)
      rw [hk] at e
      cases e
      exact ⟨_, h1, h3⟩
  have hF : ∀ a u, c.F a = some u → (fun a => if a ∈ L :: qs then c.H a else c.F a) a = some u := fun a u e => by
    show (if a ∈ L :: qs then c.H a else c.F a) = some u
    split
    · exact ok.sub _ _ e
    · exact e
  have rpl : ∀ {qs' : List Addr} {rows' : List (List Int)}, (∀ q ∈ qs', q ∈ qs) → RowsL c qs' rows' → RpL K c.dr (fun a => if a ∈ L :: qs then c.H a else c.F a) (qs'.map V.ref) (rows'.map fun r => .lst (r.map D.int)) := by
    intro qs'
    induction qs' with
    | nil =>
      intro rows' _ h
      cases rows' with
      | nil => exact .nil
      | cons _ _ => exact h.elim
    | cons q qs' ih =>
      intro rows' hs h
      cases rows' with
      | nil => exact h.elim
      | cons r rs =>
        refine .cons (.lst (vs := r.map V.int) ?_ (RpL.ofInts _ _ r)) (ih (fun z hz => hs z (List.mem_cons_of_mem _ hz)) h.2)
        show (if q ∈ L :: qs then c.H q else c.F q) = _
        rw [if_pos (List.mem_cons_of_mem _ (hs q List.mem_cons_self))]
        exact h.1.1
  refine ⟨⟨c.dr, fun a => if a ∈ L :: qs then c.H a else c.F a, c.H, c.n, c.T⟩, rfl, rfl, ⟨fun a u e => ?_, ?_, ok.dw.up hF, ok.tb, fun a ps e => ?_⟩, ⟨g.le.dr, fun a u e => hF a u (g.le.f a u e), g.le.h, fun a u h1 h2 hz h3 h4 => ?_, g.le.hd, g.le.T⟩, ?_⟩
  · have e' : (if a ∈ L :: qs then c.H a else c.F a) = some u := e
    split at e'
    · exact e'
    · exact ok.sub _ _ e'
  · show (if c.dr ∈ L :: qs then c.H c.dr else c.F c.dr) = none
    rw [if_neg (fun hm => by obtain ⟨_, _, h⟩ := hall _ hm; exact h rfl)]
    exact ok.nf
  · have e' : (if a ∈ L :: qs then c.H a else c.F a) = some (.tbl ps) := e
    split at e'
    · rename_i hm
      obtain ⟨vs, h1, _⟩ := hall a hm
      rw [h1] at e'
      cases e'
    · exact ok.nt a ps e'
  · show (if a ∈ L :: qs then c.H a else c.F a) = none
    rw [if_neg (fun hm => (g.no a hm).ne hz h4)]
    exact g.le.fr a u h1 h2 hz h3 h4
  · refine .lst (vs := qs.map V.ref) ?_ (rpl (fun _ h => h) g.rs)
    show (if L ∈ L :: qs then c.H L else c.F L) = _
    rw [if_pos List.mem_cons_self]
    exact g.hL
end DL
set_option maxHeartbeats 2000000
/-! ### found = [[] for ..]; for i, j in ..: if ..: found[i].append(j) -/
namespace DL
open PySem PySem.Spec PyProof.Rows L2
def addW (tst : Nat → Nat → Bool) (rows : List (List Int)) (x : List Int) : List (List Int) := match x with
  | [i, j] => if tst i.toNat j.toNat = true then rows.set i.toNat ((rows[i.toNat]?.getD []) ++ [j]) else rows
  | _ => rows
def waysOf (m : Nat) (tst : Nat → Nat → Bool) : List (List Int) := (rowsI m 0 m).foldl (addW tst) (List.replicate m [])
theorem addW_len {tst : Nat → Nat → Bool} {rows : List (List Int)} {x : List Int} : (addW tst rows x).length = rows.length := by
  unfold addW
  split
  · split
    · rw [List.length_set]
    · rfl
  · rfl
theorem foldW_len {tst : Nat → Nat → Bool} : ∀ (xs : List (List Int)) (rows : List (List Int)), (xs.foldl (addW tst) rows).length = rows.length
  | [], _ => rfl
  | x :: xs, rows => by
    show (xs.foldl (addW tst) (addW tst rows x)).length = _
    rw [foldW_len xs, addW_len]
/-- no row is longer than the number of turns -/
theorem foldW_row {tst : Nat → Nat → Bool} : ∀ (xs : List (List Int)) (rows : List (List Int)) (b : Nat), (∀ r ∈ rows, r.length ≤ b) → ∀ r ∈ xs.foldl (addW tst) rows, r.length ≤ b + xs.length
  | [], rows, b, h, r, hr => by simpa using h r hr
  | x :: xs, rows, b, h, r, hr => by
    have q : ∀ r ∈ addW tst rows x, r.length ≤ b + 1 := fun r hr => by
      unfold addW at hr
      split at hr
      · split at hr
        · rcases List.mem_or_eq_of_mem_set hr with z | z
          · exact Nat.le_succ_of_le (h r z)
          · subst z
            rw [List.length_append]
            rename_i i j _ _
            cases e : rows[i.toNat]? with
            | none => simp
            | some r' =>
              have := h r' (List.mem_of_getElem? e)
              simp
              omega
        · exact Nat.le_succ_of_le (h r hr)
      · exact Nat.le_succ_of_le (h r hr)
    have := foldW_row xs (addW tst rows x) (b + 1) q r hr
    rw [List.length_cons]
    omega
def sWays (iP iF iI iJ : Nat) (wp : WI) (wm : WA) (wt : WT) : WS := fun x k η n => ∃ (m : Nat) (tst : Nat → Nat → Bool), m ≤ 1000 ∧
  wp x η n (fun xs n1 => xs.length = m ∧ n1 = n) ∧ wm x (η.set iF .un) n (fun ds n1 => ds = [.int m] ∧ n1 = n) ∧
  (∀ i j : Nat, i < j → j < m → wt x (((η.set iF .un).set iI (.dt (.int i))).set iJ (.dt (.int j))) n fun b n1 => b = tst i j ∧ n1 = n) ∧
  k.rt (gridD (waysOf m tst)) n
end DL
namespace DL
open PySem PySem.Spec PyProof.Rows L2
theorem rowJ_len (i : Nat) : ∀ c j, (rowJ i j c).length = c
  | 0, _ => rfl
  | c + 1, j => congrArg Nat.succ (rowJ_len i c (j + 1))
theorem rowsI_len (m : Nat) : ∀ c i, (rowsI m i c).length ≤ c * m
  | 0, _ => Nat.zero_le _
  | c + 1, i => by
    show (rowJ i (i + 1) (m - (i + 1)) ++ rowsI m (i + 1) c).length ≤ _
    rw [List.length_append, rowJ_len, Nat.succ_mul]
    have := rowsI_len m c (i + 1)
    omega
theorem sizeLine_big : 1000000 < sizeLine := by decide
section
variable {X : Cx} {E : XK}
abbrev gPr (iI iJ : Nat) : WG := gTp 2 (gsCons (gNm iI) (gsCons (gNm iJ) gsNil))
theorem set_any {σ : L2.St} {i : Nat} {v : V} (h : i < σ.length) : (σ.set i (some v))[i]? = some (some v) := by
  rw [List.getElem?_set]
  simp [h]
theorem set_self {α : Type} (d : α) : ∀ (l : List α) (i : Nat), l.set i (l[i]?.getD d) = l
  | [], _ => rfl
  | a :: l, 0 => rfl
  | a :: l, i + 1 => by
    show a :: l.set i (l[i]?.getD d) = a :: l
    rw [set_self d l i]
theorem sets4 {α : Type} (l : List α) {i j : Nat} (h : i ≠ j) (a b c d : α) : ((((l.set i a).set j b).set i c).set j d) = (l.set i c).set j d := by
  rw [List.set_comm b c (Ne.symm h), List.set_set, List.set_set]
theorem grid_env {K : PySem.W.Frag} {c : Cf} {σ : L2.St} {η : List Sl} {q : Addr} {u : HO} (e : EnvOk K c σ η) (hn : ∀ a, Owned σ η a → a ≠ q) : EnvOk K ⟨c.dr, c.F, upd c.H q u, c.n, c.T⟩ σ η := ⟨e.len, fun i s h => by
  obtain ⟨o, e1, e2⟩ := e.sl i s h
  refine ⟨o, e1, ?_⟩
  cases s with
  | un => trivial
  | cl _ => exact e2
  | dt d => exact e2
  | ow xs =>
    obtain ⟨p, vs, rfl, h1, h2, h3, r⟩ := e2
    exact ⟨p, vs, rfl, by show upd c.H q u p = _; rw [upd_ne (hn p ⟨i, _, h, rfl, e1⟩)]; exact h1, h2, h3, r⟩
  | ob p cn ns fs =>
    obtain ⟨dx, vs, rfl, h1, h2, h3, h4, r⟩ := e2
    exact ⟨dx, vs, rfl, by show upd c.H q u p = _; rw [upd_ne (hn p ⟨i, _, h, rfl, e1⟩)]; exact h1, h2, h3, h4, r⟩, e.inj, e.T⟩
theorem ways_up {K : PySem.W.Frag} {iP iF iI iJ : Nat} {wp : WI} {wm : WA} {wt : WT} (hFP : iF ≠ iP) (hFI : iF ≠ iI) (hFJ : iF ≠ iJ) (hIJ : iI ≠ iJ) : ∀ DD σ H, iF < σ.length → iI < σ.length → iJ < σ.length → upS K E (sWays iP iF iI iJ wp wm wt) DD σ H →
    tSeq (tAsg (tLc (upI K E wp) (upG K [iP] (gNm iP)) (upT K E wYes) (tLst tNil) [iP]) (gName iF)) (tSeq (tForG (tMk (upA K E wm)) (upG K [iI, iJ] (gPr iI iJ)) (tIfS (upT K E wt) (tDrop (tBM K "list" rAppend (tOp (rIxL K) (tVar iF) (tVar iI)) (tCons (tVar iJ) tNil))) tNext)) (tRet (tVar iF))) DD σ H := fun DD σ H hσ hσI hσJ q => by
  obtain ⟨c, η, k, x, e1, ok, en, hw, h1, h2, h3, h4, hx⟩ := q
  obtain ⟨m, tst, hm, hwp, hwm, hwt, hrt⟩ := hw
  have hen : σ.length = η.length := en.len
  refine ⟨c, η, _, x, e1, ok, en, hwp, fun xs c0 J hd ok0 l0 it => ?_, hx.none⟩
  obtain ⟨hxl, hn0⟩ := hd
  intro L hL
  obtain ⟨okL, lL, hFL, hdL⟩ := ok0.newH (o := .lst []) hL
  have hL0 : No c L := No.back l0 (No.of hL)
  have enw : EnvOk K c (L2.wipe σ [iP]) (wipeS η [iP]) := en.wipe [iP]
  -- the empty lists
  refine ⟨fun i t H1 => ∃ c1 qs, c1.H = H1 ∧ c1.Ok ∧ Fs c0 c1 ∧ c1.n = c.n ∧ Grid c c1 L qs (List.replicate i []) ∧ i + t = xs.length,
    ⟨xs.length, ⟨c0.dr, c0.F, upd c0.H L (.lst []), c0.n, c0.T⟩, [], rfl, okL, Fs.of lL, hn0, ⟨l0.trans lL, upd_same, hFL, hdL, by simp, fun q hq => by rw [List.mem_singleton.1 hq]; exact hL0, trivial⟩, by omega⟩, ?_⟩
  rintro i t H1 ⟨c1, qs, rfl, ok1, f1, hn1, g1, ht⟩
  obtain ⟨it1, it2⟩ := it i c1 ok1 f1
  by_cases hlt : i < xs.length
  · obtain ⟨go, yl⟩ := it1 _ (List.getElem?_eq_getElem hlt)
    refine .inr ⟨go, fun H2 => ∃ c1 qs, c1.H = H2 ∧ c1.Ok ∧ Fs c0 c1 ∧ c1.n = c.n ∧ Grid c c1 L qs (List.replicate (i + 1) []), fun H2 hN => ?_, fun v H2 hy => ?_⟩
    · obtain ⟨c2, qs2, z1, z2, z3, z4, z5⟩ := hN
      exact ⟨t - 1, by omega, c2, qs2, z1, z2, z3, z4, z5, by omega⟩
    · obtain ⟨c2, rfl, hn2, ok2, l2, rp2⟩ := yl v H2 hy
      have g2 := g1.step l2
      refine ⟨c2, wipeS η [iP], xs[i], fun _ => True, rfl, ok2, enw.le g2.le, rp2, trivial, fun η3 σ3 _ en3 ho3 ot => ?_⟩
      refine ⟨wipe_out ot, c2, η3, fun b n1 => b = true ∧ n1 = c2.n, x, rfl, ok2, en3, ⟨rfl, rfl⟩, fun b c3 hb3 ok3 l3 => ?_, (hx.none.le g2.le)⟩
      obtain ⟨rfl, hn3⟩ := hb3
      have g3 := g2.step l3
      rw [if_pos rfl]
      refine ⟨Nat.zero_le _, fun p hp => ?_⟩
      obtain ⟨ok4, l4, hFp, hdp⟩ := ok3.newH (o := .lst []) hp
      have g4 := g3.step l4
      have hp0 : No c p := No.back g3.le (No.of hp)
      have hpL : p ≠ L := fun z => by rw [z, g3.hL] at hp; cases hp
      have hpq : p ∉ qs := fun hm => by
        obtain ⟨k', hk'⟩ := List.getElem?_of_mem hm
        have hlt' : k' < (List.replicate i ([] : List Int)).length := by rw [← g3.rs.len]; exact (List.getElem?_eq_some_iff.1 hk').1
        obtain ⟨q', e, z1, _⟩ := g3.rs.get (List.getElem?_eq_getElem hlt')
        rw [hk'] at e
        cases e
        rw [hp] at z1
        cases z1
      obtain ⟨ok5, l5⟩ := ok4.put (u := .lst (qs.map V.ref ++ [.ref p])) g4.le hL0 g4.hL g4.fL g4.dL
      have hqsl : (qs.map V.ref).length = i := by
        rw [List.length_map, g3.rs.len, List.length_replicate]
      refine ⟨qs.map V.ref, g4.hL, ?_, ⟨c3.dr, c3.F, upd (upd c3.H p (.lst [])) L (.lst (qs.map V.ref ++ [.ref p])), c3.n, c3.T⟩, qs ++ [p], rfl, ok5, ((f1.trans (Fs.of l2)).trans ⟨l3.dr, l3.f⟩), by show c3.n = c.n; rw [hn3, hn2, hn1], l5, ?_, g4.fL, g4.dL, ?_, ?_, ?_⟩
      · have := sizeLine_big
        rw [hqsl]
        omega
      · show upd _ L _ L = _
        rw [upd_same, List.map_append]
        rfl
      · have nd := List.nodup_cons.1 g3.nd
        rw [List.nodup_cons]
        refine ⟨fun hm => ?_, List.nodup_append.2 ⟨nd.2, by simp, fun a ha b hb => ?_⟩⟩
        · rcases List.mem_append.1 hm with z | z
          · exact nd.1 z
          · exact hpL (List.mem_singleton.1 z).symm
        · rw [List.mem_singleton.1 hb]
          exact fun z => hpq (by rw [← z]; exact ha)
      · intro q hq
        rcases List.mem_cons.1 hq with rfl | hq
        · exact hL0
        · rcases List.mem_append.1 hq with z | z
          · exact g3.no q (List.mem_cons_of_mem _ z)
          · rw [List.mem_singleton.1 z]
            exact hp0
      · have r4 : RowsL ⟨c3.dr, c3.F, upd c3.H p (.lst []), c3.n, c3.T⟩ (qs ++ [p]) (List.replicate i [] ++ [[]]) := RowsL.snoc (c := ⟨c3.dr, c3.F, upd c3.H p (.lst []), c3.n, c3.T⟩) (r := []) ⟨upd_same, hFp, hdp⟩ g4.rs
        rw [List.replicate_succ']
        refine RowsL.out (c := ⟨c3.dr, c3.F, upd c3.H p (.lst []), c3.n, c3.T⟩) (fun hm => ?_) r4
        rcases List.mem_append.1 hm with z | z
        · exact (List.nodup_cons.1 g3.nd).1 z
        · exact hpL (List.mem_singleton.1 z).symm
  · refine .inl ⟨it2 (by omega), ?_⟩
    have hi : i = m := by omega
    subst hi
    -- the loop
    have hwm' : wm x (η.set iF .un) c1.n (fun ds n1 => ds = [.int i] ∧ n1 = c.n) := by rw [hn1]; exact hwm
    refine ⟨c1, η.set iF .un, _, x, rfl, ok1, (en.le g1.le).unset, hwm', fun ds c2 vs hd2 ok2 l2 rp2 => ?_, hx.none.le g1.le⟩
    obtain ⟨rfl, hn2⟩ := hd2
    have ev : vs = [.int i] := by
      cases rp2 with
      | cons r t =>
        cases r
        cases t
        rfl
    subst ev
    have g2 := g1.step l2
    refine ⟨i, rfl, by omega, fun t σ1 H1 => ∃ c3 si sj, c3.H = H1 ∧ c3.Ok ∧ c3.n = c.n ∧ EnvOk K c3 σ1 (((η.set iF .un).set iI si).set iJ sj) ∧ σ1[iF]? = some (some (.ref L)) ∧ (∀ a, Owned σ1 (((η.set iF .un).set iI si).set iJ sj) a → Owned σ η a) ∧ Grid c c3 L qs (((rowsI i 0 i).take t).foldl (addW tst) (List.replicate i [])), ?_, fun σ1 H1 hW => ?_, fun t y σ1 H1 hy hW p hp => ?_⟩
    · refine ⟨c2, (η.set iF .un)[iI]?.getD .un, (η.set iF .un)[iJ]?.getD .un, rfl, ok2, hn2, ?_, set_any hσ, ?_, by rw [List.take_zero]; exact g2⟩
      · rw [set_self .un (η.set iF .un) iI, set_self .un (η.set iF .un) iJ]
        exact ((en.le g1.le).unset).le l2
      · rw [set_self .un (η.set iF .un) iI, set_self .un (η.set iF .un) iJ]
        exact fun a z => owned_unset z
    · obtain ⟨c3, si, sj, rfl, ok3, hn3, en3, hF3, ho3, g3⟩ := hW
      rw [List.take_length] at g3
      obtain ⟨c4, hH4, hn4, ok4, l4, rp4⟩ := g3.frz (K := K) ok3
      refine ⟨.ref L, hF3, ?_⟩
      rw [← hH4]
      exact h2 _ c4 _ (by rw [hn4, hn3]; exact hrt) ok4 (LeO.of l4) rp4
    · obtain ⟨c3, si, sj, rfl, ok3, hn3, en3, hF3, ho3, g3⟩ := hW
      obtain ⟨a, b, rfl, hab, hbm⟩ := mem_rowsI (List.mem_of_getElem? hy)
      have hlt : t < (rowsI i 0 i).length := (List.getElem?_eq_some_iff.1 hy).1
      obtain ⟨ok4, l4⟩ := ok3.newF (o := .tup ([(a : Int), (b : Int)].map V.int)) hp
      have rp4 : RP K ⟨c3.dr, upd c3.F p (.tup ([(a : Int), (b : Int)].map V.int)), upd c3.H p (.tup ([(a : Int), (b : Int)].map V.int)), c3.n, c3.T⟩ (.ref p) (.tup ([(a : Int), (b : Int)].map D.int)) := .tup upd_same (RpL.ofInts _ _ _)
      generalize hc4 : (⟨c3.dr, upd c3.F p (.tup ([(a : Int), (b : Int)].map V.int)), upd c3.H p (.tup ([(a : Int), (b : Int)].map V.int)), c3.n, c3.T⟩ : Cf) = c4 at ok4 l4 rp4
      have hH4 : upd c3.H p (.tup ([(a : Int), (b : Int)].map V.int)) = c4.H := by rw [← hc4]
      have hn4 : c4.n = c.n := by rw [← hc4]; exact hn3
      rw [hH4]
      have g4 := g3.step l4
      refine ⟨c4, _, .tup ([(a : Int), (b : Int)].map D.int), fun η' => η' = (((((η.set iF .un).set iI si).set iJ sj).set iI (.dt (.int a))).set iJ (.dt (.int b))), rfl, ok4, en3.le l4, rp4, ⟨rfl, rfl⟩, fun η5 σ5 hk5 en5 ho5 ot5 => ?_⟩
      rw [sets4 _ hIJ] at hk5
      subst hk5
      have hF5 : σ5[iF]? = some (some (.ref L)) := by
        rw [ot5.2 iF (by simp [hFI, hFJ])]
        exact hF3
      have ho5' : ∀ a', Owned σ5 _ a' → Owned σ η a' := fun a' z => ho3 a' (ho5 a' z)
      have hwt' := hwt a b hab hbm
      rw [← hn4] at hwt'
      refine ⟨c4, _, _, x, rfl, ok4, en5, hwt', fun bb c5 hb5 ok5 l5 => ?_, hx.none.le g4.le⟩
      obtain ⟨rfl, hn5⟩ := hb5
      have g5 := g4.step l5
      have hrows : ((rowsI i 0 i).take (t + 1)).foldl (addW tst) (List.replicate i []) = addW tst (((rowsI i 0 i).take t).foldl (addW tst) (List.replicate i [])) [(a : Int), (b : Int)] := by
        rw [List.take_succ, hy, List.foldl_append]
        rfl
      cases hb : tst a b with
      | false =>
        rw [if_neg (by simp)]
        refine ⟨c5, _, _, rfl, ok5, by rw [hn5, hn4], en5.le l5, hF5, ho5', ?_⟩
        rw [hrows]
        have : addW tst (((rowsI i 0 i).take t).foldl (addW tst) (List.replicate i [])) [(a : Int), (b : Int)] = ((rowsI i 0 i).take t).foldl (addW tst) (List.replicate i []) := by
          show (if tst (a : Int).toNat (b : Int).toNat = true then _ else _) = _
          rw [Int.toNat_natCast, Int.toNat_natCast, hb, if_neg (by simp)]
        rw [this]
        exact g5
      | true =>
        rw [if_pos rfl]
        have hl5 : (((rowsI i 0 i).take t).foldl (addW tst) (List.replicate i [])).length = i := by rw [foldW_len, List.length_replicate]
        have hra : (((rowsI i 0 i).take t).foldl (addW tst) (List.replicate i []))[a]? = some ((((rowsI i 0 i).take t).foldl (addW tst) (List.replicate i []))[a]'(by omega)) := List.getElem?_eq_getElem (by omega)
        have hrl := foldW_row (tst := tst) ((rowsI i 0 i).take t) (List.replicate i []) 0 (fun r hr => by rw [List.eq_of_mem_replicate hr]; exact Nat.le_refl _) _ (List.mem_of_getElem? hra)
        generalize hrr : (((rowsI i 0 i).take t).foldl (addW tst) (List.replicate i []))[a]'(by omega) = r at hra hrl
        obtain ⟨q, hq, hHq, hFq, hdq⟩ := g5.rs.get hra
        obtain ⟨ok6, g6⟩ := g5.put (r' := r ++ [(b : Int)]) ok5 hq hra
        obtain ⟨vI, hvI, rI⟩ := (en5.le l5).dt (i := iI) (d := .int a) (by
          rw [List.getElem?_set_ne (Ne.symm hIJ), List.getElem?_set]
          simp [← hen, hσI])
        obtain ⟨vJ, hvJ, rJ⟩ := (en5.le l5).dt (i := iJ) (d := .int b) (by
          rw [List.getElem?_set]
          simp [← hen, hσJ])
        cases rI
        cases rJ
        refine ⟨.ref L, hF5, .int a, hvI, L, qs.map V.ref, a, .ref q, rfl, rfl, .of g5.hL, ?_, .inl ⟨rfl, _, .of hHq⟩, .int b, hvJ, q, r.map V.int, .int b, rfl, rfl, hHq, ?_, ?_⟩
        · exact L2.atI_nat (by rw [List.getElem?_map, hq]; rfl)
        · have h1 := sizeLine_big
          have h2 := rowsI_len i i 0
          have h3 : i * i ≤ 1000 * 1000 := Nat.mul_le_mul hm hm
          have h4 : ((rowsI i 0 i).take t).length ≤ (rowsI i 0 i).length := by rw [List.length_take]; exact Nat.min_le_right _ _
          rw [List.length_map]
          omega
        · refine ⟨⟨c5.dr, c5.F, upd c5.H q (.lst ((r ++ [(b : Int)]).map V.int)), c5.n, c5.T⟩, .dt (.int a), .dt (.int b), ?_, ok6, by show c5.n = c.n; rw [hn5, hn4], ?_, hF5, ho5', ?_⟩
          · show upd c5.H q _ = upd c5.H q _
            rw [List.map_append]
            rfl
          · refine grid_env (en5.le l5) fun a' z e => ?_
            obtain ⟨⟨o', hz', hh⟩, _⟩ := en.owned (ho5' a' z)
            exact (g5.no q (List.mem_cons_of_mem _ (List.mem_of_getElem? hq))).ne hz' (by rw [← e]; exact hh)
          · rw [hrows]
            have : addW tst (((rowsI i 0 i).take t).foldl (addW tst) (List.replicate i [])) [(a : Int), (b : Int)] = (((rowsI i 0 i).take t).foldl (addW tst) (List.replicate i [])).set a (r ++ [(b : Int)]) := by
              show (if tst (a : Int).toNat (b : Int).toNat = true then _ else _) = _
              rw [Int.toNat_natCast, Int.toNat_natCast, hb, if_pos rfl, hra]
              rfl
            rw [this]
            exact g6
end
end DL
set_option maxHeartbeats 2000000
/-! ### new lists by *, parallel assignments with a new list, reversed ranges, properties -/
namespace DL
open PySem PySem.Spec PyProof.Rows L2
section
variable {X : Cx} {E : XK} {pos : Pos}
def nRep (w1 w2 : WE) : WN := fun x η n R => w1 x η n fun a n1 => w2 x η n1 fun b n2 => match a, b with
  | .lst xs, .int i => 0 ≤ i ∧ i < 2 ^ 62 ∧ xs.length * i.toNat ≤ sizeLine ∧ R (List.replicate i.toNat xs).flatten n2
  | _, _ => False
theorem qn_rep {a b : Expr} {w1 w2 : WE} (h1 : PE X a (upB X.K E w1)) (h2 : PE X b (upB X.K E w2)) : PE X (.BinOp a .Mult b pos) (upN X.K E (nRep w1 w2)) := pe_to (pe_op op_rep h1 h2) fun σ H Q q => by
  obtain ⟨c, η, R, x, e1, ok, en, hw, hr, hx⟩ := q
  refine ⟨c, η, _, x, e1, ok, en, hw, fun da c1 v g1 ok1 l1 r1 => ?_, hx⟩
  refine ⟨c1, η, _, x, rfl, ok1, en.le l1, g1, fun db c2 u g2 ok2 l2 r2 => ?_, hx.le l1⟩
  have r12 := r1.le l2
  cases da <;> cases db <;> first | exact g2.elim | skip
  obtain ⟨p, vs, rfl, e, rp⟩ := r12.lst ok2
  obtain ⟨z1, z2, z3, hR⟩ := g2
  refine ⟨p, _, vs, rfl, r2.int, e, by omega, by omega, by rw [rp.length]; exact z3, fun t ht => ?_⟩
  obtain ⟨ok3, l3, hF, hd⟩ := ok2.newH (o := .lst _) ht
  have l02 := l1.trans l2
  exact hr _ ⟨c2.dr, c2.F, upd c2.H t _, c2.n, c2.T⟩ t _ hR ok3 (l02.trans l3) (No.back l02 (No.of ht)) hF (by rw [← l02.dr]; exact hd) upd_same (l3.rpl (RPL.rep rp _))
/-- a, b = e, [..]: the second a new list that is owned -/
def sParN (i j : Nat) (w : WE) (wn : WN) : WS := fun x k η n => w x η n fun d n1 => wn x η n1 fun xs n2 => k.nx ((η.set i (.dt d)).set j (.ow xs)) n2
theorem qs_parN {i j : Nat} {x y : Str} {a b : Expr} {w : WE} {wn : WN} {px py pt : Pos} {kt k2 pt2} (hc : X.calm = true) (hN : X.N.Nodup) (hi : X.N[i]? = some x) (hj : X.N[j]? = some y) (hij : i ≠ j)
    (hx : X.env.scope.names.lookup x = some .local) (hy : X.env.scope.names.lookup y = some .local) (ha : PE X a (up X.K E w)) (hb : PE X b (upN X.K E wn))
    (hw : swappedStores [.Tuple [.Name x px, .Name y py] kt pt] (.Tuple [a, b] k2 pt2) X.env = pure (some [x, y])) (hst : starEach [a, b] X.env = (false, eval a X.env) :: starEach [b] X.env := by rfl) (hst2 : starEach [b] X.env = (false, eval b X.env) :: starEach [] X.env := by rfl)
    (hs : swapsWithSole [.Tuple [.Name x px, .Name y py] kt pt] (.Tuple [a, b] k2 pt2) pos.line X.env = pure false := by rfl) :
    PS X (.Assign [.Tuple [.Name x px, .Name y py] kt pt] (.Tuple [a, b] k2 pt2) pos) (upS X.K E (sParN i j w wn)) := ps_to (ps_par hc hN hi hj hij hx hy (pa_cons ha (pa_cons hb pa_nil hst2) hst) hw hs) fun D σ H q => by
  obtain ⟨c, η, k, x, e1, ok, en, hw, h1, h2, h3, h4, hx⟩ := q
  refine ⟨c, η, _, x, e1, ok, en, hw, fun d c1 v g1 ok1 l1 r1 => ?_, hx.none⟩
  refine ⟨c1, η, _, x, rfl, ok1, en.le l1, g1, fun xs c2 p vs g2 ok2 l2 hp hF hdr hH rp => ?_, hx.none.le l1⟩
  have l12 := l1.trans l2
  have hp0 : No c p := No.back l1 hp
  refine ⟨v, .ref p, rfl, h1 _ c2 _ g2 ok2 (LeO.of l12) (fun a z => ?_) (((en.le l12).set (l2.rp r1)).own (fun j' t _ q1 q2 q3 => ?_) ⟨p, vs, rfl, hH, hF, by rw [l2.dr]; exact hdr, rp⟩)⟩
  · rcases owned_own z with z | z
    · exact .inl (owned_set z)
    · rw [z]
      exact .inr hp0
  · obtain ⟨⟨us, hz, hu⟩, _⟩ := en.owned (owned_set ⟨j', t, q1, q2, q3⟩)
    exact hp0.ne hz hu
/-- a, b, c = e, [..], e' -/
def sPar3N (i j l : Nat) (w : WE) (wn : WN) (w3 : WE) : WS := fun x k η n => w x η n fun d n1 => wn x η n1 fun xs n2 => w3 x η n2 fun d3 n3 => k.nx (((η.set i (.dt d)).set j (.ow xs)).set l (.dt d3)) n3
theorem qs_par3N {i j l : Nat} {x y z : Str} {a b c : Expr} {w w3 : WE} {wn : WN} {px py pz pt : Pos} {kt k2 pt2} (hc : X.calm = true) (hN : X.N.Nodup) (hi : X.N[i]? = some x) (hj : X.N[j]? = some y) (hl : X.N[l]? = some z) (hij : i ≠ j) (hil : i ≠ l) (hjl : j ≠ l)
    (hx : X.env.scope.names.lookup x = some .local) (hy : X.env.scope.names.lookup y = some .local) (hz : X.env.scope.names.lookup z = some .local) (ha : PE X a (up X.K E w)) (hb : PE X b (upN X.K E wn)) (hcc : PE X c (up X.K E w3))
    (hw : swappedStores [.Tuple [.Name x px, .Name y py, .Name z pz] kt pt] (.Tuple [a, b, c] k2 pt2) X.env = pure (some [x, y, z])) (hst : starEach [a, b, c] X.env = (false, eval a X.env) :: starEach [b, c] X.env := by rfl) (hst2 : starEach [b, c] X.env = (false, eval b X.env) :: starEach [c] X.env := by rfl) (hst3 : starEach [c] X.env = (false, eval c X.env) :: starEach [] X.env := by rfl)
    (hs : swapsWithSole [.Tuple [.Name x px, .Name y py, .Name z pz] kt pt] (.Tuple [a, b, c] k2 pt2) pos.line X.env = pure false := by rfl) :
    PS X (.Assign [.Tuple [.Name x px, .Name y py, .Name z pz] kt pt] (.Tuple [a, b, c] k2 pt2) pos) (upS X.K E (sPar3N i j l w wn w3)) := ps_to (ps_par3 hc hN hi hj hl hij hil hjl hx hy hz (pa_cons ha (pa_cons hb (pa_cons hcc pa_nil hst3) hst2) hst) hw hs) fun D σ H q => by
  obtain ⟨c, η, k, x, e1, ok, en, hw, h1, h2, h3, h4, hx⟩ := q
  refine ⟨c, η, _, x, e1, ok, en, hw, fun d c1 v g1 ok1 l1 r1 => ?_, hx.none⟩
  refine ⟨c1, η, _, x, rfl, ok1, en.le l1, g1, fun xs c2 p vs g2 ok2 l2 hp hF hdr hH rp => ?_, hx.none.le l1⟩
  refine ⟨c2, η, _, x, rfl, ok2, (en.le l1).le l2, g2, fun d3 c3 v3 g3 ok3 l3 r3 => ?_, (hx.none.le l1).le l2⟩
  have l12 := l1.trans l2
  have l13 := l12.trans l3
  have hp0 : No c p := No.back l1 hp
  have hd2 : p ≠ c2.dr := by rw [l2.dr]; exact hdr
  have en3 := ((en.le l13).set (i := i) ((l2.trans l3).rp r1)).own (i := j) (p := p) (s0 := .ow xs) (fun j' t _ q1 q2 q3 => by
    obtain ⟨⟨us, hz, hu⟩, _⟩ := en.owned (owned_set ⟨j', t, q1, q2, q3⟩)
    exact hp0.ne hz hu) ⟨p, vs, rfl, l3.h _ _ hd2 (fun z => z) nofun hH, l3.fr _ _ hd2 (fun z => z) (by intro _ z; cases z) hF hH, by rw [l3.dr]; exact hd2, l3.rpl rp⟩
  refine ⟨v, .ref p, v3, rfl, h1 _ c3 _ g3 ok3 (LeO.of l13) (fun a z => ?_) (en3.set (i := l) r3)⟩
  rcases owned_own (owned_set z) with z | z
  · exact .inl (owned_set z)
  · rw [z]
    exact .inr hp0
/-- reversed(range(n)) -/
def iRv1 (w : WE) : WI := fun x η n R => w x η n fun d n1 => match d with
  | .int i => -(2 ^ 62) ≤ i ∧ i < 2 ^ 62 ∧ R ((List.range i.toNat).reverse.map fun k => .int (k : Nat)) n1
  | _ => False
theorem iter_rev {K : PySem.W.Frag} {c : Cf} (b : Int) : IterOk K (Itc (0 + (((b - 0).toNat : Nat) : Int) - 1) (-1) (b - 0).toNat) c ((List.range b.toNat).reverse.map fun k => .int (k : Nat)) := fun i c1 ok1 f1 => by
  have eb : (b - 0).toNat = b.toNat := by omega
  rw [eb]
  refine ⟨fun d hd => ?_, fun hi => ?_⟩
  · have hlt : i < b.toNat := by
      have := (List.getElem?_eq_some_iff.1 hd).1
      simpa using this
    refine ⟨hlt, fun v H2 hy => ?_⟩
    obtain ⟨rfl, rfl⟩ := hy
    have hd' : d = .int ((b.toNat - 1 - i : Nat) : Int) := by
      rw [List.getElem?_map, List.getElem?_reverse (by simpa using hlt)] at hd
      simp [hlt] at hd
      have : b.toNat - 1 - i < b.toNat := by omega
      rw [List.getElem?_eq_getElem (by simpa using this)] at hd
      simp at hd
      exact hd.symm
    subst hd'
    refine ⟨c1, rfl, rfl, ok1, .refl, ?_⟩
    have e : 0 + ((b.toNat : Nat) : Int) - 1 + (i : Nat) * (-1) = ((b.toNat - 1 - i : Nat) : Int) := by omega
    rw [e]
    exact .int _
  · show b.toNat ≤ i
    simpa using hi
theorem qi_rv1 {tg a : Expr} {w : WE} {p p2 pos pos2 : Pos} (hg : Gl X "reversed") (hm : X.mg "reversed" = none) (hg2 : Gl X "range") (hm2 : X.mg "range" = none) (ha : PE X a (upB X.K E w)) (hs : starEach [.Call (.Name "range" p2) [a] [] pos2] X.env = (false, eval (.Call (.Name "range" p2) [a] [] pos2) X.env) :: starEach [] X.env := by rfl) (hs2 : starEach [a] X.env = (false, eval a X.env) :: starEach [] X.env := by rfl) :
    PI X tg (.Call (.Name "reversed" p) [.Call (.Name "range" p2) [a] [] pos2] [] pos) (upI X.K E (iRv1 w)) := pi_to (pi_revR hg hm (prg_1 hg2 hm2 ha hs2) hs) fun σ H Q q => by
  obtain ⟨c, η, R, x, e1, ok, en, hw, hr, hx⟩ := q
  refine ⟨c, η, _, x, e1, ok, en, hw, fun d c1 v hd ok1 l1 r1 => ?_, hx⟩
  cases d <;> first | exact hd.elim | skip
  rename_i i
  obtain ⟨z1, z2, hR⟩ := hd
  refine ⟨i, r1.int, by omega, by omega, z1, z2, hr _ c1 _ hR ok1 l1 (iter_rev i)⟩
end
end DL
set_option maxHeartbeats 2000000
/-! ### properties; the head's hook with their getters -/
namespace DL
open PySem PySem.Spec PyProof.Rows L2
structure PropF (P : Program) (wd : World) (K : PySem.W.Frag) (mg : Str → Option Value) (base : Heap) (cn f : Str) (k : Nat) (C : Ct) : Prop where
  ex : ∃ p g fd ps, FnOk P wd K mg base CX0 k g fd ps (spU K 1 C) ∧ PropOf K (He.ga K cn) f p g ∧ Binds K fd ps []
def eProp (cn : Str) (C : Ct) (w : WE) : WE := fun x η n R => w x η n fun d n1 => match d with
  | .ins c ns fs => c = cn ∧ C (fun _ _ => False) [.ins c ns fs] n1 R
  | _ => False
section
variable {X : Cx} {E : XK} {pos : Pos} {e : Expr} {w : WE} {cn f : Str} {fl : List Str} {C : Ct} {k j : Nat}
theorem q_prop (c : CF X.K cn fl) (O : PropF X.prog X.w X.K X.mg X.base cn f j C) (hr : Room k X.A) (hj : j + 1 ≤ k) (he : PE X e (up X.K E w)) (hab : attributeBase e f X.env (eval e X.env) = eval e X.env := by rfl) : PE X (.Attribute e f pos) (up X.K E (eProp cn C w)) := by
  obtain ⟨p, g, fd, ps, F, P, b⟩ := O.ex
  refine pe_to (pe_prop (E := E0) he c.cls P F (hr.mono hj) b .nil pass0 hab) fun σ H Q q => ?_
  obtain ⟨c0, η, R, x, e1, ok, en, hw, hr, hx⟩ := q
  refine ⟨c0, η, _, x, e1, ok, en, hw, fun d c1 v hd ok1 l1 rp => ?_, hx⟩
  cases d <;> first | exact hd.elim | skip
  obtain ⟨rfl, hC⟩ := hd
  cases rp with
  | @ins a dx _ ns vs ds ef hl r =>
    refine ⟨a, dx, _, rfl, ok1.sub _ _ ef, c1, [_], R, fun _ _ => False, rfl, ok1, l1.T.trans en.T, .cons (.ins ef hl r) .nil, rfl, hC, fun d c2 v h2 ok2 l2 r2 => hr d c2 v h2 ok2 (l1.trans l2) r2, fun d c' cls od h => h.elim⟩
end
def propX (K : PySem.W.Frag) (cn f : Str) : Bool :=
  He.eqO (PySem.W.findIn K (.ref (He.ga K cn)) f) (some (some (.ref (He.ma K (He.ga K cn) f)))) && He.eqO (PySem.W.specialIn K (.ref (He.ma K (He.ga K cn) f)) "__get__") (some (some (.builtin "property.__get__"))) &&
  decide (PySem.W.takesIn K (.ref (He.ma K (He.ga K cn) f)) = some true) && (match PySem.W.recIn K (He.ma K (He.ga K cn) f) "property" with
    | some (.ref _ :: _) => true
    | _ => false)
def propG (K : PySem.W.Frag) (cn f : Str) : Addr := match PySem.W.recIn K (He.ma K (He.ga K cn) f) "property" with
  | some (.ref g :: _) => g
  | _ => 0
theorem propX_ok {K : PySem.W.Frag} {cn f : Str} (h : propX K cn f = true) : PropOf K (He.ga K cn) f (He.ma K (He.ga K cn) f) (propG K cn f) := by
  unfold propX at h
  simp only [Bool.and_eq_true, decide_eq_true_eq] at h
  obtain ⟨⟨⟨h1, h2⟩, h3⟩, h4⟩ := h
  refine ⟨He.eqO_ok h1, He.eqO_ok h2, h3, ?_⟩
  unfold propG
  split at h4
  · rename_i g r e
    rw [e]
    exact ⟨r, rfl⟩
  · cases h4
/-! the hook -/
abbrev AlZ : Type := AlY × He.AlD
def obsZ (n : Nat) (fa : List He.Fa) (fn : List He.DefD) (tf : List He.Defn) (ex : PySem.W.Frag → Bool) (gl : List He5.DefA) (g : Addr → Option Obj) : AlZ := (obsY n fa fn tf ex g, He5.obsA [] gl (He.frT g (asY g n)))
structure SaysZ (fa : List He.Fa) (fn : List He.DefD) (tf : List He.Defn) (ex : PySem.W.Frag → Bool) (gl : List He5.DefA) (h : Heap) (K : PySem.W.Frag) : Prop where
  y : SaysY fa fn tf ex h K
  a : He5.SaysA [] gl K
def hookZ (n : Nat) (fa : List He.Fa) (fn : List He.DefD) (tf : List He.Defn) (ex : PySem.W.Frag → Bool) (gl : List He5.DefA) : PySem.W.Hook where
  α := AlZ
  obs := fun s => obsZ n fa fn tf ex gl s.heap.get?
  val := fun _ => ((He.valD fn, true), He5.valA gl)
  says := fun _ h => ∃ K : PySem.W.Frag, K.In h ∧ SaysZ fa fn tf ex gl h K
  of := fun _ _ e => ⟨_, He.frT_in, saysY_of (congrArg (fun z : AlZ => z.1) e), congrArg (fun z : AlZ => z.2) e⟩
  keeps := fun _ _ _ ⟨K, hK, c⟩ k => ⟨K, PySem.W.Frag.In.keeps hK k, ⟨⟨c.y.d, c.y.more, c.y.hd, c.y.out, fun p hp => k _ _ (c.y.empty p hp)⟩, c.a⟩⟩
theorem obsZ_eq {n : Nat} {fa : List He.Fa} {fn : List He.DefD} {tf : List He.Defn} {ex : PySem.W.Frag → Bool} {gl : List He5.DefA} {g : Addr → Option Obj} {s : Shared} (h : ∀ a, g a = s.heap.get? a) : obsZ n fa fn tf ex gl g = (hookZ n fa fn tf ex gl).obs s := by
  have e : g = s.heap.get? := funext h
  rw [e] <;> rfl
/-- parts of a text -/
def stBody : Stmt → List Stmt
  | .For _ _ b _ _ => b
  | .If _ b _ _ => b
  | .While _ b _ _ => b
  | _ => []
def stExpr : Stmt → Expr
  | .Expr e _ => e
  | .Assign _ e _ => e
  | .Return (some e) _ => e
  | _ => .Constant .none 0 ⟨0, 0, 0, 0⟩
def callArg (i : Nat) : Expr → Expr
  | .Call _ as _ _ => as.getD i (.Constant .none 0 ⟨0, 0, 0, 0⟩)
  | e => e
def compSc : Expr → Scope
  | .ListComp _ _ s _ => s
  | .DictComp _ _ _ s _ => s
  | _ => { kind := .function, names := [], isGenerator := false, isCoroutine := false, more := [] }
def stAt (l : List Stmt) (i : Nat) : Stmt := l.getD i (.Pass ⟨0, 0, 0, 0⟩)
/-- a, b, c = .. (three plain locals) -/
def sPar3 (i j l : Nat) (w : WA) : WS := fun x k η n => w x η n fun ds n1 => match ds with
  | [d, e, f] => k.nx (((η.set i (.dt d)).set j (.dt e)).set l (.dt f)) n1
  | _ => False
theorem qs_par3 {X : Cx} {E : XK} {pos : Pos} {i j l : Nat} {x y z : Str} {a b c : Expr} {w : WA} {px py pz pt : Pos} {kt k2 pt2} (hc : X.calm = true) (hN : X.N.Nodup) (hi : X.N[i]? = some x) (hj : X.N[j]? = some y) (hl : X.N[l]? = some z) (hij : i ≠ j) (hil : i ≠ l) (hjl : j ≠ l)
    (hx : X.env.scope.names.lookup x = some .local) (hy : X.env.scope.names.lookup y = some .local) (hz : X.env.scope.names.lookup z = some .local) (ha : PA X [a, b, c] (upA X.K E w))
    (hw : swappedStores [.Tuple [.Name x px, .Name y py, .Name z pz] kt pt] (.Tuple [a, b, c] k2 pt2) X.env = pure (some [x, y, z]))
    (hs : swapsWithSole [.Tuple [.Name x px, .Name y py, .Name z pz] kt pt] (.Tuple [a, b, c] k2 pt2) pos.line X.env = pure false := by rfl) :
    PS X (.Assign [.Tuple [.Name x px, .Name y py, .Name z pz] kt pt] (.Tuple [a, b, c] k2 pt2) pos) (upS X.K E (sPar3 i j l w)) := ps_to (ps_par3 hc hN hi hj hl hij hil hjl hx hy hz ha hw hs) fun D σ H q => by
  obtain ⟨c, η, k, x, e1, ok, en, hw, h1, h2, h3, h4, hx⟩ := q
  refine ⟨c, η, _, x, e1, ok, en, hw, fun ds c1 vs hd ok1 l1 rp => ?_, hx.none⟩
  split at hd
  · cases rp with
    | cons r1 t1 =>
      cases t1 with
      | cons r2 t2 =>
        cases t2 with
        | cons r3 t3 =>
          cases t3
          exact ⟨_, _, _, rfl, h1 _ c1 _ hd ok1 (LeO.of l1) (fun a z => .inl (owned_set (owned_set (owned_set z)))) ((((en.le l1).set r1).set r2).set r3)⟩
  · exact hd.elim
/-- three statements: a list of empty lists, the loop that fills it, its return -/
theorem qss_ways {X : Cx} {E : XK} {s2 s3 s4 : Stmt} {iP iF iI iJ : Nat} {wp : WI} {wm : WA} {wt : WT} (a : PS X s2 (tAsg (tLc (upI X.K E wp) (upG X.K [iP] (gNm iP)) (upT X.K E wYes) (tLst tNil) [iP]) (gName iF)))
    (b : PS X s3 (tForG (tMk (upA X.K E wm)) (upG X.K [iI, iJ] (gPr iI iJ)) (tIfS (upT X.K E wt) (tDrop (tBM X.K "list" rAppend (tOp (rIxL X.K) (tVar iF) (tVar iI)) (tCons (tVar iJ) tNil))) tNext)))
    (c : PS X s4 (tRet (tVar iF))) (hF : Nat.blt iF X.N.length = true := by rfl) (hI : Nat.blt iI X.N.length = true := by rfl) (hJ : Nat.blt iJ X.N.length = true := by rfl) (hFP : iF ≠ iP := by decide) (hFI : iF ≠ iI := by decide) (hFJ : iF ≠ iJ := by decide) (hIJ : iI ≠ iJ := by decide) :
    PSs X [s2, s3, s4] (upS X.K E (sWays iP iF iI iJ wp wm wt)) :=
  ⟨fun pins s σ H D I q => (pss_cons a (pss_cons b (pss_one c))).run pins s σ H D I (ways_up hFP hFI hFJ hIJ D σ H (by rw [I.len]; exact Nat.blt_eq.mp hF) (by rw [I.len]; exact Nat.blt_eq.mp hI) (by rw [I.len]; exact Nat.blt_eq.mp hJ) q)⟩
end DL
set_option maxHeartbeats 2000000
/-! ### own operators, own __str__, own == against other things: readings on data -/
namespace DL
open PySem PySem.Spec PyProof.Rows L2
def isIns (cn : Str) : D → Prop
  | .ins c _ _ => c = cn
  | _ => False
def isInt : D → Prop
  | .int _ => True
  | _ => False
/-- may raise / does not raise here -/
def yR (x : Xn) : Xn := x
def yN (_ : Xn) : Xn := xNo
structure OwnF (P : Program) (wd : World) (K : PySem.W.Frag) (mg : Str → Option Value) (base : Heap) (cn : Str) (nm : String) (k : Nat) (C : Ct) : Prop where
  ex : ∃ f fd ps, FnOk P wd K mg base (L2.CX P wd) k f fd ps (spU K 2 C) ∧ Binds K fd ps [] ∧ OpK K (He.ga K cn) f nm
structure MulF (P : Program) (wd : World) (K : PySem.W.Frag) (mg : Str → Option Value) (base : Heap) (cn : Str) (k : Nat) (C : Ct) : Prop where
  ex : ∃ f r fd ps, FnOk P wd K mg base (L2.CX P wd) k f fd ps (spU K 2 C) ∧ Binds K fd ps [] ∧ MulK K (He.ga K cn) f r
structure RMulF (P : Program) (wd : World) (K : PySem.W.Frag) (mg : Str → Option Value) (base : Heap) (cn : Str) (k : Nat) (C : Ct) : Prop where
  ex : ∃ f r fd ps, FnOk P wd K mg base (L2.CX P wd) k r fd ps (spU K 2 C) ∧ Binds K fd ps [] ∧ MulK K (He.ga K cn) f r
def eOwn2 (y : Xn → Xn) (cn : Str) (C : Ct) (wa wb : WE) : WE := fun x η n R => wa x η n fun a n1 => wb x η n1 fun b n2 => isIns cn a ∧ isIns cn b ∧ C (y x) [a, b] n2 R
def eMulI (y : Xn → Xn) (cn : Str) (C : Ct) (wa wb : WE) : WE := fun x η n R => wa x η n fun a n1 => wb x η n1 fun b n2 => isIns cn a ∧ isInt b ∧ C (y x) [a, b] n2 R
def eRMulI (y : Xn → Xn) (cn : Str) (C : Ct) (wa wb : WE) : WE := fun x η n R => wa x η n fun a n1 => wb x η n1 fun b n2 => isInt a ∧ isIns cn b ∧ C (y x) [b, a] n2 R
section
variable {X : Cx} {E : XK} {pos p : Pos} {a b e : Expr} {wa wb w : WE} {cn : Str} {C : Ct} {j k : Nat}
theorem ins_at {c : Cf} {v : V} {d : D} (ok : c.Ok) (r : RP X.K c v d) (i : isIns cn d) : ∃ p dx fs, v = .ref p ∧ c.H p = some (.ins (He.ga X.K cn) dx fs) := by
  cases d <;> first | exact i.elim | skip
  cases i
  cases r with
  | ins f l r => exact ⟨_, _, _, rfl, ok.sub _ _ f⟩
theorem int_at {c : Cf} {v : V} {d : D} (r : RP X.K c v d) (i : isInt d) : ∃ n, v = .int n := by
  cases d <;> first | exact i.elim | skip
  cases r
  exact ⟨_, rfl⟩
/-- how the exceptions are told -/
structure YX (X : Cx) (E E' : XK) (y : Xn → Xn) : Prop where
  p : Passes (L2.CX X.prog X.w) X E'
  w : ∀ x (c : Cf), XW X.K E x (fun _ => False) c → XW X.K E' (y x) (fun _ => False) c
theorem yx_R (tk : TkE X E) : YX X E E yR := ⟨tk.pass, fun _ _ h => h⟩
theorem yx_N : YX X E E0 yN := ⟨pass_E0, fun _ _ _ => XW.no⟩
theorem sp_at {E' : XK} {y : Xn → Xn} {m : Nat} {c c1 : Cf} {x : Xn} {ds : List D} {vs : List V} {R : D → Nat → Prop} {Q : VK} (Y : YX X E E' y) (l : Le c c1) (ok : c1.Ok) (hT : c1.T = TK X.K) (r : RPL X.K c1 vs ds) (hl : ds.length = m) (hC : C (y x) ds c1.n R)
    (hr : ∀ d c' v, R d c'.n → c'.Ok → Le c c' → RP X.K c' v d → Q v c'.H) (hx : XW X.K E x (fun _ => False) c) : spU X.K m C vs c1.H Q E' :=
  ⟨c1, ds, R, y x, rfl, ok, hT, r, hl, hC, fun d c' v hd ok' l' r' => hr d c' v hd ok' (l.trans l') r', Y.w x c1 (hx.le l)⟩
theorem q_own2 {op : Operator} {E' : XK} {y : Xn → Xn} (O : OwnF X.prog X.w X.K X.mg X.base cn op.info.2 j C) (Y : YX X E E' y) (hr : Room k X.A) (hj : j ≤ k) (ha : PE X a (up X.K E wa)) (hb : PE X b (up X.K E wb)) : PE X (.BinOp a op b pos) (up X.K E (eOwn2 y cn C wa wb)) := by
  obtain ⟨f, fd, ps, F, bd, ok⟩ := O.ex
  refine pe_to (pe_op (op_own2 F ok bd (hr.mono hj) Y.p) ha hb) fun σ H Q q => ?_
  obtain ⟨c, η, R, x, e1, ok, en, hw, hr, hx⟩ := q
  refine ⟨c, η, _, x, e1, ok, en, hw, fun da c1 v h1 ok1 l1 r1 => ?_, hx⟩
  refine ⟨c1, η, _, x, rfl, ok1, en.le l1, h1, fun db c2 u h2 ok2 l2 r2 => ?_, hx.le l1⟩
  obtain ⟨i1, i2, hC⟩ := h2
  obtain ⟨p, dx, us, rfl, hp⟩ := ins_at ok2 (l2.rp r1) i1
  obtain ⟨q, dy, ws, rfl, hq⟩ := ins_at ok2 r2 i2
  exact ⟨p, q, dx, dy, us, ws, rfl, rfl, hp, hq, sp_at Y (l1.trans l2) ok2 ((l1.trans l2).T.trans en.T) (.cons (l2.rp r1) (.cons r2 .nil)) rfl hC hr hx⟩
theorem q_mulI {E' : XK} {y : Xn → Xn} (O : MulF X.prog X.w X.K X.mg X.base cn j C) (Y : YX X E E' y) (hr : Room k X.A) (hj : j ≤ k) (ha : PE X a (up X.K E wa)) (hb : PE X b (up X.K E wb)) : PE X (.BinOp a .Mult b pos) (up X.K E (eMulI y cn C wa wb)) := by
  obtain ⟨f, r, fd, ps, F, bd, ok⟩ := O.ex
  refine pe_to (pe_op (op_mulI F ok bd (hr.mono hj) Y.p) ha hb) fun σ H Q q => ?_
  obtain ⟨c, η, R, x, e1, ok, en, hw, hr, hx⟩ := q
  refine ⟨c, η, _, x, e1, ok, en, hw, fun da c1 v h1 ok1 l1 r1 => ?_, hx⟩
  refine ⟨c1, η, _, x, rfl, ok1, en.le l1, h1, fun db c2 u h2 ok2 l2 r2 => ?_, hx.le l1⟩
  obtain ⟨i1, i2, hC⟩ := h2
  obtain ⟨p, dx, us, rfl, hp⟩ := ins_at ok2 (l2.rp r1) i1
  obtain ⟨n, rfl⟩ := int_at r2 i2
  exact ⟨p, dx, us, n, rfl, rfl, hp, sp_at Y (l1.trans l2) ok2 ((l1.trans l2).T.trans en.T) (.cons (l2.rp r1) (.cons r2 .nil)) rfl hC hr hx⟩
theorem q_rmulI {E' : XK} {y : Xn → Xn} (O : RMulF X.prog X.w X.K X.mg X.base cn j C) (Y : YX X E E' y) (hr : Room k X.A) (hj : j ≤ k) (ha : PE X a (up X.K E wa)) (hb : PE X b (up X.K E wb)) : PE X (.BinOp a .Mult b pos) (up X.K E (eRMulI y cn C wa wb)) := by
  obtain ⟨f, r, fd, ps, F, bd, ok⟩ := O.ex
  refine pe_to (pe_op (op_rmulI F ok bd (hr.mono hj) Y.p) ha hb) fun σ H Q q => ?_
  obtain ⟨c, η, R, x, e1, ok, en, hw, hr, hx⟩ := q
  refine ⟨c, η, _, x, e1, ok, en, hw, fun da c1 v h1 ok1 l1 r1 => ?_, hx⟩
  refine ⟨c1, η, _, x, rfl, ok1, en.le l1, h1, fun db c2 u h2 ok2 l2 r2 => ?_, hx.le l1⟩
  obtain ⟨i1, i2, hC⟩ := h2
  obtain ⟨n, rfl⟩ := int_at (l2.rp r1) i1
  obtain ⟨p, dx, us, rfl, hp⟩ := ins_at ok2 r2 i2
  exact ⟨p, dx, us, n, rfl, rfl, hp, sp_at Y (l1.trans l2) ok2 ((l1.trans l2).T.trans en.T) (.cons r2 (.cons (l2.rp r1) .nil)) rfl hC hr hx⟩
/-! own == against an int or a text -/
def isOth : D → Prop
  | .int _ => True
  | .str _ => True
  | _ => False
def rOwnO (C : Addr) (sp : Sp) : R2 := fun x y H Q => ∃ a dx fs, x = .ref a ∧ H a = some (.ins C dx fs) ∧ ((∃ n, y = .int n) ∨ ∃ z, y = .str z) ∧ sp [x, y] H Q E0
theorem op_ownO {k : Nat} {f C : Addr} {fd : FuncData} {ps : List Str} {sp : Sp} (F : FnOk X.prog X.w X.K X.mg X.base CX0 k f fd ps sp) (hi : PySem.W.notFirst X.K C (.type "int") = true) (hz : PySem.W.notFirst X.K C (.type "str") = true) (hs : PySem.W.findIn X.K (.ref C) "__eq__" = some (some (.ref f))) (hf : PySem.W.isFn X.K (.ref f) = true) (hb : Binds X.K fd ps []) (hr : Room k X.A) :
    OpR X (compareOp .Eq) (rOwnO C sp) := by
  intro pins s σ H x y v u Q I rx ry h
  obtain ⟨a, dx, fs, rfl, ha, hy, hsp⟩ := h
  cases rx
  obtain ⟨mA, J, _⟩ := ins_get I.hok ha
  obtain ⟨od, J, _⟩ := J.look
  obtain ⟨m, hF⟩ := I.fr
  show wpAny _ _ (richCompare .Eq _ _) _ _ _
  rcases hy with ⟨n, rfl⟩ | ⟨z, rfl⟩
  · obtain ⟨t, rfl⟩ := ry
    refine PySem.W.cmp_K (op := .Eq) (tb := .type "int") hr.units0 hF I.ok.mod.kin J (fun A Q E s' _ q => wpAny_pure q) hi hs hf ?_
    exact own_runX (E := E0) F hb hr rfl pass0 I (show Vals [V.ref a, V.int n] [Value.ref a, Value.int n t] from .cons rfl (.cons ⟨t, rfl⟩ .nil)) hsp fun v u H' s' I' rv qv => cmpBack_rel rv ⟨v, H', I', rv, qv⟩
  · obtain ⟨t, rfl⟩ := ry
    refine PySem.W.cmp_K (op := .Eq) (tb := .type "str") hr.units0 hF I.ok.mod.kin J (fun A Q E s' _ q => wpAny_pure q) hz hs hf ?_
    exact own_runX (E := E0) F hb hr rfl pass0 I (show Vals [V.ref a, V.str z] [Value.ref a, Value.str z t] from .cons rfl (.cons ⟨t, rfl⟩ .nil)) hsp fun v u H' s' I' rv qv => cmpBack_rel rv ⟨v, H', I', rv, qv⟩
def oOwnO (cn : Str) (C : Ct) : O2 := fun a b k => isIns cn a ∧ isOth b ∧ ∀ n, C xNo [a, b] n fun d n' => n' = n ∧ k d
theorem opd_ownO : OpD X (rOwnO (He.ga X.K cn) (spU X.K 2 C)) (oOwnO cn C) := by
  intro c v u a b k Q ok hT ra rb h hQ
  obtain ⟨i1, i2, hC⟩ := h
  have ra' : RP X.K c v a := by
    cases ra with
    | fz h => exact h
    | ow ev ed h hf hd r => subst ed; exact i1.elim
  have rb' : RP X.K c u b := by
    cases rb with
    | fz h => exact h
    | ow ev ed h hf hd r => subst ed; exact i2.elim
  obtain ⟨p, dx, us, rfl, hp⟩ := ins_at ok ra' i1
  refine ⟨p, dx, us, rfl, hp, ?_, c, [a, b], _, xNo, rfl, ok, hT, .cons ra' (.cons rb' .nil), rfl, hC c.n, fun d c' v hd ok' l' rd => hQ d c' v hd.2 hd.1 ok' l' rd, XW.no⟩
  cases b <;> first | exact i2.elim | skip
  · cases rb'; exact .inl ⟨_, rfl⟩
  · cases rb'; exact .inr ⟨_, rfl⟩
structure OwnO (K : PySem.W.Frag) (cn : Str) : Prop where
  i : PySem.W.notFirst K (He.ga K cn) (.type "int") = true
  s : PySem.W.notFirst K (He.ga K cn) (.type "str") = true
theorem q_ownO (N : OwnO X.K cn) (O : OwnOp X.prog X.w X.K X.mg X.base cn "__eq__" j C) (hr : Room k X.A) (hj : j ≤ k) (ha : PE X a (upB X.K E wa)) (hb : PE X b (upB X.K E wb)) (hm : behindInMarks .Eq b = false) : PE X (.Compare a [.Eq] [b] pos) (up X.K E (eBin (oOwnO cn C) wa wb)) := by
  obtain ⟨f, fd, ps, F, hs, hf, b⟩ := O.ex
  exact q_cmp (op_ownO F N.i N.s hs hf b (hr.mono hj)) opd_ownO ha hb hm
theorem qt_ownO (N : OwnO X.K cn) (O : OwnOp X.prog X.w X.K X.mg X.base cn "__eq__" j C) (hr : Room k X.A) (hj : j ≤ k) (ha : PE X a (upB X.K E wa)) (hb : PE X b (upB X.K E wb)) (hm : behindInMarks .Eq b = false) : PT X (.Compare a [.Eq] [b] pos) (upT X.K E (wTest (eBin (oOwnO cn C) wa wb))) := by
  obtain ⟨f, fd, ps, F, hs, hf, b⟩ := O.ex
  exact qt_cmp (op_ownO F N.i N.s hs hf b (hr.mono hj)) opd_ownO ha hb hm
/-! str(x) by the class's own __str__ -/
structure StrF (P : Program) (wd : World) (K : PySem.W.Frag) (mg : Str → Option Value) (base : Heap) (cn : Str) (k : Nat) (C : Ct) : Prop where
  ex : ∃ f fd ps, FnOk P wd K mg base CX0 k f fd ps (spU K 1 C) ∧ Binds K fd ps [] ∧ PySem.W.findIn K (.ref (He.ga K cn)) "__str__" = some (some (.ref f)) ∧ PySem.W.isFn K (.ref f) = true
def rStrO (C : Addr) (sp : Sp) : List V → Hp → VK → Prop := fun xs H Q => ∃ a dx fs, xs = [.ref a] ∧ H a = some (.ins C dx fs) ∧ sp [.ref a] H (fun v H' => ∃ z, v = .str z ∧ Q v H') E0
theorem call_strO {k : Nat} {f C : Addr} {fd : FuncData} {ps : List Str} {sp : Sp} (F : FnOk X.prog X.w X.K X.mg X.base CX0 k f fd ps sp) (hs : PySem.W.findIn X.K (.ref C) "__str__" = some (some (.ref f))) (hf : PySem.W.isFn X.K (.ref f) = true) (hb : Binds X.K fd ps []) (hr : Room (k + 2) X.A) :
    CallR X (.type "str") (rStrO C sp) := by
  intro pins s σ H xs us Q I r h
  obtain ⟨a, dx, fs, rfl, ha, hsp⟩ := h
  cases r with
  | cons r1 r2 =>
    cases r2
    cases r1
    obtain ⟨mA, J, _⟩ := ins_get I.hok ha
    obtain ⟨od, J, _⟩ := J.look
    refine PySem.W.kso_call (by have := hr.in1.in1.un; omega) I.kIn J hs hf ?_
    refine own_runX (E := E0) F hb hr.in1.in1 rfl pass0 I (show Vals [V.ref a] [Value.ref a] from .cons rfl .nil) hsp fun v u H' s' I' rv qv => ?_
    obtain ⟨z, rfl, q⟩ := qv
    obtain ⟨t, rfl⟩ := rv
    exact ⟨.str z, H', I', ⟨t, rfl⟩, q⟩
def isStr : D → Prop
  | .str _ => True
  | _ => False
def eStrO (cn : Str) (C : Ct) (w : WA) : WE := fun x η n R => w x η n fun ds n1 => match ds with
  | [a] => isIns cn a ∧ C xNo [a] n1 fun d n2 => isStr d ∧ R d n2
  | _ => False
theorem q_strO {w : WA} (O : StrF X.prog X.w X.K X.mg X.base cn j C) (hr : Room k X.A) (hj : j + 2 ≤ k) (hg : Gl X "str") (hm : X.mg "str" = none) (ha : PA X [e] (upA X.K E w)) (hs : starEach [e] X.env = [(false, eval e X.env)] := by rfl) : PE X (.Call (.Name "str" p) [e] [] pos) (up X.K E (eStrO cn C w)) := by
  obtain ⟨f, fd, ps, F, bd, h1, h2⟩ := O.ex
  refine pe_to (pe_callTy (call_strO F h1 h2 bd (hr.mono hj)) hg hm (by decide +kernel) ha (by decide) (by decide) hs rfl) fun σ H Q q => ?_
  obtain ⟨c, η, R, x, e1, ok, en, hw, hr, hx⟩ := q
  refine ⟨c, η, _, x, e1, ok, en, hw, fun ds c1 vs h1 ok1 l1 r1 => ?_, hx⟩
  match ds, r1, h1 with
  | [a], .cons ra .nil, ⟨i1, hC⟩ =>
    obtain ⟨p, dx, us, rfl, hp⟩ := ins_at ok1 ra i1
    refine ⟨p, dx, us, rfl, hp, c1, [a], _, xNo, rfl, ok1, l1.T.trans en.T, .cons ra .nil, rfl, hC, fun d c2 v hd ok2 l2 r2 => ?_, XW.no⟩
    obtain ⟨i2, hd⟩ := hd
    cases d <;> first | exact i2.elim | skip
    cases r2
    exact ⟨_, rfl, hr _ c2 _ hd ok2 (l1.trans l2) (.str _)⟩
end
end DL
set_option maxHeartbeats 2000000
/-! ### classmethods, making by keywords, making by a class in a local name with a starred list -/
namespace DL
open PySem PySem.Spec PyProof.Rows L2
/-- a classmethod's def: the class ahead of the data -/
def spC (K : PySem.W.Frag) (cn : Str) (m : Nat) (C : Ct) : Sp := fun vs H Q E => ∃ us, vs = .ref (He.ga K cn) :: us ∧ spU K m C us H Q E
section
variable {K : PySem.W.Frag} {cn : Str} {m : Nat} {C : Ct} {vs : List V} {H : Hp} {Q : VK} {E : XK} {N : List Str} {w : WS}
theorem spC_len (h : spC K cn m C vs H Q E) : vs.length = m + 1 := by
  obtain ⟨us, rfl, h⟩ := h
  rw [List.length_cons, spU_len h]
theorem cls_up (hN : m + 1 ≤ N.length) (h : spC K cn m C vs H Q E) (hw : ∀ x ds n R, ds.length = m → C x ds n R → w x { nx := fun _ n => R .non n, rt := R } (.cl cn :: (ds.map Sl.dt ++ List.replicate (N.length - (m + 1)) Sl.un)) n) :
    upS K E w { nx := fun _ H' => Q .non H', rt := Q } (L2.start N vs) H := by
  obtain ⟨us, rfl, c, ds, R, x, e1, ok, hT, r, hl, hc, hr, hx⟩ := h
  have enu : EnvOk K c (L2.start N (.ref (He.ga K cn) :: us)) (Sl.cl cn :: (ds.map Sl.dt ++ List.replicate (N.length - (m + 1)) Sl.un)) := by
    obtain ⟨n0, N', rfl⟩ : ∃ n0 N', N = n0 :: N' := by
      cases N with
      | nil => simp at hN
      | cons a b => exact ⟨a, b, rfl⟩
    have en := env_start (K := K) (c := c) (N := N') hT r
    rw [hl] at en
    have el : (n0 :: N').length - (m + 1) = N'.length - m := by simp
    rw [el]
    have es : L2.start (n0 :: N') (.ref (He.ga K cn) :: us) = some (.ref (He.ga K cn)) :: L2.start N' us := by
      unfold L2.start
      simp
    rw [es]
    refine ⟨by simp [en.len], fun i s h => ?_, fun i j s t a h1 h2 g1 g2 h3 h4 => ?_, hT⟩
    · cases i with
      | zero =>
        simp at h
        subst h
        exact ⟨_, rfl, rfl⟩
      | succ i => exact en.sl i s (by simpa using h)
    · cases i with
      | zero =>
        simp at h1
        subst h1
        cases g1
      | succ i =>
        cases j with
        | zero =>
          simp at h2
          subst h2
          cases g2
        | succ j => exact congrArg Nat.succ (en.inj i j s t a (by simpa using h1) (by simpa using h2) g1 g2 (by simpa using h3) (by simpa using h4))
  have no : ∀ a, ¬ Owned (L2.start N (.ref (He.ga K cn) :: us)) (Sl.cl cn :: (ds.map Sl.dt ++ List.replicate (N.length - (m + 1)) Sl.un)) a := fun a ⟨i, s, h1, h2, _⟩ => by
    have hm : s ∈ (Sl.cl cn :: (ds.map Sl.dt ++ List.replicate (N.length - (m + 1)) Sl.un)) := List.mem_of_getElem? h1
    rcases List.mem_cons.mp hm with rfl | hm
    · cases h2
    · rcases List.mem_append.mp hm with hm | hm
      · obtain ⟨d, _, rfl⟩ := List.mem_map.mp hm
        cases h2
      · rw [(List.mem_replicate.mp hm).2] at h2
        cases h2
  have le : ∀ {c' : Cf}, LeO (Owned (L2.start N (.ref (He.ga K cn) :: us)) (Sl.cl cn :: (ds.map Sl.dt ++ List.replicate (N.length - (m + 1)) Sl.un))) c c' → Le c c' := fun l => ⟨l.dr, l.f, fun a o h1 _ h3 => l.h a o h1 (fun z => no a z) h3, fun a o h1 _ h3 h4 => l.fr a o h1 (fun z => no a z) h3 h4, l.hd, l.T⟩
  refine ⟨c, _, { nx := fun _ n => R .non n, rt := R }, x, e1, ok, enu, hw x ds c.n R hl hc, fun η' c' σ' hn ok' l' _ _ => hr _ c' _ hn ok' (le l') .non, fun d c' v hn ok' l' rp => hr d c' v hn ok' (le l') rp, fun η' c' σ' hn _ _ _ _ => hn.elim, fun η' c' σ' hn _ _ _ _ => hn.elim, fun d c' cls od hxx ok' l' xo => hx d c' cls od hxx ok' (le l') xo⟩
end
section
variable {P : Program} {wd : World} {K : PySem.W.Frag} {mg : Str → Option Value} {base : Heap} {x qual : Str} {params : Arguments} {body : List Stmt} {scope : Scope} {dvs : List V} {kws : List (Str × V)} {N : List Str} {w : WS} {f : Addr} {fd : FuncData} {m k : Nat} {ps : List Str} {cn : Str}
theorem fn_clsX {C : Ct} (F : FunD K x qual params body scope dvs kws f fd) (S : FnScope N ps scope) (hps : ps.length = m + 1) (hN : m + 1 ≤ N.length)
    (hb : ∀ (cdv : Value) (A : Around) (outer : List Env) (s : Shared) (H : Hp) (E : XK), Room k (A.deeper (envOfC qual scope s.heap.objs.size f cdv)) → TkE (cxOf (L2.CX P wd) P wd K mg base N qual scope f cdv A outer s H E) E → PSs (cxOf (L2.CX P wd) P wd K mg base N qual scope f cdv A outer s H E) body (upS K E w))
    (hw : ∀ x ds n R, ds.length = m → C x ds n R → w x { nx := fun _ n => R .non n, rt := R } (.cl cn :: (ds.map Sl.dt ++ List.replicate (N.length - (m + 1)) Sl.un)) n) : FnOk P wd K mg base (L2.CX P wd) (k + 1) f fd ps (spC K cn m C) :=
  F.ok S (fun vs H Q E h => (spC_len h).trans hps.symm) fun cdv A outer s H vs Q E hr h => ⟨_, hb cdv A outer s H E hr (takes_of rfl rfl rfl rfl), cls_up hN h hw⟩
end
/-- Cn.mt(..) -/
structure CMethF (P : Program) (wd : World) (K : PySem.W.Frag) (mg : Str → Option Value) (base : Heap) (cn mt : Str) (m k : Nat) (ks : List Str) (pm : List Nat) (C : Ct) : Prop where
  ex : ∃ p g fd ps mc, FnOk P wd K mg base (L2.CX P wd) k g fd ps (spC K cn m C) ∧ Binds K fd ps [] ∧ KBn K fd ps 1 ks (gP .none pm) (gP .non pm) ∧ ClX.CRead K (He.ga K cn) mc ∧ ClX.CMet K (He.ga K cn) mc mt p g ∧ mg cn = some (.ref (He.ga K cn))
def eCMeth (y : Xn → Xn) (m : Nat) (C : Ct) (w : WA) : WE := fun x η n R => w x η n fun ds n1 => ds.length = m ∧ C (y x) ds n1 R
section
variable {X : Cx} {E E' : XK} {y : Xn → Xn} {pos apos p : Pos} {e : Expr} {es : List Expr} {w : WA} {cn mt : Str} {C : Ct} {j k m : Nat} {ks : List Str} {pm : List Nat} {pl : Sem Bool} {kws : List Keyword}
theorem q_cm (O : CMethF X.prog X.w X.K X.mg X.base cn mt m j ks pm C) (Y : YX X E E' y) (hr : Room k X.A) (hj : j ≤ k) (hg : Gl X cn) (ha : PA X (e :: es) (upA X.K E w)) (hdb : (cn == ("__debug__" : Str)) = false := by decide)
    (hst : starEach (e :: es) X.env = (false, eval e X.env) :: starEach es X.env := by rfl) (hpl : (backTo pos (starEach es X.env)).any (·.1) = false := by rfl)
    (ht : eval (.Call (.Attribute (.Name cn p) mt apos) (e :: es) [] pos) X.env = (do
      let ov ← eval (.Name cn p) X.env
      standAt apos.atName
      let (f, first) ← holding [ov] (getMethod ov mt pl)
      callWith pos f first (backTo pos (starEach (e :: es) X.env)) (backToKw pos (keywordEach [] X.env))) := by rfl) :
    PE X (.Call (.Attribute (.Name cn p) mt apos) (e :: es) [] pos) (up X.K E (eCMeth y m C w)) := by
  obtain ⟨p, g, fd, ps, mc, F, b, kb, cr, cm, hm⟩ := O.ex
  refine pe_to (ClX.pe_cmeth (pl := pl) (pe_glob (v := .ref (He.ga X.K cn)) hg hm rfl hdb) cr cm (F.raw b .nil) (hr.mono hj) Y.p ha hst hpl ht) fun σ H Q q => ?_
  obtain ⟨c, η, R, x, e1, ok, en, hw, hr, hx⟩ := q
  refine ⟨rfl, c, η, _, x, e1, ok, en, hw, fun ds c1 vs h1 ok1 l1 r1 => ?_, hx⟩
  show spC X.K cn m C (.ref (He.ga X.K cn) :: vs ++ []) c1.H Q E'
  rw [List.append_nil]
  exact ⟨vs, rfl, sp_at Y l1 ok1 (l1.T.trans en.T) r1 h1.1 h1.2 hr hx⟩
theorem run_cmK {CX : CXT} {q g C0 : Addr} {fd : FuncData} {ps : List Str} {sp : Sp} {Q : VK} {ws : List Value} {zs : List V} {gg : List Value → List Value → List Value} {gV : List V → List V → List V} {pins : List (Addr × Obj)} {σ : L2.St} {H : Hp} {s : Shared}
    (F : FnOk X.prog X.w X.K X.mg X.base CX k g fd ps sp) (hb : KBn X.K fd ps 1 ks gg gV) (hr : Room k X.A) (hx : Passes CX X E) (I : Inv X ((q, PySem.W.methodObj (.ref g) (.ref C0)) :: pins) σ H s) (rz : Vals zs ws) (hl : zs.length = ks.length) (h : sp (gV [.ref C0] zs) H Q E) :
    wpAny (model X.prog X.w) X.A (call (.ref q) [] (ks.zip ws)) (EP X pins σ Q) X.xe s := by
  have z : wpAny (model X.prog X.w) X.A (call (.ref q) [] (ks.zip ws)) (EP X ((q, PySem.W.methodObj (.ref g) (.ref C0)) :: pins) σ Q) X.xe s := by
    refine wpAny_call (PySem.W.method_call (ClX.pin_at I) ?_)
    refine codeAny_mono (F.run X.A X.stack s H ⟨[.ref C0], ks.zip ws⟩ (gg [.ref C0] ws) (gV [.ref C0] zs) Q E hr I.env0 (hb.to s [.ref C0] ws I.kIn rfl (rz.length.symm.trans hl)) (hb.rel (show Vals [V.ref C0] [Value.ref C0] from .cons rfl .nil) rz) h) fun r s' hq => ?_
    cases r with
    | error e => exact hx _ σ H s e s' I hq
    | ok fl =>
      cases fl with
      | ret u => exact I.after hq
      | next => exact False.elim hq
      | brk => exact False.elim hq
      | cont => exact False.elim hq
  exact thn z fun _ _ y => ClX.unpinE y
def eCMethK (y : Xn → Xn) (m l : Nat) (C : Ct) (w : WA) : WE := fun x η n R => w x η n fun ds n1 => ds.length = l ∧ ds.length = m ∧ C (y x) ds n1 R
theorem q_cmK {w : WA} (O : CMethF X.prog X.w X.K X.mg X.base cn mt m j ks (List.range (m + 1)) C) (Y : YX X E E' y) (hr : Room k X.A) (hj : j ≤ k) (hg : Gl X cn) (hkw : PK X kws (upA X.K E w)) (hdb : (cn == ("__debug__" : Str)) = false := by decide)
    (hall : (backToKw pos (keywordEach kws X.env)).all (·.1.isSome) = true := by rfl) (hks : (backToKw pos (keywordEach kws X.env)).filterMap (·.1) = ks := by rfl)
    (hpl : ((backTo pos (starEach [] X.env)).any (·.1) || (backToKw pos (keywordEach kws X.env)).any (·.1.isNone)) = false := by rfl)
    (ht : eval (.Call (.Attribute (.Name cn p) mt apos) [] kws pos) X.env = (do
      let ov ← eval (.Name cn p) X.env
      standAt apos.atName
      let (f, first) ← holding [ov] (getMethod ov mt pl)
      callWith pos f first (backTo pos (starEach [] X.env)) (backToKw pos (keywordEach kws X.env))) := by rfl) :
    PE X (.Call (.Attribute (.Name cn p) mt apos) [] kws pos) (up X.K E (eCMethK y m ks.length C w)) := by
  obtain ⟨pa, g, fd, ps, mc, F, b, kb, cr, cm, hm⟩ := O.ex
  refine ⟨fun pins s σ H Q I h => ?_⟩
  refine PySem.W.methodCall_KW (pl := pl) (ld_glob I hg hm ?_ hdb) ht
  refine ClX.getmethcm_ok I cr cm fun s2 I2 => ?_
  refine PySem.W.callWith_of hpl (PySem.W.keeps_M (q := s.heap.objs.size) (self := .ref (He.ga X.K cn)) cm.fi) (evalArgs_kw2_nil hall ?_)
  obtain ⟨c, η, R, x, e1, ok, en, hw, hr', hx⟩ := h
  refine thn (hkw.run pos _ s2 σ H (fun zs H2 => zs.length = ks.length ∧ spC X.K cn m C (gP .non (List.range (m + 1)) [.ref (He.ga X.K cn)] zs) H2 Q E') I2 ⟨c, η, _, x, e1, ok, en, hw, fun ds c1 vs h1 ok1 l1 r1 => ?_, hx⟩) fun ws s3 ⟨zs, H2, I3, rz, l1, q2⟩ => ⟨⟨ClX.pin_at I3, I3.kIn⟩, ?_⟩
  · obtain ⟨e2, e3, hC⟩ := h1
    have hv : vs.length = m := by rw [r1.length]; exact e3
    refine ⟨by rw [r1.length]; exact e2, vs, ?_, sp_at Y l1 ok1 (l1.T.trans en.T) r1 e3 hC hr' hx⟩
    unfold gP
    apply List.ext_getElem
    · simp [hv]
    · intro i h1 h2
      cases i with
      | zero => simp
      | succ i =>
        have hlt : i < vs.length := by simpa using h2
        simp [List.getElem?_eq_getElem hlt]
  · rw [hks]
    exact run_cmK F kb (hr.mono hj) Y.p I3 rz l1 q2
/-! ### C(k = v, ..) that may raise -/
def MkrKX (P : Program) (wd : World) (K : PySem.W.Frag) (mg : Str → Option Value) (base : Heap) (cn : Str) (ps : List Str) (m k : Nat) (C : Ci) (ks : List Str) (pm : List Nat) : Prop :=
  ∃ f fd, L2.Mk K (He.ga K cn) f ∧ FnOk P wd K mg base (L2.CX P wd) k f fd ps (spI K cn m C) ∧ KBn K fd ps 1 ks (gP .none pm) (gP .non pm) ∧ mg cn = some (.ref (He.ga K cn))
def eMakeK (y : Xn → Xn) (cn : Str) (m l : Nat) (C : Ci) (pm : List Nat) (w : WA) : WE := fun x η n R => w x η n fun ds n1 => ds.length = l ∧ pm.length = m ∧ pm.all (fun i => i < l) = true ∧ C (y x) (gP .non pm [] ds) n1 fun ns fs n2 => R (.ins cn ns fs) n2
theorem gP_shift (v : V) (zs : List V) : ∀ pm : List Nat, pm.all (fun i => i < zs.length) = true → gP .non (0 :: pm.map (· + 1)) [v] zs = v :: gP .non pm [] zs := fun pm h => by
  unfold gP
  simp
theorem q_mkK {w : WA} {Ck : Ci} {ps : List Str} (M : MkrKX X.prog X.w X.K X.mg X.base cn ps m j Ck ks (0 :: pm.map (· + 1))) (Y : YX X E E' y) (hr : Room k X.A) (hj : j + 1 ≤ k) (hg : Gl X cn) (hkw : PK X kws (upA X.K E w)) (hdb : (cn == ("__debug__" : Str)) = false := by decide)
    (hall : (backToKw pos (keywordEach kws X.env)).all (·.1.isSome) = true := by rfl) (hks : (backToKw pos (keywordEach kws X.env)).filterMap (·.1) = ks := by rfl)
    (hpl : ((backTo pos (starEach [] X.env)).any (·.1) || (backToKw pos (keywordEach kws X.env)).any (·.1.isNone)) = false := by rfl) :
    PE X (.Call (.Name cn p) [] kws pos) (up X.K E (eMakeK y cn m ks.length Ck pm w)) := by
  obtain ⟨f, fd, mk, F, b, g⟩ := M
  refine pe_to (pe_makeK0 mk F (hr.mono hj) hg g b Y.p hkw hall hks hdb hpl) fun σ H Q q => ?_
  obtain ⟨c, η, R, x, e1, ok, en, hw, hr, hx⟩ := q
  refine ⟨c, η, _, x, e1, ok, en, hw, fun ds c1 vs hc ok1 l1 rp => ?_, hx⟩
  obtain ⟨h1, h2, h3, h4⟩ := hc
  refine ⟨rfl, by rw [rp.length]; exact h1, fun p dx hp hdx hne => ?_⟩
  show spI X.K cn m Ck (gP .non (0 :: pm.map (· + 1)) [.ref p] vs) _ _ _
  rw [gP_shift (.ref p) vs pm (by rw [rp.length, h1]; exact h3)]
  exact make_at (x := y x) (E' := E') .refl ok1 (l1.T.trans en.T) (gP_rpl .nil rp pm) (by simp [gP, h2]) h4 (fun d c' v hd ok' l' r' => hr d c' v hd ok' (l1.trans l') r') (Y.w x c1 (hx.le l1)) p dx hp hdx hne
/-! ### cls(*numbers) -/
def eMkS (y : Xn → Xn) (i : Nat) (cn : Str) (m : Nat) (C : Ci) (dds : List D) (we : WE) : WE := fun x η n R => η[i]? = some (.cl cn) ∧ we x η n fun d n1 => match d with
  | .lst xs => if xs.length = m then C (y x) xs n1 fun ns fs n2 => R (.ins cn ns fs) n2 else (xs ++ dds).length = m ∧ C (y x) (xs ++ dds) n1 fun ns fs n2 => R (.ins cn ns fs) n2
  | _ => False
theorem lst_at {K : PySem.W.Frag} {c : Cf} {v : V} {xs : List D} (ok : c.Ok) (r : RB K c v (.lst xs)) : ∃ p vs, v = .ref p ∧ c.H p = some (.lst vs) ∧ RPL K c vs xs := by
  cases r with
  | fz h =>
    cases h with
    | lst f r => exact ⟨_, _, rfl, ok.sub _ _ f, r⟩
  | ow ev ed h hf hd r =>
    cases ed
    exact ⟨_, _, ev, h, r⟩
theorem q_mkS {nm : Str} {i : Nat} {we : WE} {Ck : Ci} {ps : List Str} {dds : List D} {sp_ : Pos} (M0 : MkrX X.prog X.w X.K X.mg X.base cn ps m j Ck []) (M1 : MkrX X.prog X.w X.K X.mg X.base cn ps m j Ck dds) (Y : YX X E E' y) (hr : Room k X.A) (hj : j + 1 ≤ k) (hv : PE X (.Name nm p) (tVar i)) (he : PE X e (upB X.K E we))
    (hst : starEach [.Starred e sp_] X.env = [(true, eval e X.env)] := by rfl) :
    PE X (.Call (.Name nm p) [.Starred e sp_] [] pos) (up X.K E (eMkS y i cn m Ck dds we)) := by
  refine ⟨fun pins s σ H Q I h => ?_⟩
  obtain ⟨c, η, R, x, rfl, ok, en, ⟨hi, hw⟩, hr', hx⟩ := h
  obtain ⟨o, ho, hs⟩ := en.sl i _ hi
  have hs : o = some (.ref (He.ga X.K cn)) := hs
  subst hs
  obtain ⟨f, fd, ds, dvs, mk, F, b, hd, hrp, g⟩ := M0
  obtain ⟨f', fd', ds', dvs', mk', F', b', hd', hrp', g'⟩ := M1
  refine wpAny_Call_Name_kw (thn (hv.run pins s σ c.H (fun v H1 => v = .ref (He.ga X.K cn) ∧ H1 = c.H) I ⟨_, ho, rfl, rfl⟩) fun u s1 ⟨v, H1, I1, rv, ev, eH⟩ => ?_)
  subst ev eH
  obtain rfl : u = Value.ref (He.ga X.K cn) := rv
  refine PySem.W.callWith_S (h₀ := X.base) I1.ok.mod.kin mk.kp (thn (he.run pins s1 σ c.H (fun v H1 => ∃ a xs, v = V.ref a ∧ (SqT X.K H1 a xs ∨ SqL X.K H1 a xs) ∧ ∃ c1 ds, c1.H = H1 ∧ c1.Ok ∧ Le c c1 ∧ RPL X.K c1 xs ds ∧ (if ds.length = m then Ck (y x) ds c1.n fun ns fs n2 => R (.ins cn ns fs) n2 else (ds ++ dds).length = m ∧ Ck (y x) (ds ++ dds) c1.n fun ns fs n2 => R (.ins cn ns fs) n2)) I1
    ⟨c, η, _, x, rfl, ok, en, hw, fun d c1 v hd ok1 l1 r1 => ?_, hx⟩) fun v s2 ⟨v', H2, I2, rv, a, xs, ev, hq, c1, ds, e1, ok1, l1, r1, hC⟩ => ?_) hst
  · cases d <;> first | exact hd.elim | skip
    obtain ⟨p, vs, rfl, hp, rp⟩ := lst_at ok1 r1
    exact ⟨p, vs, rfl, .inr (.of hp), c1, _, rfl, ok1, l1, rp, hd⟩
  · subst ev
    obtain rfl : v = Value.ref a := rv
    subst e1
    refine StX.star_any I2 hq fun us s3 I3 ru => ⟨I3.kIn, ?_⟩
    by_cases hl : ds.length = m
    · rw [if_pos hl] at hC
      cases dvs with
      | cons z1 z2 => exact absurd (hrp 0 (fun _ => none)).length (by simp)
      | nil =>
      refine StX.run_makeR (C := He.ga X.K cn) mk (F.raw b hd) (hr.mono hj) Y.p I3 ru fun p dx hp hdx hne => ?_
      show spI X.K cn m Ck (.ref p :: xs ++ []) _ _ _
      rw [List.append_nil]
      exact make_at (x := y x) (E' := E') .refl ok1 (l1.T.trans en.T) r1 hl hC (fun d c' v hd ok' l' r' => hr' d c' v hd ok' (l1.trans l') r') (Y.w x c1 (hx.le l1)) p dx hp hdx hne
    · rw [if_neg hl] at hC
      refine StX.run_makeR (C := He.ga X.K cn) mk' (F'.raw b' hd') (hr.mono hj) Y.p I3 ru fun p dx hp hdx hne => ?_
      exact make_at (x := y x) (E' := E') .refl ok1 (l1.T.trans en.T) (r1.append (hrp' _ _)) hC.1 hC.2 (fun d c' v hd ok' l' r' => hr' d c' v hd ok' (l1.trans l') r') (Y.w x c1 (hx.le l1)) p dx hp hdx hne
end
end DL
set_option maxHeartbeats 4000000
/-! ### said that tells the two numbers of a slack -/
namespace DL
open PySem PySem.Spec PyProof.Rows L2
section
variable {X : Cx}
theorem said_givesL {Ng : List Str} {x a e q fnd cgt : Str} {sg : Scope} {g : Addr} {cdg : Value} {x1 x2 x3 : Str} {c1 c2 c3 : Addr} {p1 p2 pf pa q1 q2 q3 pt pc pe pb pos' pos : Pos} {kt : Nat} {st0 : Stmt} {rest : List Stmt} {fin : TS} {l : List (Addr × Str)} {fv : V → Hp → VK → Prop}
    (hNd : Ng.Nodup) (hN4 : Ng.length = 4) (n2 : Ng[2]? = some fnd) (n1 : Ng[1]? = some cgt) (n3 : Ng[3]? = some e) (l1 : sg.names.lookup cgt = some .local) (l2 : sg.names.lookup fnd = some .local) (l3 : sg.names.lookup e = some .local)
    (g1 : sg.names.lookup x1 = some .globalImplicit) (m1 : X.mg x1 = some (.ref c1)) (g2 : sg.names.lookup x2 = some .globalImplicit) (m2 : X.mg x2 = some (.ref c2)) (g3 : sg.names.lookup x3 = some .globalImplicit) (m3 : X.mg x3 = some (.ref c3))
    (d1 : (x1 == ("__debug__" : Str)) = false) (d2 : (x2 == ("__debug__" : Str)) = false) (d3 : (x3 == ("__debug__" : Str)) = false)
    (h0 : ∀ (s : Shared) (H : Hp), PS (cxOf C8.CX0 X.prog X.w X.K X.mg X.base Ng x sg g cdg X.A X.stack s H C8.E0).nox st0 (tAsg (tTup (tCons (tC .non) (tCons (tC .non) tNil))) (gTup X.K 2 (gCons (gName 1) (gCons (gName 2) gNil)))))
    (hsu : ∀ (s : Shared) (H : Hp) (ad : Addr) (pn : List (Addr × Obj)), PSs ((cxOf C8.CX0 X.prog X.w X.K X.mg X.base Ng x sg g cdg X.A X.stack s H C8.E0).nox.suite ad pn) [.Assign [.Name cgt pc] (.Name e pe) pb] (tAsg (tVar 3) (gName 1)))
    (hset : ∀ (s : Shared) (H : Hp) (pn : List (Addr × Obj)) (xe : Value → Shared → Prop) (te : TE), PE ((cxOf C8.CX0 X.prog X.w X.K X.mg X.base Ng x sg g cdg X.A X.stack s H C8.E0).tr pn xe) (.Call (.Name a p1) [] [] p2) te → PS ((cxOf C8.CX0 X.prog X.w X.K X.mg X.base Ng x sg g cdg X.A X.stack s H C8.E0).tr pn xe) (.Assign [.Name fnd pf] (.Call (.Name a p1) [] [] p2) pa) (tAsg te (gName 2)))
    (hrest : ∀ (s : Shared) (H : Hp), PSs (cxOf C8.CX0 X.prog X.w X.K X.mg X.base Ng x sg g cdg X.A X.stack s H C8.E0).nox rest (tChain X.K fin l))
    (hk : ∀ p, p ∈ l → PySem.W.kitOne X.K (.type "NoneType") (.ref p.1) = some false)
    (hfin : ∀ (D : Ends) (σ : L2.St) (H : Hp) (v : V), σ.length = 4 → σ[1]? = some (some .non) → σ[2]? = some (some v) → fv v H D.rt → fin D σ H) :
    LamX.GivesTo X Ng x sg g cdg (st0 :: .Try [.Assign [.Name fnd pf] (.Call (.Name a p1) [] [] p2) pa] [.ExceptHandler (some (.Tuple [.Name x1 q1, .Name x2 q2, .Name x3 q3] kt pt)) (some e) [.Assign [.Name cgt pc] (.Name e pe) pb] pos'] [] [] pos :: rest) a q (TTs X.K [.ref c1, .ref c2, .ref c3] l fv) := by
  intro f c' s H Q tl act hc h
  refine ⟨_, pss_cons (h0 s H) (pss_cons (ps_try3 (X := (cxOf C8.CX0 X.prog X.w X.K X.mg X.base Ng x sg g cdg X.A X.stack s H C8.E0).nox) (i := 3) (ts := tAsg (tVar 3) (gName 1))
    (tb := fun W D σ H => σ.length = 4 ∧ ∃ Ech : XK, (∀ cls d σ' H', Ech cls d H' → σ'.length = 4 → W cls d σ' H') ∧ σ[0]? = some (some (.ref f)) ∧ H c' = some (LamX.CodeO c' q) ∧ tl Ech H fun v H1 => D.nx (σ.set 2 (some v)) H1)
    rfl rfl rfl hNd n3 l3 g1 m1 g2 m2 g3 m3 (fun W pn xe tk _ => ?_) (fun ad pn => hsu s H ad pn) d1 d2 d3) (hrest s H)), ?_⟩
  · constructor
    intro pins s' σ H' D I h'
    obtain ⟨_, Ech, hW, h1, h2, h3⟩ := h'
    have hp := act _ pn xe Ech p1 p2 (takes_len tk) (fun cls d σ' H' hE hl => hW cls d σ' H' hE (hl.trans hN4))
    exact (pss_one (hset s H pn xe _ hp)).run pins s' σ H' D I ⟨h1, h2, h3⟩
  · -- the pure part
    have hst : L2.start Ng [V.ref f] = [some (.ref f), none, none, none] := by
      unfold L2.start
      rw [hN4]
      rfl
    rw [hst]
    refine ⟨by show 2 ≤ sizeLine; decide, fun t ht => ⟨t, [.non, .non], rfl, .of upd_same, rfl, .non, [.non], rfl, .non, [], rfl, rfl, ?_⟩⟩
    refine ⟨rfl, fun cls d H' => ∃ E dd fs y z, cls = .ref E ∧ d = some dd ∧ H' dd = some (.xd fs) ∧ fs.lookup ("given" : Str) = some y ∧ ExQ X.K E ∧ PySem.W.findIn X.K (.ref E) "given" = some none ∧ PySem.W.exmAny X.K cls [.ref c1, .ref c2, .ref c3] = some true ∧ Hits X.K E l z ∧
      ∀ a p, H' a = none → upd H' a (ExV a cls d) p = none → Q (.ref p) (upd (upd H' a (ExV a cls d)) p (.lst [.str z, y])), fun cls d σ' H' hE hl => ⟨?_, fun ad had => ?_⟩, rfl, (by rw [upd_ne (ne_of_none hc ht)]; exact hc), ?_⟩
    rotate_left 2
    · refine h t ht _ fun v H1 hv => ?_
      exact chain_non (D := { nx := fun _ H' => Q .non H', rt := Q }) rfl (hfin { nx := fun _ H' => Q .non H', rt := Q } _ H1 v rfl rfl rfl hv) l hk
    · obtain ⟨E, dd, fs, y, z, rfl, rfl, h1, h2, h3, h4, h5, h6, h7⟩ := hE
      exact h5
    · obtain ⟨E, dd, fs, y, z, rfl, rfl, h1, h2, h3, h4, h5, h6, h7⟩ := hE
      -- behind the suite: caught is the exception
      have hlen : (((σ'.set 3 (some (V.ref ad))).set 1 (some (V.ref ad))).set 3 none).length = 4 := by simpa using hl
      refine ⟨.ref ad, by rw [List.getElem?_set_self (by omega)], ?_⟩
      refine chain_hit (v := .ref ad) (E := E) (fs := fs) (y := y) ?_ ⟨ad, dd, rfl, upd_same, ?_⟩ h3 h4 h2 h6 fun p hp => h7 ad p had hp
      · rw [List.getElem?_set_ne (by decide), List.getElem?_set_self (by simp; omega)]
      · rw [upd_ne (ne_of_none h1 had)]
        exact h1
end
/-- what becomes of the value: the list of its two fields -/
def twoF (cn n1 n2 : Str) (d : D) (k : D → D → Prop) : Prop := match d with
  | .ins c ns [a, b] => c = cn ∧ ns = [n1, n2] ∧ k a b
  | _ => False
def fvT (K : PySem.W.Frag) (cn n1 n2 : Str) : V → Hp → VK → Prop := fun v H Q => ∃ c a b, c.H = H ∧ c.Ok ∧ c.T = TK K ∧ RP K c v (.ins cn [n1, n2] [a, b]) ∧ ∀ c' v', c'.Ok → Le c c' → c'.n = c.n → RP K c' v' (.lst [a, b]) → Q v' c'.H
def eSaidT (cn n1 n2 : Str) (tag : Str → Option Str) (w : WE) : WE := fun x η n R => w (fun d n' => ∃ cn v z, d = .ins cn ["given"] [v] ∧ tag cn = some z ∧ R (.lst [.str z, v]) n') η n fun d n' => twoF cn n1 n2 d fun a b => R (.lst [a, b]) n'
theorem said_upT {K : PySem.W.Frag} {E : XK} {sn n1 n2 : Str} {tag : Str → Option Str} {cs : List Value} {l : List (Addr × Str)} {w : WE}
    (hD : ∀ cn z, tag cn = some z → ExQ K (He.ga K cn) ∧ PySem.W.findIn K (.ref (He.ga K cn)) "given" = some none ∧ PySem.W.exmAny K (.ref (He.ga K cn)) cs = some true ∧ Hits K (He.ga K cn) l z) :
    ∀ σ H Q, up K E (eSaidT sn n1 n2 tag w) σ H Q → LamX.tLam (TK K) (TTs K cs l (fvT K sn n1 n2)) (fun E' => up K E' w) σ H Q := fun σ H Q q => by
  obtain ⟨c, η, R, x, rfl, ok, en, hw, hr, hx⟩ := q
  refine ⟨by rw [← en.T]; exact ok.tb, fun H1 eN tb1 t ht Q' hQ' => ?_⟩
  have ok1 : (⟨c.dr, c.F, H1, c.n, c.T⟩ : Cf).Ok := by
    obtain ⟨ca, cells, a, l', u, e1, r1⟩ := ok.dw
    refine ⟨fun a o e => eN a o (ok.sub a o e) (fun ps z => ok.nt a ps (by rw [← z]; exact e)), ok.nf, ⟨ca, cells, a, l', u, eN _ _ e1 (by intro _ z; cases z), r1⟩, by show LamX.Tabs c.T H1; rw [en.T]; exact tb1, ok.nt⟩
  have l1 : Le c ⟨c.dr, c.F, H1, c.n, c.T⟩ := ⟨rfl, fun _ _ h => h, fun a o _ _ hz h => eN a o h hz, fun _ _ _ _ _ h _ => h, fun a o hz h => ⟨o, hz, eN a o h hz⟩, rfl⟩
  obtain ⟨okT, lT⟩ := ok1.newF (o := .tup [.non, .non]) ht
  replace l1 := l1.trans lT
  refine ⟨⟨c.dr, upd c.F t (.tup [.non, .non]), upd H1 t (.tup [.non, .non]), c.n, c.T⟩, η, _, _, rfl, okT, en.le l1, hw, fun d c' v hR ok' l' rp => ?_, fun d c' cls od hd ok' l' xo => ?_⟩
  · unfold twoF at hR
    split at hR
    · obtain ⟨rfl, rfl, hR⟩ := hR
      exact hQ' _ _ ⟨c', _, _, rfl, ok', (l1.trans l').T.trans en.T, rp, fun c2 v2 ok2 l2 hn r2 => hr _ c2 v2 (by rw [hn]; exact hR) ok2 ((l1.trans l').trans l2) r2⟩
    · exact hR.elim
  · obtain ⟨cn, v, z, rfl, ht, hR⟩ := hd
    obtain ⟨k, ns, fs, dd, vs, e1, rfl, rfl, hF, hl, rp⟩ := xo
    cases e1
    obtain ⟨h1, h2, h3, h4⟩ := hD _ _ ht
    match vs, hl with
    | [y], _ =>
    refine ⟨_, dd, [(("given" : Str), y)], y, z, rfl, rfl, ok'.sub _ _ hF, by simp [List.lookup], h1, h2, h3, h4, fun a p ha hp => ?_⟩
    obtain ⟨okA, lA, _, _⟩ := ok'.newH (o := ExV a (.ref (He.ga K cn)) (some dd)) ha
    obtain ⟨okB, lB⟩ := okA.newF (o := .lst [.str z, y]) hp
    cases rp with
    | cons ry rn =>
      exact hr (.lst [.str z, v]) ⟨c'.dr, upd c'.F p (.lst [.str z, y]), upd (upd c'.H a (ExV a (.ref (He.ga K cn)) (some dd))) p (.lst [.str z, y]), c'.n, c'.T⟩ (.ref p) hR okB (((l1.trans l').trans lA).trans lB) (.lst upd_same (.cons (.str z) (.cons ((lA.trans lB).rp ry) .nil)))
/-- what the text's 'said' is, whoever calls it, with k levels left -/
def SaidT (P : Program) (wd : World) (K : PySem.W.Frag) (mg : Str → Option Value) (base : Heap) (kk : Nat) (fv : V → Hp → VK → Prop) (cs : List Value) (l : List (Addr × Str)) : Prop :=
  ∃ (g : Addr) (pg : Arguments) (bg : List Stmt) (sg : Scope) (dV kV doc pm cdv ct oc : Value) (an od : Option Addr) (osl : Array (Option Value)) (Ng : List Str) (a : Str), mg "_law_said" = some (.ref g) ∧ PySem.W.keepIn K (.ref g) = true ∧
    K.lookup g = some ⟨oc, od, .func (PySem.W.fnOf "_law_said" "_law_said" pg bg sg dV kV doc pm an cdv ct), osl⟩ ∧ PySem.W.codeIn K cdv "_law_said" = true ∧ L2.Binds K (PySem.W.fnOf "_law_said" "_law_said" pg bg sg dV kV doc pm an cdv ct) [a] [] ∧
    FnScope Ng [a] sg ∧ Ng[0]? = some a ∧ Vis sg a ∧ (a == ("__debug__" : Str)) = false ∧ (a == ("__classdict__" : Str)) = false ∧
    ∀ X : Cx, X.prog = P → X.w = wd → X.K = K → X.mg = mg → X.base = base → Room kk X.A → ∀ q, LamX.GivesTo X Ng "_law_said" sg g cdv bg a q (TTs K cs l fv)
section
variable {X : Cx} {E : XK} {p lpos pos : Pos} {params : Arguments} {body : Expr} {scope : Scope} {k kk : Nat} {w : WE} {cs : List Value} {l : List (Addr × Str)} {tag : Str → Option Str} {sn n1 n2 : Str}
theorem q_saidT {q : Str} (S : SaidT X.prog X.w X.K X.mg X.base kk (fvT X.K sn n1 n2) cs l) (hkk : kk ≤ k + 2) (hD : ∀ cn z, tag cn = some z → ExQ X.K (He.ga X.K cn) ∧ PySem.W.findIn X.K (.ref (He.ga X.K cn)) "given" = some none ∧ PySem.W.exmAny X.K (.ref (He.ga X.K cn)) cs = some true ∧ Hits X.K (He.ga X.K cn) l z)
    (hg : Gl X "_law_said") (TB : LamX.TabB X.base X.mg (He.cT X.K (q, none)).1 (He.cT X.K (q, none)).2) (hcode : X.env.code = .ref (He.cT X.K (q, none)).1) (hq : X.env.qual = q ++ ".<locals>.") (hin : q ∈ lamDefs) (hX : lamX X.K = true) (hr : Room (k + 2) X.A) (L : LamX.LamS X.env.scope scope) (hdef : defaultsOf params X.env = ([], []))
    (hbind : ∀ (q : Str) (cl : List (Str × Addr)) (pm cv ctv : Value), bindArgs (PySem.W.kla_fn "<lambda>" q params body scope cl pm cv ctv) ⟨[], []⟩ = pure [])
    (hbody : ∀ (A : Around) (outer : List Env) (s : Shared) (H : Hp) (E : XK) (f c' : Addr), Room k (A.deeper (LamX.lamEnv X scope s.heap.objs.size f c')) → TkE (LamX.lamCx X A outer s H E scope f c') E → PE (LamX.lamCx X A outer s H E scope f c') body (up X.K E w)) :
    PE X (.Call (.Name "_law_said" p) [.Lambda params body scope lpos] [] pos) (up X.K E (eSaidT sn n1 n2 tag w)) := by
  obtain ⟨g, pg, bg, sg, dV, kV, doc, pm, cdv, ct, oc, an, od, osl, Ng, a, hm, hk, lk, hcg, hb, Sg, hNg, hva, ha1, ha2, hG⟩ := S
  refine pe_to (LamX.pe_lamcall (T := TK X.K) (t := fun E => up X.K E w) hg hm hk lk hcg hb Sg hNg hva (hG X rfl rfl rfl rfl rfl (hr.mono hkk) _) TB hcode (by rw [hq]; exact tk_mem hin) (by rw [hq]; exact tk_one hX hin) hr L hdef hbind (fun A outer s H E f c' hr' => hbody A outer s H E f c' hr' (takes_of rfl rfl rfl rfl)) (by decide) ha1 ha2) (said_upT hD)
end
/-- the last return's reading -/
theorem fin_env {K : PySem.W.Frag} {c : Cf} {σ : L2.St} {v : V} {d : D} (hl : σ.length = 4) (h1 : σ[1]? = some (some .non)) (h2 : σ[2]? = some (some v)) (hT : c.T = TK K) (r : RP K c v d) : EnvOk K c σ [.un, .dt .non, .dt d, .un] := by
  refine ⟨hl, fun i s h => ?_, fun i j s t a h1 h2 g1 g2 h3 h4 => ?_, hT⟩
  · match i, h with
    | 0, h => cases h; exact ⟨σ[0]'(by omega), List.getElem?_eq_getElem (by omega), trivial⟩
    | 1, h => cases h; exact ⟨_, h1, .non, rfl, .non⟩
    | 2, h => cases h; exact ⟨_, h2, v, rfl, r⟩
    | 3, h => cases h; exact ⟨σ[3]'(by omega), List.getElem?_eq_getElem (by omega), trivial⟩
    | i + 4, h => simp at h
  · match i, h1 with
    | 0, h => cases h; cases g1
    | 1, h => cases h; cases g1
    | 2, h => cases h; cases g1
    | 3, h => cases h; cases g1
    | i + 4, h => simp at h
theorem fin_up {K : PySem.W.Frag} {E : XK} {w : WS} {cn n1 n2 : Str} (hw : ∀ x a b n (k : Wk), (∀ n', n' = n → k.rt (.lst [a, b]) n') → w x k [.un, .dt .non, .dt (.ins cn [n1, n2] [a, b]), .un] n) : ∀ (D : Ends) (σ : L2.St) (H : Hp) (v : V), σ.length = 4 → σ[1]? = some (some .non) → σ[2]? = some (some v) → fvT K cn n1 n2 v H D.rt → upS K E w D σ H := fun D σ H v hl h1 h2 h => by
  obtain ⟨c, a, b, rfl, ok, hT, r, hQ⟩ := h
  have no : ∀ q, ¬ Owned σ [.un, .dt .non, .dt (.ins cn [n1, n2] [a, b]), .un] q := fun q ⟨i, s, h1, h2, _⟩ => by
    match i, h1 with
    | 0, h => cases h; cases h2
    | 1, h => cases h; cases h2
    | 2, h => cases h; cases h2
    | 3, h => cases h; cases h2
    | i + 4, h => simp at h
  have le : ∀ {c' : Cf}, LeO (Owned σ [.un, .dt .non, .dt (.ins cn [n1, n2] [a, b]), .un]) c c' → Le c c' := fun l => ⟨l.dr, l.f, fun a o h1 _ h3 => l.h a o h1 (fun z => no a z) h3, fun a o h1 _ h3 h4 => l.fr a o h1 (fun z => no a z) h3 h4, l.hd, l.T⟩
  refine ⟨c, _, { nx := fun _ _ => False, rt := fun d n' => n' = c.n ∧ d = .lst [a, b], bk := fun _ _ => False, ct := fun _ _ => False }, fun _ _ => False, rfl, ok, fin_env hl h1 h2 hT r, hw _ a b c.n _ (fun n' e => ⟨e, rfl⟩), fun η' c' σ' hn => hn.elim, fun d c' v hn ok' l' rp => ?_, fun η' c' σ' hn => hn.elim, fun η' c' σ' hn => hn.elim, fun d c' cls od h => h.elim⟩
  obtain ⟨e, rfl⟩ := hn
  exact hQ c' v ok' (le l') e rp
end DL
set_option maxHeartbeats 4000000
/-! ### facts of own operators and classmethods, read off the written part; a maker that may raise -/
namespace DL
open PySem PySem.Spec PyProof.Rows L2
def eMakeY (y : Xn → Xn) (cn : Str) (m : Nat) (C : Ci) (dds : List D) (w : WA) : WE := fun x η n R => w x η n fun ds n1 => (ds ++ dds).length = m ∧ C (y x) (ds ++ dds) n1 fun ns fs n2 => R (.ins cn ns fs) n2
section
variable {X : Cx} {E E' : XK} {y : Xn → Xn} {pos p : Pos} {e : Expr} {es : List Expr} {cn : Str} {ps : List Str} {m k j : Nat} {w : WA}
theorem q_mkY {C : Ci} {dds : List D} (M : MkrX X.prog X.w X.K X.mg X.base cn ps m j C dds) (Y : YX X E E' y) (hr : Room k X.A) (hj : j + 1 ≤ k) (hg : Gl X cn) (ha : PA X (e :: es) (upA X.K E w)) (hdb : (cn == ("__debug__" : Str)) = false := by decide)
    (he : starEach (e :: es) X.env = (false, eval e X.env) :: starEach es X.env := by rfl) (hpl : (backTo pos (starEach es X.env)).any (·.1) = false := by rfl) : PE X (.Call (.Name cn p) (e :: es) [] pos) (up X.K E (eMakeY y cn m C dds w)) := by
  obtain ⟨f, fd, ds, dvs, mk, F, b, hd, hrp, g⟩ := M
  refine pe_to (pe_make mk F (hr.mono hj) hg g b hd Y.p ha hdb he hpl) fun σ H Q q => ?_
  obtain ⟨c, η, R, x, e1, ok, en, hw, hr, hx⟩ := q
  refine ⟨c, η, _, x, e1, ok, en, hw, fun ds c1 vs hc ok1 l1 rp => ?_, hx⟩
  exact fun p dx hp hdx hne => make_at (x := y x) .refl ok1 (l1.T.trans en.T) (rp.append (hrp _ _)) hc.1 hc.2 (fun d c' v hd ok' l' r' => hr d c' v hd ok' (l1.trans l') r') (Y.w x c1 (hx.le l1)) p dx hp hdx hne
end
/-- own + and * and ==: what of the text they ask -/
def opX (K : PySem.W.Frag) (cn : Str) : Bool :=
  PySem.W.selfFirst K (He.ga K cn) && He.eqO (PySem.W.findIn K (.ref (He.ga K cn)) (PySem.dunder "add")) (some (some (.ref (He.ma K (He.ga K cn) "__add__")))) && He.eqO (PySem.W.findIn K (.ref (He.ga K cn)) (PySem.dunder "mul")) (some (some (.ref (He.ma K (He.ga K cn) "__mul__")))) &&
  He.eqO (PySem.W.findIn K (.ref (He.ga K cn)) (dunderR "mul")) (some (some (.ref (He.ma K (He.ga K cn) "__rmul__")))) && PySem.W.isFn K (.ref (He.ma K (He.ga K cn) "__add__")) && PySem.W.isFn K (.ref (He.ma K (He.ga K cn) "__mul__")) && PySem.W.isFn K (.ref (He.ma K (He.ga K cn) "__rmul__")) &&
  decide (PySem.W.subIn K (.ref (He.ga K cn)) (.type "int") = some false) && PySem.W.notFirst K (He.ga K cn) (.type "int") && PySem.W.notFirst K (He.ga K cn) (.type "str")
structure OpX (K : PySem.W.Frag) (cn : Str) : Prop where
  add : OpK K (He.ga K cn) (He.ma K (He.ga K cn) "__add__") "add"
  mul : MulK K (He.ga K cn) (He.ma K (He.ga K cn) "__mul__") (He.ma K (He.ga K cn) "__rmul__")
  o : OwnO K cn
theorem opX_ok {K : PySem.W.Frag} {cn : Str} (h : opX K cn = true) : OpX K cn := by
  unfold opX at h
  simp only [Bool.and_eq_true, decide_eq_true_eq] at h
  obtain ⟨⟨⟨⟨⟨⟨⟨⟨⟨h1, h2⟩, h3⟩, h4⟩, h5⟩, h6⟩, h7⟩, h8⟩, h9⟩, h10⟩ := h
  exact ⟨⟨h1, He.eqO_ok h2, h5⟩, ⟨⟨h1, He.eqO_ok h3, h6⟩, He.eqO_ok h4, h7, h8⟩, ⟨h9, h10⟩⟩
/-- a classmethod -/
def cmX (K : PySem.W.Frag) (cn mt : Str) : Bool :=
  He.eqO (PySem.W.specialIn K (.ref (He.ga K cn)) "__getattribute__") (some (some (.builtin "type.__getattribute__"))) && (match PySem.W.typeIn K (.ref (He.ga K cn)) with
    | some mc => PySem.W.readsIn K (He.ga K cn) mc && (match PySem.W.findCls K (.ref (He.ga K cn)) mc mt with
      | some (.get (.builtin z) (.ref p) .none (.ref C)) => z == "classmethod.__get__" && p == He.ma K (He.ga K cn) mt && C == He.ga K cn
      | _ => false)
    | none => false) && (match PySem.W.recIn K (He.ma K (He.ga K cn) mt) "classmethod" with
    | some (.ref g :: _) => PySem.W.fnIn K g
    | _ => false)
def cmG (K : PySem.W.Frag) (cn mt : Str) : Addr := match PySem.W.recIn K (He.ma K (He.ga K cn) mt) "classmethod" with
  | some (.ref g :: _) => g
  | _ => 0
theorem cmX_ok {K : PySem.W.Frag} {cn mt : Str} (h : cmX K cn mt = true) : ∃ mc, ClX.CRead K (He.ga K cn) mc ∧ ClX.CMet K (He.ga K cn) mc mt (He.ma K (He.ga K cn) mt) (cmG K cn mt) := by
  unfold cmX at h
  simp only [Bool.and_eq_true] at h
  obtain ⟨⟨h1, h2⟩, h3⟩ := h
  cases e : PySem.W.typeIn K (.ref (He.ga K cn)) with
  | none =>
    rw [e] at h2
    cases h2
  | some mc =>
    rw [e] at h2
    dsimp only at h2
    rw [Bool.and_eq_true] at h2
    obtain ⟨h4, h5⟩ := h2
    refine ⟨mc, ⟨h4, He.eqO_ok h1⟩, ?_, ?_, ?_⟩
    · split at h5
      · rename_i z p C q
        simp only [Bool.and_eq_true, beq_iff_eq] at h5
        obtain ⟨⟨rfl, rfl⟩, rfl⟩ := h5
        exact q
      · cases h5
    · unfold cmG
      split at h3
      · rename_i g r q
        rw [q]
        exact ⟨r, rfl⟩
      · cases h3
    · unfold cmG
      split at h3
      · rename_i g r q
        first | exact h3 | (rw [q]; exact h3)
      · cases h3
end DL
set_option maxHeartbeats 4000000
/-! contracts of k02 -/
namespace DL
open PySem PySem.Spec PyProof.Rows L2
/-- keywords for all the parameters of a def that has defaults -/
theorem kbn_mkD {K : PySem.W.Frag} {x qual : Str} {params : Arguments} {body : List Stmt} {scope : Scope} {dvs : List V} {kw : List (Str × V)} {f : Addr} {fd : FuncData} {ps ks : List Str} (n : Nat) (pm : List Nat) (F : FunD K x qual params body scope dvs kw f fd) (hd : dvs ≠ [])
    (h : ∀ (T : Addr) (kV doc pmm : Value) (an : Option Addr) (cdv ct : Value) (us its ws : List Value), us.length = n → its.length = dvs.length → ws.length = ks.length →
      ∃ k, bindArgs (PySem.W.fnOf x qual params body scope (.ref T) kV doc pmm an cdv ct) ⟨us, ks.zip ws⟩ = seqItems? (.ref T) >>= k ∧ k (some its.toArray) = pure (ps.zip (gP .none pm us ws))) : KBn K fd ps n ks (gP .none pm) (gP .non pm) := by
  obtain ⟨oc, od, dV, kV, doc, pmm, an, cdv, ct, osl, rfl, lk, hcd, hD, hK⟩ := F.ex
  rcases hD with ⟨e, _⟩ | ⟨_, T, o, its, m, rfl, lT, oT, rT⟩
  · exact absurd e hd
  · refine ⟨fun s us ws X l1 l2 => ?_, fun r rz => gP_vals r rz pm⟩
    obtain ⟨k, e1, e2⟩ := h T kV doc pmm an cdv ct us its ws l1 rT.length.symm l2
    refine BindsTo.of_looks fun M => ?_
    rw [e1]
    exact looks_items X lT oT (.of_pure e2)
abbrev exG (k : Str) (v : D) : D := .ins k ["given"] [v]
def Ty (d : D) : Prop := tyN d ≠ none
def csL (K : PySem.W.Frag) : List Value := [.ref (He.ga K "SheetError"), .ref (He.ga K "StateError"), .ref (He.ga K "MissingError")]
def lL (K : PySem.W.Frag) : List (Addr × Str) := [(He.ga K "BadSlack", "slack"), (He.ga K "BadNumber", "number")]
def tagL (cn : Str) : Option Str := if cn = "BadSlack" then some "slack" else if cn = "BadNumber" then some "number" else none
def excL : List Str := ["BadNumber", "BadSlack"]
theorem tag_mem : ∀ cn z, tagL cn = some z → cn ∈ excL := fun cn z h => by
  unfold tagL at h
  unfold excL
  split at h
  · rename_i e; simp [e]
  · split at h
    · rename_i e; simp [e]
    · cases h
/-- a slack whose numbers are not too great -/
structure SB (p : Int × Int) : Prop where
  a0 : 0 ≤ p.1
  a1 : p.1 < 2 ^ 120
  b0 : 1 ≤ p.2
  b1 : p.2 < 2 ^ 120
/-- the text of a slack -/
def slkS (p : Int × Int) : Str := if p.2 = 1 then (toString p.1 : String) else Str.empty ++ ((toString p.1 : String) : Str) ++ ("/" : Str) ++ ((toString p.2 : String) : Str)
/-- the number that a text tells, or -1 -/
def digB (s : Str) : Bool := s.cps.toList.all fun c => decide (c ∈ ("0123456789" : Str).cps.toList)
def numIn (s : Str) : Int := if (decide (1 ≤ s.length) && decide (s.length ≤ 40) && digB s) = true then (if (decide (1 < s.length) && decide (s.cps.toList.head? = some 48)) = true then -1 else ((PySem.intText? s).getD 0)) else -1
/-- the numbers of a text -/
def readS (s : Str) : Option (Int × Int) := match (Txt.split s "/").map numIn with
  | [a] => if a = -1 then none else some (a, 1)
  | [a, b] => if a = -1 ∨ b = -1 ∨ b = 0 then none else some (a, b)
  | _ => none
def readD : D → Option (Int × Int)
  | .str s => readS s
  | _ => none
def shortD : D → Prop
  | .str s => s.length ≤ 100000
  | _ => True
def C_number_in : Ct := fun _ ds n R => ∃ s, ds = [.str s] ∧ s.length ≤ 100000 ∧ R (.int (numIn s)) n
def C_need_whole : Ct := fun x ds n R => ∃ i : Int, ds = [.int i] ∧ ((i < 0 ∧ x (exG "BadNumber" (.int i)) n) ∨ (0 ≤ i ∧ R .non n))
def C_Slack_mk : Ci := fun x ds n R => ∃ d e, ds = [d, e] ∧ Ty d ∧ Ty e ∧ ((∃ a b : Int, d = .int a ∧ e = .int b ∧ 0 ≤ a ∧ 1 ≤ b ∧ b < 2 ^ 250 ∧ R ["own_num", "own_den"] [.int (low (a, b)).1, .int (low (a, b)).2] n) ∨
  ((∀ a b : Int, d = .int a → e = .int b → a < 0 ∨ b < 1) ∧ x (exG "BadSlack" (.tup [d, e])) n))
def C_Slack_read : Ct := fun x ds n R => ∃ d, ds = [d] ∧ Ty d ∧ shortD d ∧ match readD d with
  | some q => 0 ≤ q.1 ∧ 1 ≤ q.2 ∧ q.2 < 2 ^ 250 ∧ R (slk (low q)) n
  | none => x (exG "BadSlack" d) n
def C_Slack_num : Ct := fun _ ds n R => ∃ a b : D, ds = [.ins "Slack" ["own_num", "own_den"] [a, b]] ∧ R a n
def C_Slack_den : Ct := fun _ ds n R => ∃ a b : D, ds = [.ins "Slack" ["own_num", "own_den"] [a, b]] ∧ R b n
def C_Slack_add : Ct := fun _ ds n R => ∃ p q : Int × Int, ds = [slk p, slk q] ∧ SB p ∧ SB q ∧ R (slk (low (p.1 * q.2 + q.1 * p.2, p.2 * q.2))) n
def C_Slack_mul : Ct := fun x ds n R => ∃ (p : Int × Int) (i : Int), ds = [slk p, .int i] ∧ SB p ∧ -(2 ^ 120) < i ∧ i < 2 ^ 120 ∧ ((i < 0 ∧ x (exG "BadNumber" (.int i)) n) ∨ (0 ≤ i ∧ R (slk (low (p.1 * i, p.2))) n))
def C_Slack_rmul : Ct := C_Slack_mul
def C_Slack_eqv : Ct := fun _ ds n R => ∃ (p : Int × Int) (d : D), ds = [slk p, d] ∧ ((∃ q : Int × Int, d = slk q ∧ R (.bl (decide (p = q))) n) ∨ (isOth d ∧ R (.bl false) n))
def cmpC (f : Int → Int → Bool) : Ct := fun _ ds n R => ∃ p q : Int × Int, ds = [slk p, slk q] ∧ SB p ∧ SB q ∧ R (.bl (f (p.1 * q.2) (q.1 * p.2))) n
def C_Slack_lt : Ct := cmpC fun i j => decide (i < j)
def C_Slack_le : Ct := cmpC fun i j => decide (i ≤ j)
def C_Slack_gt : Ct := cmpC fun i j => decide (j < i)
def C_Slack_ge : Ct := cmpC fun i j => decide (j ≤ i)
def C_Slack_str : Ct := fun _ ds n R => ∃ p : Int × Int, ds = [slk p] ∧ SB p ∧ R (.str (slkS p)) n
/-! the law's own -/
structure AB (a b : Int) : Prop where
  a0 : 0 ≤ a
  a1 : a < 10 ^ 30
  b0 : 1 ≤ b
  b1 : b ≤ 10 ^ 30
def tS (i : Int) : Str := (toString i : String)
def plainS (a b : Int) : Str := tS a ++ ("/" : Str) ++ tS b
def textsD (a b : Int) : List D := ([.str "", .str "/", .str (plainS a b ++ ("/1" : Str)), .str (("0" : Str) ++ plainS a b), .str (plainS a b ++ (" " : Str)), .str (("-" : Str) ++ plainS a b), .str (tS a ++ ("/0" : Str)), .str (tS a ++ ("/" : Str)), .str "1/02"] ++
  [.str "x", .str (tS a ++ (".5" : Str)), .str (("/" : Str) ++ tS b), .str (strRep "1" 41), .str "00", .non]) ++ [.int 5, .tup [.str "1"], .str "1 /2", .str "+1"]
def C_L_number : Ct := fun _ ds n R => ds = [.drw] ∧ 2 ≤ n ∧ ∀ r : Int, 0 ≤ r → r < 10 ^ 30 → R (.int r) (n - 1 - 1)
def C_L_common : Ct := fun _ ds n R => ∃ a b : Int, ds = [.int a, .int b] ∧ 0 ≤ a ∧ 0 ≤ b ∧ R (.int (Int.gcd a b)) n
def C_L_texts : Ct := fun _ ds n R => ∃ a b : Int, ds = [.drw, .int a, .int b] ∧ AB a b ∧ R (.lst (textsD a b)) n
def C_L_read_right : Ct := fun _ ds n R => ∃ a b : Int, ds = [.drw, .int a, .int b] ∧ AB a b ∧ 1 ≤ n ∧ R (.bl true) (n - 1)
def C_L_order_right : Ct := fun _ ds n R => ∃ a b c d : Int, ds = [.int a, .int b, .int c, .int d] ∧ AB a b ∧ AB c d ∧ R (.bl true) n
theorem calm_number_in : Calm C_number_in := fun _ _ _ _ _ h => h
theorem calm_L_number : Calm C_L_number := fun _ _ _ _ _ h => h
theorem calm_L_common : Calm C_L_common := fun _ _ _ _ _ h => h
theorem calm_L_texts : Calm C_L_texts := fun _ _ _ _ _ h => h
theorem calm_L_read_right : Calm C_L_read_right := fun _ _ _ _ _ h => h
theorem calm_L_order_right : Calm C_L_order_right := fun _ _ _ _ _ h => h
end DL
set_option maxHeartbeats 4000000
namespace DL
open PySem PySem.Spec PyProof.Rows L2
def top (i : Nat) : Stmt := PySem.Challenge.pw_sharedborders_k02_slacks.main.body.getD i (.Pass ⟨0, 0, 0, 0⟩)
/-- what the text has at its top -/
structure Tx (K : PySem.W.Frag) (mg : Str → Option Value) : Prop where
  z_isinstance : mg "isinstance" = none
  z_int : mg "int" = none
  z_bool : mg "bool" = none
  z_len : mg "len" = none
  z_all : mg "all" = none
  z_str : mg "str" = none
  z_range : mg "range" = none
  z_repr : mg "repr" = none
  i_MOST_DIGITS : ∃ t, mg "MOST_DIGITS" = some (.int 40 t)
  s_DIGITS : ∃ t, mg "DIGITS" = some (.str "0123456789" t)
  g_Slack : mg "Slack" = some (.ref (He.ga K "Slack"))
  c_Slack : CF K "Slack" ["own_num", "own_den"]
  n_Slack : NoNe K "Slack"
  k_Slack : IsC K "Slack"
  o_Slack : OwnO K "Slack"
abbrev s_L_begin : Stmt := top 16
abbrev N_L_begin : List Str := ["_law_script"]
theorem sc_L_begin : FnScope N_L_begin ["_law_script"] (defScope s_L_begin) := ⟨rfl, rfl, rfl, by decide +kernel, rfl, by decide +kernel, by decide +kernel⟩
theorem b_L_begin {P : Program} {wd : World} {K : PySem.W.Frag} {mg : Str → Option Value} {base : Heap} (f : Addr) (cdv : Value) (A : Around) (outer : List Env) (s : Shared) (H : Hp) (E : XK) :
    PSs (cxOf CX0 P wd K mg base N_L_begin "_law_begin" (defScope s_L_begin) f cdv A outer s H E).nox (defBody s_L_begin) (t_begin K) :=
  pss_one (ps_ret (pe_disp (pps_cons pe_str (pe_op op_catS (pv 0) (pe_lst (pa_cons pe_int pa_nil))) (pps_cons pe_str pe_int (pps_cons pe_str pe_int (pps_cons pe_str pe_int pps_nil)))) rfl rfl (by simp) (by decide)))
abbrev s_L_next : Stmt := top 17
abbrev N_L_next : List Str := ["_law_draw", "_law_many", "_law_cell", "_law_cells", "_law_number_here", "_law_k"]
theorem sc_L_next : FnScope N_L_next ["_law_draw", "_law_many"] (defScope s_L_next) := ⟨rfl, rfl, rfl, by decide +kernel, rfl, by decide +kernel, by decide +kernel⟩
theorem b_L_next {P : Program} {wd : World} {K : PySem.W.Frag} {mg : Str → Option Value} {base : Heap} (zl : mg "len" = none) (f : Addr) (cdv : Value) (A : Around) (outer : List Env) (s : Shared) (H : Hp) (E : XK) (hr : Room 0 (A.deeper (envOfC "_law_next" (defScope s_L_next) s.heap.objs.size f cdv))) :
    PSs (cxOf CX0 P wd K mg base N_L_next "_law_next" (defScope s_L_next) f cdv A outer s H E).nox (defBody s_L_next) (t_next K) := by
  have hu : (cxOf CX0 P wd K mg base N_L_next "_law_next" (defScope s_L_next) f cdv A outer s H E).nox.A.units + 1 < cLine := by
    have := hr.units
    show (A.deeper (envOfC "_law_next" (defScope s_L_next) s.heap.objs.size f cdv)).units + 1 < cLine
    omega
  refine pss_cons (ps_if (pt_cmpR op_gt (pe_dget hu (pv 0) pe_str (fun _ _ => rfl)) pe_int (nomark _)) (pss_cons (ps_asg (pe_tup (pa_cons (pe_dget hu (pv 0) pe_str (fun _ _ => rfl)) (pa_cons (pe_op op_fdivW (pe_dget hu (pv 0) pe_str (fun _ _ => rfl)) (pv 1)) pa_nil))) (pg_tup rfl (pgs_cons (pg_name (i := 2) sc_L_next.nd rfl (Or.inl rfl)) (pgs_cons (pg_sub (pv 0) pe_str (set_dict hu)) pgs_nil)))) (pss_one (ps_ret (pe_op op_mod (pv 2) (pv 1))))) pss_nil) ?_
  refine pss_cons (ps_set (i := 3) sc_L_next.nd rfl (Or.inl rfl) (pe_dget hu (pv 0) pe_str (fun _ _ => rfl))) ?_
  refine pss_cons (ps_set (i := 2) sc_L_next.nd rfl (Or.inl rfl) (pe_ix ix_list (pv 3) (pe_op op_mod (pe_dget hu (pv 0) pe_str (fun _ _ => rfl)) (pe_callB call_len_seq (by rfl) zl PySem.boot_len (pa_cons (pv 3) pa_nil))) (fun _ _ => rfl))) ?_
  refine pss_cons (ps_dput hu (pv 0) pe_str (pe_op op_add (pe_dget hu (pv 0) pe_str (fun _ _ => rfl)) pe_int) (by rfl)) ?_
  refine pss_cons (ps_if (PW.pt (pw_and (pt_cmpR op_ge (pv 2) (pe_op op_pow pe_int pe_int) (nomark _)) (pw_and1 (pt_cmpR op_le (pe_dget hu (pv 0) pe_str (fun _ _ => rfl)) (pe_callB call_len_seq (by rfl) zl PySem.boot_len (pa_cons (pv 3) pa_nil)) (nomark _))))) (pss_cons (ps_dput hu (pv 0) pe_str (pe_op op_fdivW (pv 2) (pv 1)) (by rfl)) (pss_one (ps_ret (pe_op op_mod (pv 2) (pv 1))))) pss_nil) ?_
  refine pss_cons (ps_dput hu (pv 0) pe_str (pe_op op_add (pe_dget hu (pv 0) pe_str (fun _ _ => rfl)) pe_int) (by rfl)) ?_
  refine pss_cons (ps_set (i := 4) sc_L_next.nd rfl (Or.inl rfl) (pe_op op_add (pe_op op_mod (pv 2) pe_int) (pe_op op_mul (pe_op op_mul pe_int (pe_dget hu (pv 0) pe_str (fun _ _ => rfl))) (pe_dget hu (pv 0) pe_str (fun _ _ => rfl))))) ?_
  refine pss_cons (ps_for PassesOwn.never rfl (pi_tup (pe_tup (pa_cons (pe_dget hu (pv 0) pe_str (fun _ _ => rfl)) (pa_cons (pe_dget hu (pv 0) pe_str (fun _ _ => rfl)) pa_nil)))) (pg_name (i := 5) sc_L_next.nd rfl (Or.inl rfl)) ?_) ?_
  · refine pss_cons (ps_set (i := 4) sc_L_next.nd rfl (Or.inl rfl) (pe_op op_mod (pe_op op_mul (pe_op op_add (pe_op op_add (pv 4) (pe_op op_mul pe_int (pv 5))) pe_int) pe_int) pe_int)) ?_
    exact pss_one (ps_set (i := 4) sc_L_next.nd rfl (Or.inl rfl) (pe_op op_mod (pe_op op_mul (pv 4) (pe_op op_add pe_int (pe_op op_mul pe_int (pe_op op_mod (pv 5) pe_int)))) pe_int))
  · exact pss_one (ps_ret (pe_op op_mod (pe_op op_fdiv (pv 4) pe_int) (pv 1)))

/-! ### is_integer -/
abbrev s_is_integer : Stmt := top 1
abbrev N_is_integer : List Str := ["thing"]
theorem sc_is_integer : FnScope N_is_integer ["thing"] (defScope s_is_integer) := ⟨rfl, rfl, rfl, by decide +kernel, rfl, by decide +kernel, by decide +kernel⟩
def w_is_integer : WS := (sRet (eAndV (eIsB "int" (eVarB 0)) (eNotV (eIsB "bool" (eVarB 0)))))
theorem b_is_integer {P : Program} {wd : World} {K : PySem.W.Frag} {mg : Str → Option Value} {base : Heap} (T : Tx K mg)  (f : Addr) (cdv : Value) (A : Around) (outer : List Env) (s : Shared) (H : Hp) (E : XK) (hr : Room 0 (A.deeper (envOfC "is_integer" (defScope s_is_integer) s.heap.objs.size f cdv))) :
    PSs (cxOf CX0 P wd K mg base N_is_integer "is_integer" (defScope s_is_integer) f cdv A outer s H E).nox (defBody s_is_integer) (upS K E w_is_integer) :=
  (qss_one (qs_ret (q_and (q_isB (cls_arg (by rfl) T.z_int (by decide +kernel)) (by rfl) T.z_isinstance (qb_v 0 (pv 0))) (q_one (q_not (q_isB (cls_arg (by rfl) T.z_bool (by decide +kernel)) (by rfl) T.z_isinstance (qb_v 0 (pv 0))))))))
/-! ### common -/
abbrev s_common : Stmt := top 11
abbrev N_common : List Str := ["one", "other"]
theorem sc_common : FnScope N_common ["one", "other"] (defScope s_common) := ⟨rfl, rfl, rfl, by decide +kernel, rfl, by decide +kernel, by decide +kernel⟩
def w_common : WS := (sSeq (sWhile (wTest (eBin oGt (eVarB 1) (eC (.int 0)))) (sPar 0 1 (aCons (eVar 1) (aCons (eBin oMod (eVarB 0) (eVarB 1)) aNil))))
    (sRet (eVar 0)))
theorem b_common {P : Program} {wd : World} {K : PySem.W.Frag} {mg : Str → Option Value} {base : Heap} (T : Tx K mg)  (f : Addr) (cdv : Value) (A : Around) (outer : List Env) (s : Shared) (H : Hp) (E : XK) (hr : Room 0 (A.deeper (envOfC "common" (defScope s_common) s.heap.objs.size f cdv))) :
    PSs (cxOf CX0 P wd K mg base N_common "common" (defScope s_common) f cdv A outer s H E).nox (defBody s_common) (upS K E w_common) :=
  (qss_cons (qs_while PassesOwn.never (qt_cmp op_gt opd_gt (qb_v 1 (pv 1)) (qb q_int) (nomark _)) (qss_one (qs_par (i := 0) (j := 1) rfl sc_common.nd rfl rfl (by decide) rfl rfl (qa_cons (q_v 1 (pv 1)) (qa_cons (q_op op_mod opd_mod (qb_v 0 (pv 0)) (qb_v 1 (pv 1))) qa_nil)) (by rfl))))
    (qss_one (qs_ret (q_v 0 (pv 0)))))
/-! ### number_in -/
abbrev s_number_in : Stmt := top 12
abbrev N_number_in : List Str := ["text", "sign"]
theorem sc_number_in : FnScope N_number_in ["text"] (defScope s_number_in) := ⟨rfl, rfl, rfl, by decide +kernel, rfl, by decide +kernel, by decide +kernel⟩
def w_number_in : WS := (sSeq (sIf (wOr (wNot (wChain oLe oLe (eC (.int 1)) (eCB bLen (aCons (eVarB 0) aNil)) (eC (.int 40)))) (wNot (wTru (eCB bAll (aCons (eFz (nLc [1] (iTx (eVar 0)) (gNm 1) wYes (eBin oInSg (eVarB 1) (eC (.str "0123456789"))))) aNil))))) (sRet (eNeg (eC (.int 1)))) sNext)
    (sRet (eIf (wAnd (wTest (eBin oGt (eCB bLen (aCons (eVarB 0) aNil)) (eC (.int 1)))) (wTest (eBin oEqS (eBin oIx (eVarB 0) (eC (.int 0))) (eC (.str "0"))))) (eNeg (eC (.int 1))) (eCB bIntS (aCons (eVarB 0) aNil)))))
theorem b_number_in {P : Program} {wd : World} {K : PySem.W.Frag} {mg : Str → Option Value} {base : Heap} (T : Tx K mg)  (f : Addr) (cdv : Value) (A : Around) (outer : List Env) (s : Shared) (H : Hp) (E : XK) (hr : Room 0 (A.deeper (envOfC "number_in" (defScope s_number_in) s.heap.objs.size f cdv))) :
    PSs (cxOf CX0 P wd K mg base N_number_in "number_in" (defScope s_number_in) f cdv A outer s H E).nox (defBody s_number_in) (upS K E w_number_in) :=
  (qss_cons (qs_if (PW.pt (qw_or (qt_not (qt_chain op_le op_le opd_le opd_le (qb q_int) (qb (q_B call_lenU bd_len (by rfl) T.z_len PySem.boot_len (qab_cons (qb_v 0 (pv 0)) qab_nil))) (qb (q_gi (by rfl) T.i_MOST_DIGITS)))) (qw_or1 (qt_not (qt_v (qb (q_B (cr_all rfl) bd_all (by rfl) T.z_all (by decide +kernel) (qab_cons (qbf (qn_lc (own := [("sign", 1)]) rfl sc_number_in.nd (qi_tx (q_v 0 (pv 0))) (blkOk_by (own := [("sign", 1)]) (N := N_number_in) (sc := defScope s_number_in) (by decide +kernel)) (fun _ _ _ _ _ => (qg_nm (pg_name (i := 1) sc_number_in.nd rfl (Or.inl rfl)))) (fun _ _ _ _ _ => qts_nil) (fun _ _ _ _ _ => (q_cmp op_in_sign opd_inSg (qb_v 1 (pv 1)) (qb (q_gs (by rfl) T.s_DIGITS)) (by rfl))))) qab_nil)))))))) (qss_one (qs_ret (q_neg (qb q_int)))) qss_nil)
    (qss_one (qs_ret (q_if (PW.pt (qw_and (qt_cmp op_gt opd_gt (qb (q_B call_lenU bd_len (by rfl) T.z_len PySem.boot_len (qab_cons (qb_v 0 (pv 0)) qab_nil))) (qb q_int) (nomark _)) (qw_and1 (qt_cmp op_eq opd_eqS (qb (q_ix ix_seq opd_ix (qb_v 0 (pv 0)) (qb q_int))) (qb q_str) (nomark _))))) (q_neg (qb q_int)) (q_Ty call_int_str bd_intS (by rfl) T.z_int (by decide +kernel) (qab_cons (qb_v 0 (pv 0)) qab_nil))))))
/-! ### need_whole -/
abbrev s_need_whole : Stmt := top 13
abbrev N_need_whole : List Str := ["number"]
theorem sc_need_whole : FnScope N_need_whole ["number"] (defScope s_need_whole) := ⟨rfl, rfl, rfl, by decide +kernel, rfl, by decide +kernel, by decide +kernel⟩
def w_need_whole : WS := (sIf (wTest (eBin oLt (eVarB 0) (eC (.int 0)))) (sRaise "BadNumber" ["given"] (aCons (eVar 0) aNil)) sNext)
theorem b_need_whole {P : Program} {wd : World} {K : PySem.W.Frag} {mg : Str → Option Value} {base : Heap} (T : Tx K mg) (X_BadNumber : ExM P wd K mg base "BadNumber" ["self", "given"] ["given"] 1) (f : Addr) (cdv : Value) (A : Around) (outer : List Env) (s : Shared) (H : Hp) (E : XK) (hr : Room 2 (A.deeper (envOfC "need_whole" (defScope s_need_whole) s.heap.objs.size f cdv))) (tk : TkE (cxOf (L2.CX P wd) P wd K mg base N_need_whole "need_whole" (defScope s_need_whole) f cdv A outer s H E) E) :
    PSs (cxOf (L2.CX P wd) P wd K mg base N_need_whole "need_whole" (defScope s_need_whole) f cdv A outer s H E) (defBody s_need_whole) (upS K E w_need_whole) :=
  (qss_one (qs_if (qt_cmp (op_ltU hr.units0) opd_lt (qb_v 0 (pv 0)) (qb q_int) (nomark _)) (qss_one (qs_raise X_BadNumber rfl tk hr (by decide) (by rfl) (by decide) (qa_cons (q_v 0 (pv 0)) qa_nil))) qss_nil))
/-! ### Slack.__init__ -/
abbrev s_Slack__init_ : Stmt := inClass (top 14) 0
abbrev N_Slack__init_ : List Str := ["self", "num", "den", "shared"]
theorem sc_Slack__init_ : FnScope N_Slack__init_ ["self", "num", "den"] (defScope s_Slack__init_) := ⟨rfl, rfl, rfl, by decide +kernel, rfl, by decide +kernel, by decide +kernel⟩
def w_Slack__init_ : WS := (sSeq (sIf (wOr (wNot (wTru (eCall 1 C_is_integer [] (aCons (eVar 1) aNil)))) (wOr (wNot (wTru (eCall 1 C_is_integer [] (aCons (eVar 2) aNil)))) (wOr (wTest (eBin oLt (eVarB 1) (eC (.int 0)))) (wTest (eBin oLt (eVarB 2) (eC (.int 1))))))) (sRaise "BadSlack" ["given"] (aCons (eTup (aCons (eVar 1) (aCons (eVar 2) aNil))) aNil)) sNext)
    (sSeq (sAsg (eCall 2 C_common [] (aCons (eVar 2) (aCons (eVar 1) aNil))) (gNm 3))
    (sSeq (sPutF "Slack" 0 "own_num" (eBin oDiv (eVarB 1) (eVarB 3)))
    (sPutF "Slack" 0 "own_den" (eBin oDiv (eVarB 2) (eVarB 3))))))
theorem b_Slack__init_ {P : Program} {wd : World} {K : PySem.W.Frag} {mg : Str → Option Value} {base : Heap} (T : Tx K mg) (F_is_integer : Fn P wd K mg base "is_integer" ["thing"] 1 1 C_is_integer) (X_BadSlack : ExM P wd K mg base "BadSlack" ["self", "given"] ["given"] 1) (F_common : Fn P wd K mg base "common" ["one", "other"] 2 1 C_common) (f : Addr) (cdv : Value) (A : Around) (outer : List Env) (s : Shared) (H : Hp) (E : XK) (hr : Room 2 (A.deeper (envOfC "Slack.__init__" (defScope s_Slack__init_) s.heap.objs.size f cdv))) (tk : TkE (cxOf (L2.CX P wd) P wd K mg base N_Slack__init_ "Slack.__init__" (defScope s_Slack__init_) f cdv A outer s H E) E) :
    PSs (cxOf (L2.CX P wd) P wd K mg base N_Slack__init_ "Slack.__init__" (defScope s_Slack__init_) f cdv A outer s H E) (defBody s_Slack__init_) (upS K E w_Slack__init_) :=
  (qss_cons (qs_if (PW.pt (qw_or (qt_not (qt_v (qb (q_f F_is_integer calm_is_integer hr (by decide) (by rfl) (qa_cons (q_v 1 (pv 1)) qa_nil))))) (qw_or (qt_not (qt_v (qb (q_f F_is_integer calm_is_integer hr (by decide) (by rfl) (qa_cons (q_v 2 (pv 2)) qa_nil))))) (qw_or (qt_cmp (op_ltU hr.units0) opd_lt (qb_v 1 (pv 1)) (qb q_int) (nomark _)) (qw_or1 (qt_cmp (op_ltU hr.units0) opd_lt (qb_v 2 (pv 2)) (qb q_int) (nomark _))))))) (qss_one (qs_raise X_BadSlack rfl tk hr (by decide) (by rfl) (by decide) (qa_cons (q_tup (qa_cons (q_v 1 (pv 1)) (qa_cons (q_v 2 (pv 2)) qa_nil))) qa_nil))) qss_nil)
    (qss_cons (qs_set (i := 3) sc_Slack__init_.nd rfl (Or.inl rfl) (q_f F_common calm_common hr (by decide) (by rfl) (qa_cons (q_v 2 (pv 2)) (qa_cons (q_v 1 (pv 1)) qa_nil))))
    (qss_cons (qs_putF T.c_Slack (by decide) (pv 0) (q_op op_fdivW opd_div (qb_v 1 (pv 1)) (qb_v 3 (pv 3))))
    (qss_one (qs_putF T.c_Slack (by decide) (pv 0) (q_op op_fdivW opd_div (qb_v 2 (pv 2)) (qb_v 3 (pv 3))))))))
/-! ### Slack.read -/
abbrev s_Slack_read : Stmt := inClass (top 14) 1
abbrev N_Slack_read : List Str := ["cls", "text", "parts", "numbers", "part"]
theorem sc_Slack_read : FnScope N_Slack_read ["cls", "text"] (defScope s_Slack_read) := ⟨rfl, rfl, rfl, by decide +kernel, rfl, by decide +kernel, by decide +kernel⟩
def w_Slack_read : WS := (sSeq (sAsg (eIf (wTru (eIsB "str" (eVarB 1))) (eSplit (eVar 1) (eC (.str "/"))) (eFz (nLst aNil))) (gNm 2))
    (sSeq (sSetN 3 (nLc [4] (iSq (eVar 2)) (gNm 4) wYes (eCall 1 C_number_in [] (aCons (eVar 4) aNil))))
    (sSeq (sIf (wOr (wTest (eBin oNotIn (eCB bLen (aCons (eVarB 3) aNil)) (eTup (aCons (eC (.int 1)) (aCons (eC (.int 2)) aNil))))) (wOr (wTest (eBin oIn (eNeg (eC (.int 1))) (eVarB 3))) (wAnd (wTest (eBin oEq (eCB bLen (aCons (eVarB 3) aNil)) (eC (.int 2)))) (wTest (eBin oEq (eBin oIx (eVarB 3) (eC (.int 1))) (eC (.int 0))))))) (sRaise "BadSlack" ["given"] (aCons (eVar 1) aNil)) sNext)
    (sRet (eMkS yR 0 "Slack" 2 C_Slack_mk [.int 1] (eVarB 3))))))
theorem b_Slack_read {P : Program} {wd : World} {K : PySem.W.Frag} {mg : Str → Option Value} {base : Heap} (T : Tx K mg) (F_number_in : Fn P wd K mg base "number_in" ["text"] 1 1 C_number_in) (X_BadSlack : ExM P wd K mg base "BadSlack" ["self", "given"] ["given"] 1) (M_Slack_0 : MkrX P wd K mg base "Slack" ["self", "num", "den"] 2 3 C_Slack_mk []) (M_Slack_1 : MkrX P wd K mg base "Slack" ["self", "num", "den"] 2 3 C_Slack_mk [.int 1]) (f : Addr) (cdv : Value) (A : Around) (outer : List Env) (s : Shared) (H : Hp) (E : XK) (hr : Room 4 (A.deeper (envOfC "Slack.read" (defScope s_Slack_read) s.heap.objs.size f cdv))) (tk : TkE (cxOf (L2.CX P wd) P wd K mg base N_Slack_read "Slack.read" (defScope s_Slack_read) f cdv A outer s H E) E) :
    PSs (cxOf (L2.CX P wd) P wd K mg base N_Slack_read "Slack.read" (defScope s_Slack_read) f cdv A outer s H E) (defBody s_Slack_read) (upS K E w_Slack_read) :=
  (qss_cons (qs_set (i := 2) sc_Slack_read.nd rfl (Or.inl rfl) (q_if (qt_v (qb (q_isB (cls_arg (by rfl) T.z_str (by decide +kernel)) (by rfl) T.z_isinstance (qb_v 1 (pv 1))))) (q_split (q_v 1 (pv 1)) q_str) (qf (qn_lst qa_nil))))
    (qss_cons (qs_setLcN (i := 3) (own := [("part", 4)]) rfl sc_Slack_read.nd rfl rfl (sw_true rfl rfl rfl (by decide +kernel)) (qi_sq (q_v 2 (pv 2))) (blkOk_by (own := [("part", 4)]) (N := N_Slack_read) (sc := defScope s_Slack_read) (by decide +kernel)) (fun _ _ _ _ _ => (qg_nm (pg_name (i := 4) sc_Slack_read.nd rfl (Or.inl rfl)))) (fun _ _ _ _ _ => qts_nil) (fun _ _ _ _ _ => (q_f F_number_in calm_number_in hr (by decide) (by rfl) (qa_cons (q_v 4 (pv 4)) qa_nil))))
    (qss_cons (qs_if (PW.pt (qw_or (qt_cmp (op_notInU (u65 hr)) opd_notIn (qb (q_B call_lenU bd_len (by rfl) T.z_len PySem.boot_len (qab_cons (qb_v 3 (pv 3)) qab_nil))) (qb (q_tup (qa_cons q_int (qa_cons q_int qa_nil)))) (by rfl)) (qw_or (qt_cmp (op_inU (u65 hr)) opd_in (qb (q_neg (qb q_int))) (qb_v 3 (pv 3)) (by rfl)) (qw_or1 (PW.pt (qw_and (qt_cmp (op_eqD hr.units) opd_eq (qb (q_B call_lenU bd_len (by rfl) T.z_len PySem.boot_len (qab_cons (qb_v 3 (pv 3)) qab_nil))) (qb q_int) (nomark _)) (qw_and1 (qt_cmp (op_eqD hr.units) opd_eq (qb (q_ix ix_seq opd_ix (qb_v 3 (pv 3)) (qb q_int))) (qb q_int) (nomark _))))))))) (qss_one (qs_raise X_BadSlack rfl tk hr (by decide) (by rfl) (by decide) (qa_cons (q_v 1 (pv 1)) qa_nil))) qss_nil)
    (qss_one (qs_ret (q_mkS M_Slack_0 M_Slack_1 (yx_R tk) hr (by decide) (pv 0) (qb_v 3 (pv 3))))))))
/-! ### Slack.num -/
abbrev s_Slack_num : Stmt := inClass (top 14) 2
abbrev N_Slack_num : List Str := ["self"]
theorem sc_Slack_num : FnScope N_Slack_num ["self"] (defScope s_Slack_num) := ⟨rfl, rfl, rfl, by decide +kernel, rfl, by decide +kernel, by decide +kernel⟩
def w_Slack_num : WS := (sRet (eFldV "Slack" 0 "own_num"))
theorem b_Slack_num {P : Program} {wd : World} {K : PySem.W.Frag} {mg : Str → Option Value} {base : Heap} (T : Tx K mg)  (f : Addr) (cdv : Value) (A : Around) (outer : List Env) (s : Shared) (H : Hp) (E : XK) (hr : Room 0 (A.deeper (envOfC "Slack.num" (defScope s_Slack_num) s.heap.objs.size f cdv))) :
    PSs (cxOf CX0 P wd K mg base N_Slack_num "Slack.num" (defScope s_Slack_num) f cdv A outer s H E).nox (defBody s_Slack_num) (upS K E w_Slack_num) :=
  (qss_one (qs_ret (q_fldV T.c_Slack (by decide) (pv 0))))
/-! ### Slack.den -/
abbrev s_Slack_den : Stmt := inClass (top 14) 3
abbrev N_Slack_den : List Str := ["self"]
theorem sc_Slack_den : FnScope N_Slack_den ["self"] (defScope s_Slack_den) := ⟨rfl, rfl, rfl, by decide +kernel, rfl, by decide +kernel, by decide +kernel⟩
def w_Slack_den : WS := (sRet (eFldV "Slack" 0 "own_den"))
theorem b_Slack_den {P : Program} {wd : World} {K : PySem.W.Frag} {mg : Str → Option Value} {base : Heap} (T : Tx K mg)  (f : Addr) (cdv : Value) (A : Around) (outer : List Env) (s : Shared) (H : Hp) (E : XK) (hr : Room 0 (A.deeper (envOfC "Slack.den" (defScope s_Slack_den) s.heap.objs.size f cdv))) :
    PSs (cxOf CX0 P wd K mg base N_Slack_den "Slack.den" (defScope s_Slack_den) f cdv A outer s H E).nox (defBody s_Slack_den) (upS K E w_Slack_den) :=
  (qss_one (qs_ret (q_fldV T.c_Slack (by decide) (pv 0))))
/-! ### Slack.__add__ -/
abbrev s_Slack__add_ : Stmt := inClass (top 14) 4
abbrev N_Slack__add_ : List Str := ["self", "other"]
theorem sc_Slack__add_ : FnScope N_Slack__add_ ["self", "other"] (defScope s_Slack__add_) := ⟨rfl, rfl, rfl, by decide +kernel, rfl, by decide +kernel, by decide +kernel⟩
def w_Slack__add_ : WS := (sSeq (sIf (wNot (wTru (eIsC "Slack" (eVarB 1)))) sNever sNext)
    (sRet (eMakeY yR "Slack" 2 C_Slack_mk [] (aCons (eBin oAdd (eBin oMul (eFldV "Slack" 0 "own_num") (eFldV "Slack" 1 "own_den")) (eBin oMul (eFldV "Slack" 1 "own_num") (eFldV "Slack" 0 "own_den"))) (aCons (eBin oMul (eFldV "Slack" 0 "own_den") (eFldV "Slack" 1 "own_den")) aNil)))))
theorem b_Slack__add_ {P : Program} {wd : World} {K : PySem.W.Frag} {mg : Str → Option Value} {base : Heap} (T : Tx K mg) (M_Slack_0 : MkrX P wd K mg base "Slack" ["self", "num", "den"] 2 3 C_Slack_mk []) (f : Addr) (cdv : Value) (A : Around) (outer : List Env) (s : Shared) (H : Hp) (E : XK) (hr : Room 4 (A.deeper (envOfC "Slack.__add__" (defScope s_Slack__add_) s.heap.objs.size f cdv))) (tk : TkE (cxOf (L2.CX P wd) P wd K mg base N_Slack__add_ "Slack.__add__" (defScope s_Slack__add_) f cdv A outer s H E) E) :
    PSs (cxOf (L2.CX P wd) P wd K mg base N_Slack__add_ "Slack.__add__" (defScope s_Slack__add_) f cdv A outer s H E) (defBody s_Slack__add_) (upS K E w_Slack__add_) :=
  (qss_cons (qs_if (qt_not (qt_v (qb (q_isC T.k_Slack (by rfl) T.g_Slack (by rfl) T.z_isinstance (qb_v 1 (pv 1)))))) (qss_one qs_never) qss_nil)
    (qss_one (qs_ret (q_mkY M_Slack_0 (yx_R tk) hr (by decide) (by rfl) (qa_cons (q_op op_addU opd_add (qb (q_op op_mulU opd_mul (qb (q_fldV T.c_Slack (by decide) (pv 0))) (qb (q_fldV T.c_Slack (by decide) (pv 1))))) (qb (q_op op_mulU opd_mul (qb (q_fldV T.c_Slack (by decide) (pv 1))) (qb (q_fldV T.c_Slack (by decide) (pv 0)))))) (qa_cons (q_op op_mulU opd_mul (qb (q_fldV T.c_Slack (by decide) (pv 0))) (qb (q_fldV T.c_Slack (by decide) (pv 1)))) qa_nil))))))
/-! ### Slack.__mul__ -/
abbrev s_Slack__mul_ : Stmt := inClass (top 14) 5
abbrev N_Slack__mul_ : List Str := ["self", "other"]
theorem sc_Slack__mul_ : FnScope N_Slack__mul_ ["self", "other"] (defScope s_Slack__mul_) := ⟨rfl, rfl, rfl, by decide +kernel, rfl, by decide +kernel, by decide +kernel⟩
def w_Slack__mul_ : WS := (sSeq (sIf (wNot (wTru (eCall 1 C_is_integer [] (aCons (eVar 1) aNil)))) sNever sNext)
    (sSeq (sExpr (eCall 1 C_need_whole [] (aCons (eVar 1) aNil)))
    (sRet (eMakeY yR "Slack" 2 C_Slack_mk [] (aCons (eBin oMul (eFldV "Slack" 0 "own_num") (eVarB 1)) (aCons (eFldV "Slack" 0 "own_den") aNil))))))
theorem b_Slack__mul_ {P : Program} {wd : World} {K : PySem.W.Frag} {mg : Str → Option Value} {base : Heap} (T : Tx K mg) (F_is_integer : Fn P wd K mg base "is_integer" ["thing"] 1 1 C_is_integer) (F_need_whole : FnX P wd K mg base "need_whole" ["number"] 1 3 C_need_whole) (M_Slack_0 : MkrX P wd K mg base "Slack" ["self", "num", "den"] 2 3 C_Slack_mk []) (f : Addr) (cdv : Value) (A : Around) (outer : List Env) (s : Shared) (H : Hp) (E : XK) (hr : Room 4 (A.deeper (envOfC "Slack.__mul__" (defScope s_Slack__mul_) s.heap.objs.size f cdv))) (tk : TkE (cxOf (L2.CX P wd) P wd K mg base N_Slack__mul_ "Slack.__mul__" (defScope s_Slack__mul_) f cdv A outer s H E) E) :
    PSs (cxOf (L2.CX P wd) P wd K mg base N_Slack__mul_ "Slack.__mul__" (defScope s_Slack__mul_) f cdv A outer s H E) (defBody s_Slack__mul_) (upS K E w_Slack__mul_) :=
  (qss_cons (qs_if (qt_not (qt_v (qb (q_f F_is_integer calm_is_integer hr (by decide) (by rfl) (qa_cons (q_v 1 (pv 1)) qa_nil))))) (qss_one qs_never) qss_nil)
    (qss_cons (qs_expr (qb (q_fx F_need_whole tk hr (by decide) (by rfl) (qa_cons (q_v 1 (pv 1)) qa_nil))))
    (qss_one (qs_ret (q_mkY M_Slack_0 (yx_R tk) hr (by decide) (by rfl) (qa_cons (q_op op_mulU opd_mul (qb (q_fldV T.c_Slack (by decide) (pv 0))) (qb_v 1 (pv 1))) (qa_cons (q_fldV T.c_Slack (by decide) (pv 0)) qa_nil)))))))
/-! ### Slack.__rmul__ -/
abbrev s_Slack__rmul_ : Stmt := inClass (top 14) 6
abbrev N_Slack__rmul_ : List Str := ["self", "other"]
theorem sc_Slack__rmul_ : FnScope N_Slack__rmul_ ["self", "other"] (defScope s_Slack__rmul_) := ⟨rfl, rfl, rfl, by decide +kernel, rfl, by decide +kernel, by decide +kernel⟩
def w_Slack__rmul_ : WS := (sSeq (sIf (wNot (wTru (eCall 1 C_is_integer [] (aCons (eVar 1) aNil)))) sNever sNext)
    (sSeq (sExpr (eCall 1 C_need_whole [] (aCons (eVar 1) aNil)))
    (sRet (eMakeY yR "Slack" 2 C_Slack_mk [] (aCons (eBin oMul (eFldV "Slack" 0 "own_num") (eVarB 1)) (aCons (eFldV "Slack" 0 "own_den") aNil))))))
theorem b_Slack__rmul_ {P : Program} {wd : World} {K : PySem.W.Frag} {mg : Str → Option Value} {base : Heap} (T : Tx K mg) (F_is_integer : Fn P wd K mg base "is_integer" ["thing"] 1 1 C_is_integer) (F_need_whole : FnX P wd K mg base "need_whole" ["number"] 1 3 C_need_whole) (M_Slack_0 : MkrX P wd K mg base "Slack" ["self", "num", "den"] 2 3 C_Slack_mk []) (f : Addr) (cdv : Value) (A : Around) (outer : List Env) (s : Shared) (H : Hp) (E : XK) (hr : Room 4 (A.deeper (envOfC "Slack.__rmul__" (defScope s_Slack__rmul_) s.heap.objs.size f cdv))) (tk : TkE (cxOf (L2.CX P wd) P wd K mg base N_Slack__rmul_ "Slack.__rmul__" (defScope s_Slack__rmul_) f cdv A outer s H E) E) :
    PSs (cxOf (L2.CX P wd) P wd K mg base N_Slack__rmul_ "Slack.__rmul__" (defScope s_Slack__rmul_) f cdv A outer s H E) (defBody s_Slack__rmul_) (upS K E w_Slack__rmul_) :=
  (qss_cons (qs_if (qt_not (qt_v (qb (q_f F_is_integer calm_is_integer hr (by decide) (by rfl) (qa_cons (q_v 1 (pv 1)) qa_nil))))) (qss_one qs_never) qss_nil)
    (qss_cons (qs_expr (qb (q_fx F_need_whole tk hr (by decide) (by rfl) (qa_cons (q_v 1 (pv 1)) qa_nil))))
    (qss_one (qs_ret (q_mkY M_Slack_0 (yx_R tk) hr (by decide) (by rfl) (qa_cons (q_op op_mulU opd_mul (qb (q_fldV T.c_Slack (by decide) (pv 0))) (qb_v 1 (pv 1))) (qa_cons (q_fldV T.c_Slack (by decide) (pv 0)) qa_nil)))))))
/-! ### Slack.__eq__ -/
abbrev s_Slack__eq_ : Stmt := inClass (top 14) 7
abbrev N_Slack__eq_ : List Str := ["self", "other"]
theorem sc_Slack__eq_ : FnScope N_Slack__eq_ ["self", "other"] (defScope s_Slack__eq_) := ⟨rfl, rfl, rfl, by decide +kernel, rfl, by decide +kernel, by decide +kernel⟩
def w_Slack__eq_ : WS := (sRet (eAndV (eIsC "Slack" (eVarB 1)) (eAndV (eBin oEq (eFldV "Slack" 0 "own_num") (eFldV "Slack" 1 "own_num")) (eBin oEq (eFldV "Slack" 0 "own_den") (eFldV "Slack" 1 "own_den")))))
theorem b_Slack__eq_ {P : Program} {wd : World} {K : PySem.W.Frag} {mg : Str → Option Value} {base : Heap} (T : Tx K mg)  (f : Addr) (cdv : Value) (A : Around) (outer : List Env) (s : Shared) (H : Hp) (E : XK) (hr : Room 0 (A.deeper (envOfC "Slack.__eq__" (defScope s_Slack__eq_) s.heap.objs.size f cdv))) :
    PSs (cxOf CX0 P wd K mg base N_Slack__eq_ "Slack.__eq__" (defScope s_Slack__eq_) f cdv A outer s H E).nox (defBody s_Slack__eq_) (upS K E w_Slack__eq_) :=
  (qss_one (qs_ret (q_and (q_isC T.k_Slack (by rfl) T.g_Slack (by rfl) T.z_isinstance (qb_v 1 (pv 1))) (q_and (q_cmp (op_eqD hr.units) opd_eq (qb (q_fldV T.c_Slack (by decide) (pv 0))) (qb (q_fldV T.c_Slack (by decide) (pv 1))) (nomark _)) (q_one (q_cmp (op_eqD hr.units) opd_eq (qb (q_fldV T.c_Slack (by decide) (pv 0))) (qb (q_fldV T.c_Slack (by decide) (pv 1))) (nomark _)))))))
/-! ### Slack.__lt__ -/
abbrev s_Slack__lt_ : Stmt := inClass (top 14) 8
abbrev N_Slack__lt_ : List Str := ["self", "other"]
theorem sc_Slack__lt_ : FnScope N_Slack__lt_ ["self", "other"] (defScope s_Slack__lt_) := ⟨rfl, rfl, rfl, by decide +kernel, rfl, by decide +kernel, by decide +kernel⟩
def w_Slack__lt_ : WS := (sSeq (sIf (wNot (wTru (eIsC "Slack" (eVarB 1)))) sNever sNext)
    (sRet (eBin oLt (eBin oMul (eFldV "Slack" 0 "own_num") (eFldV "Slack" 1 "own_den")) (eBin oMul (eFldV "Slack" 1 "own_num") (eFldV "Slack" 0 "own_den")))))
theorem b_Slack__lt_ {P : Program} {wd : World} {K : PySem.W.Frag} {mg : Str → Option Value} {base : Heap} (T : Tx K mg)  (f : Addr) (cdv : Value) (A : Around) (outer : List Env) (s : Shared) (H : Hp) (E : XK) (hr : Room 0 (A.deeper (envOfC "Slack.__lt__" (defScope s_Slack__lt_) s.heap.objs.size f cdv))) :
    PSs (cxOf CX0 P wd K mg base N_Slack__lt_ "Slack.__lt__" (defScope s_Slack__lt_) f cdv A outer s H E).nox (defBody s_Slack__lt_) (upS K E w_Slack__lt_) :=
  (qss_cons (qs_if (qt_not (qt_v (qb (q_isC T.k_Slack (by rfl) T.g_Slack (by rfl) T.z_isinstance (qb_v 1 (pv 1)))))) (qss_one qs_never) qss_nil)
    (qss_one (qs_ret (q_cmp (op_ltU hr.units0) opd_lt (qb (q_op op_mulU opd_mul (qb (q_fldV T.c_Slack (by decide) (pv 0))) (qb (q_fldV T.c_Slack (by decide) (pv 1))))) (qb (q_op op_mulU opd_mul (qb (q_fldV T.c_Slack (by decide) (pv 1))) (qb (q_fldV T.c_Slack (by decide) (pv 0))))) (nomark _)))))
/-! ### Slack.__le__ -/
abbrev s_Slack__le_ : Stmt := inClass (top 14) 9
abbrev N_Slack__le_ : List Str := ["self", "other"]
theorem sc_Slack__le_ : FnScope N_Slack__le_ ["self", "other"] (defScope s_Slack__le_) := ⟨rfl, rfl, rfl, by decide +kernel, rfl, by decide +kernel, by decide +kernel⟩
def w_Slack__le_ : WS := (sSeq (sIf (wNot (wTru (eIsC "Slack" (eVarB 1)))) sNever sNext)
    (sRet (eBin oLe (eBin oMul (eFldV "Slack" 0 "own_num") (eFldV "Slack" 1 "own_den")) (eBin oMul (eFldV "Slack" 1 "own_num") (eFldV "Slack" 0 "own_den")))))
theorem b_Slack__le_ {P : Program} {wd : World} {K : PySem.W.Frag} {mg : Str → Option Value} {base : Heap} (T : Tx K mg)  (f : Addr) (cdv : Value) (A : Around) (outer : List Env) (s : Shared) (H : Hp) (E : XK) (hr : Room 0 (A.deeper (envOfC "Slack.__le__" (defScope s_Slack__le_) s.heap.objs.size f cdv))) :
    PSs (cxOf CX0 P wd K mg base N_Slack__le_ "Slack.__le__" (defScope s_Slack__le_) f cdv A outer s H E).nox (defBody s_Slack__le_) (upS K E w_Slack__le_) :=
  (qss_cons (qs_if (qt_not (qt_v (qb (q_isC T.k_Slack (by rfl) T.g_Slack (by rfl) T.z_isinstance (qb_v 1 (pv 1)))))) (qss_one qs_never) qss_nil)
    (qss_one (qs_ret (q_cmp op_le opd_le (qb (q_op op_mulU opd_mul (qb (q_fldV T.c_Slack (by decide) (pv 0))) (qb (q_fldV T.c_Slack (by decide) (pv 1))))) (qb (q_op op_mulU opd_mul (qb (q_fldV T.c_Slack (by decide) (pv 1))) (qb (q_fldV T.c_Slack (by decide) (pv 0))))) (nomark _)))))
/-! ### Slack.__gt__ -/
abbrev s_Slack__gt_ : Stmt := inClass (top 14) 10
abbrev N_Slack__gt_ : List Str := ["self", "other"]
theorem sc_Slack__gt_ : FnScope N_Slack__gt_ ["self", "other"] (defScope s_Slack__gt_) := ⟨rfl, rfl, rfl, by decide +kernel, rfl, by decide +kernel, by decide +kernel⟩
def w_Slack__gt_ : WS := (sSeq (sIf (wNot (wTru (eIsC "Slack" (eVarB 1)))) sNever sNext)
    (sRet (eBin oGt (eBin oMul (eFldV "Slack" 0 "own_num") (eFldV "Slack" 1 "own_den")) (eBin oMul (eFldV "Slack" 1 "own_num") (eFldV "Slack" 0 "own_den")))))
theorem b_Slack__gt_ {P : Program} {wd : World} {K : PySem.W.Frag} {mg : Str → Option Value} {base : Heap} (T : Tx K mg)  (f : Addr) (cdv : Value) (A : Around) (outer : List Env) (s : Shared) (H : Hp) (E : XK) (hr : Room 0 (A.deeper (envOfC "Slack.__gt__" (defScope s_Slack__gt_) s.heap.objs.size f cdv))) :
    PSs (cxOf CX0 P wd K mg base N_Slack__gt_ "Slack.__gt__" (defScope s_Slack__gt_) f cdv A outer s H E).nox (defBody s_Slack__gt_) (upS K E w_Slack__gt_) :=
  (qss_cons (qs_if (qt_not (qt_v (qb (q_isC T.k_Slack (by rfl) T.g_Slack (by rfl) T.z_isinstance (qb_v 1 (pv 1)))))) (qss_one qs_never) qss_nil)
    (qss_one (qs_ret (q_cmp op_gt opd_gt (qb (q_op op_mulU opd_mul (qb (q_fldV T.c_Slack (by decide) (pv 0))) (qb (q_fldV T.c_Slack (by decide) (pv 1))))) (qb (q_op op_mulU opd_mul (qb (q_fldV T.c_Slack (by decide) (pv 1))) (qb (q_fldV T.c_Slack (by decide) (pv 0))))) (nomark _)))))
/-! ### Slack.__ge__ -/
abbrev s_Slack__ge_ : Stmt := inClass (top 14) 11
abbrev N_Slack__ge_ : List Str := ["self", "other"]
theorem sc_Slack__ge_ : FnScope N_Slack__ge_ ["self", "other"] (defScope s_Slack__ge_) := ⟨rfl, rfl, rfl, by decide +kernel, rfl, by decide +kernel, by decide +kernel⟩
def w_Slack__ge_ : WS := (sSeq (sIf (wNot (wTru (eIsC "Slack" (eVarB 1)))) sNever sNext)
    (sRet (eBin oGe (eBin oMul (eFldV "Slack" 0 "own_num") (eFldV "Slack" 1 "own_den")) (eBin oMul (eFldV "Slack" 1 "own_num") (eFldV "Slack" 0 "own_den")))))
theorem b_Slack__ge_ {P : Program} {wd : World} {K : PySem.W.Frag} {mg : Str → Option Value} {base : Heap} (T : Tx K mg)  (f : Addr) (cdv : Value) (A : Around) (outer : List Env) (s : Shared) (H : Hp) (E : XK) (hr : Room 0 (A.deeper (envOfC "Slack.__ge__" (defScope s_Slack__ge_) s.heap.objs.size f cdv))) :
    PSs (cxOf CX0 P wd K mg base N_Slack__ge_ "Slack.__ge__" (defScope s_Slack__ge_) f cdv A outer s H E).nox (defBody s_Slack__ge_) (upS K E w_Slack__ge_) :=
  (qss_cons (qs_if (qt_not (qt_v (qb (q_isC T.k_Slack (by rfl) T.g_Slack (by rfl) T.z_isinstance (qb_v 1 (pv 1)))))) (qss_one qs_never) qss_nil)
    (qss_one (qs_ret (q_cmp op_ge opd_ge (qb (q_op op_mulU opd_mul (qb (q_fldV T.c_Slack (by decide) (pv 0))) (qb (q_fldV T.c_Slack (by decide) (pv 1))))) (qb (q_op op_mulU opd_mul (qb (q_fldV T.c_Slack (by decide) (pv 1))) (qb (q_fldV T.c_Slack (by decide) (pv 0))))) (nomark _)))))
/-! ### Slack.__str__ -/
abbrev s_Slack__str_ : Stmt := inClass (top 14) 12
abbrev N_Slack__str_ : List Str := ["self"]
theorem sc_Slack__str_ : FnScope N_Slack__str_ ["self"] (defScope s_Slack__str_) := ⟨rfl, rfl, rfl, by decide +kernel, rfl, by decide +kernel, by decide +kernel⟩
def w_Slack__str_ : WS := (sSeq (sIf (wTest (eBin oEq (eFldV "Slack" 0 "own_den") (eC (.int 1)))) (sRet (eCB bStrI (aCons (eFldV "Slack" 0 "own_num") aNil))) sNext)
    (sRet (eJ3 (eFm (eFldV "Slack" 0 "own_num")) (eC (.str "/")) (eFm (eFldV "Slack" 0 "own_den")))))
theorem b_Slack__str_ {P : Program} {wd : World} {K : PySem.W.Frag} {mg : Str → Option Value} {base : Heap} (T : Tx K mg)  (f : Addr) (cdv : Value) (A : Around) (outer : List Env) (s : Shared) (H : Hp) (E : XK) (hr : Room 0 (A.deeper (envOfC "Slack.__str__" (defScope s_Slack__str_) s.heap.objs.size f cdv))) :
    PSs (cxOf CX0 P wd K mg base N_Slack__str_ "Slack.__str__" (defScope s_Slack__str_) f cdv A outer s H E).nox (defBody s_Slack__str_) (upS K E w_Slack__str_) :=
  (qss_cons (qs_if (qt_cmp (op_eqD hr.units) opd_eq (qb (q_fldV T.c_Slack (by decide) (pv 0))) (qb q_int) (nomark _)) (qss_one (qs_ret (q_Ty call_str_int bd_strI (by rfl) T.z_str (by decide +kernel) (qab_cons (qb (q_fldV T.c_Slack (by decide) (pv 0))) qab_nil)))) qss_nil)
    (qss_one (qs_ret (q_j3 (q_fm (q_fldV T.c_Slack (by decide) (pv 0))) q_str (q_fm (q_fldV T.c_Slack (by decide) (pv 0)))))))
/-! ### _law_pick -/
abbrev s_L_pick : Stmt := top 18
abbrev N_L_pick : List Str := ["_law_draw", "_law_some"]
theorem sc_L_pick : FnScope N_L_pick ["_law_draw", "_law_some"] (defScope s_L_pick) := ⟨rfl, rfl, rfl, by decide +kernel, rfl, by decide +kernel, by decide +kernel⟩
def w_L_pick : WS := (sRet (eBin oIx (eVarB 1) (eCall 2 C_L_next [] (aCons (eVar 0) (aCons (eCB bLen (aCons (eVarB 1) aNil)) aNil)))))
theorem b_L_pick {P : Program} {wd : World} {K : PySem.W.Frag} {mg : Str → Option Value} {base : Heap} (T : Tx K mg) (F_L_next : Fn P wd K mg base "_law_next" ["_law_draw", "_law_many"] 2 1 C_L_next) (f : Addr) (cdv : Value) (A : Around) (outer : List Env) (s : Shared) (H : Hp) (E : XK) (hr : Room 1 (A.deeper (envOfC "_law_pick" (defScope s_L_pick) s.heap.objs.size f cdv))) :
    PSs (cxOf CX0 P wd K mg base N_L_pick "_law_pick" (defScope s_L_pick) f cdv A outer s H E).nox (defBody s_L_pick) (upS K E w_L_pick) :=
  (qss_one (qs_ret (q_ix ix_seq opd_ix (qb_v 1 (pv 1)) (qb (q_f F_L_next calm_L_next hr (by decide) (by rfl) (qa_cons (q_v 0 (pv 0)) (qa_cons (q_B call_lenU bd_len (by rfl) T.z_len PySem.boot_len (qab_cons (qb_v 1 (pv 1)) qab_nil)) qa_nil)))))))
/-! ### _law_number -/
abbrev s_L_number : Stmt := top 20
abbrev N_L_number : List Str := ["_law_draw", "_law_most"]
theorem sc_L_number : FnScope N_L_number ["_law_draw"] (defScope s_L_number) := ⟨rfl, rfl, rfl, by decide +kernel, rfl, by decide +kernel, by decide +kernel⟩
def w_L_number : WS := (sSeq (sAsg (eCall 2 C_L_pick [] (aCons (eVar 0) (aCons (eFz (nLst (aCons (eC (.int 4)) (aCons (eC (.int 30)) (aCons (eC (.int 1000)) (aCons (eBin oPow (eC (.int 10)) (eC (.int 12))) (aCons (eBin oPow (eC (.int 10)) (eC (.int 30))) aNil))))))) aNil))) (gNm 1))
    (sRet (eCall 2 C_L_next [] (aCons (eVar 0) (aCons (eVar 1) aNil)))))
theorem b_L_number {P : Program} {wd : World} {K : PySem.W.Frag} {mg : Str → Option Value} {base : Heap} (T : Tx K mg) (F_L_pick : Fn P wd K mg base "_law_pick" ["_law_draw", "_law_some"] 2 2 C_L_pick) (F_L_next : Fn P wd K mg base "_law_next" ["_law_draw", "_law_many"] 2 1 C_L_next) (f : Addr) (cdv : Value) (A : Around) (outer : List Env) (s : Shared) (H : Hp) (E : XK) (hr : Room 2 (A.deeper (envOfC "_law_number" (defScope s_L_number) s.heap.objs.size f cdv))) :
    PSs (cxOf CX0 P wd K mg base N_L_number "_law_number" (defScope s_L_number) f cdv A outer s H E).nox (defBody s_L_number) (upS K E w_L_number) :=
  (qss_cons (qs_set (i := 1) sc_L_number.nd rfl (Or.inl rfl) (q_f F_L_pick calm_L_pick hr (by decide) (by rfl) (qa_cons (q_v 0 (pv 0)) (qa_cons (qf (qn_lst (qa_cons q_int (qa_cons q_int (qa_cons q_int (qa_cons (q_op op_pow opd_pow (qb q_int) (qb q_int)) (qa_cons (q_op op_pow opd_pow (qb q_int) (qb q_int)) qa_nil))))))) qa_nil))))
    (qss_one (qs_ret (q_f F_L_next calm_L_next hr (by decide) (by rfl) (qa_cons (q_v 0 (pv 0)) (qa_cons (q_v 1 (pv 1)) qa_nil))))))
/-! ### _law_common -/
abbrev s_L_common : Stmt := top 21
abbrev N_L_common : List Str := ["_law_one", "_law_other"]
theorem sc_L_common : FnScope N_L_common ["_law_one", "_law_other"] (defScope s_L_common) := ⟨rfl, rfl, rfl, by decide +kernel, rfl, by decide +kernel, by decide +kernel⟩
def w_L_common : WS := (sSeq (sWhile (wTest (eBin oGt (eVarB 0) (eC (.int 0)))) (sPar 0 1 (aCons (eBin oMod (eVarB 1) (eVarB 0)) (aCons (eVar 0) aNil))))
    (sRet (eVar 1)))
theorem b_L_common {P : Program} {wd : World} {K : PySem.W.Frag} {mg : Str → Option Value} {base : Heap} (T : Tx K mg)  (f : Addr) (cdv : Value) (A : Around) (outer : List Env) (s : Shared) (H : Hp) (E : XK) (hr : Room 0 (A.deeper (envOfC "_law_common" (defScope s_L_common) s.heap.objs.size f cdv))) :
    PSs (cxOf CX0 P wd K mg base N_L_common "_law_common" (defScope s_L_common) f cdv A outer s H E).nox (defBody s_L_common) (upS K E w_L_common) :=
  (qss_cons (qs_while PassesOwn.never (qt_cmp op_gt opd_gt (qb_v 0 (pv 0)) (qb q_int) (nomark _)) (qss_one (qs_par (i := 0) (j := 1) rfl sc_L_common.nd rfl rfl (by decide) rfl rfl (qa_cons (q_op op_mod opd_mod (qb_v 1 (pv 1)) (qb_v 0 (pv 0))) (qa_cons (q_v 0 (pv 0)) qa_nil)) (by rfl))))
    (qss_one (qs_ret (q_v 1 (pv 1)))))
/-! ### _law_texts -/
abbrev s_L_texts : Stmt := top 22
abbrev N_L_texts : List Str := ["_law_draw", "_law_above", "_law_below", "_law_plain", "_law_some"]
theorem sc_L_texts : FnScope N_L_texts ["_law_draw", "_law_above", "_law_below"] (defScope s_L_texts) := ⟨rfl, rfl, rfl, by decide +kernel, rfl, by decide +kernel, by decide +kernel⟩
def w_L_texts : WS := (sSeq (sAsg (eBin oAdd (eBin oAdd (eCB bStrI (aCons (eVarB 1) aNil)) (eC (.str "/"))) (eCB bStrI (aCons (eVarB 2) aNil))) (gNm 3))
    (sSeq (sAsg (eFz (nLst (aCons (eC (.str "")) (aCons (eC (.str "/")) (aCons (eBin oAdd (eVarB 3) (eC (.str "/1"))) (aCons (eBin oAdd (eC (.str "0")) (eVarB 3)) (aCons (eBin oAdd (eVarB 3) (eC (.str " "))) (aCons (eBin oAdd (eC (.str "-")) (eVarB 3)) (aCons (eBin oAdd (eCB bStrI (aCons (eVarB 1) aNil)) (eC (.str "/0"))) (aCons (eBin oAdd (eCB bStrI (aCons (eVarB 1) aNil)) (eC (.str "/"))) (aCons (eC (.str "1/02")) aNil))))))))))) (gNm 4))
    (sSeq (sAsg (eBin oAdd (eVarB 4) (eFz (nLst (aCons (eC (.str "x")) (aCons (eBin oAdd (eCB bStrI (aCons (eVarB 1) aNil)) (eC (.str ".5"))) (aCons (eBin oAdd (eC (.str "/")) (eCB bStrI (aCons (eVarB 2) aNil))) (aCons (eBin oMulS (eC (.str "1")) (eC (.int 41))) (aCons (eC (.str "00")) (aCons (eC .non) aNil))))))))) (gNm 4))
    (sRet (eBin oAdd (eVarB 4) (eFz (nLst (aCons (eC (.int 5)) (aCons (eTup (aCons (eC (.str "1")) aNil)) (aCons (eC (.str "1 /2")) (aCons (eC (.str "+1")) aNil)))))))))))
theorem b_L_texts {P : Program} {wd : World} {K : PySem.W.Frag} {mg : Str → Option Value} {base : Heap} (T : Tx K mg)  (f : Addr) (cdv : Value) (A : Around) (outer : List Env) (s : Shared) (H : Hp) (E : XK) (hr : Room 0 (A.deeper (envOfC "_law_texts" (defScope s_L_texts) s.heap.objs.size f cdv))) :
    PSs (cxOf CX0 P wd K mg base N_L_texts "_law_texts" (defScope s_L_texts) f cdv A outer s H E).nox (defBody s_L_texts) (upS K E w_L_texts) :=
  (qss_cons (qs_set (i := 3) sc_L_texts.nd rfl (Or.inl rfl) (q_op op_addU opd_add (qb (q_op op_addU opd_add (qb (q_Ty call_str_int bd_strI (by rfl) T.z_str (by decide +kernel) (qab_cons (qb_v 1 (pv 1)) qab_nil))) (qb q_str))) (qb (q_Ty call_str_int bd_strI (by rfl) T.z_str (by decide +kernel) (qab_cons (qb_v 2 (pv 2)) qab_nil)))))
    (qss_cons (qs_set (i := 4) sc_L_texts.nd rfl (Or.inl rfl) (qf (qn_lst (qa_cons q_str (qa_cons q_str (qa_cons (q_op op_addU opd_add (qb_v 3 (pv 3)) (qb q_str)) (qa_cons (q_op op_addU opd_add (qb q_str) (qb_v 3 (pv 3))) (qa_cons (q_op op_addU opd_add (qb_v 3 (pv 3)) (qb q_str)) (qa_cons (q_op op_addU opd_add (qb q_str) (qb_v 3 (pv 3))) (qa_cons (q_op op_addU opd_add (qb (q_Ty call_str_int bd_strI (by rfl) T.z_str (by decide +kernel) (qab_cons (qb_v 1 (pv 1)) qab_nil))) (qb q_str)) (qa_cons (q_op op_addU opd_add (qb (q_Ty call_str_int bd_strI (by rfl) T.z_str (by decide +kernel) (qab_cons (qb_v 1 (pv 1)) qab_nil))) (qb q_str)) (qa_cons q_str qa_nil))))))))))))
    (qss_cons (qs_set (i := 4) sc_L_texts.nd rfl (Or.inl rfl) (q_op op_addU opd_add (qb_v 4 (pv 4)) (qbf (qn_lst (qa_cons q_str (qa_cons (q_op op_addU opd_add (qb (q_Ty call_str_int bd_strI (by rfl) T.z_str (by decide +kernel) (qab_cons (qb_v 1 (pv 1)) qab_nil))) (qb q_str)) (qa_cons (q_op op_addU opd_add (qb q_str) (qb (q_Ty call_str_int bd_strI (by rfl) T.z_str (by decide +kernel) (qab_cons (qb_v 2 (pv 2)) qab_nil)))) (qa_cons (q_op op_mulS opd_mulS (qb q_str) (qb q_int)) (qa_cons q_str (qa_cons q_non qa_nil))))))))))
    (qss_one (qs_ret (q_op op_addU opd_add (qb_v 4 (pv 4)) (qbf (qn_lst (qa_cons q_int (qa_cons (q_tup (qa_cons q_str qa_nil)) (qa_cons q_str (qa_cons q_str qa_nil))))))))))))
/-! ### _law_read_right -/
abbrev s_L_read_right : Stmt := top 23
abbrev N_L_read_right : List Str := ["_law_draw", "_law_above", "_law_below", "_law_shared", "_law_due", "_law_wording", "_law_odd", "_law_ones", "_law_sevens"]
theorem sc_L_read_right : FnScope N_L_read_right ["_law_draw", "_law_above", "_law_below"] (defScope s_L_read_right) := ⟨rfl, rfl, rfl, by decide +kernel, rfl, by decide +kernel, by decide +kernel⟩
def w_L_read_right : WS := (sSeq (sAsg (eCall 2 C_L_common [] (aCons (eVar 1) (aCons (eVar 2) aNil))) (gNm 3))
    (sSeq (sAsg (eFz (nLst (aCons (eBin oDiv (eVarB 1) (eVarB 3)) (aCons (eBin oDiv (eVarB 2) (eVarB 3)) aNil)))) (gNm 4))
    (sSeq (sFor (iSq (eTup (aCons (eBin oAdd (eBin oAdd (eCB bStrI (aCons (eVarB 1) aNil)) (eC (.str "/"))) (eCB bStrI (aCons (eVarB 2) aNil))) (aCons (eStrO "Slack" C_Slack_str (aCons (eMakeY yN "Slack" 2 C_Slack_mk [] (aCons (eVar 1) (aCons (eVar 2) aNil))) aNil)) aNil)))) (gNm 5) (sIf (wTest (eBin oNe (eSaidT "Slack" "own_num" "own_den" tagL (eCMethK yR 1 (List.length (["text"] : List Str)) C_Slack_read (aCons (eVar 5) aNil))) (eVarB 4))) (sRet (eC (.bl false))) sNext))
    (sSeq (sAsg (eCall 2 C_L_pick [] (aCons (eVar 0) (aCons (eCall 3 C_L_texts [] (aCons (eVar 0) (aCons (eVar 1) (aCons (eVar 2) aNil)))) aNil))) (gNm 6))
    (sSeq (sIf (wTest (eBin oNe (eSaidT "Slack" "own_num" "own_den" tagL (eCMeth yR 1 C_Slack_read (aCons (eVar 6) aNil))) (eFz (nLst (aCons (eC (.str "slack")) (aCons (eVar 6) aNil)))))) (sRet (eC (.bl false))) sNext)
    (sSeq (sAsg (eTup (aCons (eBin oMulS (eC (.str "1")) (eC (.int 40))) (aCons (eBin oMulS (eC (.str "7")) (eC (.int 40))) aNil))) (gTp 2 (gsCons (gNm 7) (gsCons (gNm 8) gsNil))))
    (sSeq (sIf (wOr (wTest (eBin (oOwn "Slack" C_Slack_eqv true) (eCMeth yN 1 C_Slack_read (aCons (eBin oAdd (eBin oAdd (eVarB 7) (eC (.str "/"))) (eVarB 8)) aNil)) (eMakeY yN "Slack" 2 C_Slack_mk [] (aCons (eC (.int 1)) (aCons (eC (.int 7)) aNil))))) (wTest (eBin (oOwn "Slack" C_Slack_eqv true) (eCMeth yN 1 C_Slack_read (aCons (eVar 8) aNil)) (eMakeY yN "Slack" 2 C_Slack_mk [.int 1] (aCons (eCB bIntS (aCons (eVarB 8) aNil)) aNil))))) (sRet (eC (.bl false))) sNext)
    (sSeq (sIf (wTest (eBin oNe (eSaidT "Slack" "own_num" "own_den" tagL (eCMeth yR 1 C_Slack_read (aCons (eBin oAdd (eBin oAdd (eBin oAdd (eVarB 7) (eC (.str "/"))) (eVarB 8)) (eC (.str "7"))) aNil))) (eFz (nLst (aCons (eC (.str "slack")) (aCons (eBin oAdd (eBin oAdd (eBin oAdd (eVarB 7) (eC (.str "/"))) (eVarB 8)) (eC (.str "7"))) aNil)))))) (sRet (eC (.bl false))) sNext)
    (sRet (eAndV (eBin oEqS (eStrO "Slack" C_Slack_str (aCons (eMakeY yN "Slack" 2 C_Slack_mk [.int 1] (aCons (eVar 1) aNil)) aNil)) (eCB bStrI (aCons (eVarB 1) aNil))) (eBin (oOwn "Slack" C_Slack_eqv false) (eCMeth yN 1 C_Slack_read (aCons (eC (.str "0/7")) aNil)) (eMakeY yN "Slack" 2 C_Slack_mk [.int 1] (aCons (eC (.int 0)) aNil)))))))))))))
theorem b_L_read_right {P : Program} {wd : World} {K : PySem.W.Frag} {mg : Str → Option Value} {base : Heap} (T : Tx K mg) (F_L_common : Fn P wd K mg base "_law_common" ["_law_one", "_law_other"] 2 1 C_L_common) (SF_Slack : StrF P wd K mg base "Slack" 1 C_Slack_str) (M_Slack_0 : MkrX P wd K mg base "Slack" ["self", "num", "den"] 2 3 C_Slack_mk []) (S_said : SaidT P wd K mg base 4 (fvT K "Slack" "own_num" "own_den") (csL K) (lL K)) (hD_said : ∀ cn z, tagL cn = some z → ExQ K (He.ga K cn) ∧ PySem.W.findIn K (.ref (He.ga K cn)) "given" = some none ∧ PySem.W.exmAny K (.ref (He.ga K cn)) (csL K) = some true ∧ Hits K (He.ga K cn) (lL K) z) (hlx : lamX K = true) (CM_Slack_read : CMethF P wd K mg base "Slack" "read" 1 5 ["text"] (List.range (1 + 1)) C_Slack_read) (F_L_pick : Fn P wd K mg base "_law_pick" ["_law_draw", "_law_some"] 2 2 C_L_pick) (F_L_texts : Fn P wd K mg base "_law_texts" ["_law_draw", "_law_above", "_law_below"] 3 1 C_L_texts) (O_Slack_eq : OwnOp P wd K mg base "Slack" "__eq__" 1 C_Slack_eqv) (M_Slack_1 : MkrX P wd K mg base "Slack" ["self", "num", "den"] 2 3 C_Slack_mk [.int 1]) (TB : LamX.TabB base mg (He.cT K ("_law_read_right", none)).1 (He.cT K ("_law_read_right", none)).2) (A : Around) (outer : List Env) (s : Shared) (H : Hp) (E : XK) (hr : Room 8 (A.deeper (envOfC "_law_read_right" (defScope s_L_read_right) s.heap.objs.size (He.fAd K ("_law_read_right", none)) (.ref (He.cT K ("_law_read_right", none)).1)))) :
    PSs (cxOf CX0 P wd K mg base N_L_read_right "_law_read_right" (defScope s_L_read_right) (He.fAd K ("_law_read_right", none)) (.ref (He.cT K ("_law_read_right", none)).1) A outer s H E).nox (defBody s_L_read_right) (upS K E w_L_read_right) :=
  (qss_cons (qs_set (i := 3) sc_L_read_right.nd rfl (Or.inl rfl) (q_f F_L_common calm_L_common hr (by decide) (by rfl) (qa_cons (q_v 1 (pv 1)) (qa_cons (q_v 2 (pv 2)) qa_nil))))
    (qss_cons (qs_set (i := 4) sc_L_read_right.nd rfl (Or.inl rfl) (qf (qn_lst (qa_cons (q_op op_fdivW opd_div (qb_v 1 (pv 1)) (qb_v 3 (pv 3))) (qa_cons (q_op op_fdivW opd_div (qb_v 2 (pv 2)) (qb_v 3 (pv 3))) qa_nil)))))
    (qss_cons (qs_for (is := [5]) PassesOwn.never rfl (qi_sq (q_tup (qa_cons (q_op op_addU opd_add (qb (q_op op_addU opd_add (qb (q_Ty call_str_int bd_strI (by rfl) T.z_str (by decide +kernel) (qab_cons (qb_v 1 (pv 1)) qab_nil))) (qb q_str))) (qb (q_Ty call_str_int bd_strI (by rfl) T.z_str (by decide +kernel) (qab_cons (qb_v 2 (pv 2)) qab_nil)))) (qa_cons (q_strO SF_Slack hr (by decide) (by rfl) T.z_str (qa_cons (q_mkY M_Slack_0 yx_N hr (by decide) (by rfl) (qa_cons (q_v 1 (pv 1)) (qa_cons (q_v 2 (pv 2)) qa_nil))) qa_nil)) qa_nil)))) (qg_nm (pg_name (i := 5) sc_L_read_right.nd rfl (Or.inr rfl))) (qss_one (qs_if (qt_cmp (op_neD hr.units) opd_ne (qb (q_saidT (q := "_law_read_right") S_said (by decide) hD_said (by rfl) TB rfl rfl (by decide) hlx hr (LamX.lamS_by (sc := defScope s_L_read_right) (by decide +kernel)) rfl (fun _ _ _ _ _ => rfl) (fun A outer s H E f c hr tk => (q_cmK CM_Slack_read (yx_R tk) hr (by decide) (by rfl) (qk_cons (q_v 5 (pv 5)) qk_nil))))) (qb_v 4 (pv 4)) (nomark _)) (qss_one (qs_ret q_bl)) qss_nil)))
    (qss_cons (qs_set (i := 6) sc_L_read_right.nd rfl (Or.inr rfl) (q_f F_L_pick calm_L_pick hr (by decide) (by rfl) (qa_cons (q_v 0 (pv 0)) (qa_cons (q_f F_L_texts calm_L_texts hr (by decide) (by rfl) (qa_cons (q_v 0 (pv 0)) (qa_cons (q_v 1 (pv 1)) (qa_cons (q_v 2 (pv 2)) qa_nil)))) qa_nil))))
    (qss_cons (qs_if (qt_cmp (op_neD hr.units) opd_ne (qb (q_saidT (q := "_law_read_right") S_said (by decide) hD_said (by rfl) TB rfl rfl (by decide) hlx hr (LamX.lamS_by (sc := defScope s_L_read_right) (by decide +kernel)) rfl (fun _ _ _ _ _ => rfl) (fun A outer s H E f c hr tk => (q_cm CM_Slack_read (yx_R tk) hr (by decide) (by rfl) (qa_cons (q_v 6 (pv 6)) qa_nil))))) (qbf (qn_lst (qa_cons q_str (qa_cons (q_v 6 (pv 6)) qa_nil)))) (nomark _)) (qss_one (qs_ret q_bl)) qss_nil)
    (qss_cons (qs_asg [7, 8] (q_tup (qa_cons (q_op op_mulS opd_mulS (qb q_str) (qb q_int)) (qa_cons (q_op op_mulS opd_mulS (qb q_str) (qb q_int)) qa_nil))) (qg_tp rfl (qgs_cons (qg_nm (pg_name (i := 7) sc_L_read_right.nd rfl (Or.inr rfl))) (qgs_cons (qg_nm (pg_name (i := 8) sc_L_read_right.nd rfl (Or.inr rfl))) qgs_nil))))
    (qss_cons (qs_if (PW.pt (qw_or (qt_ownNe T.n_Slack O_Slack_eq hr (by decide) (qb (q_cm CM_Slack_read yx_N hr (by decide) (by rfl) (qa_cons (q_op op_addU opd_add (qb (q_op op_addU opd_add (qb_v 7 (pv 7)) (qb q_str))) (qb_v 8 (pv 8))) qa_nil))) (qb (q_mkY M_Slack_0 yx_N hr (by decide) (by rfl) (qa_cons q_int (qa_cons q_int qa_nil)))) (nomark _)) (qw_or1 (qt_ownNe T.n_Slack O_Slack_eq hr (by decide) (qb (q_cm CM_Slack_read yx_N hr (by decide) (by rfl) (qa_cons (q_v 8 (pv 8)) qa_nil))) (qb (q_mkY M_Slack_1 yx_N hr (by decide) (by rfl) (qa_cons (q_Ty call_int_str bd_intS (by rfl) T.z_int (by decide +kernel) (qab_cons (qb_v 8 (pv 8)) qab_nil)) qa_nil))) (nomark _))))) (qss_one (qs_ret q_bl)) qss_nil)
    (qss_cons (qs_if (qt_cmp (op_neD hr.units) opd_ne (qb (q_saidT (q := "_law_read_right") S_said (by decide) hD_said (by rfl) TB rfl rfl (by decide) hlx hr (LamX.lamS_by (sc := defScope s_L_read_right) (by decide +kernel)) rfl (fun _ _ _ _ _ => rfl) (fun A outer s H E f c hr tk => (q_cm CM_Slack_read (yx_R tk) hr (by decide) (by rfl) (qa_cons (q_op op_addU opd_add (qb (q_op op_addU opd_add (qb (q_op op_addU opd_add (qb_v 7 (pv 7)) (qb q_str))) (qb_v 8 (pv 8)))) (qb q_str)) qa_nil))))) (qbf (qn_lst (qa_cons q_str (qa_cons (q_op op_addU opd_add (qb (q_op op_addU opd_add (qb (q_op op_addU opd_add (qb_v 7 (pv 7)) (qb q_str))) (qb_v 8 (pv 8)))) (qb q_str)) qa_nil)))) (nomark _)) (qss_one (qs_ret q_bl)) qss_nil)
    (qss_one (qs_ret (q_and (q_cmp op_eq opd_eqS (qb (q_strO SF_Slack hr (by decide) (by rfl) T.z_str (qa_cons (q_mkY M_Slack_1 yx_N hr (by decide) (by rfl) (qa_cons (q_v 1 (pv 1)) qa_nil)) qa_nil))) (qb (q_Ty call_str_int bd_strI (by rfl) T.z_str (by decide +kernel) (qab_cons (qb_v 1 (pv 1)) qab_nil))) (nomark _)) (q_one (q_own (fun _ _ => rfl) O_Slack_eq hr (by decide) (qb (q_cm CM_Slack_read yx_N hr (by decide) (by rfl) (qa_cons q_str qa_nil))) (qb (q_mkY M_Slack_1 yx_N hr (by decide) (by rfl) (qa_cons q_int qa_nil))) (nomark _))))))))))))))
/-! ### _law_order_right -/
abbrev s_L_order_right : Stmt := top 24
abbrev N_L_order_right : List Str := ["_law_above", "_law_below", "_law_far", "_law_low", "_law_one", "_law_other", "_law_left", "_law_right", "_law_told", "_law_due"]
theorem sc_L_order_right : FnScope N_L_order_right ["_law_above", "_law_below", "_law_far", "_law_low"] (defScope s_L_order_right) := ⟨rfl, rfl, rfl, by decide +kernel, rfl, by decide +kernel, by decide +kernel⟩
def w_L_order_right : WS := (sSeq (sAsg (eTup (aCons (eMakeY yN "Slack" 2 C_Slack_mk [] (aCons (eVar 0) (aCons (eVar 1) aNil))) (aCons (eMakeY yN "Slack" 2 C_Slack_mk [] (aCons (eVar 2) (aCons (eVar 3) aNil))) aNil))) (gTp 2 (gsCons (gNm 4) (gsCons (gNm 5) gsNil))))
    (sSeq (sPar 6 7 (aCons (eBin oMul (eVarB 0) (eVarB 3)) (aCons (eBin oMul (eVarB 2) (eVarB 1)) aNil)))
    (sSeq (sAsg (eFz (nLst (aCons (eBin (oOwn "Slack" C_Slack_lt false) (eVarB 4) (eVarB 5)) (aCons (eBin (oOwn "Slack" C_Slack_le false) (eVarB 4) (eVarB 5)) (aCons (eBin (oOwn "Slack" C_Slack_gt false) (eVarB 4) (eVarB 5)) (aCons (eBin (oOwn "Slack" C_Slack_ge false) (eVarB 4) (eVarB 5)) (aCons (eBin (oOwn "Slack" C_Slack_eqv false) (eVarB 4) (eVarB 5)) aNil))))))) (gNm 8))
    (sSeq (sAsg (eFz (nLst (aCons (eBin oLt (eVarB 6) (eVarB 7)) (aCons (eBin oLe (eVarB 6) (eVarB 7)) (aCons (eBin oGt (eVarB 6) (eVarB 7)) (aCons (eBin oGe (eVarB 6) (eVarB 7)) aNil)))))) (gNm 9))
    (sSeq (sIf (wTest (eBin oNe (eVarB 8) (eBin oAdd (eVarB 9) (eFz (nLst (aCons (eBin oEq (eVarB 6) (eVarB 7)) aNil)))))) (sRet (eC (.bl false))) sNext)
    (sSeq (sIf (wOr (wTest (eBin (oOwn "Slack" C_Slack_eqv true) (eOwn2 yN "Slack" C_Slack_add (eVar 4) (eVar 5)) (eMakeY yN "Slack" 2 C_Slack_mk [] (aCons (eBin oAdd (eVarB 6) (eVarB 7)) (aCons (eBin oMul (eVarB 1) (eVarB 3)) aNil))))) (wTest (eBin (oOwnO "Slack" C_Slack_eqv) (eVarB 4) (eVarB 0)))) (sRet (eC (.bl false))) sNext)
    (sSeq (sIf (wOr (wTest (eBin (oOwnO "Slack" C_Slack_eqv) (eVarB 4) (eStrO "Slack" C_Slack_str (aCons (eVar 4) aNil)))) (wTest (eBin oNe (eSaidT "Slack" "own_num" "own_den" tagL (eMulI yR "Slack" C_Slack_mul (eVar 4) (eNeg (eC (.int 1))))) (eFz (nLst (aCons (eC (.str "number")) (aCons (eNeg (eC (.int 1))) aNil))))))) (sRet (eC (.bl false))) sNext)
    (sSeq (sIf (wOr (wTest (eBin oNe (eSaidT "Slack" "own_num" "own_den" tagL (eRMulI yR "Slack" C_Slack_rmul (eNeg (eC (.int 5))) (eVar 4))) (eFz (nLst (aCons (eC (.str "number")) (aCons (eNeg (eC (.int 5))) aNil)))))) (wTest (eBin (oOwn "Slack" C_Slack_eqv true) (eMulI yN "Slack" C_Slack_mul (eVar 4) (eC (.int 0))) (eMakeY yN "Slack" 2 C_Slack_mk [.int 1] (aCons (eC (.int 0)) aNil))))) (sRet (eC (.bl false))) sNext)
    (sRet (eAndV (eBin (oOwn "Slack" C_Slack_eqv false) (eMulI yN "Slack" C_Slack_mul (eVar 4) (eVar 2)) (eMakeY yN "Slack" 2 C_Slack_mk [] (aCons (eBin oMul (eVarB 0) (eVarB 2)) (aCons (eVar 1) aNil)))) (eBin (oOwn "Slack" C_Slack_eqv false) (eRMulI yN "Slack" C_Slack_rmul (eVar 2) (eVar 4)) (eMulI yN "Slack" C_Slack_mul (eVar 4) (eVar 2)))))))))))))
theorem b_L_order_right {P : Program} {wd : World} {K : PySem.W.Frag} {mg : Str → Option Value} {base : Heap} (T : Tx K mg) (M_Slack_0 : MkrX P wd K mg base "Slack" ["self", "num", "den"] 2 3 C_Slack_mk []) (O_Slack_lt : OwnOp P wd K mg base "Slack" "__lt__" 1 C_Slack_lt) (O_Slack_le : OwnOp P wd K mg base "Slack" "__le__" 1 C_Slack_le) (O_Slack_gt : OwnOp P wd K mg base "Slack" "__gt__" 1 C_Slack_gt) (O_Slack_ge : OwnOp P wd K mg base "Slack" "__ge__" 1 C_Slack_ge) (O_Slack_eq : OwnOp P wd K mg base "Slack" "__eq__" 1 C_Slack_eqv) (OF_Slack_add : OwnF P wd K mg base "Slack" "add" 5 C_Slack_add) (SF_Slack : StrF P wd K mg base "Slack" 1 C_Slack_str) (S_said : SaidT P wd K mg base 4 (fvT K "Slack" "own_num" "own_den") (csL K) (lL K)) (hD_said : ∀ cn z, tagL cn = some z → ExQ K (He.ga K cn) ∧ PySem.W.findIn K (.ref (He.ga K cn)) "given" = some none ∧ PySem.W.exmAny K (.ref (He.ga K cn)) (csL K) = some true ∧ Hits K (He.ga K cn) (lL K) z) (hlx : lamX K = true) (OF_Slack_mul : MulF P wd K mg base "Slack" 5 C_Slack_mul) (OF_Slack_rmul : RMulF P wd K mg base "Slack" 5 C_Slack_rmul) (M_Slack_1 : MkrX P wd K mg base "Slack" ["self", "num", "den"] 2 3 C_Slack_mk [.int 1]) (TB : LamX.TabB base mg (He.cT K ("_law_order_right", none)).1 (He.cT K ("_law_order_right", none)).2) (A : Around) (outer : List Env) (s : Shared) (H : Hp) (E : XK) (hr : Room 8 (A.deeper (envOfC "_law_order_right" (defScope s_L_order_right) s.heap.objs.size (He.fAd K ("_law_order_right", none)) (.ref (He.cT K ("_law_order_right", none)).1)))) :
    PSs (cxOf CX0 P wd K mg base N_L_order_right "_law_order_right" (defScope s_L_order_right) (He.fAd K ("_law_order_right", none)) (.ref (He.cT K ("_law_order_right", none)).1) A outer s H E).nox (defBody s_L_order_right) (upS K E w_L_order_right) :=
  (qss_cons (qs_asg [4, 5] (q_tup (qa_cons (q_mkY M_Slack_0 yx_N hr (by decide) (by rfl) (qa_cons (q_v 0 (pv 0)) (qa_cons (q_v 1 (pv 1)) qa_nil))) (qa_cons (q_mkY M_Slack_0 yx_N hr (by decide) (by rfl) (qa_cons (q_v 2 (pv 2)) (qa_cons (q_v 3 (pv 3)) qa_nil))) qa_nil))) (qg_tp rfl (qgs_cons (qg_nm (pg_name (i := 4) sc_L_order_right.nd rfl (Or.inr rfl))) (qgs_cons (qg_nm (pg_name (i := 5) sc_L_order_right.nd rfl (Or.inl rfl))) qgs_nil))))
    (qss_cons (qs_par (i := 6) (j := 7) rfl sc_L_order_right.nd rfl rfl (by decide) rfl rfl (qa_cons (q_op op_mulU opd_mul (qb_v 0 (pv 0)) (qb_v 3 (pv 3))) (qa_cons (q_op op_mulU opd_mul (qb_v 2 (pv 2)) (qb_v 1 (pv 1))) qa_nil)) (by rfl))
    (qss_cons (qs_set (i := 8) sc_L_order_right.nd rfl (Or.inl rfl) (qf (qn_lst (qa_cons (q_own (fun _ _ => rfl) O_Slack_lt hr (by decide) (qb_v 4 (pv 4)) (qb_v 5 (pv 5)) (nomark _)) (qa_cons (q_own (fun _ _ => rfl) O_Slack_le hr (by decide) (qb_v 4 (pv 4)) (qb_v 5 (pv 5)) (nomark _)) (qa_cons (q_own (fun _ _ => rfl) O_Slack_gt hr (by decide) (qb_v 4 (pv 4)) (qb_v 5 (pv 5)) (nomark _)) (qa_cons (q_own (fun _ _ => rfl) O_Slack_ge hr (by decide) (qb_v 4 (pv 4)) (qb_v 5 (pv 5)) (nomark _)) (qa_cons (q_own (fun _ _ => rfl) O_Slack_eq hr (by decide) (qb_v 4 (pv 4)) (qb_v 5 (pv 5)) (nomark _)) qa_nil))))))))
    (qss_cons (qs_set (i := 9) sc_L_order_right.nd rfl (Or.inl rfl) (qf (qn_lst (qa_cons (q_cmp (op_ltU hr.units0) opd_lt (qb_v 6 (pv 6)) (qb_v 7 (pv 7)) (nomark _)) (qa_cons (q_cmp op_le opd_le (qb_v 6 (pv 6)) (qb_v 7 (pv 7)) (nomark _)) (qa_cons (q_cmp op_gt opd_gt (qb_v 6 (pv 6)) (qb_v 7 (pv 7)) (nomark _)) (qa_cons (q_cmp op_ge opd_ge (qb_v 6 (pv 6)) (qb_v 7 (pv 7)) (nomark _)) qa_nil)))))))
    (qss_cons (qs_if (qt_cmp (op_neD hr.units) opd_ne (qb_v 8 (pv 8)) (qb (q_op op_addU opd_add (qb_v 9 (pv 9)) (qbf (qn_lst (qa_cons (q_cmp (op_eqD hr.units) opd_eq (qb_v 6 (pv 6)) (qb_v 7 (pv 7)) (nomark _)) qa_nil))))) (nomark _)) (qss_one (qs_ret q_bl)) qss_nil)
    (qss_cons (qs_if (PW.pt (qw_or (qt_ownNe T.n_Slack O_Slack_eq hr (by decide) (qb (q_own2 (op := .Add) OF_Slack_add yx_N hr (by decide) (q_v 4 (pv 4)) (q_v 5 (pv 5)))) (qb (q_mkY M_Slack_0 yx_N hr (by decide) (by rfl) (qa_cons (q_op op_addU opd_add (qb_v 6 (pv 6)) (qb_v 7 (pv 7))) (qa_cons (q_op op_mulU opd_mul (qb_v 1 (pv 1)) (qb_v 3 (pv 3))) qa_nil)))) (nomark _)) (qw_or1 (qt_ownO T.o_Slack O_Slack_eq hr (by decide) (qb_v 4 (pv 4)) (qb_v 0 (pv 0)) (nomark _))))) (qss_one (qs_ret q_bl)) qss_nil)
    (qss_cons (qs_if (PW.pt (qw_or (qt_ownO T.o_Slack O_Slack_eq hr (by decide) (qb_v 4 (pv 4)) (qb (q_strO SF_Slack hr (by decide) (by rfl) T.z_str (qa_cons (q_v 4 (pv 4)) qa_nil))) (nomark _)) (qw_or1 (qt_cmp (op_neD hr.units) opd_ne (qb (q_saidT (q := "_law_order_right") S_said (by decide) hD_said (by rfl) TB rfl rfl (by decide) hlx hr (LamX.lamS_by (sc := defScope s_L_order_right) (by decide +kernel)) rfl (fun _ _ _ _ _ => rfl) (fun A outer s H E f c hr tk => (q_mulI OF_Slack_mul (yx_R tk) hr (by decide) (q_v 4 (pv 4)) (q_neg (qb q_int)))))) (qbf (qn_lst (qa_cons q_str (qa_cons (q_neg (qb q_int)) qa_nil)))) (nomark _))))) (qss_one (qs_ret q_bl)) qss_nil)
    (qss_cons (qs_if (PW.pt (qw_or (qt_cmp (op_neD hr.units) opd_ne (qb (q_saidT (q := "_law_order_right") S_said (by decide) hD_said (by rfl) TB rfl rfl (by decide) hlx hr (LamX.lamS_by (sc := defScope s_L_order_right) (by decide +kernel)) rfl (fun _ _ _ _ _ => rfl) (fun A outer s H E f c hr tk => (q_rmulI OF_Slack_rmul (yx_R tk) hr (by decide) (q_neg (qb q_int)) (q_v 4 (pv 4)))))) (qbf (qn_lst (qa_cons q_str (qa_cons (q_neg (qb q_int)) qa_nil)))) (nomark _)) (qw_or1 (qt_ownNe T.n_Slack O_Slack_eq hr (by decide) (qb (q_mulI OF_Slack_mul yx_N hr (by decide) (q_v 4 (pv 4)) q_int)) (qb (q_mkY M_Slack_1 yx_N hr (by decide) (by rfl) (qa_cons q_int qa_nil))) (nomark _))))) (qss_one (qs_ret q_bl)) qss_nil)
    (qss_one (qs_ret (q_and (q_own (fun _ _ => rfl) O_Slack_eq hr (by decide) (qb (q_mulI OF_Slack_mul yx_N hr (by decide) (q_v 4 (pv 4)) (q_v 2 (pv 2)))) (qb (q_mkY M_Slack_0 yx_N hr (by decide) (by rfl) (qa_cons (q_op op_mulU opd_mul (qb_v 0 (pv 0)) (qb_v 2 (pv 2))) (qa_cons (q_v 1 (pv 1)) qa_nil)))) (nomark _)) (q_one (q_own (fun _ _ => rfl) O_Slack_eq hr (by decide) (qb (q_rmulI OF_Slack_rmul yx_N hr (by decide) (q_v 2 (pv 2)) (q_v 4 (pv 4)))) (qb (q_mulI OF_Slack_mul yx_N hr (by decide) (q_v 4 (pv 4)) (q_v 2 (pv 2)))) (nomark _))))))))))))))
/-! ### law -/
abbrev s_law : Stmt := top 25
abbrev N_law : List Str := ["_law_script", "_law_draw", "_law_turn", "_law_above", "_law_below", "_law_far", "_law_low", "_law_shared", "_law_due", "_law_odd", "_law_told"]
theorem sc_law : FnScope N_law ["_law_script"] (defScope s_law) := ⟨rfl, rfl, rfl, by decide +kernel, rfl, by decide +kernel, by decide +kernel⟩
def w_law : WS := (sSeq (sFor (iR1 (aCons (eC (.int 6)) aNil)) (gNm 2) (sSeq (sAsg (eTup (aCons (eCall 1 C_L_number [] (aCons (eVar 1) aNil)) (aCons (eBin oAdd (eC (.int 1)) (eCall 1 C_L_number [] (aCons (eVar 1) aNil))) aNil))) (gTp 2 (gsCons (gNm 3) (gsCons (gNm 4) gsNil))))
    (sSeq (sPar 5 6 (aCons (eCall 1 C_L_number [] (aCons (eVar 1) aNil)) (aCons (eBin oAdd (eC (.int 1)) (eCall 1 C_L_number [] (aCons (eVar 1) aNil))) aNil)))
    (sSeq (sAsg (eCall 2 C_L_common [] (aCons (eVar 3) (aCons (eVar 4) aNil))) (gNm 7))
    (sSeq (sAsg (eFz (nLst (aCons (eBin oDiv (eVarB 3) (eVarB 7)) (aCons (eBin oDiv (eVarB 4) (eVarB 7)) aNil)))) (gNm 8))
    (sSeq (sIf (wTest (eBin oNe (eSaidT "Slack" "own_num" "own_den" tagL (eMakeK yR "Slack" 2 (List.length (["den", "num"] : List Str)) C_Slack_mk [1, 0] (aCons (eVar 4) (aCons (eVar 3) aNil)))) (eVarB 8))) (sRet (eC (.bl false))) sNext)
    (sSeq (sIf (wNot (wTru (eCall 3 C_L_read_right [] (aCons (eVar 1) (aCons (eVar 3) (aCons (eVar 4) aNil)))))) (sRet (eC (.bl false))) sNext)
    (sSeq (sIf (wNot (wTru (eCall 4 C_L_order_right [] (aCons (eVar 3) (aCons (eVar 4) (aCons (eVar 5) (aCons (eVar 6) aNil))))))) (sRet (eC (.bl false))) sNext)
    (sSeq (sAsg (eCall 2 C_L_pick [] (aCons (eVar 1) (aCons (eFz (nLst (aCons (eNeg (eC (.int 1))) (aCons (eC .non) (aCons (eC (.bl true)) (aCons (eC (.str "1")) (aCons (eTup (aCons (eC (.int 1)) aNil)) (aCons (eBin oSub (eBin oSub (eC (.int 1)) (eVarB 4)) (eC (.int 1))) aNil)))))))) aNil))) (gNm 9))
    (sSeq (sSetN 10 (nLst (aCons (eSaidT "Slack" "own_num" "own_den" tagL (eMakeY yR "Slack" 2 C_Slack_mk [] (aCons (eVar 9) (aCons (eVar 4) aNil)))) aNil)))
    (sSeq (sMt' 10 mAppend (aCons (eSaidT "Slack" "own_num" "own_den" tagL (eMakeY yR "Slack" 2 C_Slack_mk [] (aCons (eVar 3) (aCons (eVar 9) aNil)))) aNil))
    (sSeq (sIf (wTest (eBin oNeS (eCB bRepr (aCons (eVarB 10) aNil)) (eCB bRepr (aCons (eFz (nLst (aCons (eFz (nLst (aCons (eC (.str "slack")) (aCons (eTup (aCons (eVar 9) (aCons (eVar 4) aNil))) aNil)))) (aCons (eFz (nLst (aCons (eC (.str "slack")) (aCons (eTup (aCons (eVar 3) (aCons (eVar 9) aNil))) aNil)))) aNil)))) aNil)))) (sRet (eC (.bl false))) sNext)
    (sIf (wTest (eBin oNe (eSaidT "Slack" "own_num" "own_den" tagL (eMakeY yR "Slack" 2 C_Slack_mk [] (aCons (eVar 3) (aCons (eC (.int 0)) aNil)))) (eFz (nLst (aCons (eC (.str "slack")) (aCons (eTup (aCons (eVar 3) (aCons (eC (.int 0)) aNil))) aNil)))))) (sRet (eC (.bl false))) sNext)))))))))))))
    (sRet (eC (.bl true))))
theorem b_law {P : Program} {wd : World} {K : PySem.W.Frag} {mg : Str → Option Value} {base : Heap} (T : Tx K mg) (F_L_begin : FnS P wd K mg base "_law_begin" ["_law_script"] 1 (spBegin K)) (F_L_number : Fn P wd K mg base "_law_number" ["_law_draw"] 1 3 C_L_number) (F_L_common : Fn P wd K mg base "_law_common" ["_law_one", "_law_other"] 2 1 C_L_common) (S_said : SaidT P wd K mg base 4 (fvT K "Slack" "own_num" "own_den") (csL K) (lL K)) (hD_said : ∀ cn z, tagL cn = some z → ExQ K (He.ga K cn) ∧ PySem.W.findIn K (.ref (He.ga K cn)) "given" = some none ∧ PySem.W.exmAny K (.ref (He.ga K cn)) (csL K) = some true ∧ Hits K (He.ga K cn) (lL K) z) (hlx : lamX K = true) (MK_Slack_den_num : MkrKX P wd K mg base "Slack" ["self", "num", "den"] 2 3 C_Slack_mk ["den", "num"] (0 :: List.map (· + 1) [1, 0])) (F_L_read_right : FnG P wd K mg base "_law_read_right" ["_law_draw", "_law_above", "_law_below"] 3 9 C_L_read_right) (F_L_order_right : FnG P wd K mg base "_law_order_right" ["_law_above", "_law_below", "_law_far", "_law_low"] 4 9 C_L_order_right) (F_L_pick : Fn P wd K mg base "_law_pick" ["_law_draw", "_law_some"] 2 2 C_L_pick) (M_Slack_0 : MkrX P wd K mg base "Slack" ["self", "num", "den"] 2 3 C_Slack_mk []) (TB : LamX.TabB base mg (He.cT K ("law", none)).1 (He.cT K ("law", none)).2) (A : Around) (outer : List Env) (s : Shared) (H : Hp) (E : XK) (hgd : A.guards = some []) (hr : Room 9 (A.deeper (envOfC "law" (defScope s_law) s.heap.objs.size (He.ga K "law") (.ref (He.cT K ("law", none)).1)))) :
    PSs (cxOf CX0 P wd K mg base N_law "law" (defScope s_law) (He.ga K "law") (.ref (He.cT K ("law", none)).1) A outer s H E).nox (defBody s_law) (tSeq (tAsg (tCall (spBegin K) [] E0 (tCons (tVar 0) tNil)) (gName 1)) (upS K E w_law)) := by
  obtain ⟨fdB, FB, bB, kB, gB⟩ := F_L_begin
  exact pss_cons (ps_set (i := 1) sc_law.nd rfl (Or.inl rfl) (pe_call FB (hr.mono (by decide)) (by rfl) gB kB bB .nil pass0 (pa_cons (pv 0) pa_nil)))
    (qss_cons (qs_for (is := [2]) PassesOwn.never rfl (qi_r1 (by rfl) T.z_range (qa_cons q_int qa_nil)) (qg_nm (pg_name (i := 2) sc_law.nd rfl (Or.inl rfl))) (qss_cons (qs_asg [3, 4] (q_tup (qa_cons (q_f F_L_number calm_L_number hr (by decide) (by rfl) (qa_cons (q_v 1 (pv 1)) qa_nil)) (qa_cons (q_op op_addU opd_add (qb q_int) (qb (q_f F_L_number calm_L_number hr (by decide) (by rfl) (qa_cons (q_v 1 (pv 1)) qa_nil)))) qa_nil))) (qg_tp rfl (qgs_cons (qg_nm (pg_name (i := 3) sc_law.nd rfl (Or.inr rfl))) (qgs_cons (qg_nm (pg_name (i := 4) sc_law.nd rfl (Or.inr rfl))) qgs_nil))))
    (qss_cons (qs_par (i := 5) (j := 6) rfl sc_law.nd rfl rfl (by decide) rfl rfl (qa_cons (q_f F_L_number calm_L_number hr (by decide) (by rfl) (qa_cons (q_v 1 (pv 1)) qa_nil)) (qa_cons (q_op op_addU opd_add (qb q_int) (qb (q_f F_L_number calm_L_number hr (by decide) (by rfl) (qa_cons (q_v 1 (pv 1)) qa_nil)))) qa_nil)) (by rfl))
    (qss_cons (qs_set (i := 7) sc_law.nd rfl (Or.inl rfl) (q_f F_L_common calm_L_common hr (by decide) (by rfl) (qa_cons (q_v 3 (pv 3)) (qa_cons (q_v 4 (pv 4)) qa_nil))))
    (qss_cons (qs_set (i := 8) sc_law.nd rfl (Or.inl rfl) (qf (qn_lst (qa_cons (q_op op_fdivW opd_div (qb_v 3 (pv 3)) (qb_v 7 (pv 7))) (qa_cons (q_op op_fdivW opd_div (qb_v 4 (pv 4)) (qb_v 7 (pv 7))) qa_nil)))))
    (qss_cons (qs_if (qt_cmp (op_neD hr.units) opd_ne (qb (q_saidT (q := "law") S_said (by decide) hD_said (by rfl) TB rfl rfl (by decide) hlx hr (LamX.lamS_by (sc := defScope s_law) (by decide +kernel)) rfl (fun _ _ _ _ _ => rfl) (fun A outer s H E f c hr tk => (q_mkK (pm := [1, 0]) MK_Slack_den_num (yx_R tk) hr (by decide) (by rfl) (qk_cons (q_v 4 (pv 4)) (qk_cons (q_v 3 (pv 3)) qk_nil)))))) (qb_v 8 (pv 8)) (nomark _)) (qss_one (qs_ret q_bl)) qss_nil)
    (qss_cons (qs_if (qt_not (qt_v (qb (q_fg F_L_read_right calm_L_read_right hgd hr (by decide) (by rfl) (qa_cons (q_v 1 (pv 1)) (qa_cons (q_v 3 (pv 3)) (qa_cons (q_v 4 (pv 4)) qa_nil))))))) (qss_one (qs_ret q_bl)) qss_nil)
    (qss_cons (qs_if (qt_not (qt_v (qb (q_fg F_L_order_right calm_L_order_right hgd hr (by decide) (by rfl) (qa_cons (q_v 3 (pv 3)) (qa_cons (q_v 4 (pv 4)) (qa_cons (q_v 5 (pv 5)) (qa_cons (q_v 6 (pv 6)) qa_nil)))))))) (qss_one (qs_ret q_bl)) qss_nil)
    (qss_cons (qs_set (i := 9) sc_law.nd rfl (Or.inr rfl) (q_f F_L_pick calm_L_pick hr (by decide) (by rfl) (qa_cons (q_v 1 (pv 1)) (qa_cons (qf (qn_lst (qa_cons (q_neg (qb q_int)) (qa_cons q_non (qa_cons q_bl (qa_cons q_str (qa_cons (q_tup (qa_cons q_int qa_nil)) (qa_cons (q_op op_sub opd_sub (qb (q_op op_sub opd_sub (qb q_int) (qb_v 4 (pv 4)))) (qb q_int)) qa_nil)))))))) qa_nil))))
    (qss_cons (qs_setN (i := 10) sc_law.nd rfl (Or.inl rfl) (qn_lst (qa_cons (q_saidT (q := "law") S_said (by decide) hD_said (by rfl) TB rfl rfl (by decide) hlx hr (LamX.lamS_by (sc := defScope s_law) (by decide +kernel)) rfl (fun _ _ _ _ _ => rfl) (fun A outer s H E f c hr tk => (q_mkY M_Slack_0 (yx_R tk) hr (by decide) (by rfl) (qa_cons (q_v 9 (pv 9)) (qa_cons (q_v 4 (pv 4)) qa_nil))))) qa_nil)))
    (qss_cons (qs_append (pv 10) (qa_cons (q_saidT (q := "law") S_said (by decide) hD_said (by rfl) TB rfl rfl (by decide) hlx hr (LamX.lamS_by (sc := defScope s_law) (by decide +kernel)) rfl (fun _ _ _ _ _ => rfl) (fun A outer s H E f c hr tk => (q_mkY M_Slack_0 (yx_R tk) hr (by decide) (by rfl) (qa_cons (q_v 3 (pv 3)) (qa_cons (q_v 9 (pv 9)) qa_nil))))) qa_nil))
    (qss_cons (qs_if (qt_cmp op_ne opd_neS (qb (q_B (call_reprU hgd hr.units) bd_repr (by rfl) T.z_repr (by decide +kernel) (qab_cons (qb_v 10 (pv 10)) qab_nil))) (qb (q_B (call_reprU hgd hr.units) bd_repr (by rfl) T.z_repr (by decide +kernel) (qab_cons (qbf (qn_lst (qa_cons (qf (qn_lst (qa_cons q_str (qa_cons (q_tup (qa_cons (q_v 9 (pv 9)) (qa_cons (q_v 4 (pv 4)) qa_nil))) qa_nil)))) (qa_cons (qf (qn_lst (qa_cons q_str (qa_cons (q_tup (qa_cons (q_v 3 (pv 3)) (qa_cons (q_v 9 (pv 9)) qa_nil))) qa_nil)))) qa_nil)))) qab_nil))) (nomark _)) (qss_one (qs_ret q_bl)) qss_nil)
    (qss_one (qs_if (qt_cmp (op_neD hr.units) opd_ne (qb (q_saidT (q := "law") S_said (by decide) hD_said (by rfl) TB rfl rfl (by decide) hlx hr (LamX.lamS_by (sc := defScope s_law) (by decide +kernel)) rfl (fun _ _ _ _ _ => rfl) (fun A outer s H E f c hr tk => (q_mkY M_Slack_0 (yx_R tk) hr (by decide) (by rfl) (qa_cons (q_v 3 (pv 3)) (qa_cons q_int qa_nil)))))) (qbf (qn_lst (qa_cons q_str (qa_cons (q_tup (qa_cons (q_v 3 (pv 3)) (qa_cons q_int qa_nil))) qa_nil)))) (nomark _)) (qss_one (qs_ret q_bl)) qss_nil))))))))))))))
    (qss_one (qs_ret q_bl)))
end DL
set_option maxHeartbeats 4000000
namespace DL
open PySem PySem.Spec PyProof.Rows L2
theorem mulB {i j A B : Int} (h1 : -A ≤ i) (h2 : i ≤ A) (h3 : -B ≤ j) (h4 : j ≤ B) : -(A * B) ≤ i * j ∧ i * j ≤ A * B := by
  have k1 : 0 ≤ (A - i) * (B - j) := Int.mul_nonneg (by omega) (by omega)
  have k2 : 0 ≤ (A + i) * (B + j) := Int.mul_nonneg (by omega) (by omega)
  have k3 : 0 ≤ (A - i) * (B + j) := Int.mul_nonneg (by omega) (by omega)
  have k4 : 0 ≤ (A + i) * (B - j) := Int.mul_nonneg (by omega) (by omega)
  constructor <;> grind
theorem turn_lt {o a b : Pt} (ho : Bd o) (ha : Bd a) (hb : Bd b) : -1000000000000000 ≤ turn o a b ∧ turn o a b ≤ 1000000000000000 := by
  obtain ⟨_, _, _, _⟩ := ho
  obtain ⟨_, _, _, _⟩ := ha
  obtain ⟨_, _, _, _⟩ := hb
  have h1 := mulB (i := a.1 - o.1) (j := b.2 - o.2) (A := 20000000) (B := 20000000) (by omega) (by omega) (by omega) (by omega)
  have h2 := mulB (i := a.2 - o.2) (j := b.1 - o.1) (A := 20000000) (B := 20000000) (by omega) (by omega) (by omega) (by omega)
  unfold turn
  omega
theorem prod_lt {o a b : Pt} (ho : Bd o) (ha : Bd a) (hb : Bd b) : -1000000000000000 ≤ prod o a b ∧ prod o a b ≤ 1000000000000000 := by
  obtain ⟨_, _, _, _⟩ := ho
  obtain ⟨_, _, _, _⟩ := ha
  obtain ⟨_, _, _, _⟩ := hb
  have h1 := mulB (i := a.1 - o.1) (j := b.1 - o.1) (A := 20000000) (B := 20000000) (by omega) (by omega) (by omega) (by omega)
  have h2 := mulB (i := a.2 - o.2) (j := b.2 - o.2) (A := 20000000) (B := 20000000) (by omega) (by omega) (by omega) (by omega)
  unfold prod
  omega
theorem sq_nn (i : Int) : 0 ≤ i * i := by
  rcases Int.le_total 0 i with h | h
  · exact Int.mul_nonneg h h
  · exact Int.mul_nonneg_of_nonpos_of_nonpos h h
theorem prod_nn (a b : Pt) : 0 ≤ prod a b b := by
  have := sq_nn (b.1 - a.1)
  have := sq_nn (b.2 - a.2)
  unfold prod
  omega
theorem offP_lt {p a b : Pt} (hp : Bd p) (ha : Bd a) (hb : Bd b) : 0 ≤ (offP p a b).1 ∧ 1 ≤ (offP p a b).2 ∧ (offP p a b).2 ≤ 1000000000000000 := by
  simp only [offP]
  split
  · exact ⟨prod_nn a p, Int.le_refl 1, by simp⟩
  · split
    · exact ⟨prod_nn b p, Int.le_refl 1, by simp⟩
    · have := prod_lt ha hb hb
      refine ⟨?_, by omega, by omega⟩
      have := sq_nn (turn a b p)
      simpa [Int.pow_succ] using this
theorem gcd_step (i j : Int) (hj : 0 ≤ j) (hi : 0 ≤ i) : Int.gcd (i % j) j = Int.gcd j i := by
  obtain ⟨a, rfl⟩ := Int.eq_ofNat_of_zero_le hi
  obtain ⟨b, rfl⟩ := Int.eq_ofNat_of_zero_le hj
  have : ((a : Int) % (b : Int)) = ((a % b : Nat) : Int) := by omega
  rw [this]
  show Nat.gcd (a % b) b = Nat.gcd b a
  rw [← Nat.gcd_rec]
theorem gcd_pos {a b : Int} (h : 1 ≤ b) : 0 < (Int.gcd a b : Int) := by
  have : Int.gcd a b ≠ 0 := by
    intro e
    rw [Int.gcd_eq_zero_iff] at e
    omega
  omega
theorem gcd_le {a b : Int} (h : 1 ≤ b) : (Int.gcd a b : Int) ≤ b := Int.le_of_dvd (by omega) (Int.gcd_dvd_right ..)
theorem off_same (p a b : Pt) : offP p a b = offL p a b := by
  unfold offP offL prod turn
  simp only
  have e1 : (b.1 - a.1) * (p.1 - a.1) + (b.2 - a.2) * (p.2 - a.2) = (p.1 - a.1) * (b.1 - a.1) + (p.2 - a.2) * (b.2 - a.2) := by grind
  rw [e1]
  by_cases h1 : (p.1 - a.1) * (b.1 - a.1) + (p.2 - a.2) * (b.2 - a.2) ≤ 0
  · rw [if_pos h1, if_pos (Or.inl h1)]
  · rw [if_neg h1]
    have h2 : ¬ (b.1 - a.1) * (b.1 - a.1) + (b.2 - a.2) * (b.2 - a.2) = 0 := by
      intro z
      have q1 := sq_nn (b.1 - a.1)
      have q2 := sq_nn (b.2 - a.2)
      have z1 : (b.1 - a.1) * (b.1 - a.1) = 0 := by omega
      have z2 : (b.2 - a.2) * (b.2 - a.2) = 0 := by omega
      have w1 : b.1 - a.1 = 0 := by rcases Int.mul_eq_zero.1 z1 with q | q <;> exact q
      have w2 : b.2 - a.2 = 0 := by rcases Int.mul_eq_zero.1 z2 with q | q <;> exact q
      rw [w1, w2] at h1
      simp at h1
    have h3 : ¬ ((p.1 - a.1) * (b.1 - a.1) + (p.2 - a.2) * (b.2 - a.2) ≤ 0 ∨ (b.1 - a.1) * (b.1 - a.1) + (b.2 - a.2) * (b.2 - a.2) = 0) := fun q => q.elim h1 h2
    rw [if_neg h3]
    split
    · rfl
    · rw [Prod.mk.injEq]
      refine ⟨?_, rfl⟩
      grind
end DL
set_option maxHeartbeats 4000000
/-! texts of slacks: what is read of them -/
namespace DL
open PySem PySem.Spec PyProof.Rows L2 TL
def dgt (c : Nat) : Bool := decide (48 ≤ c) && decide (c ≤ 57)
def nL (l : List Nat) : Int := if (decide (1 ≤ l.length) && decide (l.length ≤ 40) && l.all dgt) = true then (if (decide (1 < l.length) && decide (l.head? = some 48)) = true then -1 else ((NumText.digitsVal l : Nat) : Int)) else -1
theorem dgt_mem (c : Nat) : decide (c ∈ ("0123456789" : Str).cps.toList) = dgt c := by
  have e : ("0123456789" : Str).cps.toList = [48, 49, 50, 51, 52, 53, 54, 55, 56, 57] := by decide +kernel
  rw [e]
  unfold dgt
  simp only [List.mem_cons, List.not_mem_nil, or_false]
  rw [← Bool.decide_and]
  apply decide_eq_decide.mpr
  omega
theorem digB_all (s : Str) : digB s = (tl s).all dgt := by
  unfold digB
  congr 1
  funext c
  exact dgt_mem c
theorem numIn_nL (s : Str) : numIn s = nL (tl s) := by
  unfold numIn nL
  rw [digB_all, len_tl]
  split
  · rename_i h
    split
    · rfl
    · simp only [Bool.and_eq_true, decide_eq_true_eq] at h
      rw [intText_digits (x := s) (fun c hc => by
        have := List.all_eq_true.mp h.2 c hc
        unfold dgt at this
        simpa using this) (fun z => by
          have h1 := h.1.1
          have z' : tl s = [] := z
          rw [z'] at h1
          simp at h1) (by rw [len_tl]; omega)]
      rfl
  · rfl
def rdL (parts : List (List Nat)) : Option (Int × Int) := match parts.map nL with
  | [a] => if a = -1 then none else some (a, 1)
  | [a, b] => if a = -1 ∨ b = -1 ∨ b = 0 then none else some (a, b)
  | _ => none
theorem readS_rdL (s : Str) : readS s = rdL (spl [47] 0 [] (tl s)) := by
  have e1 : tl ("/" : Str) = [47] := by decide +kernel
  have e2 := split_spl s ("/" : Str) (by rw [e1]; simp) (kind_ok (by decide +kernel))
  rw [e1] at e2
  unfold readS rdL
  rw [← e2, List.map_map]
  have e3 : (Txt.split s "/").map numIn = (Txt.split s "/").map (nL ∘ tl) := List.map_congr_left fun x _ => numIn_nL x
  first
  | (rw [e3]; done)
  | (rw [e3]
     generalize List.map (nL ∘ tl) (Txt.split s (Str.ofString "/")) = L
     rcases L with _ | ⟨a, _ | ⟨b, _ | ⟨c, t⟩⟩⟩ <;> rfl)
theorem readD_str (s : Str) : readD (.str s) = readS s := rfl
theorem tl_tS {i : Int} (h : 0 ≤ i) : tl (tS i) = numL i.toNat := by
  have e : i = ((i.toNat : Nat) : Int) := by omega
  unfold tS
  rw [e]
  exact tl_num _
theorem numL_head {n : Nat} (h : 1 ≤ n) : (numL n).head? ≠ some 48 := by
  induction n using Nat.strongRecOn with
  | _ n ih =>
    by_cases h1 : n < 10
    · rw [numL_lt h1]
      simp
      omega
    · rw [numL_step (by omega), List.head?_append]
      have z := ih (n / 10) (by omega) (by omega)
      cases e : (numL (n / 10)).head? with
      | none => exact absurd (List.head?_eq_none_iff.mp e) (numL_ne _)
      | some c =>
        rw [e] at z
        simpa using z
theorem nL_num {n : Nat} (h : n < 10 ^ 40) : nL (numL n) = n := by
  unfold nL
  have h1 : (numL n).length ≤ 40 := numL_len (by decide) h
  have h2 : 1 ≤ (numL n).length := by
    have := numL_ne n
    cases e : numL n with
    | nil => exact absurd e this
    | cons a b => simp
  have h3 : (numL n).all dgt = true := List.all_eq_true.mpr fun c hc => by
    have := numL_digits n c hc
    unfold dgt
    simpa using this
  rw [if_pos (by simp only [Bool.and_eq_true, decide_eq_true_eq]; exact ⟨⟨h2, h1⟩, h3⟩)]
  rw [if_neg, numL_val]
  simp only [Bool.and_eq_true, decide_eq_true_eq, not_and]
  intro h4
  by_cases h5 : n = 0
  · subst h5
    rw [numL_lt (by decide)] at h4
    simp at h4
  · exact numL_head (by omega)
theorem nL_nil : nL [] = -1 := rfl
theorem nL_bad {l : List Nat} {c : Nat} (hc : c ∈ l) (h : dgt c = false) : nL l = -1 := by
  unfold nL
  rw [if_neg]
  simp only [Bool.and_eq_true, decide_eq_true_eq, not_and]
  intro _ h2
  have := List.all_eq_true.mp h2 c hc
  rw [h] at this
  cases this
theorem nL_zero {l : List Nat} (h : l ≠ []) : nL (48 :: l) = -1 := by
  unfold nL
  split
  · rw [if_pos]
    simp only [Bool.and_eq_true, decide_eq_true_eq, List.length_cons, List.head?_cons, and_true]
    cases l with
    | nil => exact absurd rfl h
    | cons a b => simp
  · rfl
theorem no47 (n : Nat) : 47 ∉ numL n := numL_free (.inl (by decide))
theorem spl2 {p r : List Nat} (h : 47 ∉ p) (h2 : 47 ∉ r) : spl [47] 0 [] (p ++ ([47] ++ r)) = [p, r] := by
  rw [spl_part1 h, spl_last1 h2]
  simp
theorem spl1 {p : List Nat} (h : 47 ∉ p) : spl [47] 0 [] p = [p] := by
  rw [spl_last1 h]
  simp
theorem pow_lt {i : Int} (h0 : 0 ≤ i) (h1 : i ≤ 10 ^ 30) : i.toNat < 10 ^ 40 := by omega
theorem read_plain {a b : Int} (h : AB a b) : readS (plainS a b) = some (a, b) := by
  obtain ⟨a0, a1, b0, b1⟩ := h
  rw [readS_rdL]
  unfold plainS
  rw [tl_append, tl_append, tl_tS a0, tl_tS (by omega), show tl ("/" : Str) = [47] by decide +kernel, List.append_assoc, spl2 (no47 _) (no47 _)]
  unfold rdL
  simp only [List.map_cons, List.map_nil]
  rw [nL_num (pow_lt a0 (by omega)), nL_num (pow_lt (by omega) b1)]
  rw [if_neg (by omega)]
  congr 1
  apply Prod.ext <;> simp <;> omega
theorem read_num {a : Int} (h0 : 0 ≤ a) (h1 : a ≤ 10 ^ 30) : readS (tS a) = some (a, 1) := by
  rw [readS_rdL, tl_tS h0, spl1 (no47 _)]
  unfold rdL
  simp only [List.map_cons, List.map_nil]
  rw [nL_num (pow_lt h0 h1), if_neg (by omega)]
  congr 1
  apply Prod.ext <;> simp
  omega
theorem rd_a1 {l : List Nat} (h : nL l = -1) : rdL [l] = none := by
  unfold rdL
  simp [h]
theorem rd_a2 {l r : List Nat} (h : nL l = -1) : rdL [l, r] = none := by
  unfold rdL
  simp [h]
theorem rd_b2 {l r : List Nat} (h : nL r = -1) : rdL [l, r] = none := by
  unfold rdL
  simp [h]
theorem rd_z2 {l r : List Nat} (h : nL r = 0) : rdL [l, r] = none := by
  unfold rdL
  simp [h]
theorem read_texts {a b : Int} (h : AB a b) {d : D} (hd : d ∈ textsD a b) : readD d = none := by
  obtain ⟨a0, a1, b0, b1⟩ := h
  have ta := tl_tS a0
  have tb := tl_tS (show 0 ≤ b by omega)
  have sl : tl ("/" : Str) = [47] := by decide +kernel
  have pl : tl (plainS a b) = numL a.toNat ++ ([47] ++ numL b.toNat) := by
    unfold plainS
    rw [tl_append, tl_append, ta, tb, sl, List.append_assoc]
  have n47 : ∀ {l r : List Nat}, 47 ∉ l → 47 ∉ r → 47 ∉ l ++ r := fun h1 h2 h3 => (List.mem_append.mp h3).elim h1 h2
  unfold textsD at hd
  simp only [List.mem_append, List.mem_cons, List.not_mem_nil, or_false] at hd
  rcases hd with (((rfl | rfl | rfl | rfl | rfl | rfl | rfl | rfl | rfl) | (rfl | rfl | rfl | rfl | rfl | rfl)) | (rfl | rfl | rfl | rfl))
  · rw [readD_str, readS_rdL]; decide +kernel
  · rw [readD_str, readS_rdL]; decide +kernel
  · rw [readD_str, readS_rdL, tl_append, pl, show tl ("/1" : Str) = [47] ++ [49] by decide +kernel, List.append_assoc, List.append_assoc, spl_part1 (no47 _), spl_part1 (no47 _), spl_last1 (by decide)]
    rfl
  · rw [readD_str, readS_rdL, tl_append, pl, show tl ("0" : Str) = [48] by decide +kernel, ← List.append_assoc, spl2 (n47 (by decide) (no47 _)) (no47 _)]
    exact rd_a2 (nL_zero (numL_ne _))
  · rw [readD_str, readS_rdL, tl_append, pl, show tl (" " : Str) = [32] by decide +kernel, List.append_assoc, List.append_assoc, spl2 (no47 _) (n47 (no47 _) (by decide))]
    exact rd_b2 (nL_bad (c := 32) (by simp) rfl)
  · rw [readD_str, readS_rdL, tl_append, pl, show tl ("-" : Str) = [45] by decide +kernel, ← List.append_assoc, spl2 (n47 (by decide) (no47 _)) (no47 _)]
    exact rd_a2 (nL_bad (c := 45) (by simp) rfl)
  · rw [readD_str, readS_rdL, tl_append, ta, show tl ("/0" : Str) = [47] ++ [48] by decide +kernel, spl2 (no47 _) (by decide)]
    exact rd_z2 (by decide)
  · rw [readD_str, readS_rdL, tl_append, ta, show tl ("/" : Str) = [47] ++ [] by decide +kernel, spl2 (no47 _) (by decide)]
    exact rd_b2 rfl
  · rw [readD_str, readS_rdL]; decide +kernel
  · rw [readD_str, readS_rdL]; decide +kernel
  · rw [readD_str, readS_rdL, tl_append, ta, show tl (".5" : Str) = [46, 53] by decide +kernel, spl1 (n47 (no47 _) (by decide))]
    exact rd_a1 (nL_bad (c := 46) (by simp) rfl)
  · rw [readD_str, readS_rdL, tl_append, tb, show tl ("/" : Str) = [] ++ [47] by decide +kernel, List.append_assoc, spl2 (by decide) (no47 _)]
    exact rd_a2 rfl
  · rw [readD_str, readS_rdL]; decide +kernel
  · rw [readD_str, readS_rdL]; decide +kernel
  · rfl
  · rfl
  · rfl
  · rw [readD_str, readS_rdL]; decide +kernel
  · rw [readD_str, readS_rdL]; decide +kernel
theorem tS_len {i : Int} (h0 : 0 ≤ i) (h1 : i < 10 ^ 40) : (tS i).length ≤ 40 := by
  rw [len_tl, tl_tS h0]
  exact numL_len (by decide) (by omega)
/-! the long ones -/
theorem read_long : readS (strRep "1" 40 ++ ("/" : Str) ++ strRep "7" 40) = some (1111111111111111111111111111111111111111, 7777777777777777777777777777777777777777) := by
  rw [readS_rdL]; decide +kernel
theorem read_sev : readS (strRep "7" 40) = some (7777777777777777777777777777777777777777, 1) := by
  rw [readS_rdL]; decide +kernel
theorem int_sev : PySem.intText? (strRep "7" 40) = some 7777777777777777777777777777777777777777 := by
  rw [intText_digits (x := strRep "7" 40) (by
    intro c hc
    have : ∀ c ∈ (strRep "7" 40).cps.toList, 48 ≤ c ∧ c ≤ 57 := by decide +kernel
    exact this c hc) (by decide +kernel) (by decide +kernel)]
  decide +kernel
theorem read_over : readS (strRep "1" 40 ++ ("/" : Str) ++ strRep "7" 40 ++ ("7" : Str)) = none := by
  rw [readS_rdL]; decide +kernel
theorem read_07 : readS "0/7" = some (0, 7) := by
  rw [readS_rdL]; decide +kernel
end DL
set_option maxHeartbeats 4000000
namespace DL
open PySem PySem.Spec PyProof.Rows L2
theorem SB.mul {p q : Int × Int} (hp : SB p) (hq : SB q) : MulOk p.1 q.2 := .inr ⟨⟨by have := hp.a0; have := hp.a1; omega, by have := hp.a0; have := hp.a1; omega⟩, ⟨by have := hq.b0; have := hq.b1; omega, by have := hq.b0; have := hq.b1; omega⟩⟩
theorem mul_lt120 {a b : Int} (ha : 0 ≤ a) (ha1 : a < 2 ^ 120) (hb : 0 ≤ b) (hb1 : b < 2 ^ 120) : 0 ≤ a * b ∧ a * b < 2 ^ 240 := by
  refine ⟨Int.mul_nonneg ha hb, ?_⟩
  have h1 : a * b ≤ (2 ^ 120 - 1) * (2 ^ 120 - 1) := Int.mul_le_mul (by omega) (by omega) hb (by decide)
  have h2 : ((2 : Int) ^ 120 - 1) * (2 ^ 120 - 1) < 2 ^ 240 := by decide
  omega
theorem mul_ge1 {a b : Int} (ha : 1 ≤ a) (hb : 1 ≤ b) : 1 ≤ a * b := by
  have := Int.mul_pos (show 0 < a by omega) (show 0 < b by omega)
  omega
theorem h_is_integer : ∀ x ds n R, ds.length = 1 → C_is_integer x ds n R → w_is_integer x {nx := fun _ n => R .non n, rt := R} (st0 ds N_is_integer) n := by
  intro x ds n R _ h
  obtain ⟨d, a, rfl, e, h⟩ := h
  simp only [w_is_integer, N_is_integer, r_bin, r_ixT0, r_ixT1, r_ixT2, r_ixT3, r_ixL0, r_ixL1, r_ixL2, r_ixL3, r_sub, r_add, r_mul, r_div, r_mod, r_pow, r_le, r_gt, r_ge, r_lt, r_eqI, r_neI, r_sIf, r_asg, r_asg2, r_g2, sRet, sSeq, sNext, sRetN, eVar, eVarB, eC, r_dt, r_rd, r_rdo, r_owS, tB_bl, r_test, r_notV, r_tru, r_trB, r_trL, r_trI, r_sqL, r_sqT, tw_2, r_par, r_rev, rv_t, rv_l, r_mt, r_ext, r_app, r_len, r_lenT, ow_ex, size0, size1, size2, size3, size4, ↓reduceIte, Bool.false_eq_true, sSetN, nLst, eFz, eCB,  eTup, aCons, aNil, eIf, wOr, wAnd, wNot, r_andV, r_orV, bT_bl, r_ifAnd, r_ifOr, eCall, eMake, st0, List.map, List.replicate, List.append, List.length, List.set, List.getElem?_cons_zero, List.getElem?_cons_succ, List.cons_append, List.nil_append, Nat.reduceSub, Nat.reduceAdd, Nat.zero_add, List.append_nil, true_and, and_true, List.getElem?_nil, List.length_cons, List.length_nil, List.map_cons, List.map_nil, r_pt0, r_pt1, r_fr0, r_fr1, r_ed0, r_ed1, r_g2pt, r_g2fr, r_g2ed, ed_mk, r_ltP, r_eqP, r_neP, r_eqE, r_inE, r_notInE, r_inEE, c_in_order, c_turning, c_product, c_cross, c_are_apart, c_overlap_well, c_meet_well, c_offset_parts, c_offset_of, c_is_integer, c_common, c_Slack_init, c_L_lies, c_L_meet, c_L_offset, c_L_spot, eq_self, rv_ed, gP_10, r_rep4, r_addL, eCallK, List.reverse_cons, List.reverse_nil, gNm, List.set_cons_succ, List.set_cons_zero, r_chain, r_wchain, r_negC, r_allM, r_anyM, r_all2, r_sl, r_oSo, r_oNo, tI'_i, r_slT, r_slL, r_raise, r_expr, r_addT, r_said, r_zp, zpD_t, zpD_l, r_tupB, r_lstB, r_callN, r_callKN, r_asg3, r_g3, r_putIx, r_eqS, r_neS, c_L_next, eIsB]
  cases d <;> simp only [tyN, Option.some.injEq, reduceCtorEq] at e <;> subst e
  · exact ⟨_, false, rfl, rfl, h⟩
  · exact ⟨_, true, rfl, rfl, _, true, rfl, rfl, h⟩
  · exact ⟨_, true, rfl, rfl, _, false, rfl, rfl, h⟩
  · exact ⟨_, false, rfl, rfl, h⟩
  · exact ⟨_, false, rfl, rfl, h⟩
  · exact ⟨_, false, rfl, rfl, h⟩
  · exact ⟨_, false, rfl, rfl, h⟩
  · exact ⟨_, false, rfl, rfl, h⟩
theorem h_common : ∀ x ds n R, ds.length = 2 → C_common x ds n R → w_common x {nx := fun _ n => R .non n, rt := R} (st0 ds N_common) n := by
  intro x ds n R _ h
  obtain ⟨a, b, rfl, ha, hb, h⟩ := h
  simp only [w_common, N_common, r_bin, r_ixT0, r_ixT1, r_ixT2, r_ixT3, r_ixL0, r_ixL1, r_ixL2, r_ixL3, r_sub, r_add, r_mul, r_div, r_mod, r_pow, r_le, r_gt, r_ge, r_lt, r_eqI, r_neI, r_sIf, r_asg, r_asg2, r_g2, sRet, sSeq, sNext, sRetN, eVar, eVarB, eC, r_dt, r_rd, r_rdo, r_owS, tB_bl, r_test, r_notV, r_tru, r_trB, r_trL, r_trI, r_sqL, r_sqT, tw_2, r_par, r_rev, rv_t, rv_l, r_mt, r_ext, r_app, r_len, r_lenT, ow_ex, size0, size1, size2, size3, size4, ↓reduceIte, Bool.false_eq_true, sSetN, nLst, eFz, eCB,  eTup, aCons, aNil, eIf, wOr, wAnd, wNot, r_andV, r_orV, bT_bl, r_ifAnd, r_ifOr, eCall, eMake, st0, List.map, List.replicate, List.append, List.length, List.set, List.getElem?_cons_zero, List.getElem?_cons_succ, List.cons_append, List.nil_append, Nat.reduceSub, Nat.reduceAdd, Nat.zero_add, List.append_nil, true_and, and_true, List.getElem?_nil, List.length_cons, List.length_nil, List.map_cons, List.map_nil, r_pt0, r_pt1, r_fr0, r_fr1, r_ed0, r_ed1, r_g2pt, r_g2fr, r_g2ed, ed_mk, r_ltP, r_eqP, r_neP, r_eqE, r_inE, r_notInE, r_inEE, c_in_order, c_turning, c_product, c_cross, c_are_apart, c_overlap_well, c_meet_well, c_offset_parts, c_offset_of, c_is_integer, c_common, c_Slack_init, c_L_lies, c_L_meet, c_L_offset, c_L_spot, eq_self, rv_ed, gP_10, r_rep4, r_addL, eCallK, List.reverse_cons, List.reverse_nil, gNm, List.set_cons_succ, List.set_cons_zero, r_chain, r_wchain, r_negC, r_allM, r_anyM, r_all2, r_sl, r_oSo, r_oNo, tI'_i, r_slT, r_slL, r_raise, r_expr, r_addT, r_said, r_zp, zpD_t, zpD_l, r_tupB, r_lstB, r_callN, r_callKN, r_asg3, r_g3, r_putIx, r_eqS, r_neS, c_L_next, sWhile]
  refine ⟨fun η n1 => ∃ i j : Int, η = [.dt (.int i), .dt (.int j)] ∧ 0 ≤ i ∧ 0 ≤ j ∧ Int.gcd i j = Int.gcd a b ∧ n1 = n, fun η _ => match η with | [_, .dt (.int j)] => j.toNat | _ => 0, ⟨a, b, rfl, ha, hb, rfl, rfl⟩, ?_⟩
  rintro η n1 ⟨i, j, rfl, hi, hj, hg, rfl⟩
  simp only [r_bin, r_ixT0, r_ixT1, r_ixT2, r_ixT3, r_ixL0, r_ixL1, r_ixL2, r_ixL3, r_sub, r_add, r_mul, r_div, r_mod, r_pow, r_le, r_gt, r_ge, r_lt, r_eqI, r_neI, r_sIf, r_asg, r_asg2, r_g2, sRet, sSeq, sNext, sRetN, eVar, eVarB, eC, r_dt, r_rd, r_rdo, r_owS, tB_bl, r_test, r_notV, r_tru, r_trB, r_trL, r_trI, r_sqL, r_sqT, tw_2, r_par, r_rev, rv_t, rv_l, r_mt, r_ext, r_app, r_len, r_lenT, ow_ex, size0, size1, size2, size3, size4, ↓reduceIte, Bool.false_eq_true, sSetN, nLst, eFz, eCB,  eTup, aCons, aNil, eIf, wOr, wAnd, wNot, r_andV, r_orV, bT_bl, r_ifAnd, r_ifOr, eCall, eMake, st0, List.map, List.replicate, List.append, List.length, List.set, List.getElem?_cons_zero, List.getElem?_cons_succ, List.cons_append, List.nil_append, Nat.reduceSub, Nat.reduceAdd, Nat.zero_add, List.append_nil, true_and, and_true, List.getElem?_nil, List.length_cons, List.length_nil, List.map_cons, List.map_nil, r_pt0, r_pt1, r_fr0, r_fr1, r_ed0, r_ed1, r_g2pt, r_g2fr, r_g2ed, ed_mk, r_ltP, r_eqP, r_neP, r_eqE, r_inE, r_notInE, r_inEE, c_in_order, c_turning, c_product, c_cross, c_are_apart, c_overlap_well, c_meet_well, c_offset_parts, c_offset_of, c_is_integer, c_common, c_Slack_init, c_L_lies, c_L_meet, c_L_offset, c_L_spot, eq_self, rv_ed, gP_10, r_rep4, r_addL, eCallK, List.reverse_cons, List.reverse_nil, gNm, List.set_cons_succ, List.set_cons_zero, r_chain, r_wchain, r_negC, r_allM, r_anyM, r_all2, r_sl, r_oSo, r_oNo, tI'_i, r_slT, r_slL, r_raise, r_expr, r_addT, r_said, r_zp, zpD_t, zpD_l, r_tupB, r_lstB, r_callN, r_callKN, r_asg3, r_g3, r_putIx, r_eqS, r_neS, c_L_next, decide_eq_true_eq]
  split
  · rename_i g
    refine ⟨g, ⟨j, i % j, rfl, hj, Int.emod_nonneg _ (by omega), ?_⟩, ?_⟩
    · rw [← hg, Int.gcd_comm j, Int.gcd_comm i]; exact gcd_step i j (by omega) hi
    · have := Int.emod_lt_of_pos i g
      have := Int.emod_nonneg i (b := j) (by omega)
      omega
  · rename_i g
    have : j = 0 := by omega
    subst this
    rw [← hg, Int.gcd_zero_right] at h
    have e : ((i.natAbs : Nat) : Int) = i := by omega
    rw [e] at h
    exact h
theorem h_L_common : ∀ x ds n R, ds.length = 2 → C_L_common x ds n R → w_L_common x {nx := fun _ n => R .non n, rt := R} (st0 ds N_L_common) n := by
  intro x ds n R _ h
  obtain ⟨a, b, rfl, ha, hb, h⟩ := h
  simp only [w_L_common, N_L_common, r_bin, r_ixT0, r_ixT1, r_ixT2, r_ixT3, r_ixL0, r_ixL1, r_ixL2, r_ixL3, r_sub, r_add, r_mul, r_div, r_mod, r_pow, r_le, r_gt, r_ge, r_lt, r_eqI, r_neI, r_sIf, r_asg, r_asg2, r_g2, sRet, sSeq, sNext, sRetN, eVar, eVarB, eC, r_dt, r_rd, r_rdo, r_owS, tB_bl, r_test, r_notV, r_tru, r_trB, r_trL, r_trI, r_sqL, r_sqT, tw_2, r_par, r_rev, rv_t, rv_l, r_mt, r_ext, r_app, r_len, r_lenT, ow_ex, size0, size1, size2, size3, size4, ↓reduceIte, Bool.false_eq_true, sSetN, nLst, eFz, eCB,  eTup, aCons, aNil, eIf, wOr, wAnd, wNot, r_andV, r_orV, bT_bl, r_ifAnd, r_ifOr, eCall, eMake, st0, List.map, List.replicate, List.append, List.length, List.set, List.getElem?_cons_zero, List.getElem?_cons_succ, List.cons_append, List.nil_append, Nat.reduceSub, Nat.reduceAdd, Nat.zero_add, List.append_nil, true_and, and_true, List.getElem?_nil, List.length_cons, List.length_nil, List.map_cons, List.map_nil, r_pt0, r_pt1, r_fr0, r_fr1, r_ed0, r_ed1, r_g2pt, r_g2fr, r_g2ed, ed_mk, r_ltP, r_eqP, r_neP, r_eqE, r_inE, r_notInE, r_inEE, c_in_order, c_turning, c_product, c_cross, c_are_apart, c_overlap_well, c_meet_well, c_offset_parts, c_offset_of, c_is_integer, c_common, c_Slack_init, c_L_lies, c_L_meet, c_L_offset, c_L_spot, eq_self, rv_ed, gP_10, r_rep4, r_addL, eCallK, List.reverse_cons, List.reverse_nil, gNm, List.set_cons_succ, List.set_cons_zero, r_chain, r_wchain, r_negC, r_allM, r_anyM, r_all2, r_sl, r_oSo, r_oNo, tI'_i, r_slT, r_slL, r_raise, r_expr, r_addT, r_said, r_zp, zpD_t, zpD_l, r_tupB, r_lstB, r_callN, r_callKN, r_asg3, r_g3, r_putIx, r_eqS, r_neS, c_L_next, sWhile]
  refine ⟨fun η n1 => ∃ i j : Int, η = [.dt (.int i), .dt (.int j)] ∧ 0 ≤ i ∧ 0 ≤ j ∧ Int.gcd i j = Int.gcd a b ∧ n1 = n, fun η _ => match η with | [.dt (.int i), _] => i.toNat | _ => 0, ⟨a, b, rfl, ha, hb, rfl, rfl⟩, ?_⟩
  rintro η n1 ⟨i, j, rfl, hi, hj, hg, rfl⟩
  simp only [r_bin, r_ixT0, r_ixT1, r_ixT2, r_ixT3, r_ixL0, r_ixL1, r_ixL2, r_ixL3, r_sub, r_add, r_mul, r_div, r_mod, r_pow, r_le, r_gt, r_ge, r_lt, r_eqI, r_neI, r_sIf, r_asg, r_asg2, r_g2, sRet, sSeq, sNext, sRetN, eVar, eVarB, eC, r_dt, r_rd, r_rdo, r_owS, tB_bl, r_test, r_notV, r_tru, r_trB, r_trL, r_trI, r_sqL, r_sqT, tw_2, r_par, r_rev, rv_t, rv_l, r_mt, r_ext, r_app, r_len, r_lenT, ow_ex, size0, size1, size2, size3, size4, ↓reduceIte, Bool.false_eq_true, sSetN, nLst, eFz, eCB,  eTup, aCons, aNil, eIf, wOr, wAnd, wNot, r_andV, r_orV, bT_bl, r_ifAnd, r_ifOr, eCall, eMake, st0, List.map, List.replicate, List.append, List.length, List.set, List.getElem?_cons_zero, List.getElem?_cons_succ, List.cons_append, List.nil_append, Nat.reduceSub, Nat.reduceAdd, Nat.zero_add, List.append_nil, true_and, and_true, List.getElem?_nil, List.length_cons, List.length_nil, List.map_cons, List.map_nil, r_pt0, r_pt1, r_fr0, r_fr1, r_ed0, r_ed1, r_g2pt, r_g2fr, r_g2ed, ed_mk, r_ltP, r_eqP, r_neP, r_eqE, r_inE, r_notInE, r_inEE, c_in_order, c_turning, c_product, c_cross, c_are_apart, c_overlap_well, c_meet_well, c_offset_parts, c_offset_of, c_is_integer, c_common, c_Slack_init, c_L_lies, c_L_meet, c_L_offset, c_L_spot, eq_self, rv_ed, gP_10, r_rep4, r_addL, eCallK, List.reverse_cons, List.reverse_nil, gNm, List.set_cons_succ, List.set_cons_zero, r_chain, r_wchain, r_negC, r_allM, r_anyM, r_all2, r_sl, r_oSo, r_oNo, tI'_i, r_slT, r_slL, r_raise, r_expr, r_addT, r_said, r_zp, zpD_t, zpD_l, r_tupB, r_lstB, r_callN, r_callKN, r_asg3, r_g3, r_putIx, r_eqS, r_neS, c_L_next, decide_eq_true_eq]
  split
  · rename_i g
    refine ⟨g, ⟨j % i, i, rfl, Int.emod_nonneg _ (by omega), hi, ?_⟩, ?_⟩
    · rw [← hg]; exact gcd_step j i (by omega) hj
    · have := Int.emod_lt_of_pos j g
      have := Int.emod_nonneg j (b := i) (by omega)
      omega
  · rename_i g
    have : i = 0 := by omega
    subst this
    rw [← hg, Int.gcd_zero_left] at h
    have e : ((j.natAbs : Nat) : Int) = j := by omega
    rw [e] at h
    exact h
theorem h_need_whole : ∀ x ds n R, ds.length = 1 → C_need_whole x ds n R → w_need_whole x {nx := fun _ n => R .non n, rt := R} (st0 ds N_need_whole) n := by
  intro x ds n R _ h
  obtain ⟨i, rfl, h⟩ := h
  simp only [w_need_whole, N_need_whole, r_bin, r_ixT0, r_ixT1, r_ixT2, r_ixT3, r_ixL0, r_ixL1, r_ixL2, r_ixL3, r_sub, r_add, r_mul, r_div, r_mod, r_pow, r_le, r_gt, r_ge, r_lt, r_eqI, r_neI, r_sIf, r_asg, r_asg2, r_g2, sRet, sSeq, sNext, sRetN, eVar, eVarB, eC, r_dt, r_rd, r_rdo, r_owS, tB_bl, r_test, r_notV, r_tru, r_trB, r_trL, r_trI, r_sqL, r_sqT, tw_2, r_par, r_rev, rv_t, rv_l, r_mt, r_ext, r_app, r_len, r_lenT, ow_ex, size0, size1, size2, size3, size4, ↓reduceIte, Bool.false_eq_true, sSetN, nLst, eFz, eCB,  eTup, aCons, aNil, eIf, wOr, wAnd, wNot, r_andV, r_orV, bT_bl, r_ifAnd, r_ifOr, eCall, eMake, st0, List.map, List.replicate, List.append, List.length, List.set, List.getElem?_cons_zero, List.getElem?_cons_succ, List.cons_append, List.nil_append, Nat.reduceSub, Nat.reduceAdd, Nat.zero_add, List.append_nil, true_and, and_true, List.getElem?_nil, List.length_cons, List.length_nil, List.map_cons, List.map_nil, r_pt0, r_pt1, r_fr0, r_fr1, r_ed0, r_ed1, r_g2pt, r_g2fr, r_g2ed, ed_mk, r_ltP, r_eqP, r_neP, r_eqE, r_inE, r_notInE, r_inEE, c_in_order, c_turning, c_product, c_cross, c_are_apart, c_overlap_well, c_meet_well, c_offset_parts, c_offset_of, c_is_integer, c_common, c_Slack_init, c_L_lies, c_L_meet, c_L_offset, c_L_spot, eq_self, rv_ed, gP_10, r_rep4, r_addL, eCallK, List.reverse_cons, List.reverse_nil, gNm, List.set_cons_succ, List.set_cons_zero, r_chain, r_wchain, r_negC, r_allM, r_anyM, r_all2, r_sl, r_oSo, r_oNo, tI'_i, r_slT, r_slL, r_raise, r_expr, r_addT, r_said, r_zp, zpD_t, zpD_l, r_tupB, r_lstB, r_callN, r_callKN, r_asg3, r_g3, r_putIx, r_eqS, r_neS, c_L_next, decide_eq_true_eq]
  rcases h with ⟨h1, h⟩ | ⟨h1, h⟩
  · rw [if_pos h1]; exact h
  · rw [if_neg (by omega)]; exact h
theorem h_Slack_num : ∀ x ds n R, ds.length = 1 → C_Slack_num x ds n R → w_Slack_num x {nx := fun _ n => R .non n, rt := R} (st0 ds N_Slack_num) n := by
  intro x ds n R _ h
  obtain ⟨a, b, rfl, h⟩ := h
  simp only [w_Slack_num, N_Slack_num, r_bin, r_ixT0, r_ixT1, r_ixT2, r_ixT3, r_ixL0, r_ixL1, r_ixL2, r_ixL3, r_sub, r_add, r_mul, r_div, r_mod, r_pow, r_le, r_gt, r_ge, r_lt, r_eqI, r_neI, r_sIf, r_asg, r_asg2, r_g2, sRet, sSeq, sNext, sRetN, eVar, eVarB, eC, r_dt, r_rd, r_rdo, r_owS, tB_bl, r_test, r_notV, r_tru, r_trB, r_trL, r_trI, r_sqL, r_sqT, tw_2, r_par, r_rev, rv_t, rv_l, r_mt, r_ext, r_app, r_len, r_lenT, ow_ex, size0, size1, size2, size3, size4, ↓reduceIte, Bool.false_eq_true, sSetN, nLst, eFz, eCB,  eTup, aCons, aNil, eIf, wOr, wAnd, wNot, r_andV, r_orV, bT_bl, r_ifAnd, r_ifOr, eCall, eMake, st0, List.map, List.replicate, List.append, List.length, List.set, List.getElem?_cons_zero, List.getElem?_cons_succ, List.cons_append, List.nil_append, Nat.reduceSub, Nat.reduceAdd, Nat.zero_add, List.append_nil, true_and, and_true, List.getElem?_nil, List.length_cons, List.length_nil, List.map_cons, List.map_nil, r_pt0, r_pt1, r_fr0, r_fr1, r_ed0, r_ed1, r_g2pt, r_g2fr, r_g2ed, ed_mk, r_ltP, r_eqP, r_neP, r_eqE, r_inE, r_notInE, r_inEE, c_in_order, c_turning, c_product, c_cross, c_are_apart, c_overlap_well, c_meet_well, c_offset_parts, c_offset_of, c_is_integer, c_common, c_Slack_init, c_L_lies, c_L_meet, c_L_offset, c_L_spot, eq_self, rv_ed, gP_10, r_rep4, r_addL, eCallK, List.reverse_cons, List.reverse_nil, gNm, List.set_cons_succ, List.set_cons_zero, r_chain, r_wchain, r_negC, r_allM, r_anyM, r_all2, r_sl, r_oSo, r_oNo, tI'_i, r_slT, r_slL, r_raise, r_expr, r_addT, r_said, r_zp, zpD_t, zpD_l, r_tupB, r_lstB, r_callN, r_callKN, r_asg3, r_g3, r_putIx, r_eqS, r_neS, c_L_next, slk, eFldV, fldS, lkN, ↓reduceIte, Option.some.injEq, exists_eq_left']
  exact h
theorem h_Slack_den : ∀ x ds n R, ds.length = 1 → C_Slack_den x ds n R → w_Slack_den x {nx := fun _ n => R .non n, rt := R} (st0 ds N_Slack_den) n := by
  intro x ds n R _ h
  obtain ⟨a, b, rfl, h⟩ := h
  have f1 : ("own_num" : Str) ≠ "own_den" := by decide
  simp only [w_Slack_den, N_Slack_den, r_bin, r_ixT0, r_ixT1, r_ixT2, r_ixT3, r_ixL0, r_ixL1, r_ixL2, r_ixL3, r_sub, r_add, r_mul, r_div, r_mod, r_pow, r_le, r_gt, r_ge, r_lt, r_eqI, r_neI, r_sIf, r_asg, r_asg2, r_g2, sRet, sSeq, sNext, sRetN, eVar, eVarB, eC, r_dt, r_rd, r_rdo, r_owS, tB_bl, r_test, r_notV, r_tru, r_trB, r_trL, r_trI, r_sqL, r_sqT, tw_2, r_par, r_rev, rv_t, rv_l, r_mt, r_ext, r_app, r_len, r_lenT, ow_ex, size0, size1, size2, size3, size4, ↓reduceIte, Bool.false_eq_true, sSetN, nLst, eFz, eCB,  eTup, aCons, aNil, eIf, wOr, wAnd, wNot, r_andV, r_orV, bT_bl, r_ifAnd, r_ifOr, eCall, eMake, st0, List.map, List.replicate, List.append, List.length, List.set, List.getElem?_cons_zero, List.getElem?_cons_succ, List.cons_append, List.nil_append, Nat.reduceSub, Nat.reduceAdd, Nat.zero_add, List.append_nil, true_and, and_true, List.getElem?_nil, List.length_cons, List.length_nil, List.map_cons, List.map_nil, r_pt0, r_pt1, r_fr0, r_fr1, r_ed0, r_ed1, r_g2pt, r_g2fr, r_g2ed, ed_mk, r_ltP, r_eqP, r_neP, r_eqE, r_inE, r_notInE, r_inEE, c_in_order, c_turning, c_product, c_cross, c_are_apart, c_overlap_well, c_meet_well, c_offset_parts, c_offset_of, c_is_integer, c_common, c_Slack_init, c_L_lies, c_L_meet, c_L_offset, c_L_spot, eq_self, rv_ed, gP_10, r_rep4, r_addL, eCallK, List.reverse_cons, List.reverse_nil, gNm, List.set_cons_succ, List.set_cons_zero, r_chain, r_wchain, r_negC, r_allM, r_anyM, r_all2, r_sl, r_oSo, r_oNo, tI'_i, r_slT, r_slL, r_raise, r_expr, r_addT, r_said, r_zp, zpD_t, zpD_l, r_tupB, r_lstB, r_callN, r_callKN, r_asg3, r_g3, r_putIx, r_eqS, r_neS, c_L_next, slk, eFldV, fldS, lkN, if_neg f1, ↓reduceIte, Option.some.injEq, exists_eq_left']
  exact h
theorem h_Slack__lt_ : ∀ x ds n R, ds.length = 2 → C_Slack_lt x ds n R → w_Slack__lt_ x {nx := fun _ n => R .non n, rt := R} (st0 ds N_Slack__lt_) n := by
  intro x ds n R _ h
  obtain ⟨p, q, rfl, hp, hq, h⟩ := h
  have f1 : ("own_num" : Str) ≠ "own_den" := by decide
  simp only [w_Slack__lt_, N_Slack__lt_, r_bin, r_ixT0, r_ixT1, r_ixT2, r_ixT3, r_ixL0, r_ixL1, r_ixL2, r_ixL3, r_sub, r_add, r_mul, r_div, r_mod, r_pow, r_le, r_gt, r_ge, r_lt, r_eqI, r_neI, r_sIf, r_asg, r_asg2, r_g2, sRet, sSeq, sNext, sRetN, eVar, eVarB, eC, r_dt, r_rd, r_rdo, r_owS, tB_bl, r_test, r_notV, r_tru, r_trB, r_trL, r_trI, r_sqL, r_sqT, tw_2, r_par, r_rev, rv_t, rv_l, r_mt, r_ext, r_app, r_len, r_lenT, ow_ex, size0, size1, size2, size3, size4, ↓reduceIte, Bool.false_eq_true, sSetN, nLst, eFz, eCB,  eTup, aCons, aNil, eIf, wOr, wAnd, wNot, r_andV, r_orV, bT_bl, r_ifAnd, r_ifOr, eCall, eMake, st0, List.map, List.replicate, List.append, List.length, List.set, List.getElem?_cons_zero, List.getElem?_cons_succ, List.cons_append, List.nil_append, Nat.reduceSub, Nat.reduceAdd, Nat.zero_add, List.append_nil, true_and, and_true, List.getElem?_nil, List.length_cons, List.length_nil, List.map_cons, List.map_nil, r_pt0, r_pt1, r_fr0, r_fr1, r_ed0, r_ed1, r_g2pt, r_g2fr, r_g2ed, ed_mk, r_ltP, r_eqP, r_neP, r_eqE, r_inE, r_notInE, r_inEE, c_in_order, c_turning, c_product, c_cross, c_are_apart, c_overlap_well, c_meet_well, c_offset_parts, c_offset_of, c_is_integer, c_common, c_Slack_init, c_L_lies, c_L_meet, c_L_offset, c_L_spot, eq_self, rv_ed, gP_10, r_rep4, r_addL, eCallK, List.reverse_cons, List.reverse_nil, gNm, List.set_cons_succ, List.set_cons_zero, r_chain, r_wchain, r_negC, r_allM, r_anyM, r_all2, r_sl, r_oSo, r_oNo, tI'_i, r_slT, r_slL, r_raise, r_expr, r_addT, r_said, r_zp, zpD_t, zpD_l, r_tupB, r_lstB, r_callN, r_callKN, r_asg3, r_g3, r_putIx, r_eqS, r_neS, c_L_next, eIsC, slk, eFldV, fldS, lkN, if_neg f1, ↓reduceIte, Option.some.injEq, exists_eq_left', Bool.not_true]
  exact ⟨hp.mul hq, hq.mul hp, h⟩
theorem h_Slack__le_ : ∀ x ds n R, ds.length = 2 → C_Slack_le x ds n R → w_Slack__le_ x {nx := fun _ n => R .non n, rt := R} (st0 ds N_Slack__le_) n := by
  intro x ds n R _ h
  obtain ⟨p, q, rfl, hp, hq, h⟩ := h
  have f1 : ("own_num" : Str) ≠ "own_den" := by decide
  simp only [w_Slack__le_, N_Slack__le_, r_bin, r_ixT0, r_ixT1, r_ixT2, r_ixT3, r_ixL0, r_ixL1, r_ixL2, r_ixL3, r_sub, r_add, r_mul, r_div, r_mod, r_pow, r_le, r_gt, r_ge, r_lt, r_eqI, r_neI, r_sIf, r_asg, r_asg2, r_g2, sRet, sSeq, sNext, sRetN, eVar, eVarB, eC, r_dt, r_rd, r_rdo, r_owS, tB_bl, r_test, r_notV, r_tru, r_trB, r_trL, r_trI, r_sqL, r_sqT, tw_2, r_par, r_rev, rv_t, rv_l, r_mt, r_ext, r_app, r_len, r_lenT, ow_ex, size0, size1, size2, size3, size4, ↓reduceIte, Bool.false_eq_true, sSetN, nLst, eFz, eCB,  eTup, aCons, aNil, eIf, wOr, wAnd, wNot, r_andV, r_orV, bT_bl, r_ifAnd, r_ifOr, eCall, eMake, st0, List.map, List.replicate, List.append, List.length, List.set, List.getElem?_cons_zero, List.getElem?_cons_succ, List.cons_append, List.nil_append, Nat.reduceSub, Nat.reduceAdd, Nat.zero_add, List.append_nil, true_and, and_true, List.getElem?_nil, List.length_cons, List.length_nil, List.map_cons, List.map_nil, r_pt0, r_pt1, r_fr0, r_fr1, r_ed0, r_ed1, r_g2pt, r_g2fr, r_g2ed, ed_mk, r_ltP, r_eqP, r_neP, r_eqE, r_inE, r_notInE, r_inEE, c_in_order, c_turning, c_product, c_cross, c_are_apart, c_overlap_well, c_meet_well, c_offset_parts, c_offset_of, c_is_integer, c_common, c_Slack_init, c_L_lies, c_L_meet, c_L_offset, c_L_spot, eq_self, rv_ed, gP_10, r_rep4, r_addL, eCallK, List.reverse_cons, List.reverse_nil, gNm, List.set_cons_succ, List.set_cons_zero, r_chain, r_wchain, r_negC, r_allM, r_anyM, r_all2, r_sl, r_oSo, r_oNo, tI'_i, r_slT, r_slL, r_raise, r_expr, r_addT, r_said, r_zp, zpD_t, zpD_l, r_tupB, r_lstB, r_callN, r_callKN, r_asg3, r_g3, r_putIx, r_eqS, r_neS, c_L_next, eIsC, slk, eFldV, fldS, lkN, if_neg f1, ↓reduceIte, Option.some.injEq, exists_eq_left', Bool.not_true]
  exact ⟨hp.mul hq, hq.mul hp, h⟩
theorem h_Slack__gt_ : ∀ x ds n R, ds.length = 2 → C_Slack_gt x ds n R → w_Slack__gt_ x {nx := fun _ n => R .non n, rt := R} (st0 ds N_Slack__gt_) n := by
  intro x ds n R _ h
  obtain ⟨p, q, rfl, hp, hq, h⟩ := h
  have f1 : ("own_num" : Str) ≠ "own_den" := by decide
  simp only [w_Slack__gt_, N_Slack__gt_, r_bin, r_ixT0, r_ixT1, r_ixT2, r_ixT3, r_ixL0, r_ixL1, r_ixL2, r_ixL3, r_sub, r_add, r_mul, r_div, r_mod, r_pow, r_le, r_gt, r_ge, r_lt, r_eqI, r_neI, r_sIf, r_asg, r_asg2, r_g2, sRet, sSeq, sNext, sRetN, eVar, eVarB, eC, r_dt, r_rd, r_rdo, r_owS, tB_bl, r_test, r_notV, r_tru, r_trB, r_trL, r_trI, r_sqL, r_sqT, tw_2, r_par, r_rev, rv_t, rv_l, r_mt, r_ext, r_app, r_len, r_lenT, ow_ex, size0, size1, size2, size3, size4, ↓reduceIte, Bool.false_eq_true, sSetN, nLst, eFz, eCB,  eTup, aCons, aNil, eIf, wOr, wAnd, wNot, r_andV, r_orV, bT_bl, r_ifAnd, r_ifOr, eCall, eMake, st0, List.map, List.replicate, List.append, List.length, List.set, List.getElem?_cons_zero, List.getElem?_cons_succ, List.cons_append, List.nil_append, Nat.reduceSub, Nat.reduceAdd, Nat.zero_add, List.append_nil, true_and, and_true, List.getElem?_nil, List.length_cons, List.length_nil, List.map_cons, List.map_nil, r_pt0, r_pt1, r_fr0, r_fr1, r_ed0, r_ed1, r_g2pt, r_g2fr, r_g2ed, ed_mk, r_ltP, r_eqP, r_neP, r_eqE, r_inE, r_notInE, r_inEE, c_in_order, c_turning, c_product, c_cross, c_are_apart, c_overlap_well, c_meet_well, c_offset_parts, c_offset_of, c_is_integer, c_common, c_Slack_init, c_L_lies, c_L_meet, c_L_offset, c_L_spot, eq_self, rv_ed, gP_10, r_rep4, r_addL, eCallK, List.reverse_cons, List.reverse_nil, gNm, List.set_cons_succ, List.set_cons_zero, r_chain, r_wchain, r_negC, r_allM, r_anyM, r_all2, r_sl, r_oSo, r_oNo, tI'_i, r_slT, r_slL, r_raise, r_expr, r_addT, r_said, r_zp, zpD_t, zpD_l, r_tupB, r_lstB, r_callN, r_callKN, r_asg3, r_g3, r_putIx, r_eqS, r_neS, c_L_next, eIsC, slk, eFldV, fldS, lkN, if_neg f1, ↓reduceIte, Option.some.injEq, exists_eq_left', Bool.not_true]
  exact ⟨hp.mul hq, hq.mul hp, h⟩
theorem h_Slack__ge_ : ∀ x ds n R, ds.length = 2 → C_Slack_ge x ds n R → w_Slack__ge_ x {nx := fun _ n => R .non n, rt := R} (st0 ds N_Slack__ge_) n := by
  intro x ds n R _ h
  obtain ⟨p, q, rfl, hp, hq, h⟩ := h
  have f1 : ("own_num" : Str) ≠ "own_den" := by decide
  simp only [w_Slack__ge_, N_Slack__ge_, r_bin, r_ixT0, r_ixT1, r_ixT2, r_ixT3, r_ixL0, r_ixL1, r_ixL2, r_ixL3, r_sub, r_add, r_mul, r_div, r_mod, r_pow, r_le, r_gt, r_ge, r_lt, r_eqI, r_neI, r_sIf, r_asg, r_asg2, r_g2, sRet, sSeq, sNext, sRetN, eVar, eVarB, eC, r_dt, r_rd, r_rdo, r_owS, tB_bl, r_test, r_notV, r_tru, r_trB, r_trL, r_trI, r_sqL, r_sqT, tw_2, r_par, r_rev, rv_t, rv_l, r_mt, r_ext, r_app, r_len, r_lenT, ow_ex, size0, size1, size2, size3, size4, ↓reduceIte, Bool.false_eq_true, sSetN, nLst, eFz, eCB,  eTup, aCons, aNil, eIf, wOr, wAnd, wNot, r_andV, r_orV, bT_bl, r_ifAnd, r_ifOr, eCall, eMake, st0, List.map, List.replicate, List.append, List.length, List.set, List.getElem?_cons_zero, List.getElem?_cons_succ, List.cons_append, List.nil_append, Nat.reduceSub, Nat.reduceAdd, Nat.zero_add, List.append_nil, true_and, and_true, List.getElem?_nil, List.length_cons, List.length_nil, List.map_cons, List.map_nil, r_pt0, r_pt1, r_fr0, r_fr1, r_ed0, r_ed1, r_g2pt, r_g2fr, r_g2ed, ed_mk, r_ltP, r_eqP, r_neP, r_eqE, r_inE, r_notInE, r_inEE, c_in_order, c_turning, c_product, c_cross, c_are_apart, c_overlap_well, c_meet_well, c_offset_parts, c_offset_of, c_is_integer, c_common, c_Slack_init, c_L_lies, c_L_meet, c_L_offset, c_L_spot, eq_self, rv_ed, gP_10, r_rep4, r_addL, eCallK, List.reverse_cons, List.reverse_nil, gNm, List.set_cons_succ, List.set_cons_zero, r_chain, r_wchain, r_negC, r_allM, r_anyM, r_all2, r_sl, r_oSo, r_oNo, tI'_i, r_slT, r_slL, r_raise, r_expr, r_addT, r_said, r_zp, zpD_t, zpD_l, r_tupB, r_lstB, r_callN, r_callKN, r_asg3, r_g3, r_putIx, r_eqS, r_neS, c_L_next, eIsC, slk, eFldV, fldS, lkN, if_neg f1, ↓reduceIte, Option.some.injEq, exists_eq_left', Bool.not_true]
  exact ⟨hp.mul hq, hq.mul hp, h⟩
theorem h_Slack__eq_ : ∀ x ds n R, ds.length = 2 → C_Slack_eqv x ds n R → w_Slack__eq_ x {nx := fun _ n => R .non n, rt := R} (st0 ds N_Slack__eq_) n := by
  intro x ds n R _ h
  obtain ⟨p, d, rfl, h⟩ := h
  have f1 : ("own_num" : Str) ≠ "own_den" := by decide
  rcases h with ⟨q, rfl, h⟩ | ⟨i, h⟩
  · simp only [w_Slack__eq_, N_Slack__eq_, r_bin, r_ixT0, r_ixT1, r_ixT2, r_ixT3, r_ixL0, r_ixL1, r_ixL2, r_ixL3, r_sub, r_add, r_mul, r_div, r_mod, r_pow, r_le, r_gt, r_ge, r_lt, r_eqI, r_neI, r_sIf, r_asg, r_asg2, r_g2, sRet, sSeq, sNext, sRetN, eVar, eVarB, eC, r_dt, r_rd, r_rdo, r_owS, tB_bl, r_test, r_notV, r_tru, r_trB, r_trL, r_trI, r_sqL, r_sqT, tw_2, r_par, r_rev, rv_t, rv_l, r_mt, r_ext, r_app, r_len, r_lenT, ow_ex, size0, size1, size2, size3, size4, ↓reduceIte, Bool.false_eq_true, sSetN, nLst, eFz, eCB,  eTup, aCons, aNil, eIf, wOr, wAnd, wNot, r_andV, r_orV, bT_bl, r_ifAnd, r_ifOr, eCall, eMake, st0, List.map, List.replicate, List.append, List.length, List.set, List.getElem?_cons_zero, List.getElem?_cons_succ, List.cons_append, List.nil_append, Nat.reduceSub, Nat.reduceAdd, Nat.zero_add, List.append_nil, true_and, and_true, List.getElem?_nil, List.length_cons, List.length_nil, List.map_cons, List.map_nil, r_pt0, r_pt1, r_fr0, r_fr1, r_ed0, r_ed1, r_g2pt, r_g2fr, r_g2ed, ed_mk, r_ltP, r_eqP, r_neP, r_eqE, r_inE, r_notInE, r_inEE, c_in_order, c_turning, c_product, c_cross, c_are_apart, c_overlap_well, c_meet_well, c_offset_parts, c_offset_of, c_is_integer, c_common, c_Slack_init, c_L_lies, c_L_meet, c_L_offset, c_L_spot, eq_self, rv_ed, gP_10, r_rep4, r_addL, eCallK, List.reverse_cons, List.reverse_nil, gNm, List.set_cons_succ, List.set_cons_zero, r_chain, r_wchain, r_negC, r_allM, r_anyM, r_all2, r_sl, r_oSo, r_oNo, tI'_i, r_slT, r_slL, r_raise, r_expr, r_addT, r_said, r_zp, zpD_t, zpD_l, r_tupB, r_lstB, r_callN, r_callKN, r_asg3, r_g3, r_putIx, r_eqS, r_neS, c_L_next, eIsC, slk, eFldV, fldS, lkN]
    simp only [if_neg f1, Option.some.injEq, exists_eq_left', r_bin, r_ixT0, r_ixT1, r_ixT2, r_ixT3, r_ixL0, r_ixL1, r_ixL2, r_ixL3, r_sub, r_add, r_mul, r_div, r_mod, r_pow, r_le, r_gt, r_ge, r_lt, r_eqI, r_neI, r_sIf, r_asg, r_asg2, r_g2, sRet, sSeq, sNext, sRetN, eVar, eVarB, eC, r_dt, r_rd, r_rdo, r_owS, tB_bl, r_test, r_notV, r_tru, r_trB, r_trL, r_trI, r_sqL, r_sqT, tw_2, r_par, r_rev, rv_t, rv_l, r_mt, r_ext, r_app, r_len, r_lenT, ow_ex, size0, size1, size2, size3, size4, ↓reduceIte, Bool.false_eq_true, sSetN, nLst, eFz, eCB,  eTup, aCons, aNil, eIf, wOr, wAnd, wNot, r_andV, r_orV, bT_bl, r_ifAnd, r_ifOr, eCall, eMake, st0, List.map, List.replicate, List.append, List.length, List.set, List.getElem?_cons_zero, List.getElem?_cons_succ, List.cons_append, List.nil_append, Nat.reduceSub, Nat.reduceAdd, Nat.zero_add, List.append_nil, true_and, and_true, List.getElem?_nil, List.length_cons, List.length_nil, List.map_cons, List.map_nil, r_pt0, r_pt1, r_fr0, r_fr1, r_ed0, r_ed1, r_g2pt, r_g2fr, r_g2ed, ed_mk, r_ltP, r_eqP, r_neP, r_eqE, r_inE, r_notInE, r_inEE, c_in_order, c_turning, c_product, c_cross, c_are_apart, c_overlap_well, c_meet_well, c_offset_parts, c_offset_of, c_is_integer, c_common, c_Slack_init, c_L_lies, c_L_meet, c_L_offset, c_L_spot, eq_self, rv_ed, gP_10, r_rep4, r_addL, eCallK, List.reverse_cons, List.reverse_nil, gNm, List.set_cons_succ, List.set_cons_zero, r_chain, r_wchain, r_negC, r_allM, r_anyM, r_all2, r_sl, r_oSo, r_oNo, tI'_i, r_slT, r_slL, r_raise, r_expr, r_addT, r_said, r_zp, zpD_t, zpD_l, r_tupB, r_lstB, r_callN, r_callKN, r_asg3, r_g3, r_putIx, r_eqS, r_neS, c_L_next]
    obtain ⟨a, b⟩ := p
    obtain ⟨c, d⟩ := q
    by_cases k1 : a = c <;> by_cases k2 : b = d <;> simp_all
  · cases d <;> first | exact i.elim | skip
    all_goals
      simp only [w_Slack__eq_, N_Slack__eq_, r_bin, r_ixT0, r_ixT1, r_ixT2, r_ixT3, r_ixL0, r_ixL1, r_ixL2, r_ixL3, r_sub, r_add, r_mul, r_div, r_mod, r_pow, r_le, r_gt, r_ge, r_lt, r_eqI, r_neI, r_sIf, r_asg, r_asg2, r_g2, sRet, sSeq, sNext, sRetN, eVar, eVarB, eC, r_dt, r_rd, r_rdo, r_owS, tB_bl, r_test, r_notV, r_tru, r_trB, r_trL, r_trI, r_sqL, r_sqT, tw_2, r_par, r_rev, rv_t, rv_l, r_mt, r_ext, r_app, r_len, r_lenT, ow_ex, size0, size1, size2, size3, size4, ↓reduceIte, Bool.false_eq_true, sSetN, nLst, eFz, eCB,  eTup, aCons, aNil, eIf, wOr, wAnd, wNot, r_andV, r_orV, bT_bl, r_ifAnd, r_ifOr, eCall, eMake, st0, List.map, List.replicate, List.append, List.length, List.set, List.getElem?_cons_zero, List.getElem?_cons_succ, List.cons_append, List.nil_append, Nat.reduceSub, Nat.reduceAdd, Nat.zero_add, List.append_nil, true_and, and_true, List.getElem?_nil, List.length_cons, List.length_nil, List.map_cons, List.map_nil, r_pt0, r_pt1, r_fr0, r_fr1, r_ed0, r_ed1, r_g2pt, r_g2fr, r_g2ed, ed_mk, r_ltP, r_eqP, r_neP, r_eqE, r_inE, r_notInE, r_inEE, c_in_order, c_turning, c_product, c_cross, c_are_apart, c_overlap_well, c_meet_well, c_offset_parts, c_offset_of, c_is_integer, c_common, c_Slack_init, c_L_lies, c_L_meet, c_L_offset, c_L_spot, eq_self, rv_ed, gP_10, r_rep4, r_addL, eCallK, List.reverse_cons, List.reverse_nil, gNm, List.set_cons_succ, List.set_cons_zero, r_chain, r_wchain, r_negC, r_allM, r_anyM, r_all2, r_sl, r_oSo, r_oNo, tI'_i, r_slT, r_slL, r_raise, r_expr, r_addT, r_said, r_zp, zpD_t, zpD_l, r_tupB, r_lstB, r_callN, r_callKN, r_asg3, r_g3, r_putIx, r_eqS, r_neS, c_L_next, eIsC, slk, eFldV, fldS, lkN, tyN]
      exact h
theorem c_mk (x : Xn) (i j : Int) (n : Nat) (R : List Str → List D → Nat → Prop) (h0 : 0 ≤ i) (h1 : 1 ≤ j) (h2 : j < 2 ^ 250) (h : R ["own_num", "own_den"] [.int (low (i, j)).1, .int (low (i, j)).2] n) : C_Slack_mk x [.int i, .int j] n R :=
  ⟨_, _, rfl, by simp [Ty, tyN], by simp [Ty, tyN], .inl ⟨i, j, rfl, rfl, h0, h1, h2, h⟩⟩
theorem h_Slack__add_ : ∀ x ds n R, ds.length = 2 → C_Slack_add x ds n R → w_Slack__add_ x {nx := fun _ n => R .non n, rt := R} (st0 ds N_Slack__add_) n := by
  intro x ds n R _ h
  obtain ⟨p, q, rfl, hp, hq, h⟩ := h
  have f1 : ("own_num" : Str) ≠ "own_den" := by decide
  simp only [w_Slack__add_, N_Slack__add_, r_bin, r_ixT0, r_ixT1, r_ixT2, r_ixT3, r_ixL0, r_ixL1, r_ixL2, r_ixL3, r_sub, r_add, r_mul, r_div, r_mod, r_pow, r_le, r_gt, r_ge, r_lt, r_eqI, r_neI, r_sIf, r_asg, r_asg2, r_g2, sRet, sSeq, sNext, sRetN, eVar, eVarB, eC, r_dt, r_rd, r_rdo, r_owS, tB_bl, r_test, r_notV, r_tru, r_trB, r_trL, r_trI, r_sqL, r_sqT, tw_2, r_par, r_rev, rv_t, rv_l, r_mt, r_ext, r_app, r_len, r_lenT, ow_ex, size0, size1, size2, size3, size4, ↓reduceIte, Bool.false_eq_true, sSetN, nLst, eFz, eCB,  eTup, aCons, aNil, eIf, wOr, wAnd, wNot, r_andV, r_orV, bT_bl, r_ifAnd, r_ifOr, eCall, eMake, st0, List.map, List.replicate, List.append, List.length, List.set, List.getElem?_cons_zero, List.getElem?_cons_succ, List.cons_append, List.nil_append, Nat.reduceSub, Nat.reduceAdd, Nat.zero_add, List.append_nil, true_and, and_true, List.getElem?_nil, List.length_cons, List.length_nil, List.map_cons, List.map_nil, r_pt0, r_pt1, r_fr0, r_fr1, r_ed0, r_ed1, r_g2pt, r_g2fr, r_g2ed, ed_mk, r_ltP, r_eqP, r_neP, r_eqE, r_inE, r_notInE, r_inEE, c_in_order, c_turning, c_product, c_cross, c_are_apart, c_overlap_well, c_meet_well, c_offset_parts, c_offset_of, c_is_integer, c_common, c_Slack_init, c_L_lies, c_L_meet, c_L_offset, c_L_spot, eq_self, rv_ed, gP_10, r_rep4, r_addL, eCallK, List.reverse_cons, List.reverse_nil, gNm, List.set_cons_succ, List.set_cons_zero, r_chain, r_wchain, r_negC, r_allM, r_anyM, r_all2, r_sl, r_oSo, r_oNo, tI'_i, r_slT, r_slL, r_raise, r_expr, r_addT, r_said, r_zp, zpD_t, zpD_l, r_tupB, r_lstB, r_callN, r_callKN, r_asg3, r_g3, r_putIx, r_eqS, r_neS, c_L_next, eIsC, slk, eFldV, fldS, lkN, if_neg f1, ↓reduceIte, Option.some.injEq, exists_eq_left', Bool.not_true, eMakeY, yR]
  obtain ⟨a0, a1, b0, b1⟩ := hp
  obtain ⟨c0, c1, d0, d1⟩ := hq
  refine ⟨SB.mul ⟨a0, a1, b0, b1⟩ ⟨c0, c1, d0, d1⟩, SB.mul ⟨c0, c1, d0, d1⟩ ⟨a0, a1, b0, b1⟩, .inr ⟨⟨by omega, by omega⟩, ⟨by omega, by omega⟩⟩, ?_⟩
  have h1 := mul_lt120 a0 a1 (show 0 ≤ q.2 by omega) d1
  have h2 := mul_lt120 c0 c1 (show 0 ≤ p.2 by omega) b1
  have h3 := mul_lt120 (show 0 ≤ p.2 by omega) b1 (show 0 ≤ q.2 by omega) d1
  exact c_mk _ _ _ _ _ (by omega) (mul_ge1 b0 d0) (by omega) h
theorem h_Slack__mul_ : ∀ x ds n R, ds.length = 2 → C_Slack_mul x ds n R → w_Slack__mul_ x {nx := fun _ n => R .non n, rt := R} (st0 ds N_Slack__mul_) n := by
  intro x ds n R _ h
  obtain ⟨p, i, rfl, hp, i0, i1, h⟩ := h
  have f1 : ("own_num" : Str) ≠ "own_den" := by decide
  obtain ⟨a0, a1, b0, b1⟩ := hp
  simp only [w_Slack__mul_, N_Slack__mul_, r_bin, r_ixT0, r_ixT1, r_ixT2, r_ixT3, r_ixL0, r_ixL1, r_ixL2, r_ixL3, r_sub, r_add, r_mul, r_div, r_mod, r_pow, r_le, r_gt, r_ge, r_lt, r_eqI, r_neI, r_sIf, r_asg, r_asg2, r_g2, sRet, sSeq, sNext, sRetN, eVar, eVarB, eC, r_dt, r_rd, r_rdo, r_owS, tB_bl, r_test, r_notV, r_tru, r_trB, r_trL, r_trI, r_sqL, r_sqT, tw_2, r_par, r_rev, rv_t, rv_l, r_mt, r_ext, r_app, r_len, r_lenT, ow_ex, size0, size1, size2, size3, size4, ↓reduceIte, Bool.false_eq_true, sSetN, nLst, eFz, eCB,  eTup, aCons, aNil, eIf, wOr, wAnd, wNot, r_andV, r_orV, bT_bl, r_ifAnd, r_ifOr, eCall, eMake, st0, List.map, List.replicate, List.append, List.length, List.set, List.getElem?_cons_zero, List.getElem?_cons_succ, List.cons_append, List.nil_append, Nat.reduceSub, Nat.reduceAdd, Nat.zero_add, List.append_nil, true_and, and_true, List.getElem?_nil, List.length_cons, List.length_nil, List.map_cons, List.map_nil, r_pt0, r_pt1, r_fr0, r_fr1, r_ed0, r_ed1, r_g2pt, r_g2fr, r_g2ed, ed_mk, r_ltP, r_eqP, r_neP, r_eqE, r_inE, r_notInE, r_inEE, c_in_order, c_turning, c_product, c_cross, c_are_apart, c_overlap_well, c_meet_well, c_offset_parts, c_offset_of, c_is_integer, c_common, c_Slack_init, c_L_lies, c_L_meet, c_L_offset, c_L_spot, eq_self, rv_ed, gP_10, r_rep4, r_addL, eCallK, List.reverse_cons, List.reverse_nil, gNm, List.set_cons_succ, List.set_cons_zero, r_chain, r_wchain, r_negC, r_allM, r_anyM, r_all2, r_sl, r_oSo, r_oNo, tI'_i, r_slT, r_slL, r_raise, r_expr, r_addT, r_said, r_zp, zpD_t, zpD_l, r_tupB, r_lstB, r_callN, r_callKN, r_asg3, r_g3, r_putIx, r_eqS, r_neS, c_L_next, eIsC, slk, eFldV, fldS, lkN, if_neg f1, ↓reduceIte, Option.some.injEq, exists_eq_left', Bool.not_true, eMakeY, yR]
  refine ⟨i, rfl, ?_⟩
  rcases h with ⟨h1, h⟩ | ⟨h1, h⟩
  · exact .inl ⟨h1, h⟩
  · refine .inr ⟨h1, .inr ⟨⟨by omega, by omega⟩, ⟨by omega, by omega⟩⟩, ?_⟩
    have h2 := mul_lt120 a0 a1 h1 i1
    exact c_mk _ _ _ _ _ h2.1 b0 (by omega) h
theorem h_Slack__rmul_ : ∀ x ds n R, ds.length = 2 → C_Slack_rmul x ds n R → w_Slack__rmul_ x {nx := fun _ n => R .non n, rt := R} (st0 ds N_Slack__rmul_) n := h_Slack__mul_
theorem log_lt {i : Int} (h0 : 0 ≤ i) (h1 : i < 2 ^ 250) : i.natAbs.log2 < 1920 := by
  by_cases e : i.natAbs = 0
  · rw [e]; decide
  · rw [Nat.log2_lt e]
    have h2 : i.natAbs < 2 ^ 250 := by omega
    exact Nat.lt_of_lt_of_le h2 (Nat.pow_le_pow_right (by decide) (by decide))
theorem h_Slack__str_ : ∀ x ds n R, ds.length = 1 → C_Slack_str x ds n R → w_Slack__str_ x {nx := fun _ n => R .non n, rt := R} (st0 ds N_Slack__str_) n := by
  intro x ds n R _ h
  obtain ⟨p, rfl, hp, h⟩ := h
  have f1 : ("own_num" : Str) ≠ "own_den" := by decide
  obtain ⟨a0, a1, b0, b1⟩ := hp
  simp only [w_Slack__str_, N_Slack__str_, r_bin, r_ixT0, r_ixT1, r_ixT2, r_ixT3, r_ixL0, r_ixL1, r_ixL2, r_ixL3, r_sub, r_add, r_mul, r_div, r_mod, r_pow, r_le, r_gt, r_ge, r_lt, r_eqI, r_neI, r_sIf, r_asg, r_asg2, r_g2, sRet, sSeq, sNext, sRetN, eVar, eVarB, eC, r_dt, r_rd, r_rdo, r_owS, tB_bl, r_test, r_notV, r_tru, r_trB, r_trL, r_trI, r_sqL, r_sqT, tw_2, r_par, r_rev, rv_t, rv_l, r_mt, r_ext, r_app, r_len, r_lenT, ow_ex, size0, size1, size2, size3, size4, ↓reduceIte, Bool.false_eq_true, sSetN, nLst, eFz, eCB,  eTup, aCons, aNil, eIf, wOr, wAnd, wNot, r_andV, r_orV, bT_bl, r_ifAnd, r_ifOr, eCall, eMake, st0, List.map, List.replicate, List.append, List.length, List.set, List.getElem?_cons_zero, List.getElem?_cons_succ, List.cons_append, List.nil_append, Nat.reduceSub, Nat.reduceAdd, Nat.zero_add, List.append_nil, true_and, and_true, List.getElem?_nil, List.length_cons, List.length_nil, List.map_cons, List.map_nil, r_pt0, r_pt1, r_fr0, r_fr1, r_ed0, r_ed1, r_g2pt, r_g2fr, r_g2ed, ed_mk, r_ltP, r_eqP, r_neP, r_eqE, r_inE, r_notInE, r_inEE, c_in_order, c_turning, c_product, c_cross, c_are_apart, c_overlap_well, c_meet_well, c_offset_parts, c_offset_of, c_is_integer, c_common, c_Slack_init, c_L_lies, c_L_meet, c_L_offset, c_L_spot, eq_self, rv_ed, gP_10, r_rep4, r_addL, eCallK, List.reverse_cons, List.reverse_nil, gNm, List.set_cons_succ, List.set_cons_zero, r_chain, r_wchain, r_negC, r_allM, r_anyM, r_all2, r_sl, r_oSo, r_oNo, tI'_i, r_slT, r_slL, r_raise, r_expr, r_addT, r_said, r_zp, zpD_t, zpD_l, r_tupB, r_lstB, r_callN, r_callKN, r_asg3, r_g3, r_putIx, r_eqS, r_neS, c_L_next, slk, eFldV, fldS, lkN, if_neg f1, ↓reduceIte, Option.some.injEq, exists_eq_left', decide_eq_true_eq, bStrI, eJ3, eFm, fmtD, tSt]
  unfold slkS at h
  split
  · rename_i e
    rw [if_pos e] at h
    exact ⟨log_lt a0 (by omega), h⟩
  · rename_i e
    rw [if_neg e] at h
    have l1 := tS_len a0 (show p.1 < 10 ^ 40 by omega)
    have l2 := tS_len (show 0 ≤ p.2 by omega) (show p.2 < 10 ^ 40 by omega)
    unfold tS at l1 l2
    have sz : (1000 : Nat) ≤ sizeLine := by decide
    have l0 : (("/" : Str)).length = 1 := rfl
    have le0 : (Str.empty).length = 0 := rfl
    refine ⟨log_lt a0 (by omega), ?_, ?_, log_lt (by omega) (by omega), ?_, h⟩
    all_goals
      simp only [TL.len_tl, TL.tl_append, List.length_append] at l1 l2 l0 le0 ⊢
      omega
theorem h_Slack__init_ : ∀ p x ds n R, ds.length = 2 → C_Slack_mk x ds n R → w_Slack__init_ x { nx := fun η n => obS "Slack" η[0]? fun p' ns fs => p' = p ∧ R ns fs n, rt := fun _ _ => False } (.ob p "Slack" [] [] :: (ds.map Sl.dt ++ List.replicate (N_Slack__init_.length - (2 + 1)) Sl.un)) n := by
  intro p x ds n R _ h
  obtain ⟨d, e, rfl, td, te, h⟩ := h
  rcases h with ⟨a, b, rfl, rfl, ha, hb, hb2, h⟩ | ⟨hbad, h⟩
  · have g0 := gcd_pos (a := a) hb
    have g1 := gcd_le (a := a) hb
    simp only [w_Slack__init_, N_Slack__init_, r_bin, r_ixT0, r_ixT1, r_ixT2, r_ixT3, r_ixL0, r_ixL1, r_ixL2, r_ixL3, r_sub, r_add, r_mul, r_div, r_mod, r_pow, r_le, r_gt, r_ge, r_lt, r_eqI, r_neI, r_sIf, r_asg, r_asg2, r_g2, sRet, sSeq, sNext, sRetN, eVar, eVarB, eC, r_dt, r_rd, r_rdo, r_owS, tB_bl, r_test, r_notV, r_tru, r_trB, r_trL, r_trI, r_sqL, r_sqT, tw_2, r_par, r_rev, rv_t, rv_l, r_mt, r_ext, r_app, r_len, r_lenT, ow_ex, size0, size1, size2, size3, size4, ↓reduceIte, Bool.false_eq_true, sSetN, nLst, eFz, eCB,  eTup, aCons, aNil, eIf, wOr, wAnd, wNot, r_andV, r_orV, bT_bl, r_ifAnd, r_ifOr, eCall, eMake, st0, List.map, List.replicate, List.append, List.length, List.set, List.getElem?_cons_zero, List.getElem?_cons_succ, List.cons_append, List.nil_append, Nat.reduceSub, Nat.reduceAdd, Nat.zero_add, List.append_nil, true_and, and_true, List.getElem?_nil, List.length_cons, List.length_nil, List.map_cons, List.map_nil, r_pt0, r_pt1, r_fr0, r_fr1, r_ed0, r_ed1, r_g2pt, r_g2fr, r_g2ed, ed_mk, r_ltP, r_eqP, r_neP, r_eqE, r_inE, r_notInE, r_inEE, c_in_order, c_turning, c_product, c_cross, c_are_apart, c_overlap_well, c_meet_well, c_offset_parts, c_offset_of, c_is_integer, c_common, c_Slack_init, c_L_lies, c_L_meet, c_L_offset, c_L_spot, eq_self, rv_ed, gP_10, r_rep4, r_addL, eCallK, List.reverse_cons, List.reverse_nil, gNm, List.set_cons_succ, List.set_cons_zero, r_chain, r_wchain, r_negC, r_allM, r_anyM, r_all2, r_sl, r_oSo, r_oNo, tI'_i, r_slT, r_slL, r_raise, r_expr, r_addT, r_said, r_zp, zpD_t, zpD_l, r_tupB, r_lstB, r_callN, r_callKN, r_asg3, r_g3, r_putIx, r_eqS, r_neS, c_L_next, sPutF, obS, putN, sNever]
    rw [show decide (a < 0) = false by simp; omega, show decide (b < 1) = false by simp; omega]
    simp only [Bool.not_true, Bool.false_eq_true, if_false]
    refine ⟨by omega, ha, ⟨?_, ?_⟩, by decide, ?_⟩
    all_goals (try rw [Int.gcd_comm])
    · exact g0
    · omega
    · simp
      refine ⟨⟨g0, by omega⟩, ?_⟩
      exact h
  · have rej : ∀ (d : D) (n : Nat) (Q : Bool → Nat → Prop), Ty d → (∀ a, d ≠ .int a) → Q false n → C_is_integer x [d] n fun d n1 => truth d fun b => Q b n1 := fun d n Q td hd hq => by
      cases d <;> first | exact absurd rfl (hd _) | skip
      all_goals first | exact absurd rfl td | exact ⟨_, _, rfl, rfl, hq⟩
    simp only [w_Slack__init_, N_Slack__init_, r_bin, r_ixT0, r_ixT1, r_ixT2, r_ixT3, r_ixL0, r_ixL1, r_ixL2, r_ixL3, r_sub, r_add, r_mul, r_div, r_mod, r_pow, r_le, r_gt, r_ge, r_lt, r_eqI, r_neI, r_sIf, r_asg, r_asg2, r_g2, sRet, sSeq, sNext, sRetN, eVar, eVarB, eC, r_dt, r_rd, r_rdo, r_owS, tB_bl, r_test, r_notV, r_tru, r_trB, r_trL, r_trI, r_sqL, r_sqT, tw_2, r_par, r_rev, rv_t, rv_l, r_mt, r_ext, r_app, r_len, r_lenT, ow_ex, size0, size1, size2, size3, size4, ↓reduceIte, Bool.false_eq_true, sSetN, nLst, eFz, eCB,  eTup, aCons, aNil, eIf, wOr, wAnd, wNot, r_andV, r_orV, bT_bl, r_ifAnd, r_ifOr, eCall, eMake, st0, List.map, List.replicate, List.append, List.length, List.set, List.getElem?_cons_zero, List.getElem?_cons_succ, List.cons_append, List.nil_append, Nat.reduceSub, Nat.reduceAdd, Nat.zero_add, List.append_nil, true_and, and_true, List.getElem?_nil, List.length_cons, List.length_nil, List.map_cons, List.map_nil, r_pt0, r_pt1, r_fr0, r_fr1, r_ed0, r_ed1, r_g2pt, r_g2fr, r_g2ed, ed_mk, r_ltP, r_eqP, r_neP, r_eqE, r_inE, r_notInE, r_inEE, c_in_order, c_turning, c_product, c_cross, c_are_apart, c_overlap_well, c_meet_well, c_offset_parts, c_offset_of, c_is_integer, c_common, c_Slack_init, c_L_lies, c_L_meet, c_L_offset, c_L_spot, eq_self, rv_ed, gP_10, r_rep4, r_addL, eCallK, List.reverse_cons, List.reverse_nil, gNm, List.set_cons_succ, List.set_cons_zero, r_chain, r_wchain, r_negC, r_allM, r_anyM, r_all2, r_sl, r_oSo, r_oNo, tI'_i, r_slT, r_slL, r_raise, r_expr, r_addT, r_said, r_zp, zpD_t, zpD_l, r_tupB, r_lstB, r_callN, r_callKN, r_asg3, r_g3, r_putIx, r_eqS, r_neS, c_L_next, sPutF, obS, putN, sNever]
    by_cases hd : ∃ a, d = .int a
    · obtain ⟨a, rfl⟩ := hd
      by_cases he : ∃ b, e = .int b
      · obtain ⟨b, rfl⟩ := he
        simp only [r_bin, r_ixT0, r_ixT1, r_ixT2, r_ixT3, r_ixL0, r_ixL1, r_ixL2, r_ixL3, r_sub, r_add, r_mul, r_div, r_mod, r_pow, r_le, r_gt, r_ge, r_lt, r_eqI, r_neI, r_sIf, r_asg, r_asg2, r_g2, sRet, sSeq, sNext, sRetN, eVar, eVarB, eC, r_dt, r_rd, r_rdo, r_owS, tB_bl, r_test, r_notV, r_tru, r_trB, r_trL, r_trI, r_sqL, r_sqT, tw_2, r_par, r_rev, rv_t, rv_l, r_mt, r_ext, r_app, r_len, r_lenT, ow_ex, size0, size1, size2, size3, size4, ↓reduceIte, Bool.false_eq_true, sSetN, nLst, eFz, eCB,  eTup, aCons, aNil, eIf, wOr, wAnd, wNot, r_andV, r_orV, bT_bl, r_ifAnd, r_ifOr, eCall, eMake, st0, List.map, List.replicate, List.append, List.length, List.set, List.getElem?_cons_zero, List.getElem?_cons_succ, List.cons_append, List.nil_append, Nat.reduceSub, Nat.reduceAdd, Nat.zero_add, List.append_nil, true_and, and_true, List.getElem?_nil, List.length_cons, List.length_nil, List.map_cons, List.map_nil, r_pt0, r_pt1, r_fr0, r_fr1, r_ed0, r_ed1, r_g2pt, r_g2fr, r_g2ed, ed_mk, r_ltP, r_eqP, r_neP, r_eqE, r_inE, r_notInE, r_inEE, c_in_order, c_turning, c_product, c_cross, c_are_apart, c_overlap_well, c_meet_well, c_offset_parts, c_offset_of, c_is_integer, c_common, c_Slack_init, c_L_lies, c_L_meet, c_L_offset, c_L_spot, eq_self, rv_ed, gP_10, r_rep4, r_addL, eCallK, List.reverse_cons, List.reverse_nil, gNm, List.set_cons_succ, List.set_cons_zero, r_chain, r_wchain, r_negC, r_allM, r_anyM, r_all2, r_sl, r_oSo, r_oNo, tI'_i, r_slT, r_slL, r_raise, r_expr, r_addT, r_said, r_zp, zpD_t, zpD_l, r_tupB, r_lstB, r_callN, r_callKN, r_asg3, r_g3, r_putIx, r_eqS, r_neS, c_L_next, decide_eq_true_eq, Bool.not_true]
        rcases hbad a b rfl rfl with hh | hh
        · rw [if_pos hh]; exact h
        · by_cases ha : a < 0
          · rw [if_pos ha]; exact h
          · rw [if_neg ha, if_pos hh]; exact h
      · simp only [c_is_integer, r_trB, Bool.not_true, Bool.false_eq_true, if_false]
        refine rej e n _ te (fun b hb => he ⟨b, hb⟩) ?_
        exact h
    · refine rej d n _ td (fun b hb => hd ⟨b, hb⟩) ?_
      exact h
end DL
set_option maxHeartbeats 4000000
namespace DL
open PySem PySem.Spec PyProof.Rows L2
theorem sz5 : (100000 : Nat) ≤ sizeLine := by decide
theorem r_lenS {s : Str} (h : s.length ≤ 100000) (k : D → Prop) : bLen [.str s] k = k (.int s.length) := by
  have : s.length ≤ sizeLine := Nat.le_trans h sz5
  simp [bLen, this]
theorem h_number_in : ∀ x ds n R, ds.length = 1 → C_number_in x ds n R → w_number_in x {nx := fun _ n => R .non n, rt := R} (st0 ds N_number_in) n := by
  intro x ds n R _ h
  obtain ⟨s, rfl, hl, h⟩ := h
  have cp : ∀ (R : List D → Nat → Prop), R (s.cps.toList.map fun c => .bl (dgt c)) n → nLc [1] (iTx (eVar 0)) (gNm 1) wYes (eBin oInSg (eVarB 1) (eC (.str "0123456789"))) x [.dt (.str s), .un] n R := fun R hR => by
    simp only [nLc, iTx, r_bin, r_ixT0, r_ixT1, r_ixT2, r_ixT3, r_ixL0, r_ixL1, r_ixL2, r_ixL3, r_sub, r_add, r_mul, r_div, r_mod, r_pow, r_le, r_gt, r_ge, r_lt, r_eqI, r_neI, r_sIf, r_asg, r_asg2, r_g2, sRet, sSeq, sNext, sRetN, eVar, eVarB, eC, r_dt, r_rd, r_rdo, r_owS, tB_bl, r_test, r_notV, r_tru, r_trB, r_trL, r_trI, r_sqL, r_sqT, tw_2, r_par, r_rev, rv_t, rv_l, r_mt, r_ext, r_app, r_len, r_lenT, ow_ex, size0, size1, size2, size3, size4, ↓reduceIte, Bool.false_eq_true, sSetN, nLst, eFz, eCB,  eTup, aCons, aNil, eIf, wOr, wAnd, wNot, r_andV, r_orV, bT_bl, r_ifAnd, r_ifOr, eCall, eMake, st0, List.map, List.replicate, List.append, List.length, List.set, List.getElem?_cons_zero, List.getElem?_cons_succ, List.cons_append, List.nil_append, Nat.reduceSub, Nat.reduceAdd, Nat.zero_add, List.append_nil, true_and, and_true, List.getElem?_nil, List.length_cons, List.length_nil, List.map_cons, List.map_nil, r_pt0, r_pt1, r_fr0, r_fr1, r_ed0, r_ed1, r_g2pt, r_g2fr, r_g2ed, ed_mk, r_ltP, r_eqP, r_neP, r_eqE, r_inE, r_notInE, r_inEE, c_in_order, c_turning, c_product, c_cross, c_are_apart, c_overlap_well, c_meet_well, c_offset_parts, c_offset_of, c_is_integer, c_common, c_Slack_init, c_L_lies, c_L_meet, c_L_offset, c_L_spot, eq_self, rv_ed, gP_10, r_rep4, r_addL, eCallK, List.reverse_cons, List.reverse_nil, gNm, List.set_cons_succ, List.set_cons_zero, r_chain, r_wchain, r_negC, r_allM, r_anyM, r_all2, r_sl, r_oSo, r_oNo, tI'_i, r_slT, r_slL, r_raise, r_expr, r_addT, r_said, r_zp, zpD_t, zpD_l, r_tupB, r_lstB, r_callN, r_callKN, r_asg3, r_g3, r_putIx, r_eqS, r_neS, c_L_next, wipeS]
    refine lc_mapY (emb := fun c => .str (sgn c)) (fun c => .bl (dgt c)) _ [] n (fun c hc Q hq => ?_) ?_ (by simpa using hR)
    · simp only [r_bin, r_ixT0, r_ixT1, r_ixT2, r_ixT3, r_ixL0, r_ixL1, r_ixL2, r_ixL3, r_sub, r_add, r_mul, r_div, r_mod, r_pow, r_le, r_gt, r_ge, r_lt, r_eqI, r_neI, r_sIf, r_asg, r_asg2, r_g2, sRet, sSeq, sNext, sRetN, eVar, eVarB, eC, r_dt, r_rd, r_rdo, r_owS, tB_bl, r_test, r_notV, r_tru, r_trB, r_trL, r_trI, r_sqL, r_sqT, tw_2, r_par, r_rev, rv_t, rv_l, r_mt, r_ext, r_app, r_len, r_lenT, ow_ex, size0, size1, size2, size3, size4, ↓reduceIte, Bool.false_eq_true, sSetN, nLst, eFz, eCB,  eTup, aCons, aNil, eIf, wOr, wAnd, wNot, r_andV, r_orV, bT_bl, r_ifAnd, r_ifOr, eCall, eMake, st0, List.map, List.replicate, List.append, List.length, List.set, List.getElem?_cons_zero, List.getElem?_cons_succ, List.cons_append, List.nil_append, Nat.reduceSub, Nat.reduceAdd, Nat.zero_add, List.append_nil, true_and, and_true, List.getElem?_nil, List.length_cons, List.length_nil, List.map_cons, List.map_nil, r_pt0, r_pt1, r_fr0, r_fr1, r_ed0, r_ed1, r_g2pt, r_g2fr, r_g2ed, ed_mk, r_ltP, r_eqP, r_neP, r_eqE, r_inE, r_notInE, r_inEE, c_in_order, c_turning, c_product, c_cross, c_are_apart, c_overlap_well, c_meet_well, c_offset_parts, c_offset_of, c_is_integer, c_common, c_Slack_init, c_L_lies, c_L_meet, c_L_offset, c_L_spot, eq_self, rv_ed, gP_10, r_rep4, r_addL, eCallK, List.reverse_cons, List.reverse_nil, gNm, List.set_cons_succ, List.set_cons_zero, r_chain, r_wchain, r_negC, r_allM, r_anyM, r_all2, r_sl, r_oSo, r_oNo, tI'_i, r_slT, r_slL, r_raise, r_expr, r_addT, r_said, r_zp, zpD_t, zpD_l, r_tupB, r_lstB, r_callN, r_callKN, r_asg3, r_g3, r_putIx, r_eqS, r_neS, c_L_next]
      exact ⟨c, rfl, by rw [dgt_mem]; exact hq⟩
    · have := sz5
      have e : s.cps.toList.length = s.length := (TL.len_tl s).symm
      simp only [List.length_nil]
      omega
  have e40 : ((s.length : Int) ≤ 40) = (s.length ≤ 40) := by apply propext; omega
  have e1 : ((1 : Int) ≤ s.length) = (1 ≤ s.length) := by apply propext; omega
  have e11 : ((1 : Int) < s.length) = (1 < s.length) := by apply propext; omega
  simp only [w_number_in, N_number_in, r_bin, r_ixT0, r_ixT1, r_ixT2, r_ixT3, r_ixL0, r_ixL1, r_ixL2, r_ixL3, r_sub, r_add, r_mul, r_div, r_mod, r_pow, r_le, r_gt, r_ge, r_lt, r_eqI, r_neI, r_sIf, r_asg, r_asg2, r_g2, sRet, sSeq, sNext, sRetN, eVar, eVarB, eC, r_dt, r_rd, r_rdo, r_owS, tB_bl, r_test, r_notV, r_tru, r_trB, r_trL, r_trI, r_sqL, r_sqT, tw_2, r_par, r_rev, rv_t, rv_l, r_mt, r_ext, r_app, r_len, r_lenT, ow_ex, size0, size1, size2, size3, size4, ↓reduceIte, Bool.false_eq_true, sSetN, nLst, eFz, eCB,  eTup, aCons, aNil, eIf, wOr, wAnd, wNot, r_andV, r_orV, bT_bl, r_ifAnd, r_ifOr, eCall, eMake, st0, List.map, List.replicate, List.append, List.length, List.set, List.getElem?_cons_zero, List.getElem?_cons_succ, List.cons_append, List.nil_append, Nat.reduceSub, Nat.reduceAdd, Nat.zero_add, List.append_nil, true_and, and_true, List.getElem?_nil, List.length_cons, List.length_nil, List.map_cons, List.map_nil, r_pt0, r_pt1, r_fr0, r_fr1, r_ed0, r_ed1, r_g2pt, r_g2fr, r_g2ed, ed_mk, r_ltP, r_eqP, r_neP, r_eqE, r_inE, r_notInE, r_inEE, c_in_order, c_turning, c_product, c_cross, c_are_apart, c_overlap_well, c_meet_well, c_offset_parts, c_offset_of, c_is_integer, c_common, c_Slack_init, c_L_lies, c_L_meet, c_L_offset, c_L_spot, eq_self, rv_ed, gP_10, r_rep4, r_addL, eCallK, List.reverse_cons, List.reverse_nil, gNm, List.set_cons_succ, List.set_cons_zero, r_chain, r_wchain, r_negC, r_allM, r_anyM, r_all2, r_sl, r_oSo, r_oNo, tI'_i, r_slT, r_slL, r_raise, r_expr, r_addT, r_said, r_zp, zpD_t, zpD_l, r_tupB, r_lstB, r_callN, r_callKN, r_asg3, r_g3, r_putIx, r_eqS, r_neS, c_L_next, r_lenS hl, decide_eq_true_eq, e40, e1, e11]
  have fin : (1 ≤ s.length) → (s.length ≤ 40) → nLc [1] (iTx (eVar 0)) (gNm 1) wYes (eBin oInSg (eVarB 1) (eC (.str "0123456789"))) x [.dt (.str s), .un] n fun xs n' =>
      bAll [.lst xs] fun d => truth d fun b => if (!b) = true then R (.int (-1)) n' else
        if 1 < s.length then oIx (.str s) (.int 0) fun d => oEqS d (.str "0") fun d => tB d fun b => if b = true then R (.int (-1)) n' else bIntS [.str s] fun d => R d n' else bIntS [.str s] fun d => R d n' := fun h1 h2 => by
    apply cp
    rw [r_allM, r_trB]
    have hd : digB s = s.cps.toList.all dgt := digB_all s
    unfold numIn at h
    rw [hd] at h
    cases ha : s.cps.toList.all dgt with
    | false =>
      rw [ha] at h
      simp only [Bool.and_false, Bool.false_eq_true, if_false] at h
      simpa using h
    | true =>
      rw [ha] at h
      have hi := intText_digits (x := s) (fun c hc => by
        have := List.all_eq_true.mp ha c hc
        unfold dgt at this
        simpa using this) (fun z => by
          have z' : TL.tl s = [] := z
          rw [TL.len_tl, z'] at h1
          simp at h1) (by omega)
      rw [hi, if_pos (by simp [h1, h2])] at h
      have bi : ∀ k : D → Prop, k (.int ((NumText.digitsVal s.cps.toList : Nat) : Int)) → bIntS [.str s] k := fun k hk => ⟨by omega, _, hi, hk⟩
      simp only [Bool.not_true, Bool.false_eq_true, if_false]
      by_cases h3 : 1 < s.length
      · rw [if_pos h3]
        obtain ⟨c, t, hc⟩ : ∃ c t, s.cps.toList = c :: t := by
          cases e : s.cps.toList with
          | nil =>
            have z' : TL.tl s = [] := e
            rw [TL.len_tl, z'] at h1
            simp at h1
          | cons c t => exact ⟨c, t, rfl⟩
        refine ⟨c, Nat.le_trans hl sz5, by rw [hc]; exact atI_0 .., ?_⟩
        have e0 : ((⟨#[c]⟩ : Str) = "0") = (c = 48) := by
          apply propext
          have : ("0" : Str) = ⟨#[48]⟩ := by decide +kernel
          rw [this]
          constructor
          · intro z; simpa using z
          · rintro rfl; rfl
        simp only [r_eqS, tB_bl, decide_eq_true_eq, e0]
        rw [hc] at h
        simp only [h3, decide_true, Bool.true_and, List.head?_cons, Option.some.injEq, decide_eq_true_eq] at h
        by_cases h4 : c = 48
        · rw [if_pos h4]
          rw [if_pos h4] at h
          exact h
        · rw [if_neg h4]
          rw [if_neg h4] at h
          apply bi
          rw [hc]
          exact h
      · rw [if_neg h3]
        rw [if_neg (by simp [h3])] at h
        exact bi _ h
  by_cases h1 : 1 ≤ s.length
  · by_cases h2 : s.length ≤ 40
    · simpa [h1, h2] using fin h1 h2
    · have e : numIn s = -1 := by unfold numIn; simp [h2]
      rw [e] at h
      simpa [h1, h2] using h
  · have e : numIn s = -1 := by unfold numIn; simp [h1]
    rw [e] at h
    simpa [h1] using h
end DL
set_option maxHeartbeats 4000000
namespace DL
open PySem PySem.Spec PyProof.Rows L2 TL
theorem lay_ints (ns : List Int) : Lay (.lst (ns.map D.int)) := (LayN.lst (k := 0) fun d hd => by
  obtain ⟨i, _, rfl⟩ := List.mem_map.mp hd
  exact LayN.int i).lay
theorem lay_intsT (ns : List Int) : Lay (.tup (ns.map D.int)) := (LayN.tup (k := 0) fun d hd => by
  obtain ⟨i, _, rfl⟩ := List.mem_map.mp hd
  exact LayN.int i).lay
theorem dIn_ints (a : Int) (ns : List Int) : dIn (.int a) (ns.map D.int) = ns.any fun z => decide (z = a) := by
  unfold dIn
  rw [List.any_map]
  have e : ((fun z => deq z (D.int a)) ∘ D.int) = fun z => decide (z = a) := funext fun z => deq_int z a
  rw [e]
theorem r_inI (a : Int) (ns : List Int) (k : D → Prop) : oIn (.int a) (.lst (ns.map D.int)) k = k (.bl (ns.any fun z => decide (z = a))) := by
  unfold oIn
  simp only [lay_int, lay_ints, true_and, dIn_ints]
theorem r_notInT (a : Int) (ns : List Int) (k : D → Prop) : oNotIn (.int a) (.tup (ns.map D.int)) k = k (.bl (!ns.any fun z => decide (z = a))) := by
  unfold oNotIn
  simp only [lay_int, lay_intsT, true_and, dIn_ints]
theorem spl_len (S : List Nat) : ∀ (l acc : List Nat) (k : Nat), ∀ q ∈ spl S k acc l, q.length ≤ acc.length + l.length
  | [], acc, k, q, h => by
    rw [spl_nil] at h
    rw [List.mem_singleton.mp h]
    simp
  | c :: r, acc, 0, q, h => by
    by_cases hp : pre S (c :: r) = true
    · rw [spl_hit hp] at h
      rcases List.mem_cons.mp h with rfl | h
      · simp
      · have := spl_len S r [] _ q h
        simp at this ⊢
        omega
    · rw [spl_miss (by simpa using hp)] at h
      have := spl_len S r _ 0 q h
      simp at this ⊢
      omega
  | c :: r, acc, k + 1, q, h => by
    have := spl_len S r acc k q h
    simp at this ⊢
    omega
theorem spl_many (S : List Nat) : ∀ (l acc : List Nat) (k : Nat), (spl S k acc l).length ≤ l.length + 1
  | [], acc, k => by rw [spl_nil]; simp
  | c :: r, acc, 0 => by
    by_cases hp : pre S (c :: r) = true
    · rw [spl_hit hp]
      have := spl_many S r [] (S.length - 1)
      simp at this ⊢
      omega
    · rw [spl_miss (by simpa using hp)]
      have := spl_many S r (acc ++ [c]) 0
      simp at this ⊢
      omega
  | c :: r, acc, k + 1 => by
    have := spl_many S r acc k
    show (spl S k acc r).length ≤ _
    simp at this ⊢
    omega
theorem split_parts (s : Str) : (Txt.split s "/").length ≤ s.length + 1 ∧ ∀ p ∈ Txt.split s "/", p.length ≤ s.length := by
  have e1 : tl ("/" : Str) = [47] := by decide +kernel
  have e2 := split_spl s ("/" : Str) (by rw [e1]; simp) (kind_ok (by decide +kernel))
  rw [e1] at e2
  have m := spl_many [47] (tl s) [] 0
  have l := spl_len [47] (tl s) [] 0
  rw [← e2] at m l
  rw [len_tl]
  refine ⟨by simpa using m, fun p hp => ?_⟩
  have := l (tl p) (List.mem_map_of_mem hp)
  rw [len_tl]
  simpa using this
def rdI (ns : List Int) : Option (Int × Int) := match ns with
  | [a] => if a = -1 then none else some (a, 1)
  | [a, b] => if a = -1 ∨ b = -1 ∨ b = 0 then none else some (a, b)
  | _ => none
theorem readS_rdI (s : Str) : readS s = rdI ((Txt.split s "/").map numIn) := by
  unfold readS
  generalize List.map numIn (Txt.split s (Str.ofString "/")) = L
  rcases L with _ | ⟨a, _ | ⟨b, _ | ⟨c, t⟩⟩⟩ <;> rfl
theorem read_tail {x : Xn} {d d2 : D} {n : Nat} {R : D → Nat → Prop} (ns : List Int) (h : match rdI ns with
  | some q => 0 ≤ q.1 ∧ 1 ≤ q.2 ∧ q.2 < 2 ^ 250 ∧ R (slk (low q)) n
  | none => x (exG "BadSlack" d) n) :
    oNotIn (.int (((ns.map D.int).length : Nat) : Int)) (.tup [.int 1, .int 2]) fun d_2 => tB d_2 fun b => if b = true then x (.ins "BadSlack" ["given"] [d]) n else
      oIn (.int (-1)) (.lst (ns.map D.int)) fun d_3 => tB d_3 fun b => if b = true then x (.ins "BadSlack" ["given"] [d]) n else
        if (((ns.map D.int).length : Nat) : Int) = 2 then oIx (.lst (ns.map D.int)) (.int 1) fun d_4 => oEq d_4 (.int 0) fun d_5 => tB d_5 fun b => if b = true then x (.ins "BadSlack" ["given"] [d]) n else
          eMkS yR 0 "Slack" 2 C_Slack_mk [.int 1] (eVarB 3) x [.cl "Slack", .dt d, .dt d2, .ow (ns.map D.int), .un] n R
        else eMkS yR 0 "Slack" 2 C_Slack_mk [.int 1] (eVarB 3) x [.cl "Slack", .dt d, .dt d2, .ow (ns.map D.int), .un] n R := by
  rw [show ([.int 1, .int 2] : List D) = ([1, 2] : List Int).map D.int from rfl, r_notInT, r_inI]
  rcases ns with _ | ⟨a, _ | ⟨b, _ | ⟨c, t⟩⟩⟩
  · simpa [rdI, tB_bl] using h
  · simp only [rdI] at h
    simp only [List.map_cons, List.map_nil, List.length_cons, List.length_nil, tB_bl, List.any_cons, List.any_nil, eMkS, eVarB, List.getElem?_cons_zero, List.getElem?_cons_succ, r_rdo, yR]
    by_cases h1 : a = -1
    · rw [if_pos h1] at h
      simpa [h1] using h
    · rw [if_neg h1] at h
      obtain ⟨h2, h3, h4, h5⟩ := h
      simpa [h1] using c_mk x a 1 n _ h2 h3 h4 h5
  · simp only [rdI] at h
    simp only [List.map_cons, List.map_nil, List.length_cons, List.length_nil, tB_bl, List.any_cons, List.any_nil, eMkS, eVarB, List.getElem?_cons_zero, List.getElem?_cons_succ, r_rdo, yR, r_ixL1, r_eqI]
    by_cases h1 : a = -1 ∨ b = -1 ∨ b = 0
    · rw [if_pos h1] at h
      by_cases h2 : a = -1
      · simpa [h2] using h
      · by_cases h3 : b = -1
        · simpa [h2, h3] using h
        · have h4 : b = 0 := by omega
          simpa [h2, h3, h4] using h
    · rw [if_neg h1] at h
      obtain ⟨h2, h3, h4, h5⟩ := h
      have e1 : a ≠ -1 := fun z => h1 (.inl z)
      have e2 : b ≠ -1 := fun z => h1 (.inr (.inl z))
      have e3 : b ≠ 0 := fun z => h1 (.inr (.inr z))
      simpa [e1, e2, e3] using c_mk x a b n _ h2 h3 h4 h5
  · simp only [rdI] at h
    have e1 : ¬ ((1 : Int) = ((List.map D.int (a :: b :: c :: t)).length : Nat)) := by simp; omega
    have e2 : ¬ ((2 : Int) = ((List.map D.int (a :: b :: c :: t)).length : Nat)) := by simp; omega
    simp only [tB_bl, List.any_cons, List.any_nil, decide_eq_false e1, decide_eq_false e2, Bool.or_false, Bool.not_false, if_true]
    exact h
theorem isB_str {x : Xn} {η : List Sl} {n : Nat} {d : D} {i : Nat} {k : Bool → Nat → Prop} (hi : η[i]? = some (.dt d)) (td : Ty d) (h1 : ∀ s, d = .str s → k true n) (h2 : (∀ s, d ≠ .str s) → k false n) : eIsB "str" (eVarB i) x η n fun d1 n1 => truth d1 fun b => k b n1 := by
  unfold eIsB eVarB
  rw [hi]
  show ∃ a b, tyN d = some a ∧ kitB a "str" = some b ∧ k b n
  cases d <;> first | exact absurd rfl td | skip
  case str s => exact ⟨_, true, rfl, rfl, h1 s rfl⟩
  all_goals exact ⟨_, false, rfl, rfl, h2 (fun s z => by cases z)⟩
theorem h_Slack_read : ∀ x ds n R, ds.length = 1 → C_Slack_read x ds n R → w_Slack_read x {nx := fun _ n => R .non n, rt := R} (.cl "Slack" :: (ds.map Sl.dt ++ List.replicate (N_Slack_read.length - (1 + 1)) Sl.un)) n := by
  intro x ds n R _ h
  obtain ⟨d, rfl, td, hs, h⟩ := h
  simp only [w_Slack_read, N_Slack_read, r_bin, r_ixT0, r_ixT1, r_ixT2, r_ixT3, r_ixL0, r_ixL1, r_ixL2, r_ixL3, r_sub, r_add, r_mul, r_div, r_mod, r_pow, r_le, r_gt, r_ge, r_lt, r_eqI, r_neI, r_sIf, r_asg, r_asg2, r_g2, sRet, sSeq, sNext, sRetN, eVar, eVarB, eC, r_dt, r_rd, r_rdo, r_owS, tB_bl, r_test, r_notV, r_tru, r_trB, r_trL, r_trI, r_sqL, r_sqT, tw_2, r_par, r_rev, rv_t, rv_l, r_mt, r_ext, r_app, r_len, r_lenT, ow_ex, size0, size1, size2, size3, size4, ↓reduceIte, Bool.false_eq_true, sSetN, nLst, eFz, eCB,  eTup, aCons, aNil, eIf, wOr, wAnd, wNot, r_andV, r_orV, bT_bl, r_ifAnd, r_ifOr, eCall, eMake, st0, List.map, List.replicate, List.append, List.length, List.set, List.getElem?_cons_zero, List.getElem?_cons_succ, List.cons_append, List.nil_append, Nat.reduceSub, Nat.reduceAdd, Nat.zero_add, List.append_nil, true_and, and_true, List.getElem?_nil, List.length_cons, List.length_nil, List.map_cons, List.map_nil, r_pt0, r_pt1, r_fr0, r_fr1, r_ed0, r_ed1, r_g2pt, r_g2fr, r_g2ed, ed_mk, r_ltP, r_eqP, r_neP, r_eqE, r_inE, r_notInE, r_inEE, c_in_order, c_turning, c_product, c_cross, c_are_apart, c_overlap_well, c_meet_well, c_offset_parts, c_offset_of, c_is_integer, c_common, c_Slack_init, c_L_lies, c_L_meet, c_L_offset, c_L_spot, eq_self, rv_ed, gP_10, r_rep4, r_addL, eCallK, List.reverse_cons, List.reverse_nil, gNm, List.set_cons_succ, List.set_cons_zero, r_chain, r_wchain, r_negC, r_allM, r_anyM, r_all2, r_sl, r_oSo, r_oNo, tI'_i, r_slT, r_slL, r_raise, r_expr, r_addT, r_said, r_zp, zpD_t, zpD_l, r_tupB, r_lstB, r_callN, r_callKN, r_asg3, r_g3, r_putIx, r_eqS, r_neS, c_L_next, decide_eq_true_eq]
  refine isB_str (k := fun b n1 => _) rfl td (fun s hd => ?_) (fun hd => ?_)
  · subst hd
    simp only [if_true, eSplit, r_bin, r_ixT0, r_ixT1, r_ixT2, r_ixT3, r_ixL0, r_ixL1, r_ixL2, r_ixL3, r_sub, r_add, r_mul, r_div, r_mod, r_pow, r_le, r_gt, r_ge, r_lt, r_eqI, r_neI, r_sIf, r_asg, r_asg2, r_g2, sRet, sSeq, sNext, sRetN, eVar, eVarB, eC, r_dt, r_rd, r_rdo, r_owS, tB_bl, r_test, r_notV, r_tru, r_trB, r_trL, r_trI, r_sqL, r_sqT, tw_2, r_par, r_rev, rv_t, rv_l, r_mt, r_ext, r_app, r_len, r_lenT, ow_ex, size0, size1, size2, size3, size4, ↓reduceIte, Bool.false_eq_true, sSetN, nLst, eFz, eCB,  eTup, aCons, aNil, eIf, wOr, wAnd, wNot, r_andV, r_orV, bT_bl, r_ifAnd, r_ifOr, eCall, eMake, st0, List.map, List.replicate, List.append, List.length, List.set, List.getElem?_cons_zero, List.getElem?_cons_succ, List.cons_append, List.nil_append, Nat.reduceSub, Nat.reduceAdd, Nat.zero_add, List.append_nil, true_and, and_true, List.getElem?_nil, List.length_cons, List.length_nil, List.map_cons, List.map_nil, r_pt0, r_pt1, r_fr0, r_fr1, r_ed0, r_ed1, r_g2pt, r_g2fr, r_g2ed, ed_mk, r_ltP, r_eqP, r_neP, r_eqE, r_inE, r_notInE, r_inEE, c_in_order, c_turning, c_product, c_cross, c_are_apart, c_overlap_well, c_meet_well, c_offset_parts, c_offset_of, c_is_integer, c_common, c_Slack_init, c_L_lies, c_L_meet, c_L_offset, c_L_spot, eq_self, rv_ed, gP_10, r_rep4, r_addL, eCallK, List.reverse_cons, List.reverse_nil, gNm, List.set_cons_succ, List.set_cons_zero, r_chain, r_wchain, r_negC, r_allM, r_anyM, r_all2, r_sl, r_oSo, r_oNo, tI'_i, r_slT, r_slL, r_raise, r_expr, r_addT, r_said, r_zp, zpD_t, zpD_l, r_tupB, r_lstB, r_callN, r_callKN, r_asg3, r_g3, r_putIx, r_eqS, r_neS, c_L_next]
    have hl : s.length ≤ 100000 := hs
    have sp := split_parts s
    refine ⟨rfl, by have := sz5; have : (200000 : Nat) ≤ sizeLine := by decide
                    omega, ?_⟩
    simp only [nLc, iSq, r_bin, r_ixT0, r_ixT1, r_ixT2, r_ixT3, r_ixL0, r_ixL1, r_ixL2, r_ixL3, r_sub, r_add, r_mul, r_div, r_mod, r_pow, r_le, r_gt, r_ge, r_lt, r_eqI, r_neI, r_sIf, r_asg, r_asg2, r_g2, sRet, sSeq, sNext, sRetN, eVar, eVarB, eC, r_dt, r_rd, r_rdo, r_owS, tB_bl, r_test, r_notV, r_tru, r_trB, r_trL, r_trI, r_sqL, r_sqT, tw_2, r_par, r_rev, rv_t, rv_l, r_mt, r_ext, r_app, r_len, r_lenT, ow_ex, size0, size1, size2, size3, size4, ↓reduceIte, Bool.false_eq_true, sSetN, nLst, eFz, eCB,  eTup, aCons, aNil, eIf, wOr, wAnd, wNot, r_andV, r_orV, bT_bl, r_ifAnd, r_ifOr, eCall, eMake, st0, List.map, List.replicate, List.append, List.length, List.set, List.getElem?_cons_zero, List.getElem?_cons_succ, List.cons_append, List.nil_append, Nat.reduceSub, Nat.reduceAdd, Nat.zero_add, List.append_nil, true_and, and_true, List.getElem?_nil, List.length_cons, List.length_nil, List.map_cons, List.map_nil, r_pt0, r_pt1, r_fr0, r_fr1, r_ed0, r_ed1, r_g2pt, r_g2fr, r_g2ed, ed_mk, r_ltP, r_eqP, r_neP, r_eqE, r_inE, r_notInE, r_inEE, c_in_order, c_turning, c_product, c_cross, c_are_apart, c_overlap_well, c_meet_well, c_offset_parts, c_offset_of, c_is_integer, c_common, c_Slack_init, c_L_lies, c_L_meet, c_L_offset, c_L_spot, eq_self, rv_ed, gP_10, r_rep4, r_addL, eCallK, List.reverse_cons, List.reverse_nil, gNm, List.set_cons_succ, List.set_cons_zero, r_chain, r_wchain, r_negC, r_allM, r_anyM, r_all2, r_sl, r_oSo, r_oNo, tI'_i, r_slT, r_slL, r_raise, r_expr, r_addT, r_said, r_zp, zpD_t, zpD_l, r_tupB, r_lstB, r_callN, r_callKN, r_asg3, r_g3, r_putIx, r_eqS, r_neS, c_L_next, wipeS]
    refine lc_mapY (emb := D.str) (fun p => .int (numIn p)) _ [] n (fun p hp Q hq => ?_) ?_ ?_
    · simp only [r_bin, r_ixT0, r_ixT1, r_ixT2, r_ixT3, r_ixL0, r_ixL1, r_ixL2, r_ixL3, r_sub, r_add, r_mul, r_div, r_mod, r_pow, r_le, r_gt, r_ge, r_lt, r_eqI, r_neI, r_sIf, r_asg, r_asg2, r_g2, sRet, sSeq, sNext, sRetN, eVar, eVarB, eC, r_dt, r_rd, r_rdo, r_owS, tB_bl, r_test, r_notV, r_tru, r_trB, r_trL, r_trI, r_sqL, r_sqT, tw_2, r_par, r_rev, rv_t, rv_l, r_mt, r_ext, r_app, r_len, r_lenT, ow_ex, size0, size1, size2, size3, size4, ↓reduceIte, Bool.false_eq_true, sSetN, nLst, eFz, eCB,  eTup, aCons, aNil, eIf, wOr, wAnd, wNot, r_andV, r_orV, bT_bl, r_ifAnd, r_ifOr, eCall, eMake, st0, List.map, List.replicate, List.append, List.length, List.set, List.getElem?_cons_zero, List.getElem?_cons_succ, List.cons_append, List.nil_append, Nat.reduceSub, Nat.reduceAdd, Nat.zero_add, List.append_nil, true_and, and_true, List.getElem?_nil, List.length_cons, List.length_nil, List.map_cons, List.map_nil, r_pt0, r_pt1, r_fr0, r_fr1, r_ed0, r_ed1, r_g2pt, r_g2fr, r_g2ed, ed_mk, r_ltP, r_eqP, r_neP, r_eqE, r_inE, r_notInE, r_inEE, c_in_order, c_turning, c_product, c_cross, c_are_apart, c_overlap_well, c_meet_well, c_offset_parts, c_offset_of, c_is_integer, c_common, c_Slack_init, c_L_lies, c_L_meet, c_L_offset, c_L_spot, eq_self, rv_ed, gP_10, r_rep4, r_addL, eCallK, List.reverse_cons, List.reverse_nil, gNm, List.set_cons_succ, List.set_cons_zero, r_chain, r_wchain, r_negC, r_allM, r_anyM, r_all2, r_sl, r_oSo, r_oNo, tI'_i, r_slT, r_slL, r_raise, r_expr, r_addT, r_said, r_zp, zpD_t, zpD_l, r_tupB, r_lstB, r_callN, r_callKN, r_asg3, r_g3, r_putIx, r_eqS, r_neS, c_L_next]
      exact ⟨p, rfl, by have := sp.2 p hp; omega, hq⟩
    · have : (200000 : Nat) ≤ sizeLine := by decide
      simp only [List.length_nil]
      omega
    · have e : (Txt.split s "/").map (fun p => D.int (numIn p)) = ((Txt.split s "/").map numIn).map D.int := by rw [List.map_map]; rfl
      rw [List.nil_append, e]
      refine read_tail _ ?_
      rw [← readS_rdI]
      exact h
  · have e : readD d = none := by
      cases d <;> first | rfl | skip
      exact absurd rfl (hd _)
    rw [e] at h
    simp only [Bool.false_eq_true, if_false, nLc, iSq, r_bin, r_ixT0, r_ixT1, r_ixT2, r_ixT3, r_ixL0, r_ixL1, r_ixL2, r_ixL3, r_sub, r_add, r_mul, r_div, r_mod, r_pow, r_le, r_gt, r_ge, r_lt, r_eqI, r_neI, r_sIf, r_asg, r_asg2, r_g2, sRet, sSeq, sNext, sRetN, eVar, eVarB, eC, r_dt, r_rd, r_rdo, r_owS, tB_bl, r_test, r_notV, r_tru, r_trB, r_trL, r_trI, r_sqL, r_sqT, tw_2, r_par, r_rev, rv_t, rv_l, r_mt, r_ext, r_app, r_len, r_lenT, ow_ex, size0, size1, size2, size3, size4, ↓reduceIte, Bool.false_eq_true, sSetN, nLst, eFz, eCB,  eTup, aCons, aNil, eIf, wOr, wAnd, wNot, r_andV, r_orV, bT_bl, r_ifAnd, r_ifOr, eCall, eMake, st0, List.map, List.replicate, List.append, List.length, List.set, List.getElem?_cons_zero, List.getElem?_cons_succ, List.cons_append, List.nil_append, Nat.reduceSub, Nat.reduceAdd, Nat.zero_add, List.append_nil, true_and, and_true, List.getElem?_nil, List.length_cons, List.length_nil, List.map_cons, List.map_nil, r_pt0, r_pt1, r_fr0, r_fr1, r_ed0, r_ed1, r_g2pt, r_g2fr, r_g2ed, ed_mk, r_ltP, r_eqP, r_neP, r_eqE, r_inE, r_notInE, r_inEE, c_in_order, c_turning, c_product, c_cross, c_are_apart, c_overlap_well, c_meet_well, c_offset_parts, c_offset_of, c_is_integer, c_common, c_Slack_init, c_L_lies, c_L_meet, c_L_offset, c_L_spot, eq_self, rv_ed, gP_10, r_rep4, r_addL, eCallK, List.reverse_cons, List.reverse_nil, gNm, List.set_cons_succ, List.set_cons_zero, r_chain, r_wchain, r_negC, r_allM, r_anyM, r_all2, r_sl, r_oSo, r_oNo, tI'_i, r_slT, r_slL, r_raise, r_expr, r_addT, r_said, r_zp, zpD_t, zpD_l, r_tupB, r_lstB, r_callN, r_callKN, r_asg3, r_g3, r_putIx, r_eqS, r_neS, c_L_next, wipeS, runLc]
    exact read_tail (d2 := .lst []) [] h
end DL
set_option maxHeartbeats 4000000
namespace DL
open PySem PySem.Spec PyProof.Rows L2 TL
theorem h_L_pick : ∀ x ds n R, ds.length = 2 → C_L_pick x ds n R → w_L_pick x {nx := fun _ n => R .non n, rt := R} (st0 ds N_L_pick) n := by
  intro x ds n R _ h
  obtain ⟨xs, rfl, hx, hl, hn, h⟩ := h
  simp only [w_L_pick, N_L_pick, r_bin, r_ixT0, r_ixT1, r_ixT2, r_ixT3, r_ixL0, r_ixL1, r_ixL2, r_ixL3, r_sub, r_add, r_mul, r_div, r_mod, r_pow, r_le, r_gt, r_ge, r_lt, r_eqI, r_neI, r_sIf, r_asg, r_asg2, r_g2, sRet, sSeq, sNext, sRetN, eVar, eVarB, eC, r_dt, r_rd, r_rdo, r_owS, tB_bl, r_test, r_notV, r_tru, r_trB, r_trL, r_trI, r_sqL, r_sqT, tw_2, r_par, r_rev, rv_t, rv_l, r_mt, r_ext, r_app, r_len, r_lenT, ow_ex, size0, size1, size2, size3, size4, ↓reduceIte, Bool.false_eq_true, sSetN, nLst, eFz, eCB,  eTup, aCons, aNil, eIf, wOr, wAnd, wNot, r_andV, r_orV, bT_bl, r_ifAnd, r_ifOr, eCall, eMake, st0, List.map, List.replicate, List.append, List.length, List.set, List.getElem?_cons_zero, List.getElem?_cons_succ, List.cons_append, List.nil_append, Nat.reduceSub, Nat.reduceAdd, Nat.zero_add, List.append_nil, true_and, and_true, List.getElem?_nil, List.length_cons, List.length_nil, List.map_cons, List.map_nil, r_pt0, r_pt1, r_fr0, r_fr1, r_ed0, r_ed1, r_g2pt, r_g2fr, r_g2ed, ed_mk, r_ltP, r_eqP, r_neP, r_eqE, r_inE, r_notInE, r_inEE, c_in_order, c_turning, c_product, c_cross, c_are_apart, c_overlap_well, c_meet_well, c_offset_parts, c_offset_of, c_is_integer, c_common, c_Slack_init, c_L_lies, c_L_meet, c_L_offset, c_L_spot, eq_self, rv_ed, gP_10, r_rep4, r_addL, eCallK, List.reverse_cons, List.reverse_nil, gNm, List.set_cons_succ, List.set_cons_zero, r_chain, r_wchain, r_negC, r_allM, r_anyM, r_all2, r_sl, r_oSo, r_oNo, tI'_i, r_slT, r_slL, r_raise, r_expr, r_addT, r_said, r_zp, zpD_t, zpD_l, r_tupB, r_lstB, r_callN, r_callKN, r_asg3, r_g3, r_putIx, r_eqS, r_neS, c_L_next, C_L_next]
  have := List.length_pos_iff.2 hx
  refine ⟨by omega, by omega, hn, fun r h0 h1 => ?_⟩
  have hr : r.toNat < xs.length := by omega
  exact ⟨xs[r.toNat], by rw [atI_nat h0]; exact List.getElem?_eq_getElem hr, h _ (List.getElem_mem hr)⟩
theorem h_L_number : ∀ x ds n R, ds.length = 1 → C_L_number x ds n R → w_L_number x {nx := fun _ n => R .non n, rt := R} (st0 ds N_L_number) n := by
  intro x ds n R _ h
  obtain ⟨rfl, hn, h⟩ := h
  simp only [w_L_number, N_L_number, r_bin, r_ixT0, r_ixT1, r_ixT2, r_ixT3, r_ixL0, r_ixL1, r_ixL2, r_ixL3, r_sub, r_add, r_mul, r_div, r_mod, r_pow, r_le, r_gt, r_ge, r_lt, r_eqI, r_neI, r_sIf, r_asg, r_asg2, r_g2, sRet, sSeq, sNext, sRetN, eVar, eVarB, eC, r_dt, r_rd, r_rdo, r_owS, tB_bl, r_test, r_notV, r_tru, r_trB, r_trL, r_trI, r_sqL, r_sqT, tw_2, r_par, r_rev, rv_t, rv_l, r_mt, r_ext, r_app, r_len, r_lenT, ow_ex, size0, size1, size2, size3, size4, ↓reduceIte, Bool.false_eq_true, sSetN, nLst, eFz, eCB,  eTup, aCons, aNil, eIf, wOr, wAnd, wNot, r_andV, r_orV, bT_bl, r_ifAnd, r_ifOr, eCall, eMake, st0, List.map, List.replicate, List.append, List.length, List.set, List.getElem?_cons_zero, List.getElem?_cons_succ, List.cons_append, List.nil_append, Nat.reduceSub, Nat.reduceAdd, Nat.zero_add, List.append_nil, true_and, and_true, List.getElem?_nil, List.length_cons, List.length_nil, List.map_cons, List.map_nil, r_pt0, r_pt1, r_fr0, r_fr1, r_ed0, r_ed1, r_g2pt, r_g2fr, r_g2ed, ed_mk, r_ltP, r_eqP, r_neP, r_eqE, r_inE, r_notInE, r_inEE, c_in_order, c_turning, c_product, c_cross, c_are_apart, c_overlap_well, c_meet_well, c_offset_parts, c_offset_of, c_is_integer, c_common, c_Slack_init, c_L_lies, c_L_meet, c_L_offset, c_L_spot, eq_self, rv_ed, gP_10, r_rep4, r_addL, eCallK, List.reverse_cons, List.reverse_nil, gNm, List.set_cons_succ, List.set_cons_zero, r_chain, r_wchain, r_negC, r_allM, r_anyM, r_all2, r_sl, r_oSo, r_oNo, tI'_i, r_slT, r_slL, r_raise, r_expr, r_addT, r_said, r_zp, zpD_t, zpD_l, r_tupB, r_lstB, r_callN, r_callKN, r_asg3, r_g3, r_putIx, r_eqS, r_neS, c_L_next]
  have e1 : ((10 : Int) ^ Int.toNat 12) = 1000000000000 := by decide +kernel
  have e2 : ((10 : Int) ^ Int.toNat 30) = 10 ^ 30 := by decide +kernel
  rw [e1, e2]
  refine ⟨by decide, by decide, by decide, _, rfl, by simp, by simp, by omega, fun d hd => ?_⟩
  obtain ⟨m, rfl, hm⟩ : ∃ m : Int, d = .int m ∧ 0 < m ∧ m ≤ 10 ^ 30 := by
    simp only [List.mem_cons, List.not_mem_nil, or_false] at hd
    rcases hd with rfl | rfl | rfl | rfl | rfl
    · exact ⟨_, rfl, by decide, by decide⟩
    · exact ⟨_, rfl, by decide, by decide⟩
    · exact ⟨_, rfl, by decide, by decide⟩
    · exact ⟨_, rfl, by decide, by decide⟩
    · exact ⟨_, rfl, by decide, by decide⟩
  exact ⟨hm.1, by omega, by omega, fun r h0 h1 => h r h0 (by omega)⟩
end DL
set_option maxHeartbeats 4000000
namespace DL
open PySem PySem.Spec PyProof.Rows L2 TL
theorem r_strI {a : Int} (h0 : 0 ≤ a) (h1 : a < 2 ^ 250) (k : D → Prop) : bStrI [.int a] k = k (.str (tS a)) := by
  unfold bStrI tS
  simp only [log_lt h0 h1, true_and]
theorem r_addS {x y : Str} (h : x.length + y.length ≤ 1000) (k : D → Prop) : oAdd (.str x) (.str y) k = k (.str (x ++ y)) := by
  have : x.length + y.length ≤ sizeLine := Nat.le_trans h (by decide)
  unfold oAdd
  simp only [this, true_and]
theorem len_app (x y : Str) : (x ++ y).length = x.length + y.length := by
  simp only [len_tl, tl_append, List.length_append]
theorem r_mulS {x : Str} {n : Nat} (h2 : 2 ≤ n) (h1 : 1 ≤ x.length) (h3 : x.length * n ≤ 100000) (k : D → Prop) (hk : k (.str (strRep x n))) : oMulS (.str x) (.int (n : Int)) k := ⟨n, rfl, h2, h1, h3, hk⟩
theorem seqW (a b : WS) (x : Xn) (k : Wk) (η : List Sl) (n : Nat) : sSeq a b x k η n = a x { k with nx := fun η' n' => b x k η' n' } η n := rfl
theorem asgW (w : WE) (i : Nat) (x : Xn) (k : Wk) (η : List Sl) (n : Nat) : sAsg w (gNm i) x k η n = w x η n fun d n1 => k.nx (η.set i (.dt d)) n1 := rfl
theorem lstW (w : WA) (x : Xn) (η : List Sl) (n : Nat) (R : D → Nat → Prop) : eFz (nLst w) x η n R = w x η n fun ds n1 => ds.length ≤ sizeLine ∧ R (.lst ds) n1 := rfl
theorem consW (w : WE) (r : WA) (x : Xn) (η : List Sl) (n : Nat) (R : List D → Nat → Prop) : aCons w r x η n R = w x η n fun d n1 => r x η n1 fun ds n2 => R (d :: ds) n2 := rfl
theorem nilW (x : Xn) (η : List Sl) (n : Nat) (R : List D → Nat → Prop) : aNil x η n R = R [] n := rfl
theorem binW (o : O2) (wa wb : WE) (x : Xn) (η : List Sl) (n : Nat) (R : D → Nat → Prop) : eBin o wa wb x η n R = wa x η n fun a n1 => wb x η n1 fun b n2 => o a b fun d => R d n2 := rfl
theorem cW (d : D) (x : Xn) (η : List Sl) (n : Nat) (R : D → Nat → Prop) : eC d x η n R = R d n := rfl
theorem cbW (o : OB) (w : WA) (x : Xn) (η : List Sl) (n : Nat) (R : D → Nat → Prop) : eCB o w x η n R = w x η n fun ds n1 => o ds fun d => R d n1 := rfl
theorem varW (i : Nat) (d : D) (x : Xn) (η : List Sl) (n : Nat) (R : D → Nat → Prop) (h : η[i]? = some (.dt d)) : eVarB i x η n R = R d n := by
  unfold eVarB
  rw [h]
  rfl
theorem vbW (i : Nat) (x : Xn) (η : List Sl) (n : Nat) (R : D → Nat → Prop) : eVarB i x η n R = rdS η[i]? fun d => R d n := rfl
theorem h_L_texts : ∀ x ds n R, ds.length = 3 → C_L_texts x ds n R → w_L_texts x {nx := fun _ n => R .non n, rt := R} (st0 ds N_L_texts) n := by
  intro x ds n R _ h
  obtain ⟨a, b, rfl, ⟨a0, a1, b0, b1⟩, h⟩ := h
  have la := tS_len a0 (show a < 10 ^ 40 by omega)
  have lb := tS_len (show 0 ≤ b by omega) (show b < 10 ^ 40 by omega)
  have sa : ∀ k : D → Prop, bStrI [.int a] k = k (.str (tS a)) := r_strI a0 (by omega)
  have sb : ∀ k : D → Prop, bStrI [.int b] k = k (.str (tS b)) := r_strI (by omega) (by omega)
  unfold textsD plainS at h
  have st : st0 [.drw, .int a, .int b] N_L_texts = [.dt .drw, .dt (.int a), .dt (.int b), .un, .un] := rfl
  rw [st]
  unfold w_L_texts
  have z1 : (Str.ofString "/").length = 1 := rfl
  have z2 : (Str.ofString "/1").length = 2 := rfl
  have z3 : (Str.ofString "0").length = 1 := rfl
  have z4 : (Str.ofString " ").length = 1 := rfl
  have z5 : (Str.ofString "-").length = 1 := rfl
  have z6 : (Str.ofString "/0").length = 2 := rfl
  have z7 : (Str.ofString ".5").length = 2 := rfl
  have z8 : (Str.ofString "1").length = 1 := rfl
  generalize Str.ofString "/" = s1 at *
  generalize Str.ofString "/1" = s2 at *
  generalize Str.ofString "0" = s3 at *
  generalize Str.ofString " " = s4 at *
  generalize Str.ofString "-" = s5 at *
  generalize Str.ofString "/0" = s6 at *
  generalize Str.ofString ".5" = s7 at *
  generalize Str.ofString "1" = s8 at *
  generalize Str.ofString "" = t1 at *
  generalize Str.ofString "1/02" = t2 at *
  generalize Str.ofString "x" = t3 at *
  generalize Str.ofString "00" = t4 at *
  generalize Str.ofString "1 /2" = t5 at *
  generalize Str.ofString "+1" = t6 at *
  generalize tS a = p at *
  generalize tS b = q at *
  have l1 := len_app p s1
  have l2 := len_app (p ++ s1) q
  rw [seqW, asgW, binW, binW, cbW, consW]
  rw [varW 1 (.int a) _ _ _ _ rfl, nilW, sa, cW, r_addS (by omega), cbW, consW, varW 2 (.int b) _ _ _ _ rfl, nilW, sb, r_addS (by omega)]
  dsimp only [List.set]
  rw [seqW, asgW, lstW]
  simp only [consW, nilW, cW, binW, cbW, vbW, List.getElem?_cons_zero, List.getElem?_cons_succ, r_rd, sa, sb]
  rw [r_addS (by omega), r_addS (by omega), r_addS (by omega), r_addS (by omega), r_addS (by omega), r_addS (by omega)]
  refine ⟨by show 9 ≤ sizeLine; decide, ?_⟩
  dsimp only [List.set]
  rw [seqW, asgW, binW, varW 4 _ _ _ _ _ rfl, lstW]
  simp only [consW, nilW, cW, binW, cbW, vbW, List.getElem?_cons_zero, List.getElem?_cons_succ, r_rd, sa, sb]
  rw [r_addS (by omega), r_addS (by omega)]
  refine r_mulS (n := 41) (by decide) (by omega) (by omega) _ ⟨by show 6 ≤ sizeLine; decide, by show 15 ≤ sizeLine; decide, ?_⟩
  dsimp only [List.set]
  show eBin _ _ _ _ _ _ _
  rw [binW, varW 4 _ _ _ _ _ rfl, lstW]
  simp only [consW, nilW, cW, eTup]
  refine ⟨by show 1 ≤ sizeLine; decide, by show 4 ≤ sizeLine; decide, by show 19 ≤ sizeLine; decide, ?_⟩
  exact h
end DL
set_option maxHeartbeats 4000000
/-! fractions in lowest terms -/
namespace DL
open PySem PySem.Spec PyProof.Rows L2 TL
theorem low_scale {a b k : Int} (hk : 0 < k) : low (a * k, b * k) = low (a, b) := by
  unfold low
  have e : ((Int.gcd (a * k) (b * k) : Nat) : Int) = (Int.gcd a b : Int) * k := by
    rw [Int.gcd_mul_right, Int.natCast_mul]
    congr 1
    omega
  dsimp only
  rw [e, Int.mul_ediv_mul_of_pos_left _ _ hk, Int.mul_ediv_mul_of_pos_left _ _ hk]
theorem lowS {a b : Int} (hb : 1 ≤ b) : ∃ g : Int, 0 < g ∧ a = (low (a, b)).1 * g ∧ b = (low (a, b)).2 * g :=
  ⟨Int.gcd a b, gcd_pos hb, (Int.ediv_mul_cancel (Int.gcd_dvd_left ..)).symm, (Int.ediv_mul_cancel (Int.gcd_dvd_right ..)).symm⟩
theorem low_eq {a b c d : Int} (hb : 1 ≤ b) (hd : 1 ≤ d) (h : a * d = c * b) : low (a, b) = low (c, d) := by
  rw [← low_scale (a := a) (b := b) (show 0 < d by omega), ← low_scale (a := c) (b := d) (show 0 < b by omega), h, Int.mul_comm b d]
theorem low_eq_iff {a b c d : Int} (hb : 1 ≤ b) (hd : 1 ≤ d) : low (a, b) = low (c, d) ↔ a * d = c * b := by
  refine ⟨fun h => ?_, low_eq hb hd⟩
  obtain ⟨g, hg, e1, e2⟩ := lowS (a := a) hb
  obtain ⟨k, hk, e3, e4⟩ := lowS (a := c) hd
  rw [← h] at e3 e4
  generalize low (a, b) = p at *
  rw [e1, e2, e3, e4]
  ac_rfl
theorem low_bd {a b : Int} (ha : 0 ≤ a) (hb : 1 ≤ b) : 0 ≤ (low (a, b)).1 ∧ (low (a, b)).1 ≤ a ∧ 1 ≤ (low (a, b)).2 ∧ (low (a, b)).2 ≤ b := by
  have g0 := gcd_pos (a := a) hb
  have h1 : 0 ≤ (low (a, b)).1 := Int.ediv_nonneg ha (by omega)
  have h2 : (low (a, b)).1 ≤ a := Int.ediv_le_self _ ha
  have h3 : (low (a, b)).2 ≤ b := Int.ediv_le_self _ (by omega)
  refine ⟨h1, h2, ?_, h3⟩
  obtain ⟨g, hg, _, e⟩ := lowS (a := a) hb
  by_cases hh : 1 ≤ (low (a, b)).2
  · exact hh
  · have : (low (a, b)).2 * g ≤ 0 := Int.mul_nonpos_of_nonpos_of_nonneg (by omega) (by omega)
    omega
theorem low_low {a b : Int} (hb : 1 ≤ b) : low (low (a, b)) = low (a, b) := by
  obtain ⟨g, hg, e1, e2⟩ := lowS (a := a) hb
  have := low_scale (a := (low (a, b)).1) (b := (low (a, b)).2) hg
  rw [← e1, ← e2] at this
  exact this.symm
theorem low_cmp {a b c d : Int} (hb : 1 ≤ b) (hd : 1 ≤ d) : ∃ m : Int, 0 < m ∧ a * d = (low (a, b)).1 * (low (c, d)).2 * m ∧ c * b = (low (c, d)).1 * (low (a, b)).2 * m := by
  obtain ⟨g, hg, e1, e2⟩ := lowS (a := a) hb
  obtain ⟨k, hk, e3, e4⟩ := lowS (a := c) hd
  refine ⟨g * k, Int.mul_pos hg hk, ?_, ?_⟩
  · generalize low (a, b) = p at *
    generalize low (c, d) = q at *
    rw [e1, e4]
    ac_rfl
  · generalize low (a, b) = p at *
    generalize low (c, d) = q at *
    rw [e3, e2]
    ac_rfl
theorem low_lt_iff {a b c d : Int} (hb : 1 ≤ b) (hd : 1 ≤ d) : ((low (a, b)).1 * (low (c, d)).2 < (low (c, d)).1 * (low (a, b)).2) ↔ a * d < c * b := by
  obtain ⟨m, hm, e1, e2⟩ := low_cmp (a := a) (c := c) hb hd
  rw [e1, e2]
  exact ⟨fun h => Int.mul_lt_mul_of_pos_right h hm, fun h => Int.lt_of_mul_lt_mul_right h (by omega)⟩
theorem low_gt_iff {a b c d : Int} (hb : 1 ≤ b) (hd : 1 ≤ d) : ((low (c, d)).1 * (low (a, b)).2 < (low (a, b)).1 * (low (c, d)).2) ↔ c * b < a * d := by
  obtain ⟨m, hm, e1, e2⟩ := low_cmp (a := a) (c := c) hb hd
  rw [e1, e2]
  exact ⟨fun h => Int.mul_lt_mul_of_pos_right h hm, fun h => Int.lt_of_mul_lt_mul_right h (by omega)⟩
theorem low_SB {a b : Int} (ha : 0 ≤ a) (ha1 : a < 2 ^ 120) (hb : 1 ≤ b) (hb1 : b < 2 ^ 120) : SB (low (a, b)) := by
  obtain ⟨h1, h2, h3, h4⟩ := low_bd ha hb
  exact ⟨h1, by omega, h3, by omega⟩
theorem low_add {a b c d : Int} (hb : 1 ≤ b) (hd : 1 ≤ d) (hp : 1 ≤ (low (a, b)).2) (hq : 1 ≤ (low (c, d)).2) : low ((low (a, b)).1 * (low (c, d)).2 + (low (c, d)).1 * (low (a, b)).2, (low (a, b)).2 * (low (c, d)).2) = low (a * d + c * b, b * d) := by
  obtain ⟨g, hg, e1, e2⟩ := lowS (a := a) hb
  obtain ⟨k, hk, e3, e4⟩ := lowS (a := c) hd
  generalize low (a, b) = p at *
  generalize low (c, d) = q at *
  rw [← low_scale (a := p.1 * q.2 + q.1 * p.2) (b := p.2 * q.2) (Int.mul_pos hg hk)]
  congr 1
  apply Prod.ext
  · show (p.1 * q.2 + q.1 * p.2) * (g * k) = a * d + c * b
    rw [e1, e2, e3, e4, Int.add_mul]
    congr 1 <;> ac_rfl
  · show p.2 * q.2 * (g * k) = b * d
    rw [e2, e4]
    ac_rfl
theorem low_mul {a b c : Int} (hb : 1 ≤ b) : low ((low (a, b)).1 * c, (low (a, b)).2) = low (a * c, b) := by
  obtain ⟨g, hg, e1, e2⟩ := lowS (a := a) hb
  generalize low (a, b) = p at *
  rw [← low_scale (a := p.1 * c) (b := p.2) hg]
  congr 1
  apply Prod.ext
  · show p.1 * c * g = a * c
    rw [e1]
    ac_rfl
  · exact e2.symm
theorem low_zero {b : Int} (hb : 1 ≤ b) : low (0, b) = low (0, 1) := low_eq hb (by decide) (by simp)
theorem low_one {a : Int} : low (a, 1) = (a, 1) := by
  unfold low
  simp
theorem empty_app (s : Str) : Str.empty ++ s = s := ext_tl (by rw [tl_append]; rfl)
theorem read_slk {a b : Int} (h : AB a b) : readS (slkS (low (a, b))) = some (low (a, b)) := by
  obtain ⟨a0, a1, b0, b1⟩ := h
  obtain ⟨h1, h2, h3, h4⟩ := low_bd a0 b0
  generalize low (a, b) = p at *
  unfold slkS
  split
  · rename_i e
    have := read_num h1 (show p.1 ≤ 10 ^ 30 by omega)
    unfold tS at this
    rw [this]
    congr 1
    exact Prod.ext rfl e.symm
  · have := read_plain (a := p.1) (b := p.2) ⟨h1, by omega, h3, by omega⟩
    unfold plainS tS at this
    rw [empty_app]
    exact this
end DL
set_option maxHeartbeats 4000000
/-! readings that give one datum -/
namespace DL
open PySem PySem.Spec PyProof.Rows L2 TL
def EV (w : WE) (x : Xn) (η : List Sl) (n : Nat) (d : D) : Prop := ∀ R : D → Nat → Prop, R d n → w x η n R
def AV (w : WA) (x : Xn) (η : List Sl) (n : Nat) (ds : List D) : Prop := ∀ R : List D → Nat → Prop, R ds n → w x η n R
def TV (t : WT) (x : Xn) (η : List Sl) (n : Nat) (b : Bool) : Prop := ∀ R : Bool → Nat → Prop, R b n → t x η n R
/-- the reading raises d -/
def RV (w : WE) (x : Xn) (η : List Sl) (n : Nat) (d : D) : Prop := ∀ R : D → Nat → Prop, x d n → w x η n R
section
variable {x : Xn} {η : List Sl} {n : Nat}
theorem ev_c {d : D} : EV (eC d) x η n d := fun R h => h
theorem ev_v {i : Nat} {d : D} (h : η[i]? = some (.dt d)) : EV (eVar i) x η n d := fun R hR => by
  unfold eVar
  rw [h]
  exact hR
theorem ev_b {i : Nat} {d : D} (h : η[i]? = some (.dt d)) : EV (eVarB i) x η n d := fun R hR => by
  unfold eVarB
  rw [h]
  exact hR
theorem ev_bin {o : O2} {wa wb : WE} {a b d : D} (ha : EV wa x η n a) (hb : EV wb x η n b) (ho : ∀ k : D → Prop, k d → o a b k) : EV (eBin o wa wb) x η n d := fun R h => ha _ (hb _ (ho (fun d => R d n) h))
theorem av_nil : AV aNil x η n [] := fun R h => h
theorem av_cons {w : WE} {r : WA} {d : D} {ds : List D} (ha : EV w x η n d) (hb : AV r x η n ds) : AV (aCons w r) x η n (d :: ds) := fun R h => ha _ (hb _ h)
theorem ev_tup {w : WA} {ds : List D} (h : AV w x η n ds) (hl : ds.length ≤ 1000 := by simp) : EV (eTup w) x η n (.tup ds) := fun R hR => h _ ⟨Nat.le_trans hl (by decide), hR⟩
theorem ev_lst {w : WA} {ds : List D} (h : AV w x η n ds) (hl : ds.length ≤ 1000 := by simp) : EV (eFz (nLst w)) x η n (.lst ds) := fun R hR => h _ ⟨Nat.le_trans hl (by decide), hR⟩
theorem tv_test {w : WE} {b : Bool} (h : EV w x η n (.bl b)) : TV (wTest w) x η n b := fun R hR => by
  rw [r_test]
  exact h _ hR
theorem tv_or {a b : WT} {c : Bool} (ha : TV a x η n false) (hb : TV b x η n c) : TV (wOr a b) x η n c := fun R h => by
  unfold wOr
  exact ha _ (by simpa using hb _ h)
theorem ev_and {wa wb : WE} {b : Bool} (ha : EV wa x η n (.bl true)) (hb : EV wb x η n (.bl b)) : EV (eAndV wa wb) x η n (.bl b) := fun R h => by
  rw [r_andV]
  exact ha _ (by simpa [bT_bl] using hb _ h)
theorem ev_neg {w : WE} {i : Int} (h : EV w x η n (.int i)) : EV (eNeg w) x η n (.int (-i)) := fun R hR => h _ hR
theorem ev_eq {w : WE} {d e : D} (h : EV w x η n d) (he : d = e) : EV w x η n e := he ▸ h
theorem st_if {t : WT} {a b : WS} {k : Wk} (ht : TV t x η n false) (h : b x k η n) : sSeq (sIf t a sNext) b x k η n := by
  show sIf t a sNext x _ η n
  rw [r_sIf]
  exact ht _ (by simpa [sNext] using h)
theorem st_ifL {t : WT} {a : WS} {k : Wk} (ht : TV t x η n false) (h : k.nx η n) : sIf t a sNext x k η n := by
  rw [r_sIf]
  exact ht _ (by simpa [sNext] using h)
theorem st_asg {w : WE} {i : Nat} {b : WS} {k : Wk} {d : D} (hw : EV w x η n d) (h : b x k (η.set i (.dt d)) n) : sSeq (sAsg w (gNm i)) b x k η n := hw _ h
theorem st_ret {w : WE} {k : Wk} {d : D} (hw : EV w x η n d) (h : k.rt d n) : sRet w x k η n := hw _ h
/-! own slacks -/
theorem slk_inj' {p q : Int × Int} (h : slk p = slk q) : p = q := by
  unfold slk at h
  injection h with h1 h2 h3
  injection h3 with h4 h5
  injection h5 with h6 h7
  injection h4 with h4
  injection h6 with h6
  exact Prod.ext h4 h6
theorem ev_mk {y : Xn → Xn} {dds : List D} {w : WA} {ds : List D} {a b : Int} (hw : AV w x η n ds) (e : ds ++ dds = [.int a, .int b]) (h0 : 0 ≤ a) (h1 : 1 ≤ b) (h2 : b < 2 ^ 250) : EV (eMakeY y "Slack" 2 C_Slack_mk dds w) x η n (slk (low (a, b))) := fun R h => hw _ ⟨by rw [e]; rfl, by rw [e]; exact c_mk _ _ _ _ _ h0 h1 h2 h⟩
theorem rv_mk {dds : List D} {w : WA} {ds : List D} {d e : D} (hw : AV w x η n ds) (he : ds ++ dds = [d, e]) (td : Ty d) (te : Ty e) (hb : ∀ a b : Int, d = .int a → e = .int b → a < 0 ∨ b < 1) : RV (eMakeY yR "Slack" 2 C_Slack_mk dds w) x η n (exG "BadSlack" (.tup [d, e])) := fun R h => hw _ ⟨by rw [he]; rfl, by rw [he]; exact ⟨_, _, rfl, td, te, .inr ⟨hb, h⟩⟩⟩
theorem ev_cmp {f : Int → Int → Bool} {wa wb : WE} {p q : Int × Int} (ha : EV wa x η n (slk p)) (hb : EV wb x η n (slk q)) (hp : SB p) (hq : SB q) : EV (eBin (oOwn "Slack" (cmpC f) false) wa wb) x η n (.bl (f (p.1 * q.2) (q.1 * p.2))) :=
  ev_bin ha hb fun k h => ⟨rfl, rfl, fun n => ⟨p, q, rfl, hp, hq, rfl, h⟩⟩
theorem ev_eqv {wa wb : WE} {p q : Int × Int} (ha : EV wa x η n (slk p)) (hb : EV wb x η n (slk q)) : EV (eBin (oOwn "Slack" C_Slack_eqv false) wa wb) x η n (.bl (decide (p = q))) :=
  ev_bin ha hb fun k h => ⟨rfl, rfl, fun n => ⟨p, _, rfl, .inl ⟨q, rfl, rfl, h⟩⟩⟩
theorem ev_nev {wa wb : WE} {p q : Int × Int} (ha : EV wa x η n (slk p)) (hb : EV wb x η n (slk q)) : EV (eBin (oOwn "Slack" C_Slack_eqv true) wa wb) x η n (.bl (!decide (p = q))) :=
  ev_bin ha hb fun k h => ⟨rfl, rfl, fun n => ⟨p, _, rfl, .inl ⟨q, rfl, rfl, h⟩⟩⟩
theorem ev_eqo {wa wb : WE} {p : Int × Int} {d : D} (ha : EV wa x η n (slk p)) (hb : EV wb x η n d) (hd : isOth d) : EV (eBin (oOwnO "Slack" C_Slack_eqv) wa wb) x η n (.bl false) :=
  ev_bin ha hb fun k h => ⟨rfl, hd, fun n => ⟨p, _, rfl, .inr ⟨hd, rfl, h⟩⟩⟩
theorem ev_add {y : Xn → Xn} {wa wb : WE} {p q : Int × Int} (ha : EV wa x η n (slk p)) (hb : EV wb x η n (slk q)) (hp : SB p) (hq : SB q) : EV (eOwn2 y "Slack" C_Slack_add wa wb) x η n (slk (low (p.1 * q.2 + q.1 * p.2, p.2 * q.2))) := fun R h => ha _ (hb _ ⟨rfl, rfl, p, q, rfl, hp, hq, h⟩)
theorem ev_mul {y : Xn → Xn} {wa wb : WE} {p : Int × Int} {i : Int} (ha : EV wa x η n (slk p)) (hb : EV wb x η n (.int i)) (hp : SB p) (h0 : 0 ≤ i) (h1 : i < 2 ^ 120) : EV (eMulI y "Slack" C_Slack_mul wa wb) x η n (slk (low (p.1 * i, p.2))) := fun R h => ha _ (hb _ ⟨rfl, trivial, p, i, rfl, hp, by omega, h1, .inr ⟨h0, h⟩⟩)
theorem ev_rmul {y : Xn → Xn} {wa wb : WE} {p : Int × Int} {i : Int} (ha : EV wa x η n (.int i)) (hb : EV wb x η n (slk p)) (hp : SB p) (h0 : 0 ≤ i) (h1 : i < 2 ^ 120) : EV (eRMulI y "Slack" C_Slack_rmul wa wb) x η n (slk (low (p.1 * i, p.2))) := fun R h => ha _ (hb _ ⟨trivial, rfl, p, i, rfl, hp, by omega, h1, .inr ⟨h0, h⟩⟩)
theorem rv_mul {wa wb : WE} {p : Int × Int} {i : Int} (ha : EV wa x η n (slk p)) (hb : EV wb x η n (.int i)) (hp : SB p) (h0 : i < 0) (h1 : -(2 ^ 120) < i) : RV (eMulI yR "Slack" C_Slack_mul wa wb) x η n (exG "BadNumber" (.int i)) := fun R h => ha _ (hb _ ⟨rfl, trivial, p, i, rfl, hp, h1, by omega, .inl ⟨h0, h⟩⟩)
theorem rv_rmul {wa wb : WE} {p : Int × Int} {i : Int} (ha : EV wa x η n (.int i)) (hb : EV wb x η n (slk p)) (hp : SB p) (h0 : i < 0) (h1 : -(2 ^ 120) < i) : RV (eRMulI yR "Slack" C_Slack_rmul wa wb) x η n (exG "BadNumber" (.int i)) := fun R h => ha _ (hb _ ⟨trivial, rfl, p, i, rfl, hp, h1, by omega, .inl ⟨h0, h⟩⟩)
theorem ev_str {w : WE} {p : Int × Int} (h : EV w x η n (slk p)) (hp : SB p) : EV (eStrO "Slack" C_Slack_str (aCons w aNil)) x η n (.str (slkS p)) := fun R hR => h _ ⟨rfl, p, rfl, hp, trivial, hR⟩
theorem ev_said {w : WE} {p : Int × Int} (h : ∀ x, EV w x η n (slk p)) : EV (eSaidT "Slack" "own_num" "own_den" tagL w) x η n (.lst [.int p.1, .int p.2]) := fun R hR => h _ _ ⟨rfl, rfl, hR⟩
theorem ev_saidX {w : WE} {cn : Str} {v : D} {z : Str} (h : ∀ x, RV w x η n (exG cn v)) (ht : tagL cn = some z) : EV (eSaidT "Slack" "own_num" "own_den" tagL w) x η n (.lst [.str z, v]) := fun R hR => h _ _ ⟨cn, v, z, rfl, ht, hR⟩
theorem ev_read {y : Xn → Xn} {w : WA} {s : Str} {q : Int × Int} (h : AV w x η n [.str s]) (hs : s.length ≤ 100000) (hr : readS s = some q) (h0 : 0 ≤ q.1) (h1 : 1 ≤ q.2) (h2 : q.2 < 2 ^ 250) : EV (eCMeth y 1 C_Slack_read w) x η n (slk (low q)) := fun R hR => h _ ⟨rfl, _, rfl, by simp [Ty, tyN], hs, by rw [readD_str, hr]; exact ⟨h0, h1, h2, hR⟩⟩
theorem ev_readK {y : Xn → Xn} {w : WA} {s : Str} {q : Int × Int} (h : AV w x η n [.str s]) (hs : s.length ≤ 100000) (hr : readS s = some q) (h0 : 0 ≤ q.1) (h1 : 1 ≤ q.2) (h2 : q.2 < 2 ^ 250) : EV (eCMethK y 1 1 C_Slack_read w) x η n (slk (low q)) := fun R hR => h _ ⟨rfl, rfl, _, rfl, by simp [Ty, tyN], hs, by rw [readD_str, hr]; exact ⟨h0, h1, h2, hR⟩⟩
theorem rv_read {w : WA} {d : D} (h : AV w x η n [d]) (td : Ty d) (hs : shortD d) (hr : readD d = none) : RV (eCMeth yR 1 C_Slack_read w) x η n (exG "BadSlack" d) := fun R hR => h _ ⟨rfl, _, rfl, td, hs, by rw [hr]; exact hR⟩
theorem tag_slack : tagL "BadSlack" = some "slack" := rfl
theorem tag_number : tagL "BadNumber" = some "number" := rfl
theorem ne_self {d : D} (hl : Lay d) (hp : plainD d = true) (k : D → Prop) (h : k (.bl false)) : oNe d d k := ⟨hl, hl, by rw [deq_self d hp]; exact h⟩
end
end DL
set_option maxHeartbeats 4000000
namespace DL
open PySem PySem.Spec PyProof.Rows L2 TL
section
variable {x : Xn} {η : List Sl} {n : Nat}
theorem st_asg2 {w : WE} {i j : Nat} {b : WS} {k : Wk} {d e : D} (hw : EV w x η n (.tup [d, e])) (h : b x k ((η.set i (.dt d)).set j (.dt e)) n) : sSeq (sAsg w (gTp 2 (gsCons (gNm i) (gsCons (gNm j) gsNil)))) b x k η n := by
  rw [seqW, r_asg2]
  exact hw _ (by rw [r_g2]; exact h)
theorem st_par {w : WA} {i j : Nat} {b : WS} {k : Wk} {d e : D} (hw : AV w x η n [d, e]) (h : b x k ((η.set i (.dt d)).set j (.dt e)) n) : sSeq (sPar i j w) b x k η n := by
  rw [seqW, r_par]
  exact hw _ (by simpa [tw_2] using h)
theorem ev_mulI {wa wb : WE} {i j : Int} (ha : EV wa x η n (.int i)) (hb : EV wb x η n (.int j)) (h0 : 0 ≤ i) (h1 : i < 2 ^ 250) (h2 : 0 ≤ j) (h3 : j < 2 ^ 250) : EV (eBin oMul wa wb) x η n (.int (i * j)) := ev_bin ha hb fun k h => ⟨.inr ⟨⟨by omega, h1⟩, ⟨by omega, h3⟩⟩, h⟩
theorem ev_addI {wa wb : WE} {i j : Int} (ha : EV wa x η n (.int i)) (hb : EV wb x η n (.int j)) : EV (eBin oAdd wa wb) x η n (.int (i + j)) := ev_bin ha hb fun k h => h
theorem ev_addL {wa wb : WE} {i j : List D} (ha : EV wa x η n (.lst i)) (hb : EV wb x η n (.lst j)) (hl : i.length + j.length ≤ 1000) : EV (eBin oAdd wa wb) x η n (.lst (i ++ j)) := ev_bin ha hb fun k h => ⟨Nat.le_trans hl (by decide), h⟩
theorem ev_ltI {wa wb : WE} {i j : Int} (ha : EV wa x η n (.int i)) (hb : EV wb x η n (.int j)) : EV (eBin oLt wa wb) x η n (.bl (decide (i < j))) := ev_bin ha hb fun k h => h
theorem ev_leI {wa wb : WE} {i j : Int} (ha : EV wa x η n (.int i)) (hb : EV wb x η n (.int j)) : EV (eBin oLe wa wb) x η n (.bl (decide (i ≤ j))) := ev_bin ha hb fun k h => h
theorem ev_gtI {wa wb : WE} {i j : Int} (ha : EV wa x η n (.int i)) (hb : EV wb x η n (.int j)) : EV (eBin oGt wa wb) x η n (.bl (decide (j < i))) := ev_bin ha hb fun k h => h
theorem ev_geI {wa wb : WE} {i j : Int} (ha : EV wa x η n (.int i)) (hb : EV wb x η n (.int j)) : EV (eBin oGe wa wb) x η n (.bl (decide (j ≤ i))) := ev_bin ha hb fun k h => h
theorem ev_eqI {wa wb : WE} {i j : Int} (ha : EV wa x η n (.int i)) (hb : EV wb x η n (.int j)) : EV (eBin oEq wa wb) x η n (.bl (decide (i = j))) := ev_bin ha hb fun k h => by rw [r_eqI]; exact h
theorem LayN.str {k : Nat} (s : Str) (h : (py (.str s)).canLay0 = true) : LayN k (.str s) := ⟨h, Nat.zero_le _⟩
theorem ev_ne {wa wb : WE} {d e : D} (ha : EV wa x η n d) (hb : EV wb x η n e) (he : d = e) (hl : Lay e) (hp : plainD e = true) : EV (eBin oNe wa wb) x η n (.bl false) := ev_bin ha hb fun k h => by
  subst he
  exact ne_self hl hp k h
end
theorem h_L_order_right : ∀ x ds n R, ds.length = 4 → C_L_order_right x ds n R → w_L_order_right x {nx := fun _ n => R .non n, rt := R} (st0 ds N_L_order_right) n := by
  intro x ds n R _ h
  obtain ⟨a, b, c, d, rfl, ⟨a0, a1, b0, b1⟩, ⟨c0, c1, d0, d1⟩, h⟩ := h
  have sp := low_SB a0 (show a < 2 ^ 120 by omega) b0 (show b < 2 ^ 120 by omega)
  have sq := low_SB c0 (show c < 2 ^ 120 by omega) d0 (show d < 2 ^ 120 by omega)
  have k1 := mul_lt120 a0 (show a < 2 ^ 120 by omega) (show 0 ≤ d by omega) (show d < 2 ^ 120 by omega)
  have k2 := mul_lt120 c0 (show c < 2 ^ 120 by omega) (show 0 ≤ b by omega) (show b < 2 ^ 120 by omega)
  have k3 := mul_lt120 (show 0 ≤ b by omega) (show b < 2 ^ 120 by omega) (show 0 ≤ d by omega) (show d < 2 ^ 120 by omega)
  have k4 := mul_lt120 a0 (show a < 2 ^ 120 by omega) c0 (show c < 2 ^ 120 by omega)
  have k5 := mul_ge1 b0 d0
  have st : st0 [.int a, .int b, .int c, .int d] N_L_order_right = [.dt (.int a), .dt (.int b), .dt (.int c), .dt (.int d), .un, .un, .un, .un, .un, .un] := rfl
  rw [st]
  unfold w_L_order_right
  -- the two slacks
  refine st_asg2 (ev_tup (av_cons (ev_mk (a := a) (b := b) (av_cons (ev_v rfl) (av_cons (ev_v rfl) av_nil)) rfl a0 b0 (by omega)) (av_cons (ev_mk (a := c) (b := d) (av_cons (ev_v rfl) (av_cons (ev_v rfl) av_nil)) rfl c0 d0 (by omega)) av_nil))) ?_
  refine st_par (av_cons (ev_mulI (ev_b rfl) (ev_b rfl) a0 (by omega) (by omega) (by omega)) (av_cons (ev_mulI (ev_b rfl) (ev_b rfl) c0 (by omega) (by omega) (by omega)) av_nil)) ?_
  refine st_asg (ev_lst (av_cons (ev_cmp (ev_b rfl) (ev_b rfl) sp sq) (av_cons (ev_cmp (ev_b rfl) (ev_b rfl) sp sq) (av_cons (ev_cmp (ev_b rfl) (ev_b rfl) sp sq) (av_cons (ev_cmp (ev_b rfl) (ev_b rfl) sp sq) (av_cons (ev_eqv (ev_b rfl) (ev_b rfl)) av_nil)))))) ?_
  refine st_asg (ev_lst (av_cons (ev_ltI (ev_b rfl) (ev_b rfl)) (av_cons (ev_leI (ev_b rfl) (ev_b rfl)) (av_cons (ev_gtI (ev_b rfl) (ev_b rfl)) (av_cons (ev_geI (ev_b rfl) (ev_b rfl)) av_nil))))) ?_
  have e1 : decide ((low (a, b)).1 * (low (c, d)).2 < (low (c, d)).1 * (low (a, b)).2) = decide (a * d < c * b) := decide_eq_decide.mpr (low_lt_iff b0 d0)
  have e3 : decide ((low (c, d)).1 * (low (a, b)).2 < (low (a, b)).1 * (low (c, d)).2) = decide (c * b < a * d) := decide_eq_decide.mpr (low_gt_iff b0 d0)
  have e2 : decide ((low (a, b)).1 * (low (c, d)).2 ≤ (low (c, d)).1 * (low (a, b)).2) = decide (a * d ≤ c * b) := decide_eq_decide.mpr (by have := low_gt_iff (a := a) (c := c) b0 d0; omega)
  have e4 : decide ((low (c, d)).1 * (low (a, b)).2 ≤ (low (a, b)).1 * (low (c, d)).2) = decide (c * b ≤ a * d) := decide_eq_decide.mpr (by have := low_lt_iff (a := a) (c := c) b0 d0; omega)
  have e5 : decide (low (a, b) = low (c, d)) = decide (a * d = c * b) := decide_eq_decide.mpr (low_eq_iff b0 d0)
  refine st_if (tv_test (ev_ne (ev_b rfl) (ev_addL (ev_b rfl) (ev_lst (av_cons (ev_eqI (ev_b rfl) (ev_b rfl)) av_nil)) (by simp)) ?_ ?_ ?_)) ?_
  · dsimp only [List.cons_append, List.nil_append]
    rw [e1, e2, e3, e4, e5]
  · refine LayN.lay (k := 1) (LayN.lst fun d hd => ?_)
    simp only [List.mem_append, List.mem_cons, List.not_mem_nil, or_false] at hd
    rcases hd with (rfl | rfl | rfl | rfl) | rfl <;> exact LayN.bl _
  · rfl
  refine st_if (tv_or (tv_test (ev_eq (ev_nev (ev_add (ev_v rfl) (ev_v rfl) sp sq) (ev_mk (a := a * d + c * b) (b := b * d) (av_cons (ev_addI (ev_b rfl) (ev_b rfl)) (av_cons (ev_mulI (ev_b rfl) (ev_b rfl) (by omega) (by omega) (by omega) (by omega)) av_nil)) rfl (by omega) k5 (by omega))) ?_)) (tv_test (ev_eqo (ev_b rfl) (ev_b rfl) trivial))) ?_
  · rw [low_add b0 d0 sp.b0 sq.b0]
    simp
  refine st_if (tv_or (tv_test (ev_eqo (ev_b rfl) (ev_str (ev_v rfl) sp) trivial)) (tv_test (ev_ne (ev_saidX (fun x => rv_mul (ev_v rfl) (ev_neg ev_c) sp (by decide) (by decide)) tag_number) (ev_lst (av_cons ev_c (av_cons (ev_neg ev_c) av_nil))) rfl ?_ rfl))) ?_
  · refine LayN.lay (k := 1) (LayN.lst fun d hd => ?_)
    simp only [List.mem_cons, List.not_mem_nil, or_false] at hd
    rcases hd with rfl | rfl
    · exact LayN.str _ (by decide +kernel)
    · exact LayN.int _
  refine st_if (tv_or (tv_test (ev_ne (ev_saidX (fun x => rv_rmul (ev_neg ev_c) (ev_v rfl) sp (by decide) (by decide)) tag_number) (ev_lst (av_cons ev_c (av_cons (ev_neg ev_c) av_nil))) rfl ?_ rfl)) (tv_test (ev_eq (ev_nev (ev_mul (ev_v rfl) ev_c sp (by decide) (by decide)) (ev_mk (a := 0) (b := 1) (av_cons ev_c av_nil) rfl (by decide) (by decide) (by decide))) ?_))) ?_
  · refine LayN.lay (k := 1) (LayN.lst fun d hd => ?_)
    simp only [List.mem_cons, List.not_mem_nil, or_false] at hd
    rcases hd with rfl | rfl
    · exact LayN.str _ (by decide +kernel)
    · exact LayN.int _
  · rw [Int.mul_zero, low_zero sp.b0]
    simp
  refine st_ret (ev_eq (ev_and (ev_eq (ev_eqv (ev_mul (ev_v rfl) (ev_v rfl) sp c0 (by omega)) (ev_mk (a := a * c) (b := b) (av_cons (ev_mulI (ev_b rfl) (ev_b rfl) a0 (by omega) c0 (by omega)) (av_cons (ev_v rfl) av_nil)) rfl (by omega) b0 (by omega))) ?_) (ev_eqv (ev_rmul (ev_v rfl) (ev_v rfl) sp c0 (by omega)) (ev_mul (ev_v rfl) (ev_v rfl) sp c0 (by omega)))) ?_) h
  · rw [low_mul b0]
    simp
  · simp
end DL
set_option maxHeartbeats 4000000
namespace DL
open PySem PySem.Spec PyProof.Rows L2 TL
/-! texts can be laid out -/
def okT (s : Str) : Prop := ∀ c ∈ tl s, c < 1114112
theorem lay_str {k : Nat} {s : Str} (h : okT s) : LayN k (.str s) := by
  refine LayN.str _ ?_
  show s.cps.all (fun c => decide (c < 0x110000)) = true
  rw [← Array.all_toList, List.all_eq_true]
  intro c hc
  exact decide_eq_true (h c hc)
theorem okT_app {s t : Str} (h1 : okT s) (h2 : okT t) : okT (s ++ t) := fun c hc => by
  rw [tl_append] at hc
  exact (List.mem_append.mp hc).elim (h1 c) (h2 c)
theorem okT_tS {i : Int} (h : 0 ≤ i) : okT (tS i) := fun c hc => by
  rw [tl_tS h] at hc
  have := numL_digits _ c hc
  omega
theorem okT_lit {s : Str} (h : (tl s).all (fun c => decide (c < 1114112)) = true) : okT s := fun c hc => by
  have := List.all_eq_true.mp h c hc
  simpa using this
theorem texts_ok {a b : Int} (h : AB a b) {d : D} (hd : d ∈ textsD a b) : Ty d ∧ shortD d ∧ LayN 2 d := by
  obtain ⟨a0, a1, b0, b1⟩ := h
  have la := tS_len a0 (show a < 10 ^ 40 by omega)
  have lb := tS_len (show 0 ≤ b by omega) (show b < 10 ^ 40 by omega)
  have oa := okT_tS a0
  have ob := okT_tS (show 0 ≤ b by omega)
  have op : okT (plainS a b) := okT_app (okT_app oa (okT_lit (by decide +kernel))) ob
  have lp : (plainS a b).length ≤ 81 := by
    unfold plainS
    have z1 : (Str.ofString "/").length = 1 := rfl
    rw [len_app, len_app]
    omega
  have str : ∀ s : Str, okT s → s.length ≤ 1000 → Ty (.str s) ∧ shortD (.str s) ∧ LayN 2 (.str s) := fun s h1 h2 => ⟨by simp [Ty, tyN], by show s.length ≤ 100000; omega, lay_str h1⟩
  have z2 : (Str.ofString "/1").length = 2 := rfl
  have z3 : (Str.ofString "0").length = 1 := rfl
  have z4 : (Str.ofString " ").length = 1 := rfl
  have z5 : (Str.ofString "-").length = 1 := rfl
  have z6 : (Str.ofString "/0").length = 2 := rfl
  have z7 : (Str.ofString ".5").length = 2 := rfl
  have z8 : (Str.ofString "/").length = 1 := rfl
  unfold textsD at hd
  simp only [List.mem_append, List.mem_cons, List.not_mem_nil, or_false] at hd
  rcases hd with (((rfl | rfl | rfl | rfl | rfl | rfl | rfl | rfl | rfl) | (rfl | rfl | rfl | rfl | rfl | rfl)) | (rfl | rfl | rfl | rfl))
  · exact str _ (okT_lit (by decide +kernel)) (by decide +kernel)
  · exact str _ (okT_lit (by decide +kernel)) (by decide +kernel)
  · exact str _ (okT_app op (okT_lit (by decide +kernel))) (by rw [len_app]; omega)
  · exact str _ (okT_app (okT_lit (by decide +kernel)) op) (by rw [len_app]; omega)
  · exact str _ (okT_app op (okT_lit (by decide +kernel))) (by rw [len_app]; omega)
  · exact str _ (okT_app (okT_lit (by decide +kernel)) op) (by rw [len_app]; omega)
  · exact str _ (okT_app oa (okT_lit (by decide +kernel))) (by rw [len_app]; omega)
  · exact str _ (okT_app oa (okT_lit (by decide +kernel))) (by rw [len_app]; omega)
  · exact str _ (okT_lit (by decide +kernel)) (by decide +kernel)
  · exact str _ (okT_lit (by decide +kernel)) (by decide +kernel)
  · exact str _ (okT_app oa (okT_lit (by decide +kernel))) (by rw [len_app]; omega)
  · exact str _ (okT_app (okT_lit (by decide +kernel)) ob) (by rw [len_app]; omega)
  · exact str _ (okT_lit (by decide +kernel)) (by decide +kernel)
  · exact str _ (okT_lit (by decide +kernel)) (by decide +kernel)
  · exact ⟨by simp [Ty, tyN], trivial, LayN.non⟩
  · exact ⟨by simp [Ty, tyN], trivial, LayN.int _⟩
  · exact ⟨by simp [Ty, tyN], trivial, LayN.tup fun d hd => by
      rw [List.mem_singleton.mp hd]
      exact lay_str (okT_lit (by decide +kernel))⟩
  · exact str _ (okT_lit (by decide +kernel)) (by decide +kernel)
  · exact str _ (okT_lit (by decide +kernel)) (by decide +kernel)
section
variable {x : Xn} {η : List Sl} {n : Nat}
theorem st_for2 {w : WE} {i : Nat} {b nxt : WS} {k : Wk} {d e : D} (hw : EV w x η n (.tup [d, e])) (h1 : ∀ k' : Wk, k'.nx (η.set i (.dt d)) n → b x k' (η.set i (.dt d)) n)
    (h2 : ∀ k' : Wk, k'.nx ((η.set i (.dt d)).set i (.dt e)) n → b x k' ((η.set i (.dt d)).set i (.dt e)) n) (h : nxt x k ((η.set i (.dt d)).set i (.dt e)) n) : sSeq (sFor (iSq w) (gNm i) b) nxt x k η n := hw _ (h1 _ (h2 _ h))
theorem ev_call {m : Nat} {C : Ct} {w : WA} {ds : List D} {d : D} (hw : AV w x η n ds) (hl : ds.length = m) (hC : ∀ R : D → Nat → Prop, R d n → C x ds n R) : EV (eCall m C [] w) x η n d := fun R h => hw _ ⟨by rw [List.append_nil]; exact hl, by rw [List.append_nil]; exact hC R h⟩
theorem callW (m : Nat) (C : Ct) (dds : List D) (w : WA) (x : Xn) (η : List Sl) (n : Nat) (R : D → Nat → Prop) : eCall m C dds w x η n R = w x η n fun ds n1 => (ds ++ dds).length = m ∧ C x (ds ++ dds) n1 R := rfl
theorem ev_divI {wa wb : WE} {i j : Int} (ha : EV wa x η n (.int i)) (hb : EV wb x η n (.int j)) (h0 : 0 < j) (h1 : j < 2 ^ 250) : EV (eBin oDiv wa wb) x η n (.int (i / j)) := ev_bin ha hb fun k h => ⟨⟨h0, h1⟩, h⟩
theorem ev_strI {w : WE} {i : Int} (h : EV w x η n (.int i)) (h0 : 0 ≤ i) (h1 : i < 2 ^ 250) : EV (eCB bStrI (aCons w aNil)) x η n (.str (tS i)) := fun R hR => h _ (show bStrI [.int i] (fun d => R d n) from by rw [r_strI h0 h1]; exact hR)
theorem ev_addS {wa wb : WE} {s t : Str} (ha : EV wa x η n (.str s)) (hb : EV wb x η n (.str t)) (h : s.length + t.length ≤ 1000) : EV (eBin oAdd wa wb) x η n (.str (s ++ t)) := ev_bin ha hb fun k hk => by rw [r_addS h]; exact hk
theorem ev_rep {wa wb : WE} {s : Str} {m : Nat} (ha : EV wa x η n (.str s)) (hb : EV wb x η n (.int (m : Int))) (h2 : 2 ≤ m) (h1 : 1 ≤ s.length) (h3 : s.length * m ≤ 100000) : EV (eBin oMulS wa wb) x η n (.str (strRep s m)) := ev_bin ha hb fun k hk => ⟨m, rfl, h2, h1, h3, hk⟩
theorem ev_intS {w : WE} {s : Str} {i : Int} (h : EV w x η n (.str s)) (hl : s.length ≤ 640) (hi : PySem.intText? s = some i) : EV (eCB bIntS (aCons w aNil)) x η n (.int i) := fun R hR => h _ ⟨hl, i, hi, hR⟩
theorem ev_eqS {wa wb : WE} {s t : Str} (ha : EV wa x η n (.str s)) (hb : EV wb x η n (.str t)) (h : s = t) : EV (eBin oEqS wa wb) x η n (.bl true) := ev_bin ha hb fun k hk => by rw [r_eqS, decide_eq_true h]; exact hk
theorem lay2 {d : D} (h : LayN 2 d) : Lay (.lst [.str "slack", d]) := (LayN.lst (k := 2) fun e he => by
  simp only [List.mem_cons, List.not_mem_nil, or_false] at he
  rcases he with rfl | rfl
  · exact lay_str (okT_lit (by decide +kernel))
  · exact h).lay
theorem ev_neL {wa wb : WE} {d e : D} (ha : EV wa x η n d) (hb : EV wb x η n e) (he : d = e) (hl : Lay e) : EV (eBin oNe wa wb) x η n (.bl false) := ev_ne ha hb he hl hl.plainD
end
theorem h_L_read_right : ∀ x ds n R, ds.length = 3 → C_L_read_right x ds n R → w_L_read_right x {nx := fun _ n => R .non n, rt := R} (st0 ds N_L_read_right) n := by
  intro x ds n R _ h
  obtain ⟨a, b, rfl, hab, hn, h⟩ := h
  have hab' := hab
  obtain ⟨a0, a1, b0, b1⟩ := hab
  have sp := low_SB a0 (show a < 2 ^ 120 by omega) b0 (show b < 2 ^ 120 by omega)
  have g0 := gcd_pos (a := a) b0
  have g1 := gcd_le (a := a) b0
  have la := tS_len a0 (show a < 10 ^ 40 by omega)
  have lb := tS_len (show 0 ≤ b by omega) (show b < 10 ^ 40 by omega)
  have z1 : (Str.ofString "/").length = 1 := rfl
  have lbd := low_bd a0 b0
  have lS : (slkS (low (a, b))).length ≤ 100 := by
    unfold slkS
    have l1 := tS_len lbd.1 (show (low (a, b)).1 < 10 ^ 40 by omega)
    have l2 := tS_len (show 0 ≤ (low (a, b)).2 by omega) (show (low (a, b)).2 < 10 ^ 40 by omega)
    unfold tS at l1 l2
    split
    · omega
    · rw [empty_app, len_app, len_app]
      omega
  have lp : (tS a ++ Str.ofString "/").length = (tS a).length + 1 := by rw [len_app]; rfl
  have lpl : (plainS a b).length ≤ 100 := by
    unfold plainS
    rw [len_app, len_app]
    omega
  have layD : Lay (.lst [.int (low (a, b)).1, .int (low (a, b)).2]) := lay_ints [(low (a, b)).1, (low (a, b)).2]
  have st : st0 [.drw, .int a, .int b] N_L_read_right = [.dt .drw, .dt (.int a), .dt (.int b), .un, .un, .un, .un, .un, .un] := rfl
  rw [st]
  unfold w_L_read_right
  refine st_asg (ev_call (d := .int (Int.gcd a b)) (av_cons (ev_v rfl) (av_cons (ev_v rfl) av_nil)) rfl (fun R hR => ⟨a, b, rfl, a0, by omega, hR⟩)) ?_
  refine st_asg (ev_lst (av_cons (ev_divI (ev_b rfl) (ev_b rfl) g0 (by omega)) (av_cons (ev_divI (ev_b rfl) (ev_b rfl) g0 (by omega)) av_nil))) ?_
  refine st_for2 (ev_tup (av_cons (ev_addS (ev_addS (ev_strI (ev_b rfl) a0 (by omega)) ev_c (by omega)) (ev_strI (ev_b rfl) (by omega) (by omega)) (by omega)) (av_cons (ev_str (ev_mk (a := a) (b := b) (av_cons (ev_v rfl) (av_cons (ev_v rfl) av_nil)) rfl a0 b0 (by omega)) sp) av_nil))) ?_ ?_ ?_
  · intro k' hk
    refine st_ifL (tv_test (ev_neL (ev_said (p := low (a, b)) fun x => ev_readK (q := (a, b)) (av_cons (ev_v rfl) av_nil) ?_ ?_ a0 b0 (by show b < _; omega)) (ev_b rfl) rfl layD)) hk
    · exact Nat.le_trans lpl (by decide)
    · exact read_plain hab'
  · intro k' hk
    refine st_ifL (tv_test (ev_neL (ev_said (p := low (a, b)) fun x => ev_eq (ev_readK (q := low (a, b)) (av_cons (ev_v rfl) av_nil) ?_ ?_ lbd.1 lbd.2.2.1 ?_) ?_) (ev_b rfl) rfl layD)) hk
    · exact Nat.le_trans lS (by decide)
    · exact read_slk hab'
    · have := lbd.2.2.2; omega
    · rw [low_low b0]
  -- a text that is none
  refine seq_cut (fun η' n' => ∃ d, d ∈ textsD a b ∧ n' = n - 1 ∧ η' = [.dt .drw, .dt (.int a), .dt (.int b), .dt (.int (Int.gcd a b)), .dt (.lst [.int (low (a, b)).1, .int (low (a, b)).2]), .dt (.str (slkS (low (a, b)))), .dt d, .un, .un]) (fun nxt hnxt => ?_) ?_
  · rw [asgW, callW]
    refine (av_cons (ev_v rfl) (av_cons (ev_call (C := C_L_texts) (d := .lst (textsD a b)) (av_cons (ev_v rfl) (av_cons (ev_v rfl) (av_cons (ev_v rfl) av_nil))) rfl (fun R hR => ⟨a, b, rfl, hab', hR⟩)) av_nil)) _ ?_
    exact ⟨rfl, textsD a b, rfl, by simp [textsD], by simp [textsD], hn, fun d hd => hnxt _ _ ⟨d, hd, rfl, rfl⟩⟩
  rintro η' n' ⟨d, hd, rfl, rfl⟩
  obtain ⟨td, sd, ld⟩ := texts_ok hab' hd
  refine st_if (tv_test (ev_neL (ev_saidX (fun x => rv_read (d := d) (av_cons (ev_v rfl) av_nil) td sd (read_texts hab' hd)) tag_slack) (ev_lst (av_cons ev_c (av_cons (ev_v rfl) av_nil))) rfl (lay2 ld))) ?_
  refine st_asg2 (ev_tup (av_cons (ev_rep (m := 40) ev_c ev_c (by decide) (by decide) (by decide)) (av_cons (ev_rep (m := 40) ev_c ev_c (by decide) (by decide) (by decide)) av_nil))) ?_
  have r1 : (strRep "1" 40).length = 40 := by rw [strRep_len]; rfl
  have r7 : (strRep "7" 40).length = 40 := by rw [strRep_len]; rfl
  have z7 : (Str.ofString "7").length = 1 := rfl
  have l1 := len_app (strRep "1" 40) (Str.ofString "/")
  have l2 := len_app (strRep "1" 40 ++ Str.ofString "/") (strRep "7" 40)
  have l3 := len_app (strRep "1" 40 ++ Str.ofString "/" ++ strRep "7" 40) (Str.ofString "7")
  have q1 := read_long
  have q2 := read_sev
  have q3 := int_sev
  have q4 := read_over
  have o4 : okT (strRep "1" 40 ++ Str.ofString "/" ++ strRep "7" 40 ++ Str.ofString "7") := okT_lit (by decide +kernel)
  have lw : low (1111111111111111111111111111111111111111, 7777777777777777777777777777777777777777) = low (1, 7) := low_eq (by decide) (by decide) (by decide)
  generalize strRep "1" 40 = s1 at *
  generalize strRep "7" 40 = s7 at *
  refine st_if (tv_or (tv_test (ev_eq (ev_nev (ev_read (q := (1111111111111111111111111111111111111111, 7777777777777777777777777777777777777777)) (av_cons (ev_addS (ev_addS (ev_b rfl) ev_c (by omega)) (ev_b rfl) (by omega)) av_nil) (by omega) q1 (by decide) (by decide) (by decide)) (ev_mk (a := 1) (b := 7) (av_cons ev_c (av_cons ev_c av_nil)) rfl (by decide) (by decide) (by decide))) ?_))
    (tv_test (ev_eq (ev_nev (ev_read (q := (7777777777777777777777777777777777777777, 1)) (av_cons (ev_v rfl) av_nil) (by omega) q2 (by decide) (by decide) (by decide)) (ev_mk (a := 7777777777777777777777777777777777777777) (b := 1) (av_cons (ev_intS (ev_b rfl) (by omega) q3) av_nil) rfl (by decide) (by decide) (by decide))) ?_))) ?_
  · rw [lw]
    simp
  · simp
  refine st_if (tv_test (ev_neL (ev_saidX (fun x => rv_read (d := .str (s1 ++ Str.ofString "/" ++ s7 ++ Str.ofString "7")) (av_cons (ev_addS (ev_addS (ev_addS (ev_b rfl) ev_c (by omega)) (ev_b rfl) (by omega)) ev_c (by omega)) av_nil) (by simp [Ty, tyN]) (by show _ ≤ 100000; omega) q4) tag_slack)
    (ev_lst (av_cons ev_c (av_cons (ev_addS (ev_addS (ev_addS (ev_b rfl) ev_c (by omega)) (ev_b rfl) (by omega)) ev_c (by omega)) av_nil))) rfl (lay2 (lay_str o4)))) ?_
  refine st_ret (ev_eq (ev_and (ev_eqS (ev_str (ev_mk (a := a) (b := 1) (av_cons (ev_v rfl) av_nil) rfl a0 (by decide) (by decide)) ?_) (ev_strI (ev_b rfl) a0 (by omega)) ?_) (ev_eqv (ev_read (q := (0, 7)) (av_cons ev_c av_nil) (by decide) read_07 (by decide) (by decide) (by decide)) (ev_mk (a := 0) (b := 1) (av_cons ev_c av_nil) rfl (by decide) (by decide) (by decide)))) ?_) h
  · rw [low_one]
    exact ⟨a0, by show a < _; omega, by show (1 : Int) ≤ 1; decide, by show (1 : Int) < _; decide⟩
  · rw [low_one]
    rfl
  · rw [low_zero (by decide)]
    simp
end DL
set_option maxHeartbeats 4000000
namespace DL
open PySem PySem.Spec PyProof.Rows L2 TL
section
variable {x : Xn} {η : List Sl} {n : Nat}
theorem numW {i : Nat} {R : D → Nat → Prop} (hi : η[i]? = some (.dt .drw)) (hn : 2 ≤ n) (h : ∀ r : Int, 0 ≤ r → r < 10 ^ 30 → R (.int r) (n - 1 - 1)) : eCall 1 C_L_number [] (aCons (eVar i) aNil) x η n R := by
  rw [callW]
  exact (av_cons (ev_v hi) av_nil) _ ⟨rfl, rfl, hn, h⟩
theorem tupW (w : WA) (x : Xn) (η : List Sl) (n : Nat) (R : D → Nat → Prop) : eTup w x η n R = w x η n fun ds n1 => ds.length ≤ sizeLine ∧ R (.tup ds) n1 := rfl
theorem ev_mkK {w : WA} {a b : Int} (hw : AV w x η n [.int b, .int a]) (h0 : 0 ≤ a) (h1 : 1 ≤ b) (h2 : b < 2 ^ 250) : EV (eMakeK yR "Slack" 2 2 C_Slack_mk [1, 0] w) x η n (slk (low (a, b))) := fun R h => hw _ ⟨rfl, rfl, rfl, c_mk _ _ _ _ _ h0 h1 h2 h⟩
theorem st_call {m n' : Nat} {C : Ct} {w : WA} {ds : List D} {A b : WS} {k : Wk} (hw : AV w x η n ds) (hl : ds.length = m) (hC : ∀ R : D → Nat → Prop, R (.bl true) n' → C x ds n R) (h : b x k η n') : sSeq (sIf (wNot (wTru (eCall m C [] w))) A sNext) b x k η n := by
  rw [seqW, r_sIf]
  unfold wNot
  rw [r_tru, callW]
  refine hw _ ⟨by rw [List.append_nil]; exact hl, ?_⟩
  rw [List.append_nil]
  refine hC _ ?_
  simpa [r_trB, sNext] using h
end
theorem ow_at {η : List Sl} {i : Nat} {xs : List D} {k : List D → Prop} (h : η[i]? = some (.ow xs)) (hk : k xs) : owS η[i]? k := by
  rw [h]
  exact hk
/-- the odd ones -/
def oddsD (b : Int) : List D := [.int (-1), .non, .bl true, .str "1", .tup [.int 1], .int (1 - b - 1)]
theorem odds_ok {b : Int} (b0 : 1 ≤ b) (b1 : b ≤ 10 ^ 30) {d : D} (hd : d ∈ oddsD b) : Ty d ∧ (∀ i : Int, d = .int i → i < 0) ∧ LayN 1 d ∧ Shw 1 2000 d := by
  unfold oddsD at hd
  simp only [List.mem_cons, List.not_mem_nil, or_false] at hd
  rcases hd with rfl | rfl | rfl | rfl | rfl | rfl
  · exact ⟨by simp [Ty, tyN], fun i e => (by cases e; decide), LayN.int _, (Shw.int (k := 0) (by decide)).mono (by decide) (by decide)⟩
  · exact ⟨by simp [Ty, tyN], fun i e => (by cases e), LayN.non, (Shw.non (k := 0)).mono (by decide) (by decide)⟩
  · exact ⟨by simp [Ty, tyN], fun i e => (by cases e), LayN.bl _, (Shw.bl (k := 0) _).mono (by decide) (by decide)⟩
  · exact ⟨by simp [Ty, tyN], fun i e => (by cases e), lay_str (okT_lit (by decide +kernel)), Shw.str (by decide +kernel)⟩
  · exact ⟨by simp [Ty, tyN], fun i e => (by cases e), LayN.tup (k := 0) (fun e he => (by
      rw [List.mem_singleton.mp he]
      exact LayN.int _)), (Shw.tup (k := 0) (b := 1921) (fun e he => (by
      rw [List.mem_singleton.mp he]
      exact Shw.int (by decide))) 1 (by decide)).mono (by decide) (by decide)⟩
  · refine ⟨by simp [Ty, tyN], fun i e => ?_, LayN.int _, (Shw.int (k := 0) ?_).mono (by decide) (by decide)⟩
    · injection e with e
      omega
    · omega
theorem h_law : w_law (fun _ _ => False) { nx := fun _ _ => False, rt := fun d _ => d = .bl true } (.un :: .dt .drw :: List.replicate (N_law.length - 2) Sl.un) (2 ^ 39) := by
  have st : (Sl.un :: Sl.dt .drw :: List.replicate (N_law.length - 2) Sl.un) = [.un, .dt .drw, .un, .un, .un, .un, .un, .un, .un, .un, .un] := rfl
  rw [st]
  unfold w_law
  rw [seqW]
  unfold sFor
  rw [r_R1, consW, cW, nilW, r1D_i]
  refine ⟨⟨by decide, by decide⟩, ?_⟩
  refine for_cnt (fun m η n => (∃ s2 s3 s4 s5 s6 s7 s8 s9 s10, η = [.un, .dt .drw, s2, s3, s4, s5, s6, s7, s8, s9, s10]) ∧ 20 * m ≤ n) (fun _ _ _ => ?_) ?_ _ _ _ ⟨⟨_, _, _, _, _, _, _, _, _, rfl⟩, by rw [rangeD_len]; decide⟩
  · exact (rfl : D.bl true = D.bl true)
  rintro d m η n nxt ⟨⟨s2, s3, s4, s5, s6, s7, s8, s9, s10, rfl⟩, hn⟩ hx
  show sSeq _ _ _ _ [.un, .dt .drw, .dt d, s3, s4, s5, s6, s7, s8, s9, s10] _
  -- the four numbers
  refine seq_cut (fun η' n' => ∃ a b : Int, AB a b ∧ n ≤ n' + 4 ∧ η' = [.un, .dt .drw, .dt d, .dt (.int a), .dt (.int b), s5, s6, s7, s8, s9, s10]) (fun nx1 hnx1 => ?_) ?_
  · rw [r_asg2, tupW, consW]
    refine numW rfl (by omega) fun a a0 a1 => ?_
    rw [consW, binW, cW]
    refine numW rfl (by omega) fun b b0 b1 => ?_
    rw [r_add, nilW]
    refine ⟨by show 2 ≤ sizeLine; decide, ?_⟩
    rw [r_g2]
    exact hnx1 _ _ ⟨a, 1 + b, ⟨a0, a1, by omega, by omega⟩, by omega, rfl⟩
  rintro η' n1 ⟨a, b, hab, hn1, rfl⟩
  refine seq_cut (fun η' n' => ∃ c e : Int, AB c e ∧ n ≤ n' + 8 ∧ η' = [.un, .dt .drw, .dt d, .dt (.int a), .dt (.int b), .dt (.int c), .dt (.int e), s7, s8, s9, s10]) (fun nx1 hnx1 => ?_) ?_
  · rw [r_par, consW]
    refine numW rfl (by omega) fun c a0 a1 => ?_
    rw [consW, binW, cW]
    refine numW rfl (by omega) fun e b0 b1 => ?_
    rw [r_add, nilW, tw_2]
    exact hnx1 _ _ ⟨c, 1 + e, ⟨a0, a1, by omega, by omega⟩, by omega, rfl⟩
  rintro η' n2 ⟨c, e, hce, hn2, rfl⟩
  have hab' := hab
  obtain ⟨a0, a1, b0, b1⟩ := hab
  have g0 := gcd_pos (a := a) b0
  have g1 := gcd_le (a := a) b0
  have layD : Lay (.lst [.int (low (a, b)).1, .int (low (a, b)).2]) := lay_ints [(low (a, b)).1, (low (a, b)).2]
  refine st_asg (ev_call (d := .int (Int.gcd a b)) (av_cons (ev_v rfl) (av_cons (ev_v rfl) av_nil)) rfl (fun R hR => ⟨a, b, rfl, a0, by omega, hR⟩)) ?_
  refine st_asg (ev_lst (av_cons (ev_divI (ev_b rfl) (ev_b rfl) g0 (by omega)) (av_cons (ev_divI (ev_b rfl) (ev_b rfl) g0 (by omega)) av_nil))) ?_
  refine st_if (tv_test (ev_neL (ev_said (p := low (a, b)) fun x => ev_mkK (av_cons (ev_v rfl) (av_cons (ev_v rfl) av_nil)) a0 b0 (by omega)) (ev_b rfl) rfl layD)) ?_
  refine st_call (n' := n2 - 1) (av_cons (ev_v rfl) (av_cons (ev_v rfl) (av_cons (ev_v rfl) av_nil))) rfl (fun R hR => ⟨a, b, rfl, hab', by omega, hR⟩) ?_
  refine st_call (n' := n2 - 1) (av_cons (ev_v rfl) (av_cons (ev_v rfl) (av_cons (ev_v rfl) (av_cons (ev_v rfl) av_nil)))) rfl (fun R hR => ⟨a, b, c, e, rfl, hab', hce, hR⟩) ?_
  -- the odd one
  refine seq_cut (fun η' n' => ∃ o, o ∈ oddsD b ∧ n ≤ n' + 10 ∧ η' = [.un, .dt .drw, .dt d, .dt (.int a), .dt (.int b), .dt (.int c), .dt (.int e), .dt (.int (Int.gcd a b)), .dt (.lst [.int (low (a, b)).1, .int (low (a, b)).2]), .dt o, s10]) (fun nx1 hnx1 => ?_) ?_
  · rw [asgW, callW]
    refine (av_cons (ev_v rfl) (av_cons (ev_lst (ds := oddsD b) (av_cons (ev_neg ev_c) (av_cons ev_c (av_cons ev_c (av_cons ev_c (av_cons (ev_tup (av_cons ev_c av_nil)) (av_cons (ev_bin (ev_bin ev_c (ev_b rfl) fun k h => h) ev_c fun k h => h) av_nil)))))) (by simp [oddsD])) av_nil)) _ ?_
    exact ⟨rfl, oddsD b, rfl, by simp [oddsD], by simp [oddsD], by omega, fun o ho => hnx1 _ _ ⟨o, ho, by omega, rfl⟩⟩
  rintro η' n3 ⟨o, ho, hn3, rfl⟩
  obtain ⟨to, no, lo, so⟩ := odds_ok b0 b1 ho
  have v1 : ∀ (x : Xn) (s10 : Sl), EV (eSaidT "Slack" "own_num" "own_den" tagL (eMakeY yR "Slack" 2 C_Slack_mk [] (aCons (eVar 9) (aCons (eVar 4) aNil)))) x [.un, .dt .drw, .dt d, .dt (.int a), .dt (.int b), .dt (.int c), .dt (.int e), .dt (.int (Int.gcd a b)), .dt (.lst [.int (low (a, b)).1, .int (low (a, b)).2]), .dt o, s10] n3 (.lst [.str "slack", .tup [o, .int b]]) := fun x s10 =>
    ev_saidX (fun x => rv_mk (av_cons (ev_v rfl) (av_cons (ev_v rfl) av_nil)) rfl to (by simp [Ty, tyN]) (fun i j h1 h2 => .inl (no i h1))) tag_slack
  have v2 : ∀ (x : Xn) (s10 : Sl), EV (eSaidT "Slack" "own_num" "own_den" tagL (eMakeY yR "Slack" 2 C_Slack_mk [] (aCons (eVar 3) (aCons (eVar 9) aNil)))) x [.un, .dt .drw, .dt d, .dt (.int a), .dt (.int b), .dt (.int c), .dt (.int e), .dt (.int (Int.gcd a b)), .dt (.lst [.int (low (a, b)).1, .int (low (a, b)).2]), .dt o, s10] n3 (.lst [.str "slack", .tup [.int a, o]]) := fun x s10 =>
    ev_saidX (fun x => rv_mk (av_cons (ev_v rfl) (av_cons (ev_v rfl) av_nil)) rfl (by simp [Ty, tyN]) to (fun i j h1 h2 => .inr (by have := no j h2; omega))) tag_slack
  rw [seqW]
  show nLst _ _ _ _ _
  refine (av_cons (v1 _ _) av_nil) _ ⟨by show 1 ≤ sizeLine; decide, ?_⟩
  dsimp only [List.set]
  rw [seqW, r_mt]
  refine ⟨⟨_, rfl⟩, (av_cons (v2 _ _) av_nil) _ (ow_at rfl ?_)⟩
  rw [r_app]
  refine ⟨by show 1 < sizeLine; decide, ?_⟩
  dsimp only [List.set, List.cons_append, List.nil_append]
  have S1 : Shw 1 2000 (.int b) := (Shw.int (k := 0) (by omega)).mono (by decide) (by decide)
  have S2 : Shw 1 2000 (.int a) := (Shw.int (k := 0) (by omega)).mono (by decide) (by decide)
  have SL : ∀ p q : D, Shw 1 2000 p → Shw 1 2000 q → Shw 3 10000 (.lst [.str "slack", .tup [p, q]]) := fun p q hp hq => (Shw.lst (k := 2) (b := 2 * (2000 + 2) + 3) (fun z hz => by
    simp only [List.mem_cons, List.not_mem_nil, or_false] at hz
    rcases hz with rfl | rfl
    · exact Shw.str (Nat.le_trans (show (reprText (Str.ofString "slack")).length ≤ 100 by decide +kernel) (by decide))
    · exact Shw.tup (k := 1) (b := 2000) (fun z hz => by
        simp only [List.mem_cons, List.not_mem_nil, or_false] at hz
        rcases hz with rfl | rfl
        · exact hp
        · exact hq) 2 (by simp)) 2 (by simp)).mono (by decide) (by decide)
  have SS : Shw 4 30000 (.lst [.lst [.str "slack", .tup [o, .int b]], .lst [.str "slack", .tup [.int a, o]]]) := (Shw.lst (k := 3) (b := 10000) (fun z hz => by
    simp only [List.mem_cons, List.not_mem_nil, or_false] at hz
    rcases hz with rfl | rfl
    · exact SL _ _ so S1
    · exact SL _ _ S2 so) 2 (by simp)).mono (by decide) (by decide)
  have rp : ∀ {x : Xn} {η : List Sl} {w : WE} {xs : List D}, EV w x η n3 (.lst xs) → Shw 4 30000 (.lst xs) → EV (eCB bRepr (aCons w aNil)) x η n3 (.str (py (.lst xs)).shown) := fun {x η w xs} hw hs R hR => hw _ (repr_of (K := fun d => R d n3) hs hR)
  have eb : ∀ {x : Xn} {η : List Sl} {i : Nat} {xs : List D}, η[i]? = some (.ow xs) → EV (eVarB i) x η n3 (.lst xs) := fun {x η i xs} h R hR => by
    unfold eVarB
    rw [h]
    exact hR
  refine st_if (tv_test (ev_bin (rp (eb rfl) SS) (rp (ev_lst (av_cons (ev_lst (av_cons ev_c (av_cons (ev_tup (av_cons (ev_v rfl) (av_cons (ev_v rfl) av_nil))) av_nil))) (av_cons (ev_lst (av_cons ev_c (av_cons (ev_tup (av_cons (ev_v rfl) (av_cons (ev_v rfl) av_nil))) av_nil))) av_nil))) SS) fun k hk => ?_)) ?_
  · rw [r_neS]
    simpa using hk
  refine st_ifL (tv_test (ev_neL (ev_saidX (fun x => rv_mk (d := .int a) (e := .int 0) (av_cons (ev_v rfl) (av_cons ev_c av_nil)) rfl (by simp [Ty, tyN]) (by simp [Ty, tyN]) (fun i j h1 h2 => .inr (by cases h2; decide))) tag_slack) (ev_lst (av_cons ev_c (av_cons (ev_tup (av_cons (ev_v rfl) (av_cons ev_c av_nil))) av_nil))) rfl (lay2 (LayN.tup (k := 1) fun z hz => ?_)))) ?_
  · simp only [List.mem_cons, List.not_mem_nil, or_false] at hz
    rcases hz with rfl | rfl <;> exact LayN.int _
  · exact hx _ _ ⟨⟨_, _, _, _, _, _, _, _, _, rfl⟩, by omega⟩
end DL
set_option maxHeartbeats 0
namespace DL
open PySem PySem.Spec PyProof.Rows L2
abbrev s_BadNumber__init_ : Stmt := inClass (top 5) 0
abbrev N_BadNumber__init_ : List Str := ["self", "given"]
theorem sc_BadNumber__init_ : FnScope N_BadNumber__init_ ["self", "given"] (defScope s_BadNumber__init_) := ⟨rfl, rfl, rfl, by decide +kernel, rfl, by decide +kernel, by decide +kernel⟩
theorem b_BadNumber__init_ {P : Program} {wd : World} {K : PySem.W.Frag} {mg : Str → Option Value} {base : Heap} (B : ExB K (He.ga K "SheetError")) (gS : mg "SheetError" = some (.ref (He.ga K "SheetError"))) (f : Addr) (cdv : Value) (A : Around) (outer : List Env) (s : Shared) (H : Hp) (E : XK) :
    PSs (cxOf CX0 P wd K mg base N_BadNumber__init_ "BadNumber.__init__" (defScope s_BadNumber__init_) f cdv A outer s H E) (defBody s_BadNumber__init_) (tX1 K "no such number" "given") :=
  pss_cons (ps_expr (pe_shinit B (by rfl) gS (pa_cons (pv 0) (pa_cons pe_str pa_nil)))) (pss_one (ps_ost (pv 0) (pv 1)))
abbrev s_BadSlack__init_ : Stmt := inClass (top 4) 0
abbrev N_BadSlack__init_ : List Str := ["self", "given"]
theorem sc_BadSlack__init_ : FnScope N_BadSlack__init_ ["self", "given"] (defScope s_BadSlack__init_) := ⟨rfl, rfl, rfl, by decide +kernel, rfl, by decide +kernel, by decide +kernel⟩
theorem b_BadSlack__init_ {P : Program} {wd : World} {K : PySem.W.Frag} {mg : Str → Option Value} {base : Heap} (B : ExB K (He.ga K "SheetError")) (gS : mg "SheetError" = some (.ref (He.ga K "SheetError"))) (f : Addr) (cdv : Value) (A : Around) (outer : List Env) (s : Shared) (H : Hp) (E : XK) :
    PSs (cxOf CX0 P wd K mg base N_BadSlack__init_ "BadSlack.__init__" (defScope s_BadSlack__init_) f cdv A outer s H E) (defBody s_BadSlack__init_) (tX1 K "no slack" "given") :=
  pss_cons (ps_expr (pe_shinit B (by rfl) gS (pa_cons (pv 0) (pa_cons pe_str pa_nil)))) (pss_one (ps_ost (pv 0) (pv 1)))
abbrev s_L_said : Stmt := top 19
abbrev N_L_said : List Str := ["_law_deed", "_law_caught", "_law_found", "e"]
theorem sc_L_said : FnScope N_L_said ["_law_deed"] (defScope s_L_said) := ⟨rfl, rfl, rfl, by decide +kernel, rfl, by decide +kernel, by decide +kernel⟩
def w_fin : WS := (sRet (eIf (wTest (eBin oIsN (eVarB 1) (eC .non))) (eFz (nLst (aCons (eProp "Slack" C_Slack_num (eVar 2)) (aCons (eProp "Slack" C_Slack_den (eVar 2)) aNil)))) (eFz (nLst (aCons (eC (.str "other")) aNil)))))
def finS (K : PySem.W.Frag) : TS := upS K C8.E0 w_fin
theorem h_fin : ∀ (x : Xn) (a b : D) (n : Nat) (k : Wk), (∀ n', n' = n → k.rt (.lst [a, b]) n') → w_fin x k [.un, .dt .non, .dt (.ins "Slack" ["own_num", "own_den"] [a, b]), .un] n := by
  intro x a b n k hk
  show sRet _ _ _ _ _
  have ep : ∀ R : D → Nat → Prop, R a n → eProp "Slack" C_Slack_num (eVar 2) x [.un, .dt .non, .dt (.ins "Slack" ["own_num", "own_den"] [a, b]), .un] n R := fun R hR => ⟨rfl, a, b, rfl, hR⟩
  have eq : ∀ R : D → Nat → Prop, R b n → eProp "Slack" C_Slack_den (eVar 2) x [.un, .dt .non, .dt (.ins "Slack" ["own_num", "own_den"] [a, b]), .un] n R := fun R hR => ⟨rfl, a, b, rfl, hR⟩
  exact ep _ (eq _ ⟨(by show 2 ≤ sizeLine; decide), hk n rfl⟩)
theorem rest_said {P : Program} {wd : World} {K : PySem.W.Frag} {mg : Str → Option Value} {base : Heap} (zi : mg "isinstance" = none) (T : Tx K mg) (P_Slack_num : PropF P wd K mg base "Slack" "num" 1 C_Slack_num) (P_Slack_den : PropF P wd K mg base "Slack" "den" 1 C_Slack_den) (m_BadSlack : mg "BadSlack" = some (.ref (He.ga K "BadSlack"))) (m_BadNumber : mg "BadNumber" = some (.ref (He.ga K "BadNumber"))) (g : Addr) (cdg : Value) (A : Around) (st : List Env) (s : Shared) (H : Hp) (hr : Room 3 (A.deeper (envOfC "_law_said" (defScope s_L_said) s.heap.objs.size g cdg))) :
    PSs (cxOf C8.CX0 P wd K mg base N_L_said "_law_said" (defScope s_L_said) g cdg A st s H C8.E0).nox ((defBody s_L_said).drop 2) (tChain K (finS K) (lL K)) := by
  have h : PSs (cxOf C8.CX0 P wd K mg base N_L_said "_law_said" (defScope s_L_said) g cdg A st s H C8.E0).nox ((defBody s_L_said).drop 2) _ :=
    (pss_cons (ps_if (pt_val (pe_callB (call_isV (C := He.ga K "BadSlack")) (by rfl) zi (by decide +kernel) (pa_cons (pv 1) (pa_cons (pe_glob (v := .ref (He.ga K "BadSlack")) (by rfl) m_BadSlack rfl) pa_nil)))) (pss_one (ps_ret (pe_lst (pa_cons pe_str (pa_cons (pe_kept (pv 1)) pa_nil))))) pss_nil)
      (pss_cons (ps_if (pt_val (pe_callB (call_isV (C := He.ga K "BadNumber")) (by rfl) zi (by decide +kernel) (pa_cons (pv 1) (pa_cons (pe_glob (v := .ref (He.ga K "BadNumber")) (by rfl) m_BadNumber rfl) pa_nil)))) (pss_one (ps_ret (pe_lst (pa_cons pe_str (pa_cons (pe_kept (pv 1)) pa_nil))))) pss_nil)
      (pss_one (qs_ret (E := C8.E0) (q_if (qt_cmp op_isN opd_isN (qb_v 1 (pv 1)) (qb q_non) (nomark _)) (qf (qn_lst (qa_cons (q_prop T.c_Slack P_Slack_num hr (by decide) (q_v 2 (pv 2))) (qa_cons (q_prop T.c_Slack P_Slack_den hr (by decide) (q_v 2 (pv 2))) qa_nil)))) (qf (qn_lst (qa_cons q_str qa_nil))))))))
  exact h
theorem st0_said {P : Program} {wd : World} {K : PySem.W.Frag} {mg : Str → Option Value} {base : Heap} (g : Addr) (cdg : Value) (A : Around) (st : List Env) (s : Shared) (H : Hp) :
    PS (cxOf C8.CX0 P wd K mg base N_L_said "_law_said" (defScope s_L_said) g cdg A st s H C8.E0).nox ((defBody s_L_said).getD 0 (.Pass ⟨0, 0, 0, 0⟩)) (tAsg (tTup (tCons (tC .non) (tCons (tC .non) tNil))) (gTup K 2 (gCons (gName 1) (gCons (gName 2) gNil)))) :=
  ps_asg (pe_tup (pa_cons pe_non (pa_cons pe_non pa_nil))) (pg_tup rfl (pgs_cons (pg_name (i := 1) sc_L_said.nd rfl (Or.inl rfl)) (pgs_cons (pg_name (i := 2) sc_L_said.nd rfl (Or.inl rfl)) pgs_nil)))
theorem gives_said {P : Program} {wd : World} {K : PySem.W.Frag} {mg : Str → Option Value} {base : Heap} (zi : mg "isinstance" = none) (T : Tx K mg) (P_Slack_num : PropF P wd K mg base "Slack" "num" 1 C_Slack_num) (P_Slack_den : PropF P wd K mg base "Slack" "den" 1 C_Slack_den) (m_SheetError : mg "SheetError" = some (.ref (He.ga K "SheetError"))) (m_StateError : mg "StateError" = some (.ref (He.ga K "StateError"))) (m_MissingError : mg "MissingError" = some (.ref (He.ga K "MissingError"))) (m_BadSlack : mg "BadSlack" = some (.ref (He.ga K "BadSlack"))) (m_BadNumber : mg "BadNumber" = some (.ref (He.ga K "BadNumber"))) (hk : ∀ p, p ∈ lL K → PySem.W.kitOne K (.type "NoneType") (.ref p.1) = some false) :
    ∀ X : Cx, X.prog = P → X.w = wd → X.K = K → X.mg = mg → X.base = base → Room 4 X.A → ∀ (g : Addr) (cdg : Value) (q : Str), LamX.GivesTo X N_L_said "_law_said" (defScope s_L_said) g cdg (defBody s_L_said) "_law_deed" q (TTs K (csL K) (lL K) (fvT K "Slack" "own_num" "own_den")) := by
  rintro X rfl rfl rfl rfl rfl hr g cdg q
  refine said_givesL (l := lL X.K) (fin := finS X.K) (Ng := N_L_said) (e := "e") (fnd := "_law_found") (cgt := "_law_caught") (x1 := "SheetError") (x2 := "StateError") (x3 := "MissingError") sc_L_said.nd rfl rfl rfl rfl rfl rfl rfl rfl m_SheetError rfl m_StateError rfl m_MissingError (by decide) (by decide) (by decide) (fun s H => st0_said g cdg X.A X.stack s H)
    (fun s H ad pn => pss_one (ps_set (i := 1) sc_L_said.nd rfl (Or.inl rfl) (pv 3))) (fun s H pn xe te h => ps_set (i := 2) sc_L_said.nd rfl (Or.inl rfl) h) (fun s H => rest_said zi T P_Slack_num P_Slack_den m_BadSlack m_BadNumber g cdg X.A X.stack s H (hr.deeper _)) hk ?_
  exact fin_up h_fin
def d_L_begin : He.DefD := ⟨("_law_begin", none), "_law_begin", "_law_begin", defArgs s_L_begin, defBody s_L_begin, defScope s_L_begin, [], []⟩
def d_L_next : He.DefD := ⟨("_law_next", none), "_law_next", "_law_next", defArgs s_L_next, defBody s_L_next, defScope s_L_next, [], []⟩
def d_is_integer : He.DefD := ⟨("is_integer", none), "is_integer", "is_integer", defArgs s_is_integer, defBody s_is_integer, defScope s_is_integer, [], []⟩
def d_common : He.DefD := ⟨("common", none), "common", "common", defArgs s_common, defBody s_common, defScope s_common, [], []⟩
def d_number_in : He.DefD := ⟨("number_in", none), "number_in", "number_in", defArgs s_number_in, defBody s_number_in, defScope s_number_in, [], []⟩
def d_need_whole : He.DefD := ⟨("need_whole", none), "need_whole", "need_whole", defArgs s_need_whole, defBody s_need_whole, defScope s_need_whole, [], []⟩
def d_Slack__init_ : He.DefD := ⟨("Slack", some "__init__"), "__init__", "Slack.__init__", defArgs s_Slack__init_, defBody s_Slack__init_, defScope s_Slack__init_, [.int 1], []⟩
def d_Slack__add_ : He.DefD := ⟨("Slack", some "__add__"), "__add__", "Slack.__add__", defArgs s_Slack__add_, defBody s_Slack__add_, defScope s_Slack__add_, [], []⟩
def d_Slack__mul_ : He.DefD := ⟨("Slack", some "__mul__"), "__mul__", "Slack.__mul__", defArgs s_Slack__mul_, defBody s_Slack__mul_, defScope s_Slack__mul_, [], []⟩
def d_Slack__rmul_ : He.DefD := ⟨("Slack", some "__rmul__"), "__rmul__", "Slack.__rmul__", defArgs s_Slack__rmul_, defBody s_Slack__rmul_, defScope s_Slack__rmul_, [], []⟩
def d_Slack__eq_ : He.DefD := ⟨("Slack", some "__eq__"), "__eq__", "Slack.__eq__", defArgs s_Slack__eq_, defBody s_Slack__eq_, defScope s_Slack__eq_, [], []⟩
def d_Slack__lt_ : He.DefD := ⟨("Slack", some "__lt__"), "__lt__", "Slack.__lt__", defArgs s_Slack__lt_, defBody s_Slack__lt_, defScope s_Slack__lt_, [], []⟩
def d_Slack__le_ : He.DefD := ⟨("Slack", some "__le__"), "__le__", "Slack.__le__", defArgs s_Slack__le_, defBody s_Slack__le_, defScope s_Slack__le_, [], []⟩
def d_Slack__gt_ : He.DefD := ⟨("Slack", some "__gt__"), "__gt__", "Slack.__gt__", defArgs s_Slack__gt_, defBody s_Slack__gt_, defScope s_Slack__gt_, [], []⟩
def d_Slack__ge_ : He.DefD := ⟨("Slack", some "__ge__"), "__ge__", "Slack.__ge__", defArgs s_Slack__ge_, defBody s_Slack__ge_, defScope s_Slack__ge_, [], []⟩
def d_Slack__str_ : He.DefD := ⟨("Slack", some "__str__"), "__str__", "Slack.__str__", defArgs s_Slack__str_, defBody s_Slack__str_, defScope s_Slack__str_, [], []⟩
def d_L_pick : He.DefD := ⟨("_law_pick", none), "_law_pick", "_law_pick", defArgs s_L_pick, defBody s_L_pick, defScope s_L_pick, [], []⟩
def d_L_number : He.DefD := ⟨("_law_number", none), "_law_number", "_law_number", defArgs s_L_number, defBody s_L_number, defScope s_L_number, [], []⟩
def d_L_common : He.DefD := ⟨("_law_common", none), "_law_common", "_law_common", defArgs s_L_common, defBody s_L_common, defScope s_L_common, [], []⟩
def d_L_texts : He.DefD := ⟨("_law_texts", none), "_law_texts", "_law_texts", defArgs s_L_texts, defBody s_L_texts, defScope s_L_texts, [], []⟩
def d_L_read_right : He.DefD := ⟨("_law_read_right", none), "_law_read_right", "_law_read_right", defArgs s_L_read_right, defBody s_L_read_right, defScope s_L_read_right, [], []⟩
def d_L_order_right : He.DefD := ⟨("_law_order_right", none), "_law_order_right", "_law_order_right", defArgs s_L_order_right, defBody s_L_order_right, defScope s_L_order_right, [], []⟩
def d_law : He.DefD := ⟨("law", none), "law", "law", defArgs s_law, defBody s_law, defScope s_law, [], []⟩
def d_L_said : He.DefD := ⟨("_law_said", none), "_law_said", "_law_said", defArgs s_L_said, defBody s_L_said, defScope s_L_said, [], []⟩
def d_BadNumber__init_ : He.DefD := ⟨("BadNumber", some "__init__"), "__init__", "BadNumber.__init__", defArgs s_BadNumber__init_, defBody s_BadNumber__init_, defScope s_BadNumber__init_, [], []⟩
def d_BadSlack__init_ : He.DefD := ⟨("BadSlack", some "__init__"), "__init__", "BadSlack.__init__", defArgs s_BadSlack__init_, defBody s_BadSlack__init_, defScope s_BadSlack__init_, [], []⟩
def fnL : List He.DefD := [d_L_begin, d_L_next, d_is_integer, d_common, d_number_in, d_need_whole, d_Slack__init_, d_Slack__add_, d_Slack__mul_, d_Slack__rmul_, d_Slack__eq_, d_Slack__lt_, d_Slack__le_, d_Slack__gt_, d_Slack__ge_, d_Slack__str_, d_L_pick, d_L_number, d_L_common, d_L_texts, d_L_read_right, d_L_order_right, d_law, d_L_said, d_BadNumber__init_, d_BadSlack__init_]
def a_Slack_den : He5.DefA := ⟨fun K => propG K "Slack" "den", "den", "Slack.den", defArgs s_Slack_den, defBody s_Slack_den, defScope s_Slack_den, [], []⟩
def a_Slack_num : He5.DefA := ⟨fun K => propG K "Slack" "num", "num", "Slack.num", defArgs s_Slack_num, defBody s_Slack_num, defScope s_Slack_num, [], []⟩
def a_Slack_read : He5.DefA := ⟨fun K => cmG K "Slack" "read", "read", "Slack.read", defArgs s_Slack_read, defBody s_Slack_read, defScope s_Slack_read, [], []⟩
def glL : List He5.DefA := [a_Slack_den, a_Slack_num, a_Slack_read]
def faL : List He.Fa := [.free "isinstance", .free "int", .free "bool", .free "len", .free "all", .free "str", .free "range", .free "repr", .int "MOST_DIGITS" 40, .str "DIGITS" "0123456789", .glo "_law_begin", .glo "_law_next", .glo "is_integer", .glo "common", .glo "number_in", .glo "need_whole", .glo "_law_pick", .glo "_law_number", .glo "_law_common", .glo "_law_texts", .glo "_law_read_right", .glo "_law_order_right", .glo "law", .glo "_law_said", .glo "BadNumber", .glo "BadSlack", .glo "SheetError", .glo "StateError", .glo "MissingError", .glo "Slack", .cls "Slack", .noat "Slack" "own_num", .noat "Slack" "own_den", .mkr "Slack", .meth "Slack" "__eq__", .meth "Slack" "__ge__", .meth "Slack" "__gt__", .meth "Slack" "__le__", .meth "Slack" "__lt__", .meth "Slack" "__str__"]
def exL (K : PySem.W.Frag) : Bool := clsX K "Slack" && excX K "BadNumber" ["given"] && excX K "BadSlack" ["given"] && famX K "SheetError" "ValueError.__init__" && propX K "Slack" "den" && propX K "Slack" "num" && opX K "Slack" && cmX K "Slack" "read" && lamX K && saidX K excL tagL (csL K) (lL K) && nonX K (lL K)
def loose0 : List Str := ["is_integer", "SheetError", "BadSlack", "BadNumber", "StateError", "MissingError", "DIGITS", "MOST_DIGITS", "common", "number_in", "need_whole", "Slack", "_law_begin", "_law_next", "_law_pick", "_law_said", "_law_number", "_law_common", "_law_texts", "_law_read_right"]
def loose1 : List Str := ["_law_order_right"]
def looseL : List Str := loose0 ++ loose1
abbrev RL : PySem.W.OpenRow := PySem.W.OpenLaw.row PySem.Challenge.rw_sharedborders_k02_slacks
abbrev hkL : PySem.W.Hook := hookZ 7 faL fnL (lamDefs.map fun q => ((q, none) : Str × Option Str)) exL glL
def obL (s : PySem.W.SharedT) : AlZ := obsZ 7 faL fnL (lamDefs.map fun q => ((q, none) : Str × Option Str)) exL glL (HandSHeadRun.getT s)
theorem ob_eqL (s : PySem.W.SharedT) : obL s = hkL.obs s.abs := obsZ_eq (HandSHeadRun.getT_eq s)
theorem runL (w : World) : HandSHeadRun.RunEq RL (PySem.W.view RL.prog [25]) hkL obL 6000 looseL w := by
  intro os
  kernel_rfl
theorem factsL {P : Program} {wd : World} {K : PySem.W.Frag} {h : Heap} {mg : Str → Option Value} {f : Addr} (X : K.In h) (G : h.Ns mainGlobals mg) (hfa : mg ("law" : Str) = some (.ref f)) (c : He.SaysD faL fnL K) (ec : exL K = true) (ca : He5.SaysA [] glL K) :
    ∃ fd : FuncData, (∀ (s : Shared) (v : Value), BindsTo s fd ⟨[v], []⟩ [("_law_script", v)]) ∧ ∀ base : Heap, K.In base → base.Ns mainGlobals mg → (∀ p, p ∈ (lamDefs.map fun q => He.cT K (q, none)) → LamX.TabB base mg p.1 p.2) → FnOkG P wd K mg base CX0 10 f fd ["_law_script"] (spLaw K) := by
  obtain ⟨fd_L_begin, D_L_begin⟩ : ∃ fd, FunD K "_law_begin" "_law_begin" (defArgs s_L_begin) (defBody s_L_begin) (defScope s_L_begin) (d_L_begin.dvs K) [] (He.ga K "_law_begin") fd := c.def_ 0 (d := d_L_begin) rfl
  obtain ⟨fd_L_next, D_L_next⟩ : ∃ fd, FunD K "_law_next" "_law_next" (defArgs s_L_next) (defBody s_L_next) (defScope s_L_next) (d_L_next.dvs K) [] (He.ga K "_law_next") fd := c.def_ 1 (d := d_L_next) rfl
  obtain ⟨fd_is_integer, D_is_integer⟩ : ∃ fd, FunD K "is_integer" "is_integer" (defArgs s_is_integer) (defBody s_is_integer) (defScope s_is_integer) (d_is_integer.dvs K) [] (He.ga K "is_integer") fd := c.def_ 2 (d := d_is_integer) rfl
  obtain ⟨fd_common, D_common⟩ : ∃ fd, FunD K "common" "common" (defArgs s_common) (defBody s_common) (defScope s_common) (d_common.dvs K) [] (He.ga K "common") fd := c.def_ 3 (d := d_common) rfl
  obtain ⟨fd_number_in, D_number_in⟩ : ∃ fd, FunD K "number_in" "number_in" (defArgs s_number_in) (defBody s_number_in) (defScope s_number_in) (d_number_in.dvs K) [] (He.ga K "number_in") fd := c.def_ 4 (d := d_number_in) rfl
  obtain ⟨fd_need_whole, D_need_whole⟩ : ∃ fd, FunD K "need_whole" "need_whole" (defArgs s_need_whole) (defBody s_need_whole) (defScope s_need_whole) (d_need_whole.dvs K) [] (He.ga K "need_whole") fd := c.def_ 5 (d := d_need_whole) rfl
  obtain ⟨fd_Slack__init_, D_Slack__init_⟩ : ∃ fd, FunD K "__init__" "Slack.__init__" (defArgs s_Slack__init_) (defBody s_Slack__init_) (defScope s_Slack__init_) (d_Slack__init_.dvs K) [] (He.ma K (He.ga K "Slack") "__init__") fd := c.def_ 6 (d := d_Slack__init_) rfl
  obtain ⟨fd_Slack__add_, D_Slack__add_⟩ : ∃ fd, FunD K "__add__" "Slack.__add__" (defArgs s_Slack__add_) (defBody s_Slack__add_) (defScope s_Slack__add_) (d_Slack__add_.dvs K) [] (He.ma K (He.ga K "Slack") "__add__") fd := c.def_ 7 (d := d_Slack__add_) rfl
  obtain ⟨fd_Slack__mul_, D_Slack__mul_⟩ : ∃ fd, FunD K "__mul__" "Slack.__mul__" (defArgs s_Slack__mul_) (defBody s_Slack__mul_) (defScope s_Slack__mul_) (d_Slack__mul_.dvs K) [] (He.ma K (He.ga K "Slack") "__mul__") fd := c.def_ 8 (d := d_Slack__mul_) rfl
  obtain ⟨fd_Slack__rmul_, D_Slack__rmul_⟩ : ∃ fd, FunD K "__rmul__" "Slack.__rmul__" (defArgs s_Slack__rmul_) (defBody s_Slack__rmul_) (defScope s_Slack__rmul_) (d_Slack__rmul_.dvs K) [] (He.ma K (He.ga K "Slack") "__rmul__") fd := c.def_ 9 (d := d_Slack__rmul_) rfl
  obtain ⟨fd_Slack__eq_, D_Slack__eq_⟩ : ∃ fd, FunD K "__eq__" "Slack.__eq__" (defArgs s_Slack__eq_) (defBody s_Slack__eq_) (defScope s_Slack__eq_) (d_Slack__eq_.dvs K) [] (He.ma K (He.ga K "Slack") "__eq__") fd := c.def_ 10 (d := d_Slack__eq_) rfl
  obtain ⟨fd_Slack__lt_, D_Slack__lt_⟩ : ∃ fd, FunD K "__lt__" "Slack.__lt__" (defArgs s_Slack__lt_) (defBody s_Slack__lt_) (defScope s_Slack__lt_) (d_Slack__lt_.dvs K) [] (He.ma K (He.ga K "Slack") "__lt__") fd := c.def_ 11 (d := d_Slack__lt_) rfl
  obtain ⟨fd_Slack__le_, D_Slack__le_⟩ : ∃ fd, FunD K "__le__" "Slack.__le__" (defArgs s_Slack__le_) (defBody s_Slack__le_) (defScope s_Slack__le_) (d_Slack__le_.dvs K) [] (He.ma K (He.ga K "Slack") "__le__") fd := c.def_ 12 (d := d_Slack__le_) rfl
  obtain ⟨fd_Slack__gt_, D_Slack__gt_⟩ : ∃ fd, FunD K "__gt__" "Slack.__gt__" (defArgs s_Slack__gt_) (defBody s_Slack__gt_) (defScope s_Slack__gt_) (d_Slack__gt_.dvs K) [] (He.ma K (He.ga K "Slack") "__gt__") fd := c.def_ 13 (d := d_Slack__gt_) rfl
  obtain ⟨fd_Slack__ge_, D_Slack__ge_⟩ : ∃ fd, FunD K "__ge__" "Slack.__ge__" (defArgs s_Slack__ge_) (defBody s_Slack__ge_) (defScope s_Slack__ge_) (d_Slack__ge_.dvs K) [] (He.ma K (He.ga K "Slack") "__ge__") fd := c.def_ 14 (d := d_Slack__ge_) rfl
  obtain ⟨fd_Slack__str_, D_Slack__str_⟩ : ∃ fd, FunD K "__str__" "Slack.__str__" (defArgs s_Slack__str_) (defBody s_Slack__str_) (defScope s_Slack__str_) (d_Slack__str_.dvs K) [] (He.ma K (He.ga K "Slack") "__str__") fd := c.def_ 15 (d := d_Slack__str_) rfl
  obtain ⟨fd_L_pick, D_L_pick⟩ : ∃ fd, FunD K "_law_pick" "_law_pick" (defArgs s_L_pick) (defBody s_L_pick) (defScope s_L_pick) (d_L_pick.dvs K) [] (He.ga K "_law_pick") fd := c.def_ 16 (d := d_L_pick) rfl
  obtain ⟨fd_L_number, D_L_number⟩ : ∃ fd, FunD K "_law_number" "_law_number" (defArgs s_L_number) (defBody s_L_number) (defScope s_L_number) (d_L_number.dvs K) [] (He.ga K "_law_number") fd := c.def_ 17 (d := d_L_number) rfl
  obtain ⟨fd_L_common, D_L_common⟩ : ∃ fd, FunD K "_law_common" "_law_common" (defArgs s_L_common) (defBody s_L_common) (defScope s_L_common) (d_L_common.dvs K) [] (He.ga K "_law_common") fd := c.def_ 18 (d := d_L_common) rfl
  obtain ⟨fd_L_texts, D_L_texts⟩ : ∃ fd, FunD K "_law_texts" "_law_texts" (defArgs s_L_texts) (defBody s_L_texts) (defScope s_L_texts) (d_L_texts.dvs K) [] (He.ga K "_law_texts") fd := c.def_ 19 (d := d_L_texts) rfl
  obtain ⟨fd_L_read_right, D_L_read_right⟩ : ∃ fd, FunD K "_law_read_right" "_law_read_right" (defArgs s_L_read_right) (defBody s_L_read_right) (defScope s_L_read_right) (d_L_read_right.dvs K) [] (He.ga K "_law_read_right") fd := c.def_ 20 (d := d_L_read_right) rfl
  obtain ⟨fd_L_order_right, D_L_order_right⟩ : ∃ fd, FunD K "_law_order_right" "_law_order_right" (defArgs s_L_order_right) (defBody s_L_order_right) (defScope s_L_order_right) (d_L_order_right.dvs K) [] (He.ga K "_law_order_right") fd := c.def_ 21 (d := d_L_order_right) rfl
  obtain ⟨fd_law, D_law⟩ : ∃ fd, FunD K "law" "law" (defArgs s_law) (defBody s_law) (defScope s_law) (d_law.dvs K) [] (He.ga K "law") fd := c.def_ 22 (d := d_law) rfl
  obtain ⟨fd_L_said, D_L_said⟩ : ∃ fd, FunD K "_law_said" "_law_said" (defArgs s_L_said) (defBody s_L_said) (defScope s_L_said) (d_L_said.dvs K) [] (He.ga K "_law_said") fd := c.def_ 23 (d := d_L_said) rfl
  obtain ⟨fd_BadNumber__init_, D_BadNumber__init_⟩ : ∃ fd, FunD K "__init__" "BadNumber.__init__" (defArgs s_BadNumber__init_) (defBody s_BadNumber__init_) (defScope s_BadNumber__init_) (d_BadNumber__init_.dvs K) [] (He.ma K (He.ga K "BadNumber") "__init__") fd := c.def_ 24 (d := d_BadNumber__init_) rfl
  obtain ⟨fd_BadSlack__init_, D_BadSlack__init_⟩ : ∃ fd, FunD K "__init__" "BadSlack.__init__" (defArgs s_BadSlack__init_) (defBody s_BadSlack__init_) (defScope s_BadSlack__init_) (d_BadSlack__init_.dvs K) [] (He.ma K (He.ga K "BadSlack") "__init__") fd := c.def_ 25 (d := d_BadSlack__init_) rfl
  obtain ⟨fd_Slack_den, D_Slack_den⟩ : ∃ fd, FunD K "den" "Slack.den" (defArgs s_Slack_den) (defBody s_Slack_den) (defScope s_Slack_den) (a_Slack_den.dvs K) [] (propG K "Slack" "den") fd := ca.def_ 0 (d := a_Slack_den) rfl
  obtain ⟨fd_Slack_num, D_Slack_num⟩ : ∃ fd, FunD K "num" "Slack.num" (defArgs s_Slack_num) (defBody s_Slack_num) (defScope s_Slack_num) (a_Slack_num.dvs K) [] (propG K "Slack" "num") fd := ca.def_ 1 (d := a_Slack_num) rfl
  obtain ⟨fd_Slack_read, D_Slack_read⟩ : ∃ fd, FunD K "read" "Slack.read" (defArgs s_Slack_read) (defBody s_Slack_read) (defScope s_Slack_read) (a_Slack_read.dvs K) [] (cmG K "Slack" "read") fd := ca.def_ 2 (d := a_Slack_read) rfl
  have g_L_begin := He.glo_ok X G (c.fact 10 (f := .glo "_law_begin") rfl)
  have g_L_next := He.glo_ok X G (c.fact 11 (f := .glo "_law_next") rfl)
  have g_is_integer := He.glo_ok X G (c.fact 12 (f := .glo "is_integer") rfl)
  have g_common := He.glo_ok X G (c.fact 13 (f := .glo "common") rfl)
  have g_number_in := He.glo_ok X G (c.fact 14 (f := .glo "number_in") rfl)
  have g_need_whole := He.glo_ok X G (c.fact 15 (f := .glo "need_whole") rfl)
  have g_L_pick := He.glo_ok X G (c.fact 16 (f := .glo "_law_pick") rfl)
  have g_L_number := He.glo_ok X G (c.fact 17 (f := .glo "_law_number") rfl)
  have g_L_common := He.glo_ok X G (c.fact 18 (f := .glo "_law_common") rfl)
  have g_L_texts := He.glo_ok X G (c.fact 19 (f := .glo "_law_texts") rfl)
  have g_L_read_right := He.glo_ok X G (c.fact 20 (f := .glo "_law_read_right") rfl)
  have g_L_order_right := He.glo_ok X G (c.fact 21 (f := .glo "_law_order_right") rfl)
  have g_law := He.glo_ok X G (c.fact 22 (f := .glo "law") rfl)
  have g_L_said := He.glo_ok X G (c.fact 23 (f := .glo "_law_said") rfl)
  have cl_Slack := He.cls_ok (c.fact 30 (f := .cls "Slack") rfl)
  have ec2 : (clsX K "Slack" && excX K "BadNumber" ["given"] && excX K "BadSlack" ["given"] && famX K "SheetError" "ValueError.__init__" && propX K "Slack" "den" && propX K "Slack" "num" && opX K "Slack" && cmX K "Slack" "read" && lamX K && saidX K excL tagL (csL K) (lL K) && nonX K (lL K)) = true := ec
  simp only [Bool.and_eq_true] at ec2
  obtain ⟨⟨⟨⟨⟨⟨⟨⟨⟨⟨ex_Slack, xx_BadNumber⟩, xx_BadSlack⟩, xf_SheetError⟩, xp_Slack_den⟩, xp_Slack_num⟩, ox_Slack⟩, xc_Slack_read⟩, xl⟩, xs⟩, xn⟩ := ec2
  have na_Slack : ∀ f ∈ (["own_num", "own_den"] : List Str), NoAttr K (He.ga K "Slack") f := by
    intro f hf
    simp only [List.mem_cons, List.not_mem_nil, or_false] at hf
    rcases hf with rfl | rfl
    · exact He.noat_ok (c.fact 31 (f := .noat "Slack" "own_num") rfl)
    · exact He.noat_ok (c.fact 32 (f := .noat "Slack" "own_den") rfl)
  have T : Tx K mg := ⟨He.free_ok X G (c.fact 0 (f := .free "isinstance") rfl), He.free_ok X G (c.fact 1 (f := .free "int") rfl), He.free_ok X G (c.fact 2 (f := .free "bool") rfl), He.free_ok X G (c.fact 3 (f := .free "len") rfl), He.free_ok X G (c.fact 4 (f := .free "all") rfl), He.free_ok X G (c.fact 5 (f := .free "str") rfl), He.free_ok X G (c.fact 6 (f := .free "range") rfl), He.free_ok X G (c.fact 7 (f := .free "repr") rfl), He.int_ok X G (c.fact 8 (f := .int "MOST_DIGITS" 40) rfl), He.str_ok X G (c.fact 9 (f := .str "DIGITS" "0123456789") rfl), He.glo_ok X G (c.fact 29 (f := .glo "Slack") rfl), ⟨cl_Slack, na_Slack⟩, (clsX_ok cl_Slack ex_Slack).1, (clsX_ok cl_Slack ex_Slack).2, (opX_ok ox_Slack).o⟩
  have zl : mg "len" = none := He.free_ok X G (c.fact 3 (f := .free "len") rfl)
  have m_BadNumber := He.glo_ok X G (c.fact 24 (f := .glo "BadNumber") rfl)
  have m_BadSlack := He.glo_ok X G (c.fact 25 (f := .glo "BadSlack") rfl)
  have m_SheetError := He.glo_ok X G (c.fact 26 (f := .glo "SheetError") rfl)
  have m_StateError := He.glo_ok X G (c.fact 27 (f := .glo "StateError") rfl)
  have m_MissingError := He.glo_ok X G (c.fact 28 (f := .glo "MissingError") rfl)
  have hD_said := saidX_ok xs (fun cn hc => by
    simp only [excL, List.mem_cons, List.not_mem_nil, or_false] at hc
    rcases hc with rfl | rfl
    · exact excX_ok xx_BadNumber
    · exact excX_ok xx_BadSlack
    ) tag_mem
  have hlx := xl
  have el := hfa.symm.trans g_law
  cases el
  refine ⟨fd_law, fun s v => FunD.bindsA (ps := ["_law_script"]) D_law (fun _ _ _ _ _ _ us hl => match us, hl with | [_], _ => rfl) s [v] rfl, fun base _ _ hTB => ?_⟩
  have F_L_begin : FnS P wd K mg base "_law_begin" ["_law_script"] 1 (spBegin K) := ⟨fd_L_begin, FunD.ok D_L_begin sc_L_begin (fun _ _ _ _ h => spBegin_len h) (fun cdv A outer s H vs Q E hr h => ⟨t_begin K, (b_L_begin _ cdv A outer s H E).nox, start_begin rfl vs H Q h⟩), FunD.bindsN D_L_begin (fun _ _ _ _ _ _ us hl => match us, hl with | [_], _ => rfl), D_L_begin.kp, g_L_begin⟩
  have F_L_next : Fn P wd K mg base "_law_next" ["_law_draw", "_law_many"] 2 1 C_L_next := ⟨fd_L_next, FunD.ok D_L_next sc_L_next (fun _ _ _ _ h => spU_len h) (fun cdv A outer s H vs Q E hr h => ⟨t_next K, (b_L_next zl _ cdv A outer s H E hr).nox, start_next rfl vs H Q h⟩), FunD.bindsN D_L_next (fun _ _ _ _ _ _ us hl => match us, hl with | [_, _], _ => rfl), D_L_next.kp, g_L_next⟩
  have TB_L_read_right : LamX.TabB base mg (He.cT K ("_law_read_right", none)).1 (He.cT K ("_law_read_right", none)).2 := hTB _ (List.mem_map.2 ⟨_, (by decide : ("_law_read_right" : Str) ∈ lamDefs), rfl⟩)
  have TB_L_order_right : LamX.TabB base mg (He.cT K ("_law_order_right", none)).1 (He.cT K ("_law_order_right", none)).2 := hTB _ (List.mem_map.2 ⟨_, (by decide : ("_law_order_right" : Str) ∈ lamDefs), rfl⟩)
  have TB_law : LamX.TabB base mg (He.cT K ("law", none)).1 (He.cT K ("law", none)).2 := hTB _ (List.mem_map.2 ⟨_, (by decide : ("law" : Str) ∈ lamDefs), rfl⟩)
  have g_Slack := He.glo_ok X G (c.fact 29 (f := .glo "Slack") rfl)
  have F_L_pick : Fn P wd K mg base "_law_pick" ["_law_draw", "_law_some"] 2 2 C_L_pick := ⟨fd_L_pick, fn_up D_L_pick sc_L_pick rfl (fun cdv A outer s H E hr => b_L_pick T F_L_next _ cdv A outer s H E hr) (st_m h_L_pick), FunD.bindsN D_L_pick (fun _ _ _ _ _ _ us hl => match us, hl with | [_, _], _ => rfl), D_L_pick.kp, g_L_pick⟩
  have F_L_number : Fn P wd K mg base "_law_number" ["_law_draw"] 1 3 C_L_number := ⟨fd_L_number, fn_up D_L_number sc_L_number rfl (fun cdv A outer s H E hr => b_L_number T F_L_pick F_L_next _ cdv A outer s H E hr) (st_m h_L_number), FunD.bindsN D_L_number (fun _ _ _ _ _ _ us hl => match us, hl with | [_], _ => rfl), D_L_number.kp, g_L_number⟩
  have F_L_common : Fn P wd K mg base "_law_common" ["_law_one", "_law_other"] 2 1 C_L_common := ⟨fd_L_common, fn_up D_L_common sc_L_common rfl (fun cdv A outer s H E hr => b_L_common T  _ cdv A outer s H E hr) (st_m h_L_common), FunD.bindsN D_L_common (fun _ _ _ _ _ _ us hl => match us, hl with | [_, _], _ => rfl), D_L_common.kp, g_L_common⟩
  have P_Slack_num : PropF P wd K mg base "Slack" "num" 1 C_Slack_num := ⟨⟨_, _, fd_Slack_num, ["self"], fn_up D_Slack_num sc_Slack_num rfl (fun cdv A outer s H E hr => b_Slack_num T  _ cdv A outer s H E hr) (st_m h_Slack_num), propX_ok xp_Slack_num, FunD.bindsN D_Slack_num (fun _ _ _ _ _ _ us hl => match us, hl with | [_], _ => rfl)⟩⟩
  have P_Slack_den : PropF P wd K mg base "Slack" "den" 1 C_Slack_den := ⟨⟨_, _, fd_Slack_den, ["self"], fn_up D_Slack_den sc_Slack_den rfl (fun cdv A outer s H E hr => b_Slack_den T  _ cdv A outer s H E hr) (st_m h_Slack_den), propX_ok xp_Slack_den, FunD.bindsN D_Slack_den (fun _ _ _ _ _ _ us hl => match us, hl with | [_], _ => rfl)⟩⟩
  have S_said : SaidT P wd K mg base 4 (fvT K "Slack" "own_num" "own_den") (csL K) (lL K) := by
    have bd := FunD.bindsN (ps := ["_law_deed"]) D_L_said (fun _ _ _ _ _ _ us hl => match us, hl with | [_], _ => rfl)
    obtain ⟨oc, od, dV, kV, doc, pm, an, cdv, ct, osl, rfl, lk, hcd, _, _⟩ := D_L_said.ex
    exact ⟨_, _, _, _, _, _, _, _, _, _, _, _, _, _, _, _, g_L_said, D_L_said.kp, lk, hcd, bd, sc_L_said, rfl, Or.inl rfl, by decide, by decide, fun X h1 h2 h3 h4 h5 hr q => gives_said (He.free_ok ‹K.In h› G (c.fact 0 (f := .free "isinstance") rfl)) T P_Slack_num P_Slack_den m_SheetError m_StateError m_MissingError m_BadSlack m_BadNumber (nonX_ok xn) X h1 h2 h3 h4 h5 hr _ _ q⟩
  have F_is_integer : Fn P wd K mg base "is_integer" ["thing"] 1 1 C_is_integer := ⟨fd_is_integer, fn_up D_is_integer sc_is_integer rfl (fun cdv A outer s H E hr => b_is_integer T  _ cdv A outer s H E hr) (st_m h_is_integer), FunD.bindsN D_is_integer (fun _ _ _ _ _ _ us hl => match us, hl with | [_], _ => rfl), D_is_integer.kp, g_is_integer⟩
  have X_BadSlack : ExM P wd K mg base "BadSlack" ["self", "given"] ["given"] 1 := exM_of (excX_ok xx_BadSlack) m_BadSlack (FunD.ok D_BadSlack__init_ sc_BadSlack__init_ (fun _ _ _ _ h => spX_len h) (fun cdv A outer s H vs Q E hr h => ⟨_, b_BadSlack__init_ (famX_ok xf_SheetError) m_SheetError _ cdv A outer s H E, pure_X1 vs H Q h⟩)) (FunD.bindsN D_BadSlack__init_ (fun _ _ _ _ _ _ us hl => match us, hl with | [_, _], _ => rfl))
  have F_common : Fn P wd K mg base "common" ["one", "other"] 2 1 C_common := ⟨fd_common, fn_up D_common sc_common rfl (fun cdv A outer s H E hr => b_common T  _ cdv A outer s H E hr) (st_m h_common), FunD.bindsN D_common (fun _ _ _ _ _ _ us hl => match us, hl with | [_, _], _ => rfl), D_common.kp, g_common⟩
  have MK_Slack_den_num : MkrKX P wd K mg base "Slack" ["self", "num", "den"] 2 3 C_Slack_mk ["den", "num"] (0 :: List.map (· + 1) [1, 0]) := ⟨_, fd_Slack__init_, He.mkr_ok (c.fact 33 (f := .mkr "Slack") rfl), fn_initX D_Slack__init_ sc_Slack__init_ rfl (by decide) (fun cdv A outer s H E hr tk => b_Slack__init_ T F_is_integer X_BadSlack F_common _ cdv A outer s H E hr tk) h_Slack__init_, kbn_mkD 1 (0 :: List.map (· + 1) [1, 0]) D_Slack__init_ (by show d_Slack__init_.dvs K ≠ []; simp [He.DefD.dvs, d_Slack__init_]) (fun T kV doc pmm an cdv ct us its ws h1 h2 h3 => match us, its, ws, h1, h2, h3 with | [_], [_], [_, _], _, _, _ => ⟨_, rfl, rfl⟩), g_Slack⟩
  have SF_Slack : StrF P wd K mg base "Slack" 1 C_Slack_str := ⟨⟨_, fd_Slack__str_, ["self"], fn_up D_Slack__str_ sc_Slack__str_ rfl (fun cdv A outer s H E hr => b_Slack__str_ T  _ cdv A outer s H E hr) (st_m h_Slack__str_), FunD.bindsN D_Slack__str_ (fun _ _ _ _ _ _ us hl => match us, hl with | [_], _ => rfl), (He.meth_ok (c.fact 39 (f := .meth "Slack" "__str__") rfl)).at_, (He.meth_ok (c.fact 39 (f := .meth "Slack" "__str__") rfl)).fn⟩⟩
  have M_Slack_0 : MkrX P wd K mg base "Slack" ["self", "num", "den"] 2 3 C_Slack_mk [] := by
    obtain ⟨ds, rv, b⟩ := FunD.binds1 (ps := ["self", "num", "den"]) D_Slack__init_ 3 1 (by show d_Slack__init_.dvs K ≠ []; simp [He.DefD.dvs, d_Slack__init_]) rfl (fun T kV doc pm an cdv ct us its h1 h2 => match us, its, h1, h2 with | [_, _, _], [_], _, _ => ⟨_, rfl, rfl⟩)
    exact ⟨_, fd_Slack__init_, ds, _, He.mkr_ok (c.fact 33 (f := .mkr "Slack") rfl), fn_initX D_Slack__init_ sc_Slack__init_ rfl (by decide) (fun cdv A outer s H E hr tk => b_Slack__init_ T F_is_integer X_BadSlack F_common _ cdv A outer s H E hr tk) h_Slack__init_, b, rv, fun dr F => .nil, g_Slack⟩
  have F_number_in : Fn P wd K mg base "number_in" ["text"] 1 1 C_number_in := ⟨fd_number_in, fn_up D_number_in sc_number_in rfl (fun cdv A outer s H E hr => b_number_in T  _ cdv A outer s H E hr) (st_m h_number_in), FunD.bindsN D_number_in (fun _ _ _ _ _ _ us hl => match us, hl with | [_], _ => rfl), D_number_in.kp, g_number_in⟩
  have M_Slack_1 : MkrX P wd K mg base "Slack" ["self", "num", "den"] 2 3 C_Slack_mk [.int 1] := by
    obtain ⟨ds, rv, b⟩ := FunD.binds1 (ps := ["self", "num", "den"]) D_Slack__init_ 2 0 (by show d_Slack__init_.dvs K ≠ []; simp [He.DefD.dvs, d_Slack__init_]) rfl (fun T kV doc pm an cdv ct us its h1 h2 => match us, its, h1, h2 with | [_, _], [_], _, _ => ⟨_, rfl, rfl⟩)
    exact ⟨_, fd_Slack__init_, ds, _, He.mkr_ok (c.fact 33 (f := .mkr "Slack") rfl), fn_initX D_Slack__init_ sc_Slack__init_ rfl (by decide) (fun cdv A outer s H E hr tk => b_Slack__init_ T F_is_integer X_BadSlack F_common _ cdv A outer s H E hr tk) h_Slack__init_, b, rv, fun dr F => .cons (.int _) (.nil), g_Slack⟩
  have CM_Slack_read : CMethF P wd K mg base "Slack" "read" 1 5 ["text"] (List.range (1 + 1)) C_Slack_read := by
    obtain ⟨mc, cr, cm⟩ := cmX_ok xc_Slack_read
    exact ⟨⟨_, _, fd_Slack_read, ["cls", "text"], mc, fn_clsX D_Slack_read sc_Slack_read rfl (by decide) (fun cdv A outer s H E hr tk => b_Slack_read T F_number_in X_BadSlack M_Slack_0 M_Slack_1 _ cdv A outer s H E hr tk) h_Slack_read, FunD.bindsN D_Slack_read (fun _ _ _ _ _ _ us hl => match us, hl with | [_, _], _ => rfl), kbn_mk 1 (List.range (1 + 1)) D_Slack_read (fun kV doc pmm an cdv ct us ws h1 h2 => match us, ws, h1, h2 with | [_], [_], _, _ => rfl), cr, cm, g_Slack⟩⟩
  have F_L_texts : Fn P wd K mg base "_law_texts" ["_law_draw", "_law_above", "_law_below"] 3 1 C_L_texts := ⟨fd_L_texts, fn_up D_L_texts sc_L_texts rfl (fun cdv A outer s H E hr => b_L_texts T  _ cdv A outer s H E hr) (st_m h_L_texts), FunD.bindsN D_L_texts (fun _ _ _ _ _ _ us hl => match us, hl with | [_, _, _], _ => rfl), D_L_texts.kp, g_L_texts⟩
  have O_Slack_eq : OwnOp P wd K mg base "Slack" "__eq__" 1 C_Slack_eqv := ⟨⟨_, fd_Slack__eq_, ["self", "other"], fn_up D_Slack__eq_ sc_Slack__eq_ rfl (fun cdv A outer s H E hr => b_Slack__eq_ T  _ cdv A outer s H E hr) (st_m h_Slack__eq_), (He.meth_ok (c.fact 34 (f := .meth "Slack" "__eq__") rfl)).at_, (He.meth_ok (c.fact 34 (f := .meth "Slack" "__eq__") rfl)).fn, FunD.bindsN D_Slack__eq_ (fun _ _ _ _ _ _ us hl => match us, hl with | [_, _], _ => rfl)⟩⟩
  have F_L_read_right : FnG P wd K mg base "_law_read_right" ["_law_draw", "_law_above", "_law_below"] 3 9 C_L_read_right := ⟨fd_L_read_right, okC (pp := ("_law_read_right", none)) D_L_read_right sc_L_read_right (fun _ _ _ _ h => spU_len h) (fun A outer s H vs Q E hg hr h => ⟨_, (b_L_read_right T F_L_common SF_Slack M_Slack_0 S_said hD_said hlx CM_Slack_read F_L_pick F_L_texts O_Slack_eq M_Slack_1 TB_L_read_right A outer s H E hr).nox, body_up h (st_m h_L_read_right)⟩), FunD.bindsN D_L_read_right (fun _ _ _ _ _ _ us hl => match us, hl with | [_, _, _], _ => rfl), D_L_read_right.kp, g_L_read_right⟩
  have O_Slack_lt : OwnOp P wd K mg base "Slack" "__lt__" 1 C_Slack_lt := ⟨⟨_, fd_Slack__lt_, ["self", "other"], fn_up D_Slack__lt_ sc_Slack__lt_ rfl (fun cdv A outer s H E hr => b_Slack__lt_ T  _ cdv A outer s H E hr) (st_m h_Slack__lt_), (He.meth_ok (c.fact 38 (f := .meth "Slack" "__lt__") rfl)).at_, (He.meth_ok (c.fact 38 (f := .meth "Slack" "__lt__") rfl)).fn, FunD.bindsN D_Slack__lt_ (fun _ _ _ _ _ _ us hl => match us, hl with | [_, _], _ => rfl)⟩⟩
  have O_Slack_le : OwnOp P wd K mg base "Slack" "__le__" 1 C_Slack_le := ⟨⟨_, fd_Slack__le_, ["self", "other"], fn_up D_Slack__le_ sc_Slack__le_ rfl (fun cdv A outer s H E hr => b_Slack__le_ T  _ cdv A outer s H E hr) (st_m h_Slack__le_), (He.meth_ok (c.fact 37 (f := .meth "Slack" "__le__") rfl)).at_, (He.meth_ok (c.fact 37 (f := .meth "Slack" "__le__") rfl)).fn, FunD.bindsN D_Slack__le_ (fun _ _ _ _ _ _ us hl => match us, hl with | [_, _], _ => rfl)⟩⟩
  have O_Slack_gt : OwnOp P wd K mg base "Slack" "__gt__" 1 C_Slack_gt := ⟨⟨_, fd_Slack__gt_, ["self", "other"], fn_up D_Slack__gt_ sc_Slack__gt_ rfl (fun cdv A outer s H E hr => b_Slack__gt_ T  _ cdv A outer s H E hr) (st_m h_Slack__gt_), (He.meth_ok (c.fact 36 (f := .meth "Slack" "__gt__") rfl)).at_, (He.meth_ok (c.fact 36 (f := .meth "Slack" "__gt__") rfl)).fn, FunD.bindsN D_Slack__gt_ (fun _ _ _ _ _ _ us hl => match us, hl with | [_, _], _ => rfl)⟩⟩
  have O_Slack_ge : OwnOp P wd K mg base "Slack" "__ge__" 1 C_Slack_ge := ⟨⟨_, fd_Slack__ge_, ["self", "other"], fn_up D_Slack__ge_ sc_Slack__ge_ rfl (fun cdv A outer s H E hr => b_Slack__ge_ T  _ cdv A outer s H E hr) (st_m h_Slack__ge_), (He.meth_ok (c.fact 35 (f := .meth "Slack" "__ge__") rfl)).at_, (He.meth_ok (c.fact 35 (f := .meth "Slack" "__ge__") rfl)).fn, FunD.bindsN D_Slack__ge_ (fun _ _ _ _ _ _ us hl => match us, hl with | [_, _], _ => rfl)⟩⟩
  have OF_Slack_add : OwnF P wd K mg base "Slack" "add" 5 C_Slack_add := ⟨⟨_, fd_Slack__add_, ["self", "other"], fn_upX D_Slack__add_ sc_Slack__add_ rfl (fun cdv A outer s H E hr tk => b_Slack__add_ T M_Slack_0 _ cdv A outer s H E hr tk) (st_m h_Slack__add_), FunD.bindsN D_Slack__add_ (fun _ _ _ _ _ _ us hl => match us, hl with | [_, _], _ => rfl), (opX_ok ox_Slack).add⟩⟩
  have X_BadNumber : ExM P wd K mg base "BadNumber" ["self", "given"] ["given"] 1 := exM_of (excX_ok xx_BadNumber) m_BadNumber (FunD.ok D_BadNumber__init_ sc_BadNumber__init_ (fun _ _ _ _ h => spX_len h) (fun cdv A outer s H vs Q E hr h => ⟨_, b_BadNumber__init_ (famX_ok xf_SheetError) m_SheetError _ cdv A outer s H E, pure_X1 vs H Q h⟩)) (FunD.bindsN D_BadNumber__init_ (fun _ _ _ _ _ _ us hl => match us, hl with | [_, _], _ => rfl))
  have F_need_whole : FnX P wd K mg base "need_whole" ["number"] 1 3 C_need_whole := ⟨fd_need_whole, fn_upX D_need_whole sc_need_whole rfl (fun cdv A outer s H E hr tk => b_need_whole T X_BadNumber _ cdv A outer s H E hr tk) (st_m h_need_whole), FunD.bindsN D_need_whole (fun _ _ _ _ _ _ us hl => match us, hl with | [_], _ => rfl), D_need_whole.kp, g_need_whole⟩
  have OF_Slack_mul : MulF P wd K mg base "Slack" 5 C_Slack_mul := ⟨⟨_, _, fd_Slack__mul_, ["self", "other"], fn_upX D_Slack__mul_ sc_Slack__mul_ rfl (fun cdv A outer s H E hr tk => b_Slack__mul_ T F_is_integer F_need_whole M_Slack_0 _ cdv A outer s H E hr tk) (st_m h_Slack__mul_), FunD.bindsN D_Slack__mul_ (fun _ _ _ _ _ _ us hl => match us, hl with | [_, _], _ => rfl), (opX_ok ox_Slack).mul⟩⟩
  have OF_Slack_rmul : RMulF P wd K mg base "Slack" 5 C_Slack_rmul := ⟨⟨_, _, fd_Slack__rmul_, ["self", "other"], fn_upX D_Slack__rmul_ sc_Slack__rmul_ rfl (fun cdv A outer s H E hr tk => b_Slack__rmul_ T F_is_integer F_need_whole M_Slack_0 _ cdv A outer s H E hr tk) (st_m h_Slack__rmul_), FunD.bindsN D_Slack__rmul_ (fun _ _ _ _ _ _ us hl => match us, hl with | [_, _], _ => rfl), (opX_ok ox_Slack).mul⟩⟩
  have F_L_order_right : FnG P wd K mg base "_law_order_right" ["_law_above", "_law_below", "_law_far", "_law_low"] 4 9 C_L_order_right := ⟨fd_L_order_right, okC (pp := ("_law_order_right", none)) D_L_order_right sc_L_order_right (fun _ _ _ _ h => spU_len h) (fun A outer s H vs Q E hg hr h => ⟨_, (b_L_order_right T M_Slack_0 O_Slack_lt O_Slack_le O_Slack_gt O_Slack_ge O_Slack_eq OF_Slack_add SF_Slack S_said hD_said hlx OF_Slack_mul OF_Slack_rmul M_Slack_1 TB_L_order_right A outer s H E hr).nox, body_up h (st_m h_L_order_right)⟩), FunD.bindsN D_L_order_right (fun _ _ _ _ _ _ us hl => match us, hl with | [_, _, _, _], _ => rfl), D_L_order_right.kp, g_L_order_right⟩
  exact okC (pp := ("law", none)) D_law sc_law (fun _ _ _ _ h => spLaw_len h) (fun A outer s H vs Q E hg hr h => ⟨_, (b_law T F_L_begin F_L_number F_L_common S_said hD_said hlx MK_Slack_den_num F_L_read_right F_L_order_right F_L_pick M_Slack_0 TB_law A outer s H E hg hr).nox, law_pure (by decide) vs H Q h h_law⟩)
end DL
open PySem PySem.W PySem.Calls PyProof.Rows
theorem PySem.Challenge.cw_sharedborders_k02_slacks_holds : PySem.Challenge.rw_sharedborders_k02_slacks.Holds := by
  w_on; o_law
  refine HandSHeadRun.head_any (r := OpenLaw.row PySem.Challenge.rw_sharedborders_k02_slacks) (q := view (OpenLaw.row PySem.Challenge.rw_sharedborders_k02_slacks).prog [25]) (H := DL.hkL) (ob := DL.obL) (M := 6000) (loose := DL.looseL) (d := HandSHeadRun.topDef (OpenLaw.row PySem.Challenge.rw_sharedborders_k02_slacks).prog 25) (kwd := []) DL.ob_eqL
    (by kernel_rfl) (fun s => by kernel_rfl) DL.runL (by kernel_rfl) (by kernel_rfl) (by kernel_rfl) (by rfl) (by first | assumption | decide +kernel) (by decide +kernel) ⟨rfl, rfl, rfl, rfl, rfl, by decide +kernel⟩ ?hw ?hc
  case hw => w_witness2
  case hc =>
    refine DL.walk_ofGT (l := PySem.Challenge.rw_sharedborders_k02_slacks) (n := 63) (k := 10) (x := "_law_script") rfl (by decide) (by kernel_rfl) ⟨rfl, by decide, by decide⟩ ?F
    intro w mg fa h Y G hmg0
    obtain ⟨K, KX, c⟩ := Y
    have hmg : mg ("law" : PySem.Str) = some (.ref fa) := by
      have e : (HandSHeadRun.topDef (OpenLaw.row PySem.Challenge.rw_sharedborders_k02_slacks).prog 25).name = ("law" : PySem.Str) := by kernel_rfl
      rw [← e]
      exact hmg0
    obtain ⟨fd, hb, hF⟩ := DL.factsL (P := (PySem.Challenge.rw_sharedborders_k02_slacks).prog) (wd := w) KX G hmg c.y.d c.y.more c.a
    have tm : ∀ p, p ∈ (DL.lamDefs.map fun q => He.cT K (q, none)) → ∃ d, d ∈ (DL.lamDefs.map fun q => ((q, none) : Str × Option Str)) ∧ p = He.cT K d := fun p hp => by
      obtain ⟨q, hq, rfl⟩ := List.mem_map.1 hp
      exact ⟨_, List.mem_map.2 ⟨q, hq, rfl⟩, rfl⟩
    refine ⟨K, fd, DL.lamDefs.map fun q => He.cT K (q, none), DL.spLaw K, KX, fun p hp => ?_, fun p hp => ?_, fun p hp => ?_, hb, fun H a ns hl hH hS => ⟨a, ns, rfl, hS, hl, DL.tabs_start hH, fun _ => rfl⟩, hF⟩
    · obtain ⟨d, hd, rfl⟩ := tm p hp
      exact c.y.empty d hd
    · obtain ⟨d, hd, rfl⟩ := tm p hp
      exact c.y.out d hd
    · obtain ⟨d, hd, rfl⟩ := tm p hp
      exact PySem.W.codeHd_of_K KX (c.y.hd d hd)
