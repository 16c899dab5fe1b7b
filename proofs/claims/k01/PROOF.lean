import PyProof.Rows.All
import Wide.All
import OpenK.AllK
import Wide.FinOn
import HandS.HeadHook4
import HandS.Lambda
import HandS.ForMost
import HandS.ForExc
import HandS.Defaults
import HandS.TupAny
import HandS.Wide
import HandS.HeadHook1
import HandS.HeadHook2
import HandS.DictTup
import KE.KDictKeyed
import HandS.ExcIs
import HandS.ExcValue
import KE.KTryMore
import HandS.Deep
import HandS.TupLe
import HandS.Zip
import HandS.RevRange
import HandS.More
import HandS.Property
import HandS.Style
import KE.KRevSl
import HandS.MakeKw
import PyProof.InstNe
import HandS.IsInst
import HandS.Head0
import HandS.Head1
import HandS.Head2
import HandS.HeadEnd
import PyProof.ReprRoads
import HandS.ExcInit
import HandS.TryMany
import KE.KExcIs
import HandS.EndTab
import KE.KExcInit
import HandS.FStr
import HandS.Text
import PyProof.StrOps2
import OpenK.KMeth
import PyProof.ListMulRight
import HandS.GenList
import HandS.DictComp
import HandS.HeadNt
import HandS.OwnEq
import HandS.Conv
import KE.KCallOwn
import HandS.ClsMeth
import HandS.Star
import HandS.MakeKwOnly
import KE.LtData
import HandS.TupSets
import KE.GoesMore
import HandS.Small
import HandS.TryOnly
import HandS.DictEq
import HandS.Exc
import PySem.Challenge.RW_sharedborders_k01_errors_made
set_option Elab.async false
set_option linter.all false
set_option maxRecDepth 100000
namespace DL
open PySem PySem.Spec PyProof.Rows L2
/-- the law's defs that make lambdas -/
def lamDefs : List Str := []
/-- the tables of their code objects -/
def TK (K : PySem.W.Frag) : List (Addr × Str) := lamDefs.map fun q => ((He.cT K (q, none)).2, q ++ ".<locals>." ++ "<lambda>")
end DL
set_option maxHeartbeats 2000000
namespace DL
open PySem PySem.Spec PyProof.Rows L2

/-! ### data -/
inductive D where
  | non | bl (b : Bool) | int (i : Int) | str (x : Str)
  | tup (xs : List D) | lst (xs : List D)
  | ins (c : Str) (ns : List Str) (fs : List D)
  | drw
  | dct (ks : List (List L2.Key)) (ds : List D)
  | dks (ks : List Str) (ds : List D)
  | dkn (ks : List NestedKey) (ds : List D)
  | exc (c : Str) (ns : List Str) (ds : List D)
/-- an owned thing with inner objects of its own, at fp; r tells it: the text's classes, the draws, the frozen part, the heap, where it lies -/
structure Og where
  fp : List Addr
  r : PySem.W.Frag → Addr → Hp → Hp → Addr → Prop
/-- a slot of a def: unset, a frozen datum, an owned list -/
inductive Sl where
  | un | dt (d : D) | ow (xs : List D) | ob (p : Addr) (c : Str) (ns : List Str) (fs : List D) | cl (c : Str) | od (ks : List NestedKey) (ds : List D) | og (G : Og)
/-- a slot that owns its object (a list, an instance under way) -/
def Sl.isOw : Sl → Bool
  | .ow _ => true
  | .ob _ _ _ _ => true
  | .od _ _ => true
  | .og _ => true
  | _ => false
/-- its inner objects -/
def Sl.inn : Sl → List Addr
  | .og G => G.fp
  | _ => []

/-- a dict as it lies -/
def Nd (a : Addr) (es : Array DictEntry) (ep : Nat) : HO := .ext fun h => DT.Raw h a es ep
mutual
/-- a key of nested tuples of ints, in frozen tuples -/
inductive KeyF (F : Hp) : NestedKey → V → Prop
  | num (i : Int) : KeyF F (.num i) (.int i)
  | tup {a : Addr} {vs : List V} {ks : List NestedKey} : F a = some (.tup vs) → KeyFL F ks vs → KeyF F (.tup ks) (.ref a)
inductive KeyFL (F : Hp) : List NestedKey → List V → Prop
  | nil : KeyFL F [] []
  | cons {k : NestedKey} {ks : List NestedKey} {v : V} {vs : List V} : KeyF F k v → KeyFL F ks vs → KeyFL F (k :: ks) (v :: vs)
end
section
variable {F F' : Hp}
mutual
theorem KeyF.mono (h : ∀ a o, F a = some o → F' a = some o) : ∀ (k : NestedKey) (v : V), KeyF F k v → KeyF F' k v
  | .num i, _, q => by cases q; exact .num i
  | .none, _, q => by cases q
  | .text _, _, q => by cases q
  | .tup ks, _, q => by
    cases q with
    | tup e r => exact .tup (h _ _ e) (KeyFL.mono h ks _ r)
theorem KeyFL.mono (h : ∀ a o, F a = some o → F' a = some o) : ∀ (ks : List NestedKey) (vs : List V), KeyFL F ks vs → KeyFL F' ks vs
  | [], _, q => by cases q; exact .nil
  | k :: ks, _, q => by
    cases q with
    | cons r t => exact .cons (KeyF.mono h k _ r) (KeyFL.mono h ks _ t)
end
end
/-- an entry of a dict: its key, its value -/
structure En (F : Hp) (e : DictEntry) (k : NestedKey) (v : V) : Prop where
  hash : ∀ w, e.hash = NestedKey.hash w k
  key : ∃ b, e.key = .ref b ∧ KeyF F k (.ref b)
  dep : k.depth ≤ 8
  val : RelV v e.val
inductive EnL (F : Hp) : List DictEntry → List NestedKey → List V → Prop
  | nil : EnL F [] [] []
  | cons {e : DictEntry} {k : NestedKey} {v : V} {es : List DictEntry} {ks : List NestedKey} {vs : List V} : En F e k v → EnL F es ks vs → EnL F (e :: es) (k :: ks) (v :: vs)
theorem En.mono {F F' : Hp} {e : DictEntry} {k : NestedKey} {v : V} (h : ∀ a o, F a = some o → F' a = some o) (q : En F e k v) : En F' e k v := by
  obtain ⟨b, e1, e2⟩ := q.key
  exact ⟨q.hash, ⟨b, e1, KeyF.mono h _ _ e2⟩, q.dep, q.val⟩
theorem EnL.mono {F F' : Hp} (h : ∀ a o, F a = some o → F' a = some o) : ∀ {es : List DictEntry} {ks : List NestedKey} {vs : List V}, EnL F es ks vs → EnL F' es ks vs
  | _, _, _, .nil => .nil
  | _, _, _, .cons a t => .cons (a.mono h) (EnL.mono h t)
/-- at a: an exception of the class cls with the dict d, behind its catch -/
def ExV (a : Addr) (cls : Value) (d : Option Addr) : HO := .ext fun h => ∃ (oe : Obj) (vs : Array Value), h.get? a = some oe ∧ Zc cls d oe ∧ oe.data = .fields vs
mutual
inductive Rp (K : PySem.W.Frag) (dr : Addr) (F : Hp) : V → D → Prop
  | non : Rp K dr F .non .non
  | bl (b : Bool) : Rp K dr F (.bl b) (.bl b)
  | int (i : Int) : Rp K dr F (.int i) (.int i)
  | str (x : Str) : Rp K dr F (.str x) (.str x)
  | tup {a : Addr} {vs : List V} {ds : List D} : F a = some (.tup vs) → RpL K dr F vs ds → Rp K dr F (.ref a) (.tup ds)
  | lst {a : Addr} {vs : List V} {ds : List D} : F a = some (.lst vs) → RpL K dr F vs ds → Rp K dr F (.ref a) (.lst ds)
  | ins {a dx : Addr} {c : Str} {ns : List Str} {vs : List V} {ds : List D} : F a = some (.ins (He.ga K c) dx (ns.zip vs)) → ns.length = vs.length → RpL K dr F vs ds → Rp K dr F (.ref a) (.ins c ns ds)
  | drw : Rp K dr F (.ref dr) .drw
  | dct {a : Addr} {ks : List (List L2.Key)} {vs : List V} {ds : List D} : F a = some (.dT (ks.zip vs)) → ks.length = vs.length → RpL K dr F vs ds → Rp K dr F (.ref a) (.dct ks ds)
  | dks {a : Addr} {o : Obj} {ks : List Str} {vs : List V} {ds : List D} : F a = some (.frz o (.dK ((ks.map fun x => (Sum.inr x : L2.Key)).zip vs))) → ks.length = vs.length → RpL K dr F vs ds → Rp K dr F (.ref a) (.dks ks ds)
  | dkn {a : Addr} {es : Array DictEntry} {ep : Nat} {ks : List NestedKey} {vs : List V} {ds : List D} : F a = some (Nd a es ep) → EnL F es.toList ks vs → ks.Nodup → (a == sysModules) = false → es.size ≤ sizeLine → RpL K dr F vs ds → Rp K dr F (.ref a) (.dkn ks ds)
  | exc {a dd : Addr} {c : Str} {ns : List Str} {vs : List V} {ds : List D} : F a = some (ExV a (.ref (He.ga K c)) (some dd)) → F dd = some (.xd (ns.zip vs)) → ns.length = vs.length → RpL K dr F vs ds → Rp K dr F (.ref a) (.exc c ns ds)
inductive RpL (K : PySem.W.Frag) (dr : Addr) (F : Hp) : List V → List D → Prop
  | nil : RpL K dr F [] []
  | cons {v : V} {vs : List V} {d : D} {ds : List D} : Rp K dr F v d → RpL K dr F vs ds → RpL K dr F (v :: vs) (d :: ds)
end

section
variable {K : PySem.W.Frag} {dr : Addr} {F F' : Hp}
mutual
theorem Rp.mono (h : ∀ a o, F a = some o → F' a = some o) : ∀ (d : D) (v : V), Rp K dr F v d → Rp K dr F' v d
  | .non, _, q => by cases q; exact .non
  | .bl b, _, q => by cases q; exact .bl b
  | .int i, _, q => by cases q; exact .int i
  | .str x, _, q => by cases q; exact .str x
  | .tup ds, _, q => by
    cases q with
    | tup e r => exact .tup (h _ _ e) (RpL.mono h ds _ r)
  | .lst ds, _, q => by
    cases q with
    | lst e r => exact .lst (h _ _ e) (RpL.mono h ds _ r)
  | .ins c ns ds, _, q => by
    cases q with
    | ins e l r => exact .ins (h _ _ e) l (RpL.mono h ds _ r)
  | .drw, _, q => by cases q; exact .drw
  | .dct ks ds, _, q => by
    cases q with
    | dct e l r => exact .dct (h _ _ e) l (RpL.mono h ds _ r)
  | .dks ks ds, _, q => by
    cases q with
    | dks e l r => exact .dks (h _ _ e) l (RpL.mono h ds _ r)
  | .dkn ks ds, _, q => by
    cases q with
    | dkn e l n s z r => exact .dkn (h _ _ e) (l.mono h) n s z (RpL.mono h ds _ r)
  | .exc c ns ds, _, q => by
    cases q with
    | exc e f l r => exact .exc (h _ _ e) (h _ _ f) l (RpL.mono h ds _ r)
theorem RpL.mono (h : ∀ a o, F a = some o → F' a = some o) : ∀ (ds : List D) (vs : List V), RpL K dr F vs ds → RpL K dr F' vs ds
  | [], _, q => by cases q; exact .nil
  | d :: ds, _, q => by
    cases q with
    | cons r t => exact .cons (Rp.mono h d _ r) (RpL.mono h ds _ t)
end
theorem RpL.length : ∀ {vs : List V} {ds : List D}, RpL K dr F vs ds → vs.length = ds.length
  | _, [], q => by cases q; rfl
  | _, d :: ds, q => by
    cases q with
    | cons r t => exact congrArg Nat.succ (RpL.length t)
theorem RpL.get : ∀ {vs : List V} {ds : List D} {i : Nat} {d : D}, RpL K dr F vs ds → ds[i]? = some d → ∃ v, vs[i]? = some v ∧ Rp K dr F v d
  | _, [], i, d, q, e => by simp at e
  | _, d' :: ds, 0, d, q, e => by
    cases q with
    | cons r t =>
      simp at e
      subst e
      exact ⟨_, rfl, r⟩
  | _, d' :: ds, i + 1, d, q, e => by
    cases q with
    | cons r t =>
      obtain ⟨v, h1, h2⟩ := RpL.get (i := i) (d := d) t (by simpa using e)
      exact ⟨v, by simpa using h1, h2⟩
theorem RpL.append : ∀ {vs us : List V} {ds es : List D}, RpL K dr F vs ds → RpL K dr F us es → RpL K dr F (vs ++ us) (ds ++ es)
  | _, _, [], _, q, s => by cases q; exact s
  | _, _, d :: ds, _, q, s => by
    cases q with
    | cons r t => exact .cons r (RpL.append t s)
theorem RpL.drop : ∀ {vs : List V} {ds : List D} (n : Nat), RpL K dr F vs ds → RpL K dr F (vs.drop n) (ds.drop n)
  | _, _, 0, q => q
  | _, [], n + 1, q => by cases q; exact .nil
  | _, d :: ds, n + 1, q => by
    cases q with
    | cons r t => exact RpL.drop n t
theorem RpL.take : ∀ {vs : List V} {ds : List D} (n : Nat), RpL K dr F vs ds → RpL K dr F (vs.take n) (ds.take n)
  | _, _, 0, q => .nil
  | _, [], n + 1, q => by cases q; exact .nil
  | _, d :: ds, n + 1, q => by
    cases q with
    | cons r t => exact .cons r (RpL.take n t)
theorem RpL.set {v : V} {d : D} (r : Rp K dr F v d) : ∀ {vs : List V} {ds : List D} (n : Nat), RpL K dr F vs ds → RpL K dr F (vs.set n v) (ds.set n d)
  | _, [], n, q => by cases q; exact .nil
  | _, d' :: ds, 0, q => by
    cases q with
    | cons _ t => exact .cons r t
  | _, d' :: ds, n + 1, q => by
    cases q with
    | cons r' t => exact .cons r' (RpL.set r n t)
theorem RpL.rev : ∀ {vs : List V} {ds : List D}, RpL K dr F vs ds → RpL K dr F vs.reverse ds.reverse
  | _, [], q => by cases q; exact .nil
  | _, d :: ds, q => by
    cases q with
    | cons r t =>
      rw [List.reverse_cons, List.reverse_cons]
      exact RpL.append (RpL.rev t) (.cons r .nil)
theorem RpL.ints : ∀ {vs : List V} {ns : List Int}, RpL K dr F vs (ns.map D.int) → vs = ns.map V.int
  | _, [], q => by cases q; rfl
  | _, n :: ns, q => by
    cases q with
    | cons r t =>
      cases r
      rw [RpL.ints t]
      rfl
theorem RpL.ofInts (dr : Addr) (F : Hp) : ∀ (ns : List Int), RpL K dr F (ns.map V.int) (ns.map D.int)
  | [] => .nil
  | n :: ns => .cons (.int n) (RpL.ofInts dr F ns)
end

/-! ### the state -/
/-- the law's draws: calls left n -/
def Drw (n : Nat) (F : Hp) (o : Option HO) : Prop := ∃ (ca : Addr) (cells : List Int) (a l u : Int), o = some (.dK [(.inr "cells", .ref ca), (.inr "at", .int a), (.inr "left", .int l), (.inr "used", .int u)]) ∧
  F ca = some (.lst (cells.map V.int)) ∧ cells ≠ [] ∧ cells.length ≤ 64 ∧ 0 ≤ a ∧ 0 ≤ u ∧ a + n ≤ 2 ^ 40 ∧ u + n ≤ 2 ^ 40
structure Cf where
  dr : Addr
  F : Hp
  H : Hp
  n : Nat
  T : List (Addr × Str)
structure Cf.Ok (c : Cf) : Prop where
  sub : ∀ a o, c.F a = some o → c.H a = some o
  nf : c.F c.dr = none
  dw : Drw c.n c.F (c.H c.dr)
  tb : LamX.Tabs c.T c.H
  nt : ∀ a ps, c.F a ≠ some (.tbl ps)
/-- nothing is at a, or a table of code objects -/
def No (c : Cf) (a : Addr) : Prop := ∀ o, c.H a = some o → ∃ ps, o = .tbl ps
theorem No.of {c : Cf} {a : Addr} (h : c.H a = none) : No c a := fun o e => by
  rw [h] at e
  cases e
theorem No.ne {c : Cf} {a : Addr} {o : HO} (h : No c a) (hz : ∀ ps, o ≠ .tbl ps) (e : c.H a = some o) : False := by
  obtain ⟨ps, z⟩ := h o e
  exact hz ps z
structure LeO (ow : Addr → Prop) (c c' : Cf) : Prop where
  dr : c'.dr = c.dr
  f : ∀ a o, c.F a = some o → c'.F a = some o
  h : ∀ a o, a ≠ c.dr → ¬ ow a → (∀ ps, o ≠ .tbl ps) → c.H a = some o → c'.H a = some o
  fr : ∀ a o, a ≠ c.dr → ¬ ow a → (∀ ps, o ≠ .tbl ps) → c.F a = none → c.H a = some o → c'.F a = none
  hd : ∀ a o, (∀ ps, o ≠ .tbl ps) → c.H a = some o → ∃ o', (∀ ps, o' ≠ .tbl ps) ∧ c'.H a = some o'
  T : c'.T = c.T
abbrev Le (c c' : Cf) : Prop := LeO (fun _ => False) c c'
theorem LeO.refl {ow : Addr → Prop} {c : Cf} : LeO ow c c := ⟨rfl, fun _ _ h => h, fun _ _ _ _ _ h => h, fun _ _ _ _ _ h _ => h, fun _ o hz h => ⟨o, hz, h⟩, rfl⟩
theorem No.back {ow : Addr → Prop} {c c1 : Cf} {a : Addr} (l : LeO ow c c1) (h : No c1 a) : No c a := fun o e => Classical.byContradiction fun n => by
  obtain ⟨o', hz, e'⟩ := l.hd a o (fun ps z => n ⟨ps, z⟩) e
  exact h.ne hz e'
theorem LeO.trans {ow ow1 : Addr → Prop} {c c1 c2 : Cf} (a : LeO ow c c1) (b : LeO ow1 c1 c2) (hs : ∀ x, ow1 x → ow x ∨ No c x) : LeO ow c c2 := by
  have no : ∀ x o, ¬ ow x → (∀ ps, o ≠ .tbl ps) → c.H x = some o → ¬ ow1 x := fun x o h1 hz h2 h3 => by
    rcases hs x h3 with z | z
    · exact h1 z
    · exact z.ne hz h2
  refine ⟨b.dr.trans a.dr, fun x o h => b.f x o (a.f x o h), fun x o h1 h2 h3 h4 => ?_, fun x o h1 h2 hz h3 h4 => ?_, fun x o hz h => ?_, b.T.trans a.T⟩
  · exact b.h x o (by rw [a.dr]; exact h1) (no x o h2 h3 h4) h3 (a.h x o h1 h2 h3 h4)
  · exact b.fr x o (by rw [a.dr]; exact h1) (no x o h2 hz h4) hz (a.fr x o h1 h2 hz h3 h4) (a.h x o h1 h2 hz h4)
  · obtain ⟨o', hz', h5⟩ := a.hd x o hz h
    exact b.hd x o' hz' h5
theorem Le.trans {c c1 c2 : Cf} (a : Le c c1) (b : Le c1 c2) : Le c c2 := LeO.trans a b fun _ h => h.elim
theorem LeO.of {ow : Addr → Prop} {c c1 : Cf} (a : Le c c1) : LeO ow c c1 := ⟨a.dr, a.f, fun x o h1 _ h3 => a.h x o h1 (fun z => z) h3, fun x o h1 _ h3 h4 => a.fr x o h1 (fun z => z) h3 h4, a.hd, a.T⟩
theorem LeO.thn {ow : Addr → Prop} {c c1 c2 : Cf} (a : LeO ow c c1) (b : Le c1 c2) : LeO ow c c2 := LeO.trans a b fun _ h => h.elim
theorem Le.thnO {ow : Addr → Prop} {c c1 c2 : Cf} (a : Le c c1) (b : LeO ow c1 c2) : LeO ow c c2 := LeO.trans (LeO.of a) b fun _ h => .inl h

abbrev RP (K : PySem.W.Frag) (c : Cf) (v : V) (d : D) : Prop := Rp K c.dr c.F v d
abbrev RPL (K : PySem.W.Frag) (c : Cf) (vs : List V) (ds : List D) : Prop := RpL K c.dr c.F vs ds
section
variable {K : PySem.W.Frag} {ow : Addr → Prop} {c c' : Cf}
theorem LeO.rp {v : V} {d : D} (l : LeO ow c c') (h : RP K c v d) : RP K c' v d := by
  have e := Rp.mono (K := K) (dr := c.dr) l.f d v h
  show Rp K c'.dr c'.F v d
  rw [l.dr]
  exact e
theorem LeO.rpl {vs : List V} {ds : List D} (l : LeO ow c c') (h : RPL K c vs ds) : RPL K c' vs ds := by
  have e := RpL.mono (K := K) (dr := c.dr) l.f ds vs h
  show RpL K c'.dr c'.F vs ds
  rw [l.dr]
  exact e
end
/-- an object that is a dict with these keys and data -/
def NdR (K : PySem.W.Frag) (dr : Addr) (F : Hp) (p : Addr) (o : HO) (ks : List NestedKey) (ds : List D) : Prop := ∃ es ep vs, o = Nd p es ep ∧ EnL F es.toList ks vs ∧ ks.Nodup ∧ (p == sysModules) = false ∧ es.size ≤ sizeLine ∧ RpL K dr F vs ds
theorem NdR.mono {K : PySem.W.Frag} {dr : Addr} {F F' : Hp} {p : Addr} {o : HO} {ks : List NestedKey} {ds : List D} (h : ∀ a o, F a = some o → F' a = some o) (q : NdR K dr F p o ks ds) : NdR K dr F' p o ks ds := by
  obtain ⟨es, ep, vs, e, l, n, s, z, r⟩ := q
  exact ⟨es, ep, vs, e, l.mono h, n, s, z, RpL.mono h _ _ r⟩
theorem NdR.nt {K : PySem.W.Frag} {dr : Addr} {F : Hp} {p : Addr} {o : HO} {ks : List NestedKey} {ds : List D} (q : NdR K dr F p o ks ds) : ∀ ps, o ≠ .tbl ps := by
  obtain ⟨es, ep, vs, e, _⟩ := q
  subst e
  intro ps z
  cases z
/-- readable now: frozen, or an owned list, an owned dict -/
inductive RB (K : PySem.W.Frag) (c : Cf) (v : V) (d : D) : Prop
  | fz (h : RP K c v d)
  | ow {p : Addr} {vs : List V} {xs : List D} (ev : v = .ref p) (ed : d = .lst xs) (h : c.H p = some (.lst vs)) (hf : c.F p = none) (hd : p ≠ c.dr) (r : RPL K c vs xs)
  | od {p : Addr} {o : HO} {ks : List NestedKey} {ds : List D} (ev : v = .ref p) (ed : d = .dkn ks ds) (h : c.H p = some o) (hf : c.F p = none) (hd : p ≠ c.dr) (r : NdR K c.dr c.F p o ks ds)
theorem RB.le {K : PySem.W.Frag} {c c' : Cf} {v : V} {d : D} (l : Le c c') (h : RB K c v d) : RB K c' v d := by
  cases h with
  | fz h => exact .fz (l.rp h)
  | ow ev ed h hf hd r => exact .ow ev ed (l.h _ _ hd (fun z => z) nofun h) (l.fr _ _ hd (fun z => z) (by intro _ z; cases z) hf h) (by rw [l.dr]; exact hd) (l.rpl r)
  | od ev ed h hf hd r => exact .od ev ed (l.h _ _ hd (fun z => z) r.nt h) (l.fr _ _ hd (fun z => z) r.nt hf h) (by rw [l.dr]; exact hd) (by rw [l.dr]; exact r.mono l.f)

/-! ### slots -/
def SlOk (K : PySem.W.Frag) (c : Cf) (o : Option V) : Sl → Prop
  | .un => True
  | .cl cn => o = some (.ref (He.ga K cn))
  | .dt d => ∃ v, o = some v ∧ RP K c v d
  | .ow xs => ∃ p vs, o = some (.ref p) ∧ c.H p = some (.lst vs) ∧ c.F p = none ∧ p ≠ c.dr ∧ RPL K c vs xs
  | .ob p cn ns fs => ∃ dx vs, o = some (.ref p) ∧ c.H p = some (.ins (He.ga K cn) dx (ns.zip vs)) ∧ c.F p = none ∧ p ≠ c.dr ∧ ns.length = vs.length ∧ RPL K c vs fs
  | .od ks ds => ∃ p ob, o = some (.ref p) ∧ c.H p = some ob ∧ c.F p = none ∧ p ≠ c.dr ∧ NdR K c.dr c.F p ob ks ds
  | .og G => ∃ p, o = some (.ref p) ∧ (∀ a, a = p ∨ a ∈ G.fp → (∃ u, (∀ ps, u ≠ .tbl ps) ∧ c.H a = some u) ∧ c.F a = none ∧ a ≠ c.dr) ∧ ∀ F' H', (∀ a u, c.F a = some u → F' a = some u) → (∀ a, a = p ∨ a ∈ G.fp → H' a = c.H a) → G.r K c.dr F' H' p
/-- a belongs to the slot i -/
def OwA (σ : L2.St) (i : Nat) (s : Sl) (a : Addr) : Prop := σ[i]? = some (some (V.ref a)) ∨ a ∈ s.inn
def Owned (σ : L2.St) (η : List Sl) (a : Addr) : Prop := ∃ (i : Nat) (s : Sl), η[i]? = some s ∧ s.isOw = true ∧ OwA σ i s a
structure EnvOk (K : PySem.W.Frag) (c : Cf) (σ : L2.St) (η : List Sl) : Prop where
  len : σ.length = η.length
  sl : ∀ (i : Nat) s, η[i]? = some s → ∃ o, σ[i]? = some o ∧ SlOk K c o s
  inj : ∀ (i j : Nat) s t a, η[i]? = some s → η[j]? = some t → s.isOw = true → t.isOw = true → OwA σ i s a → OwA σ j t a → i = j
  T : c.T = TK K
theorem owA_set {σ : L2.St} {i j : Nat} {o : Option V} {s : Sl} {a : Addr} (h : j ≠ i) : OwA (σ.set i o) j s a = OwA σ j s a := by
  unfold OwA
  rw [List.getElem?_set_ne (Ne.symm h)]
section
variable {K : PySem.W.Frag} {c c' : Cf} {σ : L2.St} {η : List Sl}
/-- the thing stands while its own objects stand -/
theorem SlOk.og_at {o : Option V} {G : Og} (h : SlOk K c o (.og G)) (hd : c'.dr = c.dr) (hF : ∀ a u, c.F a = some u → c'.F a = some u) (hH : ∀ a u, (∃ p, o = some (V.ref p) ∧ (a = p ∨ a ∈ G.fp)) → (∀ ps, u ≠ .tbl ps) → c.H a = some u → c'.H a = some u)
    (hn : ∀ a u, (∃ p, o = some (V.ref p) ∧ (a = p ∨ a ∈ G.fp)) → (∀ ps, u ≠ .tbl ps) → c.F a = none → c.H a = some u → c'.F a = none) : SlOk K c' o (.og G) := by
  obtain ⟨p, e, h1, h2⟩ := h
  refine ⟨p, e, fun a ha => ?_, fun F' H' f g => ?_⟩
  · obtain ⟨⟨u, hu, hh⟩, hf, hr⟩ := h1 a ha
    exact ⟨⟨u, hu, hH a u ⟨p, e, ha⟩ hu hh⟩, hn a u ⟨p, e, ha⟩ hu hf hh, by rw [hd]; exact hr⟩
  · rw [hd]
    refine h2 F' H' (fun a u q => f a u (hF a u q)) fun a ha => ?_
    obtain ⟨⟨u, hu, hh⟩, _, _⟩ := h1 a ha
    rw [g a ha, hH a u ⟨p, e, ha⟩ hu hh, hh]
theorem SlOk.le {o : Option V} {s : Sl} (l : Le c c') (h : SlOk K c o s) : SlOk K c' o s := by
  cases s with
  | un => trivial
  | cl _ => exact h
  | dt d =>
    obtain ⟨v, e, r⟩ := h
    exact ⟨v, e, l.rp r⟩
  | ow xs =>
    obtain ⟨p, vs, e, h1, h2, h3, r⟩ := h
    exact ⟨p, vs, e, l.h _ _ h3 (fun z => z) nofun h1, l.fr _ _ h3 (fun z => z) (by intro _ z; cases z) h2 h1, by rw [l.dr]; exact h3, l.rpl r⟩
  | ob p cn ns fs =>
    obtain ⟨dx, vs, e, h1, h2, h3, h4, r⟩ := h
    exact ⟨dx, vs, e, l.h _ _ h3 (fun z => z) nofun h1, l.fr _ _ h3 (fun z => z) (by intro _ z; cases z) h2 h1, by rw [l.dr]; exact h3, h4, l.rpl r⟩
  | od ks ds =>
    obtain ⟨p, ob, e, h1, h2, h3, r⟩ := h
    exact ⟨p, ob, e, l.h _ _ h3 (fun z => z) r.nt h1, l.fr _ _ h3 (fun z => z) r.nt h2 h1, by rw [l.dr]; exact h3, by rw [l.dr]; exact r.mono l.f⟩
  | og G =>
    obtain ⟨p, e, h1, _⟩ := id h
    refine h.og_at l.dr l.f (fun a u ⟨p', e', ha⟩ hu hh => ?_) fun a u ⟨p', e', ha⟩ hu hf hh => ?_
    · rw [e] at e'
      cases e'
      exact l.h a u (h1 a ha).2.2 (fun z => z) hu hh
    · rw [e] at e'
      cases e'
      exact l.fr a u (h1 a ha).2.2 (fun z => z) hu hf hh
theorem EnvOk.le (l : Le c c') (e : EnvOk K c σ η) : EnvOk K c' σ η := ⟨e.len, fun i s h => by
  obtain ⟨o, e1, e2⟩ := e.sl i s h
  exact ⟨o, e1, e2.le l⟩, e.inj, l.T.trans e.T⟩
/-- what an owned slot holds is in H, not frozen -/
theorem EnvOk.owned (e : EnvOk K c σ η) {a : Addr} (h : Owned σ η a) : (∃ o, (∀ ps, o ≠ .tbl ps) ∧ c.H a = some o) ∧ c.F a = none ∧ a ≠ c.dr := by
  obtain ⟨i, s, h1, hs, h2⟩ := h
  obtain ⟨o, e1, e2⟩ := e.sl i _ h1
  cases s with
  | un => cases hs
  | cl _ => cases hs
  | dt d => cases hs
  | og G =>
    obtain ⟨p, rfl, g1, _⟩ := e2
    rcases h2 with h2 | h2
    · rw [h2] at e1
      cases e1
      exact g1 a (.inl rfl)
    · exact g1 a (.inr h2)
  | ow xs =>
    rcases h2 with h2 | h2
    · rw [h2] at e1
      cases e1
      obtain ⟨p, vs, e2, e3, e4, e5, _⟩ := e2
      cases e2
      exact ⟨⟨_, (by intro _ z; cases z), e3⟩, e4, e5⟩
    · cases h2
  | ob p cn ns fs =>
    rcases h2 with h2 | h2
    · rw [h2] at e1
      cases e1
      obtain ⟨dx, vs, e2, e3, e4, e5, _⟩ := e2
      cases e2
      exact ⟨⟨_, (by intro _ z; cases z), e3⟩, e4, e5⟩
    · cases h2
  | od ks ds =>
    rcases h2 with h2 | h2
    · rw [h2] at e1
      cases e1
      obtain ⟨p, ob, e2, e3, e4, e5, r⟩ := e2
      cases e2
      exact ⟨⟨_, r.nt, e3⟩, e4, e5⟩
    · cases h2
/-- a slot is stored by something that owns nothing -/
theorem EnvOk.put {i : Nat} {o : Option V} {s0 : Sl} (e : EnvOk K c σ η) (hn : s0.isOw = false) (r : SlOk K c o s0) : EnvOk K c (σ.set i o) (η.set i s0) := by
  have nn : ∀ (j : Nat) s, (η.set i s0)[j]? = some s → s.isOw = true → j ≠ i ∧ η[j]? = some s := fun j s h hs => by
    by_cases hj : j = i
    · subst hj
      have hl : j < η.length := by
        have := (List.getElem?_eq_some_iff.mp h).1
        simpa using this
      rw [List.getElem?_set_self hl] at h
      cases h
      rw [hn] at hs
      cases hs
    · rw [List.getElem?_set_ne (Ne.symm hj)] at h
      exact ⟨hj, h⟩
  refine ⟨by simp [e.len], fun j s h => ?_, fun j k s t a h1 h2 g1 g2 h3 h4 => ?_, e.T⟩
  · by_cases hj : j = i
    · subst hj
      have hl : j < η.length := by
        have := (List.getElem?_eq_some_iff.mp h).1
        simpa using this
      rw [List.getElem?_set_self hl] at h
      cases h
      exact ⟨o, List.getElem?_set_self (by rw [e.len]; exact hl), r⟩
    · rw [List.getElem?_set_ne (Ne.symm hj)] at h
      rw [List.getElem?_set_ne (Ne.symm hj)]
      exact e.sl j s h
  · obtain ⟨n1, q1⟩ := nn j s h1 g1
    obtain ⟨n2, q2⟩ := nn k t h2 g2
    rw [owA_set n1] at h3
    rw [owA_set n2] at h4
    exact e.inj j k s t a q1 q2 g1 g2 h3 h4
theorem owned_put {i : Nat} {o : Option V} {s0 : Sl} {a : Addr} (hn : s0.isOw = false) (h : Owned (σ.set i o) (η.set i s0) a) : Owned σ η a := by
  obtain ⟨j, s, h1, hs, h2⟩ := h
  by_cases hj : j = i
  · subst hj
    have hl : j < η.length := by
      have := (List.getElem?_eq_some_iff.mp h1).1
      simpa using this
    rw [List.getElem?_set_self hl] at h1
    cases h1
    rw [hn] at hs
    cases hs
  · rw [List.getElem?_set_ne (Ne.symm hj)] at h1
    rw [owA_set hj] at h2
    exact ⟨j, s, h1, hs, h2⟩
theorem EnvOk.set {i : Nat} {v : V} {d : D} (e : EnvOk K c σ η) (r : RP K c v d) : EnvOk K c (σ.set i (some v)) (η.set i (.dt d)) := e.put rfl ⟨v, rfl, r⟩
theorem owned_set {i : Nat} {v : V} {d : D} {a : Addr} (h : Owned (σ.set i (some v)) (η.set i (.dt d)) a) : Owned σ η a := owned_put rfl h
/-- a slot is forgotten -/
theorem EnvOk.unset {i : Nat} {o : Option V} (e : EnvOk K c σ η) : EnvOk K c (σ.set i o) (η.set i .un) := e.put rfl trivial
/-- an owned slot's list -/
theorem EnvOk.ow {i : Nat} {xs : List D} (e : EnvOk K c σ η) (h : η[i]? = some (Sl.ow xs)) : ∃ p vs, σ[i]? = some (some (.ref p)) ∧ c.H p = some (.lst vs) ∧ c.F p = none ∧ p ≠ c.dr ∧ RPL K c vs xs := by
  obtain ⟨o, e1, p, vs, e2, e3⟩ := e.sl i _ h
  subst e2
  exact ⟨p, vs, e1, e3⟩
theorem EnvOk.ob {i : Nat} {p : Addr} {cn : Str} {ns : List Str} {fs : List D} (e : EnvOk K c σ η) (h : η[i]? = some (Sl.ob p cn ns fs)) : ∃ dx vs, σ[i]? = some (some (.ref p)) ∧ c.H p = some (.ins (He.ga K cn) dx (ns.zip vs)) ∧ c.F p = none ∧ p ≠ c.dr ∧ ns.length = vs.length ∧ RPL K c vs fs := by
  obtain ⟨o, e1, dx, vs, e2, e3⟩ := e.sl i _ h
  subst e2
  exact ⟨dx, vs, e1, e3⟩
theorem EnvOk.od {i : Nat} {ks : List NestedKey} {ds : List D} (e : EnvOk K c σ η) (h : η[i]? = some (Sl.od ks ds)) : ∃ p ob, σ[i]? = some (some (.ref p)) ∧ c.H p = some ob ∧ c.F p = none ∧ p ≠ c.dr ∧ NdR K c.dr c.F p ob ks ds := by
  obtain ⟨o, e1, p, ob, e2, e3⟩ := e.sl i _ h
  subst e2
  exact ⟨p, ob, e1, e3⟩
theorem EnvOk.og {i : Nat} {G : Og} (e : EnvOk K c σ η) (h : η[i]? = some (Sl.og G)) : ∃ p, σ[i]? = some (some (.ref p)) ∧ (∀ a, a = p ∨ a ∈ G.fp → (∃ u, (∀ ps, u ≠ .tbl ps) ∧ c.H a = some u) ∧ c.F a = none ∧ a ≠ c.dr) ∧ G.r K c.dr c.F c.H p := by
  obtain ⟨o, e1, p, e2, e3, e4⟩ := e.sl i _ h
  subst e2
  exact ⟨p, e1, e3, e4 c.F c.H (fun _ _ z => z) fun _ _ => rfl⟩
theorem EnvOk.dt {i : Nat} {d : D} (e : EnvOk K c σ η) (h : η[i]? = some (Sl.dt d)) : ∃ v, σ[i]? = some (some v) ∧ RP K c v d := by
  obtain ⟨o, e1, v, e2, e3⟩ := e.sl i _ h
  subst e2
  exact ⟨v, e1, e3⟩
/-- a slot becomes an owner (or its object is changed) -/
theorem EnvOk.ownG {i : Nat} {p : Addr} {s0 : Sl} (e : EnvOk K c σ η) (hp : ∀ (j : Nat) t, j ≠ i → η[j]? = some t → t.isOw = true → ∀ a, a = p ∨ a ∈ s0.inn → ¬ OwA σ j t a) (r : SlOk K c (some (.ref p)) s0) :
    EnvOk K c (σ.set i (some (.ref p))) (η.set i s0) := by
  refine ⟨by simp [e.len], fun j s h => ?_, fun j k s t a h1 h2 g1 g2 h3 h4 => ?_, e.T⟩
  · by_cases hj : j = i
    · subst hj
      have hl : j < η.length := by
        have := (List.getElem?_eq_some_iff.mp h).1
        simpa using this
      rw [List.getElem?_set_self hl] at h
      cases h
      exact ⟨some (.ref p), List.getElem?_set_self (by rw [e.len]; exact hl), r⟩
    · rw [List.getElem?_set_ne (Ne.symm hj)] at h
      rw [List.getElem?_set_ne (Ne.symm hj)]
      exact e.sl j s h
  · have at_ : ∀ (m : Nat) u, (η.set i s0)[m]? = some u → u.isOw = true → OwA (σ.set i (some (.ref p))) m u a → (m = i ∧ (a = p ∨ a ∈ s0.inn)) ∨ (m ≠ i ∧ η[m]? = some u ∧ OwA σ m u a) := fun m u q1 _ q2 => by
      by_cases hm : m = i
      · subst hm
        have hl : m < η.length := by
          have := (List.getElem?_eq_some_iff.mp q1).1
          simpa using this
        rw [List.getElem?_set_self hl] at q1
        cases q1
        rcases q2 with q2 | q2
        · rw [List.getElem?_set_self (by rw [e.len]; exact hl)] at q2
          cases q2
          exact .inl ⟨rfl, .inl rfl⟩
        · exact .inl ⟨rfl, .inr q2⟩
      · rw [List.getElem?_set_ne (Ne.symm hm)] at q1
        rw [owA_set hm] at q2
        exact .inr ⟨hm, q1, q2⟩
    rcases at_ j s h1 g1 h3 with ⟨j1, a1⟩ | ⟨j1, q1, q3⟩
    · rcases at_ k t h2 g2 h4 with ⟨k1, a2⟩ | ⟨k1, q2, q4⟩
      · rw [j1, k1]
      · exact absurd q4 (hp k t k1 q2 g2 a a1)
    · rcases at_ k t h2 g2 h4 with ⟨k1, a2⟩ | ⟨k1, q2, q4⟩
      · exact absurd q3 (hp j s j1 q1 g1 a a2)
      · exact e.inj j k s t a q1 q2 g1 g2 q3 q4
theorem EnvOk.own {i : Nat} {p : Addr} {s0 : Sl} (e : EnvOk K c σ η) (hp : ∀ (j : Nat) t, j ≠ i → η[j]? = some t → t.isOw = true → ¬ OwA σ j t p) (r : SlOk K c (some (.ref p)) s0) (hi0 : s0.inn = [] := by rfl) :
    EnvOk K c (σ.set i (some (.ref p))) (η.set i s0) := e.ownG (fun j t h1 h2 h3 a ha => by
  rcases ha with z | z
  · rw [z]
    exact hp j t h1 h2 h3
  · rw [hi0] at z
    cases z) r
end
end DL
set_option maxHeartbeats 2000000
namespace DL
open PySem PySem.Spec PyProof.Rows L2

/-! ### judgements at data level -/
abbrev Xn := D → Nat → Prop
abbrev WE := Xn → List Sl → Nat → (D → Nat → Prop) → Prop
abbrev WN := Xn → List Sl → Nat → (List D → Nat → Prop) → Prop
abbrev WT := Xn → List Sl → Nat → (Bool → Nat → Prop) → Prop
abbrev WA := Xn → List Sl → Nat → (List D → Nat → Prop) → Prop
structure Wk where
  nx : List Sl → Nat → Prop
  rt : D → Nat → Prop
  bk : List Sl → Nat → Prop := fun _ _ => False
  ct : List Sl → Nat → Prop := fun _ _ => False
abbrev WS := Xn → Wk → List Sl → Nat → Prop

/-- an exception as it lies -/
def XOk (K : PySem.W.Frag) (c : Cf) (cls : Value) (od : Option Addr) (d : D) : Prop := ∃ (k : Str) (ns : List Str) (fs : List D) (dd : Addr) (vs : List V), d = .ins k ns fs ∧ cls = .ref (He.ga K k) ∧ od = some dd ∧
  c.F dd = some (.xd (ns.zip vs)) ∧ ns.length = vs.length ∧ RPL K c vs fs
/-- the wish of exceptions -/
def XW (K : PySem.W.Frag) (E : XK) (x : Xn) (ow : Addr → Prop) (c : Cf) : Prop := ∀ d c' cls od, x d c'.n → c'.Ok → LeO ow c c' → XOk K c' cls od d → E cls od c'.H
theorem XW.le {K : PySem.W.Frag} {E : XK} {x : Xn} {ow : Addr → Prop} {c c1 : Cf} (h : XW K E x ow c) (l : Le c c1) : XW K E x ow c1 := fun d c' cls od hx ok l' r => h d c' cls od hx ok (l.thnO l') r
theorem XW.step {K : PySem.W.Frag} {E : XK} {x : Xn} {ow ow1 : Addr → Prop} {c c1 : Cf} (h : XW K E x ow c) (l : LeO ow c c1) (hs : ∀ a, ow1 a → ow a ∨ No c a) : XW K E x ow1 c1 := fun d c' cls od hx ok l' r => h d c' cls od hx ok (l.trans l' hs) r
theorem XW.none {K : PySem.W.Frag} {E : XK} {x : Xn} {ow : Addr → Prop} {c : Cf} (h : XW K E x ow c) : XW K E x (fun _ => False) c := fun d c' cls od hx ok l' r => h d c' cls od hx ok (LeO.of l') r

section
variable (K : PySem.W.Frag) (E : XK)
/-- the expression's reading: a frozen datum -/
def up (w : WE) : TE := fun σ H Q => ∃ c η R x, c.H = H ∧ c.Ok ∧ EnvOk K c σ η ∧ w x η c.n R ∧ (∀ d c' v, R d c'.n → c'.Ok → Le c c' → RP K c' v d → Q v c'.H) ∧ XW K E x (fun _ => False) c
/-- readable at once -/
def upB (w : WE) : TE := fun σ H Q => ∃ c η R x, c.H = H ∧ c.Ok ∧ EnvOk K c σ η ∧ w x η c.n R ∧ (∀ d c' v, R d c'.n → c'.Ok → Le c c' → RB K c' v d → Q v c'.H) ∧ XW K E x (fun _ => False) c
/-- a new list -/
def upN (w : WN) : TE := fun σ H Q => ∃ c η R x, c.H = H ∧ c.Ok ∧ EnvOk K c σ η ∧ w x η c.n R ∧
  (∀ xs c' p vs, R xs c'.n → c'.Ok → Le c c' → No c p → c'.F p = none → p ≠ c.dr → c'.H p = some (.lst vs) → RPL K c' vs xs → Q (.ref p) c'.H) ∧ XW K E x (fun _ => False) c
def upT (w : WT) : TT := fun σ H Q => ∃ c η R x, c.H = H ∧ c.Ok ∧ EnvOk K c σ η ∧ w x η c.n R ∧ (∀ b c', R b c'.n → c'.Ok → Le c c' → Q b c'.H) ∧ XW K E x (fun _ => False) c
def upA (w : WA) : TA := fun σ H Q => ∃ c η R x, c.H = H ∧ c.Ok ∧ EnvOk K c σ η ∧ w x η c.n R ∧ (∀ ds c' vs, R ds c'.n → c'.Ok → Le c c' → RPL K c' vs ds → Q vs c'.H) ∧ XW K E x (fun _ => False) c
/-- the same with readable arguments (a built-in's) -/
inductive RBL (K : PySem.W.Frag) (c : Cf) : List V → List D → Prop
  | nil : RBL K c [] []
  | cons {v : V} {vs : List V} {d : D} {ds : List D} : RB K c v d → RBL K c vs ds → RBL K c (v :: vs) (d :: ds)
def upAB (w : WA) : TA := fun σ H Q => ∃ c η R x, c.H = H ∧ c.Ok ∧ EnvOk K c σ η ∧ w x η c.n R ∧ (∀ ds c' vs, R ds c'.n → c'.Ok → Le c c' → RBL K c' vs ds → Q vs c'.H) ∧ XW K E x (fun _ => False) c
def upS (w : WS) : TS := fun D σ H => ∃ c η k x, c.H = H ∧ c.Ok ∧ EnvOk K c σ η ∧ w x k η c.n ∧
  (∀ η' c' σ', k.nx η' c'.n → c'.Ok → LeO (Owned σ η) c c' → (∀ a, Owned σ' η' a → Owned σ η a ∨ No c a) → EnvOk K c' σ' η' → D.nx σ' c'.H) ∧
  (∀ d c' v, k.rt d c'.n → c'.Ok → LeO (Owned σ η) c c' → RP K c' v d → D.rt v c'.H) ∧
  (∀ η' c' σ', k.bk η' c'.n → c'.Ok → LeO (Owned σ η) c c' → (∀ a, Owned σ' η' a → Owned σ η a ∨ No c a) → EnvOk K c' σ' η' → D.bk σ' c'.H) ∧
  (∀ η' c' σ', k.ct η' c'.n → c'.Ok → LeO (Owned σ η) c c' → (∀ a, Owned σ' η' a → Owned σ η a ∨ No c a) → EnvOk K c' σ' η' → D.ct σ' c'.H) ∧
  XW K E x (Owned σ η) c
end

/-! ### weakening -/
theorem pe_to {X : Cx} {e : Expr} {t t' : TE} (h : PE X e t) (i : ∀ σ H Q, t' σ H Q → t σ H Q) : PE X e t' := ⟨fun pins s σ H Q I q => h.run pins s σ H Q I (i σ H Q q)⟩
theorem pt_to {X : Cx} {e : Expr} {t t' : TT} (h : PT X e t) (i : ∀ σ H Q, t' σ H Q → t σ H Q) : PT X e t' := ⟨fun pins s σ H Q I q => h.run pins s σ H Q I (i σ H Q q)⟩
theorem pa_to {X : Cx} {e : List Expr} {t t' : TA} (h : PA X e t) (i : ∀ σ H Q, t' σ H Q → t σ H Q) : PA X e t' := ⟨fun pos pins s σ H Q I q => h.run pos pins s σ H Q I (i σ H Q q)⟩
theorem ps_to {X : Cx} {e : Stmt} {t t' : TS} (h : PS X e t) (i : ∀ D σ H, t' D σ H → t D σ H) : PS X e t' := ⟨fun pins s σ H D I q => h.run pins s σ H D I (i D σ H q)⟩
theorem pss_to {X : Cx} {e : List Stmt} {t t' : TS} (h : PSs X e t) (i : ∀ D σ H, t' D σ H → t D σ H) : PSs X e t' := ⟨fun pins s σ H D I q => h.run pins s σ H D I (i D σ H q)⟩

/-! ### a new object, frozen at once -/
theorem tabs_new {T : List (Addr × Str)} {H : Hp} {p : Addr} {o : HO} (t : LamX.Tabs T H) (hp : H p = none) : LamX.Tabs T (upd H p o) := t.ext fun b u e => by
  rw [upd_ne (ne_of_none e hp)]
  exact e
theorem upd_some {H : Hp} {p a : Addr} {o u : HO} (hu : ∀ ps, u ≠ .tbl ps) (hz : ∀ ps, o ≠ .tbl ps) (e : H a = some u) : ∃ u', (∀ ps, u' ≠ .tbl ps) ∧ upd H p o a = some u' := by
  by_cases h : a = p
  · subst h
    exact ⟨o, hz, upd_same⟩
  · exact ⟨u, hu, by rw [upd_ne h]; exact e⟩
theorem nt_upd {F : Hp} {p : Addr} {o : HO} (h : ∀ a ps, F a ≠ some (.tbl ps)) (hz : ∀ ps, o ≠ .tbl ps) : ∀ a ps, upd F p o a ≠ some (.tbl ps) := fun a ps e => by
  by_cases hb : a = p
  · subst hb
    rw [upd_same] at e
    exact hz ps (Option.some.inj e)
  · rw [upd_ne hb] at e
    exact h a ps e
/-- a tracked object that is no table and no code object is changed -/
theorem tabs_put {T : List (Addr × Str)} {H : Hp} {p : Addr} {o u : HO} (t : LamX.Tabs T H) (hp : H p = some o) (h1 : ∀ ps, o ≠ .tbl ps) (h2 : ∀ c q, o ≠ LamX.CodeO c q) : LamX.Tabs T (upd H p u) := fun q hq => by
  obtain ⟨ps, e1, e2, e3⟩ := t q hq
  refine ⟨ps, ?_, e2, fun pos cv hc => ?_⟩
  · rw [upd_ne (fun z => by rw [z, hp] at e1; exact h1 ps (Option.some.inj e1))]
    exact e1
  · obtain ⟨c, e4, e5⟩ := e3 pos cv hc
    refine ⟨c, e4, ?_⟩
    rw [upd_ne (fun z => by rw [z, hp] at e5; exact h2 _ _ (Option.some.inj e5))]
    exact e5
theorem Drw.up {n : Nat} {F F' : Hp} {o : Option HO} (h : Drw n F o) (f : ∀ a u, F a = some u → F' a = some u) : Drw n F' o := by
  obtain ⟨ca, cells, a, l, u, e, e1, r⟩ := h
  exact ⟨ca, cells, a, l, u, e, f _ _ e1, r⟩
/-- a new object at p, frozen -/
theorem Cf.Ok.newF {c : Cf} {p : Addr} {o : HO} (ok : c.Ok) (hp : c.H p = none) (hz : ∀ ps, o ≠ .tbl ps := by exact nofun) : (⟨c.dr, upd c.F p o, upd c.H p o, c.n, c.T⟩ : Cf).Ok ∧ Le c ⟨c.dr, upd c.F p o, upd c.H p o, c.n, c.T⟩ := by
  have hdr : p ≠ c.dr := fun e => by
    obtain ⟨_, _, _, _, _, e1, _⟩ := ok.dw
    rw [← e, hp] at e1
    cases e1
  have hF : c.F p = none := by
    cases q : c.F p with
    | none => rfl
    | some u =>
      rw [ok.sub _ _ q] at hp
      cases hp
  have fs : ∀ a u, c.F a = some u → upd c.F p o a = some u := fun a u e => by
    rw [upd_ne (ne_of_none e hF)]
    exact e
  refine ⟨⟨fun a u e => ?_, ?_, ?_, tabs_new ok.tb hp, nt_upd ok.nt hz⟩, rfl, fs, fun a u _ _ _ e => ?_, fun a u _ _ _ h1 h2 => ?_, fun a u hu e => upd_some hu hz e, rfl⟩
  · by_cases h : a = p
    · subst h
      have e' : upd c.F a o a = some u := e
      rw [upd_same] at e'
      show upd c.H a o a = some u
      rw [upd_same]
      exact e'
    · have e' : upd c.F p o a = some u := e
      rw [upd_ne h] at e'
      show upd c.H p o a = some u
      rw [upd_ne h]
      exact ok.sub _ _ e'
  · show upd c.F p o c.dr = none
    rw [upd_ne (Ne.symm hdr)]
    exact ok.nf
  · show Drw c.n (upd c.F p o) (upd c.H p o c.dr)
    rw [upd_ne (Ne.symm hdr)]
    exact ok.dw.up fs
  · show upd c.H p o a = some u
    rw [upd_ne (ne_of_none e hp)]
    exact e
  · show upd c.F p o a = none
    rw [upd_ne (ne_of_none h2 hp)]
    exact h1
/-- a new object at p, not frozen -/
theorem Cf.Ok.newH {c : Cf} {p : Addr} {o : HO} (ok : c.Ok) (hp : c.H p = none) (hz : ∀ ps, o ≠ .tbl ps := by exact nofun) : (⟨c.dr, c.F, upd c.H p o, c.n, c.T⟩ : Cf).Ok ∧ Le c ⟨c.dr, c.F, upd c.H p o, c.n, c.T⟩ ∧ c.F p = none ∧ p ≠ c.dr := by
  have hdr : p ≠ c.dr := fun e => by
    obtain ⟨_, _, _, _, _, e1, _⟩ := ok.dw
    rw [← e, hp] at e1
    cases e1
  have hF : c.F p = none := by
    cases q : c.F p with
    | none => rfl
    | some u =>
      rw [ok.sub _ _ q] at hp
      cases hp
  refine ⟨⟨fun a u e => ?_, ok.nf, ?_, tabs_new ok.tb hp, ok.nt⟩, ⟨rfl, fun _ _ e => e, fun a u _ _ _ e => ?_, fun a u _ _ _ h1 _ => h1, fun a u hu e => upd_some hu hz e, rfl⟩, hF, hdr⟩
  · show upd c.H p o a = some u
    rw [upd_ne (ne_of_none e hF)]
    exact ok.sub _ _ e
  · show Drw c.n c.F (upd c.H p o c.dr)
    rw [upd_ne (Ne.symm hdr)]
    exact ok.dw
  · show upd c.H p o a = some u
    rw [upd_ne (ne_of_none e hp)]
    exact e
/-- an unfrozen list at p is frozen -/
theorem Cf.Ok.frz {c : Cf} {p : Addr} {o : HO} (ok : c.Ok) (hp : c.H p = some o) (hF : c.F p = none) (hdr : p ≠ c.dr) (hz : ∀ ps, o ≠ .tbl ps := by exact nofun) : (⟨c.dr, upd c.F p o, c.H, c.n, c.T⟩ : Cf).Ok ∧ LeO (fun a => a = p) c ⟨c.dr, upd c.F p o, c.H, c.n, c.T⟩ := by
  have fs : ∀ a u, c.F a = some u → upd c.F p o a = some u := fun a u e => by
    rw [upd_ne (ne_of_none e hF)]
    exact e
  refine ⟨⟨fun a u e => ?_, ?_, ok.dw.up fs, ok.tb, nt_upd ok.nt hz⟩, rfl, fs, fun a u _ _ _ e => e, fun a u _ hn _ h1 h2 => ?_, fun a u hu e => ⟨u, hu, e⟩, rfl⟩
  · by_cases h : a = p
    · subst h
      have e' : upd c.F a o a = some u := e
      rw [upd_same] at e'
      exact hp.trans e'
    · have e' : upd c.F p o a = some u := e
      rw [upd_ne h] at e'
      exact ok.sub _ _ e'
  · show upd c.F p o c.dr = none
    rw [upd_ne (Ne.symm hdr)]
    exact ok.nf
  · show upd c.F p o a = none
    rw [upd_ne hn]
    exact h1

/-! ### from mode to mode -/
section
variable {X : Cx} {E : XK} {e : Expr}
/-- frozen is readable -/
theorem qb {w : WE} (h : PE X e (up X.K E w)) : PE X e (upB X.K E w) := pe_to h fun σ H Q q => by
  obtain ⟨c, η, R, x, e1, ok, en, hw, hr, hx⟩ := q
  exact ⟨c, η, R, x, e1, ok, en, hw, fun d c' v r o l p => hr d c' v r o l (.fz p), hx⟩
/-- a new list is frozen -/
def eFz (w : WN) : WE := fun x η n R => w x η n fun xs n' => R (.lst xs) n'
theorem fz_up {K : PySem.W.Frag} {w : WN} : ∀ σ H Q, up K E (eFz w) σ H Q → upN K E w σ H Q := fun σ H Q q => by
  obtain ⟨c, η, R, x, e1, ok, en, hw, hr, hx⟩ := q
  refine ⟨c, η, fun xs n' => R (.lst xs) n', x, e1, ok, en, hw, fun xs c' p vs r o l hp hF hd hH rp => ?_, hx⟩
  have hd' : p ≠ c'.dr := by rw [l.dr]; exact hd
  obtain ⟨ok2, l2⟩ := o.frz hH hF hd'
  refine hr (.lst xs) ⟨c'.dr, upd c'.F p (.lst vs), c'.H, c'.n, c'.T⟩ (.ref p) r ok2 ?_ ?_
  · refine ⟨l.dr, fun a u q => l2.f a u (l.f a u q), fun a u h1 h2 h3 => l.h a u h1 h2 h3, fun a u h1 h2 hz h3 h4 => ?_, l.hd, l.T⟩
    show upd c'.F p (.lst vs) a = none
    rw [upd_ne (fun z => hp.ne hz (by rw [← z]; exact h4))]
    exact l.fr a u h1 h2 hz h3 h4
  · exact .lst upd_same (l2.rpl rp)
theorem qf {w : WN} (h : PE X e (upN X.K E w)) : PE X e (up X.K E (eFz w)) := pe_to h fz_up
theorem qbf {w : WN} (h : PE X e (upN X.K E w)) : PE X e (upB X.K E (eFz w)) := qb (qf h)

/-! ### names, constants -/
def dtS : Option Sl → (D → Prop) → Prop
  | some (.dt d), k => k d
  | _, _ => False
def eVar (i : Nat) : WE := fun _ η n R => dtS η[i]? fun d => R d n
/-- a slot that is read: frozen or owned -/
def rdS : Option Sl → (D → Prop) → Prop
  | some (.dt d), k => k d
  | some (.ow xs), k => k (.lst xs)
  | some (.od ks ds), k => k (.dkn ks ds)
  | _, _ => False
def eVarB (i : Nat) : WE := fun _ η n R => rdS η[i]? fun d => R d n
def eC (d : D) : WE := fun _ _ n R => R d n
theorem q_v {x : Str} {pos : Pos} (i : Nat) (h : PE X (.Name x pos) (tVar i)) : PE X (.Name x pos) (up X.K E (eVar i)) := pe_to h fun σ H Q q => by
  obtain ⟨c, η, R, x, e1, ok, en, hw, hr, hx⟩ := q
  unfold eVar at hw
  cases hs : η[i]? with
  | none =>
    rw [hs] at hw
    exact hw.elim
  | some s =>
    rw [hs] at hw
    cases s with
    | un => exact hw.elim
    | cl _ => exact hw.elim
    | od _ _ => exact hw.elim
    | og _ => exact hw.elim
    | ow xs => exact hw.elim
    | ob _ _ _ _ => exact hw.elim
    | dt d =>
      obtain ⟨v, e2, rp⟩ := en.dt hs
      refine ⟨v, e2, ?_⟩
      rw [← e1]
      exact hr d c v hw ok .refl rp
theorem qb_v {x : Str} {pos : Pos} (i : Nat) (h : PE X (.Name x pos) (tVar i)) : PE X (.Name x pos) (upB X.K E (eVarB i)) := pe_to h fun σ H Q q => by
  obtain ⟨c, η, R, x, e1, ok, en, hw, hr, hx⟩ := q
  unfold eVarB at hw
  cases hs : η[i]? with
  | none =>
    rw [hs] at hw
    exact hw.elim
  | some s =>
    rw [hs] at hw
    cases s with
    | un => exact hw.elim
    | cl _ => exact hw.elim
    | ob _ _ _ _ => exact hw.elim
    | og _ => exact hw.elim
    | dt d =>
      obtain ⟨v, e2, rp⟩ := en.dt hs
      refine ⟨v, e2, ?_⟩
      rw [← e1]
      exact hr d c v hw ok .refl (.fz rp)
    | ow xs =>
      obtain ⟨p, vs, e2, h1, h2, h3, rp⟩ := en.ow hs
      refine ⟨.ref p, e2, ?_⟩
      rw [← e1]
      exact hr (.lst xs) c _ hw ok .refl (.ow rfl rfl h1 h2 h3 rp)
    | od ks ds =>
      obtain ⟨p, ob, e2, h1, h2, h3, rp⟩ := en.od hs
      refine ⟨.ref p, e2, ?_⟩
      rw [← e1]
      exact hr (.dkn ks ds) c _ hw ok .refl (.od rfl rfl h1 h2 h3 rp)
theorem q_c {v : V} {d : D} (h : PE X e (tC v)) (r : ∀ dr F, Rp X.K dr F v d) : PE X e (up X.K E (eC d)) := pe_to h fun σ H Q q => by
  obtain ⟨c, η, R, x, e1, ok, en, hw, hr, hx⟩ := q
  show Q v H
  rw [← e1]
  exact hr d c v hw ok .refl (r _ _)
theorem q_int {i : Int} {j pos} : PE X (.Constant (.int i) j pos) (up X.K E (eC (.int i))) := q_c pe_int fun _ _ => .int i
theorem q_bl {b : Bool} {j pos} : PE X (.Constant (.bool b) j pos) (up X.K E (eC (.bl b))) := q_c pe_bl fun _ _ => .bl b
theorem q_non {j pos} : PE X (.Constant .none j pos) (up X.K E (eC .non)) := q_c pe_non fun _ _ => .non
theorem q_str {x : Str} {j pos} : PE X (.Constant (.str x) j pos) (up X.K E (eC (.str x))) := q_c pe_str fun _ _ => .str x

/-! ### two operands, by values -/
abbrev O2 := D → D → (D → Prop) → Prop
def eBin (o : O2) (wa wb : WE) : WE := fun x η n R => wa x η n fun a n1 => wb x η n1 fun b n2 => o a b fun d => R d n2
/-- what an operation does on data, over a reading r of the layer -/
def OpD (X : Cx) (r : R2) (o : O2) : Prop := ∀ (c : Cf) (v u : V) (a b : D) (k : D → Prop) (Q : VK), c.Ok → c.T = TK X.K → RB X.K c v a → RB X.K c u b → o a b k →
  (∀ d c' z, k d → c'.n = c.n → c'.Ok → Le c c' → RP X.K c' z d → Q z c'.H) → r v u c.H Q
theorem bin_up {wa wb : WE} {r : R2} {o : O2} (h : OpD X r o) : ∀ σ H Q, up X.K E (eBin o wa wb) σ H Q → tOp r (upB X.K E wa) (upB X.K E wb) σ H Q := fun σ H Q q => by
  obtain ⟨c, η, R, x, e1, ok, en, hw, hr, hx⟩ := q
  refine ⟨c, η, _, x, e1, ok, en, hw, fun a c1 v h1 ok1 l1 r1 => ?_, hx⟩
  refine ⟨c1, η, _, x, rfl, ok1, en.le l1, h1, fun b c2 u h2 ok2 l2 r2 => ?_, hx.le l1⟩
  exact h c2 v u a b _ Q ok2 ((l1.trans l2).T.trans en.T) (r1.le l2) r2 h2 fun d c3 z hk hn ok3 l3 r3 => hr d c3 z (by rw [hn]; exact hk) ok3 ((l1.trans l2).trans l3) r3
theorem q_op {a b : Expr} {pos : Pos} {op : Operator} {wa wb : WE} {r : R2} {o : O2} (ho : OpR X (binaryOp op) r) (h : OpD X r o) (ha : PE X a (upB X.K E wa)) (hb : PE X b (upB X.K E wb)) : PE X (.BinOp a op b pos) (up X.K E (eBin o wa wb)) :=
  pe_to (pe_op ho ha hb) (bin_up h)
theorem q_cmp {a b : Expr} {pos : Pos} {op : CmpOp} {wa wb : WE} {r : R2} {o : O2} (ho : OpR X (compareOp op) r) (h : OpD X r o) (ha : PE X a (upB X.K E wa)) (hb : PE X b (upB X.K E wb)) (hm : behindInMarks op b = false) : PE X (.Compare a [op] [b] pos) (up X.K E (eBin o wa wb)) :=
  pe_to (pe_cmpR ho ha hb hm) (bin_up h)
theorem q_ix {a b : Expr} {pos : Pos} {wa wb : WE} {r : R2} {o : O2} (ho : IxR X r) (h : OpD X r o) (ha : PE X a (upB X.K E wa)) (hb : PE X b (upB X.K E wb)) (hs : PlainIx b := by exact fun _ _ => rfl) : PE X (.Subscript a b pos) (up X.K E (eBin o wa wb)) :=
  pe_to (pe_ix ho ha hb hs) (bin_up h)
end
end DL
set_option maxHeartbeats 2000000
namespace DL
open PySem PySem.Spec PyProof.Rows L2

/-! ### plain data -/
mutual
def py : D → PyData
  | .non => .none
  | .bl b => .bool b
  | .int i => .int i
  | .str x => .str x
  | .tup xs => .tuple (pyL xs)
  | .lst xs => .list (pyL xs)
  | .ins _ _ _ => .dict []
  | .drw => .dict []
  | .dct _ _ => .dict []
  | .dks _ _ => .dict []
  | .dkn _ _ => .dict []
  | .exc _ _ _ => .dict []
def pyL : List D → List PyData
  | [] => []
  | d :: ds => py d :: pyL ds
end
def Lay (d : D) : Prop := SeqAt.shaped (py d) = true
def deq (a b : D) : Bool := PyData.eqv (py a) (py b)
mutual
/-- no instance, no draws within -/
def plainD : D → Bool
  | .ins _ _ _ => false
  | .drw => false
  | .dct _ _ => false
  | .dks _ _ => false
  | .dkn _ _ => false
  | .exc _ _ _ => false
  | .tup xs => plainL xs
  | .lst xs => plainL xs
  | _ => true
def plainL : List D → Bool
  | [] => true
  | d :: ds => plainD d && plainL ds
end
mutual
theorem plainD_of : ∀ d : D, (py d).canLay0 = true → plainD d = true
  | .non, _ => rfl
  | .bl _, _ => rfl
  | .int _, _ => rfl
  | .str _, _ => rfl
  | .tup xs, h => plainL_of xs h
  | .lst xs, h => plainL_of xs h
  | .ins _ _ _, h => by cases h
  | .drw, h => by cases h
  | .dct _ _, h => by cases h
  | .dks _ _, h => by cases h
  | .dkn _ _, h => by cases h
  | .exc _ _ _, h => by cases h
theorem plainL_of : ∀ ds : List D, PyData.canLayAll0 (pyL ds) = true → plainL ds = true
  | [], _ => rfl
  | d :: ds, h => by
    have h' : ((py d).canLay0 && PyData.canLayAll0 (pyL ds)) = true := h
    rw [Bool.and_eq_true] at h'
    show (plainD d && plainL ds) = true
    rw [plainD_of d h'.1, plainL_of ds h'.2]
    rfl
end
theorem Lay.plainD {d : D} (h : Lay d) : plainD d = true := plainD_of d (SeqAt.canLay_of_shaped h)
section
variable {K : PySem.W.Frag} {dr : Addr} {F H : Hp}
mutual
theorem Rp.dp (hs : ∀ a o, F a = some o → H a = some o) : ∀ (d : D) (v : V), plainD d = true → Rp K dr F v d → Dp K H v (py d)
  | .non, _, _, q => by cases q; exact .non
  | .bl b, _, _, q => by cases q; exact .bl b
  | .int i, _, _, q => by cases q; exact .int i
  | .str x, _, _, q => by cases q; exact .str x
  | .tup ds, _, hp, q => by
    cases q with
    | tup e r => exact .tup (SqT.of (hs _ _ e)) (RpL.dp hs ds _ hp r)
  | .lst ds, _, hp, q => by
    cases q with
    | lst e r => exact .lst (SqL.of (hs _ _ e)) (RpL.dp hs ds _ hp r)
  | .ins _ _ _, _, hp, _ => by cases hp
  | .drw, _, hp, _ => by cases hp
  | .dct _ _, _, hp, _ => by cases hp
  | .dks _ _, _, hp, _ => by cases hp
  | .dkn _ _, _, hp, _ => by cases hp
  | .exc _ _ _, _, hp, _ => by cases hp
theorem RpL.dp (hs : ∀ a o, F a = some o → H a = some o) : ∀ (ds : List D) (vs : List V), plainL ds = true → RpL K dr F vs ds → DpAll K H vs (pyL ds)
  | [], _, _, q => by cases q; exact .nil
  | d :: ds, _, hp, q => by
    cases q with
    | cons r t =>
      have hp' : (plainD d && plainL ds) = true := hp
      rw [Bool.and_eq_true] at hp'
      exact .cons (Rp.dp hs d _ hp'.1 r) (RpL.dp hs ds _ hp'.2 t)
end
end
theorem RB.dp {K : PySem.W.Frag} {c : Cf} {v : V} {d : D} (ok : c.Ok) (h : RB K c v d) (hp : plainD d = true) : Dp K c.H v (py d) := by
  cases h with
  | fz h => exact Rp.dp ok.sub d v hp h
  | ow ev ed h hf hd r =>
    subst ev ed
    exact .lst (SqL.of h) (RpL.dp ok.sub _ _ hp r)
  | od ev ed h hf hd r =>
    subst ed
    cases hp
/-- a readable list, tuple -/
theorem RB.lst {K : PySem.W.Frag} {c : Cf} {v : V} {xs : List D} (ok : c.Ok) (h : RB K c v (.lst xs)) : ∃ p vs, v = .ref p ∧ c.H p = some (.lst vs) ∧ RPL K c vs xs := by
  cases h with
  | fz h =>
    cases h with
    | lst e r => exact ⟨_, _, rfl, ok.sub _ _ e, r⟩
  | ow ev ed h hf hd r =>
    cases ed
    exact ⟨_, _, ev, h, r⟩
  | od ev ed h hf hd r => cases ed
theorem RB.tup {K : PySem.W.Frag} {c : Cf} {v : V} {xs : List D} (ok : c.Ok) (h : RB K c v (.tup xs)) : ∃ p vs, v = .ref p ∧ c.F p = some (.tup vs) ∧ c.H p = some (.tup vs) ∧ RPL K c vs xs := by
  cases h with
  | fz h =>
    cases h with
    | tup e r => exact ⟨_, _, rfl, e, ok.sub _ _ e, r⟩
  | ow ev ed h hf hd r => cases ed
  | od ev ed h hf hd r => cases ed
theorem RB.int {K : PySem.W.Frag} {c : Cf} {v : V} {i : Int} (h : RB K c v (.int i)) : v = .int i := by
  cases h with
  | fz h => cases h; rfl
  | ow ev ed h hf hd r => cases ed
  | od ev ed h hf hd r => cases ed
theorem RB.str {K : PySem.W.Frag} {c : Cf} {v : V} {i : Str} (h : RB K c v (.str i)) : v = .str i := by
  cases h with
  | fz h => cases h; rfl
  | ow ev ed h hf hd r => cases ed
  | od ev ed h hf hd r => cases ed
theorem RB.bl {K : PySem.W.Frag} {c : Cf} {v : V} {i : Bool} (h : RB K c v (.bl i)) : v = .bl i := by
  cases h with
  | fz h => cases h; rfl
  | ow ev ed h hf hd r => cases ed
  | od ev ed h hf hd r => cases ed
theorem RB.non {K : PySem.W.Frag} {c : Cf} {v : V} (h : RB K c v .non) : v = .non := by
  cases h with
  | fz h => cases h; rfl
  | ow ev ed h hf hd r => cases ed
  | od ev ed h hf hd r => cases ed

/-! ### operators on data -/
def MulOk (i j : Int) : Prop := CMul i j ∨ ((-(2 ^ 250) < i ∧ i < 2 ^ 250) ∧ (-(2 ^ 250) < j ∧ j < 2 ^ 250))
def DivOk (j : Int) : Prop := 0 < j ∧ j < 2 ^ 250
theorem natAbs250 {i : Int} (h : -(2 ^ 250) < i ∧ i < 2 ^ 250) : i.natAbs < 2 ^ 250 := by
  have e : ((2 : Int) ^ 250) = ((2 ^ 250 : Nat) : Int) := by norm_cast
  rw [e] at h
  omega
theorem MulOk.w {i j : Int} (h : MulOk i j) : CMul i j ∨ CMulW i j := by
  rcases h with h | ⟨h1, h2⟩
  · exact .inl h
  · exact .inr (wide_mul (natAbs250 h1) (natAbs250 h2) (by decide) (by decide) (by decide))
theorem DivOk.w {i j : Int} (h : DivOk j) : CDivW i j := wide_div (b := 250) h.1 (natAbs250 ⟨by have := h.1; omega, h.2⟩) (by decide) (by decide)
/-- two ints under a condition -/
def oI (C : Int → Int → Prop) (g : Int → Int → D) : O2 := fun a b k => match a, b with
  | .int i, .int j => C i j ∧ k (g i j)
  | _, _ => False
def oI0 (g : Int → Int → D) : O2 := fun a b k => match a, b with
  | .int i, .int j => k (g i j)
  | _, _ => False
def oAdd : O2 := fun a b k => match a, b with
  | .int i, .int j => k (.int (i + j))
  | .str x, .str y => x.length + y.length ≤ sizeLine ∧ k (.str (x ++ y))
  | .tup x, .tup y => x.length + y.length ≤ sizeLine ∧ k (.tup (x ++ y))
  | .lst x, .lst y => x.length + y.length ≤ sizeLine ∧ k (.lst (x ++ y))
  | _, _ => False
def oSub : O2 := oI0 fun i j => .int (i - j)
def oMul : O2 := oI MulOk fun i j => .int (i * j)
def oDiv : O2 := oI (fun _ j => DivOk j) fun i j => .int (i / j)
def oMod : O2 := oI (fun _ j => 0 < j) fun i j => .int (i % j)
def oPow : O2 := oI (fun i j => 0 ≤ j ∧ j ≤ 1000000 ∧ -(2 ^ 64) < i ∧ i < 2 ^ 64) fun i j => .int (i ^ j.toNat)
section
variable {X : Cx}
theorem rp_new_tup {K : PySem.W.Frag} {c : Cf} {p : Addr} {vs : List V} {ds : List D} (ok : c.Ok) (hp : c.H p = none) (r : RPL K c vs ds) {Q : VK} {k : D → Prop} (hk : k (.tup ds))
    (hQ : ∀ d c' z, k d → c'.n = c.n → c'.Ok → Le c c' → RP K c' z d → Q z c'.H) : Q (.ref p) (upd c.H p (.tup vs)) := by
  obtain ⟨ok2, l2⟩ := ok.newF (o := .tup vs) hp
  exact hQ _ ⟨c.dr, upd c.F p (.tup vs), upd c.H p (.tup vs), c.n, c.T⟩ _ hk rfl ok2 l2 (.tup upd_same (l2.rpl r))
theorem rp_new_lst {K : PySem.W.Frag} {c : Cf} {p : Addr} {vs : List V} {ds : List D} (ok : c.Ok) (hp : c.H p = none) (r : RPL K c vs ds) {Q : VK} {k : D → Prop} (hk : k (.lst ds))
    (hQ : ∀ d c' z, k d → c'.n = c.n → c'.Ok → Le c c' → RP K c' z d → Q z c'.H) : Q (.ref p) (upd c.H p (.lst vs)) := by
  obtain ⟨ok2, l2⟩ := ok.newF (o := .lst vs) hp
  exact hQ _ ⟨c.dr, upd c.F p (.lst vs), upd c.H p (.lst vs), c.n, c.T⟩ _ hk rfl ok2 l2 (.lst upd_same (l2.rpl r))
theorem opd_I {C : Int → Int → Prop} {g : Int → Int → D} {gv : Int → Int → V} (hg : ∀ i j dr F, Rp X.K dr F (gv i j) (g i j)) : OpD X (rI C gv) (oI C g) := by
  intro c v u a b k Q ok hT ra rb h hQ
  cases a <;> cases b <;> first | exact h.elim | skip
  obtain ⟨hc, hk⟩ := h
  exact ⟨_, _, ra.int, rb.int, hc, hQ _ c _ hk rfl ok .refl (hg _ _ _ _)⟩
def rStr2 : R2 := fun x y H Q => ∃ i j, x = .str i ∧ y = .str j ∧ i.length + j.length ≤ sizeLine ∧ Q (.str (i ++ j)) H
def rAddU (K : PySem.W.Frag) : R2 := fun x y H Q => (rI0 (fun i j => .int (i + j)) x y H Q ∨ rStr2 x y H Q) ∨ rCatA K x y H Q ∨ rCat x y H Q
theorem op_addU : OpR X (binaryOp .Add) (rAddU X.K) := (op_add.or op_add_str).or (op_catA.or op_cat)
theorem opd_add : OpD X (rAddU X.K) oAdd := by
  intro c v u a b k Q ok hT ra rb h hQ
  cases a <;> cases b <;> first | exact h.elim | skip
  · exact .inl (.inl ⟨_, _, ra.int, rb.int, hQ _ c _ h rfl ok .refl (.int _)⟩)
  · exact .inl (.inr ⟨_, _, ra.str, rb.str, h.1, hQ _ c _ h.2 rfl ok .refl (.str _)⟩)
  · obtain ⟨p, vs, e1, f1, h1, r1⟩ := ra.tup ok
    obtain ⟨q, us, e2, f2, h2, r2⟩ := rb.tup ok
    rename_i xs ys
    obtain ⟨hl, hk⟩ := h
    refine .inr (.inl ⟨p, q, vs, us, e1, e2, .of h1, .of h2, by rw [r1.length, r2.length]; exact hl, fun e => ?_, fun n1 e => ?_, fun n1 n2 t ht => ?_⟩)
    · subst e
      have ex : xs = [] := by
        have := r1.length
        cases xs with
        | nil => rfl
        | cons _ _ => cases this
      subst ex
      exact hQ _ c _ hk rfl ok .refl (.tup f2 r2)
    · subst e
      have ex : ys = [] := by
        have := r2.length
        cases ys with
        | nil => rfl
        | cons _ _ => cases this
      subst ex
      rw [List.append_nil] at hk
      exact hQ _ c _ hk rfl ok .refl (.tup f1 r1)
    · exact rp_new_tup ok ht (r1.append r2) hk hQ
  · obtain ⟨p, vs, e1, h1, r1⟩ := ra.lst ok
    obtain ⟨q, us, e2, h2, r2⟩ := rb.lst ok
    obtain ⟨hl, hk⟩ := h
    exact .inr (.inr ⟨p, q, vs, us, e1, e2, h1, h2, by rw [r1.length, r2.length]; exact hl, fun t ht => rp_new_lst ok ht (r1.append r2) hk hQ⟩)
theorem opd_mod : OpD X (rI (fun _ j => 0 < j) fun i j => .int (i % j)) oMod := opd_I fun _ _ _ _ => .int _
theorem opd_pow : OpD X (rI CPow fun i j => .int (i ^ j.toNat)) oPow := by
  intro c v u a b k Q ok hT ra rb h hQ
  cases a <;> cases b <;> first | exact h.elim | skip
  obtain ⟨⟨h1, h2, h3, h4⟩, hk⟩ := h
  refine ⟨_, _, ra.int, rb.int, ⟨h1, h2, ?_⟩, hQ _ c _ hk rfl ok .refl (.int _)⟩
  have e : ((2 : Int) ^ 64) = ((2 ^ 64 : Nat) : Int) := by norm_cast
  rw [e] at h3 h4
  omega

/-! comparisons -/
def intsOf : List D → Option (List Int)
  | [] => some []
  | .int i :: r => (intsOf r).map (i :: ·)
  | _ => none
theorem intsOf_eq : ∀ {ds : List D} {ns : List Int}, intsOf ds = some ns → ds = ns.map D.int
  | [], ns, h => by cases h; rfl
  | d :: ds, ns, h => by
    cases d <;> first | cases h | skip
    rename_i i
    have h' : (intsOf ds).map (i :: ·) = some ns := h
    cases e : intsOf ds with
    | none =>
      rw [e] at h'
      cases h'
    | some ms =>
      rw [e] at h'
      cases h'
      rw [intsOf_eq e]
      rfl
def oLt : O2 := fun a b k => match a, b with
  | .int i, .int j => k (.bl (decide (i < j)))
  | .str x, .str y => k (.bl (decide (x.cps.toList < y.cps.toList)))
  | .tup x, .tup y => ∃ ns ms, intsOf x = some ns ∧ intsOf y = some ms ∧ k (.bl (HT.lexLt ns ms))
  | _, _ => False
def oLe : O2 := oI0 fun i j => .bl (decide (i ≤ j))
def oGt : O2 := oI0 fun i j => .bl (decide (j < i))
def oGe : O2 := oI0 fun i j => .bl (decide (j ≤ i))
def rStrLt : R2 := fun x y H Q => ∃ i j, x = .str i ∧ y = .str j ∧ Q (.bl (decide (i.cps.toList < j.cps.toList))) H
def rLtU (K : PySem.W.Frag) : R2 := fun x y H Q => rI0 (fun i j => .bl (decide (i < j))) x y H Q ∨ rStrLt x y H Q ∨ rLtT K x y H Q
theorem op_ltU (hu : X.A.units < cLine) : OpR X (compareOp .Lt) (rLtU X.K) := op_lt.or (op_lt_str.or (op_ltT hu))
theorem opd_lt : OpD X (rLtU X.K) oLt := by
  intro c v u a b k Q ok hT ra rb h hQ
  cases a <;> cases b <;> first | exact h.elim | skip
  · exact .inl ⟨_, _, ra.int, rb.int, hQ _ c _ h rfl ok .refl (.bl _)⟩
  · exact .inr (.inl ⟨_, _, ra.str, rb.str, hQ _ c _ h rfl ok .refl (.bl _)⟩)
  · obtain ⟨ns, ms, i1, i2, hk⟩ := h
    obtain ⟨p, vs, e1, f1, h1, r1⟩ := ra.tup ok
    obtain ⟨q, us, e2, f2, h2, r2⟩ := rb.tup ok
    rw [intsOf_eq i1] at r1
    rw [intsOf_eq i2] at r2
    refine .inr (.inr ⟨p, q, ns, ms, e1, e2, .of (by rw [h1, r1.ints]), .of (by rw [h2, r2.ints]), hQ _ c _ hk rfl ok .refl (.bl _)⟩)
def oEq : O2 := fun a b k => Lay a ∧ Lay b ∧ k (.bl (deq a b))
def oNe : O2 := fun a b k => Lay a ∧ Lay b ∧ k (.bl (!deq a b))
theorem opd_eq : OpD X (rEqD X.K) oEq := by
  intro c v u a b k Q ok hT ra rb h hQ
  obtain ⟨h1, h2, hk⟩ := h
  exact ⟨py a, py b, ra.dp ok h1.plainD, rb.dp ok h2.plainD, h1, h2, hQ _ c _ hk rfl ok .refl (.bl _)⟩
theorem opd_ne : OpD X (rNeD X.K) oNe := by
  intro c v u a b k Q ok hT ra rb h hQ
  obtain ⟨h1, h2, hk⟩ := h
  exact ⟨py a, py b, ra.dp ok h1.plainD, rb.dp ok h2.plainD, h1, h2, hQ _ c _ hk rfl ok .refl (.bl _)⟩
/-- in: a list, a tuple of plain data -/
def dIn (a : D) (xs : List D) : Bool := xs.any fun z => deq z a
def oIn : O2 := fun a b k => match b with
  | .lst xs => Lay a ∧ Lay (.lst xs) ∧ k (.bl (dIn a xs))
  | .tup xs => Lay a ∧ Lay (.tup xs) ∧ k (.bl (dIn a xs))
  | _ => False
def oNotIn : O2 := fun a b k => match b with
  | .lst xs => Lay a ∧ Lay (.lst xs) ∧ k (.bl (!dIn a xs))
  | .tup xs => Lay a ∧ Lay (.tup xs) ∧ k (.bl (!dIn a xs))
  | _ => False
/-! subscripts -/
def oIx : O2 := fun a b k => match a, b with
  | .lst xs, .int i => ∃ d, atI xs i = some d ∧ k d
  | .tup xs, .int i => ∃ d, atI xs i = some d ∧ k d
  | .str z, .int i => ∃ c, z.length ≤ sizeLine ∧ atI z.cps.toList i = some c ∧ k (.str ⟨#[c]⟩)
  | _, _ => False
theorem atI_rp {K : PySem.W.Frag} {dr : Addr} {F : Hp} {vs : List V} {ds : List D} {i : Int} {d : D} (r : RpL K dr F vs ds) (h : atI ds i = some d) : ∃ v, atI vs i = some v ∧ Rp K dr F v d := by
  unfold atI at h ⊢
  rw [r.length]
  cases e : ixN ds.length i with
  | none =>
    rw [e] at h
    cases h
  | some j =>
    rw [e] at h
    exact r.get h
theorem opd_ix : OpD X (rIx X.K) oIx := by
  intro c v u a b k Q ok hT ra rb h hQ
  cases a <;> cases b <;> first | exact h.elim | skip
  · obtain ⟨ch, h1, h2, hk⟩ := h
    exact .inr (.inr ⟨_, _, ch, ra.str, rb.int, h1, h2, hQ _ c _ hk rfl ok .refl (.str _)⟩)
  · obtain ⟨d, h1, hk⟩ := h
    obtain ⟨p, vs, e1, f1, h2, r1⟩ := ra.tup ok
    obtain ⟨z, hz, rz⟩ := atI_rp r1 h1
    exact .inr (.inl ⟨p, vs, _, z, e1, rb.int, .of h2, hz, hQ _ c _ hk rfl ok .refl rz⟩)
  · obtain ⟨d, h1, hk⟩ := h
    obtain ⟨p, vs, e1, h2, r1⟩ := ra.lst ok
    obtain ⟨z, hz, rz⟩ := atI_rp r1 h1
    exact .inl ⟨p, vs, _, z, e1, rb.int, .of h2, hz, hQ _ c _ hk rfl ok .refl rz⟩
end
end DL
set_option maxHeartbeats 2000000
namespace DL
open PySem PySem.Spec PyProof.Rows L2
section
variable {X : Cx} {E : XK}

/-! ### tests -/
def wTest (w : WE) : WT := fun x η n R => w x η n fun d n1 => match d with
  | .bl b => R b n1
  | _ => False
/-- a value's truth -/
def truth : D → (Bool → Prop) → Prop
  | .non, k => k false
  | .bl b, k => k b
  | .int i, k => k (i != 0)
  | .str z, k => z.length ≤ sizeLine ∧ k ((z.length : Int) != 0)
  | .tup xs, k => k (!xs.isEmpty)
  | .lst xs, k => k (!xs.isEmpty)
  | _, _ => False
def wTru (w : WE) : WT := fun x η n R => w x η n fun d n1 => truth d fun b => R b n1
def wAnd (a b : WT) : WT := fun x η n R => a x η n fun c n1 => if c = true then b x η n1 R else R false n1
def wOr (a b : WT) : WT := fun x η n R => a x η n fun c n1 => if c = true then R true n1 else b x η n1 R
def wNot (a : WT) : WT := fun x η n R => a x η n fun c n1 => R (!c) n1
theorem qt_cmp {a b : Expr} {pos : Pos} {op : CmpOp} {wa wb : WE} {r : R2} {o : O2} (ho : OpR X (compareOp op) r) (h : OpD X r o) (ha : PE X a (upB X.K E wa)) (hb : PE X b (upB X.K E wb)) (hm : behindInMarks op b = false) :
    PT X (.Compare a [op] [b] pos) (upT X.K E (wTest (eBin o wa wb))) := pt_to (pt_cmpR ho ha hb hm) fun σ H Q q => by
  obtain ⟨c, η, R, x, e1, ok, en, hw, hr, hx⟩ := q
  refine bin_up h σ H _ ⟨c, η, _, x, e1, ok, en, hw, fun d c' v hd ok' l' rp => ?_, hx⟩
  cases d <;> first | exact hd.elim | skip
  cases rp
  exact ⟨_, rfl, hr _ c' hd ok' l'⟩
variable {a b : Expr} {pos : Pos} {rest : List Expr}
/-- a < b < c -/
def wChain (o o' : O2) (wa wb wc : WE) : WT := fun x η n R => wa x η n fun a n1 => wb x η n1 fun b n2 => o a b fun d => match d with
  | .bl true => wc x η n2 fun c n3 => o' b c fun d => match d with
    | .bl k => R k n3
    | _ => False
  | .bl false => R false n2
  | _ => False
/-- a if t else b -/
def eIf (t : WT) (wa wb : WE) : WE := fun x η n R => t x η n fun c n1 => if c = true then wa x η n1 R else wb x η n1 R
theorem q_if {t : Expr} {wt : WT} {wa wb : WE} (ht : PT X t (upT X.K E wt)) (ha : PE X a (up X.K E wa)) (hb : PE X b (up X.K E wb)) : PE X (.IfExp t a b pos) (up X.K E (eIf wt wa wb)) := pe_to (pe_ifExp ht ha hb) fun σ H Q q => by
  obtain ⟨c, η, R, x, e1, ok, en, hw, hr, hx⟩ := q
  refine ⟨c, η, _, x, e1, ok, en, hw, fun k c' hd ok' l' => ?_, hx⟩
  cases k with
  | true => exact ⟨c', η, R, x, rfl, ok', en.le l', hd, fun d c2 v h2 ok2 l2 r2 => hr d c2 v h2 ok2 (l'.trans l2) r2, hx.le l'⟩
  | false => exact ⟨c', η, R, x, rfl, ok', en.le l', hd, fun d c2 v h2 ok2 l2 r2 => hr d c2 v h2 ok2 (l'.trans l2) r2, hx.le l'⟩
/-- and, or, not as values of bools -/
def eAndV (wa wb : WE) : WE := fun x η n R => wa x η n fun a n1 => match a with
  | .bl true => wb x η n1 R
  | .bl false => R (.bl false) n1
  | _ => False
def eOrV (wa wb : WE) : WE := fun x η n R => wa x η n fun a n1 => match a with
  | .bl true => R (.bl true) n1
  | .bl false => wb x η n1 R
  | _ => False
def eNotV (wa : WE) : WE := fun x η n R => wa x η n fun a n1 => match a with
  | .bl b => R (.bl (!b)) n1
  | _ => False
def eNeg (wa : WE) : WE := fun x η n R => wa x η n fun a n1 => match a with
  | .int i => R (.int (-i)) n1
  | _ => False
theorem q_neg {w : WE} (h : PE X a (upB X.K E w)) : PE X (.UnaryOp .USub a pos) (up X.K E (eNeg w)) := pe_to (pe_un un_neg h) fun σ H Q q => by
  obtain ⟨c, η, R, x, e1, ok, en, hw, hr, hx⟩ := q
  refine ⟨c, η, _, x, e1, ok, en, hw, fun d c' v hd ok' l' rp => ?_, hx⟩
  cases d <;> first | exact hd.elim | skip
  exact ⟨_, rp.int, hr _ c' _ hd ok' l' (.int _)⟩

/-! ### arguments, displays -/
def aNil : WA := fun _ _ n R => R [] n
def aCons (w : WE) (r : WA) : WA := fun x η n R => w x η n fun d n1 => r x η n1 fun ds n2 => R (d :: ds) n2
variable {e : Expr} {es : List Expr}
theorem qa_nil : PA X [] (upA X.K E aNil) := pa_to pa_nil fun σ H Q q => by
  obtain ⟨c, η, R, x, e1, ok, en, hw, hr, hx⟩ := q
  show Q [] H
  rw [← e1]
  exact hr [] c [] hw ok .refl .nil
theorem qa_cons {w : WE} {r : WA} (ha : PE X e (up X.K E w)) (hr : PA X es (upA X.K E r)) (hs : starEach (e :: es) X.env = (false, eval e X.env) :: starEach es X.env := by rfl) : PA X (e :: es) (upA X.K E (aCons w r)) := pa_to (pa_cons ha hr hs) fun σ H Q q => by
  obtain ⟨c, η, R, x, e1, ok, en, hw, hr, hx⟩ := q
  refine ⟨c, η, _, x, e1, ok, en, hw, fun d c1 v h1 ok1 l1 r1 => ?_, hx⟩
  refine ⟨c1, η, _, x, rfl, ok1, en.le l1, h1, fun ds c2 vs h2 ok2 l2 r2 => ?_, hx.le l1⟩
  exact hr (d :: ds) c2 (v :: vs) h2 ok2 (l1.trans l2) (.cons (l2.rp r1) r2)
theorem qab_nil : PA X [] (upAB X.K E aNil) := pa_to pa_nil fun σ H Q q => by
  obtain ⟨c, η, R, x, e1, ok, en, hw, hr, hx⟩ := q
  show Q [] H
  rw [← e1]
  exact hr [] c [] hw ok .refl .nil
theorem RBL.le {K : PySem.W.Frag} {c c' : Cf} (l : Le c c') : ∀ {vs : List V} {ds : List D}, RBL K c vs ds → RBL K c' vs ds
  | _, _, .nil => .nil
  | _, _, .cons r t => .cons (r.le l) (RBL.le l t)
theorem qab_cons {w : WE} {r : WA} (ha : PE X e (upB X.K E w)) (hr : PA X es (upAB X.K E r)) (hs : starEach (e :: es) X.env = (false, eval e X.env) :: starEach es X.env := by rfl) : PA X (e :: es) (upAB X.K E (aCons w r)) := pa_to (pa_cons ha hr hs) fun σ H Q q => by
  obtain ⟨c, η, R, x, e1, ok, en, hw, hr, hx⟩ := q
  refine ⟨c, η, _, x, e1, ok, en, hw, fun d c1 v h1 ok1 l1 r1 => ?_, hx⟩
  refine ⟨c1, η, _, x, rfl, ok1, en.le l1, h1, fun ds c2 vs h2 ok2 l2 r2 => ?_, hx.le l1⟩
  exact hr (d :: ds) c2 (v :: vs) h2 ok2 (l1.trans l2) (.cons (r1.le l2) r2)
def eTup (w : WA) : WE := fun x η n R => w x η n fun ds n1 => ds.length ≤ sizeLine ∧ R (.tup ds) n1
def nLst (w : WA) : WN := fun x η n R => w x η n fun ds n1 => ds.length ≤ sizeLine ∧ R ds n1
theorem q_tup {x1} {w : WA} (h : PA X es (upA X.K E w)) : PE X (.Tuple es x1 pos) (up X.K E (eTup w)) := pe_to (pe_tup h) fun σ H Q q => by
  obtain ⟨c, η, R, x, e1, ok, en, hw, hr, hx⟩ := q
  refine ⟨c, η, _, x, e1, ok, en, hw, fun ds c1 vs h1 ok1 l1 r1 => ?_, hx⟩
  refine ⟨by rw [r1.length]; exact h1.1, fun p hp => ?_⟩
  exact rp_new_tup (k := fun d => R d c1.n) ok1 hp r1 h1.2 fun d c' z hk hn ok' l' rp => hr d c' z (by rw [hn]; exact hk) ok' (l1.trans l') rp
theorem qn_lst {w : WA} (h : PA X es (upA X.K E w)) : PE X (.List es pos) (upN X.K E (nLst w)) := pe_to (pe_lst h) fun σ H Q q => by
  obtain ⟨c, η, R, x, e1, ok, en, hw, hr, hx⟩ := q
  refine ⟨c, η, _, x, e1, ok, en, hw, fun ds c1 vs h1 ok1 l1 r1 => ?_, hx⟩
  refine ⟨by rw [r1.length]; exact h1.1, fun p hp => ?_⟩
  obtain ⟨ok2, l2, hF, hd⟩ := ok1.newH (o := .lst vs) hp
  have hp0 : No c p := No.back l1 (No.of hp)
  exact hr ds ⟨c1.dr, c1.F, upd c1.H p (.lst vs), c1.n, c1.T⟩ p vs h1.2 ok2 (l1.trans l2) hp0 hF (by rw [← l1.dr]; exact hd) upd_same (l2.rpl r1)

/-! ### built-ins by values -/
abbrev OB := List D → (D → Prop) → Prop
def eCB (o : OB) (w : WA) : WE := fun x η n R => w x η n fun ds n1 => o ds fun d => R d n1
def BD (X : Cx) (r : List V → Hp → VK → Prop) (o : OB) : Prop := ∀ (c : Cf) (vs : List V) (ds : List D) (k : D → Prop) (Q : VK), c.Ok → RBL X.K c vs ds → o ds k →
  (∀ d c' z, k d → c'.n = c.n → c'.Ok → Le c c' → RP X.K c' z d → Q z c'.H) → r vs c.H Q
theorem cb_up {w : WA} {r : List V → Hp → VK → Prop} {o : OB} (h : BD X r o) : ∀ σ H Q, up X.K E (eCB o w) σ H Q → tCB r (upAB X.K E w) σ H Q := fun σ H Q q => by
  obtain ⟨c, η, R, x, e1, ok, en, hw, hr, hx⟩ := q
  refine ⟨c, η, _, x, e1, ok, en, hw, fun ds c1 vs h1 ok1 l1 r1 => ?_, hx⟩
  exact h c1 vs ds _ Q ok1 r1 h1 fun d c2 z hk hn ok2 l2 r2 => hr d c2 z (by rw [hn]; exact hk) ok2 (l1.trans l2) r2
theorem q_B {x : Str} {p : Pos} {id : String} {r : List V → Hp → VK → Prop} {o : OB} {w : WA} (hc : CallR X (.builtin id) r) (h : BD X r o) (hg : Gl X x) (hm : X.mg x = none) (hv : bootBuiltins x = some (.builtin id)) (ha : PA X (e :: es) (upAB X.K E w)) (hn : x ≠ "__name__" := by decide) (hdb : (x == ("__debug__" : Str)) = false := by decide)
    (he : starEach (e :: es) X.env = (false, eval e X.env) :: starEach es X.env := by rfl) (hpl : (backTo pos (starEach es X.env)).any (·.1) = false := by rfl) : PE X (.Call (.Name x p) (e :: es) [] pos) (up X.K E (eCB o w)) :=
  pe_to (pe_callB hc hg hm hv ha hn hdb he hpl) (cb_up h)
/-- len -/
def bLen : OB := fun ds k => match ds with
  | [.lst xs] => k (.int xs.length)
  | [.tup xs] => k (.int xs.length)
  | [.str z] => z.length ≤ sizeLine ∧ k (.int z.length)
  | _ => False
def rLenU (K : PySem.W.Frag) : List V → Hp → VK → Prop := fun xs H Q => (∃ p ys, xs = [.ref p] ∧ (SqL K H p ys ∨ SqT K H p ys) ∧ Q (.int ys.length) H) ∨ ∃ z, xs = [.str z] ∧ z.length ≤ sizeLine ∧ Q (.int z.length) H
theorem call_lenU : CallR X (.builtin "len") (rLenU X.K) := fun pins s σ H xs us Q I r h => by
  rcases h with h | h
  · exact call_len_seq pins s σ H xs us Q I r h
  · exact call_len_str pins s σ H xs us Q I r h
theorem bd_len : BD X (rLenU X.K) bLen := by
  intro c vs ds k Q ok r h hQ
  cases r with
  | nil => exact h.elim
  | cons r1 t =>
    rename_i v vs d ds
    cases t with
    | nil =>
      cases d <;> first | exact h.elim | skip
      · exact .inr ⟨_, by rw [r1.str], h.1, hQ _ c _ h.2 rfl ok .refl (.int _)⟩
      · obtain ⟨p, us, rfl, _, e, rp⟩ := r1.tup ok
        refine .inl ⟨p, us, rfl, .inr (.of e), ?_⟩
        rw [rp.length]
        exact hQ _ c _ h rfl ok .refl (.int _)
      · obtain ⟨p, us, rfl, e, rp⟩ := r1.lst ok
        refine .inl ⟨p, us, rfl, .inl (.of e), ?_⟩
        rw [rp.length]
        exact hQ _ c _ h rfl ok .refl (.int _)
    | cons _ _ => cases d <;> exact h.elim
/-- tuple(..) of a list, a tuple -/
def bTuple : OB := fun ds k => match ds with
  | [.lst xs] => k (.tup xs)
  | [.tup xs] => k (.tup xs)
  | _ => False
/-- list(..) of a list, a tuple (frozen) -/
def bList : OB := fun ds k => match ds with
  | [.lst xs] => k (.lst xs)
  | [.tup xs] => k (.lst xs)
  | _ => False
/-- all, any of a list of bools; sum of a list of ints -/
def blsOf : List D → Option (List Bool)
  | [] => some []
  | .bl i :: r => (blsOf r).map (i :: ·)
  | _ => none
def bAll : OB := fun ds k => match ds with
  | [.lst xs] => ∃ bs, blsOf xs = some bs ∧ k (.bl (bs.all id))
  | _ => False
def bAny : OB := fun ds k => match ds with
  | [.lst xs] => ∃ bs, blsOf xs = some bs ∧ k (.bl (bs.any id))
  | _ => False
end
end DL
set_option maxHeartbeats 2000000
namespace DL
open PySem PySem.Spec PyProof.Rows L2
section
variable {X : Cx} {E : XK}
/-! ### slices -/
abbrev WO := Xn → List Sl → Nat → (Option Int → Nat → Prop) → Prop
def oNo : WO := fun _ _ n R => R none n
def oSo (w : WE) : WO := fun x η n R => w x η n fun d n1 => match d with
  | .int i => R (some i) n1
  | _ => False
def cutD (xs : List D) (lo hi : Option Int) : List D := (xs.drop (HT.sIx xs.length 0 lo)).take (HT.sIx xs.length xs.length hi - HT.sIx xs.length 0 lo)
def oSl : D → Option Int → Option Int → (D → Prop) → Prop := fun a lo hi k => match a with
  | .lst xs => k (.lst (cutD xs lo hi))
  | .tup xs => k (.tup (cutD xs lo hi))
  | _ => False
def eSl (w : WE) (lo hi : WO) : WE := fun x η n R => w x η n fun a n1 => lo x η n1 fun l n2 => hi x η n2 fun h n3 => oSl a l h fun d => R d n3
theorem SlR.or {r r' : V → Option Int → Option Int → Hp → VK → Prop} (h : SlR X r) (h' : SlR X r') : SlR X (fun x l u H Q => r x l u H Q ∨ r' x l u H Q) := by
  intro pins s σ H x v vl vu lo hi sl Q I rx hs pl pu q
  rcases q with q | q
  · exact h pins s σ H x v vl vu lo hi sl Q I rx hs pl pu q
  · exact h' pins s σ H x v vl vu lo hi sl Q I rx hs pl pu q
/-! ### targets -/
abbrev WG := D → List Sl → (List Sl → Prop) → Prop
abbrev WGs := List D → List Sl → (List Sl → Prop) → Prop
/-- the slots but those at is stand -/
def Out (is : List Nat) (σ σ' : L2.St) : Prop := σ'.length = σ.length ∧ ∀ j : Nat, j ∉ is → σ'[j]? = σ[j]?
theorem Out.refl {is : List Nat} {σ : L2.St} : Out is σ σ := ⟨rfl, fun _ _ => rfl⟩
theorem Out.trans {is : List Nat} {σ σ1 σ2 : L2.St} (a : Out is σ σ1) (b : Out is σ1 σ2) : Out is σ σ2 := ⟨b.1.trans a.1, fun j h => (b.2 j h).trans (a.2 j h)⟩
theorem Out.set {is : List Nat} {σ : L2.St} {i : Nat} {v : Option V} (h : i ∈ is) : Out is σ (σ.set i v) := ⟨by simp, fun j hj => List.getElem?_set_ne (fun z => hj (by rw [← z]; exact h))⟩
def upG (K : PySem.W.Frag) (is : List Nat) (g : WG) : TG := fun v σ H Q => ∃ c η d k, c.H = H ∧ c.Ok ∧ EnvOk K c σ η ∧ RP K c v d ∧ g d η k ∧ ∀ η' σ', k η' → EnvOk K c σ' η' → (∀ a, Owned σ' η' a → Owned σ η a) → Out is σ σ' → Q σ' H
def upGs (K : PySem.W.Frag) (is : List Nat) (g : WGs) : TGs := fun vs σ H Q => ∃ c η ds k, c.H = H ∧ c.Ok ∧ EnvOk K c σ η ∧ RPL K c vs ds ∧ g ds η k ∧ ∀ η' σ', k η' → EnvOk K c σ' η' → (∀ a, Owned σ' η' a → Owned σ η a) → Out is σ σ' → Q σ' H
def gNm (i : Nat) : WG := fun d η k => k (η.set i (.dt d))
def gsNil : WGs := fun ds η k => match ds with
  | [] => k η
  | _ => False
def gsCons (g : WG) (r : WGs) : WGs := fun ds η k => match ds with
  | d :: ds => g d η fun η' => r ds η' k
  | [] => False
def gTp (n : Nat) (g : WGs) : WG := fun d η k => match d with
  | .tup ds => ds.length = n ∧ g ds η k
  | _ => False
theorem pg_to {e : Expr} {t t' : TG} (h : PG X e t) (i : ∀ v σ H Q, t' v σ H Q → t v σ H Q) : PG X e t' := ⟨fun pins s σ H v u Q I r q => h.run pins s σ H v u Q I r (i v σ H Q q)⟩
theorem pgs_to {e : List Expr} {t t' : TGs} (h : PGs X e t) (i : ∀ v σ H Q, t' v σ H Q → t v σ H Q) : PGs X e t' := ⟨fun pins s σ H v u Q I r q => h.run pins s σ H v u Q I r (i v σ H Q q)⟩
theorem qg_nm {e : Expr} {i : Nat} {is : List Nat} (h : PG X e (gName i)) (hi : i ∈ is := by decide) : PG X e (upG X.K is (gNm i)) := pg_to h fun v σ H Q q => by
  obtain ⟨c, η, d, k, e1, ok, en, rp, hg, hk⟩ := q
  exact hk _ _ hg (en.set rp) (fun a => owned_set) (.set hi)
theorem qgs_nil {is : List Nat} : PGs X [] (upGs X.K is gsNil) := pgs_to pgs_nil fun vs σ H Q q => by
  obtain ⟨c, η, ds, k, e1, ok, en, rp, hg, hk⟩ := q
  cases rp with
  | nil => exact ⟨rfl, hk _ _ hg en (fun _ h => h) .refl⟩
  | cons _ _ => exact hg.elim
theorem qgs_cons {e : Expr} {es : List Expr} {g : WG} {r : WGs} {is : List Nat} (h1 : PG X e (upG X.K is g)) (h2 : PGs X es (upGs X.K is r))
    (hs : (assignEach (e :: es) X.env).map (·.2) = assign e X.env :: (assignEach es X.env).map (·.2) := by rfl) : PGs X (e :: es) (upGs X.K is (gsCons g r)) := pgs_to (pgs_cons h1 h2 hs) fun vs σ H Q q => by
  obtain ⟨c, η, ds, k, e1, ok, en, rp, hg, hk⟩ := q
  cases rp with
  | nil => exact hg.elim
  | cons r1 t =>
    refine ⟨_, _, rfl, c, η, _, _, e1, ok, en, r1, hg, fun η' σ' hr en' ho ot => ?_⟩
    exact ⟨c, η', _, _, e1, ok, en', t, hr, fun η2 σ2 h2 en2 ho2 ot2 => hk η2 σ2 h2 en2 (fun a z => ho a (ho2 a z)) (ot.trans ot2)⟩
theorem qg_tp {es : List Expr} {k : Nat} {pos : Pos} {g : WGs} {n : Nat} {is : List Nat} (hc : X.calm = true) (h : PGs X es (upGs X.K is g))
    (hn : (assignEach es X.env).length = n := by rfl) (hst : (assignEach es X.env).findIdx? (·.1) = none := by rfl) : PG X (.Tuple es k pos) (upG X.K is (gTp n g)) := pg_to (pg_tup hc h hn hst) fun v σ H Q q => by
  obtain ⟨c, η, d, k, e1, ok, en, rp, hg, hk⟩ := q
  cases rp <;> first | exact hg.elim | skip
  rename_i a vs ds f r
  refine ⟨a, vs, rfl, .of (by rw [← e1]; exact ok.sub _ _ f), by rw [r.length]; exact hg.1, c, η, ds, k, e1, ok, en, r, hg.2, hk⟩

/-! ### statements -/
def sNext : WS := fun _ k η n => k.nx η n
def sSeq (a b : WS) : WS := fun x k η n => a x { k with nx := fun η' n' => b x k η' n' } η n
def sRet (w : WE) : WS := fun x k η n => w x η n k.rt
def sRetN : WS := fun _ k _ n => k.rt .non n
def sIf (t : WT) (a b : WS) : WS := fun x k η n => t x η n fun c n1 => if c = true then a x k η n1 else b x k η n1
def sExpr (w : WE) : WS := fun x k η n => w x η n fun _ n1 => k.nx η n1
def sAsg (w : WE) (g : WG) : WS := fun x k η n => w x η n fun d n1 => g d η fun η' => k.nx η' n1
def sSetN (i : Nat) (w : WN) : WS := fun x k η n => w x η n fun xs n1 => k.nx (η.set i (.ow xs)) n1
variable {st : Stmt} {rest : List Stmt} {pos : Pos}
theorem own_refl {σ : L2.St} {η : List Sl} {c : Cf} : ∀ a, Owned σ η a → Owned σ η a ∨ No c a := fun _ h => .inl h
theorem qss_nil : PSs X [] (upS X.K E sNext) := pss_to pss_nil fun D σ H q => by
  obtain ⟨c, η, k, x, e1, ok, en, hw, h1, _⟩ := q
  show D.nx σ H
  rw [← e1]
  exact h1 η c σ hw ok .refl own_refl en
/-- owners that come along -/
theorem own_trans {σ σ1 σ2 : L2.St} {η η1 η2 : List Sl} {c c1 : Cf} (l : LeO (Owned σ η) c c1) (h1 : ∀ a, Owned σ1 η1 a → Owned σ η a ∨ No c a) (h2 : ∀ a, Owned σ2 η2 a → Owned σ1 η1 a ∨ No c1 a) (ok : c.Ok) (ok1 : c1.Ok) : ∀ a, Owned σ2 η2 a → Owned σ η a ∨ No c a := fun a h => by
  rcases h2 a h with z | z
  · exact h1 a z
  · exact .inr (No.back l z)
theorem qss_cons {w u : WS} (h1 : PS X st (upS X.K E w)) (h2 : PSs X rest (upS X.K E u)) : PSs X (st :: rest) (upS X.K E (sSeq w u)) := pss_to (pss_cons h1 h2) fun D σ H q => by
  obtain ⟨c, η, k, x, e1, ok, en, hw, h1, h2, h3, h4, hx⟩ := q
  refine ⟨c, η, _, x, e1, ok, en, hw, fun η1 c1 σ1 hn ok1 l1 ho1 en1 => ?_, h2, h3, h4, hx⟩
  refine ⟨c1, η1, k, x, rfl, ok1, en1, hn, fun η2 c2 σ2 hn2 ok2 l2 ho2 en2 => ?_, fun d c2 v hd ok2 l2 rp => ?_, fun η2 c2 σ2 hn2 ok2 l2 ho2 en2 => ?_, fun η2 c2 σ2 hn2 ok2 l2 ho2 en2 => ?_, hx.step l1 ho1⟩
  · exact h1 η2 c2 σ2 hn2 ok2 (l1.trans l2 ho1) (own_trans l1 ho1 ho2 ok ok1) en2
  · exact h2 d c2 v hd ok2 (l1.trans l2 ho1) rp
  · exact h3 η2 c2 σ2 hn2 ok2 (l1.trans l2 ho1) (own_trans l1 ho1 ho2 ok ok1) en2
  · exact h4 η2 c2 σ2 hn2 ok2 (l1.trans l2 ho1) (own_trans l1 ho1 ho2 ok ok1) en2
theorem qss_one {w : WS} (h1 : PS X st (upS X.K E w)) : PSs X [st] (upS X.K E w) := pss_one h1
theorem qs_ret {e : Expr} {w : WE} (h : PE X e (up X.K E w)) : PS X (.Return (some e) pos) (upS X.K E (sRet w)) := ps_to (ps_ret h) fun D σ H q => by
  obtain ⟨c, η, k, x, e1, ok, en, hw, h1, h2, h3, h4, hx⟩ := q
  exact ⟨c, η, _, x, e1, ok, en, hw, fun d c' v hd ok' l' rp => h2 d c' v hd ok' (LeO.of l') rp, hx.none⟩
theorem up_at {w : WS} {c c' : Cf} {η : List Sl} {k : Wk} {x : Xn} {σ : L2.St} {D : Ends} (en : EnvOk X.K c σ η) (ok' : c'.Ok) (l' : Le c c') (hw : w x k η c'.n)
    (h1 : ∀ η' c' σ', k.nx η' c'.n → c'.Ok → LeO (Owned σ η) c c' → (∀ a, Owned σ' η' a → Owned σ η a ∨ No c a) → EnvOk X.K c' σ' η' → D.nx σ' c'.H)
    (h2 : ∀ d c' v, k.rt d c'.n → c'.Ok → LeO (Owned σ η) c c' → RP X.K c' v d → D.rt v c'.H)
    (h3 : ∀ η' c' σ', k.bk η' c'.n → c'.Ok → LeO (Owned σ η) c c' → (∀ a, Owned σ' η' a → Owned σ η a ∨ No c a) → EnvOk X.K c' σ' η' → D.bk σ' c'.H)
    (h4 : ∀ η' c' σ', k.ct η' c'.n → c'.Ok → LeO (Owned σ η) c c' → (∀ a, Owned σ' η' a → Owned σ η a ∨ No c a) → EnvOk X.K c' σ' η' → D.ct σ' c'.H)
    (hx : XW X.K E x (Owned σ η) c) (ok : c.Ok) : upS X.K E w D σ c'.H := by
  have z : ∀ {σ2 : L2.St} {η2 : List Sl}, (∀ a, Owned σ2 η2 a → Owned σ η a ∨ No c' a) → ∀ a, Owned σ2 η2 a → Owned σ η a ∨ No c a := fun ho => own_trans (LeO.of l') own_refl ho ok ok'
  exact ⟨c', η, k, x, rfl, ok', en.le l', hw, fun η2 c2 σ2 hn ok2 l2 ho en2 => h1 η2 c2 σ2 hn ok2 (l'.thnO l2) (z ho) en2, fun d c2 v hd ok2 l2 rp => h2 d c2 v hd ok2 (l'.thnO l2) rp,
    fun η2 c2 σ2 hn ok2 l2 ho en2 => h3 η2 c2 σ2 hn ok2 (l'.thnO l2) (z ho) en2, fun η2 c2 σ2 hn ok2 l2 ho en2 => h4 η2 c2 σ2 hn ok2 (l'.thnO l2) (z ho) en2, hx.le l'⟩
theorem qs_if {t : Expr} {a b : List Stmt} {wt : WT} {wa wb : WS} (ht : PT X t (upT X.K E wt)) (ha : PSs X a (upS X.K E wa)) (hb : PSs X b (upS X.K E wb)) : PS X (.If t a b pos) (upS X.K E (sIf wt wa wb)) := ps_to (ps_if ht ha hb) fun D σ H q => by
  obtain ⟨c, η, k, x, e1, ok, en, hw, h1, h2, h3, h4, hx⟩ := q
  refine ⟨c, η, _, x, e1, ok, en, hw, fun b c' hd ok' l' => ?_, hx.none⟩
  cases b with
  | true => exact up_at en ok' l' hd h1 h2 h3 h4 hx ok
  | false => exact up_at en ok' l' hd h1 h2 h3 h4 hx ok
theorem asg_up {w : WE} {g : WG} {is : List Nat} : ∀ D σ H, upS X.K E (sAsg w g) D σ H → tAsg (up X.K E w) (upG X.K is g) D σ H := fun D σ H q => by
  obtain ⟨c, η, k, x, e1, ok, en, hw, h1, h2, h3, h4, hx⟩ := q
  refine ⟨c, η, _, x, e1, ok, en, hw, fun d c' v hd ok' l' rp => ?_, hx.none⟩
  exact ⟨c', η, d, _, rfl, ok', en.le l', rp, hd, fun η' σ' hk en' ho _ => h1 η' c' σ' hk ok' (LeO.of l') (fun a z => .inl (ho a z)) en'⟩
theorem qs_asg {tg e : Expr} {w : WE} {g : WG} (is : List Nat) (h : PE X e (up X.K E w)) (hg : PG X tg (upG X.K is g)) (hs : swapsWithSole [tg] e pos.line X.env = pure false := by rfl) (hw : swappedStores [tg] e X.env = pure none := by rfl)
    (h1 : (assignEach [tg] X.env).map (·.2) = [assign tg X.env] := by rfl) : PS X (.Assign [tg] e pos) (upS X.K E (sAsg w g)) := ps_to (ps_asg h hg hs hw h1) asg_up
/-- name = e, frozen -/
theorem qs_set {i : Nat} {y : Str} {e : Expr} {w : WE} {pos' : Pos} (hN : X.N.Nodup) (hi : X.N[i]? = some y) (hy : Loc X.env.scope y) (he : PE X e (up X.K E w)) (hs : swapsWith e (some (.Name y pos')) pos.line X.env = pure false := by rfl) (hf : X.fn y = true ∨ X.env.scope.names.lookup y = some .local := by first | exact .inl rfl | exact .inr rfl | assumption) :
    PS X (.Assign [.Name y pos'] e pos) (upS X.K E (sAsg w (gNm i))) := ps_to (ps_set hN hi hy he hs hf) fun D σ H q => by
  obtain ⟨c, η, k, x, e1, ok, en, hw, h1, h2, h3, h4, hx⟩ := q
  refine ⟨c, η, _, x, e1, ok, en, hw, fun d c' v hd ok' l' rp => ?_, hx.none⟩
  exact h1 _ c' _ hd ok' (LeO.of l') (fun a z => .inl (owned_set z)) ((en.le l').set rp)
end
end DL
set_option maxHeartbeats 2000000
namespace DL
open PySem PySem.Spec PyProof.Rows L2

/-! ### what is walked -/
/-- the frozen part has grown -/
structure Fs (c c1 : Cf) : Prop where
  dr : c1.dr = c.dr
  f : ∀ a o, c.F a = some o → c1.F a = some o
theorem Fs.of {ow : Addr → Prop} {c c1 : Cf} (l : LeO ow c c1) : Fs c c1 := ⟨l.dr, l.f⟩
theorem Fs.trans {c c1 c2 : Cf} (a : Fs c c1) (b : Fs c1 c2) : Fs c c2 := ⟨b.dr.trans a.dr, fun x o h => b.f x o (a.f x o h)⟩
theorem Fs.rp {K : PySem.W.Frag} {c c1 : Cf} {v : V} {d : D} (l : Fs c c1) (h : RP K c v d) : RP K c1 v d := by
  have e := Rp.mono (K := K) (dr := c.dr) l.f d v h
  show Rp K c1.dr c1.F v d
  rw [l.dr]
  exact e
theorem Fs.rpl {K : PySem.W.Frag} {c c1 : Cf} {v : List V} {d : List D} (l : Fs c c1) (h : RPL K c v d) : RPL K c1 v d := by
  have e := RpL.mono (K := K) (dr := c.dr) l.f d v h
  show RpL K c1.dr c1.F v d
  rw [l.dr]
  exact e
def IterOk (K : PySem.W.Frag) (J : It) (c : Cf) (xs : List D) : Prop := ∀ (i : Nat) (c1 : Cf), c1.Ok → Fs c c1 →
  (∀ d, xs[i]? = some d → J.go i c1.H ∧ ∀ v H2, J.yld i c1.H v H2 → ∃ c2 : Cf, c2.H = H2 ∧ c2.n = c1.n ∧ c2.Ok ∧ Le c1 c2 ∧ RP K c2 v d) ∧ (xs.length ≤ i → J.stop i c1.H)
abbrev WI := Xn → List Sl → Nat → (List D → Nat → Prop) → Prop
def upI (K : PySem.W.Frag) (E : XK) (w : WI) : TI := fun σ H Q => ∃ c η R x, c.H = H ∧ c.Ok ∧ EnvOk K c σ η ∧ w x η c.n R ∧ (∀ xs c' J, R xs c'.n → c'.Ok → Le c c' → IterOk K J c' xs → Q J c'.H) ∧ XW K E x (fun _ => False) c
section
variable {X : Cx} {E : XK} {tg : Expr}
theorem pi_to {e : Expr} {t t' : TI} (h : PI X tg e t) (i : ∀ σ H Q, t' σ H Q → t σ H Q) : PI X tg e t' := ⟨fun pins s σ H Q I q => h.run pins s σ H Q I (i σ H Q q)⟩
/-- a list or a tuple, whichever it is -/
def iSeq (K : PySem.W.Frag) (tl : TE) : TI := fun σ H R => tl σ H fun x H1 => ∃ a, x = .ref a ∧ (((∃ xs, SqL K H1 a xs) ∧ R (Itl K a) H1) ∨ ((∃ xs, SqT K H1 a xs) ∧ R (Itt K a) H1))
theorem pi_seq {l : Expr} {tl : TE} (hl : PE X l tl) : PI X tg l (iSeq X.K tl) := by
  refine ⟨fun pins s σ H R I h => ?_⟩
  refine thn (hl.run pins s σ H _ I h) fun v s1 ⟨x, H1, I1, r1, q1⟩ => ?_
  obtain ⟨a, e, q⟩ := q1
  subst e
  cases r1
  rcases q with ⟨⟨xs, hq⟩, q⟩ | ⟨⟨xs, hq⟩, q⟩
  · obtain ⟨its, rv, p, hz⟩ := I1.list hq
    refine wpAny_pyIter_list p.isList ?_
    refine ⟨s1.heap.objs.size, [s1.heap.objs.size], _, _, H1, rfl, I1.kept (t' := s1.toks) fun b o e => Heap.get?_push_of_some _ e, turn_list a _, ⟨_, Heap.get?_push_size _ rfl, rfl, rfl⟩, fun b hb => ?_, q⟩
    have e : b = s1.heap.objs.size := by simpa using hb
    subst e
    exact I1.fpOk (Nat.le_refl _) (I1.hok.fresh (Nat.le_refl _))
  · obtain ⟨its, rv, p, hz⟩ := I1.tuple hq
    refine wpAny_pyIter_tuple (show s1.heap.IsTuple a its.toArray from p) ?_
    refine ⟨s1.heap.objs.size, [s1.heap.objs.size], _, _, H1, rfl, I1.kept (t' := s1.toks) fun b o e => Heap.get?_push_of_some _ e, turn_tuple a _, ⟨_, Heap.get?_push_size _ rfl, rfl, rfl⟩, fun b hb => ?_, q⟩
    have e : b = s1.heap.objs.size := by simpa using hb
    subst e
    exact I1.fpOk (Nat.le_refl _) (I1.hok.fresh (Nat.le_refl _))
/-- the items of a sequence -/
def seqOf : D → (List D → Prop) → Prop
  | .lst xs, k => k xs
  | .tup xs, k => k xs
  | _, _ => False
def iSq (w : WE) : WI := fun x η n R => w x η n fun d n1 => seqOf d fun xs => R xs n1
theorem iter_lst {K : PySem.W.Frag} {c : Cf} {a : Addr} {vs : List V} {xs : List D} (f : c.F a = some (.lst vs)) (r : RPL K c vs xs) : IterOk K (Itl K a) c xs := fun i c1 ok1 l1 => by
  have e : c1.H a = some (.lst vs) := ok1.sub _ _ (l1.f _ _ f)
  refine ⟨fun d hd => ?_, fun hi => ?_⟩
  · obtain ⟨v, hv, rv⟩ := r.get hd
    refine ⟨⟨vs, v, .of e, hv⟩, fun u H2 hy => ?_⟩
    obtain ⟨rfl, hy⟩ := hy
    have z := hy vs (.of e)
    rw [hv] at z
    cases z
    exact ⟨c1, rfl, rfl, ok1, .refl, l1.rp rv⟩
  · exact ⟨vs, .of e, by rw [r.length]; exact hi⟩
theorem iter_tup {K : PySem.W.Frag} {c : Cf} {a : Addr} {vs : List V} {xs : List D} (f : c.F a = some (.tup vs)) (r : RPL K c vs xs) : IterOk K (Itt K a) c xs := fun i c1 ok1 l1 => by
  have e : c1.H a = some (.tup vs) := ok1.sub _ _ (l1.f _ _ f)
  refine ⟨fun d hd => ?_, fun hi => ?_⟩
  · obtain ⟨v, hv, rv⟩ := r.get hd
    refine ⟨⟨vs, v, .of e, hv⟩, fun u H2 hy => ?_⟩
    obtain ⟨rfl, hy⟩ := hy
    have z := hy vs (.of e)
    rw [hv] at z
    cases z
    exact ⟨c1, rfl, rfl, ok1, .refl, l1.rp rv⟩
  · exact ⟨vs, .of e, by rw [r.length]; exact hi⟩
theorem qi_sq {l : Expr} {w : WE} (h : PE X l (up X.K E w)) : PI X tg l (upI X.K E (iSq w)) := pi_to (pi_seq h) fun σ H Q q => by
  obtain ⟨c, η, R, x, e1, ok, en, hw, hr, hx⟩ := q
  refine ⟨c, η, _, x, e1, ok, en, hw, fun d c' v hd ok' l' rp => ?_, hx⟩
  cases rp <;> first | exact hd.elim | skip
  · rename_i a vs ds f r
    exact ⟨a, rfl, .inr ⟨⟨vs, .of (ok'.sub _ _ f)⟩, hr ds c' _ hd ok' l' (iter_tup f r)⟩⟩
  · rename_i a vs ds f r
    exact ⟨a, rfl, .inl ⟨⟨vs, .of (ok'.sub _ _ f)⟩, hr ds c' _ hd ok' l' (iter_lst f r)⟩⟩
/-- ranges -/
def rangeD (lo : Int) : Nat → List D
  | 0 => []
  | n + 1 => .int lo :: rangeD (lo + 1) n
theorem rangeD_len : ∀ (n : Nat) (lo : Int), (rangeD lo n).length = n
  | 0, _ => rfl
  | n + 1, lo => congrArg Nat.succ (rangeD_len n (lo + 1))
theorem rangeD_get : ∀ (n : Nat) (lo : Int) (i : Nat) (d : D), (rangeD lo n)[i]? = some d → i < n ∧ d = .int (lo + i)
  | 0, _, i, d, h => by simp [rangeD] at h
  | n + 1, lo, 0, d, h => by
    simp [rangeD] at h
    subst h
    exact ⟨Nat.succ_pos _, by simp⟩
  | n + 1, lo, i + 1, d, h => by
    have h' : (rangeD (lo + 1) n)[i]? = some d := by simpa [rangeD] using h
    obtain ⟨h1, h2⟩ := rangeD_get n (lo + 1) i d h'
    refine ⟨Nat.succ_lt_succ h1, ?_⟩
    rw [h2]
    congr 1
    omega
theorem iter_rng {K : PySem.W.Frag} {c : Cf} {lo : Int} {n : Nat} : IterOk K (Itr lo n) c (rangeD lo n) := fun i c1 ok1 l1 => by
  refine ⟨fun d hd => ?_, fun hi => by rw [rangeD_len] at hi; exact hi⟩
  obtain ⟨h1, h2⟩ := rangeD_get n lo i d hd
  refine ⟨h1, fun v H2 hy => ?_⟩
  obtain ⟨rfl, rfl⟩ := hy
  subst h2
  exact ⟨c1, rfl, rfl, ok1, .refl, .int _⟩
def Rg (i : Int) : Prop := -(2 ^ 62) ≤ i ∧ i < 2 ^ 62
def iR1 (w : WA) : WI := fun x η n R => w x η n fun ds n1 => match ds with
  | [.int j] => Rg j ∧ R (rangeD 0 j.toNat) n1
  | _ => False
theorem qi_r1 {a : Expr} {w : WA} {p pos : Pos} (hg : Gl X "range") (hm : X.mg "range" = none) (ha : PA X [a] (upA X.K E w)) (hs : starEach [a] X.env = [(false, eval a X.env)] := by rfl) : PI X tg (.Call (.Name "range" p) [a] [] pos) (upI X.K E (iR1 w)) := pi_to (pi_range1 hg hm ha hs) fun σ H Q q => by
  obtain ⟨c, η, R, x, e1, ok, en, hw, hr, hx⟩ := q
  refine ⟨c, η, _, x, e1, ok, en, hw, fun ds c' vs hd ok' l' rp => ?_, hx⟩
  split at hd
  · rename_i j
    obtain ⟨⟨g1, g2⟩, hd⟩ := hd
    cases rp with
    | cons r1 t =>
      cases t
      cases r1
      exact ⟨j, rfl, g1, g2, hr _ c' _ hd ok' l' iter_rng⟩
  · exact hd.elim
/-- enumerate of a list -/
def enumD (i : Int) : List D → List D
  | [] => []
  | d :: ds => .tup [.int i, d] :: enumD (i + 1) ds
theorem enumD_len : ∀ (ds : List D) (i : Int), (enumD i ds).length = ds.length
  | [], _ => rfl
  | d :: ds, i => congrArg Nat.succ (enumD_len ds (i + 1))
theorem enumD_get : ∀ (ds : List D) (s : Int) (i : Nat) (d : D), (enumD s ds)[i]? = some d → ∃ d', ds[i]? = some d' ∧ d = .tup [.int (s + i), d']
  | [], _, i, d, h => by simp [enumD] at h
  | d0 :: ds, s, 0, d, h => by
    simp [enumD] at h
    exact ⟨d0, rfl, by rw [← h]; simp⟩
  | d0 :: ds, s, i + 1, d, h => by
    have h' : (enumD (s + 1) ds)[i]? = some d := by simpa [enumD] using h
    obtain ⟨d', h1, h2⟩ := enumD_get ds (s + 1) i d h'
    refine ⟨d', by simpa using h1, ?_⟩
    rw [h2]
    congr 3
    omega
theorem new_pair {K : PySem.W.Frag} {c : Cf} {T : Addr} {x y : V} {a b : D} (ok : c.Ok) (hT : c.H T = none) (rx : RP K c x a) (ry : RP K c y b) : ∃ c2 : Cf, c2.H = upd c.H T (.tup [x, y]) ∧ c2.n = c.n ∧ c2.Ok ∧ Le c c2 ∧ RP K c2 (.ref T) (.tup [a, b]) := by
  obtain ⟨ok2, l2⟩ := ok.newF (o := .tup [x, y]) hT
  exact ⟨⟨c.dr, upd c.F T (.tup [x, y]), upd c.H T (.tup [x, y]), c.n, c.T⟩, rfl, rfl, ok2, l2, .tup upd_same (.cons (l2.rp rx) (.cons (l2.rp ry) .nil))⟩
theorem iter_enum {K : PySem.W.Frag} {c : Cf} {a : Addr} {vs : List V} {xs : List D} (f : c.F a = some (.lst vs)) (r : RPL K c vs xs) : IterOk K (Ite K a) c (enumD 0 xs) := fun i c1 ok1 l1 => by
  have e : c1.H a = some (.lst vs) := ok1.sub _ _ (l1.f _ _ f)
  refine ⟨fun d hd => ?_, fun hi => ?_⟩
  · obtain ⟨d', h1, h2⟩ := enumD_get xs 0 i d hd
    obtain ⟨v, hv, rv⟩ := r.get h1
    refine ⟨⟨vs, v, .of e, hv⟩, fun u H2 hy => ?_⟩
    obtain ⟨T, z, rfl, hT, rfl, hz⟩ := hy
    have q := hz vs (.of e)
    rw [hv] at q
    cases q
    subst h2
    have := new_pair ok1 hT (Rp.int (K := K) (dr := c1.dr) (F := c1.F) (i : Int)) (l1.rp rv)
    simpa using this
  · rw [enumD_len] at hi
    exact ⟨vs, .of e, by rw [r.length]; exact hi⟩
def iEn (w : WA) : WI := fun x η n R => w x η n fun ds n1 => match ds with
  | [.lst xs] => R (enumD 0 xs) n1
  | _ => False
theorem qi_en {e : Expr} {w : WA} {p pos tpos : Pos} {elts : List Expr} {kk : Nat} (hg : Gl X "enumerate") (hm : X.mg "enumerate" = none) (ha : PA X [e] (upA X.K E w)) (hs : starEach [e] X.env = [(false, eval e X.env)] := by rfl) :
    PI X (.Tuple elts kk tpos) (.Call (.Name "enumerate" p) [e] [] pos) (upI X.K E (iEn w)) := pi_to (pi_enum hg hm ha hs) fun σ H Q q => by
  obtain ⟨c, η, R, x, e1, ok, en, hw, hr, hx⟩ := q
  refine ⟨c, η, _, x, e1, ok, en, hw, fun ds c' vs hd ok' l' rp => ?_, hx⟩
  split at hd
  · cases rp with
    | cons r1 t =>
      cases t
      cases r1 with
      | lst f r => exact ⟨_, _, rfl, .of (ok'.sub _ _ f), hr _ c' _ hd ok' l' (iter_enum f r)⟩
  · exact hd.elim
/-- zip of two lists, of two tuples -/
def zipD : List D → List D → List D
  | a :: as, b :: bs => .tup [a, b] :: zipD as bs
  | _, _ => []
def iZp (w : WA) : WI := fun x η n R => w x η n fun ds n1 => match ds with
  | [.lst xs, .lst ys] => R (zipD xs ys) n1
  | [.tup xs, .tup ys] => R (zipD xs ys) n1
  | _ => False
/-! ### for -/
def runFor (x : Xn) (k : Wk) (g : WG) (b : WS) : List D → List Sl → Nat → Prop
  | [], η, n => k.nx η n
  | d :: ds, η, n => g d η fun η' => b x { nx := runFor x k g b ds, ct := runFor x k g b ds, bk := k.nx, rt := k.rt } η' n
def sFor (wi : WI) (g : WG) (b : WS) : WS := fun x k η n => wi x η n fun xs n1 => runFor x k g b xs η n1
variable {pos : Pos}
theorem qs_for {iter : Expr} {body : List Stmt} {wi : WI} {g : WG} {b : WS} (hp : PassesOwn (model X.prog X.w) X.A X.env X.xe) (hc : X.calm = true) (hi : PI X tg iter (upI X.K E wi)) {is : List Nat} (hg : PG X tg (upG X.K is g)) (hb : PSs X body (upS X.K E b))
    (hs : ∀ x, foldedSetIterable iter X.env x = pure x := by intro _; rfl) : PS X (.For tg iter body [] pos) (upS X.K E (sFor wi g b)) := ps_to (ps_for hp hc hi hg hb hs) fun D σ H q => by
  obtain ⟨c, η, k, x, e1, ok, en, hw, h1, h2, h3, h4, hx⟩ := q
  refine ⟨c, η, _, x, e1, ok, en, hw, fun xs c0 J hd ok0 l0 it => ?_, hx.none⟩
  refine ⟨fun i m σ1 H1 => ∃ c1 η1, c1.H = H1 ∧ c1.Ok ∧ EnvOk X.K c1 σ1 η1 ∧ LeO (Owned σ η) c c1 ∧ (∀ a, Owned σ1 η1 a → Owned σ η a ∨ No c a) ∧ Fs c0 c1 ∧ i + m = xs.length ∧ runFor x k g b (xs.drop i) η1 c1.n,
    ⟨xs.length, c0, η, rfl, ok0, en.le l0, LeO.of l0, own_refl, ⟨rfl, fun _ _ h => h⟩, by omega, by simpa using hd⟩, ?_⟩
  rintro i m σ1 H1 ⟨c1, η1, rfl, ok1, en1, l1, ho1, f1, hm, hrun⟩
  obtain ⟨it1, it2⟩ := it i c1 ok1 f1
  by_cases hlt : i < xs.length
  · have hget : xs[i]? = some xs[i] := List.getElem?_eq_getElem hlt
    obtain ⟨go, yl⟩ := it1 _ hget
    have hdrop : xs.drop i = xs[i] :: xs.drop (i + 1) := (List.getElem_cons_drop (h := hlt)).symm
    rw [hdrop] at hrun
    refine .inr ⟨go, fun σ2 H2 => ∃ c2 η2, c2.H = H2 ∧ c2.Ok ∧ EnvOk X.K c2 σ2 η2 ∧ LeO (Owned σ η) c c2 ∧ (∀ a, Owned σ2 η2 a → Owned σ η a ∨ No c a) ∧ Fs c0 c2 ∧ runFor x k g b (xs.drop (i + 1)) η2 c2.n, fun σ2 H2 hN => ?_, fun v H2 hy => ?_⟩
    · obtain ⟨c2, η2, z1, z2, z3, z4, z5, z6, z7⟩ := hN
      exact ⟨m - 1, by omega, c2, η2, z1, z2, z3, z4, z5, z6, by omega, z7⟩
    · obtain ⟨c2, rfl, hn2, ok2, l2, rp2⟩ := yl v H2 hy
      refine ⟨c2, η1, xs[i], _, rfl, ok2, en1.le l2, rp2, hrun, fun η3 σ3 hb3 en3 ho3 _ => ?_⟩
      have l12 : LeO (Owned σ η) c c2 := l1.thn l2
      have ho3' : ∀ a, Owned σ3 η3 a → Owned σ η a ∨ No c a := fun a z => ho1 a (ho3 a z)
      have f2 : Fs c0 c2 := f1.trans (Fs.of l2)
      have nx : ∀ η4 c4 σ4, runFor x k g b (xs.drop (i + 1)) η4 c4.n → c4.Ok → LeO (Owned σ3 η3) c2 c4 → (∀ a, Owned σ4 η4 a → Owned σ3 η3 a ∨ No c2 a) → EnvOk X.K c4 σ4 η4 → ∃ c2 η2, c2.H = c4.H ∧ c2.Ok ∧ EnvOk X.K c2 σ4 η2 ∧ LeO (Owned σ η) c c2 ∧ (∀ a, Owned σ4 η2 a → Owned σ η a ∨ No c a) ∧ Fs c0 c2 ∧ runFor x k g b (xs.drop (i + 1)) η2 c2.n :=
        fun η4 c4 σ4 hr4 ok4 l4 ho4 en4 => ⟨c4, η4, rfl, ok4, en4, l12.trans l4 ho3', own_trans l12 ho3' ho4 ok ok2, f2.trans (Fs.of l4), hr4⟩
      refine ⟨c2, η3, { nx := runFor x k g b (xs.drop (i + 1)), ct := runFor x k g b (xs.drop (i + 1)), bk := k.nx, rt := k.rt }, x, rfl, ok2, en3, (by rw [hn2]; exact hb3), nx, fun d c4 v hd4 ok4 l4 rp4 => h2 d c4 v hd4 ok4 (l12.trans l4 ho3') rp4, fun η4 c4 σ4 hr4 ok4 l4 ho4 en4 => ?_, nx, hx.step l12 ho3'⟩
      exact h1 η4 c4 σ4 hr4 ok4 (l12.trans l4 ho3') (own_trans l12 ho3' ho4 ok ok2) en4
  · have hdrop : xs.drop i = [] := List.drop_eq_nil_of_le (by omega)
    rw [hdrop] at hrun
    exact .inl ⟨it2 (by omega), h1 η1 c1 σ1 hrun ok1 l1 ho1 en1⟩
/-! ### list comprehensions -/
def wipeS (η : List Sl) : List Nat → List Sl
  | [] => η
  | v :: vs => (wipeS η vs).set v .un
theorem EnvOk.wipe {K : PySem.W.Frag} {c : Cf} {σ : L2.St} {η : List Sl} (e : EnvOk K c σ η) : ∀ vs : List Nat, EnvOk K c (L2.wipe σ vs) (wipeS η vs)
  | [] => e
  | v :: vs => (EnvOk.wipe e vs).unset
def runLc (x : Xn) (η : List Sl) (g : WG) (t : WT) (w : WE) (R : List D → Nat → Prop) : List D → List D → Nat → Prop
  | [], acc, n => R acc n
  | d :: ds, acc, n => g d η fun η' => t x η' n fun b n1 => if b = true then w x η' n1 fun y n2 => acc.length < sizeLine ∧ runLc x η g t w R ds (acc ++ [y]) n2 else runLc x η g t w R ds acc n1
def nLc (vs : List Nat) (wi : WI) (g : WG) (t : WT) (w : WE) : WN := fun x η n R => wi x η n fun xs n1 => runLc x (wipeS η vs) g t w R xs [] n1
def wYes : WT := fun _ _ n R => R true n
theorem pts_to {e : List Expr} {t t' : TT} (h : PTs X e t) (i : ∀ σ H Q, t' σ H Q → t σ H Q) : PTs X e t' := ⟨fun pins s σ H Q I q => h.run pins s σ H Q I (i σ H Q q)⟩
theorem qts_nil : PTs X [] (upT X.K E wYes) := pts_to pts_nil fun σ H Q q => by
  obtain ⟨c, η, R, x, e1, ok, en, hw, hr, hx⟩ := q
  show Q true H
  rw [← e1]
  exact hr true c hw ok .refl
/-- the list under way, at D, is changed: c goes on -/
theorem Cf.Ok.put {c0 c : Cf} {p : Addr} {o u : HO} (ok : c.Ok) (l : Le c0 c) (h0 : No c0 p) (hp : c.H p = some o) (hF : c.F p = none) (hd : p ≠ c.dr) (hz1 : ∀ ps, o ≠ .tbl ps := by exact nofun) (hz2 : ∀ c q, o ≠ LamX.CodeO c q := by intro _ _ z; cases z) (hz3 : ∀ ps, u ≠ .tbl ps := by exact nofun) : (⟨c.dr, c.F, upd c.H p u, c.n, c.T⟩ : Cf).Ok ∧ Le c0 ⟨c.dr, c.F, upd c.H p u, c.n, c.T⟩ := by
  refine ⟨⟨fun a w e => ?_, ok.nf, ?_, tabs_put ok.tb hp hz1 hz2, ok.nt⟩, l.dr, l.f, fun a w h1 h2 hz h3 => ?_, l.fr, fun a w hw e => ?_, l.T⟩
  · show upd c.H p u a = some w
    rw [upd_ne (ne_of_none e hF)]
    exact ok.sub _ _ e
  · show Drw c.n c.F (upd c.H p u c.dr)
    rw [upd_ne (Ne.symm hd)]
    exact ok.dw
  · show upd c.H p u a = some w
    rw [upd_ne (fun z => h0.ne hz (by rw [← z]; exact h3))]
    exact l.h a w h1 h2 hz h3
  · obtain ⟨o', hz', e'⟩ := l.hd a w hw e
    exact upd_some hz' hz3 e'
/-! the comprehension's block -/
theorem wipe_get (σ : L2.St) : ∀ (is : List Nat) (j : Nat), (L2.wipe σ is)[j]? = if j ∈ is then (σ[j]?).map (fun _ => none) else σ[j]?
  | [], j => by simp [L2.wipe]
  | i :: is, j => by
    unfold L2.wipe
    by_cases h : j = i
    · subst h
      rw [List.getElem?_set]
      simp only [if_true, List.mem_cons, true_or, L2.wipe_length]
      by_cases hl : j < σ.length
      · simp [hl]
      · simp [hl]
    · rw [List.getElem?_set_ne (Ne.symm h), wipe_get σ is j]
      simp [h]
theorem wipe_out {is : List Nat} {σ σ' : L2.St} (h : Out is (L2.wipe σ is) σ') : L2.wipe σ' is = L2.wipe σ is := by
  apply List.ext_getElem?
  intro j
  rw [wipe_get, wipe_get]
  by_cases hj : j ∈ is
  · rw [if_pos hj, if_pos hj]
    have hl : σ'.length = σ.length := by rw [h.1, L2.wipe_length]
    by_cases hb : j < σ.length
    · rw [List.getElem?_eq_getElem hb, List.getElem?_eq_getElem (by omega : j < σ'.length)]
      rfl
    · rw [List.getElem?_eq_none_iff.mpr (by omega : σ.length ≤ j), List.getElem?_eq_none_iff.mpr (by omega : σ'.length ≤ j)]
  · rw [if_neg hj, if_neg hj, h.2 j hj, wipe_get, if_neg hj]
theorem lc_up {K : PySem.W.Frag} {is : List Nat} {wi : WI} {g : WG} {t : WT} {w : WE} : ∀ σ H Q, upN K E (nLc is wi g t w) σ H Q → tLc (upI K E wi) (upG K is g) (upT K E t) (up K E w) is σ H Q := fun σ H Q q => by
  obtain ⟨c, η, R, x, e1, ok, en, hw, hr, hx⟩ := q
  refine ⟨c, η, _, x, e1, ok, en, hw, fun xs c0 J hd ok0 l0 it => ?_, hx⟩
  intro L hL
  obtain ⟨okL, lL, hFL, hdL⟩ := ok0.newH (o := .lst []) hL
  have hL0 : No c L := No.back l0 (No.of hL)
  have hLd : L ≠ c.dr := by rw [← l0.dr]; exact hdL
  have enw : EnvOk K c (L2.wipe σ is) (wipeS η is) := en.wipe is
  refine ⟨fun i m H1 => ∃ c1 vs acc, c1.H = H1 ∧ c1.Ok ∧ Le c c1 ∧ Fs c0 c1 ∧ c1.H L = some (.lst vs) ∧ c1.F L = none ∧ RPL K c1 vs acc ∧ i + m = xs.length ∧ runLc x (wipeS η is) g t w R (xs.drop i) acc c1.n,
    ⟨xs.length, ⟨c0.dr, c0.F, upd c0.H L (.lst []), c0.n, c0.T⟩, [], [], rfl, okL, l0.trans lL, Fs.of lL, upd_same, hFL, .nil, by omega, by simpa using hd⟩, ?_⟩
  rintro i m H1 ⟨c1, vs, acc, rfl, ok1, l1, f1, hH1, hF1, rp1, hm, hrun⟩
  obtain ⟨it1, it2⟩ := it i c1 ok1 f1
  by_cases hlt : i < xs.length
  · have hget : xs[i]? = some xs[i] := List.getElem?_eq_getElem hlt
    obtain ⟨go, yl⟩ := it1 _ hget
    have hdrop : xs.drop i = xs[i] :: xs.drop (i + 1) := (List.getElem_cons_drop (h := hlt)).symm
    rw [hdrop] at hrun
    refine .inr ⟨go, fun H2 => ∃ c2 vs acc, c2.H = H2 ∧ c2.Ok ∧ Le c c2 ∧ Fs c0 c2 ∧ c2.H L = some (.lst vs) ∧ c2.F L = none ∧ RPL K c2 vs acc ∧ runLc x (wipeS η is) g t w R (xs.drop (i + 1)) acc c2.n, fun H2 hN => ?_, fun v H2 hy => ?_⟩
    · obtain ⟨c2, vs2, acc2, z1, z2, z3, z4, z5, z6, z7, z8⟩ := hN
      exact ⟨m - 1, by omega, c2, vs2, acc2, z1, z2, z3, z4, z5, z6, z7, by omega, z8⟩
    · obtain ⟨c2, rfl, hn2, ok2, l2, rp2⟩ := yl v H2 hy
      have hdr1 : L ≠ c1.dr := by rw [l1.dr]; exact hLd
      have l12 := l1.trans l2
      have hH2 : c2.H L = some (.lst vs) := l2.h _ _ hdr1 (fun z => z) nofun hH1
      have hF2 : c2.F L = none := l2.fr _ _ hdr1 (fun z => z) (by intro _ z; cases z) hF1 hH1
      have hdr2 : L ≠ c2.dr := by rw [l12.dr]; exact hLd
      refine ⟨c2, wipeS η is, xs[i], _, rfl, ok2, enw.le l12, rp2, hrun, fun η3 σ3 hb3 en3 ho3 ot => ?_⟩
      refine ⟨wipe_out ot, ?_⟩
      refine ⟨c2, η3, _, x, rfl, ok2, en3, (by rw [hn2]; exact hb3), fun b c3 hd3 ok3 l3 => ?_, hx.le l12⟩
      have hH3 : c3.H L = some (.lst vs) := l3.h _ _ hdr2 (fun z => z) nofun hH2
      have hF3 : c3.F L = none := l3.fr _ _ hdr2 (fun z => z) (by intro _ z; cases z) hF2 hH2
      have hdr3 : L ≠ c3.dr := by rw [l3.dr]; exact hdr2
      cases b with
      | false => exact iteF ⟨c3, vs, acc, rfl, ok3, l12.trans l3, (f1.trans (Fs.of l2)).trans (Fs.of l3), hH3, hF3, l3.rpl (l2.rpl rp1), hd3⟩
      | true =>
        refine iteT ⟨c3, η3, _, x, rfl, ok3, en3.le l3, hd3, fun y c4 u hd4 ok4 l4 rp4 => ?_, (hx.le l12).le l3⟩
        have hH4 : c4.H L = some (.lst vs) := l4.h _ _ hdr3 (fun z => z) nofun hH3
        have hF4 : c4.F L = none := l4.fr _ _ hdr3 (fun z => z) (by intro _ z; cases z) hF3 hH3
        have hdr4 : L ≠ c4.dr := by rw [l4.dr]; exact hdr3
        have l04 := (l12.trans l3).trans l4
        obtain ⟨ok5, l5⟩ := ok4.put (u := .lst (vs ++ [u])) l04 hL0 hH4 hF4 hdr4
        have rp5 : RPL K c4 vs acc := l4.rpl (l3.rpl (l2.rpl rp1))
        refine ⟨vs, hH4, by rw [rp1.length]; exact hd4.1, ⟨c4.dr, c4.F, upd c4.H L (.lst (vs ++ [u])), c4.n, c4.T⟩, vs ++ [u], acc ++ [y], rfl, ok5, l5, ?_, upd_same, hF4, RpL.append rp5 (.cons rp4 .nil), hd4.2⟩
        exact ((f1.trans (Fs.of l2)).trans (Fs.of l3)).trans ⟨l4.dr, l4.f⟩
  · have hdrop : xs.drop i = [] := List.drop_eq_nil_of_le (by omega)
    rw [hdrop] at hrun
    exact .inl ⟨it2 (by omega), hr acc c1 L vs hrun ok1 l1 hL0 hF1 hLd hH1 rp1⟩
theorem qn_lc {elt tg iter : Expr} {ifs : List Expr} {scope : Scope} {own : List (Str × Nat)} {wi : WI} {g : WG} {t : WT} {w : WE} (hc : X.calm = true) (hN : X.N.Nodup) (hi : PI X tg iter (upI X.K E wi)) (bk : BlkOk X.N X.env.scope scope own)
    (hg : ∀ (s : Shared) (H : Hp) (C : Addr) (cl : List (Str × Addr)) (fp : List Addr), PG (X.blk s H scope (compEnvC scope cl C X.env) fp) tg (upG X.K (own.map (·.2)) g)) (ht : ∀ (s : Shared) (H : Hp) (C : Addr) (cl : List (Str × Addr)) (fp : List Addr), PTs (X.blk s H scope (compEnvC scope cl C X.env) fp) ifs (upT X.K E t))
    (he : ∀ (s : Shared) (H : Hp) (C : Addr) (cl : List (Str × Addr)) (fp : List Addr), PE (X.blk s H scope (compEnvC scope cl C X.env) fp) elt (up X.K E w)) (hs : ∀ x, foldedSetIterable iter X.env x = pure x := by intro _; rfl) :
    PE X (.ListComp elt [⟨tg, iter, ifs, 0⟩] scope pos) (upN X.K E (nLc (own.map (·.2)) wi g t w)) := pe_to (pe_lc hc hN hi bk hg ht he hs) lc_up
theorem qs_setLc {i : Nat} {y : Str} {py : Pos} {elt tg iter : Expr} {ifs : List Expr} {scope : Scope} {own : List (Str × Nat)} {spos : Pos} {wi : WI} {g : WG} {t : WT} {w : WE} (hc : X.calm = true) (hN : X.N.Nodup) (hy : X.N[i]? = some y) (hyl : X.env.scope.names.lookup y = some .local)
    (hsw : swapsWith (.ListComp elt [⟨tg, iter, ifs, 0⟩] scope pos) (some (.Name y py)) spos.line X.env = pure true) (hi : PI X tg iter (upI X.K E wi)) (bk : BlkOk X.N X.env.scope scope own)
    (hg : ∀ (s : Shared) (H : Hp) (C : Addr) (cl : List (Str × Addr)) (fp : List Addr), PG (X.blk s H scope (compEnvC scope cl C X.env) fp) tg (upG X.K (own.map (·.2)) g)) (ht : ∀ (s : Shared) (H : Hp) (C : Addr) (cl : List (Str × Addr)) (fp : List Addr), PTs (X.blk s H scope (compEnvC scope cl C X.env) fp) ifs (upT X.K E t))
    (he : ∀ (s : Shared) (H : Hp) (C : Addr) (cl : List (Str × Addr)) (fp : List Addr), PE (X.blk s H scope (compEnvC scope cl C X.env) fp) elt (up X.K E w)) (hs : ∀ x, foldedSetIterable iter X.env x = pure x := by intro _; rfl) :
    PS X (.Assign [.Name y py] (.ListComp elt [⟨tg, iter, ifs, 0⟩] scope pos) spos) (upS X.K E (sAsg (eFz (nLc (own.map (·.2)) wi g t w)) (gNm i))) := ps_to (ps_setLc hc hN hy hyl hsw hi bk hg ht he hs) fun D σ H q => by
  obtain ⟨c, η, k, x, e1, ok, en, hw, h1, h2, h3, h4, hx⟩ := q
  refine lc_up σ H _ (fz_up σ H _ ⟨c, η, _, x, e1, ok, en, hw, fun d c' v hd ok' l' rp => ?_, hx.none⟩)
  exact h1 _ c' _ hd ok' (LeO.of l') (fun a z => .inl (owned_set z)) ((en.le l').set rp)
end
end DL
set_option maxHeartbeats 2000000
namespace DL
open PySem PySem.Spec PyProof.Rows L2
section
variable {X : Cx} {E : XK} {pos : Pos}

/-! ### an owned object is changed -/
/-- a method of a list that changes it -/
abbrev OM := List D → List D → (List D → Prop) → Prop
def owS : Option Sl → (List D → Prop) → Prop
  | some (.ow xs), k => k xs
  | _, _ => False
def sMt (i : Nat) (f : OM) (w : WA) : WS := fun x k η n => w x η n fun ds n1 => owS η[i]? fun xs => f xs ds fun xs' => k.nx (η.set i (.ow xs')) n1
/-- ahead of the arguments the slot is an owner -/
def sMt' (i : Nat) (f : OM) (w : WA) : WS := fun x k η n => (∃ xs, η[i]? = some (Sl.ow xs)) ∧ sMt i f w x k η n
def mAppend : OM := fun xs ds k => match ds with
  | [d] => xs.length < sizeLine ∧ k (xs ++ [d])
  | _ => False
def mExtend : OM := fun xs ds k => match ds with
  | [.lst ys] => xs.length + ys.length ≤ sizeLine ∧ k (xs ++ ys)
  | _ => False
variable {y : Str} {e e2 : Expr} {npos apos cpos : Pos}
/-- y[e2] = e, y owned -/
def sPutIx (i : Nat) (wi we : WE) : WS := fun x k η n => we x η n fun d n1 => wi x η n1 fun j n2 => owS η[i]? fun xs => match j with
  | .int j => ∃ m, ixN xs.length j = some m ∧ k.nx (η.set i (.ow (xs.set m d))) n2
  | _ => False
/-! ### own defs -/
abbrev Ct := Xn → List D → Nat → (D → Nat → Prop) → Prop
def spU (K : PySem.W.Frag) (m : Nat) (C : Ct) : Sp := fun vs H Q E => ∃ c ds R x, c.H = H ∧ c.Ok ∧ c.T = TK K ∧ RPL K c vs ds ∧ ds.length = m ∧ C x ds c.n R ∧ (∀ d c' v, R d c'.n → c'.Ok → Le c c' → RP K c' v d → Q v c'.H) ∧ XW K E x (fun _ => False) c
theorem spU_len {K : PySem.W.Frag} {m : Nat} {C : Ct} {vs : List V} {H : Hp} {Q : VK} {E : XK} (h : spU K m C vs H Q E) : vs.length = m := by
  obtain ⟨c, ds, R, x, _, _, _, r, hl, _⟩ := h
  rw [r.length, hl]
/-- f(..): dds the defaults -/
def eCall (m : Nat) (C : Ct) (dds : List D) (w : WA) : WE := fun x η n R => w x η n fun ds n1 => (ds ++ dds).length = m ∧ C x (ds ++ dds) n1 R
theorem call_up0 {K : PySem.W.Frag} {m : Nat} {C : Ct} {dvs : List V} {dds : List D} {w : WA} (hd : ∀ dr F, RpL K dr F dvs dds) (hC : ∀ x x' ds n R, C x ds n R → C x' ds n R) : ∀ σ H Q, up K E (eCall m C dds w) σ H Q → tCall (spU K m C) dvs E0 (upA K E w) σ H Q := fun σ H Q q => by
  obtain ⟨c, η, R, x, e1, ok, en, hw, hr, hx⟩ := q
  refine ⟨c, η, _, x, e1, ok, en, hw, fun ds c1 vs hc ok1 l1 rp => ?_, hx⟩
  exact ⟨c1, ds ++ dds, R, fun _ _ => False, rfl, ok1, l1.T.trans en.T, rp.append (hd _ _), hc.1, hC x _ _ _ _ hc.2, fun d c2 v h2 ok2 l2 r2 => hr d c2 v h2 ok2 (l1.trans l2) r2, fun d c' cls od h => h.elim⟩
/-- a contract that speaks of no exception -/
def Calm (C : Ct) : Prop := ∀ x x' ds n R, C x ds n R → C x' ds n R
variable {es : List Expr} {f : Addr} {fd : FuncData} {ps : List Str} {k m : Nat} {C : Ct} {p : Pos} {w : WA} {nm : Str}
theorem q_call (F : FnOk X.prog X.w X.K X.mg X.base CX0 k f fd ps (spU X.K m C)) (hC : Calm C) (hr : Room k X.A) (hg : Gl X nm) (hm : X.mg nm = some (.ref f)) (hk : PySem.W.keepIn X.K (.ref f) = true) (hb : Binds X.K fd ps [])
    (ha : PA X (e :: es) (upA X.K E w)) (hdb : (nm == ("__debug__" : Str)) = false := by decide) (he : starEach (e :: es) X.env = (false, eval e X.env) :: starEach es X.env := by rfl) (hpl : (backTo pos (starEach es X.env)).any (·.1) = false := by rfl) :
    PE X (.Call (.Name nm p) (e :: es) [] pos) (up X.K E (eCall m C [] w)) := pe_to (pe_call F hr hg hm hk hb .nil pass0 ha hdb he hpl) (call_up0 (fun _ _ => .nil) hC)
theorem q_call0 (F : FnOk X.prog X.w X.K X.mg X.base CX0 k f fd ps (spU X.K m C)) (hC : Calm C) (hr : Room k X.A) (hg : Gl X nm) (hm : X.mg nm = some (.ref f)) (hk : PySem.W.keepIn X.K (.ref f) = true) (hb : Binds X.K fd ps [])
    (hdb : (nm == ("__debug__" : Str)) = false := by decide) : PE X (.Call (.Name nm p) [] [] pos) (up X.K E (eCall m C [] aNil)) := pe_to (pe_call0 F hr hg hm hk hb .nil pass0 hdb) fun σ H Q q => by
  obtain ⟨c, η, R, x, e1, ok, en, hw, hr, hx⟩ := q
  exact ⟨c, [], R, fun _ _ => False, e1, ok, en.T, .nil, hw.1, hC x _ _ _ _ hw.2, hr, fun d c' cls od h => h.elim⟩
/-- the def's body keeps its contract -/
theorem env_start {K : PySem.W.Frag} {c : Cf} {N : List Str} : ∀ {vs : List V} {ds : List D}, c.T = TK K → RPL K c vs ds → EnvOk K c (L2.start N vs) (ds.map Sl.dt ++ List.replicate (N.length - ds.length) Sl.un) := fun {vs ds} hT r => by
  have hl := r.length
  have noow : ∀ (i : Nat) s, (ds.map Sl.dt ++ List.replicate (N.length - ds.length) Sl.un)[i]? = some s → s.isOw = true → False := fun i s h hs => by
    have hm := List.mem_of_getElem? h
    rcases List.mem_append.mp hm with z | z
    · obtain ⟨d, _, e⟩ := List.mem_map.mp z
      subst e
      cases hs
    · have e := (List.mem_replicate.mp z).2
      subst e
      cases hs
  refine ⟨by simp [L2.start, hl], fun i s h => ?_, fun i j s t a h1 _ g1 _ _ _ => (noow i s h1 g1).elim, hT⟩
  by_cases hi : i < ds.length
  · rw [List.getElem?_append_left (by simpa using hi), List.getElem?_map, List.getElem?_eq_getElem hi] at h
    cases h
    obtain ⟨v, hv, rv⟩ := r.get (List.getElem?_eq_getElem hi)
    refine ⟨some v, ?_, v, rfl, rv⟩
    unfold L2.start
    rw [List.getElem?_append_left (by simp; omega), List.getElem?_map, hv]
    rfl
  · rw [List.getElem?_append_right (by simpa using hi)] at h
    have := List.mem_of_getElem? h
    have e := (List.mem_replicate.mp this).2
    subst e
    have hb : i - (ds.map Sl.dt).length < N.length - ds.length := by
      have := (List.getElem?_eq_some_iff.mp h).1
      simpa using this
    refine ⟨none, ?_, trivial⟩
    unfold L2.start
    rw [List.getElem?_append_right (by simp; omega), List.getElem?_replicate]
    simp at hb ⊢
    omega
theorem noOw_start {ds : List D} {n i : Nat} {s : Sl} (h1 : (ds.map Sl.dt ++ List.replicate n Sl.un)[i]? = some s) (hs : s.isOw = true) : False := by
  have hm := List.mem_of_getElem? h1
  rcases List.mem_append.mp hm with z | z
  · obtain ⟨d, _, e⟩ := List.mem_map.mp z
    subst e
    cases hs
  · have e := (List.mem_replicate.mp z).2
    subst e
    cases hs
theorem start_noown {ds : List D} {σ : L2.St} {n : Nat} {a : Addr} (h : Owned σ (ds.map Sl.dt ++ List.replicate n Sl.un) a) : False := by
  obtain ⟨i, s, h1, hs, _⟩ := h
  exact noOw_start h1 hs
theorem body_up {K : PySem.W.Frag} {N : List Str} {w : WS} {vs : List V} {H : Hp} {Q : VK} (h : spU K m C vs H Q E) (hw : ∀ x ds n R, ds.length = m → C x ds n R → w x { nx := fun _ n => R .non n, rt := R } (ds.map Sl.dt ++ List.replicate (N.length - m) Sl.un) n) :
    upS K E w { nx := fun _ H' => Q .non H', rt := Q } (L2.start N vs) H := by
  obtain ⟨c, ds, R, x, e1, ok, hT, r, hl, hc, hr, hx⟩ := h
  have en := env_start (N := N) hT r
  rw [hl] at en
  have le : ∀ {c' : Cf}, LeO (Owned (L2.start N vs) (ds.map Sl.dt ++ List.replicate (N.length - m) Sl.un)) c c' → Le c c' := fun l => ⟨l.dr, l.f, fun a o h1 _ h3 => l.h a o h1 (fun z => start_noown z) h3, fun a o h1 _ h3 h4 => l.fr a o h1 (fun z => start_noown z) h3 h4, l.hd, l.T⟩
  refine ⟨c, _, { nx := fun _ n => R .non n, rt := R }, x, e1, ok, en, hw x ds c.n R hl hc, fun η' c' σ' hn ok' l' _ _ => hr _ c' _ hn ok' (le l') .non, fun d c' v hn ok' l' rp => hr d c' v hn ok' (le l') rp, fun η' c' σ' hn _ _ _ _ => hn.elim, fun η' c' σ' hn _ _ _ _ => hn.elim, fun d c' cls od hxx ok' l' xo => hx d c' cls od hxx ok' (le l') xo⟩
theorem fn_up {P : Program} {wd : World} {K : PySem.W.Frag} {mg : Str → Option Value} {base : Heap} {x qual : Str} {params : Arguments} {body : List Stmt} {scope : Scope} {dvs : List V} {kws : List (Str × V)} {N : List Str} {w : WS}
    (F : FunD K x qual params body scope dvs kws f fd) (S : FnScope N ps scope) (hps : ps.length = m)
    (hb : ∀ (cdv : Value) (A : Around) (outer : List Env) (s : Shared) (H : Hp) (E : XK), Room k (A.deeper (envOfC qual scope s.heap.objs.size f cdv)) → PSs (cxOf CX0 P wd K mg base N qual scope f cdv A outer s H E).nox body (upS K E w))
    (hw : ∀ x ds n R, ds.length = m → C x ds n R → w x { nx := fun _ n => R .non n, rt := R } (ds.map Sl.dt ++ List.replicate (N.length - m) Sl.un) n) : FnOk P wd K mg base CX0 (k + 1) f fd ps (spU K m C) :=
  F.ok S (fun vs H Q E h => (spU_len h).trans hps.symm) fun cdv A outer s H vs Q E hr h => ⟨_, (hb cdv A outer s H E hr).nox, body_up h hw⟩
/-- a def of the module, by its name: what it keeps, how it is called -/
def Fn (P : Program) (wd : World) (K : PySem.W.Frag) (mg : Str → Option Value) (base : Heap) (nm : Str) (ps : List Str) (m k : Nat) (C : Ct) : Prop :=
  ∃ fd, FnOk P wd K mg base CX0 k (He.ga K nm) fd ps (spU K m C) ∧ Binds K fd ps [] ∧ PySem.W.keepIn K (.ref (He.ga K nm)) = true ∧ mg nm = some (.ref (He.ga K nm))
theorem q_f {j : Nat} (F : Fn X.prog X.w X.K X.mg X.base nm ps m j C) (hC : Calm C) (hr : Room k X.A) (hj : j ≤ k) (hg : Gl X nm) (ha : PA X (e :: es) (upA X.K E w)) (hdb : (nm == ("__debug__" : Str)) = false := by decide)
    (he : starEach (e :: es) X.env = (false, eval e X.env) :: starEach es X.env := by rfl) (hpl : (backTo pos (starEach es X.env)).any (·.1) = false := by rfl) : PE X (.Call (.Name nm p) (e :: es) [] pos) (up X.K E (eCall m C [] w)) := by
  obtain ⟨fd, F, b, kp, g⟩ := F
  exact q_call F hC (hr.mono hj) hg g kp b ha hdb he hpl
theorem q_f0 {j : Nat} (F : Fn X.prog X.w X.K X.mg X.base nm ps m j C) (hC : Calm C) (hr : Room k X.A) (hj : j ≤ k) (hg : Gl X nm) (hdb : (nm == ("__debug__" : Str)) = false := by decide) : PE X (.Call (.Name nm p) [] [] pos) (up X.K E (eCall m C [] aNil)) := by
  obtain ⟨fd, F, b, kp, g⟩ := F
  exact q_call0 F hC (hr.mono hj) hg g kp b hdb
/-- a, b = e1, e2 of two plain locals -/
def sPar (i j : Nat) (w : WA) : WS := fun x k η n => w x η n fun ds n1 => match ds with
  | [d, e] => k.nx ((η.set i (.dt d)).set j (.dt e)) n1
  | _ => False
theorem par_up {i j : Nat} {K : PySem.W.Frag} : ∀ D σ H, upS K E (sPar i j w) D σ H → tPar i j (upA K E w) D σ H := fun D σ H q => by
  obtain ⟨c, η, k, x, e1, ok, en, hw, h1, h2, h3, h4, hx⟩ := q
  refine ⟨c, η, _, x, e1, ok, en, hw, fun ds c1 vs hd ok1 l1 rp => ?_, hx.none⟩
  split at hd
  · cases rp with
    | cons r1 t =>
      cases t with
      | cons r2 t =>
        cases t
        refine ⟨_, _, rfl, h1 _ c1 _ hd ok1 (LeO.of l1) (fun a z => .inl (owned_set (owned_set z))) (((en.le l1).set r1).set r2)⟩
  · exact hd.elim
end
end DL
set_option maxHeartbeats 2000000
/-! t[::-1] of a tuple -/
namespace HT
open PySem PySem.Spec PyProof.Rows
section
variable {prog : Program} {w : World} {A : Around} {E : Value → Shared → Prop} {s : Shared}
end
end HT
namespace DL
open PySem PySem.Spec PyProof.Rows L2
section
variable {X : Cx} {E : XK} {pos : Pos} {e : Expr}
def eRev (w : WE) : WE := fun x η n R => w x η n fun d n1 => match d with
  | .lst xs => R (.lst xs.reverse) n1
  | .tup xs => R (.tup xs.reverse) n1
  | _ => False
/-- a, b = .. (two plain locals) -/
theorem qs_par {i j : Nat} {x y : Str} {a b : Expr} {w : WA} {px py pt : Pos} {kt k2 pt2} (hc : X.calm = true) (hN : X.N.Nodup) (hi : X.N[i]? = some x) (hj : X.N[j]? = some y) (hij : i ≠ j)
    (hx : X.env.scope.names.lookup x = some .local) (hy : X.env.scope.names.lookup y = some .local) (ha : PA X [a, b] (upA X.K E w))
    (hw : swappedStores [.Tuple [.Name x px, .Name y py] kt pt] (.Tuple [a, b] k2 pt2) X.env = pure (some [x, y]))
    (hs : swapsWithSole [.Tuple [.Name x px, .Name y py] kt pt] (.Tuple [a, b] k2 pt2) pos.line X.env = pure false := by rfl) :
    PS X (.Assign [.Tuple [.Name x px, .Name y py] kt pt] (.Tuple [a, b] k2 pt2) pos) (upS X.K E (sPar i j w)) := ps_to (ps_par hc hN hi hj hij hx hy ha hw hs) par_up
end
end DL
set_option maxHeartbeats 2000000
namespace DL
open PySem PySem.Spec PyProof.Rows L2

/-! ### fields -/
section
variable {X : Cx} {E : XK} {pos : Pos} {e e2 : Expr} {es : List Expr}
/-- what of the text a class must have -/
structure CF (K : PySem.W.Frag) (cn : Str) (fs : List Str) : Prop where
  cls : Cls K (He.ga K cn)
  no : ∀ f ∈ fs, NoAttr K (He.ga K cn) f
/-! ### a new instance -/
abbrev Ci := Xn → List D → Nat → (List Str → List D → Nat → Prop) → Prop
def eMake (cn : Str) (m : Nat) (C : Ci) (dds : List D) (w : WA) : WE := fun x η n R => w x η n fun ds n1 => (ds ++ dds).length = m ∧ C x (ds ++ dds) n1 fun ns fs n2 => R (.ins cn ns fs) n2
end
end DL
set_option maxHeartbeats 2000000
namespace DL
open PySem PySem.Spec PyProof.Rows L2

/-! ### keywords -/
section
variable {X : Cx} {E : XK} {pos : Pos} {e e2 : Expr} {es : List Expr} {kws : List Keyword}
theorem pk_to {t t' : TA} (h : PK X kws t) (i : ∀ σ H Q, t' σ H Q → t σ H Q) : PK X kws t' := ⟨fun pos pins s σ H Q I q => h.run pos pins s σ H Q I (i σ H Q q)⟩
theorem qk_nil : PK X [] (upA X.K E aNil) := pk_to pk_nil fun σ H Q q => by
  obtain ⟨c, η, R, x, e1, ok, en, hw, hr, hx⟩ := q
  show Q [] H
  rw [← e1]
  exact hr [] c [] hw ok .refl .nil
theorem qk_cons {w : WE} {r : WA} {nm : Option Str} {kpos : Pos} (ha : PE X e (up X.K E w)) (hr : PK X kws (upA X.K E r)) : PK X (⟨nm, e, kpos⟩ :: kws) (upA X.K E (aCons w r)) := pk_to (pk_cons ha hr) fun σ H Q q => by
  obtain ⟨c, η, R, x, e1, ok, en, hw, hr, hx⟩ := q
  refine ⟨c, η, _, x, e1, ok, en, hw, fun d c1 v h1 ok1 l1 r1 => ?_, hx⟩
  refine ⟨c1, η, _, x, rfl, ok1, en.le l1, h1, fun ds c2 vs h2 ok2 l2 r2 => ?_, hx.le l1⟩
  exact hr (d :: ds) c2 (v :: vs) h2 ok2 (l1.trans l2) (.cons (l2.rp r1) r2)
def gP {α : Type} (d : α) (pm : List Nat) (us ws : List α) : List α := pm.map fun i => (us ++ ws).getD i d
theorem vals_getD {vs : List V} {us : List Value} (r : Vals vs us) (i : Nat) : RelV (vs.getD i .non) (us.getD i .none) := by
  have hl := r.length
  by_cases h : i < vs.length
  · have e1 : vs[i]? = some vs[i] := List.getElem?_eq_getElem h
    obtain ⟨u, e2, ru⟩ := r.get e1
    rw [List.getD_eq_getElem?_getD, List.getD_eq_getElem?_getD, e1, e2]
    exact ru
  · rw [List.getD_eq_getElem?_getD, List.getD_eq_getElem?_getD, List.getElem?_eq_none_iff.mpr (by omega), List.getElem?_eq_none_iff.mpr (by omega)]
    rfl
theorem gP_vals {vs zs : List V} {us ws : List Value} (r : Vals vs us) (rz : Vals zs ws) : ∀ pm : List Nat, Vals (gP .non pm vs zs) (gP .none pm us ws)
  | [] => .nil
  | i :: pm => .cons (vals_getD (r.append rz) i) (gP_vals r rz pm)
theorem rpl_getD {K : PySem.W.Frag} {dr : Addr} {F : Hp} {vs : List V} {ds : List D} (r : RpL K dr F vs ds) (i : Nat) : Rp K dr F (vs.getD i .non) (ds.getD i .non) := by
  have hl := r.length
  by_cases h : i < ds.length
  · have e1 : ds[i]? = some ds[i] := List.getElem?_eq_getElem h
    obtain ⟨u, e2, ru⟩ := r.get e1
    rw [List.getD_eq_getElem?_getD, List.getD_eq_getElem?_getD, e1, e2]
    exact ru
  · rw [List.getD_eq_getElem?_getD, List.getD_eq_getElem?_getD, List.getElem?_eq_none_iff.mpr (by omega), List.getElem?_eq_none_iff.mpr (by omega)]
    exact .non
theorem gP_rpl {K : PySem.W.Frag} {dr : Addr} {F : Hp} {vs zs : List V} {ds es : List D} (r : RpL K dr F vs ds) (rz : RpL K dr F zs es) : ∀ pm : List Nat, RpL K dr F (gP .non pm vs zs) (gP .non pm ds es)
  | [] => .nil
  | i :: pm => .cons (rpl_getD (r.append rz) i) (gP_rpl r rz pm)
theorem kbn_mk {K : PySem.W.Frag} {x qual : Str} {params : Arguments} {body : List Stmt} {scope : Scope} {kw : List (Str × V)} {f : Addr} {fd : FuncData} {ps ks : List Str} (n : Nat) (pm : List Nat) (F : FunD K x qual params body scope [] kw f fd)
    (h : ∀ (kV doc pmm : Value) (an : Option Addr) (cdv ct : Value) (us ws : List Value), us.length = n → ws.length = ks.length → bindArgs (PySem.W.fnOf x qual params body scope .none kV doc pmm an cdv ct) ⟨us, ks.zip ws⟩ = pure (ps.zip (gP .none pm us ws))) : KBn K fd ps n ks (gP .none pm) (gP .non pm) := by
  obtain ⟨oc, od, dV, kV, doc, pmm, an, cdv, ct, osl, rfl, lk, hcd, hD, hK⟩ := F.ex
  rcases hD with ⟨_, rfl⟩ | ⟨e, _⟩
  · exact ⟨fun s us ws _ h1 h2 => .of_eq (h kV doc pmm an cdv ct us ws h1 h2), fun r rz => gP_vals r rz pm⟩
  · exact absurd rfl e
/-- f(.., k = v, ..), any number of places -/
def eCallK (m n l : Nat) (C : Ct) (pm : List Nat) (w wk : WA) : WE := fun x η nn R => w x η nn fun ds n1 => wk x η n1 fun es n2 => ds.length = n ∧ es.length = l ∧ pm.length = m ∧ C x (gP .non pm ds es) n2 R
end

/-! ### own comparisons -/
section
variable {X : Cx} {E : XK}
/-- a class's own method, as a comparison asks it -/
structure OwnOp (P : Program) (wd : World) (K : PySem.W.Frag) (mg : Str → Option Value) (base : Heap) (cn nm : Str) (k : Nat) (C : Ct) : Prop where
  ex : ∃ f fd ps, FnOk P wd K mg base CX0 k f fd ps (spU K 2 C) ∧ PySem.W.findIn K (.ref (He.ga K cn)) nm = some (some (.ref f)) ∧ PySem.W.isFn K (.ref f) = true ∧ Binds K fd ps []
variable {pos : Pos} {a b : Expr} {wa wb : WE} {cn : Str} {k j : Nat} {C : Ct}
/-- the class has no != of its own -/
structure NoNe (K : PySem.W.Frag) (cn : Str) : Prop where
  ne : PySem.W.findIn K (.ref (He.ga K cn)) "__ne__" = some (some (.builtin "object.__ne__"))
  sub : PySem.W.subIn K (.ref (He.ga K cn)) (.type "object") = some true
end
end DL
set_option maxHeartbeats 4000000
namespace DL
open PySem PySem.Spec PyProof.Rows L2
/-! ### the law's draws -/
def rSetD : TSet := fun o i v H Q => ∃ a H', o = .ref a ∧ DPut H a i v H' ∧ Q H'
theorem set_dict {X : Cx} (hu : X.A.units + 1 < cLine) : PSet X rSetD := by
  intro pins s σ H o i v ov iv u Q I ro ri rv h
  obtain ⟨a, H', rfl, g, q⟩ := h
  cases ro
  exact d_setItem hu I g ri rv fun s' I' => ⟨H', I', q⟩
abbrev tDk (k : Str) : TE := tDGet (tVar 0) (tC (.str k))
abbrev rMd : R2 := rI (fun _ j => 0 < j) fun i j => .int (i % j)
abbrev rDw : R2 := rI CDivW fun i j => .int (i / j)
abbrev rAd : R2 := rI0 fun i j => .int (i + j)
abbrev rMu : R2 := rI CMul fun i j => .int (i * j)
abbrev rLn (K : PySem.W.Frag) : List V → Hp → VK → Prop := fun xs H Q => ∃ p ys, xs = [.ref p] ∧ (SqL K H p ys ∨ SqT K H p ys) ∧ Q (.int ys.length) H
abbrev tI (i : Int) : TE := tC (.int i)
def t_next (K : PySem.W.Frag) : TS :=
  tSeq (tIfS (tTest (tOp (rI0 fun i j => .bl (decide (j < i))) (tDk "left") (tI 0)))
    (tSeq (tAsg (tTup (tCons (tDk "left") (tCons (tOp rDw (tDk "left") (tVar 1)) tNil))) (gTup K 2 (gCons (gName 2) (gCons (gSub (tVar 0) (tC (.str "left")) rSetD) gNil)))) (tRet (tOp rMd (tVar 2) (tVar 1)))) tNext)
  (tSeq (tAsg (tDk "cells") (gName 3))
  (tSeq (tAsg (tOp (rIxL K) (tVar 3) (tOp rMd (tDk "at") (tCB (rLn K) (tCons (tVar 3) tNil)))) (gName 2))
  (tSeq (sDPut (tVar 0) (tC (.str "at")) (tOp rAd (tDk "at") (tI 1)))
  (tSeq (tIfS (tAnd (tTest (tOp (rI0 fun i j => .bl (decide (j ≤ i))) (tVar 2) (tOp (rI CPow fun i j => .int (i ^ j.toNat)) (tI 10) (tI 18)))) (tTest (tOp (rI0 fun i j => .bl (decide (i ≤ j))) (tDk "at") (tCB (rLn K) (tCons (tVar 3) tNil)))))
    (tSeq (sDPut (tVar 0) (tC (.str "left")) (tOp rDw (tVar 2) (tVar 1))) (tRet (tOp rMd (tVar 2) (tVar 1)))) tNext)
  (tSeq (sDPut (tVar 0) (tC (.str "used")) (tOp rAd (tDk "used") (tI 1)))
  (tSeq (tAsg (tOp rAd (tOp rMd (tVar 2) (tI 1000000007)) (tOp rMu (tOp rMu (tI 7919) (tDk "used")) (tDk "used"))) (gName 4))
  (tSeq (tFor (iTup K (tTup (tCons (tDk "at") (tCons (tDk "used") tNil)))) (gName 5)
    (tSeq (tAsg (tOp rMd (tOp rMu (tOp rAd (tOp rAd (tVar 4) (tOp rMu (tI 31) (tVar 5))) (tI 7)) (tI 48271)) (tI 2147483647)) (gName 4))
      (tAsg (tOp rMd (tOp rMu (tVar 4) (tOp rAd (tI 69621) (tOp rMu (tI 2) (tOp rMd (tVar 5) (tI 1000))))) (tI 2147483629)) (gName 4))))
  (tRet (tOp rMd (tOp (rI CDiv fun i j => .int (i / j)) (tVar 4) (tI 7)) (tVar 1))))))))))
def C_L_next : Ct := fun _ ds n R => match ds with
  | [.drw, .int m] => 0 < m ∧ m < 2 ^ 250 ∧ 1 ≤ n ∧ ∀ r, 0 ≤ r → r < m → R (.int r) (n - 1)
  | _ => False
theorem calm_L_next : Calm C_L_next := fun _ _ _ _ _ h => h
abbrev drwL (ca : Addr) (a l u : Int) : List (Key × V) := [(.inr "cells", .ref ca), (.inr "at", .int a), (.inr "left", .int l), (.inr "used", .int u)]
theorem p_at (ca : Addr) (a l u z : Int) : putK (drwL ca a l u) (.inr "at") (.int z) = drwL ca z l u := rfl
theorem p_used (ca : Addr) (a l u z : Int) : putK (drwL ca a l u) (.inr "used") (.int z) = drwL ca a l z := rfl
/-- the configuration behind a draw -/
theorem drw_after {c : Cf} {H' : Hp} {n : Nat} {ca : Addr} {cells : List Int} {a l u : Int} (ok : c.Ok) (hH : ∀ b o, b ≠ c.dr → c.H b = some o → H' b = some o) (hd : H' c.dr = some (.dK (drwL ca a l u))) (hc : c.F ca = some (.lst (cells.map V.int))) (h1 : cells ≠ []) (h2 : cells.length ≤ 64) (h3 : 0 ≤ a) (h4 : 0 ≤ u) (h5 : a + n ≤ 2 ^ 40) (h6 : u + n ≤ 2 ^ 40) :
    (⟨c.dr, c.F, H', n, c.T⟩ : Cf).Ok ∧ Le c ⟨c.dr, c.F, H', n, c.T⟩ := by
  refine ⟨⟨fun b o e => hH b o (fun z => ?_) (ok.sub b o e), ok.nf, ⟨ca, cells, a, l, u, hd, hc, h1, h2, h3, h4, h5, h6⟩, fun q hq => ?_, ok.nt⟩, rfl, fun _ _ h => h, fun b o q1 _ _ q3 => hH b o q1 q3, fun _ _ _ _ _ h _ => h, fun b o hz e => ?_, rfl⟩
  · rw [z, ok.nf] at e
    cases e
  · obtain ⟨_, _, _, _, _, e1, _⟩ := ok.dw
    obtain ⟨ps, f1, f2, f3⟩ := ok.tb q hq
    refine ⟨ps, hH _ _ (fun z => ?_) f1, f2, fun pos cv hc => ?_⟩
    · rw [z, e1] at f1
      cases f1
    · obtain ⟨c', g1, g2⟩ := f3 pos cv hc
      refine ⟨c', g1, hH _ _ (fun z => ?_) g2⟩
      rw [z, e1] at g2
      cases g2
  · by_cases hb : b = c.dr
    · exact ⟨.dK (drwL ca a l u), (by intro _ z; cases z), by rw [hb]; exact hd⟩
    · exact ⟨o, hz, hH b o hb e⟩
theorem pure_next {K : PySem.W.Frag} {E : XK} (vs : List V) (H : Hp) (Q : VK) (h : spU K 2 C_L_next vs H Q E) : t_next K { nx := fun _ H' => Q .non H', rt := Q } (vs.map some ++ [none, none, none, none]) H := by
  obtain ⟨c, ds, R, x, rfl, ok, hT, r, hl, hC, hr, hx⟩ := h
  obtain ⟨m, rfl, m0, m1, n1, hR⟩ : ∃ m, ds = [.drw, .int m] ∧ 0 < m ∧ m < 2 ^ 250 ∧ 1 ≤ c.n ∧ ∀ r, 0 ≤ r → r < m → R (.int r) (c.n - 1) := by
    unfold C_L_next at hC
    split at hC
    · exact ⟨_, rfl, hC⟩
    · exact hC.elim
  cases r with
  | cons r1 t =>
  cases t with
  | cons r2 t =>
  cases t
  cases r1
  cases r2
  obtain ⟨ca, cells, a, l, u, ed, hca, hne, hlen, h0, hu0, ha, hu⟩ := ok.dw
  have kd : ∀ {H' : Hp} {k : Str} {a l u : Int}, H' c.dr = some (.dK (drwL ca a l u)) → DGet H' c.dr (.str k) (valV (drwL ca a l u) (.inr k)) := fun e => DGet.k (k := Sum.inr _) e
  have kp : ∀ {H' : Hp} {k : Str} {v : V} {a l u : Int}, H' c.dr = some (.dK (drwL ca a l u)) → DPut H' c.dr (.str k) v (upd H' c.dr (.dK (putK (drwL ca a l u) (.inr k) v))) := fun e => DPut.k (k := Sum.inr _) e (by show 4 < sizeLine; decide)
  have dv : CDivW 0 m := DivOk.w ⟨m0, m1⟩
  have fin : ∀ {H' : Hp} {a' l' u' : Int} (v : Int), (∀ b o, b ≠ c.dr → c.H b = some o → H' b = some o) → H' c.dr = some (.dK (drwL ca a' l' u')) → 0 ≤ a' → a' ≤ a + 1 → 0 ≤ u' → u' ≤ u + 1 → Q (.int (v % m)) H' := fun {H' a' l' u'} v hk hd q1 q2 q3 q4 => by
    obtain ⟨ok', l'⟩ := drw_after (n := c.n - 1) ok hk hd hca hne hlen q1 q3 (by omega) (by omega)
    exact hr _ ⟨c.dr, c.F, H', c.n - 1, c.T⟩ _ (hR _ (Int.emod_nonneg v (by omega)) (Int.emod_lt_of_pos v m0)) ok' l' (.int _)
  -- if draw['left'] > 0
  refine ⟨_, rfl, c.dr, .int l, rfl, kd ed, l, 0, rfl, rfl, _, rfl, ite2 (fun hleft => ?_) (fun hleft => ?_)⟩
  · -- cell, draw['left'] = ..
    refine ⟨_, rfl, c.dr, .int l, rfl, kd ed, _, rfl, c.dr, .int l, rfl, kd ed, _, rfl, l, m, rfl, rfl, dv, (by show 2 ≤ sizeLine; decide), fun t ht => ?_⟩
    have ht' : c.dr ≠ t := ne_of_none ed ht
    have ed' : upd c.H t (.tup [.int l, .int (l / m)]) c.dr = some (.dK (drwL ca a l u)) := by
      rw [upd_ne ht']
      exact ed
    refine ⟨t, _, rfl, .of upd_same, rfl, _, _, rfl, _, _, rfl, _, rfl, c.dr, _, rfl, kp ed', rfl, ?_⟩
    refine ⟨_, rfl, _, rfl, l, m, rfl, rfl, m0, fin l (fun b o q1 q2 => ?_) upd_same h0 (by omega) hu0 (by omega)⟩
    rw [upd_ne q1, upd_ne (ne_of_none q2 ht)]
    exact q2
  · -- cells, cell
    have hcl : SqL K c.H ca (cells.map V.int) := .of (ok.sub _ _ hca)
    have hpos : (0 : Int) < ((cells.map V.int).length : Int) := by
      cases cells with
      | nil => exact absurd rfl hne
      | cons _ _ =>
        simp only [List.map_cons, List.length_cons]
        omega
    refine ⟨_, rfl, c.dr, .ref ca, rfl, kd ed, ?_⟩
    have hix : 0 ≤ a % ((cells.map V.int).length : Int) ∧ a % ((cells.map V.int).length : Int) < ((cells.map V.int).length : Int) := ⟨Int.emod_nonneg _ (by omega), Int.emod_lt_of_pos _ hpos⟩
    obtain ⟨cell, hcell⟩ : ∃ cell, atI (cells.map V.int) (a % ((cells.map V.int).length : Int)) = some (V.int cell) := by
      unfold atI ixN
      rw [if_pos hix.1, if_pos hix.2]
      have hb : (a % ((cells.map V.int).length : Int)).toNat < (cells.map V.int).length := by omega
      refine ⟨cells[(a % ((cells.map V.int).length : Int)).toNat]'(by simpa using hb), ?_⟩
      show (cells.map V.int)[(a % ((cells.map V.int).length : Int)).toNat]? = _
      rw [List.getElem?_eq_getElem hb, List.getElem_map]
    refine ⟨_, rfl, _, rfl, c.dr, .int a, rfl, kd ed, _, rfl, ca, _, rfl, .inl hcl, a, _, rfl, rfl, hpos, ca, _, _, .int cell, rfl, rfl, hcl, hcell, ?_⟩
    -- draw['at'] = draw['at'] + 1
    refine ⟨_, rfl, c.dr, .int a, rfl, kd ed, a, 1, rfl, rfl, _, rfl, c.dr, _, rfl, kp ed, ?_⟩
    rw [p_at]
    have hk2 : ∀ b o, b ≠ c.dr → c.H b = some o → upd c.H c.dr (.dK (drwL ca (a + 1) l u)) b = some o := fun b o q1 q2 => by
      rw [upd_ne q1]
      exact q2
    have hcan : ca ≠ c.dr := fun z => by
      rw [z, ok.nf] at hca
      cases hca
    have hcl2 : SqL K (upd c.H c.dr (.dK (drwL ca (a + 1) l u))) ca (cells.map V.int) := .of (by rw [upd_ne hcan]; exact ok.sub _ _ hca)
    have ed2 : upd c.H c.dr (.dK (drwL ca (a + 1) l u)) c.dr = some (.dK (drwL ca (a + 1) l u)) := upd_same
    generalize upd c.H c.dr (.dK (drwL ca (a + 1) l u)) = H2 at hk2 hcl2 ed2
    have rest : ∀ {D : Ends}, (∀ σ H', σ = [some (.ref c.dr), some (.int m), some (.int cell), some (.ref ca), none, none] → H' = H2 → D.nx σ H') → True := fun _ => trivial
    -- the plain way
    have plain : (tSeq (sDPut (tVar 0) (tC (.str "used")) (tOp rAd (tDk "used") (tI 1)))
  (tSeq (tAsg (tOp rAd (tOp rMd (tVar 2) (tI 1000000007)) (tOp rMu (tOp rMu (tI 7919) (tDk "used")) (tDk "used"))) (gName 4))
  (tSeq (tFor (iTup K (tTup (tCons (tDk "at") (tCons (tDk "used") tNil)))) (gName 5)
    (tSeq (tAsg (tOp rMd (tOp rMu (tOp rAd (tOp rAd (tVar 4) (tOp rMu (tI 31) (tVar 5))) (tI 7)) (tI 48271)) (tI 2147483647)) (gName 4))
      (tAsg (tOp rMd (tOp rMu (tVar 4) (tOp rAd (tI 69621) (tOp rMu (tI 2) (tOp rMd (tVar 5) (tI 1000))))) (tI 2147483629)) (gName 4))))
  (tRet (tOp rMd (tOp (rI CDiv fun i j => .int (i / j)) (tVar 4) (tI 7)) (tVar 1)))))) { nx := fun _ H' => Q .non H', rt := Q } [some (.ref c.dr), some (.int m), some (.int cell), some (.ref ca), none, none] H2 := by
      refine ⟨_, rfl, c.dr, .int u, rfl, kd ed2, u, 1, rfl, rfl, _, rfl, c.dr, _, rfl, kp ed2, ?_⟩
      rw [p_used]
      have ed3 : upd H2 c.dr (.dK (drwL ca (a + 1) l (u + 1))) c.dr = some (.dK (drwL ca (a + 1) l (u + 1))) := upd_same
      have hk3 : ∀ b o, b ≠ c.dr → c.H b = some o → upd H2 c.dr (.dK (drwL ca (a + 1) l (u + 1))) b = some o := fun b o q1 q2 => by
        rw [upd_ne q1]
        exact hk2 b o q1 q2
      generalize upd H2 c.dr (.dK (drwL ca (a + 1) l (u + 1))) = H3 at hk3 ed3
      refine ⟨_, rfl, cell, 1000000007, rfl, rfl, (by show (0 : Int) < 1000000007; decide), _, rfl, c.dr, .int (u + 1), rfl, kd ed3, 7919, u + 1, rfl, rfl, .inl (by decide), _, rfl, c.dr, .int (u + 1), rfl, kd ed3, _, u + 1, rfl, rfl, .inr (by omega), _, _, rfl, rfl, ?_⟩
      refine ⟨_, rfl, c.dr, .int (a + 1), rfl, kd ed3, _, rfl, c.dr, .int (u + 1), rfl, kd ed3, (by show 2 ≤ sizeLine; decide), fun t ht => ?_⟩
      have ht' : c.dr ≠ t := ne_of_none ed3 ht
      have ed4 : upd H3 t (.tup [.int (a + 1), .int (u + 1)]) c.dr = some (.dK (drwL ca (a + 1) l (u + 1))) := by
        rw [upd_ne ht']
        exact ed3
      have hk4 : ∀ b o, b ≠ c.dr → c.H b = some o → upd H3 t (.tup [.int (a + 1), .int (u + 1)]) b = some o := fun b o q1 q2 => by
        rw [upd_ne (ne_of_none (hk3 b o q1 q2) ht)]
        exact hk3 b o q1 q2
      have ht4 : SqT K (upd H3 t (.tup [.int (a + 1), .int (u + 1)])) t [.int (a + 1), .int (u + 1)] := .of upd_same
      generalize upd H3 t (.tup [.int (a + 1), .int (u + 1)]) = H4 at hk4 ed4 ht4
      refine ⟨t, rfl, ⟨_, ht4⟩, for_tup (K := K) (a := t) (xs := [.int (a + 1), .int (u + 1)]) (fun i σ H' => H' = H4 ∧ ∃ (z : Int) (y : Option V), σ = [some (.ref c.dr), some (.int m), some (.int cell), some (.ref ca), some (.int z), y]) ⟨rfl, _, none, rfl⟩ (fun i σ H' _ ⟨e, _⟩ => e ▸ ht4) ?_ ?_⟩
      · rintro i y σ H' hy ⟨rfl, z, y', rfl⟩
        obtain ⟨k, rfl, k0, k1⟩ : ∃ k : Int, y = .int k ∧ 0 ≤ k ∧ k ≤ 2 ^ 41 := by
          rcases i with _ | _ | i
          · simp at hy
            exact ⟨a + 1, hy.symm, by omega, by omega⟩
          · simp at hy
            exact ⟨u + 1, hy.symm, by omega, by omega⟩
          · simp at hy
        refine ⟨_, rfl, _, rfl, 31, k, rfl, rfl, .inl (by decide), z, _, rfl, rfl, _, 7, rfl, rfl, _, 48271, rfl, rfl, .inr (by decide), _, 2147483647, rfl, rfl, (by show (0 : Int) < 2147483647; decide), ?_⟩
        refine ⟨_, rfl, _, rfl, k, 1000, rfl, rfl, (by show (0 : Int) < 1000; decide), 2, _, rfl, rfl, .inl (by decide), 69621, _, rfl, rfl, _, _, rfl, rfl, .inr ?_, _, 2147483629, rfl, rfl, (by show (0 : Int) < 2147483629; decide), rfl, _, _, rfl⟩
        have e1 := Int.emod_nonneg k (show (1000 : Int) ≠ 0 by decide)
        have e2 := Int.emod_lt_of_pos k (show (0 : Int) < 1000 by decide)
        omega
      · rintro σ H' ⟨rfl, z, y, rfl⟩
        exact ⟨_, rfl, z, 7, rfl, rfl, ⟨by decide, by decide⟩, _, rfl, _, m, rfl, rfl, m0, fin _ hk4 ed4 (by omega) (by omega) (by omega) (by omega)⟩
    -- if cell >= 10 ** 18 and ..
    refine ⟨_, rfl, 10, 18, rfl, rfl, ⟨by decide, by decide, by decide⟩, cell, _, rfl, rfl, _, rfl, ?_⟩
    refine ite2 (fun hbig => ?_) (fun hbig => ?_)
    · refine ⟨_, rfl, c.dr, .int (a + 1), rfl, kd ed2, _, rfl, ca, _, rfl, .inl hcl2, a + 1, _, rfl, rfl, _, rfl, ?_⟩
      refine ite2 (fun hat => ?_) (fun hat => plain)
      refine ⟨_, rfl, _, rfl, cell, m, rfl, rfl, dv, _, rfl, c.dr, _, rfl, kp ed2, ?_⟩
      refine ⟨_, rfl, _, rfl, cell, m, rfl, rfl, m0, fin cell (fun b o q1 q2 => ?_) upd_same (by omega) (by omega) hu0 (by omega)⟩
      rw [upd_ne q1]
      exact hk2 b o q1 q2
    · exact iteF plain
end DL
set_option maxHeartbeats 4000000
namespace DL
open PySem PySem.Spec PyProof.Rows L2
/-! ### the law's begin, the law's own def -/
def rCatS (K : PySem.W.Frag) : R2 := fun x y H Q => ∃ l b xs zs, x = .ref l ∧ y = .ref b ∧ SqL K H l xs ∧ SqL K H b zs ∧ xs.length + zs.length ≤ sizeLine ∧ ∀ p, H p = none → Q (.ref p) (upd H p (.lst (xs ++ zs)))
theorem op_catS {X : Cx} : OpR X (binaryOp .Add) (rCatS X.K) := by
  intro pins s σ H x y v u Q I rx ry h
  obtain ⟨l, b, xs, zs, rfl, rfl, hH, hB, hz, q⟩ := h
  cases rx
  cases ry
  obtain ⟨its, r, pl, _⟩ := I.list hH
  obtain ⟨its2, r2, pl2, _⟩ := I.list hB
  have e1 := r.length
  have e2 := r2.length
  obtain ⟨m, F⟩ := I.fr
  obtain ⟨⟨cls, dd, data, sl⟩, ho, hc, n, hd⟩ := id pl.isList
  obtain ⟨⟨cls2, dd2, data2, sl2⟩, ho2, hc2, n2, hd2⟩ := id pl2.isList
  simp only at hc hd hc2 hd2
  subst hc hd hc2 hd2
  have sz : its.toArray.size + its2.toArray.size ≤ sizeLine := by
    rw [List.size_toArray, List.size_toArray]
    omega
  have fin : EP X pins σ Q (.ref s.heap.objs.size) { s with heap := s.heap.push { cls := .type "list", data := .seq (its.toArray ++ its2.toArray) } } := by
    have ea : its.toArray ++ its2.toArray = (its ++ its2).toArray := by simp
    rw [ea]
    exact ⟨.ref _, _, I.lnew (t' := s.toks) (r.append r2) (by rw [List.length_append]; omega), rfl, q _ I.fresh⟩
  exact concat_meets ⟨_, ho, rfl⟩ ⟨_, ho2, rfl⟩ noFill_list_add seq_list_add PySem.F.slot_list_add PySem.F.entry_list_add (PySem.F.args_list_add_2 _ _) (list_addW l b its.toArray its2.toArray n n2 dd dd2 sl sl2 (by simpa using sz)) ⟨ho, ho2, fin⟩
/-- {'cells': script + [0], 'at': 0, 'left': 0, 'used': 0} -/
def t_begin (K : PySem.W.Frag) : TS := tRet (tDisp [(tC (.str "cells"), tOp (rCatS K) (tVar 0) (tLst (tCons (tI 0) tNil))), (tC (.str "at"), tI 0), (tC (.str "left"), tI 0), (tC (.str "used"), tI 0)])
def spBegin (K : PySem.W.Frag) : Sp := fun vs H Q _ => ∃ (a : Addr) (ns : List Int), vs = [.ref a] ∧ SqL K H a (ns.map V.int) ∧ ns.length ≤ 63 ∧
  ∀ H' p ca, Same H H' → H p = none → H' p = some (.dK (drwL ca 0 0 0)) → H' ca = some (.lst ((ns ++ [0]).map V.int)) → Q (.ref p) H'
theorem pure_begin {K : PySem.W.Frag} {E : XK} (vs : List V) (H : Hp) (Q : VK) (h : spBegin K vs H Q E) : t_begin K { nx := fun _ H' => Q .non H', rt := Q } (vs.map some) H := by
  obtain ⟨a, ns, rfl, hS, hlen, q⟩ := h
  intro p hp
  have s1 : Same H (upd H p (.dK [])) := fun b o e => by
    rw [upd_ne (ne_of_none e hp)]
    exact e
  refine ⟨_, rfl, Nat.le_of_lt (by show 1 < sizeLine; decide), fun t ht => ?_⟩
  have s2 : Same H (upd (upd H p (.dK [])) t (.lst [.int 0])) := fun b o e => by
    rw [upd_ne (ne_of_none (s1 b o e) ht)]
    exact s1 b o e
  have hp2 : upd (upd H p (.dK [])) t (.lst [.int 0]) p = some (.dK []) := by
    rw [upd_ne (ne_of_none (show upd H p (.dK []) p = some (.dK []) from upd_same) ht)]
    exact upd_same
  have ht2 : upd (upd H p (.dK [])) t (.lst [.int 0]) t = some (.lst [.int 0]) := upd_same
  generalize upd (upd H p (.dK [])) t (.lst [.int 0]) = H2 at s2 hp2 ht2
  refine ⟨a, t, ns.map V.int, [.int 0], rfl, rfl, s2.seq hS, .of ht2, by simp only [List.length_map, List.length_singleton]; exact Nat.le_trans (by omega : ns.length + 1 ≤ 64) (by decide), fun c hc => ?_⟩
  have hcp : p ≠ c := ne_of_none hp2 hc
  have hp3 : upd H2 c (.lst (ns.map V.int ++ [.int 0])) p = some (.dK []) := by
    rw [upd_ne hcp]
    exact hp2
  refine ⟨hp3, [(.inr "cells", .ref c), (.inr "at", .int 0), (.inr "left", .int 0), (.inr "used", .int 0)], rfl, by show 4 ≤ 15; decide, ?_⟩
  refine q _ p c (fun b o e => ?_) hp upd_same ?_
  · rw [upd_ne (ne_of_none e hp), upd_ne (ne_of_none (s2 b o e) hc)]
    exact s2 b o e
  · rw [upd_ne (Ne.symm hcp), upd_same]
    simp
def spLaw (K : PySem.W.Frag) : Sp := fun vs H Q _ => ∃ (a : Addr) (ns : List Int), vs = [.ref a] ∧ SqL K H a (ns.map V.int) ∧ ns.length ≤ 63 ∧ LamX.Tabs (TK K) H ∧ ∀ H', Q (.bl true) H'
/-- the law's def: draw = begin(script), then the rest by data -/
theorem law_pure {K : PySem.W.Frag} {E : XK} {N : List Str} {w : WS} (hN : 2 ≤ N.length) (vs : List V) (H : Hp) (Q : VK) (h : spLaw K vs H Q E)
    (hw : w (fun _ _ => False) { nx := fun _ _ => False, rt := fun d _ => d = .bl true } (.un :: .dt .drw :: List.replicate (N.length - 2) Sl.un) (2 ^ 39)) :
    tSeq (tAsg (tCall (spBegin K) [] E0 (tCons (tVar 0) tNil)) (gName 1)) (upS K E w) { nx := fun _ H' => Q .non H', rt := Q } (L2.start N vs) H := by
  obtain ⟨a, ns, rfl, hS, hlen, hT, q⟩ := h
  refine ⟨.ref a, rfl, a, ns, rfl, hS, hlen, fun H' p ca sm hp hH' hca => ?_⟩
  obtain ⟨n0, n1, N', rfl⟩ : ∃ n0 n1 N', N = n0 :: n1 :: N' := by
    cases N with
    | nil => simp at hN
    | cons x r =>
      cases r with
      | nil => simp at hN
      | cons y r => exact ⟨x, y, r, rfl⟩
  have es : (L2.start (n0 :: n1 :: N') [V.ref a]).set 1 (some (.ref p)) = some (.ref a) :: some (.ref p) :: List.replicate N'.length none := by
    unfold L2.start
    simp [List.replicate_succ]
  have pne : p ≠ ca := fun z => by
    rw [z, hca] at hH'
    cases hH'
  show upS K E w _ ((L2.start (n0 :: n1 :: N') [V.ref a]).set 1 (some (.ref p))) H'
  rw [es]
  have hok : (⟨p, fun b => if b = ca then some (.lst ((ns ++ [0]).map V.int)) else none, H', 2 ^ 39, TK K⟩ : Cf).Ok := by
    refine ⟨fun b o e => ?_, if_neg pne, ⟨ca, ns ++ [0], 0, 0, 0, hH', if_pos rfl, by simp, by simp; omega, by decide, by decide, by show (0 : Int) + ((2 ^ 39 : Nat) : Int) ≤ 2 ^ 40; decide, by show (0 : Int) + ((2 ^ 39 : Nat) : Int) ≤ 2 ^ 40; decide⟩, hT.ext sm, fun b ps e => ?_⟩
    · by_cases hb : b = ca
      · subst hb
        have e' : (if b = b then some (HO.lst ((ns ++ [0]).map V.int)) else none) = some o := e
        rw [if_pos rfl] at e'
        cases e'
        exact hca
      · have e' : (if b = ca then some (HO.lst ((ns ++ [0]).map V.int)) else none) = some o := e
        rw [if_neg hb] at e'
        cases e'
    · have e' : (if b = ca then some (HO.lst ((ns ++ [0]).map V.int)) else none) = some (.tbl ps) := e
      by_cases hb : b = ca
      · rw [if_pos hb] at e'
        cases e'
      · rw [if_neg hb] at e'
        cases e'
  have en : EnvOk K ⟨p, fun b => if b = ca then some (.lst ((ns ++ [0]).map V.int)) else none, H', 2 ^ 39, TK K⟩ (some (.ref a) :: some (.ref p) :: List.replicate N'.length none) (.un :: .dt .drw :: List.replicate N'.length Sl.un) := by
    refine ⟨by simp, fun i s h => ?_, fun i j s t a h1 _ g1 _ _ _ => ?_, rfl⟩
    · rcases i with _ | _ | i
      · simp at h
        subst h
        exact ⟨_, rfl, trivial⟩
      · simp at h
        subst h
        exact ⟨_, rfl, _, rfl, .drw⟩
      · have h' : (List.replicate N'.length Sl.un)[i]? = some s := by simpa using h
        have e := (List.mem_replicate.mp (List.mem_of_getElem? h')).2
        subst e
        have hb : i < N'.length := by
          have := (List.getElem?_eq_some_iff.mp h').1
          simpa using this
        exact ⟨none, by simp [hb], trivial⟩
    · have hm := List.mem_of_getElem? h1
      rcases List.mem_cons.mp hm with e | hm
      · subst e
        cases g1
      · rcases List.mem_cons.mp hm with e | hm
        · subst e
          cases g1
        · have e := (List.mem_replicate.mp hm).2
          subst e
          cases g1
  refine ⟨⟨p, fun b => if b = ca then some (.lst ((ns ++ [0]).map V.int)) else none, H', 2 ^ 39, TK K⟩, _, { nx := fun _ _ => False, rt := fun d _ => d = .bl true }, fun _ _ => False, rfl, hok, en, ?_, fun η' c' σ' hn _ _ _ _ => hn.elim, fun d c' v hd _ _ rp => ?_, fun η' c' σ' hn _ _ _ _ => hn.elim, fun η' c' σ' hn _ _ _ _ => hn.elim, fun d c' cls od h => h.elim⟩
  · have e : (n0 :: n1 :: N').length - 2 = N'.length := by simp
    rw [e] at hw
    exact hw
  · have hd : d = .bl true := hd
    subst hd
    cases rp
    exact q _
end DL
set_option maxHeartbeats 4000000
namespace DL
open PySem PySem.Spec PyProof.Rows L2
/-! ### isinstance -/
/-- the built-in type of a datum -/
def tyN : D → Option String
  | .non => some "NoneType"
  | .bl _ => some "bool"
  | .int _ => some "int"
  | .str _ => some "str"
  | .tup _ => some "tuple"
  | .lst _ => some "list"
  | .drw => some "dict"
  | .dct _ _ => some "dict"
  | .dks _ _ => none
  | .dkn _ _ => none
  | .exc _ _ _ => none
  | .ins _ _ _ => none
/-- what of the text an instance's type asks -/
structure InsT (K : PySem.W.Frag) (cn : Str) : Prop where
  cls : Cls K (He.ga K cn)
  ha : PySem.W.findIn K (.ref (He.ga K cn)) "__class__" = some (some (.builtin "object.__class__"))
  hn : PySem.W.specialIn K (.builtin "object.__class__") "__get__" = some (some (.builtin "getset_descriptor.__get__"))
  htk : PySem.W.takesIn K (.builtin "object.__class__") = some true
  hm : PySem.W.mroIn K (He.ga K cn) (.type "object") = some true
section
variable {X : Cx} {E : XK} {pos p p2 : Pos} {e : Expr}
theorem cls_arg {x : Str} {T : String} (hg : Gl X x) (hm : X.mg x = none) (hv : bootBuiltins x = some (.type T)) (hn : x ≠ "__name__" := by decide) (hd : (x == ("__debug__" : Str)) = false := by decide) : PE X (.Name x pos) (tC (.ty T)) := pe_bltn hg hm hv rfl hn hd
/-- isinstance(e, C), C an own class -/
structure IsC (K : PySem.W.Frag) (cn : Str) : Prop where
  t : InsT K cn
  no : ∀ T ∈ ["NoneType", "bool", "int", "str", "tuple", "list", "dict"], PySem.W.kitOne K (.type T) (.ref (He.ga K cn)) = some false
end
end DL
set_option maxHeartbeats 4000000
namespace DL
open PySem PySem.Spec PyProof.Rows L2
/-! ### how the readings are worked out -/
theorem atI_nat {α : Type} {xs : List α} {i : Int} (h : 0 ≤ i) : atI xs i = xs[i.toNat]? := by
  unfold atI ixN
  rw [if_pos h]
  by_cases h2 : i < xs.length
  · rw [if_pos h2]; rfl
  · rw [if_neg h2]
    rw [List.getElem?_eq_none (by omega)]
    rfl
theorem atI_0 {α : Type} (a : α) (l : List α) : atI (a :: l) 0 = some a := by rw [atI_nat (by decide)]; rfl
theorem atI_1 {α : Type} (a b : α) (l : List α) : atI (a :: b :: l) 1 = some b := by rw [atI_nat (by decide)]; rfl
theorem atI_2 {α : Type} (a b c : α) (l : List α) : atI (a :: b :: c :: l) 2 = some c := by rw [atI_nat (by decide)]; rfl
theorem atI_3 {α : Type} (a b c d : α) (l : List α) : atI (a :: b :: c :: d :: l) 3 = some d := by rw [atI_nat (by decide)]; rfl
theorem r_bin (o : O2) (wa wb : WE) (x : Xn) (η : List Sl) (n : Nat) (R : D → Nat → Prop) : eBin o wa wb x η n R = wa x η n fun a n1 => wb x η n1 fun b n2 => o a b fun d => R d n2 := rfl
theorem r_ixT0 (a : D) (l : List D) (k : D → Prop) : oIx (.tup (a :: l)) (.int 0) k = k a := by simp [oIx, atI_0]
theorem r_ixT1 (a b : D) (l : List D) (k : D → Prop) : oIx (.tup (a :: b :: l)) (.int 1) k = k b := by simp [oIx, atI_1]
theorem r_ixT2 (a b c : D) (l : List D) (k : D → Prop) : oIx (.tup (a :: b :: c :: l)) (.int 2) k = k c := by simp [oIx, atI_2]
theorem r_ixT3 (a b c d : D) (l : List D) (k : D → Prop) : oIx (.tup (a :: b :: c :: d :: l)) (.int 3) k = k d := by simp [oIx, atI_3]
theorem r_ixL0 (a : D) (l : List D) (k : D → Prop) : oIx (.lst (a :: l)) (.int 0) k = k a := by simp [oIx, atI_0]
theorem r_ixL1 (a b : D) (l : List D) (k : D → Prop) : oIx (.lst (a :: b :: l)) (.int 1) k = k b := by simp [oIx, atI_1]
theorem r_ixL2 (a b c : D) (l : List D) (k : D → Prop) : oIx (.lst (a :: b :: c :: l)) (.int 2) k = k c := by simp [oIx, atI_2]
theorem r_ixL3 (a b c d : D) (l : List D) (k : D → Prop) : oIx (.lst (a :: b :: c :: d :: l)) (.int 3) k = k d := by simp [oIx, atI_3]
theorem r_sub (i j : Int) (k : D → Prop) : oSub (.int i) (.int j) k = k (.int (i - j)) := rfl
theorem r_add (i j : Int) (k : D → Prop) : oAdd (.int i) (.int j) k = k (.int (i + j)) := rfl
theorem r_mul (i j : Int) (k : D → Prop) : oMul (.int i) (.int j) k = (MulOk i j ∧ k (.int (i * j))) := rfl
theorem r_div (i j : Int) (k : D → Prop) : oDiv (.int i) (.int j) k = (DivOk j ∧ k (.int (i / j))) := rfl
theorem r_mod (i j : Int) (k : D → Prop) : oMod (.int i) (.int j) k = (0 < j ∧ k (.int (i % j))) := rfl
theorem r_pow (i j : Int) (k : D → Prop) : oPow (.int i) (.int j) k = ((0 ≤ j ∧ j ≤ 1000000 ∧ -(2 ^ 64) < i ∧ i < 2 ^ 64) ∧ k (.int (i ^ j.toNat))) := rfl
theorem r_le (i j : Int) (k : D → Prop) : oLe (.int i) (.int j) k = k (.bl (decide (i ≤ j))) := rfl
theorem r_gt (i j : Int) (k : D → Prop) : oGt (.int i) (.int j) k = k (.bl (decide (j < i))) := rfl
theorem r_ge (i j : Int) (k : D → Prop) : oGe (.int i) (.int j) k = k (.bl (decide (j ≤ i))) := rfl
theorem r_lt (i j : Int) (k : D → Prop) : oLt (.int i) (.int j) k = k (.bl (decide (i < j))) := rfl
theorem lay_int (i : Int) : Lay (.int i) := rfl
theorem deq_int (i j : Int) : deq (.int i) (.int j) = decide (i = j) := by
  unfold deq py PyData.eqv
  by_cases h : i = j <;> simp [h]
theorem r_eqI (i j : Int) (k : D → Prop) : oEq (.int i) (.int j) k = k (.bl (decide (i = j))) := by
  unfold oEq; rw [deq_int]; simp [lay_int]
theorem r_neI (i j : Int) (k : D → Prop) : oNe (.int i) (.int j) k = k (.bl (!decide (i = j))) := by
  unfold oNe; rw [deq_int]; simp [lay_int]
theorem r_sIf (t : WT) (a b : WS) (x : Xn) (k : Wk) (η : List Sl) (n : Nat) : sIf t a b x k η n = t x η n fun c n1 => if c = true then a x k η n1 else b x k η n1 := rfl
theorem r_asg (w : WE) (i : Nat) (x : Xn) (k : Wk) (η : List Sl) (n : Nat) : sAsg w (gNm i) x k η n = w x η n fun d n1 => k.nx (η.set i (.dt d)) n1 := rfl
theorem r_asg2 (w : WE) (i j : Nat) (x : Xn) (k : Wk) (η : List Sl) (n : Nat) : sAsg w (gTp 2 (gsCons (gNm i) (gsCons (gNm j) gsNil))) x k η n = w x η n fun d n1 => gTp 2 (gsCons (gNm i) (gsCons (gNm j) gsNil)) d η fun η' => k.nx η' n1 := rfl
theorem r_g2 (i j : Nat) (a b : D) (η : List Sl) (k : List Sl → Prop) : gTp 2 (gsCons (gNm i) (gsCons (gNm j) gsNil)) (.tup [a, b]) η k = k ((η.set i (.dt a)).set j (.dt b)) := by
  simp [gTp, gsCons, gNm, gsNil]
/-- how a body stands at its start -/
abbrev st0 (ds : List D) (N : List Str) : List Sl := ds.map Sl.dt ++ List.replicate (N.length - ds.length) Sl.un
/-- by a truth value -/
def bT (d : D) (P Q : Prop) : Prop := match d with
  | .bl b => if b = true then P else Q
  | _ => False
theorem bT_bl (b : Bool) (P Q : Prop) : bT (.bl b) P Q = if b = true then P else Q := rfl
theorem r_andV (wa wb : WE) (x : Xn) (η : List Sl) (n : Nat) (R : D → Nat → Prop) : eAndV wa wb x η n R = wa x η n fun a n1 => bT a (wb x η n1 R) (R (.bl false) n1) := by
  unfold eAndV
  congr 1
  funext a n1
  cases a <;> first | rfl | skip
  rename_i b; cases b <;> rfl
theorem r_orV (wa wb : WE) (x : Xn) (η : List Sl) (n : Nat) (R : D → Nat → Prop) : eOrV wa wb x η n R = wa x η n fun a n1 => bT a (R (.bl true) n1) (wb x η n1 R) := by
  unfold eOrV
  congr 1
  funext a n1
  cases a <;> first | rfl | skip
  rename_i b; cases b <;> rfl
theorem r_ifAnd (b c : Bool) (R : D → Nat → Prop) (n : Nat) : (if b = true then R (.bl c) n else R (.bl false) n) = R (.bl (b && c)) n := by cases b <;> rfl
theorem r_ifOr (b c : Bool) (R : D → Nat → Prop) (n : Nat) : (if b = true then R (.bl true) n else R (.bl c) n) = R (.bl (b || c)) n := by cases b <;> rfl
theorem r_dt (d : D) (k : D → Prop) : dtS (some (.dt d)) k = k d := rfl
theorem r_rd (d : D) (k : D → Prop) : rdS (some (.dt d)) k = k d := rfl
theorem r_rdo (d : List D) (k : D → Prop) : rdS (some (.ow d)) k = k (.lst d) := rfl
theorem r_owS (d : List D) (k : List D → Prop) : owS (some (.ow d)) k = k d := rfl
/-- a truth value out of a value -/
def tB (d : D) (k : Bool → Prop) : Prop := match d with
  | .bl b => k b
  | _ => False
theorem tB_bl (b : Bool) (k : Bool → Prop) : tB (.bl b) k = k b := rfl
theorem r_test (w : WE) (x : Xn) (η : List Sl) (n : Nat) (R : Bool → Nat → Prop) : wTest w x η n R = w x η n fun d n1 => tB d fun b => R b n1 := rfl
theorem r_notV (w : WE) (x : Xn) (η : List Sl) (n : Nat) (R : D → Nat → Prop) : eNotV w x η n R = w x η n fun d n1 => tB d fun b => R (.bl !b) n1 := rfl
theorem r_tru (w : WE) (x : Xn) (η : List Sl) (n : Nat) (R : Bool → Nat → Prop) : wTru w x η n R = w x η n fun d n1 => truth d fun b => R b n1 := rfl
theorem r_trB (b : Bool) (k : Bool → Prop) : truth (.bl b) k = k b := rfl
theorem r_trL (b : List D) (k : Bool → Prop) : truth (.lst b) k = k (!b.isEmpty) := rfl
theorem r_trI (i : Int) (k : Bool → Prop) : truth (.int i) k = k (i != 0) := rfl
theorem r_sqL (xs : List D) (k : List D → Prop) : seqOf (.lst xs) k = k xs := rfl
theorem r_sqT (xs : List D) (k : List D → Prop) : seqOf (.tup xs) k = k xs := rfl
/-- two values -/
def tw (ds : List D) (k : D → D → Prop) : Prop := match ds with
  | [d, e] => k d e
  | _ => False
theorem tw_2 (d e : D) (k : D → D → Prop) : tw [d, e] k = k d e := rfl
theorem r_par (i j : Nat) (w : WA) (x : Xn) (k : Wk) (η : List Sl) (n : Nat) : sPar i j w x k η n = w x η n fun ds n1 => tw ds fun d e => k.nx ((η.set i (.dt d)).set j (.dt e)) n1 := rfl
/-- a row turned round -/
def rvD (d : D) (k : D → Prop) : Prop := match d with
  | .lst xs => k (.lst xs.reverse)
  | .tup xs => k (.tup xs.reverse)
  | _ => False
theorem r_rev (w : WE) (x : Xn) (η : List Sl) (n : Nat) (R : D → Nat → Prop) : eRev w x η n R = w x η n fun d n1 => rvD d fun r => R r n1 := by
  unfold eRev
  congr 1
theorem rv_t (xs : List D) (k : D → Prop) : rvD (.tup xs) k = k (.tup xs.reverse) := rfl
theorem rv_l (xs : List D) (k : D → Prop) : rvD (.lst xs) k = k (.lst xs.reverse) := rfl
theorem r_mt (i : Nat) (f : OM) (w : WA) (x : Xn) (k : Wk) (η : List Sl) (n : Nat) : sMt' i f w x k η n = ((∃ xs, η[i]? = some (Sl.ow xs)) ∧ w x η n fun ds n1 => owS η[i]? fun xs => f xs ds fun xs' => k.nx (η.set i (.ow xs')) n1) := rfl
theorem r_ext (xs ys : List D) (k : List D → Prop) : mExtend xs [.lst ys] k = (xs.length + ys.length ≤ sizeLine ∧ k (xs ++ ys)) := rfl
theorem r_app (xs : List D) (y : D) (k : List D → Prop) : mAppend xs [y] k = (xs.length < sizeLine ∧ k (xs ++ [y])) := rfl
theorem r_len (xs : List D) (k : D → Prop) : bLen [.lst xs] k = k (.int xs.length) := rfl
theorem r_lenT (xs : List D) (k : D → Prop) : bLen [.tup xs] k = k (.int xs.length) := rfl
theorem ow_ex (xs : List D) : (∃ ys, some (Sl.ow xs) = some (Sl.ow ys)) = True := eq_true ⟨xs, rfl⟩
theorem size2 : (2 ≤ sizeLine) = True := eq_true (by decide)
theorem size4 : (4 ≤ sizeLine) = True := eq_true (by decide)
theorem size0 : (0 ≤ sizeLine) = True := eq_true (by decide)
theorem size1 : (1 ≤ sizeLine) = True := eq_true (by decide)
theorem size3 : (3 ≤ sizeLine) = True := eq_true (by decide)
/-! ### what can be compared -/
def LayN (k : Nat) (d : D) : Prop := (py d).canLay0 = true ∧ (py d).depth ≤ k
theorem LayN.lay {k : Nat} {d : D} (h : LayN k d) (hk : k ≤ 64 := by decide) : Lay d := by
  unfold Lay SeqAt.shaped
  rw [h.1]
  simp
  have := h.2
  omega
theorem LayN.mono {k l : Nat} {d : D} (h : LayN k d) (hk : k ≤ l) : LayN l d := ⟨h.1, Nat.le_trans h.2 hk⟩
theorem LayN.of {d : D} (h : Lay d) : LayN 64 d := ⟨SeqAt.canLay_of_shaped h, SeqAt.depth_of_shaped h⟩
theorem layAll {k : Nat} : ∀ {xs : List D}, (∀ d, d ∈ xs → LayN k d) → PyData.canLayAll0 (pyL xs) = true ∧ PyData.depthAll (pyL xs) ≤ k
  | [], _ => ⟨rfl, Nat.zero_le _⟩
  | d :: xs, h => by
    have h1 := h d (List.mem_cons_self ..)
    have h2 := layAll (xs := xs) fun e he => h e (List.mem_cons_of_mem _ he)
    unfold pyL PyData.canLayAll0 PyData.depthAll
    rw [h1.1, h2.1]
    exact ⟨rfl, Nat.max_le.2 ⟨h1.2, h2.2⟩⟩
theorem LayN.lst {k : Nat} {xs : List D} (h : ∀ d, d ∈ xs → LayN k d) : LayN (k + 1) (.lst xs) := ⟨(layAll h).1, Nat.succ_le_succ (layAll h).2⟩
theorem LayN.tup {k : Nat} {xs : List D} (h : ∀ d, d ∈ xs → LayN k d) : LayN (k + 1) (.tup xs) := ⟨(layAll h).1, Nat.succ_le_succ (layAll h).2⟩
theorem LayN.int {k : Nat} (i : Int) : LayN k (.int i) := ⟨rfl, Nat.zero_le _⟩
theorem LayN.bl {k : Nat} (i : Bool) : LayN k (.bl i) := ⟨rfl, Nat.zero_le _⟩
theorem LayN.non {k : Nat} : LayN k .non := ⟨rfl, Nat.zero_le _⟩
/-! ### comprehensions and loops over mapped rows -/
theorem for_ind {α : Type} (emb : α → D) {x : Xn} {k : Wk} {g : WG} {b : WS} (I : List α → List Sl → Nat → Prop) (hnil : ∀ η n, I [] η n → k.nx η n)
    (hs : ∀ a ys η n (nxt : List Sl → Nat → Prop), I (a :: ys) η n → (∀ η n, I ys η n → nxt η n) → g (emb a) η fun η' => b x { nx := nxt, ct := nxt, bk := k.nx, rt := k.rt } η' n) :
    ∀ (ys : List α) η n, I ys η n → runFor x k g b (ys.map emb) η n
  | [], η, n, h => hnil η n h
  | a :: ys, η, n, h => hs a ys η n _ h fun η n h => for_ind emb I hnil hs ys η n h
theorem for_cnt {x : Xn} {k : Wk} {g : WG} {b : WS} (I : Nat → List Sl → Nat → Prop) (hnil : ∀ η n, I 0 η n → k.nx η n)
    (hs : ∀ d m η n (nxt : List Sl → Nat → Prop), I (m + 1) η n → (∀ η n, I m η n → nxt η n) → g d η fun η' => b x { nx := nxt, ct := nxt, bk := k.nx, rt := k.rt } η' n) :
    ∀ (xs : List D) η n, I xs.length η n → runFor x k g b xs η n
  | [], η, n, h => hnil η n h
  | d :: xs, η, n, h => hs d xs.length η n _ h fun η n h => for_cnt I hnil hs xs η n h
end DL
set_option maxHeartbeats 4000000
namespace DL
open PySem PySem.Spec PyProof.Rows L2
/-! ### a list times a number; repr of a row -/
section
variable {X : Cx} {E : XK} {pos : Pos}
def oRep : O2 := fun a b k => match a, b with
  | .lst xs, .int i => 0 ≤ i ∧ i < 2 ^ 62 ∧ xs.length * i.toNat ≤ sizeLine ∧ k (.lst (List.replicate i.toNat xs).flatten)
  | _, _ => False
theorem RPL.rep {K : PySem.W.Frag} {c : Cf} {vs : List V} {xs : List D} (r : RPL K c vs xs) : ∀ n : Nat, RPL K c (List.replicate n vs).flatten (List.replicate n xs).flatten
  | 0 => .nil
  | n + 1 => by
    rw [List.replicate_succ, List.replicate_succ, List.flatten_cons, List.flatten_cons]
    exact r.append (RPL.rep r n)
theorem opd_rep : OpD X rRep oRep := by
  intro c v u a b k Q ok hT ra rb h hQ
  cases a <;> cases b <;> first | exact h.elim | skip
  obtain ⟨p, vs, e1, h1, r1⟩ := ra.lst ok
  obtain ⟨g1, g2, g3, hk⟩ := h
  exact ⟨p, _, vs, e1, rb.int, h1, by omega, by omega, by rw [r1.length]; exact g3, fun t ht => rp_new_lst ok ht (RPL.rep r1 _) hk hQ⟩
end
/-! ### a def that is run with no repr under way -/
structure FnOkG (P : Program) (w : World) (K : PySem.W.Frag) (mg : Str → Option Value) (base : Heap) (CX : CXT) (k : Nat) (f : Addr) (fd : FuncData) (ps : List Str) (sp : Sp) : Prop where
  len : ∀ vs H Q E, sp vs H Q E → vs.length = ps.length
  run : ∀ (A : Around) (st : List Env) (s : Shared) (H : Hp) (ar : Args) (us : List Value) (vs : List V) (Q : VK) (E : XK), A.guards = some [] → Room k A → Env0 P w K mg base A st s H → BindsTo s fd ar (ps.zip us) → Vals vs us →
    sp vs H Q E → codeAny (model P w) A (.call (.ref f) ar) (CR CX st P w H s Q E) s
theorem okG {P : Program} {w : World} {K : PySem.W.Frag} {mg : Str → Option Value} {base : Heap} {x qual : Str} {params : Arguments} {body : List Stmt} {scope : Scope} {dvs : List V} {kws : List (Str × V)} {f : Addr} {fd : FuncData} {CX : CXT} {N ps : List Str} {k : Nat} {sp : Sp}
    (F : FunD K x qual params body scope dvs kws f fd) (S : FnScope N ps scope) (len : ∀ vs H Q E, sp vs H Q E → vs.length = ps.length)
    (hb : ∀ (cdv : Value) (A : Around) (st : List Env) (s : Shared) (H : Hp) (vs : List V) (Q : VK) (E : XK), A.guards = some [] → Room k (A.deeper (envOfC qual scope s.heap.objs.size f cdv)) → sp vs H Q E →
      ∃ t, PSs (cxOf CX P w K mg base N qual scope f cdv A st s H E) body t ∧ t { nx := fun _ H' => Q .non H', rt := Q } (start N vs) H) : FnOkG P w K mg base CX (k + 1) f fd ps sp := by
  obtain ⟨oc, od, dV, kV, doc, pm, an, cdv, ct, osl, rfl, lk, hcd, _, _⟩ := F.ex
  constructor
  · exact len
  intro A st s H ar us vs Q E hgu hr e0 bt rv hs
  have old : ∀ b o, base.get? b = some o → s.heap.get? b = some o := fun b o e => (e0.bs b o e).1
  have kin : K.In s.heap := e0.mod.kin.keeps old
  have nol : s.heap.NoLimit := e0.mod.nolimit.keeps old
  have nms : ∀ y ∈ ps.zip us, scope.names.lookup y.1 = some .local ∨ (scope.names.lookup y.1 = some .cell ∧ ((cellsFrom (s.heap.objs.size + 1) scope.names []).lookup y.1).isSome = true) := by
    intro y hy
    cases S.par y.1 (List.of_mem_zip hy).1 with
    | inl q => exact Or.inl q
    | inr q => exact Or.inr (And.intro q (PySem.W.cellsFrom_some _ _ _ (Or.inl q)))
  apply codeAny_call_function hr.depth (kin _ _ lk) rfl S.co S.gen rfl (PySem.W.codeRec_of kin hcd)
  apply bt
  apply wpAny_newFunctionEnv_cells S.kind nms
  intro env he s1 ic
  subst he
  constructor
  · exact nol.keeps ic.toInCall.keep
  apply codeAny_func
  obtain ⟨t, pt, ht⟩ := hb cdv A st s H vs Q E hgu (hr.deeper _) hs
  have J := inv_start (CX := CX) (E := E) S hr.hd e0 (len _ _ _ _ hs) rv ic
  apply wpAny_mono (pt.run [] s1 (start N vs) H _ J ht)
  · intro fl s' z
    match fl, z with
    | .ret u, ⟨v, σ', H', J', rv', q⟩ => exact ⟨v, H', J'.os, J'.bare, J'.base, J'.hok, rv', q⟩
    | .next, ⟨σ', H', J', q⟩ => exact ⟨V.non, H', J'.os, J'.bare, J'.base, J'.hok, (rfl : RelV V.non Value.none), q⟩
    | .brk, ⟨_, _, _, q⟩ => exact q.elim
    | .cont, ⟨_, _, _, q⟩ => exact q.elim
  · intro e s' z
    exact z
/-- a def of the module by any promise -/
def FnS (P : Program) (wd : World) (K : PySem.W.Frag) (mg : Str → Option Value) (base : Heap) (nm : Str) (ps : List Str) (k : Nat) (sp : Sp) : Prop :=
  ∃ fd, FnOk P wd K mg base CX0 k (He.ga K nm) fd ps sp ∧ Binds K fd ps [] ∧ PySem.W.keepIn K (.ref (He.ga K nm)) = true ∧ mg nm = some (.ref (He.ga K nm))
end DL
set_option maxHeartbeats 4000000
namespace DL
open PySem PySem.Spec PyProof.Rows L2
/-! ### points and edges -/
abbrev Pt := Int × Int
def pt (p : Pt) : D := .tup [.int p.1, .int p.2]
def ed (e : Pt × Pt) : D := .tup [pt e.1, pt e.2]
/-- within bounds -/
structure Bd (p : Pt) : Prop where
  x0 : -10000000 ≤ p.1
  x1 : p.1 ≤ 10000000
  y0 : -10000000 ≤ p.2
  y1 : p.2 ≤ 10000000
def turn (o a b : Pt) : Int := (a.1 - o.1) * (b.2 - o.2) - (a.2 - o.2) * (b.1 - o.1)
def prod (o a b : Pt) : Int := (a.1 - o.1) * (b.1 - o.1) + (a.2 - o.2) * (b.2 - o.2)
def ltP (p q : Pt) : Bool := HT.lexLt [p.1, p.2] [q.1, q.2]
def ordE (e : Pt × Pt) : Pt × Pt := if ltP e.1 e.2 = true then e else (e.2, e.1)
def apartI (i j : Int) : Bool := (decide (0 < i) && decide (0 < j)) || (decide (i < 0) && decide (j < 0))
def overW (e o : Pt × Pt) : Bool :=
  let a := ordE e
  let b := ordE o
  let low := if ltP b.1 a.1 = true then a.1 else b.1
  let high := if ltP b.2 a.2 = true then b.2 else a.2
  !ltP low high
def meetW (e o : Pt × Pt) : Bool :=
  let a := ordE e
  let b := ordE o
  if decide (a = b) = true then true
  else if (decide (turn a.1 a.2 b.1 = 0) && decide (turn a.1 a.2 b.2 = 0) && decide (turn b.1 b.2 a.1 = 0) && decide (turn b.1 b.2 a.2 = 0)) = true then overW e o
  else if (apartI (turn a.1 a.2 b.1) (turn a.1 a.2 b.2) || apartI (turn b.1 b.2 a.1) (turn b.1 b.2 a.2)) = true then true
  else (decide (b.1 = a.1) || decide (b.1 = a.2)) || (decide (b.2 = a.1) || decide (b.2 = a.2))
def offP (p a b : Pt) : Int × Int :=
  let size := prod a b b
  let far := prod a b p
  if far ≤ 0 then (prod a p p, 1) else if size ≤ far then (prod b p p, 1) else (turn a b p ^ 2, size)
def fr (q : Int × Int) : D := .tup [.int q.1, .int q.2]
/-- a slack by its two numbers -/
def slk (q : Int × Int) : D := .ins "Slack" ["own_num", "own_den"] [.int q.1, .int q.2]
/-- in lowest terms -/
def low (q : Int × Int) : Int × Int := (q.1 / (Int.gcd q.1 q.2 : Int), q.2 / (Int.gcd q.1 q.2 : Int))
/-! ### contracts -/
def C_turning : Ct := fun _ ds n R => ∃ o a b : Pt, ds = [pt o, pt a, pt b] ∧ Bd o ∧ Bd a ∧ Bd b ∧ R (.int (turn o a b)) n
def C_product : Ct := fun _ ds n R => ∃ o a b : Pt, ds = [pt o, pt a, pt b] ∧ Bd o ∧ Bd a ∧ Bd b ∧ R (.int (prod o a b)) n
def C_in_order : Ct := fun _ ds n R => ∃ e : Pt × Pt, ds = [ed e] ∧ R (ed (ordE e)) n
def C_are_apart : Ct := fun _ ds n R => ∃ i j : Int, ds = [.int i, .int j] ∧ R (.bl (apartI i j)) n
def C_overlap_well : Ct := fun _ ds n R => ∃ e o : Pt × Pt, ds = [ed e, ed o] ∧ R (.bl (overW e o)) n
def C_meet_well : Ct := fun _ ds n R => ∃ e o : Pt × Pt, ds = [ed e, ed o] ∧ Bd e.1 ∧ Bd e.2 ∧ Bd o.1 ∧ Bd o.2 ∧ R (.bl (meetW e o)) n
def C_offset_parts : Ct := fun _ ds n R => ∃ p a b : Pt, ds = [pt p, pt a, pt b] ∧ Bd p ∧ Bd a ∧ Bd b ∧ R (fr (offP p a b)) n
def C_offset_of : Ct := fun _ ds n R => ∃ (p : Pt) (e : Pt × Pt), ds = [pt p, ed e] ∧ Bd p ∧ Bd e.1 ∧ Bd e.2 ∧ R (slk (low (offP p e.1 e.2))) n
def C_is_integer : Ct := fun _ ds n R => ∃ d a, ds = [d] ∧ tyN d = some a ∧ R (.bl (decide (a = "int"))) n
def C_common : Ct := fun _ ds n R => ∃ a b : Int, ds = [.int a, .int b] ∧ 0 ≤ a ∧ 0 ≤ b ∧ R (.int (Int.gcd a b)) n
def C_Slack_init : Ci := fun _ ds n R => ∃ a b : Int, ds = [.int a, .int b] ∧ 0 ≤ a ∧ 1 ≤ b ∧ b < 2 ^ 250 ∧ R ["own_num", "own_den"] [.int (low (a, b)).1, .int (low (a, b)).2] n
/-! the law's own -/
def C_L_pick : Ct := fun _ ds n R => ∃ xs, ds = [.drw, .lst xs] ∧ xs ≠ [] ∧ xs.length ≤ 1000000 ∧ 1 ≤ n ∧ ∀ d, d ∈ xs → R d (n - 1)
def C_L_cross : Ct := C_turning
def liesL (s : Pt) (e : Pt × Pt) : Bool := if decide (turn e.1 e.2 s = 0) = true then decide ((e.1.1 - s.1) * (e.2.1 - s.1) ≤ 0) && decide ((e.1.2 - s.2) * (e.2.2 - s.2) ≤ 0) else false
def C_L_lies : Ct := fun _ ds n R => ∃ (s : Pt) (e : Pt × Pt), ds = [pt s, ed e] ∧ Bd s ∧ Bd e.1 ∧ Bd e.2 ∧ R (.bl (liesL s e)) n
/-- a point of near that is no point of rest lies on rest -/
def touL (near rest : Pt × Pt) : Bool := ([near.1, near.2].filter fun k => !(decide (rest.1 = k) || decide (rest.2 = k))).any fun k => liesL k rest
def meetL (e o : Pt × Pt) : Bool :=
  if (decide (o = e) || decide ((o.2, o.1) = e)) = true then true
  else if touL e o = true then false
  else if touL o e = true then false
  else if decide (0 ≤ turn e.1 e.2 o.1 * turn e.1 e.2 o.2) = true then true
  else decide (0 ≤ turn o.1 o.2 e.1 * turn o.1 o.2 e.2)
def C_L_meet : Ct := fun _ ds n R => ∃ e o : Pt × Pt, ds = [ed e, ed o] ∧ Bd e.1 ∧ Bd e.2 ∧ Bd o.1 ∧ Bd o.2 ∧ R (.bl (meetL e o)) n
def offL (s a b : Pt) : Int × Int :=
  let x := b.1 - a.1
  let y := b.2 - a.2
  let l := s.1 - a.1
  let u := s.2 - a.2
  if l * x + u * y ≤ 0 ∨ x * x + y * y = 0 then (l * l + u * u, 1)
  else if x * x + y * y ≤ l * x + u * y then ((s.1 - b.1) * (s.1 - b.1) + (s.2 - b.2) * (s.2 - b.2), 1)
  else ((l * l + u * u) * (x * x + y * y) - (l * x + u * y) ^ 2, x * x + y * y)
def C_L_offset : Ct := fun _ ds n R => ∃ s a b : Pt, ds = [pt s, pt a, pt b] ∧ Bd s ∧ Bd a ∧ Bd b ∧ R (fr (offL s a b)) n
def C_L_spot : Ct := fun _ ds n R => ∃ f : Int, ds = [.drw, .int f] ∧ 0 ≤ f ∧ f ≤ 1000000 ∧ 2 ≤ n ∧ ∀ i j : Int, 0 ≤ i → i < 6 → 0 ≤ j → j < 6 → R (pt (i * f, j * f - 3)) (n - 2)
theorem calm_L_pick : Calm C_L_pick := fun _ _ _ _ _ h => h
end DL
set_option maxHeartbeats 4000000
namespace DL
open PySem PySem.Spec PyProof.Rows L2
theorem pt_inj (p q : Pt) : (pt p = pt q) = (p = q) := by
  obtain ⟨a, b⟩ := p; obtain ⟨c, d⟩ := q
  simp [pt]
theorem ed_inj (p q : Pt × Pt) : (ed p = ed q) = (p = q) := by
  obtain ⟨a, b⟩ := p; obtain ⟨c, d⟩ := q
  simp only [ed, D.tup.injEq, List.cons.injEq, pt_inj, and_true, Prod.mk.injEq]
theorem r_pt0 (p : Pt) (k : D → Prop) : oIx (pt p) (.int 0) k = k (.int p.1) := r_ixT0 _ _ _
theorem r_pt1 (p : Pt) (k : D → Prop) : oIx (pt p) (.int 1) k = k (.int p.2) := r_ixT1 _ _ _ _
theorem r_fr0 (p : Pt) (k : D → Prop) : oIx (fr p) (.int 0) k = k (.int p.1) := r_ixT0 _ _ _
theorem r_fr1 (p : Pt) (k : D → Prop) : oIx (fr p) (.int 1) k = k (.int p.2) := r_ixT1 _ _ _ _
theorem r_ed0 (e : Pt × Pt) (k : D → Prop) : oIx (ed e) (.int 0) k = k (pt e.1) := r_ixT0 _ _ _
theorem r_ed1 (e : Pt × Pt) (k : D → Prop) : oIx (ed e) (.int 1) k = k (pt e.2) := r_ixT1 _ _ _ _
theorem r_g2pt (i j : Nat) (p : Pt) (η : List Sl) (k : List Sl → Prop) : gTp 2 (gsCons (gNm i) (gsCons (gNm j) gsNil)) (pt p) η k = k ((η.set i (.dt (.int p.1))).set j (.dt (.int p.2))) := r_g2 _ _ _ _ _ _
theorem r_g2fr (i j : Nat) (p : Pt) (η : List Sl) (k : List Sl → Prop) : gTp 2 (gsCons (gNm i) (gsCons (gNm j) gsNil)) (fr p) η k = k ((η.set i (.dt (.int p.1))).set j (.dt (.int p.2))) := r_g2 _ _ _ _ _ _
theorem r_g2ed (i j : Nat) (e : Pt × Pt) (η : List Sl) (k : List Sl → Prop) : gTp 2 (gsCons (gNm i) (gsCons (gNm j) gsNil)) (ed e) η k = k ((η.set i (.dt (pt e.1))).set j (.dt (pt e.2))) := r_g2 _ _ _ _ _ _
theorem ed_mk (a b : Pt) : D.tup [pt a, pt b] = ed (a, b) := rfl
theorem r_ltP (p q : Pt) (k : D → Prop) : oLt (pt p) (pt q) k = k (.bl (ltP p q)) := by
  simp [pt, oLt, intsOf, ltP]
theorem lay_pt (p : Pt) : Lay (pt p) := rfl
theorem lay_ed (p : Pt × Pt) : Lay (ed p) := rfl
theorem lay_ed2 (p q : Pt × Pt) : Lay (.tup [ed p, ed q]) := rfl
theorem deq_pt (p q : Pt) : deq (pt p) (pt q) = decide (p = q) := by
  obtain ⟨a, b⟩ := p; obtain ⟨c, d⟩ := q
  unfold deq pt
  simp only [py, pyL, PyData.eqv, PyData.eqvAll]
  by_cases h : a = c <;> by_cases h' : b = d <;> simp [h, h']
theorem deq_ed (p q : Pt × Pt) : deq (ed p) (ed q) = decide (p = q) := by
  obtain ⟨a, b⟩ := p; obtain ⟨c, d⟩ := q
  have e1 := deq_pt a c
  have e2 := deq_pt b d
  unfold deq at *
  unfold ed
  simp only [py, pyL, PyData.eqv, PyData.eqvAll] at *
  rw [e1, e2]
  by_cases h : a = c <;> by_cases h' : b = d <;> simp [h, h']
theorem r_eqP (p q : Pt) (k : D → Prop) : oEq (pt p) (pt q) k = k (.bl (decide (p = q))) := by
  unfold oEq; rw [deq_pt]; simp [lay_pt]
theorem r_neP (p q : Pt) (k : D → Prop) : oNe (pt p) (pt q) k = k (.bl (!decide (p = q))) := by
  unfold oNe; rw [deq_pt]; simp [lay_pt]
theorem r_eqE (p q : Pt × Pt) (k : D → Prop) : oEq (ed p) (ed q) k = k (.bl (decide (p = q))) := by
  unfold oEq; rw [deq_ed]; simp [lay_ed]
theorem r_inE (p : Pt) (e : Pt × Pt) (k : D → Prop) : oIn (pt p) (ed e) k = k (.bl (decide (e.1 = p) || decide (e.2 = p))) := by
  unfold oIn ed
  simp only [dIn, List.any, deq_pt]
  rw [show (Lay (.tup [pt e.1, pt e.2])) = True from eq_true (lay_ed e), show Lay (pt p) = True from eq_true (lay_pt p)]
  simp
theorem r_notInE (p : Pt) (e : Pt × Pt) (k : D → Prop) : oNotIn (pt p) (ed e) k = k (.bl (!(decide (e.1 = p) || decide (e.2 = p)))) := by
  unfold oNotIn ed
  simp only [dIn, List.any, deq_pt]
  rw [show (Lay (.tup [pt e.1, pt e.2])) = True from eq_true (lay_ed e), show Lay (pt p) = True from eq_true (lay_pt p)]
  simp
theorem r_inEE (p a b : Pt × Pt) (k : D → Prop) : oIn (ed p) (.tup [ed a, ed b]) k = k (.bl (decide (a = p) || decide (b = p))) := by
  unfold oIn
  simp only [dIn, List.any, deq_ed]
  rw [show (Lay (.tup [ed a, ed b])) = True from eq_true (lay_ed2 a b), show Lay (ed p) = True from eq_true (lay_ed p)]
  simp
theorem rv_ed (e : Pt × Pt) (k : D → Prop) : rvD (ed e) k = k (ed (e.2, e.1)) := rfl
/-! ### the contracts as rules -/
theorem c_in_order (x : Xn) (e : Pt × Pt) (n : Nat) (R : D → Nat → Prop) : C_in_order x [ed e] n R = R (ed (ordE e)) n := by
  simp only [C_in_order, List.cons.injEq, ed_inj, and_true, exists_eq_left']
theorem c_turning (x : Xn) (o a b : Pt) (n : Nat) (R : D → Nat → Prop) : C_turning x [pt o, pt a, pt b] n R = (Bd o ∧ Bd a ∧ Bd b ∧ R (.int (turn o a b)) n) := by
  simp only [C_turning, List.cons.injEq, pt_inj, and_true, and_assoc, exists_and_left, exists_eq_left']
theorem c_product (x : Xn) (o a b : Pt) (n : Nat) (R : D → Nat → Prop) : C_product x [pt o, pt a, pt b] n R = (Bd o ∧ Bd a ∧ Bd b ∧ R (.int (prod o a b)) n) := by
  simp only [C_product, List.cons.injEq, pt_inj, and_true, and_assoc, exists_and_left, exists_eq_left']
theorem c_cross (x : Xn) (o a b : Pt) (n : Nat) (R : D → Nat → Prop) : C_L_cross x [pt o, pt a, pt b] n R = (Bd o ∧ Bd a ∧ Bd b ∧ R (.int (turn o a b)) n) := c_turning ..
theorem c_are_apart (x : Xn) (i j : Int) (n : Nat) (R : D → Nat → Prop) : C_are_apart x [.int i, .int j] n R = R (.bl (apartI i j)) n := by
  simp only [C_are_apart, List.cons.injEq, D.int.injEq, and_true, and_assoc, exists_and_left, exists_eq_left']
theorem c_overlap_well (x : Xn) (e o : Pt × Pt) (n : Nat) (R : D → Nat → Prop) : C_overlap_well x [ed e, ed o] n R = R (.bl (overW e o)) n := by
  simp only [C_overlap_well, List.cons.injEq, ed_inj, and_true, and_assoc, exists_and_left, exists_eq_left']
theorem c_meet_well (x : Xn) (e o : Pt × Pt) (n : Nat) (R : D → Nat → Prop) : C_meet_well x [ed e, ed o] n R = (Bd e.1 ∧ Bd e.2 ∧ Bd o.1 ∧ Bd o.2 ∧ R (.bl (meetW e o)) n) := by
  simp only [C_meet_well, List.cons.injEq, ed_inj, and_true, and_assoc, exists_and_left, exists_eq_left']
theorem c_offset_parts (x : Xn) (p a b : Pt) (n : Nat) (R : D → Nat → Prop) : C_offset_parts x [pt p, pt a, pt b] n R = (Bd p ∧ Bd a ∧ Bd b ∧ R (fr (offP p a b)) n) := by
  simp only [C_offset_parts, List.cons.injEq, pt_inj, and_true, and_assoc, exists_and_left, exists_eq_left']
theorem c_offset_of (x : Xn) (p : Pt) (e : Pt × Pt) (n : Nat) (R : D → Nat → Prop) : C_offset_of x [pt p, ed e] n R = (Bd p ∧ Bd e.1 ∧ Bd e.2 ∧ R (slk (low (offP p e.1 e.2))) n) := by
  simp only [C_offset_of, List.cons.injEq, pt_inj, ed_inj, and_true, and_assoc, exists_and_left, exists_eq_left']
theorem c_is_integer (x : Xn) (i : Int) (n : Nat) (R : D → Nat → Prop) : C_is_integer x [.int i] n R = R (.bl true) n := by
  simp [C_is_integer, tyN]
theorem c_common (x : Xn) (i j : Int) (n : Nat) (R : D → Nat → Prop) : C_common x [.int i, .int j] n R = (0 ≤ i ∧ 0 ≤ j ∧ R (.int (Int.gcd i j)) n) := by
  simp only [C_common, List.cons.injEq, D.int.injEq, and_true, and_assoc, exists_and_left, exists_eq_left']
theorem c_Slack_init (x : Xn) (i j : Int) (n : Nat) (R : List Str → List D → Nat → Prop) : C_Slack_init x [.int i, .int j] n R = (0 ≤ i ∧ 1 ≤ j ∧ j < 2 ^ 250 ∧ R ["own_num", "own_den"] [.int (low (i, j)).1, .int (low (i, j)).2] n) := by
  simp only [C_Slack_init, List.cons.injEq, D.int.injEq, and_true, and_assoc, exists_and_left, exists_eq_left']
theorem c_L_lies (x : Xn) (p : Pt) (e : Pt × Pt) (n : Nat) (R : D → Nat → Prop) : C_L_lies x [pt p, ed e] n R = (Bd p ∧ Bd e.1 ∧ Bd e.2 ∧ R (.bl (liesL p e)) n) := by
  simp only [C_L_lies, List.cons.injEq, pt_inj, ed_inj, and_true, and_assoc, exists_and_left, exists_eq_left']
theorem c_L_meet (x : Xn) (e o : Pt × Pt) (n : Nat) (R : D → Nat → Prop) : C_L_meet x [ed e, ed o] n R = (Bd e.1 ∧ Bd e.2 ∧ Bd o.1 ∧ Bd o.2 ∧ R (.bl (meetL e o)) n) := by
  simp only [C_L_meet, List.cons.injEq, ed_inj, and_true, and_assoc, exists_and_left, exists_eq_left']
theorem c_L_offset (x : Xn) (p a b : Pt) (n : Nat) (R : D → Nat → Prop) : C_L_offset x [pt p, pt a, pt b] n R = (Bd p ∧ Bd a ∧ Bd b ∧ R (fr (offL p a b)) n) := by
  simp only [C_L_offset, List.cons.injEq, pt_inj, and_true, and_assoc, exists_and_left, exists_eq_left']
theorem c_L_spot (x : Xn) (f : Int) (n : Nat) (R : D → Nat → Prop) : C_L_spot x [.drw, .int f] n R = (0 ≤ f ∧ f ≤ 1000000 ∧ 2 ≤ n ∧ ∀ i j : Int, 0 ≤ i → i < 6 → 0 ≤ j → j < 6 → R (pt (i * f, j * f - 3)) (n - 2)) := by
  simp only [C_L_spot, List.cons.injEq, D.int.injEq, and_true, true_and, exists_eq_left']
theorem gP_10 (a b : D) : gP D.non [1, 0] [] [a, b] = [b, a] := rfl
theorem r_rep4 (d : D) (k : D → Prop) : oRep (.lst [d]) (.int 4) k = k (.lst [d, d, d, d]) := by
  unfold oRep
  apply propext
  constructor
  · exact fun h => h.2.2.2
  · exact fun h => ⟨by decide, by decide, by show 1 * 4 ≤ sizeLine; decide, h⟩
theorem r_addL (xs ys : List D) (k : D → Prop) : oAdd (.lst xs) (.lst ys) k = (xs.length + ys.length ≤ sizeLine ∧ k (.lst (xs ++ ys))) := rfl
end DL
set_option maxHeartbeats 4000000
namespace DL
open PySem PySem.Spec PyProof.Rows L2
/-! ### the head's hook with further facts -/
theorem st_m {w : WS} {C : Ct} {N : List Str} {m : Nat} (h : ∀ x ds n R, ds.length = m → C x ds n R → w x { nx := fun _ n => R .non n, rt := R } (st0 ds N) n) :
    ∀ x ds n R, ds.length = m → C x ds n R → w x { nx := fun _ n => R .non n, rt := R } (ds.map Sl.dt ++ List.replicate (N.length - m) Sl.un) n := fun x ds n R hl hc => by
  have := h x ds n R hl hc
  subst hl
  exact this
theorem start_next {K : PySem.W.Frag} {E : XK} {N : List Str} (hN : N.length = 6) (vs : List V) (H : Hp) (Q : VK) (h : spU K 2 C_L_next vs H Q E) : t_next K { nx := fun _ H' => Q .non H', rt := Q } (L2.start N vs) H := by
  have hl := spU_len h
  have := pure_next vs H Q h
  have e : L2.start N vs = vs.map some ++ [none, none, none, none] := by
    unfold L2.start
    rw [hN, hl]
    rfl
  rw [e]
  exact this
theorem spBegin_len {K : PySem.W.Frag} {E : XK} {vs : List V} {H : Hp} {Q : VK} (h : spBegin K vs H Q E) : vs.length = 1 := by
  obtain ⟨a, ns, rfl, _⟩ := h
  rfl
theorem start_begin {K : PySem.W.Frag} {E : XK} {N : List Str} (hN : N.length = 1) (vs : List V) (H : Hp) (Q : VK) (h : spBegin K vs H Q E) : t_begin K { nx := fun _ H' => Q .non H', rt := Q } (L2.start N vs) H := by
  have hl := spBegin_len h
  have := pure_begin vs H Q h
  have e : L2.start N vs = vs.map some := by
    unfold L2.start
    rw [hN, hl]
    simp
  rw [e]
  exact this
theorem spLaw_len {K : PySem.W.Frag} {E : XK} {vs : List V} {H : Hp} {Q : VK} (h : spLaw K vs H Q E) : vs.length = 1 := by
  obtain ⟨a, ns, rfl, _⟩ := h
  rfl
end DL
set_option maxHeartbeats 4000000
namespace DL
open PySem PySem.Spec PyProof.Rows L2
/-! ### own exceptions are made and raised -/
section
variable {X : Cx} {e : Expr} {es : List Expr} {ta : TA} {p1 p2 pos : Pos}
/-- what the family's own class (no __init__ of its own) is -/
structure ExB (K : PySem.W.Frag) (CS : Addr) : Prop where
  ga : PySem.W.specialIn K (.ref CS) "__getattribute__" = some (some (.builtin "type.__getattribute__"))
  rd : ∃ mc, PySem.W.typeIn K (.ref CS) = some mc ∧ PySem.W.readsIn K CS mc = true ∧ PySem.W.findCls K (.ref CS) mc "__init__" = some (.val (.builtin "ValueError.__init__"))
end
/-- raise C(..) -/
def sRaise (cn : Str) (fl : List Str) (w : WA) : WS := fun x _ η n => w x η n fun ds n1 => ds.length = fl.length ∧ x (.ins cn fl.reverse ds.reverse) n1
section
variable {X : Cx} {E : XK}
theorem upd_gone {H H2 : Hp} {a d : Addr} {fs : List (Str × V)} (ha : H a = none) (hda : d ≠ a) (h : ∀ b, b ≠ a → b ≠ d → H2 b = upd H a (exo a a none) b) : upd (del H2 a) d (.xd fs) = upd H d (.xd fs) := by
  funext b
  by_cases h1 : b = d
  · subst h1
    rw [upd_same, upd_same]
  · rw [upd_ne h1, upd_ne h1]
    by_cases h2 : b = a
    · subst h2
      rw [del_same, ha]
    · rw [del_ne h2, h b h2 h1, upd_ne h2]
theorem zip_rev {α β : Type} : ∀ (xs : List α) (ys : List β), xs.length = ys.length → (xs.zip ys).reverse = xs.reverse.zip ys.reverse
  | [], [], _ => rfl
  | x :: xs, y :: ys, h => by
    have h' : xs.length = ys.length := Nat.succ.inj h
    rw [List.zip_cons_cons, List.reverse_cons, zip_rev xs ys h', List.reverse_cons, List.reverse_cons, List.zip_append (by simp [h'])]
    rfl
end
end DL
set_option maxHeartbeats 4000000
namespace DL
open PySem PySem.Spec PyProof.Rows L2
/-! ### defs that may raise -/
abbrev TkE (X : Cx) (E : XK) : Prop := Takes X (fun cls d _ H => E cls d H)
theorem TkE.pass {X : Cx} {E : XK} (tk : TkE X E) : Passes (L2.CX X.prog X.w) X E := passes_call tk fun _ _ _ _ h => h
section
variable {X : Cx} {E : XK} {pos p : Pos} {e : Expr} {es : List Expr} {nm cn : Str} {ps : List Str} {m k j n : Nat} {C : Ct} {w wk : WA} {kws : List Keyword}
end
section
variable {P : Program} {wd : World} {K : PySem.W.Frag} {mg : Str → Option Value} {base : Heap} {x qual : Str} {params : Arguments} {body : List Stmt} {scope : Scope} {dvs : List V} {kws : List (Str × V)} {N : List Str} {w : WS} {f : Addr} {fd : FuncData} {m k : Nat} {ps : List Str} {cn : Str}
end
end DL
set_option maxHeartbeats 4000000
namespace DL
open PySem PySem.Spec PyProof.Rows L2
/-! ### an exception that is caught and kept -/
theorem exV_ok {P : Program} {w : World} {H : Hp} {h : Heap} {a : Addr} {cls : Value} {d : Option Addr} {oe : Obj} {vs : Array Value} (e : h.get? a = some oe) (z : Zc cls d oe) (hd : oe.data = .fields vs) : ObjOk P w H h a (ExV a cls d) :=
  ⟨⟨oe, vs, e, z, hd⟩, ⟨oe, e⟩, fun _ _ ⟨o, v, q, r⟩ k => ⟨o, v, k o q, r⟩⟩
section
variable {X : Cx} {pins : List (Addr × Obj)} {σ : L2.St} {H : Hp} {s : Shared}
end
section
variable {X : Cx}
end
end DL
set_option maxHeartbeats 4000000
namespace DL
open PySem PySem.Spec PyProof.Rows L2
/-! ### a kept exception is asked -/
/-- what the text says of an exception class that is asked -/
structure ExQ (K : PySem.W.Frag) (C : Addr) : Prop where
  cl : (PySem.W.clsIn K C).isSome = true
  ga : PySem.W.findIn K (.ref C) "__getattribute__" = some (some (.builtin "BaseException.__getattribute__"))
  gt : PySem.W.findIn K (.ref C) "__getattr__" = some none
  sb : PySem.W.subIn K (.ref C) (.type "BaseException") = some true
  hd : PySem.W.hasDictIn K C = true
  ha : PySem.W.findIn K (.ref C) "__class__" = some (some (.builtin "object.__class__"))
  hn : PySem.W.specialIn K (.builtin "object.__class__") "__get__" = some (some (.builtin "getset_descriptor.__get__"))
  ht : PySem.W.takesIn K (.builtin "object.__class__") = some true
  hm : PySem.W.mroIn K C (.type "object") = some true
/-- v is None, or a kept exception of the class D with the fields fs -/
def KeptV (H : Hp) (v : V) (D : Addr) (fs : List (Str × V)) : Prop := ∃ a dd, v = .ref a ∧ H a = some (ExV a (.ref D) (some dd)) ∧ H dd = some (.xd fs)
section
variable {X : Cx} {pins : List (Addr × Obj)} {σ : L2.St} {H : Hp} {s : Shared}
theorem kept_at {a dd D : Addr} {fs : List (Str × V)} (I : Inv X pins σ H s) (h1 : H a = some (ExV a (.ref D) (some dd))) (h2 : H dd = some (.xd fs)) : ∃ (oe od : Obj) (mA : Str → Option Value), PySem.W.InstAt s.heap a oe D (some od) ∧ (∀ name, PySem.W.lookIn name od = some (mA name)) ∧ ∀ f, RelO (fs.lookup f) (mA f) := by
  obtain ⟨⟨oe, vs, he, hz, hd⟩, _, _⟩ := I.hok a _ h1
  obtain ⟨mA, hns, hr⟩ := (show ObjOk X.prog X.w H s.heap dd (.xd fs) from I.hok dd _ h2)
  obtain ⟨od, ho, hl⟩ := lookIn_ns hns
  refine ⟨oe, od, mA, ⟨he, hz.1, ?_, ?_⟩, hl, hr⟩
  · unfold PySem.W.notCls
    rw [hd]
  · rw [hz.2]
    exact ho
/-- isinstance(v, C), v None or a kept exception -/
def rIsV (K : PySem.W.Frag) (C : Addr) : List V → Hp → VK → Prop := fun xs H Q => ∃ (v : V) (b : Bool), xs = [v, .ref C] ∧ ((v = .non ∧ PySem.W.kitOne K (.type "NoneType") (.ref C) = some b) ∨ ∃ D fs, KeptV H v D fs ∧ ExQ K D ∧ PySem.W.kitOne K (.ref D) (.ref C) = some b) ∧ Q (.bl b) H
theorem call_isV {C : Addr} : CallR X (.builtin "isinstance") (rIsV X.K C) := by
  intro pins s σ H xs us Q I r h
  obtain ⟨v, b, rfl, hv, q⟩ := h
  rcases hv with ⟨rfl, e⟩ | ⟨D, fs, ⟨a, dd, rfl, h1, h2⟩, T, e⟩
  · exact call_isi pins s σ H [.non, .ref C] us Q I r ⟨.non, .ref C, _, _, b, rfl, .own _, .base .non, e, q⟩
  · match us, r with
    | [u0, u1], .cons ra (.cons rb .nil) =>
      obtain rfl : u0 = Value.ref a := ra
      obtain rfl : u1 = Value.ref C := rb
      obtain ⟨oe, od, mA, J, hl, hr⟩ := kept_at I h1 h2
      apply PySem.W.kia_one (PySem.W.kitx_exc T.cl T.ga T.gt T.sb T.ha T.hn T.ht T.hm) I.kIn J e (fun z => nomatch z)
      intro tk
      exact ⟨.bl b, H, I.kept (t' := tk) fun _ _ z => z, rfl, q⟩
/-- v.f, v a kept exception -/
def tKept (K : PySem.W.Frag) (f : Str) (te : TE) : TE := fun σ H Q => te σ H fun v H1 => ∃ D fs y, KeptV H1 v D fs ∧ ExQ K D ∧ PySem.W.findIn K (.ref D) f = some none ∧ fs.lookup f = some y ∧ Q y H1
theorem pe_kept {f : Str} {e : Expr} {te : TE} {pos : Pos} (he : PE X e te) (hb : attributeBase e f X.env (eval e X.env) = eval e X.env := by rfl) : PE X (.Attribute e f pos) (tKept X.K f te) := by
  constructor
  intro pins s σ H Q I h
  apply attr_of hb
  apply thn (he.run pins s σ H _ I h)
  rintro u s1 ⟨v, H1, I1, rx, D, fs, y, ⟨a, dd, rfl, h1, h2⟩, T, hno, hl, q⟩
  obtain rfl : u = Value.ref a := rx
  obtain ⟨oe, od, mA, J, lk, hr⟩ := kept_at I1 h1 h2
  obtain ⟨w, hw, rw'⟩ := RelO.some_of (v := y) (o := mA f) (by rw [← hl]; exact hr f)
  exact HandSPX.exc_get I1.kIn J T.ga T.gt T.sb (PySem.W.findObj_own T.hd hno rfl (by rw [lk, hw])) (handed_of rw') ⟨y, H1, I1.tok _, rw', q⟩
end
end DL
set_option maxHeartbeats 4000000
namespace DL
open PySem PySem.Spec PyProof.Rows L2
/-! ### the law's 'said': a lambda is called, its exception told -/
/-- which of the cases an exception of the class D meets -/
inductive Hits (K : PySem.W.Frag) (D : Addr) : List (Addr × Str) → Str → Prop
  | hit {C : Addr} {z : Str} {r : List (Addr × Str)} (h : PySem.W.kitOne K (.ref D) (.ref C) = some true) : Hits K D ((C, z) :: r) z
  | miss {C : Addr} {z z' : Str} {r : List (Addr × Str)} (h : PySem.W.kitOne K (.ref D) (.ref C) = some false) (t : Hits K D r z) : Hits K D ((C, z') :: r) z
section
variable {X : Cx}
end
end DL
set_option maxHeartbeats 4000000
namespace DL
open PySem PySem.Spec PyProof.Rows L2
/-- said(lambda: e): the value, or what tells the exception -/
def eSaid (tag : Str → Option Str) (w : WE) : WE := fun x η n R => w (fun d n' => ∃ cn v z, d = .ins cn ["given"] [v] ∧ tag cn = some z ∧ R (.lst [.str z, v]) n') η n R
end DL
set_option maxHeartbeats 4000000
namespace DL
open PySem PySem.Spec PyProof.Rows L2
/-- the law's def from the row's head, with tables of code objects -/
theorem law_callGT {P : Program} {w : World} {K : PySem.W.Frag} {mg mb : Str → Option Value} {k : Nat} {fa a : Addr} {cs : List (Addr × Addr)} {fd : FuncData} {x : Str} {sp : Sp} {s1 : Shared} {vs : List Value} {ns : List Int}
    (KX : K.In s1.heap) (hn : s1.heap.Ns mainGlobals mg) (hb : s1.heap.Ns builtinsNs mb) (hbb : ∀ x : Str, x ≠ "__name__" → mb x = bootBuiltins x) (hlim : s1.heap.NoLimit) (hg : s1.gens = #[])
    (hT : ∀ p, p ∈ cs → s1.heap.get? p.2 = some { cls := .none, data := .fields #[] }) (nT : ∀ p, p ∈ cs → K.lookup p.2 = none) (hC : ∀ p, p ∈ cs → PySem.W.CodeHd s1.heap p.1 p.2)
    (hbm : ∃ (bm : Addr) (ob : Obj), mg "__builtins__" = some (.ref bm) ∧ bm ≠ builtinsNs ∧ s1.heap.get? bm = some ob ∧ ob.cls = .type "module" ∧ ob.dict = some builtinsNs ∧ ob.data = .plain)
    (ha : s1.heap.get? a = some { cls := .type "list", data := .seq vs.toArray }) (hi : IntsAre vs ns) (hl : ns.length ≤ sizeLine) (hr : Room k callerA)
    (F : ∀ base : Heap, K.In base → base.Ns mainGlobals mg → (∀ p, p ∈ cs → LamX.TabB base mg p.1 p.2) → FnOkG P w K mg base CX0 k fa fd [x] sp) (bt : ∀ (s : Shared) (u : Value), BindsTo s fd ⟨[u], []⟩ [(x, u)])
    (hs : ∀ H : Hp, (∀ p, p ∈ cs → H p.2 = some (.tbl #[])) → SqL K H a (ns.map V.int) → sp [.ref a] H (fun v _ => v = .bl true) fun _ _ _ => False) :
    codeAny (model P w) callerA (.call (.ref fa) ⟨[.ref a], []⟩) (fun r s' => r = .ok (.ret (.bool true)) ∧ OldK s1.heap s'.heap ∧ s'.os = s1.os ∧ AllBare s'.gens) s1 := by
  have rv := vals_ints hi
  have lv := hi.length
  have tabAt : ∀ b, b ∈ cs.map (·.2) → s1.heap.get? b = some { cls := .none, data := .fields #[] } := by
    intro b z
    obtain ⟨p, hp, rfl⟩ := List.mem_map.1 z
    exact hT p hp
  have aNot : a ∉ cs.map (·.2) := by
    intro z
    have e := tabAt a z
    rw [ha] at e
    cases (congrArg Obj.data (Option.some.inj e) : Data.seq vs.toArray _ = Data.fields #[])
  have core : ∀ H : Hp, (∀ p, p ∈ cs → H p.2 = some (.tbl #[])) → (∀ b u, H b = some u → (b = a ∧ K.lookup a = none ∧ ∃ o xs, u = .frz o (.lst xs)) ∨ (b ∈ cs.map (·.2) ∧ u = .tbl #[])) → SqL K H a (ns.map V.int) → HOk P w H s1.heap →
      codeAny (model P w) callerA (.call (.ref fa) ⟨[.ref a], []⟩) (fun r s' => r = .ok (.ret (.bool true)) ∧ OldK s1.heap s'.heap ∧ s'.os = s1.os ∧ AllBare s'.gens) s1 := by
    intro H hH one hS hok
    have free : ∀ {b : Addr} {o : Obj}, s1.heap.get? b = some o → (∀ v n, o.data ≠ .seq v n) → o.data ≠ .fields #[] → H b = none := by
      intro b o e q1 q2
      match q : H b with
      | none => rfl
      | some u =>
        rcases one b u q with ⟨rfl, _, _⟩ | ⟨z, _⟩
        · rw [ha] at e
          cases e
          exact (q1 _ _ rfl).elim
        · rw [tabAt b z] at e
          cases e
          exact (q2 rfl).elim
    have nsB : ∀ {b : Addr} {m : Str → Option Value}, s1.heap.Ns b m → (hidT s1.heap H).Ns b m := by
      rintro b m ⟨o, es, ep, e, d, r⟩
      refine ⟨o, es, ep, hidT_get e (free e (fun v n z => ?_) fun z => ?_), d, r⟩ <;> rw [d] at z <;> cases z
    have kB : K.In (hidT s1.heap H) := by
      intro b o e
      apply hidT_get (KX b o e)
      match q : H b with
      | none => rfl
      | some u =>
        rcases one b u q with ⟨rfl, z, _⟩ | ⟨z, _⟩
        · rw [z] at e
          cases e
        · obtain ⟨p, hp, rfl⟩ := List.mem_map.1 z
          rw [nT p hp] at e
          cases e
    have md : Mod K mg (hidT s1.heap H) := by
      obtain ⟨mc, c1, c2⟩ := hlim
      exact ⟨kB, nsB hn, ⟨mb, nsB hb, hbb⟩, ⟨mc, nsB c1, c2⟩⟩
    have TB : ∀ p, p ∈ cs → LamX.TabB (hidT s1.heap H) mg p.1 p.2 := by
      intro p hp
      constructor
      · obtain ⟨o, us, file, tf, flags, tg, inF, text, tt, e1, r1, r2, r3, r4⟩ := hC p hp
        refine ⟨o, us, file, tf, flags, tg, inF, text, tt, hidT_get e1 (free e1 (fun v n z => ?_) fun z => ?_), r1, r2, r3, r4⟩
        · rw [r2] at z
          cases z
        · rw [r2] at z
          cases z
          simp at r3
      · obtain ⟨bm, ob, b1, b2, b3, b4, b5, b6⟩ := hbm
        refine ⟨bm, ob, b1, b2, fun q => ?_, fun q => ?_, hidT_get b3 (free b3 (fun v n z => ?_) fun z => ?_), b4, b5, b6⟩
        · obtain ⟨o, es, ep, e, hd, _⟩ := hn
          rw [q, e] at b3
          cases b3
          rw [hd] at b6
          cases b6
        · rw [q, hT p hp] at b3
          cases b3
          cases b6
        · rw [b6] at z
          cases z
        · rw [b6] at z
          cases z
      · intro z
        obtain ⟨o, es, ep, e, hd, _⟩ := hn
        rw [z, hT p hp] at e
        cases e
        cases hd
    have e0 : Env0 P w K mg (hidT s1.heap H) callerA [] s1 H := by
      refine ⟨rfl, md, fun b o e => of_hidT e, Nat.le_of_eq (hidT_size _ _), trivial, fun b hb => ?_, hok, .of_eq hg⟩
      cases (hb : b ∈ ([] : List Addr))
    have go := (F _ kB (nsB hn) TB).run callerA [] s1 H ⟨[.ref a], []⟩ [.ref a] [.ref a] (fun v _ => v = .bl true) (fun _ _ _ => False) rfl hr e0 (bt s1 (.ref a)) (.cons rfl .nil) (hs H hH hS)
    apply codeAny_mono go
    intro r s' z
    match r, z with
    | .error e, z => exact (z : False).elim
    | .ok .next, z => exact (z : False).elim
    | .ok .brk, z => exact (z : False).elim
    | .ok .cont, z => exact (z : False).elim
    | .ok (.ret u), ⟨v, H', os, ba, un, hok', r', q⟩ =>
      obtain rfl : v = .bl true := q
      obtain rfl : u = Value.bool true := r'
      have key : ∀ b o, b ∉ cs.map (·.2) → s1.heap.get? b = some o → s'.heap.get? b = some o := by
        intro b o nb e
        match qb : H b with
        | none => exact un.keep b o e qb (fun z => nomatch (show b ∈ ([] : List Addr) from z)) (by simp)
        | some u =>
          rcases one b u qb with ⟨_, _, ob, xs, rfl⟩ | ⟨z, _⟩
          · have e1 := (hok b _ qb).1
            have e2 := (hok' b _ (un.frzs b ob _ qb)).1
            rw [e] at e1
            cases e1
            exact e2
          · exact absurd z nb
      have grown : ∀ p, p ∈ cs → ∃ more : Array Value, s'.heap.get? p.2 = some { cls := .none, data := .fields more } := by
        intro p hp
        obtain ⟨more, z⟩ := un.tbls p.2 #[] (hH p hp)
        exact ⟨_, hok' p.2 _ z⟩
      refine ⟨rfl, ⟨fun b o e => ?_, fun b o e => ?_⟩, os, ba⟩
      · by_cases z : b ∈ cs.map (·.2)
        · obtain ⟨p, hp, rfl⟩ := List.mem_map.1 z
          obtain ⟨more, hm⟩ := grown p hp
          rw [hT p hp] at e
          cases e
          exact .inr (.inl ⟨((hC p hp).tab (hT p hp)).isCodeTable, rfl, #[], more, rfl, by rw [Array.empty_append]; exact hm⟩)
        · exact .inl (key b o z e)
      · by_cases z : b ∈ cs.map (·.2)
        · obtain ⟨p, hp, rfl⟩ := List.mem_map.1 z
          obtain ⟨more, hm⟩ := grown p hp
          exact ⟨_, hm⟩
        · exact ⟨o, key b o z e⟩
  let Hs : Hp := fun b => if b ∈ cs.map (·.2) then some (.tbl #[]) else if b = a ∧ K.lookup a = none then some (.frz { cls := .type "list", data := .seq vs.toArray } (.lst (ns.map V.int))) else none
  have hA : ∀ b u, Hs b = some u → (b ∈ cs.map (·.2) ∧ u = .tbl #[]) ∨ (b = a ∧ K.lookup a = none ∧ u = .frz { cls := .type "list", data := .seq vs.toArray } (.lst (ns.map V.int))) := by
    intro b u z
    by_cases z1 : b ∈ cs.map (·.2)
    · rw [show Hs b = some (.tbl #[]) from if_pos z1] at z
      exact .inl ⟨z1, (Option.some.inj z).symm⟩
    · have e1 : Hs b = if b = a ∧ K.lookup a = none then some (.frz { cls := .type "list", data := .seq vs.toArray } (.lst (ns.map V.int))) else none := if_neg z1
      rw [e1] at z
      by_cases z2 : b = a ∧ K.lookup a = none
      · rw [if_pos z2] at z
        exact .inr ⟨z2.1, z2.2, (Option.some.inj z).symm⟩
      · rw [if_neg z2] at z
        cases z
  apply core Hs
  · intro p hp
    exact if_pos (List.mem_map.2 ⟨p, hp, rfl⟩)
  · intro b u z
    rcases hA b u z with ⟨z1, z2⟩ | ⟨z1, z2, z3⟩
    · exact .inr ⟨z1, z2⟩
    · exact .inl ⟨z1, z2, _, _, z3⟩
  · match hk : K.lookup a with
    | some o =>
      have e := KX a o hk
      rw [ha] at e
      cases e
      exact .inr ⟨_, vs.toArray, _, hk, rfl, rfl, rfl, by rw [List.size_toArray, lv]; exact hl, by simpa using rv⟩
    | none => exact .inl (.inr ⟨_, (if_neg aNot).trans (if_pos ⟨rfl, hk⟩)⟩)
  · intro b u z
    rcases hA b u z with ⟨z1, rfl⟩ | ⟨rfl, _, rfl⟩
    · exact tabAt b z1
    · exact ⟨ha, by rw [List.length_map]; exact hl, vs, _, rv, ha⟩
theorem walk_ofGT {l : PySem.W.OpenLaw} {n k : Nat} {q : Program} {loose : List Str} {XP : (Str → Option Value) → Heap → Prop} {YP : World → Heap → Prop} {d : DefRec} {x : Str}
    (hn : l.most = some n) (hn2 : n ≤ sizeLine) (hdf : d.params.defaults = []) (hr : Room k callerA)
    (F : ∀ (w : World) (mg : Str → Option Value) (fa : Addr) (h : Heap), YP w h → h.Ns mainGlobals mg → mg d.name = some (.ref fa) →
      ∃ (K : PySem.W.Frag) (fd : FuncData) (cs : List (Addr × Addr)) (sp : Sp), K.In h ∧ (∀ p, p ∈ cs → h.get? p.2 = some { cls := .none, data := .fields #[] }) ∧ (∀ p, p ∈ cs → K.lookup p.2 = none) ∧ (∀ p, p ∈ cs → PySem.W.CodeHd h p.1 p.2) ∧
        (∀ (s : Shared) (u : Value), BindsTo s fd ⟨[u], []⟩ [(x, u)]) ∧
        (∀ (H : Hp) (a : Addr) (ns : List Int), ns.length ≤ n → (∀ p, p ∈ cs → H p.2 = some (.tbl #[])) → SqL K H a (ns.map V.int) → sp [.ref a] H (fun v _ => v = .bl true) fun _ _ _ => False) ∧
        ∀ base : Heap, K.In base → base.Ns mainGlobals mg → (∀ p, p ∈ cs → LamX.TabB base mg p.1 p.2) → FnOkG l.prog w K mg base CX0 k fa fd [x] sp) :
    PySem.W.WalkO q loose XP YP l.row.toRowW d [] (fun f vs => PySem.call f vs) := by
  apply Att.attach_call hn hdf
  intro w s0 s1 mg mb fa o pm cd doc a vs ns G Y ho hd hcd hmg hobj hints hlen hg
  obtain ⟨K, fd, cs, sp, KX, hT, nT, hC, bt, hsp, hF⟩ := F w mg fa _ Y G.T.g hmg
  exact law_callGT KX G.T.g G.T.b G.T.builtins G.T.nolimit hg hT nT hC G.T.bmain hobj hints (Nat.le_trans hlen hn2) hr hF bt fun H hH hS => hsp H a ns hlen hH hS
end DL
set_option maxHeartbeats 4000000
namespace DL
open PySem PySem.Spec PyProof.Rows L2
/-- a call of a def that wants no repr under way -/
def FnG (P : Program) (wd : World) (K : PySem.W.Frag) (mg : Str → Option Value) (base : Heap) (nm : Str) (ps : List Str) (m k : Nat) (C : Ct) : Prop :=
  ∃ fd, FnOkG P wd K mg base CX0 k (He.ga K nm) fd ps (spU K m C) ∧ Binds K fd ps [] ∧ PySem.W.keepIn K (.ref (He.ga K nm)) = true ∧ mg nm = some (.ref (He.ga K nm))
section
variable {X : Cx} {E : XK} {pos p : Pos} {e : Expr} {es : List Expr} {nm : Str} {ps : List Str} {m k j : Nat} {C : Ct} {w : WA}
theorem q_fg (F : FnG X.prog X.w X.K X.mg X.base nm ps m j C) (hC : Calm C) (hgd : X.A.guards = some []) (hr : Room k X.A) (hj : j ≤ k) (hg : Gl X nm) (ha : PA X (e :: es) (upA X.K E w)) (hdb : (nm == ("__debug__" : Str)) = false := by decide)
    (he : starEach (e :: es) X.env = (false, eval e X.env) :: starEach es X.env := by rfl) (hpl : (backTo pos (starEach es X.env)).any (·.1) = false := by rfl) : PE X (.Call (.Name nm p) (e :: es) [] pos) (up X.K E (eCall m C [] w)) := by
  obtain ⟨fd, F, b, kp, g⟩ := F
  have main : PE X (.Call (.Name nm p) (e :: es) [] pos) (tCall (spU X.K m C) [] E0 (upA X.K E w)) := by
    constructor
    intro pins s σ H Q I h
    apply wpAny_Call_Name_kw (ld_glob I hg g ?_ hdb)
    apply PySem.W.callWith_K (h₀ := X.base) I.ok.mod.kin kp (thn (ha.run pos pins s σ H _ I h) fun us s1 z => ?_) he hpl
    obtain ⟨vs, H1, I1, r, q⟩ := z
    refine ⟨I1.kIn, ?_⟩
    have q' : spU X.K m C vs H1 Q E0 := by
      rw [List.append_nil] at q
      exact q
    have hl : (us ++ []).length = ps.length := by
      rw [List.append_nil, ← r.length]
      exact F.len _ _ _ _ q'
    have bb := b s1 us I1.kIn hl
    rw [List.append_nil] at bb
    apply wpAny_call (codeAny_mono (F.run X.A X.stack s1 H1 ⟨us, []⟩ us vs Q E0 hgd (hr.mono hj) I1.env0 bb r q') fun rr s' z => ?_)
    match rr, z with
    | .error e, z => exact (z : False).elim
    | .ok .next, z => exact (z : False).elim
    | .ok .brk, z => exact (z : False).elim
    | .ok .cont, z => exact (z : False).elim
    | .ok (.ret u), z => exact I1.after z
  exact pe_to main (call_up0 (fun _ _ => .nil) hC)
end
end DL
set_option maxHeartbeats 4000000
namespace DL
open PySem PySem.Spec PyProof.Rows L2
/-! ### own exception classes, read off the written part -/
structure ExcX (K : PySem.W.Frag) (cn : Str) (fl : List Str) : Prop where
  o : OexC K (He.ga K cn)
  q : ExQ K (He.ga K cn)
  i : PySem.W.findIn K (.ref (He.ga K cn)) "__init__" = some (some (.ref (He.ma K (He.ga K cn) "__init__")))
  t : PySem.W.typeIn K (.ref (He.ma K (He.ga K cn) "__init__")) = some (.type "function")
  n : ∀ f, f ∈ fl → PySem.W.findIn K (.ref (He.ga K cn)) f = some none
/-- the family's own class -/
def famX (K : PySem.W.Frag) (cn : Str) (id : String) : Bool :=
  He.eqO (PySem.W.specialIn K (.ref (He.ga K cn)) "__getattribute__") (some (some (.builtin "type.__getattribute__"))) && (match PySem.W.typeIn K (.ref (He.ga K cn)) with
    | some mc => PySem.W.readsIn K (He.ga K cn) mc && (match PySem.W.findCls K (.ref (He.ga K cn)) mc "__init__" with
      | some (.val (.builtin z)) => z == id
      | _ => false)
    | none => false)
/-! ### said -/
section
variable {X : Cx} {E : XK} {p lpos pos : Pos} {params : Arguments} {body : Expr} {scope : Scope} {k : Nat} {w : WE} {cs : List Value} {l : List (Addr × Str)} {tag : Str → Option Str}
end
section
variable {X : Cx} {E : XK} {sts : List Stmt}
end
end DL
set_option maxHeartbeats 4000000
namespace DL
open PySem PySem.Spec PyProof.Rows L2
/-! ### a chain as a value -/
def eChain (o o' : O2) (wa wb wc : WE) : WE := fun x η n R => wa x η n fun a n1 => wb x η n1 fun b n2 => o a b fun d => match d with
  | .bl true => wc x η n2 fun c n3 => o' b c fun d => R d n3
  | .bl false => R (.bl false) n2
  | _ => False
section
variable {X : Cx} {E : XK}
/-! ### texts compared -/
def oEqS : O2 := fun a b k => match a, b with
  | .str s, .str t => k (.bl (decide (s = t)))
  | _, _ => False
def oNeS : O2 := fun a b k => match a, b with
  | .str s, .str t => k (.bl (!decide (s = t)))
  | _, _ => False
theorem dec_V (s t : Str) : decide (V.str s = V.str t) = decide (s = t) := by
  by_cases h : s = t
  · simp [h]
  · rw [decide_eq_false h, decide_eq_false (fun z => h (V.str.inj z))]
theorem opd_neS : OpD X rNe oNeS := by
  intro c v u a b k Q ok hT ra rb h hQ
  cases a <;> cases b <;> first | exact h.elim | skip
  rename_i s t
  obtain rfl := ra.str
  obtain rfl := rb.str
  refine ⟨rfl, ?_⟩
  rw [dec_V]
  exact hQ _ c _ h rfl ok .refl (.bl _)
/-! ### a def that may raise, called where it does not -/
def xNo : Xn := fun _ _ => False
def eCallN (m : Nat) (C : Ct) (w : WA) : WE := fun x η n R => w x η n fun ds n1 => ds.length = m ∧ C xNo ds n1 R
theorem XW.no {K : PySem.W.Frag} {E : XK} {ow : Addr → Prop} {c : Cf} : XW K E xNo ow c := fun _ _ _ _ h => h.elim
variable {pos p : Pos} {e : Expr} {es : List Expr} {nm cn : Str} {ps : List Str} {m k j n : Nat} {C : Ct} {w wk : WA} {kws : List Keyword}
def eCallKN (m l : Nat) (C : Ct) (pm : List Nat) (wk : WA) : WE := fun x η nn R => wk x η nn fun es n2 => es.length = l ∧ pm.length = m ∧ C xNo (gP .non pm [] es) n2 R
end
end DL
set_option maxHeartbeats 4000000
namespace DL
open PySem PySem.Spec PyProof.Rows L2
/-! ### more of how readings are worked out -/
theorem lc_mapY {α : Type} (emb : α → D) (f : α → D) {x : Xn} {η : List Sl} {g : WG} {w : WE} {R : List D → Nat → Prop} : ∀ (ys : List α) (acc : List D) (n : Nat)
    (hs : ∀ a, a ∈ ys → ∀ (Q : D → Nat → Prop), Q (f a) n → g (emb a) η fun η' => w x η' n Q)
    (hl : acc.length + ys.length ≤ sizeLine) (h : R (acc ++ ys.map f) n), runLc x η g wYes w R (ys.map emb) acc n
  | [], acc, n, hs, hl, h => by simpa [runLc] using h
  | a :: ys, acc, n, hs, hl, h => by
    have hl' : acc.length + (ys.length + 1) ≤ sizeLine := hl
    refine hs a (List.mem_cons_self ..) (fun y n2 => acc.length < sizeLine ∧ runLc x η g wYes w R (ys.map emb) (acc ++ [y]) n2) ⟨by omega, ?_⟩
    refine lc_mapY emb f ys _ n (fun a ha => hs a (List.mem_cons_of_mem _ ha)) (by simp; omega) ?_
    simpa using h
theorem bls_map (bs : List Bool) : blsOf (bs.map D.bl) = some bs := by
  induction bs with
  | nil => rfl
  | cons b bs ih => simp [blsOf, ih]
theorem r_allB (bs : List Bool) (k : D → Prop) : bAll [.lst (bs.map D.bl)] k = k (.bl (bs.all id)) := by
  simp [bAll, bls_map]
theorem r_anyB (bs : List Bool) (k : D → Prop) : bAny [.lst (bs.map D.bl)] k = k (.bl (bs.any id)) := by
  simp [bAny, bls_map]
theorem r_allM {α : Type} (f : α → Bool) (xs : List α) (k : D → Prop) : bAll [.lst (xs.map fun a => D.bl (f a))] k = k (.bl (xs.all f)) := by
  have e : (xs.map fun a => D.bl (f a)) = (xs.map f).map D.bl := by simp
  rw [e, r_allB]
  simp
theorem r_anyM {α : Type} (f : α → Bool) (xs : List α) (k : D → Prop) : bAny [.lst (xs.map fun a => D.bl (f a))] k = k (.bl (xs.any f)) := by
  have e : (xs.map fun a => D.bl (f a)) = (xs.map f).map D.bl := by simp
  rw [e, r_anyB]
  simp
theorem r_all2 (a b : Bool) (k : D → Prop) : bAll [.lst [.bl a, .bl b]] k = k (.bl (a && b)) := by
  have := r_allB [a, b] k
  simpa using this
/-- a chain's reading -/
theorem r_chain (o o' : O2) (wa wb wc : WE) (x : Xn) (η : List Sl) (n : Nat) (R : D → Nat → Prop) : eChain o o' wa wb wc x η n R = wa x η n fun a n1 => wb x η n1 fun b n2 => o a b fun d => bT d (wc x η n2 fun c n3 => o' b c fun d => R d n3) (R (.bl false) n2) := by
  unfold eChain
  congr 1
  funext a n1
  congr 1
  funext b n2
  congr 1
  funext d
  cases d <;> first | rfl | skip
  rename_i b; cases b <;> rfl
theorem r_wchain (o o' : O2) (wa wb wc : WE) (x : Xn) (η : List Sl) (n : Nat) (R : Bool → Nat → Prop) : wChain o o' wa wb wc x η n R = wa x η n fun a n1 => wb x η n1 fun b n2 => o a b fun d => bT d (wc x η n2 fun c n3 => o' b c fun d => tB d fun k => R k n3) (R false n2) := by
  unfold wChain
  congr 1
  funext a n1
  congr 1
  funext b n2
  congr 1
  funext d
  cases d <;> first | rfl | skip
  rename_i b; cases b <;> rfl
theorem r_negC (i : Int) (x : Xn) (η : List Sl) (n : Nat) (R : D → Nat → Prop) : eNeg (eC (.int i)) x η n R = R (.int (-i)) n := rfl
theorem r_sl (w : WE) (lo hi : WO) (x : Xn) (η : List Sl) (n : Nat) (R : D → Nat → Prop) : eSl w lo hi x η n R = w x η n fun a n1 => lo x η n1 fun l n2 => hi x η n2 fun h n3 => oSl a l h fun d => R d n3 := rfl
/-- an int out of a value -/
def tI' (d : D) (k : Int → Prop) : Prop := match d with
  | .int i => k i
  | _ => False
theorem tI'_i (i : Int) (k : Int → Prop) : tI' (.int i) k = k i := rfl
theorem r_oSo (w : WE) (x : Xn) (η : List Sl) (n : Nat) (R : Option Int → Nat → Prop) : oSo w x η n R = w x η n fun d n1 => tI' d fun i => R (some i) n1 := rfl
theorem r_oNo (x : Xn) (η : List Sl) (n : Nat) (R : Option Int → Nat → Prop) : oNo x η n R = R none n := rfl
theorem r_slT (xs : List D) (l h : Option Int) (k : D → Prop) : oSl (.tup xs) l h k = k (.tup (cutD xs l h)) := rfl
theorem r_slL (xs : List D) (l h : Option Int) (k : D → Prop) : oSl (.lst xs) l h k = k (.lst (cutD xs l h)) := rfl
theorem r_raise (cn : Str) (fl : List Str) (w : WA) (x : Xn) (k : Wk) (η : List Sl) (n : Nat) : sRaise cn fl w x k η n = w x η n fun ds n1 => ds.length = fl.length ∧ x (.ins cn fl.reverse ds.reverse) n1 := rfl
theorem r_expr (w : WE) (x : Xn) (k : Wk) (η : List Sl) (n : Nat) : sExpr w x k η n = w x η n fun _ n1 => k.nx η n1 := rfl
theorem r_addT (xs ys : List D) (k : D → Prop) : oAdd (.tup xs) (.tup ys) k = (xs.length + ys.length ≤ sizeLine ∧ k (.tup (xs ++ ys))) := rfl
theorem r_said (tag : Str → Option Str) (w : WE) (x : Xn) (η : List Sl) (n : Nat) (R : D → Nat → Prop) : eSaid tag w x η n R = w (fun d n' => ∃ cn v z, d = .ins cn ["given"] [v] ∧ tag cn = some z ∧ R (.lst [.str z, v]) n') η n R := rfl
/-- a zip's reading -/
def zpD (ds : List D) (k : List D → Prop) : Prop := match ds with
  | [.tup xs, .tup ys] => k (zipD xs ys)
  | [.lst xs, .lst ys] => k (zipD xs ys)
  | _ => False
theorem r_zp (w : WA) (x : Xn) (η : List Sl) (n : Nat) (R : List D → Nat → Prop) : iZp w x η n R = w x η n fun ds n1 => zpD ds fun xs => R xs n1 := by
  unfold iZp
  congr 1
  funext ds n1
  unfold zpD
  split
  · rfl
  · rfl
  · rename_i h1 h2
    split
    · exact absurd rfl (h2 _ _)
    · exact absurd rfl (h1 _ _)
    · rfl
theorem zpD_t (xs ys : List D) (k : List D → Prop) : zpD [.tup xs, .tup ys] k = k (zipD xs ys) := rfl
theorem zpD_l (xs ys : List D) (k : List D → Prop) : zpD [.lst xs, .lst ys] k = k (zipD xs ys) := rfl
theorem r_tupB (xs : List D) (k : D → Prop) : bTuple [.lst xs] k = k (.tup xs) := rfl
theorem r_lstB (xs : List D) (k : D → Prop) : bList [.tup xs] k = k (.lst xs) := rfl
theorem r_callN (m : Nat) (C : Ct) (w : WA) (x : Xn) (η : List Sl) (n : Nat) (R : D → Nat → Prop) : eCallN m C w x η n R = w x η n fun ds n1 => ds.length = m ∧ C xNo ds n1 R := rfl
theorem r_callKN (m l : Nat) (C : Ct) (pm : List Nat) (wk : WA) (x : Xn) (η : List Sl) (n : Nat) (R : D → Nat → Prop) : eCallKN m l C pm wk x η n R = wk x η n fun es n2 => es.length = l ∧ pm.length = m ∧ C xNo (gP .non pm [] es) n2 R := rfl
theorem r_asg3 (w : WE) (i j l : Nat) (x : Xn) (k : Wk) (η : List Sl) (n : Nat) : sAsg w (gTp 3 (gsCons (gNm i) (gsCons (gNm j) (gsCons (gNm l) gsNil)))) x k η n = w x η n fun d n1 => gTp 3 (gsCons (gNm i) (gsCons (gNm j) (gsCons (gNm l) gsNil))) d η fun η' => k.nx η' n1 := rfl
theorem r_g3 (i j l : Nat) (a b c : D) (η : List Sl) (k : List Sl → Prop) : gTp 3 (gsCons (gNm i) (gsCons (gNm j) (gsCons (gNm l) gsNil))) (.tup [a, b, c]) η k = k (((η.set i (.dt a)).set j (.dt b)).set l (.dt c)) := by
  simp [gTp, gsCons, gNm, gsNil]
theorem r_putIx (i : Nat) (wi we : WE) (x : Xn) (k : Wk) (η : List Sl) (n : Nat) : sPutIx i wi we x k η n = we x η n fun d n1 => wi x η n1 fun j n2 => owS η[i]? fun xs => match j with
  | .int j => ∃ m, ixN xs.length j = some m ∧ k.nx (η.set i (.ow (xs.set m d))) n2
  | _ => False := rfl
theorem c_L_next (m : Int) (x : Xn) (n : Nat) (R : D → Nat → Prop) : C_L_next x [.drw, .int m] n R = (0 < m ∧ m < 2 ^ 250 ∧ 1 ≤ n ∧ ∀ r : Int, 0 ≤ r → r < m → R (.int r) (n - 1)) := rfl
end DL
set_option maxHeartbeats 4000000
namespace DL
open PySem PySem.Spec PyProof.Rows L2
/-! ### what can be shown by repr, and how long it is -/
structure Shw (k b : Nat) (d : D) : Prop where
  pl : plainD d = true
  sh : (py d).showable = true
  hd : (py d).hasDict = false
  dp : (py d).depth ≤ k
  ln : (py d).shown.length ≤ b
theorem Shw.mono {k b k' b' : Nat} {d : D} (h : Shw k b d) (hk : k ≤ k') (hb : b ≤ b') : Shw k' b' d := ⟨h.pl, h.sh, h.hd, Nat.le_trans h.dp hk, Nat.le_trans h.ln hb⟩
theorem Shw.non {k : Nat} : Shw k 4 .non := ⟨rfl, rfl, rfl, Nat.zero_le _, by decide +kernel⟩
theorem Shw.bl {k : Nat} (b : Bool) : Shw k 5 (.bl b) := ⟨rfl, rfl, rfl, Nat.zero_le _, by cases b <;> decide +kernel⟩
theorem Shw.int {k : Nat} {i : Int} (h : i.natAbs < 2 ^ 250) : Shw k 1921 (.int i) := by
  have hl : i.natAbs.log2 < 1920 := by
    by_cases h0 : i.natAbs = 0
    · rw [h0]; decide
    · exact Nat.lt_trans ((Nat.log2_lt h0).2 h) (by decide)
  refine ⟨rfl, ?_, rfl, Nat.zero_le _, ?_⟩
  · show decide (i.natAbs.log2 < 1920) = true
    exact decide_eq_true hl
  · exact PyProof.Rows.int_text_len_1921 hl
theorem Shw.str {k b : Nat} {x : Str} (h : (reprText x).length ≤ b) : Shw k b (.str x) := ⟨rfl, rfl, rfl, Nat.zero_le _, h⟩
theorem shw_all {k b : Nat} : ∀ {xs : List D}, (∀ d ∈ xs, Shw k b d) → plainL xs = true ∧ PyData.showableAll (pyL xs) = true ∧ PyData.hasDictAll (pyL xs) = false ∧ PyData.depthAll (pyL xs) ≤ k ∧ piled (PyData.shownAll (pyL xs)) ≤ xs.length * (b + 2) ∧ (PyData.shownAll (pyL xs)).length = xs.length
  | [], _ => ⟨rfl, rfl, rfl, Nat.zero_le _, by simp [pyL, PyData.shownAll, piled], rfl⟩
  | d :: xs, h => by
    have h1 := h d (List.mem_cons_self ..)
    obtain ⟨a1, a2, a3, a4, a5, a6⟩ := shw_all (xs := xs) fun e he => h e (List.mem_cons_of_mem _ he)
    refine ⟨?_, ?_, ?_, ?_, ?_, ?_⟩
    · show (plainD d && plainL xs) = true
      rw [h1.pl, a1]
      rfl
    · show ((py d).showable && PyData.showableAll (pyL xs)) = true
      rw [h1.sh, a2]
      rfl
    · show ((py d).hasDict || PyData.hasDictAll (pyL xs)) = false
      rw [h1.hd, a3]
      rfl
    · show max (py d).depth (PyData.depthAll (pyL xs)) ≤ k
      exact Nat.max_le.2 ⟨h1.dp, a4⟩
    · show piled ((py d).shown :: PyData.shownAll (pyL xs)) ≤ (xs.length + 1) * (b + 2)
      rw [piled_cons, Nat.succ_mul]
      have := h1.ln
      omega
    · show (PyData.shownAll (pyL xs)).length + 1 = xs.length + 1
      rw [a6]
theorem join_len (ts : List Str) : (Str.join ", " ts).length ≤ piled ts := by
  by_cases h : ts = []
  · subst h
    exact Nat.zero_le _
  · have := join_length_add ts h
    omega
theorem piled_sum : ∀ ts : List Str, piled ts = (ts.map (·.length)).sum + 2 * ts.length
  | [] => by simp [piled]
  | t :: ts => by
    rw [piled_cons, piled_sum ts]
    simp
    omega
theorem Shw.lst {k b : Nat} {xs : List D} (h : ∀ d ∈ xs, Shw k b d) (m : Nat) (hm : xs.length ≤ m) : Shw (k + 1) (m * (b + 2) + 3) (.lst xs) := by
  obtain ⟨a1, a2, a3, a4, a5, _⟩ := shw_all h
  refine ⟨a1, a2, a3, Nat.succ_le_succ a4, ?_⟩
  show (listText (PyData.shownAll (pyL xs))).length ≤ _
  unfold listText
  rw [strLen_append]
  have q := textFrom_len_le (PyData.shownAll (pyL xs)) 0 "["
  have q2 := piled_sum (PyData.shownAll (pyL xs))
  have : xs.length * (b + 2) ≤ m * (b + 2) := Nat.mul_le_mul_right _ hm
  have e1 : ((("[" : String) : Str)).length = 1 := rfl
  have e2 : ((("]" : String) : Str)).length = 1 := rfl
  omega
theorem Shw.tup {k b : Nat} {xs : List D} (h : ∀ d ∈ xs, Shw k b d) (m : Nat) (hm : xs.length ≤ m) : Shw (k + 1) (m * (b + 2) + 3) (.tup xs) := by
  obtain ⟨a1, a2, a3, a4, a5, _⟩ := shw_all h
  refine ⟨a1, a2, a3, Nat.succ_le_succ a4, ?_⟩
  show (tupleText (PyData.shownAll (pyL xs))).length ≤ _
  unfold tupleText
  rw [strLen_append, strLen_append]
  have := join_len (PyData.shownAll (pyL xs))
  have : xs.length * (b + 2) ≤ m * (b + 2) := Nat.mul_le_mul_right _ hm
  have e1 : ((("(" : String) : Str)).length = 1 := rfl
  have e2 : (((if (PyData.shownAll (pyL xs)).length == 1 then ",)" else ")" : String) : Str)).length ≤ 2 := by split <;> decide
  omega
theorem deq_str_self (s : Str) : deq (.str s) (.str s) = true := by
  unfold deq py PyData.eqv
  simp
mutual
theorem deq_self : ∀ d : D, plainD d = true → deq d d = true
  | .non, _ => rfl
  | .bl b, _ => by cases b <;> rfl
  | .int i, _ => by rw [deq_int]; simp
  | .str s, _ => deq_str_self s
  | .tup xs, h => deqL_self xs h
  | .lst xs, h => deqL_self xs h
  | .ins _ _ _, h => by cases h
  | .drw, h => by cases h
  | .dct _ _, h => by cases h
  | .dks _ _, h => by cases h
  | .dkn _ _, h => by cases h
  | .exc _ _ _, h => by cases h
theorem deqL_self : ∀ xs : List D, plainL xs = true → PyData.eqvAll (pyL xs) (pyL xs) = true
  | [], _ => rfl
  | d :: xs, h => by
    have h' : (plainD d && plainL xs) = true := h
    rw [Bool.and_eq_true] at h'
    show (PyData.eqv (py d) (py d) && PyData.eqvAll (pyL xs) (pyL xs)) = true
    rw [show PyData.eqv (py d) (py d) = true from deq_self d h'.1, deqL_self xs h'.2]
    rfl
end
theorem ne_same {d : D} {k : D → Prop} (hl : Lay d) (h : k (.bl false)) : oNe d d k := by
  refine ⟨hl, hl, ?_⟩
  rw [deq_self d hl.plainD]
  exact h
theorem r_eqS (s t : Str) (k : D → Prop) : oEqS (.str s) (.str t) k = k (.bl (decide (s = t))) := rfl
theorem r_neS (s t : Str) (k : D → Prop) : oNeS (.str s) (.str t) k = k (.bl (!decide (s = t))) := rfl
/-- one statement, then what it left -/
theorem seq_cut {a b : WS} {x : Xn} {k : Wk} {η : List Sl} {n : Nat} (P : List Sl → Nat → Prop) (h1 : ∀ nxt : List Sl → Nat → Prop, (∀ η' n', P η' n' → nxt η' n') → a x { k with nx := nxt } η n) (h2 : ∀ η' n', P η' n' → b x k η' n') : sSeq a b x k η n := h1 _ h2
end DL
set_option maxHeartbeats 4000000
namespace DL
open PySem PySem.Spec PyProof.Rows L2
/-! ### what the head tells of the law's 'said' -/
theorem tabs_start {K : PySem.W.Frag} {H : Hp} (h : ∀ p, p ∈ (lamDefs.map fun q => He.cT K (q, none)) → H p.2 = some (.tbl #[])) : LamX.Tabs (TK K) H := fun p hp => by
  obtain ⟨q, hq, rfl⟩ := List.mem_map.1 hp
  exact LamX.TabS.nil (h _ (List.mem_map.2 ⟨q, hq, rfl⟩))
/-! ### the head's hook: tables of code objects, the interpreter's statics, one more Bool -/
abbrev AlY : Type := He.AlD × Bool
structure SaysY (fa : List He.Fa) (fn : List He.DefD) (tf : List He.Defn) (ex : PySem.W.Frag → Bool) (h : Heap) (K : PySem.W.Frag) : Prop where
  d : He.SaysD fa fn K
  more : ex K = true
  hd : ∀ p ∈ tf, PySem.W.codeHdIn K (He.cT K p).1 (He.cT K p).2 = true
  out : ∀ p ∈ tf, K.lookup (He.cT K p).2 = none
  empty : ∀ p ∈ tf, h.get? (He.cT K p).2 = some { cls := .none, data := .fields #[] }
end DL
set_option maxHeartbeats 2000000
/-! ### texts: str(n), int(text), text * n, signs, split, f-strings -/
namespace DL
open PySem PySem.Spec PyProof.Rows L2
section
variable {X : Cx} {E : XK} {pos : Pos}
end
end DL
set_option maxHeartbeats 2000000
/-! ### own binary operators -/
namespace PySem.W
open PySem PySem.Calls PyProof.Rows Builtin
section
variable {prog : Program} {w : World} {A : Around} {E : Value → Shared → Prop} {s : Shared} {K : Frag} {x C L f r : Addr} {h₀ : Heap} {m : Str → Option Value} {ox : Obj} {od : Option Obj}
end
end PySem.W
set_option maxHeartbeats 2000000
/-! ### own operators on data -/
namespace DL
open PySem PySem.Spec PyProof.Rows L2
section
variable {X : Cx} {E : XK} {CX : CXT}
/-- what of the text an own operator asks -/
structure OpK (K : PySem.W.Frag) (C f : Addr) (nm : String) : Prop where
  sf : PySem.W.selfFirst K C = true
  at_ : PySem.W.findIn K (.ref C) (PySem.dunder nm) = some (some (.ref f))
  fn : PySem.W.isFn K (.ref f) = true
/-- x * n -/
structure MulK (K : PySem.W.Frag) (C f r : Addr) : Prop where
  o : OpK K C f "mul"
  rt : PySem.W.findIn K (.ref C) (dunderR "mul") = some (some (.ref r))
  rf : PySem.W.isFn K (.ref r) = true
  ni : PySem.W.subIn K (.ref C) (.type "int") = some false
end
end DL
set_option maxHeartbeats 2000000
/-! ### sleeping generators are left alone by what does not wake them -/
namespace DL
open PySem PyProof.Rows
/-- a sleeper in whose place nothing can go on -/
def poison : GenState → GenState
  | .suspended _ l c p fs cl => .suspended (fun _ => .unsupported "") l c p fs cl
  | x => x
/-- which of the generators sleep, and how -/
abbrev Slp := Nat → Option GenState
structure SlpOk (P : Slp) (s : Shared) : Prop where
  at_ : ∀ i x, P i = some x → s.gens[i]? = some (poison x) ∧ ∃ k l c p fs cl, x = .suspended k l c p fs cl
  fr : ∀ i k l c p fs cl, P i = none → s.gens[i]? = some (.suspended k l c p fs cl) → splitAtGen fs = none
section
variable {P : Slp} {s : Shared}
theorem SlpOk.free (o : SlpOk P s) : P s.gens.size = none := by
  cases e : P s.gens.size with
  | none => rfl
  | some x =>
    have := (o.at_ _ _ e).1
    simp at this
theorem SlpOk.ne (o : SlpOk P s) {g : Nat} {x : GenState} (e : s.gens[g]? = some x) (hx : ∀ k l c p fs cl, x ≠ .suspended k l c p fs cl) : P g = none := by
  cases h : P g with
  | none => rfl
  | some y =>
    obtain ⟨h1, k, l, c, p, fs, cl, rfl⟩ := o.at_ _ _ h
    rw [h1] at e
    exact absurd (Option.some.inj e).symm (hx _ _ _ _ _ _)
theorem SlpOk.set (o : SlpOk P s) {g : Nat} {x : GenState} (h : P g = none) (hx : ∀ k l c p fs cl, x = .suspended k l c p fs cl → splitAtGen fs = none) : SlpOk P (s.setGen g x) := by
  refine ⟨fun i y e => ?_, fun i k l c p fs cl e q => ?_⟩
  · obtain ⟨h1, h2⟩ := o.at_ i y e
    refine ⟨?_, h2⟩
    show (s.gens.setIfInBounds g x)[i]? = _
    have hg : g ≠ i := fun z => by
      rw [z, e] at h
      cases h
    rw [Array.getElem?_setIfInBounds_ne hg]
    exact h1
  · have q' : (s.gens.setIfInBounds g x)[i]? = some (.suspended k l c p fs cl) := q
    by_cases hg : g = i
    · subst hg
      rw [Array.getElem?_setIfInBounds, if_pos rfl] at q'
      by_cases hl : g < s.gens.size
      · rw [if_pos hl] at q'
        exact hx _ _ _ _ _ _ (Option.some.inj q')
      · rw [if_neg hl] at q'
        cases q'
    · rw [Array.getElem?_setIfInBounds_ne hg] at q'
      exact o.fr i k l c p fs cl e q'
theorem SlpOk.push (o : SlpOk P s) {c : Code} : SlpOk P { s with gens := s.gens.push (.fresh c) } := by
  refine ⟨fun i y e => ?_, fun i k l c' p fs cl e q => ?_⟩
  · obtain ⟨h1, h2⟩ := o.at_ i y e
    refine ⟨?_, h2⟩
    have hl : i < s.gens.size := (Array.getElem?_eq_some_iff.1 h1).1
    show (s.gens.push _)[i]? = _
    rw [Array.getElem?_push, if_neg (by omega)]
    exact h1
  · have q' : (s.gens.push (.fresh c))[i]? = some (.suspended k l c' p fs cl) := q
    rw [Array.getElem?_push] at q'
    split at q'
    · cases q'
    · exact o.fr i k l c' p fs cl e q'
theorem SlpOk.of {t : Shared} (o : SlpOk P s) (h : t.gens = s.gens) : SlpOk P t := ⟨fun i x e => by rw [h]; exact o.at_ i x e, fun i k l c p fs cl e q => o.fr i k l c p fs cl e (by rw [← h]; exact q)⟩
end
/-! ### the form that is used -/
/-- s' is what s1 is, with the sleepers of s still there -/
structure Woke (s s1 s' : Shared) : Prop where
  eq : s' = { s1 with gens := s'.gens }
  kept : ∀ (i : Nat) k l c p fs cl, s.gens[i]? = some (GenState.suspended k l c p fs cl) → s'.gens[i]? = some (GenState.suspended k l c p fs cl)
  bare : AllBare s.gens → AllBare s1.gens → AllBare s'.gens
end DL
set_option maxHeartbeats 2000000
/-! ### one waking of a generator, to whatever end -/
namespace DL
open PySem PySem.Spec PyProof.Rows L2 GenW
def Sg (M : Model) (A : Around) (Z : End → Shared → Prop) (c : Code) (t : Sem PySem.Fin) (fs : List Frame) (s : Shared) : Prop :=
  ∀ Γ p, Γ.code = c → Γ.Woken A → ∃ e s', Runs M Γ p t fs s e s' ∧ Z e s'
section
variable {M : Model} {A : Around} {Z : End → Shared → Prop} {c : Code} {fs : List Frame} {s : Shared}
end
section
variable {prog : Program} {w : World} {A : Around} {Z : End → Shared → Prop} {s : Shared} {c : Code} {fs : List Frame} {env : Env} {K : Flow → Sem PySem.Fin} {H : Value → Sem PySem.Fin} {gd : Bool → Bool} {lv : List Value → List Value}
end
section
variable {P : Program} {w : World} {A : Around} {E : Value → Shared → Prop} {s : Shared}
end
end DL
set_option maxHeartbeats 2000000
/-! ### a generator's context, told anew at each waking -/
namespace DL
open PySem PySem.Spec PyProof.Rows L2 GenW
def cutH (h : Heap) (n : Nat) : Heap := ⟨h.objs.extract 0 n, h.life⟩
/-- what may change while it runs -/
abbrev chOf (n : Nat) (own : List Addr) : List Addr := n :: own
/-- what must hold where a generator is woken -/
structure WakeOk (base : Heap) (outer : List Env) (n : Nat) (s : Shared) : Prop where
  bs : ∀ b o, base.get? b = some o → s.heap.get? b = some o
  funs : (cutH s.heap n).FunFrames base outer
  bare : AllBare s.gens
/-- what a waking leaves as it was -/
structure KeptG (fs ch : List Addr) (s s' : Shared) : Prop where
  os : s'.os = s.os
  bare : AllBare s'.gens
  keep : ∀ b o, s.heap.get? b = some o → b ∉ fs → b ∉ ch → s'.heap.get? b = some o
  slot : ∀ b o, s.heap.get? b = some o → b ∈ fs → b ∉ ch → ∃ sl, s'.heap.get? b = some { o with slots := sl }
section
variable {P : Program} {w : World} {K : PySem.W.Frag} {mg : Str → Option Value} {base : Heap} {N : List Str} {qual : Str} {scope : Scope} {f : Addr} {cd : Value} {A : Around} {outer : List Env} {n : Nat} {own : List Addr} {s s' : Shared} {ip : List (Addr × Obj)} {σ : L2.St} {H : Hp}
end
end DL
set_option maxHeartbeats 2000000
/-! ### the heap never shrinks -/
namespace DL
open PySem PySem.Spec PyProof.Rows L2 GenW
open Sem (wp)
end DL
set_option maxHeartbeats 2000000
/-! ### all_shortcuts: what it hands out -/
namespace DL
open PySem PySem.Spec PyProof.Rows L2 GenW
def OwnAt (own : List (Addr × Obj)) (s : Shared) : Prop := ∀ p ∈ own, s.heap.get? p.1 = some p.2
/-- a tuple of ints is handed out -/
structure GItem (fs : List Addr) (n : Nat) (own own' : List (Addr × Obj)) (x : List Int) (s₀ : Shared) (v : Value) (s' : Shared) : Prop where
  kept : KeptG fs (chOf n (own.map (·.1))) s₀ s'
  len : x.length ≤ sizeLine
  hasn : ∃ o, (n, o) ∈ own'
  item : ∃ t us, v = .ref t ∧ s₀.heap.objs.size ≤ t ∧ IsTup s'.heap t us.toArray ∧ Vals (x.map V.int) us ∧ ∀ p ∈ own', p.1 ≠ t
  own : ∀ p ∈ own', s'.heap.get? p.1 = some p.2 ∧ (∀ v, p.2.data ≠ .cell v) ∧ (p.1 = n ∨ p.1 ∈ own.map (·.1) ∨ s₀.heap.objs.size ≤ p.1)
/-- the generator's code, that will hand out these -/
def RdyC (M : Model) (A : Around) (base : Heap) (outer : List Env) (n : Nat) : List (List Int) → List (Addr × Obj) → Code → Sem PySem.Fin → List Frame → Prop
  | [], own, c, t, fs => ∀ s, WakeOk base outer n s → OwnAt own s → Sg M A (fun e s' => match e with
      | .ret r => r = .ok (.ret .none) ∧ KeptG (frs outer) (chOf n (own.map (·.1))) s s'
      | .susp _ _ _ _ _ _ _ => False) c t fs s
  | x :: xs, own, c, t, fs => ∀ s, WakeOk base outer n s → OwnAt own s → Sg M A (fun e s' => match e with
      | .ret _ => False
      | .susp v g l k c p fs => (End.susp v g l k c p fs).quiet = true ∧ ∃ own', GItem (frs outer) n own own' x s v s' ∧ RdyC M A base outer n xs own' c (k (.send .none)) fs) c t fs s
/-! ranges, made and turned -/
section
variable {X : Cx} {pins : List (Addr × Obj)} {σ : L2.St} {H : Hp} {s : Shared} {E : Value → Shared → Prop} {it : Addr} {lo : Int} {c : Nat} {tg : Expr}
end
end DL
set_option maxHeartbeats 2000000
/-! ### all_shortcuts -/
namespace DL
open PySem PySem.Spec PyProof.Rows L2 GenW
section
variable {P : Program} {w : World} {K : PySem.W.Frag} {mg : Str → Option Value} {base : Heap} {qual : Str} {f : Addr} {cd : Value} {A : Around} {outer : List Env} {n many : Nat}
structure GenOk (K : PySem.W.Frag) (mg : Str → Option Value) (base : Heap) (A : Around) (outer : List Env) (n many : Nat) : Prop where
  md : Mod K mg base
  rg : mg "range" = none
  hd : A.handled = none
  fr : A.frames = some outer
  bz : base.objs.size ≤ n
  lt : many < 2 ^ 61
variable {p1 p2 p3 p4 p5 p6 p7 p8 p9 q1 q2 q3 q4 q5 q6 q7 q8 : Pos}
/-- the yield, and behind it -/
abbrev gY (q1 q2 q3 q4 q5 : Pos) : List Stmt := [.Expr (.Yield (some (.Tuple [.Name "i" q1, .Name "j" q2] 0 q3)) q4) q5]
end
end DL
set_option maxHeartbeats 2000000
namespace DL
open PySem PySem.Spec PyProof.Rows L2 GenW
section
variable {P : Program} {w : World} {K : PySem.W.Frag} {mg : Str → Option Value} {base : Heap} {qual : Str} {f : Addr} {cd : Value} {A : Around} {outer : List Env} {n many : Nat}
variable {p0 p1 p2 p3 p4 p5 p6 p7 p8 p9 p10 p11 p12 q1 q2 q3 q4 q5 : Pos}
abbrev gB (p1 p2 p3 p4 p5 p6 p7 p8 q1 q2 q3 q4 q5 : Pos) : List Stmt :=
  [.For (.Name "j" p1) (.Call (.Name "range" p2) [.BinOp (.Name "i" p3) .Add (.Constant (.int 1) 0 p4) p5, .Name "many" p6] [] p7) (gY q1 q2 q3 q4 q5) [] p8]
end
end DL
set_option maxHeartbeats 2000000
/-! ### for over a generator -/
namespace DL
open PySem PySem.Spec PyProof.Rows L2 GenW
def RdyS (M : Model) (A : Around) (base : Heap) (outer : List Env) (n : Nat) (xs : List (List Int)) (own : List (Addr × Obj)) : GenState → Prop
  | .fresh c => RdyC M A base outer n xs own c (M.den c) []
  | .suspended k _ c _ fs _ => RdyC M A base outer n xs own c (k (.send .none)) fs
  | _ => False
/-- a generator just made -/
structure Made (P : Program) (w : World) (base : Heap) (outer : List Env) (xs : List (List Int)) (a : Addr) (g n : Nat) (go on : Obj) (c : Code) (s s' : Shared) : Prop where
  na : n < a
  sn : s.heap.objs.size = n
  ga : s'.heap.get? a = some go
  gen : go.cls = .type "generator" ∧ (∃ nm qn, go.data = .fields #[.int g 0, nm, qn]) ∧ go.slots = #[]
  gn : s'.heap.get? n = some on
  nc : ∀ v, on.data ≠ .cell v
  st : s'.gens[g]? = some (.fresh c)
  os : s'.os = s.os
  bare : AllBare s'.gens
  keep : ∀ b o, s.heap.get? b = some o → s'.heap.get? b = some o
  rdy : ∀ A : Around, A.handled = none → A.frames = some outer → RdyC (model P w) A base outer n xs [(n, on)] c ((model P w).den c) []
abbrev TMk := L2.St → Hp → (List (List Int) → Hp → Prop) → Prop
structure PMk (X : Cx) (e : Expr) (t : TMk) : Prop where
  run : ∀ (pins : List (Addr × Obj)) (s : Shared) (σ : L2.St) (H : Hp) (R : List (List Int) → Hp → Prop), Inv X pins σ H s → t σ H R → wpAny (model X.prog X.w) X.A (eval e X.env)
    (fun u s' => ∃ a g n go on c xs H1 sc, u = .ref a ∧ Inv X pins σ H1 sc ∧ Made X.prog X.w X.base X.stack xs a g n go on c sc s' ∧ R xs H1) X.xe s
section
variable {X : Cx} {pins : List (Addr × Obj)} {σ : L2.St} {H : Hp} {s s' : Shared}
/-- where the consumer stands -/
structure Low (X : Cx) (pins : List (Addr × Obj)) (n : Nat) : Prop where
  s0 : X.s_0.heap.objs.size ≤ n
  loc : X.env.locals < n
  cell : ∀ x c, X.env.cells.lookup x = some c → c < n
  pin : ∀ p ∈ X.pn ++ pins, p.1 < n
  fr : ∀ b ∈ frs X.stack, b < n
end
/-- the consumer at a turn -/
structure LoopI (X : Cx) (pins : List (Addr × Obj)) (a : Addr) (g n : Nat) (go : Obj) (xs : List (List Int)) (σ : L2.St) (H : Hp) (s : Shared) : Prop where
  ex : ∃ own gs, Inv X ((a, go) :: (own ++ pins)) σ H s ∧ s.gens[g]? = some gs ∧ RdyS (model X.prog X.w) X.A.in1 X.base X.stack n xs own gs ∧ (∃ o, (n, o) ∈ own) ∧ ∀ p ∈ own, n ≤ p.1 ∧ p.1 ≠ a
section
variable {X : Cx} {tg : Expr}
end
end DL
set_option maxHeartbeats 2000000
/-! ### a generator is made by a call -/
namespace DL
open PySem PySem.Spec PyProof.Rows L2 GenW
section
variable {P : Program} {w : World} {K : PySem.W.Frag} {mg : Str → Option Value} {base : Heap} {x qual : Str} {params : Arguments} {dvs : List V} {kws : List (Str × V)} {f : Addr} {fd : FuncData} {p0 p1 p2 p3 p4 p5 p6 p7 p8 p9 p10 p11 p12 q1 q2 q3 q4 q5 : Pos}
end
section
variable {X : Cx}
end
end DL
set_option maxHeartbeats 2000000
/-! ### {k: v for .. in .. for .. in ..}, the keys tuples of ints and texts -/
namespace DL
open PySem PySem.Spec PyProof.Rows L2
section
variable {prog : Program} {w : World} {A : Around} {R : Result → Shared → Prop} {s : Shared} {kx vx t0 i0 t1 i1 : Expr} {scope : Scope} {pos : Pos} {it : Value} {D : Addr} {env : Env}
end
end DL
set_option maxHeartbeats 2000000
namespace DL
open PySem PySem.Spec PyProof.Rows L2
section
variable {X : Cx}
end
end DL
set_option maxHeartbeats 2000000
/-! ### data level: for over a generator; dicts with tuple keys -/
namespace DL
open PySem PySem.Spec PyProof.Rows L2
section
variable {X : Cx} {E : XK} {tg : Expr} {pos : Pos}
end
end DL
set_option maxHeartbeats 2000000
namespace DL
open PySem PySem.Spec PyProof.Rows L2
section
variable {K : PySem.W.Frag}
end
section
variable {X : Cx} {E : XK}
end
end DL
set_option maxHeartbeats 2000000
/-! ### a list of lists that grow -/
namespace DL
open PySem PySem.Spec PyProof.Rows L2
def RowsL (c : Cf) : List Addr → List (List Int) → Prop
  | [], [] => True
  | q :: qs, r :: rs => (c.H q = some (.lst (r.map V.int)) ∧ c.F q = none ∧ q ≠ c.dr) ∧ RowsL c qs rs
  | _, _ => False
theorem RowsL.len {c : Cf} : ∀ {qs : List Addr} {rows : List (List Int)}, RowsL c qs rows → qs.length = rows.length
  | [], [], _ => rfl
  | _ :: _, _ :: _, h => congrArg Nat.succ (RowsL.len h.2)
theorem RowsL.get {c : Cf} : ∀ {qs : List Addr} {rows : List (List Int)} {k : Nat} {r : List Int}, RowsL c qs rows → rows[k]? = some r → ∃ q, qs[k]? = some q ∧ c.H q = some (.lst (r.map V.int)) ∧ c.F q = none ∧ q ≠ c.dr
  | [], [], k, r, _, e => by simp at e
  | q :: qs, r' :: rs, 0, r, h, e => by
    simp at e
    subst e
    exact ⟨q, rfl, h.1⟩
  | q :: qs, r' :: rs, k + 1, r, h, e => by
    obtain ⟨q', h1, h2⟩ := RowsL.get h.2 (show rs[k]? = some r by simpa using e)
    exact ⟨q', by simpa using h1, h2⟩
theorem RowsL.le {c c' : Cf} (l : Le c c') : ∀ {qs : List Addr} {rows : List (List Int)}, RowsL c qs rows → RowsL c' qs rows
  | [], [], _ => trivial
  | _ :: _, _ :: _, h => ⟨⟨l.h _ _ h.1.2.2 (fun z => z) nofun h.1.1, l.fr _ _ h.1.2.2 (fun z => z) (by intro _ z; cases z) h.1.2.1 h.1.1, by rw [l.dr]; exact h.1.2.2⟩, RowsL.le l h.2⟩
theorem RowsL.out {c : Cf} {q : Addr} {u : HO} : ∀ {qs : List Addr} {rows : List (List Int)}, q ∉ qs → RowsL c qs rows → RowsL ⟨c.dr, c.F, upd c.H q u, c.n, c.T⟩ qs rows
  | [], [], _, _ => trivial
  | p :: qs, _ :: _, hn, h => ⟨⟨by show upd c.H q u p = _; rw [upd_ne (fun z => hn (by rw [z]; exact List.mem_cons_self))]; exact h.1.1, h.1.2⟩, RowsL.out (fun z => hn (List.mem_cons_of_mem _ z)) h.2⟩
theorem RowsL.put {c : Cf} {q : Addr} {r' : List Int} : ∀ {qs : List Addr} {rows : List (List Int)} {k : Nat}, qs.Nodup → qs[k]? = some q → RowsL c qs rows → RowsL ⟨c.dr, c.F, upd c.H q (.lst (r'.map V.int)), c.n, c.T⟩ qs (rows.set k r')
  | [], [], k, _, e, _ => by simp at e
  | p :: qs, r :: rs, 0, nd, e, h => by
    simp at e
    subst e
    exact ⟨⟨upd_same, h.1.2⟩, RowsL.out (List.nodup_cons.1 nd).1 h.2⟩
  | p :: qs, r :: rs, k + 1, nd, e, h => by
    have e' : qs[k]? = some q := by simpa using e
    have hpq : p ≠ q := fun z => (List.nodup_cons.1 nd).1 (by rw [z]; exact List.mem_of_getElem? e')
    exact ⟨⟨by show upd c.H q _ p = _; rw [upd_ne hpq]; exact h.1.1, h.1.2⟩, RowsL.put (List.nodup_cons.1 nd).2 e' h.2⟩
theorem RowsL.snoc {c : Cf} {q : Addr} {r : List Int} (hq : c.H q = some (.lst (r.map V.int)) ∧ c.F q = none ∧ q ≠ c.dr) : ∀ {qs : List Addr} {rows : List (List Int)}, RowsL c qs rows → RowsL c (qs ++ [q]) (rows ++ [r])
  | [], [], _ => ⟨hq, trivial⟩
  | _ :: _, _ :: _, h => ⟨h.1, RowsL.snoc hq h.2⟩
structure Grid (c0 c : Cf) (L : Addr) (qs : List Addr) (rows : List (List Int)) : Prop where
  le : Le c0 c
  hL : c.H L = some (.lst (qs.map V.ref))
  fL : c.F L = none
  dL : L ≠ c.dr
  nd : (L :: qs).Nodup
  no : ∀ q ∈ L :: qs, No c0 q
  rs : RowsL c qs rows
theorem Grid.step {c0 c c' : Cf} {L : Addr} {qs : List Addr} {rows : List (List Int)} (g : Grid c0 c L qs rows) (l : Le c c') : Grid c0 c' L qs rows :=
  ⟨g.le.trans l, l.h _ _ g.dL (fun z => z) nofun g.hL, l.fr _ _ g.dL (fun z => z) (by intro _ z; cases z) g.fL g.hL, by rw [l.dr]; exact g.dL, g.nd, g.no, g.rs.le l⟩
theorem Grid.put {c0 c : Cf} {L q : Addr} {qs : List Addr} {rows : List (List Int)} {k : Nat} {r r' : List Int} (g : Grid c0 c L qs rows) (ok : c.Ok) (hq : qs[k]? = some q) (hr : rows[k]? = some r) :
    (⟨c.dr, c.F, upd c.H q (.lst (r'.map V.int)), c.n, c.T⟩ : Cf).Ok ∧ Grid c0 ⟨c.dr, c.F, upd c.H q (.lst (r'.map V.int)), c.n, c.T⟩ L qs (rows.set k r') := by
  obtain ⟨q', e, h1, h2, h3⟩ := g.rs.get hr
  rw [hq] at e
  cases e
  have hm : q ∈ qs := List.mem_of_getElem? hq
  obtain ⟨ok2, l2⟩ := ok.put (u := .lst (r'.map V.int)) g.le (g.no q (List.mem_cons_of_mem _ hm)) h1 h2 h3
  have hLq : L ≠ q := fun z => (List.nodup_cons.1 g.nd).1 (by rw [z]; exact hm)
  exact ⟨ok2, l2, by show upd c.H q _ L = _; rw [upd_ne hLq]; exact g.hL, g.fL, g.dL, g.nd, g.no, RowsL.put (List.nodup_cons.1 g.nd).2 hq g.rs⟩
def gridD (rows : List (List Int)) : D := .lst (rows.map fun r => .lst (r.map D.int))
/-- all of it is frozen -/
theorem Grid.frz {K : PySem.W.Frag} {c0 c : Cf} {L : Addr} {qs : List Addr} {rows : List (List Int)} (g : Grid c0 c L qs rows) (ok : c.Ok) : ∃ c' : Cf, c'.H = c.H ∧ c'.n = c.n ∧ c'.Ok ∧ Le c0 c' ∧ RP K c' (.ref L) (gridD rows) := by
  have hall : ∀ q ∈ L :: qs, ∃ vs, c.H q = some (.lst vs) ∧ q ≠ c.dr := fun q hq => by
    rcases List.mem_cons.1 hq with rfl | hq
    · exact ⟨_, g.hL, g.dL⟩
    · obtain ⟨k, hk⟩ := List.getElem?_of_mem hq
      have hlt : k < rows.length := by rw [← g.rs.len]; exact (List.getElem?_eq_some_iff.1 hk).1
      obtain ⟨q', e, h1, _, h3⟩ := g.rs.get (List.getElem?_eq_getElem hlt)
      rw [hk] at e
      cases e
      exact ⟨_, h1, h3⟩
  have hF : ∀ a u, c.F a = some u → (fun a => if a ∈ L :: qs then c.H a else c.F a) a = some u := fun a u e => by
    show (if a ∈ L :: qs then c.H a else c.F a) = some u
    split
    · exact ok.sub _ _ e
    · exact e
  have rpl : ∀ {qs' : List Addr} {rows' : List (List Int)}, (∀ q ∈ qs', q ∈ qs) → RowsL c qs' rows' → RpL K c.dr (fun a => if a ∈ L :: qs then c.H a else c.F a) (qs'.map V.ref) (rows'.map fun r => .lst (r.map D.int)) := by
    intro qs'
    induction qs' with
    | nil =>
      intro rows' _ h
      cases rows' with
      | nil => exact .nil
      | cons _ _ => exact h.elim
    | cons q qs' ih =>
      intro rows' hs h
      cases rows' with
      | nil => exact h.elim
      | cons r rs =>
        refine .cons (.lst (vs := r.map V.int) ?_ (RpL.ofInts _ _ r)) (ih (fun z hz => hs z (List.mem_cons_of_mem _ hz)) h.2)
        show (if q ∈ L :: qs then c.H q else c.F q) = _
        rw [if_pos (List.mem_cons_of_mem _ (hs q List.mem_cons_self))]
        exact h.1.1
  refine ⟨⟨c.dr, fun a => if a ∈ L :: qs then c.H a else c.F a, c.H, c.n, c.T⟩, rfl, rfl, ⟨fun a u e => ?_, ?_, ok.dw.up hF, ok.tb, fun a ps e => ?_⟩, ⟨g.le.dr, fun a u e => hF a u (g.le.f a u e), g.le.h, fun a u h1 h2 hz h3 h4 => ?_, g.le.hd, g.le.T⟩, ?_⟩
  · have e' : (if a ∈ L :: qs then c.H a else c.F a) = some u := e
    split at e'
    · exact e'
    · exact ok.sub _ _ e'
  · show (if c.dr ∈ L :: qs then c.H c.dr else c.F c.dr) = none
    rw [if_neg (fun hm => by obtain ⟨_, _, h⟩ := hall _ hm; exact h rfl)]
    exact ok.nf
  · have e' : (if a ∈ L :: qs then c.H a else c.F a) = some (.tbl ps) := e
    split at e'
    · rename_i hm
      obtain ⟨vs, h1, _⟩ := hall a hm
      rw [h1] at e'
      cases e'
    · exact ok.nt a ps e'
  · show (if a ∈ L :: qs then c.H a else c.F a) = none
    rw [if_neg (fun hm => (g.no a hm).ne hz h4)]
    exact g.le.fr a u h1 h2 hz h3 h4
  · refine .lst (vs := qs.map V.ref) ?_ (rpl (fun _ h => h) g.rs)
    show (if L ∈ L :: qs then c.H L else c.F L) = _
    rw [if_pos List.mem_cons_self]
    exact g.hL
end DL
set_option maxHeartbeats 2000000
/-! ### found = [[] for ..]; for i, j in ..: if ..: found[i].append(j) -/
namespace DL
open PySem PySem.Spec PyProof.Rows L2
end DL
namespace DL
open PySem PySem.Spec PyProof.Rows L2
theorem sizeLine_big : 1000000 < sizeLine := by decide
section
variable {X : Cx} {E : XK}
end
end DL
set_option maxHeartbeats 2000000
/-! ### new lists by *, parallel assignments with a new list, reversed ranges, properties -/
namespace DL
open PySem PySem.Spec PyProof.Rows L2
section
variable {X : Cx} {E : XK} {pos : Pos}
end
end DL
set_option maxHeartbeats 2000000
/-! ### properties; the head's hook with their getters -/
namespace DL
open PySem PySem.Spec PyProof.Rows L2
structure PropF (P : Program) (wd : World) (K : PySem.W.Frag) (mg : Str → Option Value) (base : Heap) (cn f : Str) (k : Nat) (C : Ct) : Prop where
  ex : ∃ p g fd ps, FnOk P wd K mg base CX0 k g fd ps (spU K 1 C) ∧ PropOf K (He.ga K cn) f p g ∧ Binds K fd ps []
section
variable {X : Cx} {E : XK} {pos : Pos} {e : Expr} {w : WE} {cn f : Str} {fl : List Str} {C : Ct} {k j : Nat}
end
/-! the hook -/
abbrev AlZ : Type := AlY × He.AlD
structure SaysZ (fa : List He.Fa) (fn : List He.DefD) (tf : List He.Defn) (ex : PySem.W.Frag → Bool) (gl : List He5.DefA) (h : Heap) (K : PySem.W.Frag) : Prop where
  y : SaysY fa fn tf ex h K
  a : He5.SaysA [] gl K
/-- a, b, c = .. (three plain locals) -/
def sPar3 (i j l : Nat) (w : WA) : WS := fun x k η n => w x η n fun ds n1 => match ds with
  | [d, e, f] => k.nx (((η.set i (.dt d)).set j (.dt e)).set l (.dt f)) n1
  | _ => False
theorem qs_par3 {X : Cx} {E : XK} {pos : Pos} {i j l : Nat} {x y z : Str} {a b c : Expr} {w : WA} {px py pz pt : Pos} {kt k2 pt2} (hc : X.calm = true) (hN : X.N.Nodup) (hi : X.N[i]? = some x) (hj : X.N[j]? = some y) (hl : X.N[l]? = some z) (hij : i ≠ j) (hil : i ≠ l) (hjl : j ≠ l)
    (hx : X.env.scope.names.lookup x = some .local) (hy : X.env.scope.names.lookup y = some .local) (hz : X.env.scope.names.lookup z = some .local) (ha : PA X [a, b, c] (upA X.K E w))
    (hw : swappedStores [.Tuple [.Name x px, .Name y py, .Name z pz] kt pt] (.Tuple [a, b, c] k2 pt2) X.env = pure (some [x, y, z]))
    (hs : swapsWithSole [.Tuple [.Name x px, .Name y py, .Name z pz] kt pt] (.Tuple [a, b, c] k2 pt2) pos.line X.env = pure false := by rfl) :
    PS X (.Assign [.Tuple [.Name x px, .Name y py, .Name z pz] kt pt] (.Tuple [a, b, c] k2 pt2) pos) (upS X.K E (sPar3 i j l w)) := ps_to (ps_par3 hc hN hi hj hl hij hil hjl hx hy hz ha hw hs) fun D σ H q => by
  obtain ⟨c, η, k, x, e1, ok, en, hw, h1, h2, h3, h4, hx⟩ := q
  refine ⟨c, η, _, x, e1, ok, en, hw, fun ds c1 vs hd ok1 l1 rp => ?_, hx.none⟩
  split at hd
  · cases rp with
    | cons r1 t1 =>
      cases t1 with
      | cons r2 t2 =>
        cases t2 with
        | cons r3 t3 =>
          cases t3
          exact ⟨_, _, _, rfl, h1 _ c1 _ hd ok1 (LeO.of l1) (fun a z => .inl (owned_set (owned_set (owned_set z)))) ((((en.le l1).set r1).set r2).set r3)⟩
  · exact hd.elim
end DL
set_option maxHeartbeats 2000000
/-! ### == of tuples of rows (instance with own ==, int) that are alike -/
namespace DL
open PySem PySem.Spec PyProof.Rows L2
def RIns (K : PySem.W.Frag) (cn : Str) (ns : List Str) : Addr → Addr → Hp → Prop := fun a b H => ∃ (is : List Int) (dx dy : Addr), ns.length = is.length ∧ H a = some (.ins (He.ga K cn) dx (ns.zip (is.map V.int))) ∧ H b = some (.ins (He.ga K cn) dy (ns.zip (is.map V.int)))
theorem RIns.ext {K : PySem.W.Frag} {cn : Str} {ns : List Str} : ∀ a b H H', Ext H H' → RIns K cn ns a b H → RIns K cn ns a b H' := fun a b H H' e h => by
  obtain ⟨is, dx, dy, hl, h1, h2⟩ := h
  exact ⟨is, dx, dy, hl, e _ _ h1, e _ _ h2⟩
structure EqF (P : Program) (wd : World) (K : PySem.W.Frag) (mg : Str → Option Value) (base : Heap) (cn : Str) (ns : List Str) (k : Nat) : Prop where
  ex : ∃ f fd ps, FnOk P wd K mg base CX0 k f fd ps (spEq (RIns K cn ns)) ∧ PySem.W.findIn K (.ref (He.ga K cn)) "__eq__" = some (some (.ref f)) ∧ PySem.W.isFn K (.ref f) = true ∧ Binds K fd ps []
theorem Cf.ext {c : Cf} {H' : Hp} (e : Ext c.H H') (ok : c.Ok) : Cf.Ok ⟨c.dr, c.F, H', c.n, c.T⟩ ∧ Le c ⟨c.dr, c.F, H', c.n, c.T⟩ := by
  refine ⟨⟨fun a o h => e _ _ (ok.sub a o h), ok.nf, ?_, fun p hp => (ok.tb p hp).ext e, ok.nt⟩, rfl, fun _ _ h => h, fun a o _ _ _ h => e _ _ h, fun _ _ _ _ _ h _ => h, fun a o hz h => ⟨o, hz, e _ _ h⟩, rfl⟩
  obtain ⟨ca, cells, a, l, u, h, r⟩ := ok.dw
  exact ⟨ca, cells, a, l, u, e _ _ h, r⟩
section
variable {X : Cx} {E : XK} {pos : Pos} {a b : Expr} {wa wb : WE} {cn : Str} {ns : List Str} {k j : Nat}
end
end DL
set_option maxHeartbeats 2000000
/-! ### [e for .. for ..]; is not True; repr of a truth value; tuple(range(n)) -/
namespace DL
open PySem PySem.Spec PyProof.Rows L2
section
variable {X : Cx} {E : XK} {pos : Pos}
/-! is not True -/
/-! repr of a truth value -/
/-! tuple(range(n)) -/
end
end DL
set_option maxHeartbeats 2000000
/-! ### own operators, own __str__, own == against other things: readings on data -/
namespace DL
open PySem PySem.Spec PyProof.Rows L2
structure OwnF (P : Program) (wd : World) (K : PySem.W.Frag) (mg : Str → Option Value) (base : Heap) (cn : Str) (nm : String) (k : Nat) (C : Ct) : Prop where
  ex : ∃ f fd ps, FnOk P wd K mg base (L2.CX P wd) k f fd ps (spU K 2 C) ∧ Binds K fd ps [] ∧ OpK K (He.ga K cn) f nm
structure MulF (P : Program) (wd : World) (K : PySem.W.Frag) (mg : Str → Option Value) (base : Heap) (cn : Str) (k : Nat) (C : Ct) : Prop where
  ex : ∃ f r fd ps, FnOk P wd K mg base (L2.CX P wd) k f fd ps (spU K 2 C) ∧ Binds K fd ps [] ∧ MulK K (He.ga K cn) f r
structure RMulF (P : Program) (wd : World) (K : PySem.W.Frag) (mg : Str → Option Value) (base : Heap) (cn : Str) (k : Nat) (C : Ct) : Prop where
  ex : ∃ f r fd ps, FnOk P wd K mg base (L2.CX P wd) k r fd ps (spU K 2 C) ∧ Binds K fd ps [] ∧ MulK K (He.ga K cn) f r
section
variable {X : Cx} {E : XK} {pos p : Pos} {a b e : Expr} {wa wb w : WE} {cn : Str} {C : Ct} {j k : Nat}
/-- how the exceptions are told -/
structure YX (X : Cx) (E E' : XK) (y : Xn → Xn) : Prop where
  p : Passes (L2.CX X.prog X.w) X E'
  w : ∀ x (c : Cf), XW X.K E x (fun _ => False) c → XW X.K E' (y x) (fun _ => False) c
/-! own == against an int or a text -/
structure OwnO (K : PySem.W.Frag) (cn : Str) : Prop where
  i : PySem.W.notFirst K (He.ga K cn) (.type "int") = true
  s : PySem.W.notFirst K (He.ga K cn) (.type "str") = true
/-! str(x) by the class's own __str__ -/
structure StrF (P : Program) (wd : World) (K : PySem.W.Frag) (mg : Str → Option Value) (base : Heap) (cn : Str) (k : Nat) (C : Ct) : Prop where
  ex : ∃ f fd ps, FnOk P wd K mg base CX0 k f fd ps (spU K 1 C) ∧ Binds K fd ps [] ∧ PySem.W.findIn K (.ref (He.ga K cn)) "__str__" = some (some (.ref f)) ∧ PySem.W.isFn K (.ref f) = true
end
end DL
set_option maxHeartbeats 2000000
/-! ### classmethods, making by keywords, making by a class in a local name with a starred list -/
namespace DL
open PySem PySem.Spec PyProof.Rows L2
/-- a classmethod's def: the class ahead of the data -/
def spC (K : PySem.W.Frag) (cn : Str) (m : Nat) (C : Ct) : Sp := fun vs H Q E => ∃ us, vs = .ref (He.ga K cn) :: us ∧ spU K m C us H Q E
section
variable {K : PySem.W.Frag} {cn : Str} {m : Nat} {C : Ct} {vs : List V} {H : Hp} {Q : VK} {E : XK} {N : List Str} {w : WS}
end
section
variable {P : Program} {wd : World} {K : PySem.W.Frag} {mg : Str → Option Value} {base : Heap} {x qual : Str} {params : Arguments} {body : List Stmt} {scope : Scope} {dvs : List V} {kws : List (Str × V)} {N : List Str} {w : WS} {f : Addr} {fd : FuncData} {m k : Nat} {ps : List Str} {cn : Str}
end
/-- Cn.mt(..) -/
structure CMethF (P : Program) (wd : World) (K : PySem.W.Frag) (mg : Str → Option Value) (base : Heap) (cn mt : Str) (m k : Nat) (ks : List Str) (pm : List Nat) (C : Ct) : Prop where
  ex : ∃ p g fd ps mc, FnOk P wd K mg base (L2.CX P wd) k g fd ps (spC K cn m C) ∧ Binds K fd ps [] ∧ KBn K fd ps 1 ks (gP .none pm) (gP .non pm) ∧ ClX.CRead K (He.ga K cn) mc ∧ ClX.CMet K (He.ga K cn) mc mt p g ∧ mg cn = some (.ref (He.ga K cn))
section
variable {X : Cx} {E E' : XK} {y : Xn → Xn} {pos apos p : Pos} {e : Expr} {es : List Expr} {w : WA} {cn mt : Str} {C : Ct} {j k m : Nat} {ks : List Str} {pm : List Nat} {pl : Sem Bool} {kws : List Keyword}
/-! ### C(k = v, ..) that may raise -/
theorem gP_shift (v : V) (zs : List V) : ∀ pm : List Nat, pm.all (fun i => i < zs.length) = true → gP .non (0 :: pm.map (· + 1)) [v] zs = v :: gP .non pm [] zs := fun pm h => by
  unfold gP
  simp
/-! ### cls(*numbers) -/
end
end DL
set_option maxHeartbeats 4000000
/-! ### said that tells the two numbers of a slack -/
namespace DL
open PySem PySem.Spec PyProof.Rows L2
section
variable {X : Cx}
end
section
variable {X : Cx} {E : XK} {p lpos pos : Pos} {params : Arguments} {body : Expr} {scope : Scope} {k kk : Nat} {w : WE} {cs : List Value} {l : List (Addr × Str)} {tag : Str → Option Str} {sn n1 n2 : Str}
end
end DL
set_option maxHeartbeats 4000000
/-! ### facts of own operators and classmethods, read off the written part; a maker that may raise -/
namespace DL
open PySem PySem.Spec PyProof.Rows L2
section
variable {X : Cx} {E E' : XK} {y : Xn → Xn} {pos p : Pos} {e : Expr} {es : List Expr} {cn : Str} {ps : List Str} {m k j : Nat} {w : WA}
end
structure OpX (K : PySem.W.Frag) (cn : Str) : Prop where
  add : OpK K (He.ga K cn) (He.ma K (He.ga K cn) "__add__") "add"
  mul : MulK K (He.ga K cn) (He.ma K (He.ga K cn) "__mul__") (He.ma K (He.ga K cn) "__rmul__")
  o : OwnO K cn
end DL
set_option maxHeartbeats 2000000
/-! ### dicts whose keys are nested tuples of ints -/
namespace DL
open PySem PySem.Spec PyProof.Rows L2
section
variable {β : Type}
/-- what stands at a key -/
def getN : List NestedKey → List β → NestedKey → Option β
  | k' :: ks, v :: vs, k => if k' = k then some v else getN ks vs k
  | _, _, _ => none
/-- the keys, the values behind a store -/
def putNk (ks : List NestedKey) (k : NestedKey) : List NestedKey := if k ∈ ks then ks else ks ++ [k]
def setNv : List NestedKey → List β → NestedKey → β → List β
  | k' :: ks, v' :: vs, k, v => if k' = k then v :: vs else v' :: setNv ks vs k v
  | _, vs, _, _ => vs
def putNv (ks : List NestedKey) (vs : List β) (k : NestedKey) (v : β) : List β := if k ∈ ks then setNv ks vs k v else vs ++ [v]
end
mutual
/-- an int-only key's hash is the same in each world -/
theorem hash_any {F : Hp} (w w' : World) : ∀ (k : NestedKey) (v : V), KeyF F k v → NestedKey.hash w k = NestedKey.hash w' k
  | .num i, _, q => rfl
  | .none, _, q => by cases q
  | .text _, _, q => by cases q
  | .tup ks, _, q => by
    cases q with
    | tup e r => rw [NestedKey.hash, NestedKey.hash, hash_anyL w w' ks _ r]
theorem hash_anyL {F : Hp} (w w' : World) : ∀ (ks : List NestedKey) (vs : List V), KeyFL F ks vs → NestedKey.hashes w ks = NestedKey.hashes w' ks
  | [], _, q => rfl
  | k :: ks, _, q => by
    cases q with
    | cons r t => rw [NestedKey.hashes, NestedKey.hashes, hash_any w w' k _ r, hash_anyL w w' ks _ t]
end
section
variable {P : Program} {w : World} {H : Hp} {h : Heap}
mutual
theorem key_is (ok : HOk P w H h) : ∀ (k : NestedKey) (v : V) (u : Value), KeyF H k v → RelV v u → NestedIs h k u
  | .num i, _, u, q, r => by
    cases q
    obtain ⟨t, rfl⟩ := (show ∃ t, u = Value.int i t from r)
    exact .int i t
  | .none, _, _, q, _ => by cases q
  | .text _, _, _, q, _ => by cases q
  | .tup ks, _, u, q, r => by
    cases q with
    | @tup a vs _ e rr =>
      cases (show u = Value.ref a from r)
      obtain ⟨_, its, r2, o, h1, h2, n, h3⟩ := (show ObjOk P w H h a (.tup vs) from ok a _ e)
      exact .tup h1 h2 h3 (key_isL ok ks vs its rr r2)
theorem key_isL (ok : HOk P w H h) : ∀ (ks : List NestedKey) (vs : List V) (us : List Value), KeyFL H ks vs → Vals vs us → NestedAll h ks us
  | [], _, us, q, r => by
    cases q
    cases r
    exact .nil
  | k :: ks, _, us, q, r => by
    cases q with
    | cons a t =>
      cases r with
      | cons b s => exact .cons (key_is ok k _ _ a b) (key_isL ok ks _ _ t s)
end
end
/-- the entries as the library tells them -/
inductive KX (H : Hp) : List NestedKey → List V → List (NestedKey × Addr × Value) → Prop
  | nil : KX H [] [] []
  | cons {k : NestedKey} {b : Addr} {v : V} {u : Value} {ks : List NestedKey} {vs : List V} {xs : List (NestedKey × Addr × Value)} : KeyF H k (.ref b) → k.depth ≤ 8 → RelV v u → KX H ks vs xs → KX H (k :: ks) (v :: vs) ((k, b, u) :: xs)
theorem KX.keys {H : Hp} : ∀ {ks : List NestedKey} {vs : List V} {xs : List (NestedKey × Addr × Value)}, KX H ks vs xs → xs.map (·.1) = ks
  | _, _, _, .nil => rfl
  | _, _, _, .cons _ _ _ t => by rw [List.map_cons, KX.keys t]
theorem KX.len {H : Hp} : ∀ {ks : List NestedKey} {vs : List V} {xs : List (NestedKey × Addr × Value)}, KX H ks vs xs → ks.length = vs.length
  | _, _, _, .nil => rfl
  | _, _, _, .cons _ _ _ t => congrArg Nat.succ (KX.len t)
def adr : Value → Addr
  | .ref b => b
  | _ => 0
def mkX : List NestedKey → List DictEntry → List (NestedKey × Addr × Value)
  | k :: ks, e :: es => (k, adr e.key, e.val) :: mkX ks es
  | _, _ => []
theorem KX.of {H : Hp} (P : Program) (w : World) : ∀ {es : List DictEntry} {ks : List NestedKey} {vs : List V}, EnL H es ks vs → KX H ks vs (mkX ks es) ∧ es = (mkX ks es).map (entryOfKey (nestedKind P w))
  | _, _, _, .nil => ⟨.nil, rfl⟩
  | _, _, _, .cons (e := e) (k := k) a t => by
    obtain ⟨r, q⟩ := KX.of P w t
    obtain ⟨b, e1, e2⟩ := a.key
    have h1 := a.hash w
    have h2 := a.val
    have h3 := a.dep
    cases e
    simp only at e1 h1 h2
    subst e1 h1
    refine ⟨.cons e2 h3 h2 r, ?_⟩
    rw [mkX, List.map_cons, ← q]
    rfl
theorem KX.to {H : Hp} {P : Program} {w : World} : ∀ {xs : List (NestedKey × Addr × Value)} {ks : List NestedKey} {vs : List V}, KX H ks vs xs → EnL H (xs.map (entryOfKey (nestedKind P w))) ks vs
  | _, _, _, .nil => .nil
  | _, _, _, .cons a d r t => .cons ⟨fun w' => hash_any w w' _ _ a, ⟨_, rfl, a⟩, d, r⟩ (KX.to t)
theorem KX.get {H : Hp} {k : NestedKey} : ∀ {ks : List NestedKey} {vs : List V} {xs : List (NestedKey × Addr × Value)}, KX H ks vs xs → RelO (getN ks vs k) ((atKey xs k).map (·.2))
  | _, _, _, .nil => True.intro
  | _, _, _, .cons (k := k') (b := b) (u := u) (xs := xs) a d r t => by
    unfold atKey
    rw [List.find?_cons]
    by_cases h : k' = k
    · rw [show decide (((k', b, u) : NestedKey × Addr × Value).1 = k) = true from decide_eq_true h]
      show RelO (if k' = k then _ else _) _
      rw [if_pos h]
      exact r
    · rw [show decide (((k', b, u) : NestedKey × Addr × Value).1 = k) = false from decide_eq_false h]
      show RelO (if k' = k then _ else _) _
      rw [if_neg h]
      exact KX.get t
theorem KX.mem {H : Hp} {k : NestedKey} : ∀ {ks : List NestedKey} {vs : List V} {xs : List (NestedKey × Addr × Value)}, KX H ks vs xs → (atKey xs k).isSome = decide (k ∈ ks)
  | _, _, _, .nil => rfl
  | _, _, _, .cons (k := k') (b := b) (u := u) (xs := xs) a d r t => by
    unfold atKey
    rw [List.find?_cons]
    by_cases h : k' = k
    · rw [show decide (((k', b, u) : NestedKey × Addr × Value).1 = k) = true from decide_eq_true h]
      subst h
      simp
    · rw [show decide (((k', b, u) : NestedKey × Addr × Value).1 = k) = false from decide_eq_false h]
      have := KX.mem (k := k) t
      unfold atKey at this
      rw [this]
      have h' : ¬ k = k' := fun z => h z.symm
      simp [h']
theorem KX.snoc {H : Hp} {k : NestedKey} {b : Addr} {v : V} {u : Value} (a : KeyF H k (.ref b)) (d : k.depth ≤ 8) (r : RelV v u) : ∀ {ks : List NestedKey} {vs : List V} {xs : List (NestedKey × Addr × Value)}, KX H ks vs xs → KX H (ks ++ [k]) (vs ++ [v]) (xs ++ [(k, b, u)])
  | _, _, _, .nil => .cons a d r .nil
  | _, _, _, .cons a' d' r' t => .cons a' d' r' (KX.snoc a d r t)
theorem KX.upd {H : Hp} {k : NestedKey} {v : V} {u : Value} (r : RelV v u) {ks : List NestedKey} {vs : List V} {xs : List (NestedKey × Addr × Value)} (n : ks.Nodup) (q : KX H ks vs xs) : KX H ks (setNv ks vs k v) (xs.map (putAt k u)) := by
  induction q with
  | nil => exact .nil
  | @cons k' b v' u' ks vs xs a d r' t ih =>
    rw [List.nodup_cons] at n
    rw [List.map_cons, setNv]
    by_cases h : k' = k
    · rw [if_pos h]
      have e : putAt k u (k', b, u') = (k', b, u) := by unfold putAt; rw [if_pos h]
      rw [e, map_putAt_of_not_mem xs k u (by rw [KX.keys t, ← h]; exact n.1)]
      exact .cons a d r t
    · rw [if_neg h]
      have e : putAt k u (k', b, u') = (k', b, u') := by unfold putAt; rw [if_neg h]
      rw [e]
      exact .cons a d r' (ih n.2)
theorem KX.put {H : Hp} {k : NestedKey} {b : Addr} {v : V} {u : Value} {ks : List NestedKey} {vs : List V} {xs : List (NestedKey × Addr × Value)} (a : KeyF H k (.ref b)) (d : k.depth ≤ 8) (r : RelV v u) (n : ks.Nodup) (t : KX H ks vs xs) : KX H (putNk ks k) (putNv ks vs k v) (storedH xs k b u) := by
  have m := t.mem (k := k)
  unfold putNk putNv storedH
  by_cases h : k ∈ ks
  · rw [if_pos h, if_pos h, if_pos (by rw [m]; exact decide_eq_true h)]
    exact t.upd r n
  · rw [if_neg h, if_neg h, if_neg (by rw [m]; simp [h])]
    exact t.snoc a d r
/-- at a stands a dict with these keys and values -/
def NdE (H : Hp) (a : Addr) (es : Array DictEntry) (ep : Nat) (ks : List NestedKey) (vs : List V) : Prop := H a = some (Nd a es ep) ∧ EnL H es.toList ks vs ∧ ks.Nodup ∧ (a == sysModules) = false ∧ es.size ≤ sizeLine
def NdH (H : Hp) (a : Addr) (ks : List NestedKey) (vs : List V) : Prop := ∃ es ep, NdE H a es ep ks vs
theorem EnL.len {F : Hp} : ∀ {es : List DictEntry} {ks : List NestedKey} {vs : List V}, EnL F es ks vs → ks.length = es.length
  | _, _, _, .nil => rfl
  | _, _, _, .cons _ t => congrArg Nat.succ (EnL.len t)
section
variable {X : Cx} {pins : List (Addr × Obj)} {σ : L2.St} {H : Hp} {s : Shared} {a : Addr} {ks : List NestedKey} {vs : List V}
theorem nd_raw {P : Program} {w : World} {h : Heap} {es : Array DictEntry} {ep : Nat} (ok : HOk P w H h) (e : H a = some (Nd a es ep)) : DT.Raw h a es ep := (show ObjOk P w H h a (Nd a es ep) from ok a _ e).1
theorem NdE.dict {P : Program} {w : World} {h : Heap} {es : Array DictEntry} {ep : Nat} (ok : HOk P w H h) (q : NdE H a es ep ks vs) : KX H ks vs (mkX ks es.toList) ∧ h.DictOfH (nestedKind P w) a (mkX ks es.toList) ∧ (a == sysModules) = false ∧ (mkX ks es.toList).length ≤ sizeLine := by
  obtain ⟨e, l, n, sm, z⟩ := q
  obtain ⟨kx, eq⟩ := KX.of P w l
  obtain ⟨o, ho, hx, hd⟩ := nd_raw ok e
  refine ⟨kx, ⟨o, es, ep, ho, hx, hd, eq, fun x hx => ?_, by rw [kx.keys]; exact n⟩, sm, ?_⟩
  · have all : ∀ {ks : List NestedKey} {vs : List V} {xs : List (NestedKey × Addr × Value)}, KX H ks vs xs → ∀ x ∈ xs, (nestedKind P w).is h x.1 x.2.1 := by
      intro ks vs xs q
      induction q with
      | nil => intro x hx; exact nomatch hx
      | cons a d r t ih =>
        intro x hx
        rcases List.mem_cons.mp hx with e | hx
        · subst e
          exact ⟨key_is ok _ _ _ a rfl, d⟩
        · exact ih x hx
    exact all kx x hx
  · have h1 : es.size = (mkX ks es.toList).length := by
      have := congrArg List.length eq
      simpa using this
    omega
theorem NdH.dict {P : Program} {w : World} {h : Heap} (ok : HOk P w H h) (q : NdH H a ks vs) : ∃ xs, KX H ks vs xs ∧ h.DictOfH (nestedKind P w) a xs ∧ (a == sysModules) = false ∧ xs.length ≤ sizeLine := by
  obtain ⟨es, ep, q⟩ := q
  exact ⟨_, q.dict ok⟩
theorem KeyF.upd {H : Hp} {a : Addr} {o u : HO} (e : H a = some o) (hn : ∀ vs, o ≠ .tup vs) {k : NestedKey} {v : V} (q : KeyF H k v) : KeyF (L2.upd H a u) k v := by
  have go : (∀ (k : NestedKey) (v : V), KeyF H k v → KeyF (L2.upd H a u) k v) := by
    intro k v q
    refine KeyF.rec (motive_1 := fun k v _ => KeyF (L2.upd H a u) k v) (motive_2 := fun ks vs _ => KeyFL (L2.upd H a u) ks vs) (fun i => .num i) (fun {b ws ks} f _ r => .tup ?_ r) .nil (fun _ _ x y => .cons x y) q
    rw [upd_ne (fun z => by rw [z, e] at f; exact hn _ (Option.some.inj f))]
    exact f
  exact go k v q
theorem EnL.upd {H : Hp} {a : Addr} {o u : HO} (e : H a = some o) (hn : ∀ vs, o ≠ .tup vs) : ∀ {es : List DictEntry} {ks : List NestedKey} {vs : List V}, EnL H es ks vs → EnL (L2.upd H a u) es ks vs
  | _, _, _, .nil => .nil
  | _, _, _, .cons q t => .cons (by obtain ⟨b, e1, e2⟩ := q.key; exact ⟨q.hash, ⟨b, e1, e2.upd e hn⟩, q.dep, q.val⟩) (EnL.upd e hn t)
end
end DL
set_option maxHeartbeats 2000000
/-! ### dicts with nested keys: the rules of the library's own level -/
namespace DL
open PySem PySem.Spec PyProof.Rows L2
section
variable {X : Cx}
end
end DL
set_option maxHeartbeats 2000000
/-! ### dicts with nested keys, by data -/
namespace DL
open PySem PySem.Spec PyProof.Rows L2
mutual
/-- a datum as a key: nested tuples of ints -/
def keyOf : D → Option NestedKey
  | .int i => some (.num i)
  | .tup xs => (keysOf xs).map .tup
  | _ => none
def keysOf : List D → Option (List NestedKey)
  | [] => some []
  | d :: ds => match keyOf d, keysOf ds with
    | some k, some ks => some (k :: ks)
    | _, _ => none
end
mutual
/-- a key as a datum -/
def kD : NestedKey → D
  | .none => .non
  | .num i => .int i
  | .text x => .str x
  | .tup ks => .tup (kDs ks)
def kDs : List NestedKey → List D
  | [] => []
  | k :: ks => kD k :: kDs ks
end
section
variable {K : PySem.W.Frag} {dr : Addr} {F : Hp}
mutual
theorem keyF_of : ∀ (d : D) (v : V) (k : NestedKey), Rp K dr F v d → keyOf d = some k → KeyF F k v
  | .int i, _, k, r, h => by
    cases r
    cases h
    exact .num i
  | .tup xs, _, k, r, h => by
    cases r with
    | tup e r =>
      rw [keyOf] at h
      obtain ⟨ks, h1, rfl⟩ := Option.map_eq_some_iff.mp h
      exact .tup e (keysF_of xs _ ks r h1)
  | .non, _, k, _, h => by cases h
  | .bl _, _, k, _, h => by cases h
  | .str _, _, k, _, h => by cases h
  | .lst _, _, k, _, h => by cases h
  | .ins _ _ _, _, k, _, h => by cases h
  | .drw, _, k, _, h => by cases h
  | .dct _ _, _, k, _, h => by cases h
  | .dks _ _, _, k, _, h => by cases h
  | .dkn _ _, _, k, _, h => by cases h
  | .exc _ _ _, _, k, _, h => by cases h
theorem keysF_of : ∀ (ds : List D) (vs : List V) (ks : List NestedKey), RpL K dr F vs ds → keysOf ds = some ks → KeyFL F ks vs
  | [], _, ks, r, h => by
    cases r
    cases h
    exact .nil
  | d :: ds, _, ks, r, h => by
    cases r with
    | cons a t =>
      rw [keysOf] at h
      split at h
      · next k ks' h1 h2 =>
        cases h
        exact .cons (keyF_of d _ _ a h1) (keysF_of ds _ _ t h2)
      · cases h
end
mutual
theorem kD_rp : ∀ (k : NestedKey) (v : V), KeyF F k v → Rp K dr F v (kD k)
  | .num i, _, q => by cases q; exact .int i
  | .none, _, q => by cases q
  | .text _, _, q => by cases q
  | .tup ks, _, q => by
    cases q with
    | tup e r => exact .tup e (kDs_rp ks _ r)
theorem kDs_rp : ∀ (ks : List NestedKey) (vs : List V), KeyFL F ks vs → RpL K dr F vs (kDs ks)
  | [], _, q => by cases q; exact .nil
  | k :: ks, _, q => by
    cases q with
    | cons a t => exact .cons (kD_rp k _ a) (kDs_rp ks _ t)
end
end
/-- a readable dict -/
theorem RB.dkn {K : PySem.W.Frag} {c : Cf} {v : V} {ks : List NestedKey} {ds : List D} (ok : c.Ok) (h : RB K c v (.dkn ks ds)) : ∃ p vs, v = .ref p ∧ NdH c.H p ks vs ∧ RPL K c vs ds := by
  cases h with
  | fz h =>
    cases h with
    | dkn e l n s z r => exact ⟨_, _, rfl, ⟨_, _, ok.sub _ _ e, l.mono ok.sub, n, s, z⟩, r⟩
  | ow ev ed h hf hd r => cases ed
  | od ev ed h hf hd r =>
    cases ed
    obtain ⟨es, ep, vs, e, l, n, s, z, r⟩ := r
    subst e
    exact ⟨_, vs, ev, ⟨es, ep, h, l.mono ok.sub, n, s, z⟩, r⟩
section
variable {X : Cx} {E : XK}
end
end DL
set_option maxHeartbeats 2000000
namespace DL
open PySem PySem.Spec PyProof.Rows L2
section
variable {X : Cx} {E : XK} {pos : Pos}
end
end DL
set_option maxHeartbeats 2000000
/-! ### {k: v for .. in .. if ..}, the keys nested tuples of ints -/
namespace DL
open PySem PySem.Spec PyProof.Rows L2
section
variable {X : Cx}
end
section
variable {X : Cx} {E : XK}
end
end DL
set_option maxHeartbeats 2000000
/-! ### dicts whose keys are texts, locked from the first -/
namespace DL
open PySem PySem.Spec PyProof.Rows L2
section
variable {X : Cx} {E : XK}
end
end DL
set_option maxHeartbeats 2000000
/-! ### < of nested tuples -/
namespace DL
open PySem PySem.Spec PyProof.Rows L2
section
variable {X : Cx} {E : XK}
end
end DL
set_option maxHeartbeats 3200000
/-! ### set(t), t a tuple of tuples of ints -/
namespace DL
open PySem PySem.Spec PyProof.Rows L2
section
variable {P : Program} {w : World} {A : Around} {E : Value → Shared → Prop} {s : Shared}
end
section
variable {X : Cx} {E : XK}
end
end DL
set_option maxHeartbeats 2000000
/-! ### own `in`; methods; a method with *names -/
namespace DL
open PySem PySem.Spec PyProof.Rows L2
structure InF (P : Program) (wd : World) (K : PySem.W.Frag) (mg : Str → Option Value) (base : Heap) (cn : Str) (k : Nat) (C : Ct) : Prop where
  ex : ∃ f fd ps, FnOk P wd K mg base CX0 k f fd ps (spU K 2 C) ∧ Binds K fd ps [] ∧ PySem.W.findIn K (.ref (He.ga K cn)) "__contains__" = some (some (.ref f)) ∧ PySem.W.isFn K (.ref f) = true
section
variable {X : Cx} {E : XK} {pos p apos : Pos} {a b e o : Expr} {es : List Expr} {wa wb w : WE} {cn nm : Str} {C : Ct} {j k m : Nat}
end
/-! ### methods -/
structure MetF (P : Program) (wd : World) (K : PySem.W.Frag) (mg : Str → Option Value) (base : Heap) (cn nm : Str) (m k : Nat) (C : Ct) : Prop where
  ex : ∃ f fd ps, FnOk P wd K mg base (L2.CX P wd) k f fd ps (spU K (m + 1) C) ∧ Binds K fd ps [] ∧ Meth K (He.ga K cn) nm f
/-- a method with *names: the contract speaks of self and of the tuple of the others -/
def spV (K : PySem.W.Frag) (C : Ct) : Sp := fun vs H Q E => ∃ c d ds R x, c.H = H ∧ c.Ok ∧ c.T = TK K ∧ RPL K c vs (d :: ds) ∧ ds.length ≤ sizeLine ∧ C x [d, .tup ds] c.n R ∧ (∀ d c' v, R d c'.n → c'.Ok → Le c c' → RP K c' v d → Q v c'.H) ∧ XW K E x (fun _ => False) c
structure MetV (P : Program) (wd : World) (K : PySem.W.Frag) (mg : Str → Option Value) (base : Heap) (cn nm : Str) (k : Nat) (C : Ct) : Prop where
  ex : ∃ f, FnR P wd K mg base (L2.CX P wd) k f (spV K C) ∧ Meth K (He.ga K cn) nm f
section
variable {X : Cx} {E E' : XK} {pos p apos : Pos} {e o : Expr} {es : List Expr} {w : WE} {wa : WA} {cn nm : Str} {fl : List Str} {C : Ct} {j k m : Nat} {y : Xn → Xn}
end
end DL
set_option maxHeartbeats 2000000
/-! ### enumerate of a tuple; range down; join; targets that are attributes -/
namespace DL
open PySem PySem.Spec PyProof.Rows L2
open AutoSeq1 (wpAny_loadPart')
section
variable {prog : Program} {w : World} {A : Around} {E : Value → Shared → Prop} {s : Shared}
end
section
variable {X : Cx} {E : XK} {pos : Pos}
end
end DL
set_option maxHeartbeats 2000000
namespace DL
open PySem PySem.Spec PyProof.Rows L2
section
variable {X : Cx} {E : XK} {pos : Pos}
end
end DL
set_option maxHeartbeats 2000000
/-! ### the law's land: a dict of texts with a dict of bumps in it -/
namespace DL
open PySem PySem.Spec PyProof.Rows L2
def tk (x : Str) : L2.Key := Sum.inr x
/-- the outer dict -/
def landO (q : Addr) (va vb : V) : Option (V × V) → List (L2.Key × V)
  | none => [(tk "wide", va), (tk "high", vb), (tk "bumps", .ref q)]
  | some (vx, vy) => [(tk "wide", va), (tk "high", vb), (tk "bumps", .ref q), (tk "x", vx), (tk "y", vy)]
def xyR (K : PySem.W.Frag) (dr : Addr) (F : Hp) : Option (V × V) → Option (D × D) → Prop
  | none, none => True
  | some (vx, vy), some (dx, dy) => Rp K dr F vx dx ∧ Rp K dr F vy dy
  | _, _ => False
def landR (q : Addr) (a b : D) (xy : Option (D × D)) (ks : List (List L2.Key)) (ds : List D) (K : PySem.W.Frag) (dr : Addr) (F H : Hp) (p : Addr) : Prop :=
  ∃ va vb vxy us, Rp K dr F va a ∧ Rp K dr F vb b ∧ xyR K dr F vxy xy ∧ RpL K dr F us ds ∧ ks.length = us.length ∧ H q = some (.dT (ks.zip us)) ∧ p ≠ q ∧ H p = some (.dK (landO q va vb vxy))
theorem xyR.mono {K : PySem.W.Frag} {dr : Addr} {F F' : Hp} (h : ∀ a u, F a = some u → F' a = some u) : ∀ {v : Option (V × V)} {d : Option (D × D)}, xyR K dr F v d → xyR K dr F' v d
  | none, none, _ => trivial
  | some (_, _), some (_, _), q => ⟨Rp.mono h _ _ q.1, Rp.mono h _ _ q.2⟩
  | none, some _, q => q.elim
  | some (_, _), none, q => q.elim
theorem landR.mono {q : Addr} {a b : D} {xy : Option (D × D)} {ks : List (List L2.Key)} {ds : List D} {K : PySem.W.Frag} {dr : Addr} {F F' H H' : Hp} {p : Addr} (h : landR q a b xy ks ds K dr F H p) (f : ∀ a u, F a = some u → F' a = some u) (g : ∀ z, z = p ∨ z ∈ [q] → H' z = H z) : landR q a b xy ks ds K dr F' H' p := by
  obtain ⟨va, vb, vxy, us, r1, r2, r3, r4, hl, hq, hne, hp⟩ := h
  exact ⟨va, vb, vxy, us, Rp.mono f _ _ r1, Rp.mono f _ _ r2, r3.mono f, RpL.mono f _ _ r4, hl, by rw [g q (.inr (by simp))]; exact hq, hne, by rw [g p (.inl rfl)]; exact hp⟩
section
variable {X : Cx} {E : XK} {pos : Pos}
end
end DL
namespace DL
open PySem PySem.Spec PyProof.Rows L2
section
variable {X : Cx} {E : XK}
end
end DL
set_option maxHeartbeats 1000000
/-! ### a hook that looks at written addresses: no closure has to be reckoned -/
namespace DL
open PySem PySem.Spec PyProof.Rows L2
theorem saysW_of {as : List Addr} {fa : List He.Fa} {fn : List He.DefD} {tf : List He.Defn} {ex : PySem.W.Frag → Bool} {h : Heap} (e : (He.obsD fa fn (He.frT h.get? as), ex (He.frT h.get? as) && He.tabsB h.get? tf (He.frT h.get? as)) = ((He.valD fn, true) : AlY)) : SaysY fa fn tf ex h (He.frT h.get? as) := by
  have e1 : He.obsD fa fn (He.frT h.get? as) = He.valD fn := congrArg (fun z : AlY => z.1) e
  have e2 : (ex (He.frT h.get? as) && He.tabsB h.get? tf (He.frT h.get? as)) = true := congrArg (fun z : AlY => z.2) e
  obtain ⟨h1, h2⟩ := He.ba e2
  have key : ∀ p ∈ tf, PySem.W.codeHdIn (He.frT h.get? as) (He.cT (He.frT h.get? as) p).1 (He.cT (He.frT h.get? as) p).2 = true ∧ ∃ o, h.get? (He.cT (He.frT h.get? as) p).2 = some o ∧ He.emptyTab o = true := fun p hp => by
    obtain ⟨h3, h4⟩ := He.ba (List.all_eq_true.mp h2 p hp)
    refine ⟨h3, ?_⟩
    cases q : h.get? (He.cT (He.frT h.get? as) p).2 with
    | none =>
      rw [q] at h4
      cases h4
    | some o =>
      rw [q] at h4
      exact ⟨o, rfl, h4⟩
  exact ⟨e1, h1, fun p hp => (key p hp).1, fun p hp => by
    obtain ⟨_, o, q, z⟩ := key p hp
    exact He.frT_none q z, fun p hp => by
    obtain ⟨_, o, q, z⟩ := key p hp
    rw [q, He.emptyTab_eq z]⟩
def obsW (as : List Addr) (fa : List He.Fa) (fn : List He.DefD) (tf : List He.Defn) (ex : PySem.W.Frag → Bool) (gl : List He5.DefA) (g : Addr → Option Obj) : AlZ := ((He.obsD fa fn (He.frT g as), ex (He.frT g as) && He.tabsB g tf (He.frT g as)), He5.obsA [] gl (He.frT g as))
def hookW (as : List Addr) (fa : List He.Fa) (fn : List He.DefD) (tf : List He.Defn) (ex : PySem.W.Frag → Bool) (gl : List He5.DefA) : PySem.W.Hook where
  α := AlZ
  obs := fun s => obsW as fa fn tf ex gl s.heap.get?
  val := fun _ => ((He.valD fn, true), He5.valA gl)
  says := fun _ h => ∃ K : PySem.W.Frag, K.In h ∧ SaysZ fa fn tf ex gl h K
  of := fun _ _ e => ⟨_, He.frT_in, saysW_of (congrArg (fun z : AlZ => z.1) e), congrArg (fun z : AlZ => z.2) e⟩
  keeps := fun _ _ _ ⟨K, hK, c⟩ k => ⟨K, PySem.W.Frag.In.keeps hK k, ⟨⟨c.y.d, c.y.more, c.y.hd, c.y.out, fun p hp => k _ _ (c.y.empty p hp)⟩, c.a⟩⟩
theorem obsW_eq {as : List Addr} {fa : List He.Fa} {fn : List He.DefD} {tf : List He.Defn} {ex : PySem.W.Frag → Bool} {gl : List He5.DefA} {g : Addr → Option Obj} {s : Shared} (h : ∀ a, g a = s.heap.get? a) : obsW as fa fn tf ex gl g = (hookW as fa fn tf ex gl).obs s := by
  have e : g = s.heap.get? := funext h
  rw [e] <;> rfl
end DL
set_option maxHeartbeats 4000000
/-! ### own exceptions over any built-in family (LookupError, RuntimeError, ..) -/
namespace DL
open PySem PySem.Spec PyProof.Rows L2 PySem.Builtin PySem.Builtin.ObjectAttr PySem.HandSPX
structure FamE where
  nm : String
  nw : String
  ini : String
  tl : List Value
structure FamOk (φ : FamE) : Prop where
  b : ExcBaseFacts φ.nm φ.nw φ.ini φ.tl
  p : ∀ u : Value, refuseLoop u "__setattr__" φ.tl = pure ()
  o : φ.tl.contains (.type "object") = true
  n : φ.tl.isEmpty = false
def famLookup : FamE := ⟨"LookupError", "LookupError.__new__", "LookupError.__init__", [.type "LookupError", .type "Exception", .type "BaseException", .type "object"]⟩
theorem famLookup_ok : FamOk famLookup := ⟨PySem.F.excBase_LookupError, PySem.F.store_LookupError.passes, by decide +kernel, rfl⟩
/-- own classes, then the family's own line -/
inductive Und (t : List Value) : List Value → Prop
  | top : Und t t
  | cls (c : Addr) {r : List Value} : Und t r → Und t (.ref c :: r)
def undB (t : List Value) : List Value → Bool
  | .ref c :: r => undB t r || (.ref c :: r == t)
  | l => l == t
theorem undB_ok {t : List Value} : ∀ {l : List Value}, undB t l = true → Und t l
  | .ref c :: r, h => by
    unfold undB at h
    rw [Bool.or_eq_true] at h
    rcases h with h | h
    · exact .cls c (undB_ok h)
    · rw [eq_of_beq h]
      exact .top
  | [], h => by rw [eq_of_beq (show ([] == t) = true from h)]; exact .top
  | .none :: r, h => by rw [eq_of_beq (show (.none :: r == t) = true from h)]; exact .top
  | .ellipsis :: r, h => by rw [eq_of_beq (show (.ellipsis :: r == t) = true from h)]; exact .top
  | .notImplemented :: r, h => by rw [eq_of_beq (show (.notImplemented :: r == t) = true from h)]; exact .top
  | .bool v :: r, h => by rw [eq_of_beq (show (.bool v :: r == t) = true from h)]; exact .top
  | .int v u :: r, h => by rw [eq_of_beq (show (.int v u :: r == t) = true from h)]; exact .top
  | .float v u :: r, h => by rw [eq_of_beq (show (.float v u :: r == t) = true from h)]; exact .top
  | .str v u :: r, h => by rw [eq_of_beq (show (.str v u :: r == t) = true from h)]; exact .top
  | .bytes v u :: r, h => by rw [eq_of_beq (show (.bytes v u :: r == t) = true from h)]; exact .top
  | .type v :: r, h => by rw [eq_of_beq (show (.type v :: r == t) = true from h)]; exact .top
  | .builtin v :: r, h => by rw [eq_of_beq (show (.builtin v :: r == t) = true from h)]; exact .top
theorem Und.pass {φ : FamE} (F : FamOk φ) (u : Value) {l : List Value} (h : Und φ.tl l) : refuseLoop u "__setattr__" l = pure () := by
  induction h with
  | top => exact F.p u
  | cls c _ ih => rw [refuseLoop_ref, ih]
theorem Und.has {t l : List Value} (h : Und t l) (x : String) : l.contains (.type x) = t.contains (.type x) := by
  induction h with
  | top => rfl
  | cls c _ ih =>
    rw [List.contains_cons, ih]
    rfl
theorem Und.some {φ : FamE} (F : FamOk φ) {l : List Value} (h : Und φ.tl l) : l.isEmpty = false := by
  cases h with
  | top => exact F.n
  | cls => rfl
section
variable {φ : FamE} {P : Program} {wd : World} {A : Around} {R : Result → Shared → Prop} {h0 : Heap} {gs : Array GenState} {dn : Drawn} {tt : Nat} {oo : OsState} {K : PySem.W.Frag} {nm : Str} {tk : Tok} {v : Value} {a C d0 : Addr} {fv : Array Value} {cd : ClassData} {m0 : Str → Option Value} {nl : List Str}
/-- the first field -/
theorem set_newF (F : FamOk φ) (hK : K.In h0) (ha : h0.get? a = some { cls := .ref C, data := .fields fv }) (hc : PySem.W.clsIn K C = some cd) (hu : Und φ.tl cd.mro) (hd : cd.hasDict = true) (hf : PySem.W.findIn K (.ref C) nm = some none)
    (k : ∀ h1 t1 dx, (∀ b o, b ≠ a → h0.get? b = some o → h1.get? b = some o) → h0.objs.size ≤ dx → dx ≠ a → h1.get? a = some { cls := .ref C, dict := some dx, data := .fields fv } → h1.Ns1 dx (fun y => if y = nm then some v else none) → R (.ok (.ret .none)) ⟨h1, gs, dn, t1, oo⟩) :
    codeAny (model P wd) A (.call (.builtin "object.__setattr__") ⟨[.ref a, .str nm tk, v], []⟩) R ⟨h0, gs, dn, tt, oo⟩ := by
  have at1 : PySem.W.InstAt h0 a { cls := .ref C, data := .fields fv } C none := ⟨ha, rfl, rfl, trivial⟩
  have so := PySem.F.store_object
  have e1 := hu.some F
  have e2 : cd.mro.contains (.type "object") = true := (hu.has "object").trans F.o
  have nz : a ≠ h0.objs.size := Nat.ne_of_lt (Heap.lt_size ha)
  have is1 : PySem.W.Looks (model P wd) h0 (isInstance (.ref a) (.type "object")) true := at1.type.andThen (PySem.W.looks_mroIn hK (by unfold PySem.W.mroIn; rw [hc, Option.bind_some, if_neg (by rw [e1]; decide), e2]))
  apply codeAny_call_builtin so.slot.plain so.entry
  apply @PySem.W.check_slot (model P wd) _ _ ⟨h0, gs, dn, tt, oo⟩ "object.__setattr__" "object" "__setattr__" (.ref a) [.str nm tk, v] [] _ so.kind so.split is1 (so.args (.ref a) (.str nm tk) v)
  have l1 : PySem.W.Looks (model P wd) h0 (mroOf (.ref C)) cd.mro := (PySem.W.looks_clsIn hK hc).andThen .now
  have l2 : PySem.W.Looks (model P wd) h0 (storeTaker? none) none := .now
  have l3 : PySem.W.Looks (model P wd) h0 (classData C) cd := PySem.W.looks_clsIn hK hc
  rw [PySem.W.osa_eq, refuse_eq]
  apply wpAny_bind; apply wpAny_bind; apply at1.type.at; apply wpAny_bind; apply l1.at
  rw [hu.pass F]
  apply wpAny_pure; apply wpAny_bind; apply at1.type.at; apply wpAny_bind; apply (PySem.W.looks_findIn hK hf).at; apply wpAny_bind; apply l2.at
  show wpAny _ _ (storeInOwnDict (.ref a) (.ref C) (.str nm tk) nm v false) _ _ _
  obtain ⟨z1, z2, z3, z4, z5, z6, z7, z8, z9, z10, z11⟩ := cd
  dsimp only at hd
  subst hd
  unfold storeInOwnDict ownDictForStores
  repeat (first | with_reducible apply store_in_new | with_reducible apply wpAny_loadPart_at ha | with_reducible apply l3.at | wp_step)
  · exact ⟨_, #[], _, (Heap.get?_update_ne _ _ _ _ nz.symm).trans (Heap.get?_push_at rfl rfl), rfl, fun e he => absurd he (by simp), fun _ => rfl⟩
  · intro h1 t1 hn hs
    have hp1 : (h0.push { cls := .type "dict", data := .dict #[] }).get? a = some { cls := .ref C, data := .fields fv } := Heap.get?_push_of_some _ ha
    refine k h1 t1 h0.objs.size (fun b o hb ho => ?_) (Nat.le_refl _) nz.symm ?_ hn
    · exact (hs.2 b (Nat.ne_of_lt (Heap.lt_size ho))).trans ((Heap.get?_update_ne _ _ _ _ hb).trans (Heap.get?_push_of_some _ ho))
    · exact (hs.2 a nz).trans (Heap.get?_update_self _ hp1 rfl)
/-- a further field -/
theorem set_oldF (F : FamOk φ) (hK : K.In h0) (ha : h0.get? a = some { cls := .ref C, dict := some d0, data := .fields fv }) (hns : h0.Ns1 d0 m0) (hw : Within m0 nl) (hz : nl.length ≤ 1000) (hc : PySem.W.clsIn K C = some cd) (hu : Und φ.tl cd.mro) (hd : cd.hasDict = true) (hf : PySem.W.findIn K (.ref C) nm = some none)
    (k : ∀ h1 t1, (∀ b o, b ≠ d0 → h0.get? b = some o → h1.get? b = some o) → h1.Ns1 d0 (fun y => if y = nm then some v else m0 y) → R (.ok (.ret .none)) ⟨h1, gs, dn, t1, oo⟩) :
    codeAny (model P wd) A (.call (.builtin "object.__setattr__") ⟨[.ref a, .str nm tk, v], []⟩) R ⟨h0, gs, dn, tt, oo⟩ := by
  obtain ⟨oD, _, _, hoD, _, _⟩ := hns.count hw
  have at1 : PySem.W.InstAt h0 a { cls := .ref C, dict := some d0, data := .fields fv } C (some oD) := ⟨ha, rfl, rfl, hoD⟩
  have so := PySem.F.store_object
  have e1 := hu.some F
  have e2 : cd.mro.contains (.type "object") = true := (hu.has "object").trans F.o
  have is1 : PySem.W.Looks (model P wd) h0 (isInstance (.ref a) (.type "object")) true := at1.type.andThen (PySem.W.looks_mroIn hK (by unfold PySem.W.mroIn; rw [hc, Option.bind_some, if_neg (by rw [e1]; decide), e2]))
  apply codeAny_call_builtin so.slot.plain so.entry
  apply @PySem.W.check_slot (model P wd) _ _ ⟨h0, gs, dn, tt, oo⟩ "object.__setattr__" "object" "__setattr__" (.ref a) [.str nm tk, v] [] _ so.kind so.split is1 (so.args (.ref a) (.str nm tk) v)
  have l1 : PySem.W.Looks (model P wd) h0 (mroOf (.ref C)) cd.mro := (PySem.W.looks_clsIn hK hc).andThen .now
  have l2 : PySem.W.Looks (model P wd) h0 (storeTaker? none) none := .now
  have l3 : PySem.W.Looks (model P wd) h0 (classData C) cd := PySem.W.looks_clsIn hK hc
  rw [PySem.W.osa_eq, refuse_eq]
  apply wpAny_bind; apply wpAny_bind; apply at1.type.at; apply wpAny_bind; apply l1.at
  rw [hu.pass F]
  apply wpAny_pure; apply wpAny_bind; apply at1.type.at; apply wpAny_bind; apply (PySem.W.looks_findIn hK hf).at; apply wpAny_bind; apply l2.at
  show wpAny _ _ (storeInOwnDict (.ref a) (.ref C) (.str nm tk) nm v false) _ _ _
  obtain ⟨z1, z2, z3, z4, z5, z6, z7, z8, z9, z10, z11⟩ := cd
  dsimp only at hd
  subst hd
  unfold storeInOwnDict ownDictForStores
  repeat (first | with_reducible apply PySem.OEX.store_in_old hns hw hz | with_reducible apply wpAny_loadPart_at ha | with_reducible apply l3.at | wp_step)
  intro h1 t1 hn hs
  exact k h1 t1 (fun b o hb ho => (hs.2 b hb).trans ho) hn
end
end DL
set_option maxHeartbeats 4000000
namespace DL
open PySem PySem.Spec PyProof.Rows L2
/-- an own exception class over a family, off the written part -/
structure OexF (φ : FamE) (K : PySem.W.Frag) (C : Addr) : Prop where
  c : ∃ n1 n2 n3 n4 bm n5 n6 n7 n8 n9 q0 q1 q2 q3 q5, K.lookup C = some (excClassObj n1 n2 C n3 n4 bm true n5 n6 n7 n8 n9 q0 q1 q2 q3 q5 φ.nw) ∧ Und φ.tl bm
  s : PySem.W.findIn K (.ref C) "__setattr__" = some (some (.builtin "object.__setattr__"))
  e : PySem.W.subIn K (.ref C) (.type "BaseException") = some true
  t : PySem.W.typeIn K (.ref C) = some (.type "type")
  k : PySem.W.keepIn K (.ref C) = true
section
variable {φ : FamE} {X : Cx} {pins : List (Addr × Obj)} {σ : L2.St} {H : Hp} {s : Shared} {a C d0 : Addr} {f : Str} {y : V} {u : Value} {fs : List (Str × V)} {Q : Unit → Shared → Prop} {E : Value → Shared → Prop} {A : Around}
theorem put_newF (F : FamOk φ) (T : OexF φ X.K C) (I : Inv X pins σ H s) (e : H a = some (exo a C none)) (hf : PySem.W.findIn X.K (.ref C) f = some none) (ry : RelV y u)
    (k : ∀ d1 s', H d1 = none → d1 ≠ a → Inv X pins σ (upd (upd H d1 (exd d1 [(f, y)])) a (exo a C (some d1))) s' → Q () s') : wpAny (model X.prog X.w) A (setAttr (.ref a) f u) Q E s := by
  obtain ⟨n1, n2, n3, n4, bm, n5, n6, n7, n8, n9, q0, q1, q2, q3, q5, hC, hu⟩ := T.c
  have hc : PySem.W.clsIn X.K C = some { name := n1, bases := n4, mro := .ref C :: bm, ns := n3, qualname := n2, hasDict := true, slotNames := n5, subclasses := n6, abstract := n7, collection := n8, hasDel := false } := by unfold PySem.W.clsIn; rw [hC] <;> rfl
  obtain ⟨t1, ho⟩ := exo_at I.hok e
  obtain ⟨h0, g, d, t, os⟩ := s
  apply PySem.W.set_plain I.kIn (ox := { cls := .ref C, dict := none, data := .fields #[.ref t1, .none, .none, .none, .bool false, .none] }) (od := none) ⟨ho, rfl, rfl, trivial⟩ T.s
  refine set_newF F I.kIn ho hc (.cls C hu) rfl hf (fun h1 t2 d1 kp dn dne hx hn => ?_)
  have z1 : H d1 = none := I.hok.fresh dn
  have z2 : ∀ {b : Addr} {o : Obj}, h0.get? b = some o → b ≠ d1 := fun {b o} q => Nat.ne_of_lt (Nat.lt_of_lt_of_le (Heap.lt_size q) dn)
  have z3 : ∀ {b : Addr}, H b = none → b ≠ a := fun {b} n z => by
    rw [z, e] at n
    cases n
  have un : Un X.fs [] H (upd (upd H d1 (exd d1 [(f, y)])) a (exo a C (some d1))) h0 h1 := {
    keep := fun b o q n _ _ => kp b o (z3 n) q
    slot := fun b o q n _ _ => ⟨o.slots, kp b o (z3 n) q⟩
    free := fun b o q n _ => by rw [upd_ne (z3 n), upd_ne (z2 q)]; exact n
    there := fun b o q _ => by
      by_cases hb : b = a
      · exact ⟨_, by rw [hb]; exact hx⟩
      · exact ⟨o, kp b o hb q⟩
    tups := fun b xs q => by rw [upd_ne (at_ne e q exo_tup), upd_ne (ne_of_none q z1)]; exact q
    frzs := fun b o v q => by rw [upd_ne (at_ne e q exo_frz), upd_ne (ne_of_none q z1)]; exact q
    tbls := fun b ps q => ⟨#[], by rw [upd_ne (at_ne e q exo_tbl), upd_ne (ne_of_none q z1), q]; simp⟩ }
  apply k d1 _ z1 dne
  refine I.un (t' := t2) un fun b o q => ?_
  by_cases hb : b = a
  · subst hb
    rw [upd_same] at q
    cases q
    exact exo_ok hx
  rw [upd_ne hb] at q
  by_cases hd : b = d1
  · subst hd
    rw [upd_same] at q
    cases q
    exact exd_ok hn (relO_put (fs := []) ry fun g => True.intro)
  rw [upd_ne hd] at q
  refine (I.hok b o q).stay (fun c v hc z => kp c v ?_ z) (fun c hc => ?_) (fun c xs hc => ?_)
  · rcases hc with hc | hc
    · rw [hc]
      exact hb
    · exact at_ne e hc exo_own
  · rw [upd_ne (at_ne e hc exo_own), upd_ne (ne_of_none hc z1)]
    exact hc
  · rw [upd_ne (at_ne e hc exo_tup), upd_ne (ne_of_none hc z1)]
    exact hc
theorem put_oldF (F : FamOk φ) (T : OexF φ X.K C) (I : Inv X pins σ H s) (e : H a = some (exo a C (some d0))) (ed : H d0 = some (exd d0 fs)) (hl : fs.length ≤ 900) (hf : PySem.W.findIn X.K (.ref C) f = some none) (ry : RelV y u)
    (k : ∀ s', Inv X pins σ (upd H d0 (exd d0 ((f, y) :: fs))) s' → Q () s') : wpAny (model X.prog X.w) A (setAttr (.ref a) f u) Q E s := by
  obtain ⟨n1, n2, n3, n4, bm, n5, n6, n7, n8, n9, q0, q1, q2, q3, q5, hC, hu⟩ := T.c
  have hc : PySem.W.clsIn X.K C = some { name := n1, bases := n4, mro := .ref C :: bm, ns := n3, qualname := n2, hasDict := true, slotNames := n5, subclasses := n6, abstract := n7, collection := n8, hasDel := false } := by unfold PySem.W.clsIn; rw [hC] <;> rfl
  obtain ⟨t1, ho⟩ := exo_at I.hok e
  obtain ⟨mA, hns, rel⟩ := exd_at I.hok ed
  obtain ⟨h0, g, d, t, os⟩ := s
  obtain ⟨oD, _, _, hoD, _, _⟩ := hns.count (within_of rel)
  apply PySem.W.set_plain I.kIn (ox := { cls := .ref C, dict := some d0, data := .fields #[.ref t1, .none, .none, .none, .bool false, .none] }) (od := some oD) ⟨ho, rfl, rfl, hoD⟩ T.s
  refine set_oldF F I.kIn ho hns (within_of rel) (by rw [List.length_map]; omega) hc (.cls C hu) rfl hf (fun h1 t2 kp hn => ?_)
  have there : ∃ o, h1.get? d0 = some o := by
    obtain ⟨o, _, _, e', _⟩ := hn
    exact ⟨o, e'⟩
  exact k _ (I.write (t' := t2) (x := d0) (e := d0) (o := exd d0 ((f, y) :: fs)) (by rw [ed]; exact True.intro) (.inl rfl) kp there (exd_ok hn (relO_put ry rel)))
/-- the family's own __init__: nothing of it is told -/
theorem init_okF {us : List Value} {Q : Value → Shared → Prop} (F : FamOk φ) (T : OexF φ X.K C) (I : Inv X pins σ H s) (e : H a = some (exo a C none)) (hl : us.length ≤ sizeLine) (k : ∀ s', Inv X pins σ H s' → Q .none s') :
    wpAny (model X.prog X.w) A (call (.builtin φ.ini) (.ref a :: us)) Q E s := by
  obtain ⟨n1, n2, n3, n4, bm, n5, n6, n7, n8, n9, q0, q1, q2, q3, q5, hC, hu⟩ := T.c
  obtain ⟨t1, ho⟩ := exo_at I.hok e
  obtain ⟨h0, g, d, t, os⟩ := s
  apply wpAny_call
  refine PySem.HandSPX.init_base F.b (fun Y => hu.has Y) (I.kIn _ _ hC) ho hl fun h1 t2 kp hx => ?_
  have J := I.write (t' := t) (x := a) (e := a) (o := exo a C none) (by rw [e]; exact True.intro) (.inl rfl) kp ⟨_, hx⟩ (exo_ok hx)
  rw [show upd H a (exo a C none) = H from funext fun b => by
    by_cases hb : b = a
    · rw [hb, upd_same, e]
    · rw [upd_ne hb]] at J
  exact k _ J
end
end DL
set_option maxHeartbeats 4000000
/-! ### own exceptions over LookupError: readings -/
namespace DL
open PySem PySem.Spec PyProof.Rows L2
abbrev OexL (K : PySem.W.Frag) (C : Addr) : Prop := OexF famLookup K C
/-- the family's own class, without an __init__ of its own -/
structure ExBL (K : PySem.W.Frag) (CS : Addr) : Prop where
  ga : PySem.W.specialIn K (.ref CS) "__getattribute__" = some (some (.builtin "type.__getattribute__"))
  rd : ∃ mc, PySem.W.typeIn K (.ref CS) = some mc ∧ PySem.W.readsIn K CS mc = true ∧ PySem.W.findCls K (.ref CS) mc "__init__" = some (.val (.builtin "LookupError.__init__"))
section
variable {X : Cx} {e o : Expr} {es : List Expr} {ta : TA} {to te : TE} {f : Str} {p p1 p2 p' pos : Pos}
end
end DL
set_option maxHeartbeats 4000000
namespace DL
open PySem PySem.Spec PyProof.Rows L2
section
variable {X : Cx} {e : Expr} {es : List Expr} {ta : TA} {p pos : Pos}
end
section
variable {X : Cx} {E : XK}
end
end DL
set_option maxHeartbeats 4000000
/-! ### own exception classes over LookupError, read off the written part -/
namespace DL
open PySem PySem.Spec PyProof.Rows L2
structure ExcXL (K : PySem.W.Frag) (cn : Str) (fl : List Str) : Prop where
  o : OexL K (He.ga K cn)
  q : ExQ K (He.ga K cn)
  i : PySem.W.findIn K (.ref (He.ga K cn)) "__init__" = some (some (.ref (He.ma K (He.ga K cn) "__init__")))
  t : PySem.W.typeIn K (.ref (He.ma K (He.ga K cn) "__init__")) = some (.type "function")
  n : ∀ f, f ∈ fl → PySem.W.findIn K (.ref (He.ga K cn)) f = some none
end DL
set_option maxHeartbeats 4000000
/-! ### 'except A as e' alone, the exception kept -/
namespace DL
open PySem PySem.Spec PyProof.Rows L2
section
variable {X : Cx}
end
end DL
set_option maxHeartbeats 2000000
/-! ### {} as a thing, compared; an own len; an own [ ] -/
namespace DL
open PySem PySem.Spec PyProof.Rows L2
abbrev d0 : D := .dct [] []
def tD0 : TE := fun _ H Q => ∀ p, H p = none → Q (.ref p) (upd H p (.dT []))
section
variable {X : Cx} {E : XK} {pos p : Pos}
theorem pe_d0 : PE X (.Dict [] [] pos) tD0 := ⟨fun pins s σ H Q I h => by
  have hb := I.big
  exact wpAny_Dict_empty ⟨.ref s.heap.objs.size, _, I.laid (a := s.heap.objs.size) (o := .dT []) (t' := s.toks) (fun _ _ q => Heap.get?_push_of_some _ q) (Nat.le_refl _)
    ⟨Nat.zero_le _, beq_eq_false_iff_ne.mpr (Ne.symm (Nat.ne_of_lt hb)), [], .nil, _, #[], 0, Heap.get?_push_size _ rfl, ⟨rfl, rfl, rfl⟩, rfl, rfl, List.nodup_nil⟩, rfl, h _ (I.hok.fresh (Nat.le_refl _))⟩⟩
theorem q_d0 : PE X (.Dict [] [] pos) (up X.K E (eC d0)) := pe_to pe_d0 fun σ H Q q => by
  obtain ⟨c, η, R, x, rfl, ok, en, hw, hr, hx⟩ := q
  intro a ha
  obtain ⟨ok1, l1⟩ := ok.newF (o := .dT []) ha
  exact hr d0 ⟨c.dr, upd c.F a (.dT []), upd c.H a (.dT []), c.n, c.T⟩ (.ref a) hw ok1 l1 (Rp.dct (ks := []) (vs := []) upd_same rfl .nil)
end
end DL
set_option maxHeartbeats 2000000
/-! ### a lambda and a second argument handed to a def; the law's 'is lost' -/
namespace DL
open PySem PySem.Spec PyProof.Rows L2
section
variable {X : Cx} {pins : List (Addr × Obj)} {σ : L2.St} {H HZ : Hp} {s s1 : Shared}
end
section
variable {X : Cx}
end
end DL
set_option maxHeartbeats 2000000
namespace DL
open PySem PySem.Spec PyProof.Rows L2
section
variable {X : Cx} {E : XK} {p p2 lpos pos : Pos} {params : Arguments} {body e2 : Expr} {scope : Scope} {k : Nat} {w : WE} {cn f : Str} {gl : List Sl → (D → Prop) → Prop} {gv : L2.St → V → Prop} {t2 : TE}
end
end DL
set_option maxHeartbeats 2000000
/-! ### a list's count; methods called by names -/
namespace DL
open PySem PySem.Spec PyProof.Rows L2
section
variable {X : Cx} {E E' : XK}
structure MetK (P : Program) (wd : World) (K : PySem.W.Frag) (mg : Str → Option Value) (base : Heap) (cn nm : Str) (m k : Nat) (C : Ct) (ks : List Str) (pm : List Nat) : Prop where
  ex : ∃ f fd ps, FnOk P wd K mg base (L2.CX P wd) k f fd ps (spU K (m + 1) C) ∧ KBn K fd ps 1 ks (gP .none (0 :: pm.map (· + 1))) (gP .non (0 :: pm.map (· + 1))) ∧ Meth K (He.ga K cn) nm f
end
end DL
set_option maxHeartbeats 4000000
/-! ### said: any exceptions with their fields, any last return -/
namespace DL
open PySem PySem.Spec PyProof.Rows L2
abbrev CaseL := List (Addr × Str × List Str)
inductive HitsG (K : PySem.W.Frag) (D : Addr) : CaseL → Str → List Str → Prop
  | hit {C : Addr} {z : Str} {fs : List Str} {r : CaseL} (h : PySem.W.kitOne K (.ref D) (.ref C) = some true) : HitsG K D ((C, z, fs) :: r) z fs
  | miss {C : Addr} {z z' : Str} {fs fs' : List Str} {r : CaseL} (h : PySem.W.kitOne K (.ref D) (.ref C) = some false) (t : HitsG K D r z fs) : HitsG K D ((C, z', fs') :: r) z fs
/-- the fields, one by one -/
inductive LkL (K : PySem.W.Frag) (D : Addr) (fd : List (Str × V)) : List Str → List V → Prop
  | nil : LkL K D fd [] []
  | cons {f : Str} {fs : List Str} {y : V} {ys : List V} (h : PySem.W.findIn K (.ref D) f = some none) (e : fd.lookup f = some y) (t : LkL K D fd fs ys) : LkL K D fd (f :: fs) (y :: ys)
theorem LkL.len {K : PySem.W.Frag} {D : Addr} {fd : List (Str × V)} {fs : List Str} {ys : List V} (h : LkL K D fd fs ys) : ys.length = fs.length := by
  induction h with
  | nil => rfl
  | cons _ _ _ ih => rw [List.length_cons, List.length_cons, ih]
section
variable {X : Cx}
end
section
variable {X : Cx} {E : XK} {p lpos pos : Pos} {params : Arguments} {body : Expr} {scope : Scope} {k kk : Nat} {w : WE} {cs : List Value} {l : CaseL} {tag : Str → Option (Str × List Str)} {wf : WS}
end
/-! read off the written part -/
end DL
set_option maxHeartbeats 2000000
/-! ### x + e, x an instance with its own method, e of a built-in type -/
namespace PySem.W
open PySem PySem.Calls PyProof.Rows Builtin
section
variable {prog : Program} {w : World} {A : Around} {E : Value → Shared → Prop} {s : Shared} {K : Frag} {x C L f r : Addr} {h₀ : Heap} {m : Str → Option Value} {ox : Obj} {od : Option Obj}
end
end PySem.W
namespace DL
open PySem PySem.Spec PyProof.Rows L2
/-- what of the text an own + asks -/
structure AddK (K : PySem.W.Frag) (C f : Addr) : Prop where
  o : OpK K C f "add"
  rt : PySem.W.findIn K (.ref C) (dunderR "add") = some none
section
variable {X : Cx} {E E' : XK} {CX : CXT} {pos : Pos} {a b : Expr} {wa wb : WE} {cn : Str} {C : Ct} {j k : Nat} {y : Xn → Xn}
structure AddF (P : Program) (wd : World) (K : PySem.W.Frag) (mg : Str → Option Value) (base : Heap) (cn : Str) (k : Nat) (C : Ct) : Prop where
  ex : ∃ f fd ps, FnOk P wd K mg base (L2.CX P wd) k f fd ps (spU K 2 C) ∧ Binds K fd ps [] ∧ AddK K (He.ga K cn) f
end
end DL
set_option maxHeartbeats 2000000
/-! ### an own len; an own [ ] -/
namespace DL
open PySem PySem.Spec PyProof.Rows L2
section
variable {X : Cx} {E : XK} {pos p : Pos}
/-- len(x), x an instance with its own -/
structure LenF (P : Program) (wd : World) (K : PySem.W.Frag) (mg : Str → Option Value) (base : Heap) (cn : Str) (k : Nat) (C : Ct) : Prop where
  ex : ∃ f fd ps, FnOk P wd K mg base CX0 k f fd ps (spU K 1 C) ∧ Binds K fd ps [] ∧ PySem.W.findIn K (.ref (He.ga K cn)) "__len__" = some (some (.ref f)) ∧ PySem.W.isFn K (.ref f) = true
/-- x[e], x an instance with its own -/
structure GetF (P : Program) (wd : World) (K : PySem.W.Frag) (mg : Str → Option Value) (base : Heap) (cn : Str) (k : Nat) (C : Ct) : Prop where
  ex : ∃ f fd ps, FnOk P wd K mg base (L2.CX P wd) k f fd ps (spU K 2 C) ∧ Binds K fd ps [] ∧ PySem.W.findIn K (.ref (He.ga K cn)) "__getitem__" = some (some (.ref f)) ∧ PySem.W.fnIn K f = true ∧ PySem.W.isFn K (.ref f) = true
end
end DL
set_option maxHeartbeats 2000000
/-! ### own == against a tuple -/
namespace DL
open PySem PySem.Spec PyProof.Rows L2
section
variable {X : Cx} {E : XK} {pos p : Pos} {a b : Expr} {wa wb : WE} {cn : Str} {C : Ct} {j k : Nat}
end
end DL
set_option maxHeartbeats 2000000
/-! ### != of equal lists whose things are plain, or {} -/
namespace DL
open PySem PySem.Spec PyProof.Rows L2
section
variable {X : Cx} {pins : List (Addr × Obj)} {σ : L2.St} {H : Hp} {s : Shared}
/-- things that are equal: plain, or {} -/
def eqI (d e : D) : Prop := (Lay d ∧ Lay e ∧ deq d e = true) ∨ (d = d0 ∧ e = d0)
inductive eqIs : List D → List D → Prop
  | nil : eqIs [] []
  | cons {d e : D} {ds es : List D} : eqI d e → eqIs ds es → eqIs (d :: ds) (e :: es)
end
end DL
set_option maxHeartbeats 2000000
/-! ### an own exception class called with keywords -/
namespace DL
open PySem PySem.Spec PySem.HandSPX
section
variable {M : Model} {A : Around} {E : Value → Shared → Prop} {h : Heap} {g : Array GenState} {d : Drawn} {t : Nat} {os : OsState}
variable {nm q : Str} {C N : Addr} {bs bm bmB : List Value} {hdct : Bool} {sn : List Str} {sub : List Value} {ab : Bool} {col : Option Bool} {dd : Option Addr} {k0 k1 k2 k3 k5 : Option Value} {B newId initId : String}
theorem check_new_kw (F : ExcBaseFacts B newId initId bmB) (hT : ∀ X : String, bm.contains (.type X) = bmB.contains (.type X)) {rest : List Value} {kw : List (Str × Value)} {Q : Unit → Shared → Prop}
    (hC : h.get? C = some (excClassObj nm q C N bs bm hdct sn sub ab col dd k0 k1 k2 k3 k5 newId)) (hq : Q () ⟨h, g, d, t, os⟩) : wpAny M A (checkBuiltinCall newId ⟨.ref C :: rest, kw⟩) Q E ⟨h, g, d, t, os⟩ := by
  have hcont : (Value.ref C :: bm).contains (.type B) = true := by rw [List.contains_cons, hT, F.hasB, Bool.or_true]
  have hstar := F.noStar
  have hks : ∀ (f sh full short : String) (r : Manifest.Receiver) (n : Nat) (ks : List Str), Bind.check ⟨.any, f, sh, r, [⟨"args", .varPos, false⟩, ⟨"kwargs", .varKw, false⟩]⟩ full short n ks = pure () := by
    intro f sh full short r n ks
    simp [Bind.check, Bind.checkCount, Bind.isPositional]
  simp only [checkBuiltinCall, F.newKind, F.newSplit, F.newRow]
  repeat (first | refine wpAny_loadPart_at hC ?_ | (refine wpAny_isSubtype_exc hC ?_; rw [hcont]) | refine wpAny_staticBase_exc hC ?_ | refine wpAny_madeBy_exc hC ?_ | simp only [bne_self_eq_false, Bool.false_eq_true, if_false] | (rw [hks]) | wp_step)
  exact hq
end
section
variable {prog : Program} {w : World} {A : Around} {E : Value → Shared → Prop} {R : Result → Shared → Prop} {h : Heap} {g : Array GenState} {d : Drawn} {t : Nat} {os : OsState}
variable {nm q : Str} {C N : Addr} {bs bm bmB : List Value} {hdct : Bool} {sn : List Str} {sub : List Value} {ab : Bool} {col : Option Bool} {dd : Option Addr} {k0 k1 k2 k3 k5 : Option Value} {B newId initId : String}
theorem new_kw (F : ExcBaseFacts B newId initId bmB) (hT : ∀ X : String, bm.contains (.type X) = bmB.contains (.type X)) {rest : List Value} {kw : List (Str × Value)}
    (hC : h.get? C = some (excClassObj nm q C N bs bm hdct sn sub ab col dd k0 k1 k2 k3 k5 newId))
    (hq : R (.ok (.ret (.ref (h.objs.size + 1)))) ⟨(h.push (W.kdv_tup rest)).push (excO C h.objs.size), g, d, t, os⟩) (hz : rest.length ≤ sizeLine) :
    codeAny (model prog w) A (.builtin newId ⟨.ref C :: rest, kw⟩) R ⟨h, g, d, t, os⟩ := by
  have e1 := F.ends
  have r1 : (Value.ref C :: bm).contains (.type B) = true := by rw [List.contains_cons, hT, F.hasB, Bool.or_true]
  have r2 : (Value.ref C :: bm).contains (.type "AttributeError") = false := by rw [List.contains_cons, hT, F.noAttr]; rfl
  have r3 : (Value.ref C :: bm).contains (.type "NameError") = false := by rw [List.contains_cons, hT, F.noName]; rfl
  refine codeAny_builtinAt F.entry ?_
  unfold Builtin.«BaseException.__new__»
  refine wpAt_bind ?_
  show wpAt _ _ _ (stack >>= _) _ _ _
  refine wpAt_bind (wpAt_stack fun p below => wpAt_of_wpAny ?_)
  wp_walk
  refine wpAt_of_wpAny ?_
  rw [F.owner]
  repeat (first | with_reducible refine wpAny_madeHere_exc F.canon hC ?_ | with_reducible refine wpAny_loadPart_at hC ?_ | (with_reducible refine wpAny_isSubtype_exc hC ?_; first | rw [r1] | rw [r2] | rw [r3]) | wp_step)
  show R _ _
  rw [Heap.size_push]
  exact hq
theorem type_kw (F : ExcBaseFacts B newId initId bmB) (hT : ∀ X : String, bm.contains (.type X) = bmB.contains (.type X)) {rest : List Value} {kw : List (Str × Value)} {fI : Addr} {Q : Fin → Shared → Prop}
    (hC : h.get? C = some (excClassObj nm q C N bs bm hdct sn sub ab col dd k0 k1 k2 k3 k5 newId))
    (hi : W.Looks (model prog w) h (typeLookup (.ref C) "__init__") (some (.ref fI))) (hb : ∀ self, W.Looks (model prog w) h (bindSpecial (.ref fI) self) (.ref fI, [self])) (hz : rest.length ≤ sizeLine)
    (hq : codeAny (model prog w) A (.call (.ref fI) ⟨.ref (h.objs.size + 1) :: rest, kw⟩)
      (fun r s' => match r with | .ok (.ret v) => v = .none ∧ Q (.done (.ret (.ref (h.objs.size + 1)))) s' | .ok _ => False | .error e => E e s')
      ⟨(h.push (W.kdv_tup rest)).push (excO C h.objs.size), g, d, t, os⟩) :
    wpAny (model prog w) A (Builtin.«type.__call__» ⟨.ref C :: rest, kw⟩) Q E ⟨h, g, d, t, os⟩ := by
  repeat (first | with_reducible refine wpAny_loadPart_at hC ?_ | with_reducible refine wpAny_madeBy_exc hC ?_ | wp_step)
  refine codeAny_call_builtin_code (Code.quiet_builtin _ F.quiet) (check_new_kw F hT hC ?_)
  refine new_kw F hT hC ?_ hz
  show wpAny _ _ _ _ _ _
  have k : ∀ b o, h.get? b = some o → ((h.push (W.kdv_tup rest)).push (excO C h.objs.size)).get? b = some o := fun b o e => Heap.get?_push_of_some _ (Heap.get?_push_of_some _ e)
  have c1 := k _ _ hC
  have g1 : ((h.push (W.kdv_tup rest)).push (excO C h.objs.size)).get? (h.objs.size + 1) = some (excO C h.objs.size) := by heap_get
  have cc : (Value.ref C :: bm).contains (.ref C) = true := by simp
  have i1 := hi.keeps k
  have b1 := (hb (.ref (h.objs.size + 1))).keeps k
  unfold isInstance
  repeat (first | with_reducible refine wpAny_loadPart_at g1 ?_ | (with_reducible refine wpAny_isSubtype_exc c1 ?_; rw [cc]) | wp_step)
  show wpAny _ _ (typeLookup (.ref C) _) _ _ _
  refine i1.at ?_
  refine wpAny_holding (wpAny_bind (b1.at ?_))
  refine wpAny_bind (wpAny_call (codeAny_mono hq fun r s' z => ?_))
  rcases r with e | (v | _ | _ | _) <;> first | exact z | exact z.elim | skip
  obtain ⟨rfl, z⟩ := z
  first
    | exact wpAny_pure (wpAny_pure z)
    | (wp_walk; exact z)
theorem call_kw (F : ExcBaseFacts B newId initId bmB) (hT : ∀ X : String, bm.contains (.type X) = bmB.contains (.type X)) {rest : List Value} {kw : List (Str × Value)} {fI : Addr}
    (hC : h.get? C = some (excClassObj nm q C N bs bm hdct sn sub ab col dd k0 k1 k2 k3 k5 newId))
    (hi : W.Looks (model prog w) h (typeLookup (.ref C) "__init__") (some (.ref fI))) (hb : ∀ self, W.Looks (model prog w) h (bindSpecial (.ref fI) self) (.ref fI, [self])) (hz : rest.length ≤ sizeLine)
    (hq : codeAny (model prog w) (A.under (.builtin "type.__call__" ⟨.ref C :: rest, kw⟩)) (.call (.ref fI) ⟨.ref (h.objs.size + 1) :: rest, kw⟩) (W.InitBack (h.objs.size + 1) R)
      ⟨(h.push (W.kdv_tup rest)).push (excO C h.objs.size), g, d, t, os⟩) :
    codeAny (model prog w) A (.call (.ref C) ⟨rest, kw⟩) R ⟨h, g, d, t, os⟩ := by
  have f1 := tc_lookup
  have f2 := tc_bind (.ref C)
  have hTy : (⟨h, g, d, t, os⟩ : Shared).TypeIs (.ref C) "type" := ⟨_, hC, rfl⟩
  refine codeAny_of_tree ?_
  show wpAny _ _ (callAny (.ref C) _) _ _ _
  repeat (any_goals (first | assumption | with_reducible refine wpAny_loadPart_at hC ?_ | wp_step))
  refine ⟨rfl, ?_⟩
  refine codeAny_call_builtin_at (Code.quiet_builtin _ (by decide +kernel)) entry_typeCall (wpAny_check_type_call_sub hC (type_kw F hT hC hi hb hz ?_))
  refine codeAny_mono hq fun r s' z => ?_
  rcases r with e | (v | _ | _ | _) <;> exact z
end
end DL
set_option maxHeartbeats 4000000
/-! ### own exceptions over any family: readings -/
namespace DL
open PySem PySem.Spec PyProof.Rows L2
/-- a family whose own __init__ may be handed out -/
structure FamI (φ : FamE) : Prop extends FamOk φ where
  h : PySem.W.handedIn (.builtin φ.ini) = true
/-- the family's own class, without an __init__ of its own -/
structure ExBF (φ : FamE) (K : PySem.W.Frag) (CS : Addr) : Prop where
  ga : PySem.W.specialIn K (.ref CS) "__getattribute__" = some (some (.builtin "type.__getattribute__"))
  rd : ∃ mc, PySem.W.typeIn K (.ref CS) = some mc ∧ PySem.W.readsIn K CS mc = true ∧ PySem.W.findCls K (.ref CS) mc "__init__" = some (.val (.builtin φ.ini))
def tIniF (φ : FamE) (K : PySem.W.Frag) (ta : TA) : TE := fun σ H Q => ta σ H fun vs H1 => ∃ (a C : Addr) (ws : List V), vs = .ref a :: ws ∧ ws.length ≤ 1000 ∧ OexF φ K C ∧ H1 a = some (exo a C none) ∧ Q .non H1
def tOstF (φ : FamE) (K : PySem.W.Frag) (f : Str) (to te : TE) : TS := fun D σ H => te σ H fun y H1 => to σ H1 fun x H2 => ∃ a C : Addr, x = .ref a ∧ OexF φ K C ∧ PySem.W.findIn K (.ref C) f = some none ∧
  ((H2 a = some (exo a C none) ∧ ∀ d1, H2 d1 = none → d1 ≠ a → D.nx σ (upd (upd H2 d1 (exd d1 [(f, y)])) a (exo a C (some d1)))) ∨
    ∃ (d1 : Addr) (fs : List (Str × V)), H2 a = some (exo a C (some d1)) ∧ H2 d1 = some (exd d1 fs) ∧ fs.length ≤ 900 ∧ D.nx σ (upd H2 d1 (exd d1 ((f, y) :: fs))))
section
variable {φ : FamE} {X : Cx} {e o : Expr} {es : List Expr} {ta : TA} {to te : TE} {f : Str} {p p1 p2 p' pos : Pos}
/-- Base.__init__(self, ..) -/
theorem pe_iniF {x : Str} {CS : Addr} {pl : Sem Bool} (Φ : FamI φ) (B : ExBF φ X.K CS) (hg : Gl X x) (hm : X.mg x = some (.ref CS)) (ha : PA X (e :: es) ta)
    (hc : eval (.Call (.Attribute (.Name x p1) "__init__" p2) (e :: es) [] pos) X.env = (do
      let ov ← eval (.Name x p1) X.env
      standAt p2.atName
      let (f, first) ← holding [ov] (getMethod ov "__init__" pl)
      callWith pos f first (backTo pos (starEach (e :: es) X.env)) (backToKw pos (keywordEach [] X.env))) := by rfl)
    (hdb : (x == ("__debug__" : Str)) = false := by decide) (he : starEach (e :: es) X.env = (false, eval e X.env) :: starEach es X.env := by rfl) (hpl : (backTo pos (starEach es X.env)).any (·.1) = false := by rfl) :
    PE X (.Call (.Attribute (.Name x p1) "__init__" p2) (e :: es) [] pos) (tIniF φ X.K ta) := by
  obtain ⟨mc, m1, m2, m3⟩ := B.rd
  refine ⟨fun pins s σ H Q I h => ?_⟩
  apply PySem.W.methodCall_KW (ld_glob I hg hm ?_ hdb) hc
  obtain ⟨m, fr⟩ := I.fr
  apply PySem.W.method_of_cls fr I.ok.mod.kin B.ga
  apply PySem.W.cls_val fr I.ok.mod.kin m1 m2 m3 Φ.h
  show wpAny _ _ (callWith pos (Value.builtin φ.ini) [] (backTo pos (starEach (e :: es) X.env)) []) _ _ _
  apply PyProof.Rows.callWith_method1 (thn (ha.run pos pins _ σ H _ (I.tok _) h) fun us s1 z => ?_) he hpl
  obtain ⟨vs, H1, I1, r1, a, C, ws, ev, hl, T, ea, q⟩ := z
  subst ev
  match us, r1 with
  | u0 :: ur, .cons ra rs =>
    obtain rfl : u0 = Value.ref a := ra
    apply init_okF Φ.toFamOk T I1 ea
    · rw [← Paired.length rs, sizeLine_eq]
      omega
    · intro s' J
      exact ⟨.non, H1, J, rfl, q⟩
theorem ps_ostF (Φ : FamI φ) (ho : PE X o to) (he : PE X e te) (hs : swapsWith e (some (.Attribute o f p')) pos.line X.env = pure false := by rfl) : PS X (.Assign [.Attribute o f p'] e pos) (tOstF φ X.K f to te) := by
  constructor
  intro pins s σ H D I h
  apply plainObj_wpAny_Assign_Attribute (thn (he.run pins s σ H _ I h) fun v s1 z1 => ?_) hs
  obtain ⟨y, H1, I1, r1, q1⟩ := z1
  apply thn (ho.run pins s1 σ H1 _ I1 q1)
  intro u s2 z2
  obtain ⟨x, H2, I2, r2, a, C, ex, T, hno, q⟩ := z2
  subst ex
  obtain rfl : u = Value.ref a := r2
  rcases q with ⟨ea, q⟩ | ⟨d1, fs, ea, ed, hl, q⟩
  · exact put_newF Φ.toFamOk T I2 ea hno r1 fun d1 s' n ne J => ⟨σ, _, J, q d1 n ne⟩
  · exact put_oldF Φ.toFamOk T I2 ea ed hl hno r1 fun s' J => ⟨σ, _, J, q⟩
end
/-- what an __init__ asks of its values -/
abbrev CdX := PySem.W.Frag → Hp → List V → Prop
/-- an exception's __init__ of the fields fl -/
def spXF (φ : FamE) (K : PySem.W.Frag) (cd : CdX) (fl : List Str) : Sp := fun vs H Q _ => ∃ (a C : Addr) (ws : List V), vs = .ref a :: ws ∧ ws.length = fl.length ∧ OexF φ K C ∧ (∀ f, f ∈ fl → PySem.W.findIn K (.ref C) f = some none) ∧ H a = some (exo a C none) ∧ cd K H ws ∧
  ∀ dx, H dx = none → dx ≠ a → ∀ H', (∀ b, b ≠ a → b ≠ dx → H' b = H b) → H' a = some (exo a C (some dx)) → H' dx = some (exd dx (fl.zip ws).reverse) → Q .non H'
theorem spXF_len {φ : FamE} {K : PySem.W.Frag} {cd : CdX} {fl : List Str} {E : XK} {vs : List V} {H : Hp} {Q : VK} (h : spXF φ K cd fl vs H Q E) : vs.length = fl.length + 1 := by
  obtain ⟨a, C, ws, rfl, hl, _⟩ := h
  simp [hl]
section
variable {φ : FamE} {X : Cx} {e : Expr} {es : List Expr} {ta : TA} {p pos : Pos}
end
end DL
set_option maxHeartbeats 4000000
/-! ### exceptions as things: made by places and by names -/
namespace DL
open PySem PySem.Spec PyProof.Rows L2
theorem g_under {A : Around} {xs : Args} (h : A.guards = some []) : (A.under (.builtin "type.__call__" xs)).guards = some [] := by
  have e : Code.isGuard (.builtin "type.__call__" xs) = false := rfl
  simp [Around.under, Code.guards, e, pushGuards, h]
section
variable {φ : FamE} {X : Cx} {pins : List (Addr × Obj)} {σ : L2.St} {H : Hp} {s : Shared} {C fI : Addr} {k : Nat} {fd : FuncData} {ps : List Str} {sp : Sp} {Q : XK} {QV : VK}
theorem ep_of_mk {u : Value} {s' : Shared} (h : MkP X pins σ (fun cls d H' => ∀ a, H' a = none → QV (.ref a) (upd H' a (ExV a cls d))) u s') : EP X pins σ QV u s' := by
  obtain ⟨a, oe, vs, sI, H', cls, d, rfl, J, k, hne, ha, hz, hd, _, na, os, ag, _, q⟩ := h
  have J2 := J.laidN (h' := s'.heap) (t' := s'.toks) k hne na (exV_ok ha hz hd)
  exact ⟨.ref a, upd H' a (ExV a cls d), ⟨J2.ok, os.trans J2.os, ag, J2.base, J2.loc, J2.cell, J2.free, J2.freeC, J2.pin, J2.hok, J2.len⟩, rfl, q a na⟩
theorem run_exc {us : List Value} {kw : List (Str × Value)} {ys : Addr → List Value} {yv : Addr → List V} (Φ : FamI φ) (T : OexF φ X.K C) (iC : PySem.W.findIn X.K (.ref C) "__init__" = some (some (.ref fI))) (tI : PySem.W.typeIn X.K (.ref fI) = some (.type "function"))
    (FO : FnOkG X.prog X.w X.K X.mg X.base CX0 k fI fd ps sp) (hg : X.A.guards = some []) (hr : Room (k + 1) X.A) (hb : ∀ (s : Shared) (a : Addr), X.K.In s.heap → BindsTo s fd ⟨.ref a :: us, kw⟩ (ps.zip (ys a))) (ry : ∀ a, Vals (yv a) (ys a)) (I : Inv X pins σ H s) (hz : us.length ≤ sizeLine)
    (h : ∀ a, H a = none → sp (yv a) (upd H a (exo a C none)) (fun v H2 => v = .non ∧ ∃ (d : Addr) (fs : List (Str × V)), H2 a = some (exo a C (some d)) ∧ H2 d = some (exd d fs) ∧ H d = none ∧ Q (.ref C) (some d) (upd (del H2 a) d (.xd fs))) (fun _ _ _ => False)) :
    wpAny (model X.prog X.w) X.A (call (.ref C) us kw) (MkP X pins σ Q) X.xe s := by
  obtain ⟨n1, n2, n3, n4, bm, n5, n6, n7, n8, n9, q0, q1, q2, q3, q5, hC, hu⟩ := T.c
  obtain ⟨h0, g, dr, tk, os⟩ := s
  have up1 : h0.objs.size ≤ h0.objs.size + 1 := Nat.le_succ _
  have fresh : H (h0.objs.size + 1) = none := I.hok.fresh up1
  have hq := h (h0.objs.size + 1) fresh
  have kp : ∀ b o, h0.get? b = some o → ((h0.push (PySem.W.kdv_tup us)).push (PySem.HandSPX.excO C h0.objs.size)).get? b = some o := fun b o e => Heap.get?_push_of_some _ (Heap.get?_push_of_some _ e)
  have here : ((h0.push (PySem.W.kdv_tup us)).push (PySem.HandSPX.excO C h0.objs.size)).get? (h0.objs.size + 1) = some (PySem.HandSPX.excO C h0.objs.size) := by heap_get
  have I2 : Inv X pins σ (upd H (h0.objs.size + 1) (exo (h0.objs.size + 1) C none)) ⟨(h0.push (PySem.W.kdv_tup us)).push (PySem.HandSPX.excO C h0.objs.size), g, dr, tk, os⟩ :=
    I.laid (t' := tk) (a := h0.objs.size + 1) (o := exo (h0.objs.size + 1) C none) (h' := (h0.push (PySem.W.kdv_tup us)).push (PySem.HandSPX.excO C h0.objs.size)) kp up1 (exo_ok here)
  have hB := hb ⟨(h0.push (PySem.W.kdv_tup us)).push (PySem.HandSPX.excO C h0.objs.size), g, dr, tk, os⟩ (h0.objs.size + 1) I2.kIn
  apply wpAny_call
  refine call_kw Φ.b (fun Y => hu.has Y) (I.kIn _ _ hC) (PySem.W.looks_findIn I.kIn iC) (fun self => PySem.W.bind_fn I.kIn self tI) hz ?_
  refine codeAny_mono (FO.run _ X.stack _ _ ⟨Value.ref (h0.objs.size + 1) :: us, kw⟩ (ys (h0.objs.size + 1)) _ _ (fun _ _ _ => False) (g_under hg) (hr.make C us kw) (I2.env0.make C us kw) hB (ry _) hq) fun r s' hq' => ?_
  match r, hq' with
  | .error er, hq' => exact pass0 pins σ _ _ er s' I2 hq'
  | .ok (.ret u), hq' =>
    obtain ⟨v, H2, os2, bare2, un2, hok2, rv, ev, d, fs, ea, ed, hd1, q2⟩ := hq'
    subst ev
    obtain ⟨h2, g2, d2, t2, os'⟩ := s'
    exact ⟨rv, mk_end (raises_own T.e T.t) I up1 kp un2 hok2 os2 bare2 ea ed hd1 q2⟩
  | .ok .next, hq' => exact False.elim hq'
  | .ok .brk, hq' => exact False.elim hq'
  | .ok .cont, hq' => exact False.elim hq'
end
/-- an exception class by its name, its __init__; cd: what it asks of its values -/
def ExMF (φ : FamE) (P : Program) (wd : World) (K : PySem.W.Frag) (mg : Str → Option Value) (base : Heap) (cn : Str) (ps fl : List Str) (cd : CdX) (k : Nat) (fI : Addr) (fd : FuncData) : Prop :=
  FamI φ ∧ OexF φ K (He.ga K cn) ∧ PySem.W.findIn K (.ref (He.ga K cn)) "__init__" = some (some (.ref fI)) ∧ PySem.W.typeIn K (.ref fI) = some (.type "function") ∧ FnOkG P wd K mg base CX0 k fI fd ps (spXF φ K cd fl) ∧
    mg cn = some (.ref (He.ga K cn)) ∧ ∀ f, f ∈ fl → PySem.W.findIn K (.ref (He.ga K cn)) f = some none
/-- made by places -/
def ExP (φ : FamE) (P : Program) (wd : World) (K : PySem.W.Frag) (mg : Str → Option Value) (base : Heap) (cn : Str) (ps fl : List Str) (cd : CdX) (k : Nat) : Prop := ∃ fI fd, ExMF φ P wd K mg base cn ps fl cd k fI fd ∧ Binds K fd ps []
/-- made by names -/
def ExK (φ : FamE) (P : Program) (wd : World) (K : PySem.W.Frag) (mg : Str → Option Value) (base : Heap) (cn : Str) (ps fl : List Str) (cd : CdX) (k : Nat) (ks : List Str) (pm : List Nat) : Prop := ∃ fI fd, ExMF φ P wd K mg base cn ps fl cd k fI fd ∧ KBn K fd ps 1 ks (gP .none (0 :: pm.map (· + 1))) (gP .non (0 :: pm.map (· + 1)))
/-- what is asked, at the data -/
def CdOk (K : PySem.W.Frag) (cd : CdX) (cdD : List D → Prop) : Prop := ∀ (dr : Addr) (F H : Hp) (vs : List V) (ds : List D), (∀ a o, F a = some o → H a = some o) → RpL K dr F vs ds → cdD ds → cd K H vs
def eExc (cn : Str) (fl : List Str) (cdD : List D → Prop) (w : WA) : WE := fun x η n R => w x η n fun ds n1 => ds.length = fl.length ∧ cdD ds ∧ R (.exc cn fl.reverse ds.reverse) n1
def eExcK (cn : Str) (fl : List Str) (cdD : List D → Prop) (l : Nat) (pm : List Nat) (w : WA) : WE := fun x η n R => w x η n fun ds n1 => ds.length = l ∧ pm.length = fl.length ∧ pm.all (fun i => i < l) = true ∧ cdD (gP .non pm [] ds) ∧ R (.exc cn fl.reverse (gP .non pm [] ds).reverse) n1
section
variable {φ : FamE} {X : Cx} {E : XK} {k j : Nat} {cn : Str} {ps fl : List Str} {cd : CdX} {cdD : List D → Prop} {w : WA} {p pos : Pos} {e : Expr} {es : List Expr}
theorem exc_core {K : PySem.W.Frag} {c1 : Cf} {vs : List V} {ds : List D} {Q : VK} (T : OexF φ K (He.ga K cn)) (hno : ∀ f, f ∈ fl → PySem.W.findIn K (.ref (He.ga K cn)) f = some none) (hc : CdOk K cd cdD) (ok1 : c1.Ok) (rp : RPL K c1 vs ds) (hl : ds.length = fl.length) (hd : cdD ds)
    (hr : ∀ c' v, c'.n = c1.n → c'.Ok → Le c1 c' → RP K c' v (.exc cn fl.reverse ds.reverse) → Q v c'.H) {a : Addr} (hna : c1.H a = none) :
    spXF φ K cd fl (.ref a :: vs) (upd c1.H a (exo a (He.ga K cn) none)) (fun v H2 => v = .non ∧ ∃ (d : Addr) (fs : List (Str × V)), H2 a = some (exo a (He.ga K cn) (some d)) ∧ H2 d = some (exd d fs) ∧ c1.H d = none ∧ ∀ a', (upd (del H2 a) d (.xd fs)) a' = none → Q (.ref a') (upd (upd (del H2 a) d (.xd fs)) a' (ExV a' (.ref (He.ga K cn)) (some d)))) (fun _ _ _ => False) := by
  have hv : vs.length = fl.length := by rw [rp.length, hl]
  refine ⟨a, _, vs, rfl, hv, T, hno, upd_same, hc _ c1.F _ _ _ (fun b o q => ?_) rp hd, fun dx hdx hne H' hb hHa hHd => ⟨rfl, dx, _, hHa, hHd, ?_, fun a' ha' => ?_⟩⟩
  · have q1 := ok1.sub b o q
    rw [upd_ne (ne_of_none q1 hna)]
    exact q1
  · rw [upd_ne hne] at hdx
    exact hdx
  · have hdx1 : c1.H dx = none := by
      rw [upd_ne hne] at hdx
      exact hdx
    have eqH : upd (del H' a) dx (.xd (fl.zip vs).reverse) = upd c1.H dx (.xd (fl.zip vs).reverse) := upd_gone hna hne fun b q1 q2 => by
      rw [hb b q1 q2, upd_ne q1, upd_ne q1]
    rw [eqH, zip_rev fl vs hv.symm] at ha' ⊢
    obtain ⟨ok2, l2⟩ := ok1.newF (o := .xd (fl.reverse.zip vs.reverse)) hdx1
    obtain ⟨ok3, l3⟩ := ok2.newF (o := ExV a' (.ref (He.ga K cn)) (some dx)) ha'
    have hne' : dx ≠ a' := fun z => by
      subst z
      rw [upd_same] at ha'
      cases ha'
    refine hr ⟨c1.dr, upd (upd c1.F dx (.xd (fl.reverse.zip vs.reverse))) a' (ExV a' (.ref (He.ga K cn)) (some dx)), upd (upd c1.H dx (.xd (fl.reverse.zip vs.reverse))) a' (ExV a' (.ref (He.ga K cn)) (some dx)), c1.n, c1.T⟩ (.ref a') rfl ok3 (l2.trans l3) ?_
    exact .exc (dd := dx) (vs := vs.reverse) upd_same ((upd_ne hne').trans upd_same) (by simp [hv]) (l3.rpl (l2.rpl rp)).rev
/-- C(e, ..), a thing -/
theorem q_excP (M : ExP φ X.prog X.w X.K X.mg X.base cn ps fl cd j) (hc : CdOk X.K cd cdD) (hgd : X.A.guards = some []) (hr : Room k X.A) (hj : j + 1 ≤ k) (hg : Gl X cn) (hm : fl.length ≤ 1000) (ha : PA X (e :: es) (upA X.K E w))
    (hdb : (cn == ("__debug__" : Str)) = false := by decide) (he : starEach (e :: es) X.env = (false, eval e X.env) :: starEach es X.env := by rfl) (hpl : (backTo pos (starEach es X.env)).any (·.1) = false := by rfl) :
    PE X (.Call (.Name cn p) (e :: es) [] pos) (up X.K E (eExc cn fl cdD w)) := by
  obtain ⟨fI, fd, ⟨Φ, T, iC, tI, F, g, hno⟩, b⟩ := M
  refine ⟨fun pins s σ H Q I h => ?_⟩
  obtain ⟨c, η, R, x, e1, ok, en, hw, hr', hx⟩ := h
  refine wpAny_Call_Name_kw (ld_glob I hg g ?_ hdb)
  refine PySem.W.callWith_K (h₀ := X.base) I.ok.mod.kin T.k (thn (ha.run pos pins s σ H (fun vs H1 => ∃ ds c1, c1.H = H1 ∧ c1.Ok ∧ Le c c1 ∧ RPL X.K c1 vs ds ∧ ds.length = fl.length ∧ cdD ds ∧ R (.exc cn fl.reverse ds.reverse) c1.n) I ⟨c, η, _, x, e1, ok, en, hw, fun ds c1 vs hd ok1 l1 rp => ⟨ds, c1, rfl, ok1, l1, rp, hd⟩, hx⟩) fun us s1 z => ?_) he hpl
  obtain ⟨vs, H1, I1, r1, ds, c1, rfl, ok1, l1, rp, h1, h2, h3⟩ := z
  refine ⟨I1.kIn, ?_⟩
  have hvs : vs.length = fl.length := by rw [rp.length, h1]
  have hus : us.length = fl.length := by rw [← r1.length, hvs]
  have FL := F.len
  refine wpAny_mono (run_exc (us := us) (kw := []) (ys := fun a => .ref a :: us) (yv := fun a => .ref a :: vs) Φ T iC tI F hgd (hr.mono hj) (fun s a hK => ?_) (fun a => .cons rfl r1) I1 (by rw [hus, sizeLine_eq]; omega) fun a hna => exc_core T hno hc ok1 rp h1 h2 (fun c' v en' ok' l' r' => hr' _ c' v (by rw [en']; exact h3) ok' (l1.trans l') r') hna) (fun u s' z => ep_of_mk z) fun _ _ z => z
  have hl : (Value.ref a :: us).length = ps.length := by
    obtain ⟨a0, ha0⟩ : ∃ a0, c1.H a0 = none := ⟨s1.heap.objs.size, I1.hok.fresh (Nat.le_refl _)⟩
    have := FL _ _ _ _ (exc_core (Q := Q) (cn := cn) T hno hc ok1 rp h1 h2 (fun c' v en' ok' l' r' => hr' _ c' v (by rw [en']; exact h3) ok' (l1.trans l') r') ha0)
    rw [← this, List.length_cons, List.length_cons, hus, hvs]
  have hB := b s (Value.ref a :: us) hK (by rw [List.append_nil]; exact hl)
  rw [List.append_nil] at hB
  exact hB
/-- C(k = v, ..), a thing -/
theorem q_excK {ks : List Str} {pm : List Nat} {kws : List Keyword} (M : ExK φ X.prog X.w X.K X.mg X.base cn ps fl cd j ks pm) (hc : CdOk X.K cd cdD) (hgd : X.A.guards = some []) (hr : Room k X.A) (hj : j + 1 ≤ k) (hg : Gl X cn) (hkw : PK X kws (upA X.K E w))
    (hdb : (cn == ("__debug__" : Str)) = false := by decide)
    (hall : (backToKw pos (keywordEach kws X.env)).all (·.1.isSome) = true := by rfl) (hks : (backToKw pos (keywordEach kws X.env)).filterMap (·.1) = ks := by rfl)
    (hpl : ((backTo pos (starEach [] X.env)).any (·.1) || (backToKw pos (keywordEach kws X.env)).any (·.1.isNone)) = false := by rfl) :
    PE X (.Call (.Name cn p) [] kws pos) (up X.K E (eExcK cn fl cdD ks.length pm w)) := by
  obtain ⟨fI, fd, ⟨Φ, T, iC, tI, F, g, hno⟩, b⟩ := M
  refine ⟨fun pins s σ H Q I h => ?_⟩
  obtain ⟨c, η, R, x, e1, ok, en, hw, hr', hx⟩ := h
  refine wpAny_Call_Name_kw (ld_glob I hg g ?_ hdb)
  refine PySem.W.callWith_of hpl (PySem.W.keeps_K T.k) (evalArgs_kw2_nil hall ?_)
  refine thn (hkw.run pos pins s σ H (fun vs H1 => ∃ ds c1, c1.H = H1 ∧ c1.Ok ∧ Le c c1 ∧ RPL X.K c1 vs ds ∧ ds.length = ks.length ∧ pm.length = fl.length ∧ pm.all (fun i => i < ks.length) = true ∧ cdD (gP .non pm [] ds) ∧ R (.exc cn fl.reverse (gP .non pm [] ds).reverse) c1.n) I ⟨c, η, _, x, e1, ok, en, hw, fun ds c1 vs hd ok1 l1 rp => ⟨ds, c1, rfl, ok1, l1, rp, hd⟩, hx⟩) fun ws s1 z => ?_
  obtain ⟨vs, H1, I1, r1, ds, c1, rfl, ok1, l1, rp, h1, h2, h3, h4, h5⟩ := z
  refine ⟨I1.kIn, ?_⟩
  rw [hks]
  have hws : ws.length = ks.length := by rw [← r1.length, rp.length, h1]
  have rg : RPL X.K c1 (gP V.non pm [] vs) (gP D.non pm [] ds) := gP_rpl .nil rp pm
  have hgl : (gP D.non pm [] ds).length = fl.length := by simp [gP, h2]
  refine wpAny_mono (run_exc (us := []) (kw := ks.zip ws) (ys := fun a => gP .none (0 :: pm.map (· + 1)) [.ref a] ws) (yv := fun a => gP .non (0 :: pm.map (· + 1)) [.ref a] vs) Φ T iC tI F hgd (hr.mono hj) (fun s a hK => b.to s [.ref a] ws hK rfl hws) (fun a => b.rel (.cons rfl .nil) r1) I1 (Nat.zero_le _) fun a hna => ?_) (fun u s' z => ep_of_mk z) fun _ _ z => z
  rw [gP_shift (.ref a) vs pm (by rw [rp.length, h1]; exact h3)]
  exact exc_core T hno hc ok1 rg hgl h4 (fun c' v en' ok' l' r' => hr' _ c' v (by rw [en']; exact h5) ok' (l1.trans l') r') hna
end
end DL
set_option maxHeartbeats 4000000
/-! ### exceptions that are things: asked, read -/
namespace DL
open PySem PySem.Spec PyProof.Rows L2
theorem exc_at {K : PySem.W.Frag} {c : Cf} {v : V} {cn : Str} {ns : List Str} {fs : List D} (ok : c.Ok) (h : RB K c v (.exc cn ns fs)) : ∃ vs, KeptV c.H v (He.ga K cn) (ns.zip vs) ∧ ns.length = vs.length ∧ RPL K c vs fs := by
  cases h with
  | fz h =>
    cases h with
    | exc e f l r => exact ⟨_, ⟨_, _, rfl, ok.sub _ _ e, ok.sub _ _ f⟩, l, r⟩
  | ow _ ed _ _ _ _ => cases ed
  | od _ ed _ _ _ _ => cases ed
/-- what the text says of the classes that are asked -/
structure ExsOk (K : PySem.W.Frag) (cs : List Str) (fl : Str → List Str) : Prop where
  q : ∀ c ∈ cs, ExQ K (He.ga K c)
  n : ∀ c ∈ cs, ∀ f ∈ fl c, PySem.W.findIn K (.ref (He.ga K c)) f = some none
def eIsE (cs : List Str) (f : Str → Bool) (w : WE) : WE := fun x η n R => w x η n fun d n1 => match d with
  | .exc c _ _ => c ∈ cs ∧ R (.bl (f c)) n1
  | _ => False
def eFldE (cs : List Str) (fl : Str → List Str) (f : Str) (w : WE) : WE := fun x η n R => w x η n fun d n1 => match d with
  | .exc c ns fs => c ∈ cs ∧ f ∈ fl c ∧ ∃ y, (ns.zip fs).lookup f = some y ∧ R y n1
  | _ => False
theorem zl_rp {K : PySem.W.Frag} {dr : Addr} {F : Hp} {f : Str} {y : D} : ∀ {ns : List Str} {vs : List V} {fs : List D}, RpL K dr F vs fs → ns.length = vs.length → (ns.zip fs).lookup f = some y → ∃ v, (ns.zip vs).lookup f = some v ∧ Rp K dr F v y
  | [], _, _, _, _, h => by simp at h
  | n :: ns, _, _, .nil, hl, h => by simp at h
  | n :: ns, _, _, .cons (v := v) (vs := vs) (d := d) (ds := ds) r t, hl, h => by
    rw [List.zip_cons_cons, List.lookup_cons] at h ⊢
    cases q : f == n with
    | true =>
      rw [q] at h
      cases h
      exact ⟨v, rfl, r⟩
    | false =>
      rw [q] at h
      exact zl_rp t (by simpa using hl) h
section
variable {X : Cx} {E : XK} {pos p p2 : Pos} {e : Expr} {cs : List Str} {fl : Str → List Str}
/-- isinstance(v, T), v a kept exception, T built in -/
def rIsVT (K : PySem.W.Frag) (T : String) : List V → Hp → VK → Prop := fun xs H Q => ∃ (v : V) (b : Bool), xs = [v, .ty T] ∧ (∃ D fs, KeptV H v D fs ∧ ExQ K D ∧ PySem.W.kitOne K (.ref D) (.type T) = some b) ∧ Q (.bl b) H
theorem call_isVT {T : String} : CallR X (.builtin "isinstance") (rIsVT X.K T) := by
  intro pins s σ H xs us Q I r h
  obtain ⟨v, b, rfl, ⟨D, fs, ⟨a, dd, rfl, h1, h2⟩, T, e⟩, q⟩ := h
  match us, r with
  | [u0, u1], .cons ra (.cons rb .nil) =>
    obtain rfl : u0 = Value.ref a := ra
    obtain rfl : u1 = Value.type _ := rb
    obtain ⟨oe, od, mA, J, hl, hr⟩ := kept_at I h1 h2
    apply PySem.W.kia_one (PySem.W.kitx_exc T.cl T.ga T.gt T.sb T.ha T.hn T.ht T.hm) I.kIn J e (fun z => nomatch z)
    intro tk
    exact ⟨.bl b, H, I.kept (t' := tk) fun _ _ z => z, rfl, q⟩
theorem q_isE {cn : Str} {f : Str → Bool} {w : WE} (XQ : ExsOk X.K cs fl) (ho : ∀ c ∈ cs, PySem.W.kitOne X.K (.ref (He.ga X.K c)) (.ref (He.ga X.K cn)) = some (f c)) (hgc : Gl X cn) (hmc : X.mg cn = some (.ref (He.ga X.K cn))) (hg : Gl X "isinstance") (hm : X.mg "isinstance" = none) (he : PE X e (upB X.K E w)) (hd : (cn == ("__debug__" : Str)) = false := by decide)
    (hs : starEach [e, .Name cn p2] X.env = (false, eval e X.env) :: starEach [.Name cn p2] X.env := by rfl) (hs2 : starEach [.Name cn p2] X.env = (false, eval (.Name cn p2) X.env) :: starEach [] X.env := by rfl) (hpl : (backTo pos (starEach [.Name cn p2] X.env)).any (·.1) = false := by rfl) :
    PE X (.Call (.Name "isinstance" p) [e, .Name cn p2] [] pos) (up X.K E (eIsE cs f w)) := pe_to (pe_callB (call_isV (C := He.ga X.K cn)) hg hm (by decide +kernel) (pa_cons he (pa_cons (pe_glob (v := .ref (He.ga X.K cn)) hgc hmc rfl hd) pa_nil hs2) hs) (by decide) (by decide) hs hpl) fun σ H Q q => by
  obtain ⟨c, η, R, x, e1, ok, en, hw, hr, hx⟩ := q
  refine ⟨c, η, _, x, e1, ok, en, hw, fun d c1 v hd ok1 l1 rp => ?_, hx⟩
  cases d <;> first | exact hd.elim | skip
  rename_i k ns fs
  obtain ⟨hk, hR⟩ := hd
  obtain ⟨vs, kv, _, _⟩ := exc_at ok1 rp
  exact ⟨v, _, rfl, .inr ⟨_, _, kv, XQ.q k hk, ho k hk⟩, hr _ c1 _ hR ok1 l1 (.bl _)⟩
theorem q_isET {cn : Str} {T : String} {f : Str → Bool} {w : WE} (XQ : ExsOk X.K cs fl) (ho : ∀ c ∈ cs, PySem.W.kitOne X.K (.ref (He.ga X.K c)) (.type T) = some (f c)) (hc : PE X (.Name cn p2) (tC (.ty T))) (hg : Gl X "isinstance") (hm : X.mg "isinstance" = none) (he : PE X e (upB X.K E w))
    (hs : starEach [e, .Name cn p2] X.env = (false, eval e X.env) :: starEach [.Name cn p2] X.env := by rfl) (hs2 : starEach [.Name cn p2] X.env = (false, eval (.Name cn p2) X.env) :: starEach [] X.env := by rfl) (hpl : (backTo pos (starEach [.Name cn p2] X.env)).any (·.1) = false := by rfl) :
    PE X (.Call (.Name "isinstance" p) [e, .Name cn p2] [] pos) (up X.K E (eIsE cs f w)) := pe_to (pe_callB (call_isVT (T := T)) hg hm (by decide +kernel) (pa_cons he (pa_cons hc pa_nil hs2) hs) (by decide) (by decide) hs hpl) fun σ H Q q => by
  obtain ⟨c, η, R, x, e1, ok, en, hw, hr, hx⟩ := q
  refine ⟨c, η, _, x, e1, ok, en, hw, fun d c1 v hd ok1 l1 rp => ?_, hx⟩
  cases d <;> first | exact hd.elim | skip
  rename_i k ns fs
  obtain ⟨hk, hR⟩ := hd
  obtain ⟨vs, kv, _, _⟩ := exc_at ok1 rp
  exact ⟨v, _, rfl, ⟨_, _, kv, XQ.q k hk, ho k hk⟩, hr _ c1 _ hR ok1 l1 (.bl _)⟩
/-- e.f -/
theorem q_fldE {f : Str} {w : WE} (XQ : ExsOk X.K cs fl) (he : PE X e (upB X.K E w)) (hb : attributeBase e f X.env (eval e X.env) = eval e X.env := by rfl) : PE X (.Attribute e f pos) (up X.K E (eFldE cs fl f w)) := pe_to (pe_kept he hb) fun σ H Q q => by
  obtain ⟨c, η, R, x, e1, ok, en, hw, hr, hx⟩ := q
  refine ⟨c, η, _, x, e1, ok, en, hw, fun d c1 v hd ok1 l1 rp => ?_, hx⟩
  cases d <;> first | exact hd.elim | skip
  rename_i k ns fs
  obtain ⟨hk, hf, y, hl, hR⟩ := hd
  obtain ⟨vs, kv, l, r⟩ := exc_at ok1 rp
  obtain ⟨z, hz, rz⟩ := zl_rp r l hl
  exact ⟨_, _, z, kv, XQ.q k hk, XQ.n k hk f hf, hz, hr _ c1 _ hR ok1 l1 rz⟩
end
end DL
set_option maxHeartbeats 4000000
/-! ### repr and f-strings of things, {} too -/
namespace DL
open PySem PySem.Spec PyProof.Rows L2
mutual
/-- no instance, no draws, no dict but {} -/
def plainE : D → Bool
  | .ins _ _ _ => false
  | .drw => false
  | .dct ks ds => ks.isEmpty && ds.isEmpty
  | .dks _ _ => false
  | .dkn _ _ => false
  | .exc _ _ _ => false
  | .tup xs => plainEL xs
  | .lst xs => plainEL xs
  | _ => true
def plainEL : List D → Bool
  | [] => true
  | d :: ds => plainE d && plainEL ds
end
section
variable {X : Cx} {pins : List (Addr × Obj)} {σ : L2.St} {H : Hp} {s : Shared} {dr : Addr} {F : Hp}
theorem not_sys (hK : (X.K.lookup sysModules).isSome = true) (I : Inv X pins σ H s) {a : Addr} {o : HO} (h : H a = some o) : a ≠ sysModules := by
  rintro rfl
  obtain ⟨ob, e⟩ := Option.isSome_iff_exists.1 hK
  have e1 := I.ok.mod.kin _ _ e
  have e2 := I.ok.bs _ _ e1
  have e3 := I.base.free _ _ e2.1 e2.2 (I.ok.noex _ _ e1)
  rw [h] at e3
  cases e3
mutual
theorem rd_of (hK : (X.K.lookup sysModules).isSome = true) (I : Inv X pins σ H s) (hs : ∀ a o, F a = some o → H a = some o) : ∀ (d : D) (v : V) (u : Value), plainE d = true → Rp X.K dr F v d → RelV v u → ∃ as, Reads s.heap u (py d) as ∧ sysModules ∉ as
  | .non, _, _, _, q, r => by cases q; cases r; exact ⟨_, .none, by simp⟩
  | .bl b, _, _, _, q, r => by cases q; cases r; exact ⟨_, .bool b, by simp⟩
  | .int i, _, _, _, q, r => by cases q; obtain ⟨t, rfl⟩ := r; exact ⟨_, .int i t, by simp⟩
  | .str x, _, _, _, q, r => by cases q; obtain ⟨t, rfl⟩ := r; exact ⟨_, .str x t, by simp⟩
  | .tup ds, _, u, hp, q, r => by
    cases q with
    | @tup a vs _ e rr =>
      obtain rfl : u = Value.ref a := r
      obtain ⟨_, its, rv, ⟨o, ho, hc, n, hd⟩⟩ := I.hok a _ (hs _ _ e)
      obtain ⟨as, q1, q2⟩ := rds_of hK I hs ds vs its hp rr rv
      exact ⟨_, .tuple ho hc hd (by simpa using q1), q2⟩
  | .lst ds, _, u, hp, q, r => by
    cases q with
    | @lst a vs _ e rr =>
      obtain rfl : u = Value.ref a := r
      obtain ⟨_, its, n, rv, ho⟩ := I.hok a _ (hs _ _ e)
      obtain ⟨as, q1, q2⟩ := rds_of hK I hs ds vs its hp rr rv
      exact ⟨_, .list ho rfl rfl (by simpa using q1), fun z => by
        rcases List.mem_cons.1 z with z | z
        · exact not_sys hK I (hs _ _ e) z.symm
        · exact q2 z⟩
  | .dct ks ds, _, u, hp, q, r => by
    cases ks with
    | cons k ks => cases hp
    | nil =>
      cases ds with
      | cons d ds => cases hp
      | nil =>
        cases q with
        | @dct a _ vs _ e l rr =>
          obtain rfl : u = Value.ref a := r
          cases rr
          obtain ⟨_, ya, xa, pa, oa, ea, epa, ga, exa, da, la, _⟩ := I.hok a _ (hs _ _ e)
          cases pa
          have e0 : ea = #[] := by
            apply Array.toList_inj.1
            rw [la]
            rfl
          subst e0
          exact ⟨_, .dict (kvs := []) ga exa.1 da .nil .nil, fun z => by
            rcases List.mem_cons.1 z with z | z
            · exact not_sys hK I (hs _ _ e) z.symm
            · cases z⟩
  | .ins _ _ _, _, _, hp, _, _ => by cases hp
  | .drw, _, _, hp, _, _ => by cases hp
  | .dks _ _, _, _, hp, _, _ => by cases hp
  | .dkn _ _, _, _, hp, _, _ => by cases hp
  | .exc _ _ _, _, _, hp, _, _ => by cases hp
theorem rds_of (hK : (X.K.lookup sysModules).isSome = true) (I : Inv X pins σ H s) (hs : ∀ a o, F a = some o → H a = some o) : ∀ (ds : List D) (vs : List V) (us : List Value), plainEL ds = true → RpL X.K dr F vs ds → Vals vs us → ∃ as, ReadsAll s.heap us (pyL ds) as ∧ sysModules ∉ as
  | [], _, _, _, q, r => by cases q; cases r; exact ⟨_, .nil, by simp⟩
  | d :: ds, _, _, hp, q, r => by
    have hp' : (plainE d && plainEL ds) = true := hp
    rw [Bool.and_eq_true] at hp'
    cases q with
    | cons q1 q2 =>
      cases r with
      | cons r1 r2 =>
        obtain ⟨as, a1, a2⟩ := rd_of hK I hs d _ _ hp'.1 q1 r1
        obtain ⟨bs, b1, b2⟩ := rds_of hK I hs ds _ _ hp'.2 q2 r2
        exact ⟨_, .cons a1 b1, fun z => by
          rcases List.mem_append.1 z with z | z
          · exact a2 z
          · exact b2 z⟩
end
end
/-- what can be shown -/
structure ShE (k b : Nat) (d : D) : Prop where
  pl : plainE d = true
  sh : (py d).showable = true
  dp : (py d).depth ≤ k
  ln : (py d).shown.length ≤ b
/-! repr -/
section
variable {X : Cx} {E : XK} {pos : Pos}
def rReprE (K : PySem.W.Frag) : List V → Hp → VK → Prop := fun xs H Q => ∃ x p dr F ds, xs = [x] ∧ x = .ref p ∧ (∀ a o, F a = some o → H a = some o) ∧ Rp K dr F x (.lst ds) ∧ ShE 60 sizeLine (.lst ds) ∧ Q (.str (py (.lst ds)).shown) H
theorem call_reprE (hK : (X.K.lookup sysModules).isSome = true) (hg : X.A.guards = some []) (hu : X.A.units + 64 < cLine) : CallR X (.builtin "repr") (rReprE X.K) := by
  intro pins s σ H xs us Q I r h
  obtain ⟨x, p, dr, F, ds, rfl, rfl, hs, hd, hh, q⟩ := h
  obtain ⟨u, rfl, ru⟩ := vals1 r
  obtain ⟨as, r1, r2⟩ := rd_of hK I hs _ _ _ hh.pl hd ru
  cases ru
  have := hh.dp
  exact repr_of_reads' r1 hh.sh (fun _ => r2) hg (by omega) (fun _ _ e => e) (fun h' u tk hk => ⟨.str _, H, I.kept hk, ⟨_, rfl⟩, q⟩) hh.ln
def bReprE : OB := fun ds k => match ds with
  | [.lst xs] => ShE 60 sizeLine (.lst xs) ∧ k (.str (py (.lst xs)).shown)
  | _ => False
theorem bd_reprE : BD X (rReprE X.K) bReprE := by
  intro c vs ds k Q ok r h hQ
  unfold bReprE at h
  split at h
  · rename_i xs
    cases r with
    | cons r1 r2 =>
      cases r2
      obtain ⟨p, us, rfl, e, rp⟩ := r1.lst ok
      obtain ⟨h0, hk⟩ := h
      cases r1 with
      | fz f1 => exact ⟨_, p, c.dr, c.F, xs, rfl, rfl, ok.sub, f1, h0, hQ _ c _ hk rfl ok .refl (.str _)⟩
      | ow ev ed h1 hf hd r =>
        cases ev
        cases ed
        refine ⟨_, p, c.dr, upd c.F p (.lst us), xs, rfl, rfl, fun a o z => ?_, .lst upd_same (RpL.mono (fun a o z => (upd_ne (ne_of_none z hf)).trans z) _ _ rp), h0, hQ _ c _ hk rfl ok .refl (.str _)⟩
        by_cases ha : a = p
        · subst ha
          rw [upd_same] at z
          cases z
          exact e
        · rw [upd_ne ha] at z
          exact ok.sub _ _ z
      | od ev ed h1 hf hd r => cases ed
  · exact h.elim
end
end DL
set_option maxHeartbeats 4000000
namespace DL
open PySem PySem.Spec PyProof.Rows L2
/-- {x} of a thing, as a text -/
def fmtT : D → Str
  | .str y => y
  | .int i => (toString i : String)
  | .non => "None"
  | .bl b => if b then "True" else "False"
  | d => (py d).shown
structure FmOk (d : D) : Prop where
  pl : plainE d = true
  sh : (py d).showable = true
  dp : (py d).depth ≤ 40
  ln : (py d).shown.length ≤ 100000
  it : ∀ i, d = .int i → i.natAbs.log2 < 1920
  fl : (fmtT d).length ≤ 100000
def tFmtE (K : PySem.W.Frag) (te : TE) : TE := fun σ H Q => te σ H fun v H1 => ∃ dr F d, (∀ a o, F a = some o → H1 a = some o) ∧ Rp K dr F v d ∧ FmOk d ∧ Q (.str (fmtT d)) H1
section
variable {X : Cx} {e : Expr} {te : TE} {pos : Pos}
theorem pe_fmtE (hK : (X.K.lookup sysModules).isSome = true) (hg : X.A.guards = some []) (hu : X.A.units + 64 < cLine) (he : PE X e te) : PE X (.FormattedValue e (-1) none pos) (tFmtE X.K te) := by
  have hb := sizeLine_eq
  refine ⟨fun pins s σ H Q I h => ?_⟩
  refine wpAny_FormattedValue_plain (thn (he.run pins s σ H _ I h) fun u s1 hv => ?_)
  obtain ⟨x, H1, I1, r1, dr, F, d, hs, hd, fo, q⟩ := hv
  have hl := fo.fl
  have hdp := fo.dp
  have hln := fo.ln
  have ref : ∀ a, u = Value.ref a → fmtT d = (py d).shown → wpAny (model X.prog X.w) X.A (formatField u Str.empty) (EP X pins σ Q) X.xe s1 := fun a ea ef => by
    obtain ⟨as, q1, q2⟩ := rd_of hK I1 hs d x u fo.pl hd r1
    rw [ef] at q
    subst ea
    exact formatField_of_reads q1 fo.sh (fun _ => q2) hg (by omega) (fun _ _ z => z) (fun h' t tk hk => ⟨.str _, H1, I1.kept hk, ⟨_, rfl⟩, q⟩) (by omega)
  cases d with
  | str y =>
    cases hd
    obtain ⟨t, rfl⟩ := r1
    exact wpAny_formatField_str ⟨.str y, H1, I1, ⟨t, rfl⟩, q⟩ ⟨.str y, H1, I1.tok _, ⟨_, rfl⟩, q⟩ (by show y.length ≤ _; have : (fmtT (.str y)).length = y.length := rfl; omega)
  | int i =>
    cases hd
    obtain ⟨t, rfl⟩ := r1
    exact wpAny_formatField_int (fo.it i rfl) ⟨.str (toString i : String), H1, I1.tok _, ⟨_, rfl⟩, q⟩
  | non =>
    cases hd
    cases r1
    exact wpAny_formatField_none ⟨.str "None", H1, I1.tok _, ⟨_, rfl⟩, q⟩
  | bl b =>
    cases hd
    cases r1
    exact wpAny_formatField_bool ⟨.str (if b then "True" else "False"), H1, I1.tok _, ⟨_, rfl⟩, q⟩
  | tup ds =>
    cases hd with
    | tup e' r => exact ref _ r1 rfl
  | lst ds =>
    cases hd with
    | lst e' r => exact ref _ r1 rfl
  | dct ks ds =>
    cases hd with
    | dct e' l r => exact ref _ r1 rfl
  | ins _ _ _ => exact absurd fo.pl (by simp [plainE])
  | drw => exact absurd fo.pl (by simp [plainE])
  | dks _ _ => exact absurd fo.pl (by simp [plainE])
  | dkn _ _ => exact absurd fo.pl (by simp [plainE])
  | exc _ _ _ => exact absurd fo.pl (by simp [plainE])
end
/-! ### what an exception's __init__ asks -/
def cdT : CdX := fun _ _ _ => True
def cdF : CdX := fun K H ws => ∃ dr F ds, (∀ a o, F a = some o → H a = some o) ∧ RpL K dr F ws ds ∧ ∀ d ∈ ds, FmOk d
def cdTD : List D → Prop := fun _ => True
def cdFD : List D → Prop := fun ds => ∀ d ∈ ds, FmOk d
theorem cdT_ok {K : PySem.W.Frag} : CdOk K cdT cdTD := fun _ _ _ _ _ _ _ _ => trivial
theorem cdF_ok {K : PySem.W.Frag} : CdOk K cdF cdFD := fun dr F H vs ds h1 h2 h3 => ⟨dr, F, ds, h1, h2, h3⟩
abbrev tIn (φ : FamE) (K : PySem.W.Frag) (tm : TE) : TS := tDrop (tIniF φ K (tCons (tVar 0) (tCons tm tNil)))
abbrev tMs (ts : List TE) : TE := fun σ H Q => tJs ts Str.empty σ H fun out H1 => Q (.str out) H1
section
variable {φ : FamE} {K : PySem.W.Frag} {E : XK} {f g z z2 : Str} {N : List Str}
theorem ex_two {vs : List V} {H : Hp} {Q : VK} {a C : Addr} {w w2 : V} (hn : ∀ f', f' ∈ [f, g] → PySem.W.findIn K (.ref C) f' = some none) (T : OexF φ K C) (ha : H a = some (exo a C none)) (q : ∀ dx, H dx = none → dx ≠ a → ∀ H', (∀ b, b ≠ a → b ≠ dx → H' b = H b) → H' a = some (exo a C (some dx)) → H' dx = some (exd dx ([f, g].zip [w, w2]).reverse) → Q .non H') :
    tSeq (tOstF φ K f (tVar 0) (tVar 1)) (tOstF φ K g (tVar 0) (tVar 2)) { nx := fun _ H' => Q .non H', rt := Q } (L2.start N [V.ref a, w, w2]) H := by
  refine ⟨w, rfl, .ref a, rfl, a, C, rfl, T, hn f (by simp), .inl ⟨ha, fun dx hd hne => ?_⟩⟩
  refine ⟨w2, rfl, .ref a, rfl, a, C, rfl, T, hn g (by simp), .inr ⟨dx, [(f, w)], upd_same, by rw [upd_ne hne, upd_same], by simp, ?_⟩⟩
  refine q dx hd hne _ (fun b h1 h2 => ?_) ?_ ?_
  · rw [upd_ne h2, upd_ne h1, upd_ne h2]
  · rw [upd_ne (Ne.symm hne), upd_same]
  · rw [upd_same]
    rfl
theorem ex_one {H : Hp} {Q : VK} {a C : Addr} {w : V} (hn : ∀ f', f' ∈ [f] → PySem.W.findIn K (.ref C) f' = some none) (T : OexF φ K C) (ha : H a = some (exo a C none)) (q : ∀ dx, H dx = none → dx ≠ a → ∀ H', (∀ b, b ≠ a → b ≠ dx → H' b = H b) → H' a = some (exo a C (some dx)) → H' dx = some (exd dx ([f].zip [w]).reverse) → Q .non H') :
    tOstF φ K f (tVar 0) (tVar 1) { nx := fun _ H' => Q .non H', rt := Q } (L2.start N [V.ref a, w]) H := by
  refine ⟨w, rfl, .ref a, rfl, a, C, rfl, T, hn f (by simp), .inl ⟨ha, fun dx hd hne => ?_⟩⟩
  refine q dx hd hne _ (fun b h1 h2 => ?_) upd_same ?_
  · rw [upd_ne h1, upd_ne h2]
  · rw [upd_ne hne, upd_same]
    rfl
theorem px1 {vs : List V} {H : Hp} {Q : VK} (h : spXF φ K cdT [f] vs H Q E) : tSeq (tIn φ K (tC (.str z))) (tOstF φ K f (tVar 0) (tVar 1)) { nx := fun _ H' => Q .non H', rt := Q } (L2.start N vs) H := by
  obtain ⟨a, C, ws, rfl, hl, T, hno, ha, _, q⟩ := h
  match ws, hl with
  | [w], _ => exact ⟨.ref a, rfl, a, C, [.str z], rfl, by simp, T, ha, ex_one hno T ha q⟩
theorem px2 {vs : List V} {H : Hp} {Q : VK} (h : spXF φ K cdT [f, g] vs H Q E) : tSeq (tIn φ K (tC (.str z))) (tSeq (tOstF φ K f (tVar 0) (tVar 1)) (tOstF φ K g (tVar 0) (tVar 2))) { nx := fun _ H' => Q .non H', rt := Q } (L2.start N vs) H := by
  obtain ⟨a, C, ws, rfl, hl, T, hno, ha, _, q⟩ := h
  match ws, hl with
  | [w, w2], _ => exact ⟨.ref a, rfl, a, C, [.str z], rfl, by simp, T, ha, ex_two (vs := []) hno T ha q⟩
theorem px1m {vs : List V} {H : Hp} {Q : VK} (hz : z.length ≤ 100) (h : spXF φ K cdF [f] vs H Q E) : tSeq (tIn φ K (tMs [tC (.str z), tFmtE K (tVar 1)])) (tOstF φ K f (tVar 0) (tVar 1)) { nx := fun _ H' => Q .non H', rt := Q } (L2.start N vs) H := by
  have hb := sizeLine_eq
  obtain ⟨a, C, ws, rfl, hl, T, hno, ha, ⟨dr, F, ds, hs, rd, hf⟩, q⟩ := h
  match ws, hl with
  | [w], _ =>
    cases rd with
    | @cons _ _ d _ r1 r2 =>
      cases r2
      have fd := hf d List.mem_cons_self
      have l1 := fd.fl
      refine ⟨.ref a, rfl, z, rfl, by rw [strLen_append]; show 0 + _ ≤ _; omega, w, rfl, dr, F, d, hs, r1, fd, _, rfl, by rw [strLen_append, strLen_append]; show 0 + _ + _ ≤ _; omega, a, C, [.str _], rfl, by simp, T, ha, ex_one hno T ha q⟩
theorem px2m {vs : List V} {H : Hp} {Q : VK} (hz : z.length ≤ 100) (hz2 : z2.length ≤ 100) (h : spXF φ K cdF [f, g] vs H Q E) : tSeq (tIn φ K (tMs [tC (.str z), tFmtE K (tVar 1), tC (.str z2), tFmtE K (tVar 2)])) (tSeq (tOstF φ K f (tVar 0) (tVar 1)) (tOstF φ K g (tVar 0) (tVar 2))) { nx := fun _ H' => Q .non H', rt := Q } (L2.start N vs) H := by
  have hb := sizeLine_eq
  obtain ⟨a, C, ws, rfl, hl, T, hno, ha, ⟨dr, F, ds, hs, rd, hf⟩, q⟩ := h
  match ws, hl with
  | [w, w2], _ =>
    cases rd with
    | @cons _ _ d _ r1 r2 =>
      cases r2 with
      | @cons _ _ d2 _ r3 r4 =>
        cases r4
        have fd := hf d List.mem_cons_self
        have fd2 := hf d2 (List.mem_cons_of_mem _ List.mem_cons_self)
        have l1 := fd.fl
        have l2 := fd2.fl
        refine ⟨.ref a, rfl, z, rfl, by rw [strLen_append]; show 0 + _ ≤ _; omega, w, rfl, dr, F, d, hs, r1, fd, _, rfl, by rw [strLen_append, strLen_append]; show 0 + _ + _ ≤ _; omega, z2, rfl, by rw [strLen_append, strLen_append, strLen_append]; show 0 + _ + _ + _ ≤ _; omega, w2, rfl, dr, F, d2, hs, r3, fd2, _, rfl, by rw [strLen_append, strLen_append, strLen_append, strLen_append]; show 0 + _ + _ + _ + _ ≤ _; omega, a, C, [.str _], rfl, by simp, T, ha, ex_two (vs := []) hno T ha q⟩
end
end DL
set_option maxHeartbeats 4000000
/-! ### own exception classes over LookupError, read off the written part -/
namespace DL
open PySem PySem.Spec PyProof.Rows L2
def oexF (φ : FamE) (K : PySem.W.Frag) (C : Addr) : Bool := match K.lookup C with
  | some ⟨.type "type", _, .cls cd, sl⟩ => (match cd.mro, sl.toList with
    | .ref C' :: bm, [_, _, _, _, some (.builtin n), _] => C' == C && n == φ.nw && !cd.hasDel && cd.hasDict && undB φ.tl bm
    | _, _ => false)
  | _ => false
theorem oexF_ok {φ : FamE} {K : PySem.W.Frag} {C : Addr} (h : oexF φ K C = true) : ∃ n1 n2 n3 n4 bm n5 n6 n7 n8 n9 q0 q1 q2 q3 q5, K.lookup C = some (excClassObj n1 n2 C n3 n4 bm true n5 n6 n7 n8 n9 q0 q1 q2 q3 q5 φ.nw) ∧ Und φ.tl bm := by
  unfold oexF at h
  split at h
  · rename_i dd cd sl ho
    split at h
    · rename_i C' bm k0 k1 k2 k3 n k5 hm hs
      simp only [Bool.and_eq_true, beq_iff_eq, Bool.not_eq_true'] at h
      obtain ⟨⟨⟨⟨rfl, rfl⟩, hdel⟩, hdi⟩, ht⟩ := h
      obtain ⟨nm, bs, mro, ns, qn, hd, sn, sub, ab, col, del⟩ := cd
      dsimp only at hm hdel hdi
      subst hm hdel hdi
      have hsl : sl = #[k0, k1, k2, k3, some (.builtin φ.nw), k5] := by
        obtain ⟨l⟩ := sl
        simp only at hs
        rw [hs]
      subst hsl
      exact ⟨nm, qn, ns, bs, bm, sn, sub, ab, col, dd, k0, k1, k2, k3, k5, ho, undB_ok ht⟩
    · cases h
  · cases h
/-- an exception class of the program (of LookupErrors) -/
def excXF (φ : FamE) (K : PySem.W.Frag) (cn : Str) (fl : List Str) : Bool :=
  oexF φ K (He.ga K cn) && He.eqO (PySem.W.findIn K (.ref (He.ga K cn)) "__setattr__") (some (some (.builtin "object.__setattr__"))) && decide (PySem.W.subIn K (.ref (He.ga K cn)) (.type "BaseException") = some true) &&
  decide (PySem.W.typeIn K (.ref (He.ga K cn)) = some (.type "type")) && PySem.W.keepIn K (.ref (He.ga K cn)) && (PySem.W.clsIn K (He.ga K cn)).isSome && He.eqO (PySem.W.findIn K (.ref (He.ga K cn)) "__getattribute__") (some (some (.builtin "BaseException.__getattribute__"))) &&
  He.eqO (PySem.W.findIn K (.ref (He.ga K cn)) "__getattr__") (some none) && PySem.W.hasDictIn K (He.ga K cn) && He.eqO (PySem.W.findIn K (.ref (He.ga K cn)) "__class__") (some (some (.builtin "object.__class__"))) &&
  He.eqO (PySem.W.specialIn K (.builtin "object.__class__") "__get__") (some (some (.builtin "getset_descriptor.__get__"))) && decide (PySem.W.takesIn K (.builtin "object.__class__") = some true) && decide (PySem.W.mroIn K (He.ga K cn) (.type "object") = some true) &&
  He.eqO (PySem.W.findIn K (.ref (He.ga K cn)) "__init__") (some (some (.ref (He.ma K (He.ga K cn) "__init__")))) && decide (PySem.W.typeIn K (.ref (He.ma K (He.ga K cn) "__init__")) = some (.type "function")) &&
  fl.all fun f => He.eqO (PySem.W.findIn K (.ref (He.ga K cn)) f) (some none)
structure ExcXF (φ : FamE) (K : PySem.W.Frag) (cn : Str) (fl : List Str) : Prop where
  o : OexF φ K (He.ga K cn)
  q : ExQ K (He.ga K cn)
  i : PySem.W.findIn K (.ref (He.ga K cn)) "__init__" = some (some (.ref (He.ma K (He.ga K cn) "__init__")))
  t : PySem.W.typeIn K (.ref (He.ma K (He.ga K cn) "__init__")) = some (.type "function")
  n : ∀ f, f ∈ fl → PySem.W.findIn K (.ref (He.ga K cn)) f = some none
theorem excXF_ok {φ : FamE} {K : PySem.W.Frag} {cn : Str} {fl : List Str} (h : excXF φ K cn fl = true) : ExcXF φ K cn fl := by
  unfold excXF at h
  simp only [Bool.and_eq_true, decide_eq_true_eq, List.all_eq_true] at h
  obtain ⟨⟨⟨⟨⟨⟨⟨⟨⟨⟨⟨⟨⟨⟨⟨h1, h2⟩, h3⟩, h4⟩, h5⟩, h6⟩, h7⟩, h8⟩, h9⟩, h10⟩, h11⟩, h12⟩, h13⟩, h14⟩, h15⟩, h16⟩ := h
  exact ⟨⟨oexF_ok h1, He.eqO_ok h2, h3, h4, h5⟩, ⟨h6, He.eqO_ok h7, He.eqO_ok h8, h3, h9, He.eqO_ok h10, He.eqO_ok h11, h12, h13⟩, He.eqO_ok h14, h15, fun f hf => He.eqO_ok (h16 f hf)⟩
theorem famXF_ok {φ : FamE} {K : PySem.W.Frag} {cn : Str} (h : famX K cn φ.ini = true) : ExBF φ K (He.ga K cn) := by
  unfold famX at h
  rw [Bool.and_eq_true] at h
  obtain ⟨h1, h2⟩ := h
  refine ⟨He.eqO_ok h1, ?_⟩
  cases e : PySem.W.typeIn K (.ref (He.ga K cn)) with
  | none =>
    rw [e] at h2
    cases h2
  | some mc =>
    rw [e] at h2
    dsimp only at h2
    rw [Bool.and_eq_true] at h2
    obtain ⟨h3, h4⟩ := h2
    refine ⟨mc, rfl, h3, ?_⟩
    split at h4
    · rename_i z q
      rw [q, beq_iff_eq.mp h4]
    · cases h4
def famValue : FamE := ⟨"ValueError", "ValueError.__new__", "ValueError.__init__", [.type "ValueError", .type "Exception", .type "BaseException", .type "object"]⟩
def famRuntime : FamE := ⟨"RuntimeError", "RuntimeError.__new__", "RuntimeError.__init__", [.type "RuntimeError", .type "Exception", .type "BaseException", .type "object"]⟩
theorem famV : FamI famValue := { b := PySem.F.excBase_ValueError, p := PySem.F.store_ValueError.passes, o := by decide +kernel, n := rfl, h := rfl }
theorem famR : FamI famRuntime := { b := PySem.F.excBase_RuntimeError, p := PySem.F.store_RuntimeError.passes, o := by decide +kernel, n := rfl, h := rfl }
theorem famL : FamI famLookup := { famLookup_ok with h := rfl }
theorem FnOk.toG {P : Program} {wd : World} {K : PySem.W.Frag} {mg : Str → Option Value} {base : Heap} {k : Nat} {f : Addr} {fd : FuncData} {ps : List Str} {sp : Sp} {CX : CXT} (F : FnOk P wd K mg base CX k f fd ps sp) : FnOkG P wd K mg base CX k f fd ps sp :=
  ⟨F.len, fun A st s H ar us vs Q E _ hr e0 bt rv hs => F.run A st s H ar us vs Q E hr e0 bt rv hs⟩
/-- what is made of an exception class -/
theorem exMF_of {φ : FamE} {P : Program} {wd : World} {K : PySem.W.Frag} {mg : Str → Option Value} {base : Heap} {cn : Str} {ps fl : List Str} {cd : CdX} {k : Nat} {fd : FuncData} (Φ : FamI φ) (x : ExcXF φ K cn fl) (g : mg cn = some (.ref (He.ga K cn))) (F : FnOkG P wd K mg base CX0 k (He.ma K (He.ga K cn) "__init__") fd ps (spXF φ K cd fl)) : ExMF φ P wd K mg base cn ps fl cd k (He.ma K (He.ga K cn) "__init__") fd := ⟨Φ, x.o, x.i, x.t, F, g, x.n⟩
end DL
set_option maxHeartbeats 4000000
/-! ### readings that give one datum, whoever reads on -/
namespace DL
open PySem PySem.Spec PyProof.Rows L2
def EV (w : WE) (x : Xn) (η : List Sl) (n : Nat) (d : D) : Prop := ∀ R : D → Nat → Prop, R d n → w x η n R
def AV (w : WA) (x : Xn) (η : List Sl) (n : Nat) (ds : List D) : Prop := ∀ R : List D → Nat → Prop, R ds n → w x η n R
def NV (w : WN) (x : Xn) (η : List Sl) (n : Nat) (ds : List D) : Prop := ∀ R : List D → Nat → Prop, R ds n → w x η n R
def IV (w : WI) (x : Xn) (η : List Sl) (n : Nat) (ds : List D) : Prop := ∀ R : List D → Nat → Prop, R ds n → w x η n R
def TV (t : WT) (x : Xn) (η : List Sl) (n : Nat) (b : Bool) : Prop := ∀ R : Bool → Nat → Prop, R b n → t x η n R
section
variable {x : Xn} {η : List Sl} {n : Nat}
theorem ev_c {d : D} : EV (eC d) x η n d := fun R h => h
theorem ev_v {i : Nat} {d : D} (h : η[i]? = some (.dt d) := by rfl) : EV (eVar i) x η n d := fun R hR => by
  unfold eVar
  rw [h]
  exact hR
theorem ev_b {i : Nat} {d : D} (h : η[i]? = some (.dt d) := by rfl) : EV (eVarB i) x η n d := fun R hR => by
  unfold eVarB
  rw [h]
  exact hR
theorem ev_bin {o : O2} {wa wb : WE} {a b d : D} (ha : EV wa x η n a) (hb : EV wb x η n b) (ho : ∀ k : D → Prop, k d → o a b k) : EV (eBin o wa wb) x η n d := fun R h => ha _ (hb _ (ho (fun d => R d n) h))
theorem av_nil : AV aNil x η n [] := fun R h => h
theorem av_cons {w : WE} {r : WA} {d : D} {ds : List D} (ha : EV w x η n d) (hb : AV r x η n ds) : AV (aCons w r) x η n (d :: ds) := fun R h => ha _ (hb _ h)
theorem av_1 {w : WE} {d : D} (ha : EV w x η n d) : AV (aCons w aNil) x η n [d] := av_cons ha av_nil
theorem av_2 {w w2 : WE} {d e : D} (ha : EV w x η n d) (hb : EV w2 x η n e) : AV (aCons w (aCons w2 aNil)) x η n [d, e] := av_cons ha (av_1 hb)
theorem av_3 {w w2 w3 : WE} {d e f : D} (ha : EV w x η n d) (hb : EV w2 x η n e) (hc : EV w3 x η n f) : AV (aCons w (aCons w2 (aCons w3 aNil))) x η n [d, e, f] := av_cons ha (av_2 hb hc)
theorem ev_tup {w : WA} {ds : List D} (h : AV w x η n ds) (hl : ds.length ≤ 1000 := by simp) : EV (eTup w) x η n (.tup ds) := fun R hR => h _ ⟨Nat.le_trans hl (by decide), hR⟩
theorem nv_lst {w : WA} {ds : List D} (h : AV w x η n ds) (hl : ds.length ≤ 1000 := by simp) : NV (nLst w) x η n ds := fun R hR => h _ ⟨Nat.le_trans hl (by decide), hR⟩
theorem ev_fz {w : WN} {ds : List D} (h : NV w x η n ds) : EV (eFz w) x η n (.lst ds) := fun R hR => h _ hR
theorem ev_lst {w : WA} {ds : List D} (h : AV w x η n ds) (hl : ds.length ≤ 1000 := by simp) : EV (eFz (nLst w)) x η n (.lst ds) := ev_fz (nv_lst h hl)
theorem ev_eq {w : WE} {d e : D} (h : EV w x η n d) (he : d = e) : EV w x η n e := he ▸ h
theorem ev_cb {o : OB} {w : WA} {ds : List D} {d : D} (h : AV w x η n ds) (ho : ∀ k : D → Prop, k d → o ds k) : EV (eCB o w) x η n d := fun R hR => h _ (ho (fun d => R d n) hR)
theorem ev_call {m : Nat} {C : Ct} {w : WA} {ds : List D} {d : D} (h : AV w x η n ds) (hl : ds.length = m) (hC : ∀ R : D → Nat → Prop, R d n → C x ds n R) : EV (eCall m C [] w) x η n d := fun R hR => h _ ⟨by rw [List.append_nil]; exact hl, by rw [List.append_nil]; exact hC R hR⟩
/-! tests -/
theorem tv_test {w : WE} {b : Bool} (h : EV w x η n (.bl b)) : TV (wTest w) x η n b := fun R hR => by
  rw [r_test]
  exact h _ hR
theorem ev_if {t : WT} {wa wb : WE} {b : Bool} {d : D} (ht : TV t x η n b) (h1 : b = true → EV wa x η n d) (h2 : b = false → EV wb x η n d) : EV (eIf t wa wb) x η n d := fun R h => by
  refine ht _ ?_
  cases b with
  | true => simpa using h1 rfl R h
  | false => simpa using h2 rfl R h
theorem ev_neg {w : WE} {i : Int} (h : EV w x η n (.int i)) : EV (eNeg w) x η n (.int (-i)) := fun R hR => h _ hR
/-! operations -/
theorem ev_ixL {wa wb : WE} {xs : List D} {i : Int} {d : D} (ha : EV wa x η n (.lst xs)) (hb : EV wb x η n (.int i)) (h : atI xs i = some d) : EV (eBin oIx wa wb) x η n d := ev_bin ha hb fun _ hk => ⟨d, h, hk⟩
theorem ev_lt {wa wb : WE} {i j : Int} (ha : EV wa x η n (.int i)) (hb : EV wb x η n (.int j)) : EV (eBin oLt wa wb) x η n (.bl (decide (i < j))) := ev_bin ha hb fun _ h => h
theorem ev_eqI {wa wb : WE} {i j : Int} (ha : EV wa x η n (.int i)) (hb : EV wb x η n (.int j)) : EV (eBin oEq wa wb) x η n (.bl (decide (i = j))) := ev_bin ha hb fun k h => by rw [r_eqI]; exact h
theorem ev_catL {wa wb : WE} {xs ys : List D} (ha : EV wa x η n (.lst xs)) (hb : EV wb x η n (.lst ys)) (hl : xs.length + ys.length ≤ sizeLine) : EV (eBin oAdd wa wb) x η n (.lst (xs ++ ys)) := ev_bin ha hb fun _ h => ⟨hl, h⟩
/-! what is walked -/
theorem iv_sqT {w : WE} {xs : List D} (h : EV w x η n (.tup xs)) : IV (iSq w) x η n xs := fun R hR => h _ hR
theorem nv_map {α : Type} {vs : List Nat} {wi : WI} {g : WG} {w : WE} (emb f : α → D) {ys : List α} (hi : IV wi x η n (ys.map emb)) (hs : ∀ a ∈ ys, ∀ Q : D → Nat → Prop, Q (f a) n → g (emb a) (wipeS η vs) fun η' => w x η' n Q) (hl : ys.length ≤ sizeLine) : NV (nLc vs wi g wYes w) x η n (ys.map f) := fun R hR =>
  hi _ (lc_mapY emb f ys [] n hs (by simpa using hl) (by simpa using hR))
/-! statements -/
theorem st_if {t : WT} {a b : WS} {k : Wk} {c : Bool} (ht : TV t x η n c) (h1 : c = true → a x k η n) (h2 : c = false → b x k η n) : sIf t a b x k η n := by
  rw [r_sIf]
  refine ht _ ?_
  cases c with
  | true => simpa using h1 rfl
  | false => simpa using h2 rfl
theorem st_ifF {t : WT} {a b : WS} {k : Wk} (ht : TV t x η n false) (h : b x k η n) : sSeq (sIf t a sNext) b x k η n := st_if ht (fun z => by cases z) fun _ => h
theorem st_asg {w : WE} {i : Nat} {b : WS} {k : Wk} {d : D} (hw : EV w x η n d) (h : b x k (η.set i (.dt d)) n) : sSeq (sAsg w (gNm i)) b x k η n := hw _ h
theorem st_ret {w : WE} {k : Wk} {d : D} (hw : EV w x η n d) (h : k.rt d n) : sRet w x k η n := hw _ h
theorem st_for {wi : WI} {g : WG} {b : WS} {k : Wk} {xs : List D} (hi : IV wi x η n xs) (h : runFor x k g b xs η n) : sFor wi g b x k η n := hi _ h
end
end DL
namespace DL
open PySem PySem.Spec PyProof.Rows L2
section
variable {x : Xn} {η : List Sl} {n : Nat}
theorem nv_mapE {α : Type} {vs : List Nat} {wi : WI} {i : Nat} {w : WE} (emb f : α → D) {ys : List α} (hi : IV wi x η n (ys.map emb)) (hs : ∀ a ∈ ys, EV w x ((wipeS η vs).set i (.dt (emb a))) n (f a)) (hl : ys.length ≤ sizeLine) : NV (nLc vs wi (gNm i) wYes w) x η n (ys.map f) :=
  nv_map emb f hi (fun a ha Q hQ => hs a ha Q hQ) hl
end
end DL
namespace DL
open PySem PySem.Spec PyProof.Rows L2
section
variable {x : Xn} {η : List Sl} {n : Nat}
/-- for at, a in enumerate(..) -/
theorem for_en {α : Type} (emb : α → D) {k : Wk} {g : WG} {b : WS} (I : List α → Int → List Sl → Nat → Prop) (hnil : ∀ i η n, I [] i η n → k.nx η n)
    (hs : ∀ a ys i η n (nxt : List Sl → Nat → Prop), I (a :: ys) i η n → (∀ η n, I ys (i + 1) η n → nxt η n) → g (.tup [.int i, emb a]) η fun η' => b x { nx := nxt, ct := nxt, bk := k.nx, rt := k.rt } η' n) :
    ∀ (ys : List α) i η n, I ys i η n → runFor x k g b (enumD i (ys.map emb)) η n
  | [], i, η, n, h => hnil i η n h
  | a :: ys, i, η, n, h => hs a ys i η n _ h fun η n h => for_en emb I hnil hs ys (i + 1) η n h
theorem iv_en {w : WE} {xs : List D} (h : EV w x η n (.lst xs)) : IV (iEn (aCons w aNil)) x η n (enumD 0 xs) := fun R hR => av_1 h _ hR
theorem iv_r1 {w : WE} {j : Int} (h : EV w x η n (.int j)) (hj : Rg j) : IV (iR1 (aCons w aNil)) x η n (rangeD 0 j.toNat) := fun R hR => av_1 h _ ⟨hj, hR⟩
end
end DL
set_option maxHeartbeats 4000000
/-! ### contracts (k01) -/
namespace DL
open PySem PySem.Spec PyProof.Rows L2
def csE : List Str := ["BadAreas", "BadName", "BadRing", "Crossing", "BadPoint", "BadSlack", "BadArc", "BadNumber", "BadText", "Clash", "TooMany", "Unlike", "NothingToUndo", "NoArea"]
def csO : List Str := csE ++ (["SheetError", "StateError", "MissingError"] : List Str)
def flE (c : Str) : List Str := if c = "BadRing" then ["name", "index"] else if c = "Crossing" then ["first", "second"] else if c = "BadText" then ["line", "word"] else if c = "Clash" then ["pair"] else if c = "TooMany" then ["most"] else if c = "Unlike" then ["other"] else if c = "NothingToUndo" then ["count"] else if c = "NoArea" then ["name"] else ["given"]
/-- the families: 0, 1, 2 -/
def famN (c : Str) : Nat := if c = "NoArea" then 2 else if c = "Clash" ∨ c = "TooMany" ∨ c = "Unlike" ∨ c = "NothingToUndo" then 1 else 0
def isO (d c : Str) : Bool := decide (c = d) || (decide (d = "SheetError") && decide (famN c = 0)) || (decide (d = "StateError") && decide (famN c = 1)) || (decide (d = "MissingError") && decide (famN c = 2))
def isT (T : String) (c : Str) : Bool := (decide (T = "ValueError") && decide (famN c = 0)) || (decide (T = "RuntimeError") && decide (famN c = 1)) || (decide (T = "LookupError") && decide (famN c = 2))
structure ExA (K : PySem.W.Frag) (mg : Str → Option Value) : Prop where
  q : ExsOk K csE flE
  o : ∀ d, d ∈ csO → ∀ c ∈ csE, PySem.W.kitOne K (.ref (He.ga K c)) (.ref (He.ga K d)) = some (isO d c)
  t : ∀ T, T ∈ (["ValueError", "RuntimeError", "LookupError"] : List String) → ∀ c ∈ csE, PySem.W.kitOne K (.ref (He.ga K c)) (.type T) = some (isT T c)
  g : ∀ d, d ∈ csO → mg d = some (.ref (He.ga K d))
def thingsL : List D := [.int 0, .int (-1), .int 5, .bl true, .non, .str "", .str "a", .tup [], .tup [.int 0, .int 1], .lst [], .lst [.int 2], .dct [] [], .tup [.str "k", .int 3], .int (10 ^ 30), .str "arc"]
def ex1 (c f : Str) (x : D) : D := .exc c [f] [x]
def madeL (x y : D) : List D := [ex1 "BadAreas" "given" x, ex1 "BadName" "given" x, .exc "BadRing" ["index", "name"] [y, x], .exc "Crossing" ["second", "first"] [y, x], ex1 "BadPoint" "given" x, ex1 "BadSlack" "given" x,
  ex1 "BadArc" "given" x, ex1 "BadNumber" "given" x, .exc "BadText" ["word", "line"] [y, x], ex1 "Clash" "pair" x, ex1 "TooMany" "most" x, ex1 "Unlike" "other" x, ex1 "NothingToUndo" "count" x, ex1 "NoArea" "name" x]
def toldL (x y : D) : List D := [x, x, x, x, x, x, x, y, x, y, x, y, x, x, x, x, x]
def kindsD (c : Str) : D := .tup [.lst (csE.map fun d => .bl (isO d c)), .lst [.bl (isO "SheetError" c), .bl (isO "StateError" c), .bl (isO "MissingError" c), .bl (isT "ValueError" c), .bl (isT "RuntimeError" c), .bl (isT "LookupError" c)]]
def C_L_things : Ct := fun _ ds n R => ds = [] ∧ R (.lst thingsL) n
def C_L_made : Ct := fun _ ds n R => ∃ x y, ds = [x, y] ∧ FmOk x ∧ FmOk y ∧ R (.lst (madeL x y)) n
def C_L_named : Ct := fun _ ds n R => ∃ x y, ds = [x, y] ∧ FmOk x ∧ FmOk y ∧ R (.lst (madeL x y)) n
def C_L_told : Ct := fun _ ds n R => ∃ x y, ds = [.lst (madeL x y)] ∧ R (.lst (toldL x y)) n
def C_L_kinds : Ct := fun _ ds n R => ∃ c ns fs, ds = [.exc c ns fs] ∧ c ∈ csE ∧ R (kindsD c) n
theorem calm_L_things : Calm C_L_things := fun _ _ _ _ _ h => h
theorem calm_L_made : Calm C_L_made := fun _ _ _ _ _ h => h
theorem calm_L_named : Calm C_L_named := fun _ _ _ _ _ h => h
theorem calm_L_told : Calm C_L_told := fun _ _ _ _ _ h => h
theorem calm_L_kinds : Calm C_L_kinds := fun _ _ _ _ _ h => h
end DL
set_option maxHeartbeats 4000000
namespace DL
open PySem PySem.Spec PyProof.Rows L2
def exAK (K : PySem.W.Frag) : Bool := (csE.all fun c => csO.all fun d => decide (PySem.W.kitOne K (.ref (He.ga K c)) (.ref (He.ga K d)) = some (isO d c))) && (csE.all fun c => (["ValueError", "RuntimeError", "LookupError"] : List String).all fun T => decide (PySem.W.kitOne K (.ref (He.ga K c)) (.type T) = some (isT T c)))
theorem exA_of {K : PySem.W.Frag} {mg : Str → Option Value} (h : exAK K = true) (hq : ∀ c ∈ csE, ExQ K (He.ga K c) ∧ ∀ f ∈ flE c, PySem.W.findIn K (.ref (He.ga K c)) f = some none) (hg : ∀ d ∈ csO, mg d = some (.ref (He.ga K d))) : ExA K mg := by
  unfold exAK at h
  rw [Bool.and_eq_true] at h
  exact ⟨⟨fun c hc => (hq c hc).1, fun c hc => (hq c hc).2⟩, fun d hd c hc => of_decide_eq_true (List.all_eq_true.1 (List.all_eq_true.1 h.1 c hc) d hd), fun T hT c hc => of_decide_eq_true (List.all_eq_true.1 (List.all_eq_true.1 h.2 c hc) T hT), hg⟩
end DL
set_option maxHeartbeats 0
namespace DL
open PySem PySem.Spec PyProof.Rows L2
def top (i : Nat) : Stmt := PySem.Challenge.pw_sharedborders_k01_errors_made.main.body.getD i (.Pass ⟨0, 0, 0, 0⟩)
abbrev s_L_begin : Stmt := top 19
abbrev s_L_next : Stmt := top 20
abbrev s_L_pick : Stmt := top 21
abbrev s_L_things : Stmt := top 22
abbrev s_L_made : Stmt := top 23
abbrev s_L_named : Stmt := top 24
abbrev s_L_told : Stmt := top 25
abbrev s_L_kinds : Stmt := top 26
abbrev s_law : Stmt := top 27
abbrev s_BadAreas__init_ : Stmt := inClass (top 2) 0
abbrev s_BadName__init_ : Stmt := inClass (top 3) 0
abbrev s_BadRing__init_ : Stmt := inClass (top 4) 0
abbrev s_Crossing__init_ : Stmt := inClass (top 5) 0
abbrev s_BadPoint__init_ : Stmt := inClass (top 6) 0
abbrev s_BadSlack__init_ : Stmt := inClass (top 7) 0
abbrev s_BadArc__init_ : Stmt := inClass (top 8) 0
abbrev s_BadNumber__init_ : Stmt := inClass (top 9) 0
abbrev s_BadText__init_ : Stmt := inClass (top 10) 0
abbrev s_Clash__init_ : Stmt := inClass (top 12) 0
abbrev s_TooMany__init_ : Stmt := inClass (top 13) 0
abbrev s_Unlike__init_ : Stmt := inClass (top 14) 0
abbrev s_NothingToUndo__init_ : Stmt := inClass (top 15) 0
abbrev s_NoArea__init_ : Stmt := inClass (top 17) 0
def d_L_begin : He.DefD := ⟨("_law_begin", none), "_law_begin", "_law_begin", defArgs s_L_begin, defBody s_L_begin, defScope s_L_begin, [], []⟩
def d_L_next : He.DefD := ⟨("_law_next", none), "_law_next", "_law_next", defArgs s_L_next, defBody s_L_next, defScope s_L_next, [], []⟩
def d_L_pick : He.DefD := ⟨("_law_pick", none), "_law_pick", "_law_pick", defArgs s_L_pick, defBody s_L_pick, defScope s_L_pick, [], []⟩
def d_L_things : He.DefD := ⟨("_law_things", none), "_law_things", "_law_things", defArgs s_L_things, defBody s_L_things, defScope s_L_things, [], []⟩
def d_L_made : He.DefD := ⟨("_law_made", none), "_law_made", "_law_made", defArgs s_L_made, defBody s_L_made, defScope s_L_made, [], []⟩
def d_L_named : He.DefD := ⟨("_law_named", none), "_law_named", "_law_named", defArgs s_L_named, defBody s_L_named, defScope s_L_named, [], []⟩
def d_L_told : He.DefD := ⟨("_law_told", none), "_law_told", "_law_told", defArgs s_L_told, defBody s_L_told, defScope s_L_told, [], []⟩
def d_L_kinds : He.DefD := ⟨("_law_kinds", none), "_law_kinds", "_law_kinds", defArgs s_L_kinds, defBody s_L_kinds, defScope s_L_kinds, [], []⟩
def d_law : He.DefD := ⟨("law", none), "law", "law", defArgs s_law, defBody s_law, defScope s_law, [], []⟩
def d_BadAreas__init_ : He.DefD := ⟨("BadAreas", some "__init__"), "__init__", "BadAreas.__init__", defArgs s_BadAreas__init_, defBody s_BadAreas__init_, defScope s_BadAreas__init_, [], []⟩
def d_BadName__init_ : He.DefD := ⟨("BadName", some "__init__"), "__init__", "BadName.__init__", defArgs s_BadName__init_, defBody s_BadName__init_, defScope s_BadName__init_, [], []⟩
def d_BadRing__init_ : He.DefD := ⟨("BadRing", some "__init__"), "__init__", "BadRing.__init__", defArgs s_BadRing__init_, defBody s_BadRing__init_, defScope s_BadRing__init_, [], []⟩
def d_Crossing__init_ : He.DefD := ⟨("Crossing", some "__init__"), "__init__", "Crossing.__init__", defArgs s_Crossing__init_, defBody s_Crossing__init_, defScope s_Crossing__init_, [], []⟩
def d_BadPoint__init_ : He.DefD := ⟨("BadPoint", some "__init__"), "__init__", "BadPoint.__init__", defArgs s_BadPoint__init_, defBody s_BadPoint__init_, defScope s_BadPoint__init_, [], []⟩
def d_BadSlack__init_ : He.DefD := ⟨("BadSlack", some "__init__"), "__init__", "BadSlack.__init__", defArgs s_BadSlack__init_, defBody s_BadSlack__init_, defScope s_BadSlack__init_, [], []⟩
def d_BadArc__init_ : He.DefD := ⟨("BadArc", some "__init__"), "__init__", "BadArc.__init__", defArgs s_BadArc__init_, defBody s_BadArc__init_, defScope s_BadArc__init_, [], []⟩
def d_BadNumber__init_ : He.DefD := ⟨("BadNumber", some "__init__"), "__init__", "BadNumber.__init__", defArgs s_BadNumber__init_, defBody s_BadNumber__init_, defScope s_BadNumber__init_, [], []⟩
def d_BadText__init_ : He.DefD := ⟨("BadText", some "__init__"), "__init__", "BadText.__init__", defArgs s_BadText__init_, defBody s_BadText__init_, defScope s_BadText__init_, [], []⟩
def d_Clash__init_ : He.DefD := ⟨("Clash", some "__init__"), "__init__", "Clash.__init__", defArgs s_Clash__init_, defBody s_Clash__init_, defScope s_Clash__init_, [], []⟩
def d_TooMany__init_ : He.DefD := ⟨("TooMany", some "__init__"), "__init__", "TooMany.__init__", defArgs s_TooMany__init_, defBody s_TooMany__init_, defScope s_TooMany__init_, [], []⟩
def d_Unlike__init_ : He.DefD := ⟨("Unlike", some "__init__"), "__init__", "Unlike.__init__", defArgs s_Unlike__init_, defBody s_Unlike__init_, defScope s_Unlike__init_, [], []⟩
def d_NothingToUndo__init_ : He.DefD := ⟨("NothingToUndo", some "__init__"), "__init__", "NothingToUndo.__init__", defArgs s_NothingToUndo__init_, defBody s_NothingToUndo__init_, defScope s_NothingToUndo__init_, [], []⟩
def d_NoArea__init_ : He.DefD := ⟨("NoArea", some "__init__"), "__init__", "NoArea.__init__", defArgs s_NoArea__init_, defBody s_NoArea__init_, defScope s_NoArea__init_, [], []⟩
def fnL : List He.DefD := [d_L_begin, d_L_next, d_L_pick, d_L_things, d_L_made, d_L_named, d_L_told, d_L_kinds, d_law, d_BadAreas__init_, d_BadName__init_, d_BadRing__init_, d_Crossing__init_, d_BadPoint__init_, d_BadSlack__init_, d_BadArc__init_, d_BadNumber__init_, d_BadText__init_, d_Clash__init_, d_TooMany__init_, d_Unlike__init_, d_NothingToUndo__init_, d_NoArea__init_]
def glL : List He5.DefA := []
def faL : List He.Fa := [.free "len", .free "isinstance", .free "ValueError", .free "RuntimeError", .free "LookupError", .free "range", .free "repr", .free "enumerate", .glo "_law_begin", .glo "_law_next", .glo "_law_pick", .glo "_law_things", .glo "_law_made", .glo "_law_named", .glo "_law_told", .glo "_law_kinds", .glo "law", .glo "BadAreas", .glo "BadName", .glo "BadRing", .glo "Crossing", .glo "BadPoint", .glo "BadSlack", .glo "BadArc", .glo "BadNumber", .glo "BadText", .glo "Clash", .glo "TooMany", .glo "Unlike", .glo "NothingToUndo", .glo "NoArea", .glo "SheetError", .glo "StateError", .glo "MissingError"]
def exL (K : PySem.W.Frag) : Bool := excXF famValue K "BadAreas" ["given"] && excXF famValue K "BadName" ["given"] && excXF famValue K "BadRing" ["name", "index"] && excXF famValue K "Crossing" ["first", "second"] && excXF famValue K "BadPoint" ["given"] && excXF famValue K "BadSlack" ["given"] && excXF famValue K "BadArc" ["given"] && excXF famValue K "BadNumber" ["given"] && excXF famValue K "BadText" ["line", "word"] && excXF famRuntime K "Clash" ["pair"] && excXF famRuntime K "TooMany" ["most"] && excXF famRuntime K "Unlike" ["other"] && excXF famRuntime K "NothingToUndo" ["count"] && excXF famLookup K "NoArea" ["name"] && famX K "SheetError" famValue.ini && famX K "StateError" famRuntime.ini && famX K "MissingError" famLookup.ini && (K.lookup sysModules).isSome && exAK K
def loose0 : List Str := ["SheetError", "BadAreas", "BadName", "BadRing", "Crossing", "BadPoint", "BadSlack", "BadArc", "BadNumber", "BadText", "StateError", "Clash", "TooMany", "Unlike", "NothingToUndo", "MissingError", "NoArea", "_law_begin", "_law_next", "_law_pick"]
def loose1 : List Str := ["_law_things", "_law_made", "_law_named", "_law_told", "_law_kinds"]
def looseL : List Str := loose0 ++ loose1
abbrev RL : PySem.W.OpenRow := PySem.W.OpenLaw.row PySem.Challenge.rw_sharedborders_k01_errors_made
def asL : List Addr := (List.range 1500).reverse
abbrev hkL : PySem.W.Hook := hookW asL faL fnL (lamDefs.map fun q => ((q, none) : Str × Option Str)) exL glL
def obL (s : PySem.W.SharedT) : AlZ := obsW asL faL fnL (lamDefs.map fun q => ((q, none) : Str × Option Str)) exL glL (HandSHeadRun.getT s)
theorem ob_eqL (s : PySem.W.SharedT) : obL s = hkL.obs s.abs := obsW_eq (HandSHeadRun.getT_eq s)
theorem runL (w : World) : HandSHeadRun.RunEq RL (PySem.W.view RL.prog [27]) hkL obL 20000 looseL w := by
  intro os
  kernel_rfl
end DL
set_option maxHeartbeats 4000000
namespace DL
open PySem PySem.Spec PyProof.Rows L2
/-- what the text has at its top -/
structure Tx (K : PySem.W.Frag) (mg : Str → Option Value) : Prop where
  z_len : mg "len" = none
  z_isinstance : mg "isinstance" = none
  z_ValueError : mg "ValueError" = none
  z_RuntimeError : mg "RuntimeError" = none
  z_LookupError : mg "LookupError" = none
  z_range : mg "range" = none
  z_repr : mg "repr" = none
  z_enumerate : mg "enumerate" = none
abbrev N_L_begin : List Str := ["_law_script"]
theorem sc_L_begin : FnScope N_L_begin ["_law_script"] (defScope s_L_begin) := ⟨rfl, rfl, rfl, by decide +kernel, rfl, by decide +kernel, by decide +kernel⟩
theorem b_L_begin {P : Program} {wd : World} {K : PySem.W.Frag} {mg : Str → Option Value} {base : Heap} (f : Addr) (cdv : Value) (A : Around) (outer : List Env) (s : Shared) (H : Hp) (E : XK) :
    PSs (cxOf CX0 P wd K mg base N_L_begin "_law_begin" (defScope s_L_begin) f cdv A outer s H E).nox (defBody s_L_begin) (t_begin K) :=
  pss_one (ps_ret (pe_disp (pps_cons pe_str (pe_op op_catS (pv 0) (pe_lst (pa_cons pe_int pa_nil))) (pps_cons pe_str pe_int (pps_cons pe_str pe_int (pps_cons pe_str pe_int pps_nil)))) rfl rfl (by simp) (by decide)))
abbrev N_L_next : List Str := ["_law_draw", "_law_many", "_law_cell", "_law_cells", "_law_number", "_law_k"]
theorem sc_L_next : FnScope N_L_next ["_law_draw", "_law_many"] (defScope s_L_next) := ⟨rfl, rfl, rfl, by decide +kernel, rfl, by decide +kernel, by decide +kernel⟩
theorem b_L_next {P : Program} {wd : World} {K : PySem.W.Frag} {mg : Str → Option Value} {base : Heap} (zl : mg "len" = none) (f : Addr) (cdv : Value) (A : Around) (outer : List Env) (s : Shared) (H : Hp) (E : XK) (hr : Room 0 (A.deeper (envOfC "_law_next" (defScope s_L_next) s.heap.objs.size f cdv))) :
    PSs (cxOf CX0 P wd K mg base N_L_next "_law_next" (defScope s_L_next) f cdv A outer s H E).nox (defBody s_L_next) (t_next K) := by
  have hu : (cxOf CX0 P wd K mg base N_L_next "_law_next" (defScope s_L_next) f cdv A outer s H E).nox.A.units + 1 < cLine := by
    have := hr.units
    show (A.deeper (envOfC "_law_next" (defScope s_L_next) s.heap.objs.size f cdv)).units + 1 < cLine
    omega
  refine pss_cons (ps_if (pt_cmpR op_gt (pe_dget hu (pv 0) pe_str (fun _ _ => rfl)) pe_int (nomark _)) (pss_cons (ps_asg (pe_tup (pa_cons (pe_dget hu (pv 0) pe_str (fun _ _ => rfl)) (pa_cons (pe_op op_fdivW (pe_dget hu (pv 0) pe_str (fun _ _ => rfl)) (pv 1)) pa_nil))) (pg_tup rfl (pgs_cons (pg_name (i := 2) sc_L_next.nd rfl (Or.inl rfl)) (pgs_cons (pg_sub (pv 0) pe_str (set_dict hu)) pgs_nil)))) (pss_one (ps_ret (pe_op op_mod (pv 2) (pv 1))))) pss_nil) ?_
  refine pss_cons (ps_set (i := 3) sc_L_next.nd rfl (Or.inl rfl) (pe_dget hu (pv 0) pe_str (fun _ _ => rfl))) ?_
  refine pss_cons (ps_set (i := 2) sc_L_next.nd rfl (Or.inl rfl) (pe_ix ix_list (pv 3) (pe_op op_mod (pe_dget hu (pv 0) pe_str (fun _ _ => rfl)) (pe_callB call_len_seq (by rfl) zl PySem.boot_len (pa_cons (pv 3) pa_nil))) (fun _ _ => rfl))) ?_
  refine pss_cons (ps_dput hu (pv 0) pe_str (pe_op op_add (pe_dget hu (pv 0) pe_str (fun _ _ => rfl)) pe_int) (by rfl)) ?_
  refine pss_cons (ps_if (PW.pt (pw_and (pt_cmpR op_ge (pv 2) (pe_op op_pow pe_int pe_int) (nomark _)) (pw_and1 (pt_cmpR op_le (pe_dget hu (pv 0) pe_str (fun _ _ => rfl)) (pe_callB call_len_seq (by rfl) zl PySem.boot_len (pa_cons (pv 3) pa_nil)) (nomark _))))) (pss_cons (ps_dput hu (pv 0) pe_str (pe_op op_fdivW (pv 2) (pv 1)) (by rfl)) (pss_one (ps_ret (pe_op op_mod (pv 2) (pv 1))))) pss_nil) ?_
  refine pss_cons (ps_dput hu (pv 0) pe_str (pe_op op_add (pe_dget hu (pv 0) pe_str (fun _ _ => rfl)) pe_int) (by rfl)) ?_
  refine pss_cons (ps_set (i := 4) sc_L_next.nd rfl (Or.inl rfl) (pe_op op_add (pe_op op_mod (pv 2) pe_int) (pe_op op_mul (pe_op op_mul pe_int (pe_dget hu (pv 0) pe_str (fun _ _ => rfl))) (pe_dget hu (pv 0) pe_str (fun _ _ => rfl))))) ?_
  refine pss_cons (ps_for PassesOwn.never rfl (pi_tup (pe_tup (pa_cons (pe_dget hu (pv 0) pe_str (fun _ _ => rfl)) (pa_cons (pe_dget hu (pv 0) pe_str (fun _ _ => rfl)) pa_nil)))) (pg_name (i := 5) sc_L_next.nd rfl (Or.inl rfl)) ?_) ?_
  · refine pss_cons (ps_set (i := 4) sc_L_next.nd rfl (Or.inl rfl) (pe_op op_mod (pe_op op_mul (pe_op op_add (pe_op op_add (pv 4) (pe_op op_mul pe_int (pv 5))) pe_int) pe_int) pe_int)) ?_
    exact pss_one (ps_set (i := 4) sc_L_next.nd rfl (Or.inl rfl) (pe_op op_mod (pe_op op_mul (pv 4) (pe_op op_add pe_int (pe_op op_mul pe_int (pe_op op_mod (pv 5) pe_int)))) pe_int))
  · exact pss_one (ps_ret (pe_op op_mod (pe_op op_fdiv (pv 4) pe_int) (pv 1)))

/-! ### _law_pick -/
abbrev N_L_pick : List Str := ["_law_draw", "_law_some"]
theorem sc_L_pick : FnScope N_L_pick ["_law_draw", "_law_some"] (defScope s_L_pick) := ⟨rfl, rfl, rfl, by decide +kernel, rfl, by decide +kernel, by decide +kernel⟩
def w_L_pick : WS := (sRet (eBin oIx (eVarB 1) (eCall 2 C_L_next [] (aCons (eVar 0) (aCons (eCB bLen (aCons (eVarB 1) aNil)) aNil)))))
theorem b_L_pick {P : Program} {wd : World} {K : PySem.W.Frag} {mg : Str → Option Value} {base : Heap} (T : Tx K mg) (F_L_next : Fn P wd K mg base "_law_next" ["_law_draw", "_law_many"] 2 1 C_L_next) (f : Addr) (cdv : Value) (A : Around) (outer : List Env) (s : Shared) (H : Hp) (E : XK) (hr : Room 1 (A.deeper (envOfC "_law_pick" (defScope s_L_pick) s.heap.objs.size f cdv))) :
    PSs (cxOf CX0 P wd K mg base N_L_pick "_law_pick" (defScope s_L_pick) f cdv A outer s H E).nox (defBody s_L_pick) (upS K E w_L_pick) :=
  (qss_one (qs_ret (q_ix ix_seq opd_ix (qb_v 1 (pv 1)) (qb (q_f F_L_next calm_L_next hr (by decide) (by rfl) (qa_cons (q_v 0 (pv 0)) (qa_cons (q_B call_lenU bd_len (by rfl) T.z_len PySem.boot_len (qab_cons (qb_v 1 (pv 1)) qab_nil)) qa_nil)))))))
/-! ### _law_things -/
abbrev N_L_things : List Str := []
theorem sc_L_things : FnScope N_L_things [] (defScope s_L_things) := ⟨rfl, rfl, rfl, by decide +kernel, rfl, by decide +kernel, by decide +kernel⟩
def w_L_things : WS := (sRet (eFz (nLst (aCons (eC (.int 0)) (aCons (eNeg (eC (.int 1))) (aCons (eC (.int 5)) (aCons (eC (.bl true)) (aCons (eC .non) (aCons (eC (.str "")) (aCons (eC (.str "a")) (aCons (eTup aNil) (aCons (eTup (aCons (eC (.int 0)) (aCons (eC (.int 1)) aNil))) (aCons (eFz (nLst aNil)) (aCons (eFz (nLst (aCons (eC (.int 2)) aNil))) (aCons (eC d0) (aCons (eTup (aCons (eC (.str "k")) (aCons (eC (.int 3)) aNil))) (aCons (eBin oPow (eC (.int 10)) (eC (.int 30))) (aCons (eC (.str "arc")) aNil))))))))))))))))))
theorem b_L_things {P : Program} {wd : World} {K : PySem.W.Frag} {mg : Str → Option Value} {base : Heap} (T : Tx K mg)  (f : Addr) (cdv : Value) (A : Around) (outer : List Env) (s : Shared) (H : Hp) (E : XK) (hr : Room 0 (A.deeper (envOfC "_law_things" (defScope s_L_things) s.heap.objs.size f cdv))) :
    PSs (cxOf CX0 P wd K mg base N_L_things "_law_things" (defScope s_L_things) f cdv A outer s H E).nox (defBody s_L_things) (upS K E w_L_things) :=
  (qss_one (qs_ret (qf (qn_lst (qa_cons q_int (qa_cons (q_neg (qb q_int)) (qa_cons q_int (qa_cons q_bl (qa_cons q_non (qa_cons q_str (qa_cons q_str (qa_cons (q_tup qa_nil) (qa_cons (q_tup (qa_cons q_int (qa_cons q_int qa_nil))) (qa_cons (qf (qn_lst qa_nil)) (qa_cons (qf (qn_lst (qa_cons q_int qa_nil))) (qa_cons q_d0 (qa_cons (q_tup (qa_cons q_str (qa_cons q_int qa_nil))) (qa_cons (q_op op_pow opd_pow (qb q_int) (qb q_int)) (qa_cons q_str qa_nil)))))))))))))))))))
/-! ### _law_made -/
abbrev N_L_made : List Str := ["_law_some", "_law_partner", "_law_made_here"]
theorem sc_L_made : FnScope N_L_made ["_law_some", "_law_partner"] (defScope s_L_made) := ⟨rfl, rfl, rfl, by decide +kernel, rfl, by decide +kernel, by decide +kernel⟩
def w_L_made : WS := (sSeq (sAsg (eFz (nLst (aCons (eExc "BadAreas" ["given"] cdTD (aCons (eVar 0) aNil)) (aCons (eExc "BadName" ["given"] cdTD (aCons (eVar 0) aNil)) (aCons (eExc "BadRing" ["name", "index"] cdTD (aCons (eVar 0) (aCons (eVar 1) aNil))) (aCons (eExc "Crossing" ["first", "second"] cdTD (aCons (eVar 0) (aCons (eVar 1) aNil))) aNil)))))) (gNm 2))
    (sSeq (sAsg (eBin oAdd (eVarB 2) (eFz (nLst (aCons (eExc "BadPoint" ["given"] cdTD (aCons (eVar 0) aNil)) (aCons (eExc "BadSlack" ["given"] cdTD (aCons (eVar 0) aNil)) aNil))))) (gNm 2))
    (sSeq (sAsg (eBin oAdd (eVarB 2) (eFz (nLst (aCons (eExc "BadArc" ["given"] cdTD (aCons (eVar 0) aNil)) (aCons (eExc "BadNumber" ["given"] cdTD (aCons (eVar 0) aNil)) (aCons (eExc "BadText" ["line", "word"] cdFD (aCons (eVar 0) (aCons (eVar 1) aNil))) (aCons (eExc "Clash" ["pair"] cdTD (aCons (eVar 0) aNil)) (aCons (eExc "TooMany" ["most"] cdFD (aCons (eVar 0) aNil)) (aCons (eExc "Unlike" ["other"] cdTD (aCons (eVar 0) aNil)) aNil))))))))) (gNm 2))
    (sRet (eBin oAdd (eVarB 2) (eFz (nLst (aCons (eExc "NothingToUndo" ["count"] cdTD (aCons (eVar 0) aNil)) (aCons (eExc "NoArea" ["name"] cdTD (aCons (eVar 0) aNil)) aNil)))))))))
theorem b_L_made {P : Program} {wd : World} {K : PySem.W.Frag} {mg : Str → Option Value} {base : Heap} (T : Tx K mg) (XP_BadAreas : ExP famValue P wd K mg base "BadAreas" ["self", "given"] ["given"] cdT 1) (XP_BadName : ExP famValue P wd K mg base "BadName" ["self", "given"] ["given"] cdT 1) (XP_BadRing : ExP famValue P wd K mg base "BadRing" ["self", "name", "index"] ["name", "index"] cdT 1) (XP_Crossing : ExP famValue P wd K mg base "Crossing" ["self", "first", "second"] ["first", "second"] cdT 1) (XP_BadPoint : ExP famValue P wd K mg base "BadPoint" ["self", "given"] ["given"] cdT 1) (XP_BadSlack : ExP famValue P wd K mg base "BadSlack" ["self", "given"] ["given"] cdT 1) (XP_BadArc : ExP famValue P wd K mg base "BadArc" ["self", "given"] ["given"] cdT 1) (XP_BadNumber : ExP famValue P wd K mg base "BadNumber" ["self", "given"] ["given"] cdT 1) (XP_BadText : ExP famValue P wd K mg base "BadText" ["self", "line", "word"] ["line", "word"] cdF 1) (XP_Clash : ExP famRuntime P wd K mg base "Clash" ["self", "pair"] ["pair"] cdT 1) (XP_TooMany : ExP famRuntime P wd K mg base "TooMany" ["self", "most"] ["most"] cdF 1) (XP_Unlike : ExP famRuntime P wd K mg base "Unlike" ["self", "other"] ["other"] cdT 1) (XP_NothingToUndo : ExP famRuntime P wd K mg base "NothingToUndo" ["self", "count"] ["count"] cdT 1) (XP_NoArea : ExP famLookup P wd K mg base "NoArea" ["self", "name"] ["name"] cdT 1) (f : Addr) (cdv : Value) (A : Around) (outer : List Env) (s : Shared) (H : Hp) (E : XK) (hgd : A.guards = some []) (hr : Room 2 (A.deeper (envOfC "_law_made" (defScope s_L_made) s.heap.objs.size f cdv))) :
    PSs (cxOf CX0 P wd K mg base N_L_made "_law_made" (defScope s_L_made) f cdv A outer s H E).nox (defBody s_L_made) (upS K E w_L_made) :=
  (qss_cons (qs_set (i := 2) sc_L_made.nd rfl (Or.inl rfl) (qf (qn_lst (qa_cons (q_excP XP_BadAreas cdT_ok hgd hr (by decide) (by rfl) (by decide) (qa_cons (q_v 0 (pv 0)) qa_nil)) (qa_cons (q_excP XP_BadName cdT_ok hgd hr (by decide) (by rfl) (by decide) (qa_cons (q_v 0 (pv 0)) qa_nil)) (qa_cons (q_excP XP_BadRing cdT_ok hgd hr (by decide) (by rfl) (by decide) (qa_cons (q_v 0 (pv 0)) (qa_cons (q_v 1 (pv 1)) qa_nil))) (qa_cons (q_excP XP_Crossing cdT_ok hgd hr (by decide) (by rfl) (by decide) (qa_cons (q_v 0 (pv 0)) (qa_cons (q_v 1 (pv 1)) qa_nil))) qa_nil)))))))
    (qss_cons (qs_set (i := 2) sc_L_made.nd rfl (Or.inl rfl) (q_op op_addU opd_add (qb_v 2 (pv 2)) (qbf (qn_lst (qa_cons (q_excP XP_BadPoint cdT_ok hgd hr (by decide) (by rfl) (by decide) (qa_cons (q_v 0 (pv 0)) qa_nil)) (qa_cons (q_excP XP_BadSlack cdT_ok hgd hr (by decide) (by rfl) (by decide) (qa_cons (q_v 0 (pv 0)) qa_nil)) qa_nil))))))
    (qss_cons (qs_set (i := 2) sc_L_made.nd rfl (Or.inl rfl) (q_op op_addU opd_add (qb_v 2 (pv 2)) (qbf (qn_lst (qa_cons (q_excP XP_BadArc cdT_ok hgd hr (by decide) (by rfl) (by decide) (qa_cons (q_v 0 (pv 0)) qa_nil)) (qa_cons (q_excP XP_BadNumber cdT_ok hgd hr (by decide) (by rfl) (by decide) (qa_cons (q_v 0 (pv 0)) qa_nil)) (qa_cons (q_excP XP_BadText cdF_ok hgd hr (by decide) (by rfl) (by decide) (qa_cons (q_v 0 (pv 0)) (qa_cons (q_v 1 (pv 1)) qa_nil))) (qa_cons (q_excP XP_Clash cdT_ok hgd hr (by decide) (by rfl) (by decide) (qa_cons (q_v 0 (pv 0)) qa_nil)) (qa_cons (q_excP XP_TooMany cdF_ok hgd hr (by decide) (by rfl) (by decide) (qa_cons (q_v 0 (pv 0)) qa_nil)) (qa_cons (q_excP XP_Unlike cdT_ok hgd hr (by decide) (by rfl) (by decide) (qa_cons (q_v 0 (pv 0)) qa_nil)) qa_nil))))))))))
    (qss_one (qs_ret (q_op op_addU opd_add (qb_v 2 (pv 2)) (qbf (qn_lst (qa_cons (q_excP XP_NothingToUndo cdT_ok hgd hr (by decide) (by rfl) (by decide) (qa_cons (q_v 0 (pv 0)) qa_nil)) (qa_cons (q_excP XP_NoArea cdT_ok hgd hr (by decide) (by rfl) (by decide) (qa_cons (q_v 0 (pv 0)) qa_nil)) qa_nil))))))))))
/-! ### _law_named -/
abbrev N_L_named : List Str := ["_law_some", "_law_partner", "_law_made_here"]
theorem sc_L_named : FnScope N_L_named ["_law_some", "_law_partner"] (defScope s_L_named) := ⟨rfl, rfl, rfl, by decide +kernel, rfl, by decide +kernel, by decide +kernel⟩
def w_L_named : WS := (sSeq (sAsg (eFz (nLst (aCons (eExcK "BadAreas" ["given"] cdTD (List.length (["given"] : List Str)) [0] (aCons (eVar 0) aNil)) (aCons (eExcK "BadName" ["given"] cdTD (List.length (["given"] : List Str)) [0] (aCons (eVar 0) aNil)) (aCons (eExcK "BadRing" ["name", "index"] cdTD (List.length (["index", "name"] : List Str)) [1, 0] (aCons (eVar 1) (aCons (eVar 0) aNil))) aNil))))) (gNm 2))
    (sSeq (sAsg (eBin oAdd (eVarB 2) (eFz (nLst (aCons (eExcK "Crossing" ["first", "second"] cdTD (List.length (["second", "first"] : List Str)) [1, 0] (aCons (eVar 1) (aCons (eVar 0) aNil))) (aCons (eExcK "BadPoint" ["given"] cdTD (List.length (["given"] : List Str)) [0] (aCons (eVar 0) aNil)) (aCons (eExcK "BadSlack" ["given"] cdTD (List.length (["given"] : List Str)) [0] (aCons (eVar 0) aNil)) aNil)))))) (gNm 2))
    (sSeq (sAsg (eBin oAdd (eVarB 2) (eFz (nLst (aCons (eExcK "BadArc" ["given"] cdTD (List.length (["given"] : List Str)) [0] (aCons (eVar 0) aNil)) (aCons (eExcK "BadNumber" ["given"] cdTD (List.length (["given"] : List Str)) [0] (aCons (eVar 0) aNil)) (aCons (eExcK "BadText" ["line", "word"] cdFD (List.length (["word", "line"] : List Str)) [1, 0] (aCons (eVar 1) (aCons (eVar 0) aNil))) aNil)))))) (gNm 2))
    (sSeq (sAsg (eBin oAdd (eVarB 2) (eFz (nLst (aCons (eExcK "Clash" ["pair"] cdTD (List.length (["pair"] : List Str)) [0] (aCons (eVar 0) aNil)) (aCons (eExcK "TooMany" ["most"] cdFD (List.length (["most"] : List Str)) [0] (aCons (eVar 0) aNil)) (aCons (eExcK "Unlike" ["other"] cdTD (List.length (["other"] : List Str)) [0] (aCons (eVar 0) aNil)) aNil)))))) (gNm 2))
    (sRet (eBin oAdd (eVarB 2) (eFz (nLst (aCons (eExcK "NothingToUndo" ["count"] cdTD (List.length (["count"] : List Str)) [0] (aCons (eVar 0) aNil)) (aCons (eExcK "NoArea" ["name"] cdTD (List.length (["name"] : List Str)) [0] (aCons (eVar 0) aNil)) aNil))))))))))
theorem b_L_named {P : Program} {wd : World} {K : PySem.W.Frag} {mg : Str → Option Value} {base : Heap} (T : Tx K mg) (XK_BadAreas_given : ExK famValue P wd K mg base "BadAreas" ["self", "given"] ["given"] cdT 1 ["given"] [0]) (XK_BadName_given : ExK famValue P wd K mg base "BadName" ["self", "given"] ["given"] cdT 1 ["given"] [0]) (XK_BadRing_index_name : ExK famValue P wd K mg base "BadRing" ["self", "name", "index"] ["name", "index"] cdT 1 ["index", "name"] [1, 0]) (XK_Crossing_second_first : ExK famValue P wd K mg base "Crossing" ["self", "first", "second"] ["first", "second"] cdT 1 ["second", "first"] [1, 0]) (XK_BadPoint_given : ExK famValue P wd K mg base "BadPoint" ["self", "given"] ["given"] cdT 1 ["given"] [0]) (XK_BadSlack_given : ExK famValue P wd K mg base "BadSlack" ["self", "given"] ["given"] cdT 1 ["given"] [0]) (XK_BadArc_given : ExK famValue P wd K mg base "BadArc" ["self", "given"] ["given"] cdT 1 ["given"] [0]) (XK_BadNumber_given : ExK famValue P wd K mg base "BadNumber" ["self", "given"] ["given"] cdT 1 ["given"] [0]) (XK_BadText_word_line : ExK famValue P wd K mg base "BadText" ["self", "line", "word"] ["line", "word"] cdF 1 ["word", "line"] [1, 0]) (XK_Clash_pair : ExK famRuntime P wd K mg base "Clash" ["self", "pair"] ["pair"] cdT 1 ["pair"] [0]) (XK_TooMany_most : ExK famRuntime P wd K mg base "TooMany" ["self", "most"] ["most"] cdF 1 ["most"] [0]) (XK_Unlike_other : ExK famRuntime P wd K mg base "Unlike" ["self", "other"] ["other"] cdT 1 ["other"] [0]) (XK_NothingToUndo_count : ExK famRuntime P wd K mg base "NothingToUndo" ["self", "count"] ["count"] cdT 1 ["count"] [0]) (XK_NoArea_name : ExK famLookup P wd K mg base "NoArea" ["self", "name"] ["name"] cdT 1 ["name"] [0]) (f : Addr) (cdv : Value) (A : Around) (outer : List Env) (s : Shared) (H : Hp) (E : XK) (hgd : A.guards = some []) (hr : Room 2 (A.deeper (envOfC "_law_named" (defScope s_L_named) s.heap.objs.size f cdv))) :
    PSs (cxOf CX0 P wd K mg base N_L_named "_law_named" (defScope s_L_named) f cdv A outer s H E).nox (defBody s_L_named) (upS K E w_L_named) :=
  (qss_cons (qs_set (i := 2) sc_L_named.nd rfl (Or.inl rfl) (qf (qn_lst (qa_cons (q_excK (pm := [0]) XK_BadAreas_given cdT_ok hgd hr (by decide) (by rfl) (qk_cons (q_v 0 (pv 0)) qk_nil)) (qa_cons (q_excK (pm := [0]) XK_BadName_given cdT_ok hgd hr (by decide) (by rfl) (qk_cons (q_v 0 (pv 0)) qk_nil)) (qa_cons (q_excK (pm := [1, 0]) XK_BadRing_index_name cdT_ok hgd hr (by decide) (by rfl) (qk_cons (q_v 1 (pv 1)) (qk_cons (q_v 0 (pv 0)) qk_nil))) qa_nil))))))
    (qss_cons (qs_set (i := 2) sc_L_named.nd rfl (Or.inl rfl) (q_op op_addU opd_add (qb_v 2 (pv 2)) (qbf (qn_lst (qa_cons (q_excK (pm := [1, 0]) XK_Crossing_second_first cdT_ok hgd hr (by decide) (by rfl) (qk_cons (q_v 1 (pv 1)) (qk_cons (q_v 0 (pv 0)) qk_nil))) (qa_cons (q_excK (pm := [0]) XK_BadPoint_given cdT_ok hgd hr (by decide) (by rfl) (qk_cons (q_v 0 (pv 0)) qk_nil)) (qa_cons (q_excK (pm := [0]) XK_BadSlack_given cdT_ok hgd hr (by decide) (by rfl) (qk_cons (q_v 0 (pv 0)) qk_nil)) qa_nil)))))))
    (qss_cons (qs_set (i := 2) sc_L_named.nd rfl (Or.inl rfl) (q_op op_addU opd_add (qb_v 2 (pv 2)) (qbf (qn_lst (qa_cons (q_excK (pm := [0]) XK_BadArc_given cdT_ok hgd hr (by decide) (by rfl) (qk_cons (q_v 0 (pv 0)) qk_nil)) (qa_cons (q_excK (pm := [0]) XK_BadNumber_given cdT_ok hgd hr (by decide) (by rfl) (qk_cons (q_v 0 (pv 0)) qk_nil)) (qa_cons (q_excK (pm := [1, 0]) XK_BadText_word_line cdF_ok hgd hr (by decide) (by rfl) (qk_cons (q_v 1 (pv 1)) (qk_cons (q_v 0 (pv 0)) qk_nil))) qa_nil)))))))
    (qss_cons (qs_set (i := 2) sc_L_named.nd rfl (Or.inl rfl) (q_op op_addU opd_add (qb_v 2 (pv 2)) (qbf (qn_lst (qa_cons (q_excK (pm := [0]) XK_Clash_pair cdT_ok hgd hr (by decide) (by rfl) (qk_cons (q_v 0 (pv 0)) qk_nil)) (qa_cons (q_excK (pm := [0]) XK_TooMany_most cdF_ok hgd hr (by decide) (by rfl) (qk_cons (q_v 0 (pv 0)) qk_nil)) (qa_cons (q_excK (pm := [0]) XK_Unlike_other cdT_ok hgd hr (by decide) (by rfl) (qk_cons (q_v 0 (pv 0)) qk_nil)) qa_nil)))))))
    (qss_one (qs_ret (q_op op_addU opd_add (qb_v 2 (pv 2)) (qbf (qn_lst (qa_cons (q_excK (pm := [0]) XK_NothingToUndo_count cdT_ok hgd hr (by decide) (by rfl) (qk_cons (q_v 0 (pv 0)) qk_nil)) (qa_cons (q_excK (pm := [0]) XK_NoArea_name cdT_ok hgd hr (by decide) (by rfl) (qk_cons (q_v 0 (pv 0)) qk_nil)) qa_nil)))))))))))
/-! ### _law_told -/
abbrev N_L_told : List Str := ["_law_made_here", "_law_ring", "_law_crossing", "_law_wrong", "_law_clash", "_law_many", "_law_unlike", "_law_none", "_law_lost", "_law_told_here", "_law_k"]
theorem sc_L_told : FnScope N_L_told ["_law_made_here"] (defScope s_L_told) := ⟨rfl, rfl, rfl, by decide +kernel, rfl, by decide +kernel, by decide +kernel⟩
def w_L_told : WS := (sSeq (sPar3 1 2 3 (aCons (eBin oIx (eVarB 0) (eC (.int 2))) (aCons (eBin oIx (eVarB 0) (eC (.int 3))) (aCons (eBin oIx (eVarB 0) (eC (.int 8))) aNil))))
    (sSeq (sPar3 4 5 6 (aCons (eBin oIx (eVarB 0) (eC (.int 9))) (aCons (eBin oIx (eVarB 0) (eC (.int 10))) (aCons (eBin oIx (eVarB 0) (eC (.int 11))) aNil))))
    (sSeq (sPar 7 8 (aCons (eBin oIx (eVarB 0) (eC (.int 12))) (aCons (eBin oIx (eVarB 0) (eC (.int 13))) aNil)))
    (sSeq (sAsg (eFz (nLc [10] (iSq (eTup (aCons (eC (.int 0)) (aCons (eC (.int 1)) (aCons (eC (.int 4)) (aCons (eC (.int 5)) (aCons (eC (.int 6)) (aCons (eC (.int 7)) aNil)))))))) (gNm 10) wYes (eFldE csE flE "given" (eBin oIx (eVarB 0) (eVarB 10))))) (gNm 9))
    (sSeq (sAsg (eBin oAdd (eVarB 9) (eFz (nLst (aCons (eFldE csE flE "name" (eVarB 1)) (aCons (eFldE csE flE "index" (eVarB 1)) (aCons (eFldE csE flE "first" (eVarB 2)) aNil)))))) (gNm 9))
    (sSeq (sAsg (eBin oAdd (eVarB 9) (eFz (nLst (aCons (eFldE csE flE "second" (eVarB 2)) (aCons (eFldE csE flE "line" (eVarB 3)) (aCons (eFldE csE flE "word" (eVarB 3)) (aCons (eFldE csE flE "pair" (eVarB 4)) aNil))))))) (gNm 9))
    (sRet (eBin oAdd (eVarB 9) (eFz (nLst (aCons (eFldE csE flE "most" (eVarB 5)) (aCons (eFldE csE flE "other" (eVarB 6)) (aCons (eFldE csE flE "count" (eVarB 7)) (aCons (eFldE csE flE "name" (eVarB 8)) aNil))))))))))))))
theorem b_L_told {P : Program} {wd : World} {K : PySem.W.Frag} {mg : Str → Option Value} {base : Heap} (T : Tx K mg) (XA : ExA K mg) (f : Addr) (cdv : Value) (A : Around) (outer : List Env) (s : Shared) (H : Hp) (E : XK) (hr : Room 0 (A.deeper (envOfC "_law_told" (defScope s_L_told) s.heap.objs.size f cdv))) :
    PSs (cxOf CX0 P wd K mg base N_L_told "_law_told" (defScope s_L_told) f cdv A outer s H E).nox (defBody s_L_told) (upS K E w_L_told) :=
  (qss_cons (qs_par3 (i := 1) (j := 2) (l := 3) rfl sc_L_told.nd rfl rfl rfl (by decide) (by decide) (by decide) rfl rfl rfl (qa_cons (q_ix ix_seq opd_ix (qb_v 0 (pv 0)) (qb q_int)) (qa_cons (q_ix ix_seq opd_ix (qb_v 0 (pv 0)) (qb q_int)) (qa_cons (q_ix ix_seq opd_ix (qb_v 0 (pv 0)) (qb q_int)) qa_nil))) (by rfl))
    (qss_cons (qs_par3 (i := 4) (j := 5) (l := 6) rfl sc_L_told.nd rfl rfl rfl (by decide) (by decide) (by decide) rfl rfl rfl (qa_cons (q_ix ix_seq opd_ix (qb_v 0 (pv 0)) (qb q_int)) (qa_cons (q_ix ix_seq opd_ix (qb_v 0 (pv 0)) (qb q_int)) (qa_cons (q_ix ix_seq opd_ix (qb_v 0 (pv 0)) (qb q_int)) qa_nil))) (by rfl))
    (qss_cons (qs_par (i := 7) (j := 8) rfl sc_L_told.nd rfl rfl (by decide) rfl rfl (qa_cons (q_ix ix_seq opd_ix (qb_v 0 (pv 0)) (qb q_int)) (qa_cons (q_ix ix_seq opd_ix (qb_v 0 (pv 0)) (qb q_int)) qa_nil)) (by rfl))
    (qss_cons (qs_setLc (i := 9) (own := [("_law_k", 10)]) rfl sc_L_told.nd rfl rfl (sw_true rfl rfl rfl (by decide +kernel)) (qi_sq (q_tup (qa_cons q_int (qa_cons q_int (qa_cons q_int (qa_cons q_int (qa_cons q_int (qa_cons q_int qa_nil)))))))) (blkOk_by (own := [("_law_k", 10)]) (N := N_L_told) (sc := defScope s_L_told) (by decide +kernel)) (fun _ _ _ _ _ => (qg_nm (pg_name (i := 10) sc_L_told.nd rfl (Or.inl rfl)))) (fun _ _ _ _ _ => qts_nil) (fun _ _ _ _ _ => (q_fldE XA.q (qb (q_ix ix_seq opd_ix (qb_v 0 (pv 0)) (qb_v 10 (pv 10)))))))
    (qss_cons (qs_set (i := 9) sc_L_told.nd rfl (Or.inl rfl) (q_op op_addU opd_add (qb_v 9 (pv 9)) (qbf (qn_lst (qa_cons (q_fldE XA.q (qb_v 1 (pv 1))) (qa_cons (q_fldE XA.q (qb_v 1 (pv 1))) (qa_cons (q_fldE XA.q (qb_v 2 (pv 2))) qa_nil)))))))
    (qss_cons (qs_set (i := 9) sc_L_told.nd rfl (Or.inl rfl) (q_op op_addU opd_add (qb_v 9 (pv 9)) (qbf (qn_lst (qa_cons (q_fldE XA.q (qb_v 2 (pv 2))) (qa_cons (q_fldE XA.q (qb_v 3 (pv 3))) (qa_cons (q_fldE XA.q (qb_v 3 (pv 3))) (qa_cons (q_fldE XA.q (qb_v 4 (pv 4))) qa_nil))))))))
    (qss_one (qs_ret (q_op op_addU opd_add (qb_v 9 (pv 9)) (qbf (qn_lst (qa_cons (q_fldE XA.q (qb_v 5 (pv 5))) (qa_cons (q_fldE XA.q (qb_v 6 (pv 6))) (qa_cons (q_fldE XA.q (qb_v 7 (pv 7))) (qa_cons (q_fldE XA.q (qb_v 8 (pv 8))) qa_nil)))))))))))))))
/-! ### _law_kinds -/
abbrev N_L_kinds : List Str := ["_law_error", "_law_kinds_here", "_law_families"]
theorem sc_L_kinds : FnScope N_L_kinds ["_law_error"] (defScope s_L_kinds) := ⟨rfl, rfl, rfl, by decide +kernel, rfl, by decide +kernel, by decide +kernel⟩
def w_L_kinds : WS := (sSeq (sAsg (eFz (nLst (aCons (eIsE csE (isO "BadAreas") (eVarB 0)) (aCons (eIsE csE (isO "BadName") (eVarB 0)) (aCons (eIsE csE (isO "BadRing") (eVarB 0)) aNil))))) (gNm 1))
    (sSeq (sAsg (eBin oAdd (eVarB 1) (eFz (nLst (aCons (eIsE csE (isO "Crossing") (eVarB 0)) (aCons (eIsE csE (isO "BadPoint") (eVarB 0)) (aCons (eIsE csE (isO "BadSlack") (eVarB 0)) aNil)))))) (gNm 1))
    (sSeq (sAsg (eBin oAdd (eVarB 1) (eFz (nLst (aCons (eIsE csE (isO "BadArc") (eVarB 0)) (aCons (eIsE csE (isO "BadNumber") (eVarB 0)) (aCons (eIsE csE (isO "BadText") (eVarB 0)) aNil)))))) (gNm 1))
    (sSeq (sAsg (eBin oAdd (eVarB 1) (eFz (nLst (aCons (eIsE csE (isO "Clash") (eVarB 0)) (aCons (eIsE csE (isO "TooMany") (eVarB 0)) (aCons (eIsE csE (isO "Unlike") (eVarB 0)) aNil)))))) (gNm 1))
    (sSeq (sAsg (eBin oAdd (eVarB 1) (eFz (nLst (aCons (eIsE csE (isO "NothingToUndo") (eVarB 0)) (aCons (eIsE csE (isO "NoArea") (eVarB 0)) aNil))))) (gNm 1))
    (sSeq (sAsg (eFz (nLst (aCons (eIsE csE (isO "SheetError") (eVarB 0)) (aCons (eIsE csE (isO "StateError") (eVarB 0)) (aCons (eIsE csE (isO "MissingError") (eVarB 0)) aNil))))) (gNm 2))
    (sSeq (sAsg (eBin oAdd (eVarB 2) (eFz (nLst (aCons (eIsE csE (isT "ValueError") (eVarB 0)) (aCons (eIsE csE (isT "RuntimeError") (eVarB 0)) aNil))))) (gNm 2))
    (sRet (eTup (aCons (eVar 1) (aCons (eBin oAdd (eVarB 2) (eFz (nLst (aCons (eIsE csE (isT "LookupError") (eVarB 0)) aNil)))) aNil)))))))))))
theorem b_L_kinds {P : Program} {wd : World} {K : PySem.W.Frag} {mg : Str → Option Value} {base : Heap} (T : Tx K mg) (XA : ExA K mg) (f : Addr) (cdv : Value) (A : Around) (outer : List Env) (s : Shared) (H : Hp) (E : XK) (hr : Room 0 (A.deeper (envOfC "_law_kinds" (defScope s_L_kinds) s.heap.objs.size f cdv))) :
    PSs (cxOf CX0 P wd K mg base N_L_kinds "_law_kinds" (defScope s_L_kinds) f cdv A outer s H E).nox (defBody s_L_kinds) (upS K E w_L_kinds) :=
  (qss_cons (qs_set (i := 1) sc_L_kinds.nd rfl (Or.inl rfl) (qf (qn_lst (qa_cons (q_isE XA.q (XA.o "BadAreas" (by decide)) (by rfl) (XA.g "BadAreas" (by decide)) (by rfl) T.z_isinstance (qb_v 0 (pv 0))) (qa_cons (q_isE XA.q (XA.o "BadName" (by decide)) (by rfl) (XA.g "BadName" (by decide)) (by rfl) T.z_isinstance (qb_v 0 (pv 0))) (qa_cons (q_isE XA.q (XA.o "BadRing" (by decide)) (by rfl) (XA.g "BadRing" (by decide)) (by rfl) T.z_isinstance (qb_v 0 (pv 0))) qa_nil))))))
    (qss_cons (qs_set (i := 1) sc_L_kinds.nd rfl (Or.inl rfl) (q_op op_addU opd_add (qb_v 1 (pv 1)) (qbf (qn_lst (qa_cons (q_isE XA.q (XA.o "Crossing" (by decide)) (by rfl) (XA.g "Crossing" (by decide)) (by rfl) T.z_isinstance (qb_v 0 (pv 0))) (qa_cons (q_isE XA.q (XA.o "BadPoint" (by decide)) (by rfl) (XA.g "BadPoint" (by decide)) (by rfl) T.z_isinstance (qb_v 0 (pv 0))) (qa_cons (q_isE XA.q (XA.o "BadSlack" (by decide)) (by rfl) (XA.g "BadSlack" (by decide)) (by rfl) T.z_isinstance (qb_v 0 (pv 0))) qa_nil)))))))
    (qss_cons (qs_set (i := 1) sc_L_kinds.nd rfl (Or.inl rfl) (q_op op_addU opd_add (qb_v 1 (pv 1)) (qbf (qn_lst (qa_cons (q_isE XA.q (XA.o "BadArc" (by decide)) (by rfl) (XA.g "BadArc" (by decide)) (by rfl) T.z_isinstance (qb_v 0 (pv 0))) (qa_cons (q_isE XA.q (XA.o "BadNumber" (by decide)) (by rfl) (XA.g "BadNumber" (by decide)) (by rfl) T.z_isinstance (qb_v 0 (pv 0))) (qa_cons (q_isE XA.q (XA.o "BadText" (by decide)) (by rfl) (XA.g "BadText" (by decide)) (by rfl) T.z_isinstance (qb_v 0 (pv 0))) qa_nil)))))))
    (qss_cons (qs_set (i := 1) sc_L_kinds.nd rfl (Or.inl rfl) (q_op op_addU opd_add (qb_v 1 (pv 1)) (qbf (qn_lst (qa_cons (q_isE XA.q (XA.o "Clash" (by decide)) (by rfl) (XA.g "Clash" (by decide)) (by rfl) T.z_isinstance (qb_v 0 (pv 0))) (qa_cons (q_isE XA.q (XA.o "TooMany" (by decide)) (by rfl) (XA.g "TooMany" (by decide)) (by rfl) T.z_isinstance (qb_v 0 (pv 0))) (qa_cons (q_isE XA.q (XA.o "Unlike" (by decide)) (by rfl) (XA.g "Unlike" (by decide)) (by rfl) T.z_isinstance (qb_v 0 (pv 0))) qa_nil)))))))
    (qss_cons (qs_set (i := 1) sc_L_kinds.nd rfl (Or.inl rfl) (q_op op_addU opd_add (qb_v 1 (pv 1)) (qbf (qn_lst (qa_cons (q_isE XA.q (XA.o "NothingToUndo" (by decide)) (by rfl) (XA.g "NothingToUndo" (by decide)) (by rfl) T.z_isinstance (qb_v 0 (pv 0))) (qa_cons (q_isE XA.q (XA.o "NoArea" (by decide)) (by rfl) (XA.g "NoArea" (by decide)) (by rfl) T.z_isinstance (qb_v 0 (pv 0))) qa_nil))))))
    (qss_cons (qs_set (i := 2) sc_L_kinds.nd rfl (Or.inl rfl) (qf (qn_lst (qa_cons (q_isE XA.q (XA.o "SheetError" (by decide)) (by rfl) (XA.g "SheetError" (by decide)) (by rfl) T.z_isinstance (qb_v 0 (pv 0))) (qa_cons (q_isE XA.q (XA.o "StateError" (by decide)) (by rfl) (XA.g "StateError" (by decide)) (by rfl) T.z_isinstance (qb_v 0 (pv 0))) (qa_cons (q_isE XA.q (XA.o "MissingError" (by decide)) (by rfl) (XA.g "MissingError" (by decide)) (by rfl) T.z_isinstance (qb_v 0 (pv 0))) qa_nil))))))
    (qss_cons (qs_set (i := 2) sc_L_kinds.nd rfl (Or.inl rfl) (q_op op_addU opd_add (qb_v 2 (pv 2)) (qbf (qn_lst (qa_cons (q_isET XA.q (XA.t "ValueError" (by decide)) (cls_arg (by rfl) T.z_ValueError (by decide +kernel)) (by rfl) T.z_isinstance (qb_v 0 (pv 0))) (qa_cons (q_isET XA.q (XA.t "RuntimeError" (by decide)) (cls_arg (by rfl) T.z_RuntimeError (by decide +kernel)) (by rfl) T.z_isinstance (qb_v 0 (pv 0))) qa_nil))))))
    (qss_one (qs_ret (q_tup (qa_cons (q_v 1 (pv 1)) (qa_cons (q_op op_addU opd_add (qb_v 2 (pv 2)) (qbf (qn_lst (qa_cons (q_isET XA.q (XA.t "LookupError" (by decide)) (cls_arg (by rfl) T.z_LookupError (by decide +kernel)) (by rfl) T.z_isinstance (qb_v 0 (pv 0))) qa_nil)))) qa_nil))))))))))))
/-! ### law -/
abbrev N_law : List Str := ["_law_script", "_law_draw", "_law_turn", "_law_some", "_law_far", "_law_due", "_law_made_here", "_law_at", "_law_error", "_law_kinds_here", "_law_families", "_law_family", "_law_k"]
theorem sc_law : FnScope N_law ["_law_script"] (defScope s_law) := ⟨rfl, rfl, rfl, by decide +kernel, rfl, by decide +kernel, by decide +kernel⟩
def w_law : WS := (sSeq (sFor (iR1 (aCons (eC (.int 4)) aNil)) (gNm 2) (sSeq (sPar 3 4 (aCons (eCall 2 C_L_pick [] (aCons (eVar 1) (aCons (eCall 0 C_L_things [] aNil) aNil))) (aCons (eCall 2 C_L_pick [] (aCons (eVar 1) (aCons (eCall 0 C_L_things [] aNil) aNil))) aNil)))
    (sSeq (sAsg (eBin oAdd (eBin oAdd (eBin oRep (eFz (nLst (aCons (eVar 3) aNil))) (eC (.int 6))) (eFz (nLst (aCons (eVar 3) (aCons (eVar 4) (aCons (eVar 3) (aCons (eVar 4) (aCons (eVar 3) (aCons (eVar 4) aNil))))))))) (eBin oRep (eFz (nLst (aCons (eVar 3) aNil))) (eC (.int 5)))) (gNm 5))
    (sFor (iSq (eTup (aCons (eCall 2 C_L_made [] (aCons (eVar 3) (aCons (eVar 4) aNil))) (aCons (eCall 2 C_L_named [] (aCons (eVar 3) (aCons (eVar 4) aNil))) aNil)))) (gNm 6) (sSeq (sIf (wTest (eBin oNeS (eCB bReprE (aCons (eCall 1 C_L_told [] (aCons (eVar 6) aNil)) aNil)) (eCB bReprE (aCons (eVarB 5) aNil)))) (sRet (eC (.bl false))) sNext)
    (sFor (iEn (aCons (eVar 6) aNil)) (gTp 2 (gsCons (gNm 7) (gsCons (gNm 8) gsNil))) (sSeq (sAsg (eCall 1 C_L_kinds [] (aCons (eVar 8) aNil)) (gTp 2 (gsCons (gNm 9) (gsCons (gNm 10) gsNil))))
    (sSeq (sAsg (eIf (wTest (eBin oLt (eVarB 7) (eC (.int 9)))) (eC (.int 0)) (eIf (wTest (eBin oLt (eVarB 7) (eC (.int 13)))) (eC (.int 1)) (eC (.int 2)))) (gNm 11))
    (sSeq (sIf (wTest (eBin oNe (eVarB 9) (eFz (nLc [12] (iR1 (aCons (eC (.int 14)) aNil)) (gNm 12) wYes (eBin oEq (eVarB 12) (eVarB 7)))))) (sRet (eC (.bl false))) sNext)
    (sIf (wTest (eBin oNe (eVarB 10) (eFz (nLc [12] (iR1 (aCons (eC (.int 6)) aNil)) (gNm 12) wYes (eBin oEq (eBin oMod (eVarB 12) (eC (.int 3))) (eVarB 11)))))) (sRet (eC (.bl false))) sNext))))))))))
    (sRet (eC (.bl true))))
theorem b_law {P : Program} {wd : World} {K : PySem.W.Frag} {mg : Str → Option Value} {base : Heap} (T : Tx K mg) (F_L_begin : FnS P wd K mg base "_law_begin" ["_law_script"] 1 (spBegin K)) (F_L_pick : Fn P wd K mg base "_law_pick" ["_law_draw", "_law_some"] 2 2 C_L_pick) (F_L_things : Fn P wd K mg base "_law_things" [] 0 1 C_L_things) (F_L_made : FnG P wd K mg base "_law_made" ["_law_some", "_law_partner"] 2 3 C_L_made) (F_L_named : FnG P wd K mg base "_law_named" ["_law_some", "_law_partner"] 2 3 C_L_named) (F_L_told : Fn P wd K mg base "_law_told" ["_law_made_here"] 1 1 C_L_told) (KSY : (K.lookup sysModules).isSome = true) (F_L_kinds : Fn P wd K mg base "_law_kinds" ["_law_error"] 1 1 C_L_kinds) (f : Addr) (cdv : Value) (A : Around) (outer : List Env) (s : Shared) (H : Hp) (E : XK) (hgd : A.guards = some []) (hr : Room 3 (A.deeper (envOfC "law" (defScope s_law) s.heap.objs.size f cdv))) :
    PSs (cxOf CX0 P wd K mg base N_law "law" (defScope s_law) f cdv A outer s H E).nox (defBody s_law) (tSeq (tAsg (tCall (spBegin K) [] E0 (tCons (tVar 0) tNil)) (gName 1)) (upS K E w_law)) := by
  obtain ⟨fdB, FB, bB, kB, gB⟩ := F_L_begin
  exact pss_cons (ps_set (i := 1) sc_law.nd rfl (Or.inl rfl) (pe_call FB (hr.mono (by decide)) (by rfl) gB kB bB .nil pass0 (pa_cons (pv 0) pa_nil)))
    (qss_cons (qs_for (is := [2]) PassesOwn.never rfl (qi_r1 (by rfl) T.z_range (qa_cons q_int qa_nil)) (qg_nm (pg_name (i := 2) sc_law.nd rfl (Or.inl rfl))) (qss_cons (qs_par (i := 3) (j := 4) rfl sc_law.nd rfl rfl (by decide) rfl rfl (qa_cons (q_f F_L_pick calm_L_pick hr (by decide) (by rfl) (qa_cons (q_v 1 (pv 1)) (qa_cons (q_f0 F_L_things calm_L_things hr (by decide) (by rfl)) qa_nil))) (qa_cons (q_f F_L_pick calm_L_pick hr (by decide) (by rfl) (qa_cons (q_v 1 (pv 1)) (qa_cons (q_f0 F_L_things calm_L_things hr (by decide) (by rfl)) qa_nil))) qa_nil)) (by rfl))
    (qss_cons (qs_set (i := 5) sc_law.nd rfl (Or.inl rfl) (q_op op_addU opd_add (qb (q_op op_addU opd_add (qb (q_op op_rep opd_rep (qbf (qn_lst (qa_cons (q_v 3 (pv 3)) qa_nil))) (qb q_int))) (qbf (qn_lst (qa_cons (q_v 3 (pv 3)) (qa_cons (q_v 4 (pv 4)) (qa_cons (q_v 3 (pv 3)) (qa_cons (q_v 4 (pv 4)) (qa_cons (q_v 3 (pv 3)) (qa_cons (q_v 4 (pv 4)) qa_nil)))))))))) (qb (q_op op_rep opd_rep (qbf (qn_lst (qa_cons (q_v 3 (pv 3)) qa_nil))) (qb q_int)))))
    (qss_one (qs_for (is := [6]) PassesOwn.never rfl (qi_sq (q_tup (qa_cons (q_fg F_L_made calm_L_made hgd hr (by decide) (by rfl) (qa_cons (q_v 3 (pv 3)) (qa_cons (q_v 4 (pv 4)) qa_nil))) (qa_cons (q_fg F_L_named calm_L_named hgd hr (by decide) (by rfl) (qa_cons (q_v 3 (pv 3)) (qa_cons (q_v 4 (pv 4)) qa_nil))) qa_nil)))) (qg_nm (pg_name (i := 6) sc_law.nd rfl (Or.inl rfl))) (qss_cons (qs_if (qt_cmp op_ne opd_neS (qb (q_B (call_reprE KSY hgd hr.units) bd_reprE (by rfl) T.z_repr (by decide +kernel) (qab_cons (qb (q_f F_L_told calm_L_told hr (by decide) (by rfl) (qa_cons (q_v 6 (pv 6)) qa_nil))) qab_nil))) (qb (q_B (call_reprE KSY hgd hr.units) bd_reprE (by rfl) T.z_repr (by decide +kernel) (qab_cons (qb_v 5 (pv 5)) qab_nil))) (nomark _)) (qss_one (qs_ret q_bl)) qss_nil)
    (qss_one (qs_for (is := [7, 8]) PassesOwn.never rfl (qi_en (by rfl) T.z_enumerate (qa_cons (q_v 6 (pv 6)) qa_nil)) (qg_tp rfl (qgs_cons (qg_nm (pg_name (i := 7) sc_law.nd rfl (Or.inr rfl))) (qgs_cons (qg_nm (pg_name (i := 8) sc_law.nd rfl (Or.inl rfl))) qgs_nil))) (qss_cons (qs_asg [9, 10] (q_f F_L_kinds calm_L_kinds hr (by decide) (by rfl) (qa_cons (q_v 8 (pv 8)) qa_nil)) (qg_tp rfl (qgs_cons (qg_nm (pg_name (i := 9) sc_law.nd rfl (Or.inl rfl))) (qgs_cons (qg_nm (pg_name (i := 10) sc_law.nd rfl (Or.inl rfl))) qgs_nil))))
    (qss_cons (qs_set (i := 11) sc_law.nd rfl (Or.inr rfl) (q_if (qt_cmp (op_ltU hr.units0) opd_lt (qb_v 7 (pv 7)) (qb q_int) (nomark _)) q_int (q_if (qt_cmp (op_ltU hr.units0) opd_lt (qb_v 7 (pv 7)) (qb q_int) (nomark _)) q_int q_int)))
    (qss_cons (qs_if (qt_cmp (op_neD hr.units) opd_ne (qb_v 9 (pv 9)) (qbf (qn_lc (own := [("_law_k", 12)]) rfl sc_law.nd (qi_r1 (by rfl) T.z_range (qa_cons q_int qa_nil)) (blkOk_by (own := [("_law_k", 12)]) (N := N_law) (sc := defScope s_law) (by decide +kernel)) (fun _ _ _ _ _ => (qg_nm (pg_name (i := 12) sc_law.nd rfl (Or.inl rfl)))) (fun _ _ _ _ _ => qts_nil) (fun _ _ _ _ _ => (q_cmp (op_eqD hr.units) opd_eq (qb_v 12 (pv 12)) (qb_v 7 (pv 7)) (nomark _))))) (nomark _)) (qss_one (qs_ret q_bl)) qss_nil)
    (qss_one (qs_if (qt_cmp (op_neD hr.units) opd_ne (qb_v 10 (pv 10)) (qbf (qn_lc (own := [("_law_k", 12)]) rfl sc_law.nd (qi_r1 (by rfl) T.z_range (qa_cons q_int qa_nil)) (blkOk_by (own := [("_law_k", 12)]) (N := N_law) (sc := defScope s_law) (by decide +kernel)) (fun _ _ _ _ _ => (qg_nm (pg_name (i := 12) sc_law.nd rfl (Or.inl rfl)))) (fun _ _ _ _ _ => qts_nil) (fun _ _ _ _ _ => (q_cmp (op_eqD hr.units) opd_eq (qb (q_op op_mod opd_mod (qb_v 12 (pv 12)) (qb q_int))) (qb_v 11 (pv 11)) (nomark _))))) (nomark _)) (qss_one (qs_ret q_bl)) qss_nil)))))))))))))
    (qss_one (qs_ret q_bl)))
end DL
set_option maxHeartbeats 4000000
namespace DL
open PySem PySem.Spec PyProof.Rows L2
section
variable {x : Xn} {η : List Sl} {n : Nat} {cn f g : Str} {cd : List D → Prop} {a b : D}
theorem ev_exc1 {i : Nat} (hc : cd [a]) (h : η[i]? = some (.dt a) := by rfl) : EV (eExc cn [f] cd (aCons (eVar i) aNil)) x η n (ex1 cn f a) := fun R hR => av_1 (ev_v h) _ ⟨rfl, hc, hR⟩
theorem ev_exc2 {i j : Nat} (hc : cd [a, b]) (h : η[i]? = some (.dt a) := by rfl) (h2 : η[j]? = some (.dt b) := by rfl) : EV (eExc cn [f, g] cd (aCons (eVar i) (aCons (eVar j) aNil))) x η n (.exc cn [g, f] [b, a]) := fun R hR => av_2 (ev_v h) (ev_v h2) _ ⟨rfl, hc, hR⟩
theorem ev_exk1 {i : Nat} (hc : cd [a]) (h : η[i]? = some (.dt a) := by rfl) : EV (eExcK cn [f] cd (List.length ([f] : List Str)) [0] (aCons (eVar i) aNil)) x η n (ex1 cn f a) := fun R hR => av_1 (ev_v h) _ ⟨rfl, rfl, by simp, hc, hR⟩
theorem ev_exk2 {i j : Nat} (hc : cd [a, b]) (h : η[i]? = some (.dt a) := by rfl) (h2 : η[j]? = some (.dt b) := by rfl) : EV (eExcK cn [f, g] cd (List.length ([g, f] : List Str)) [1, 0] (aCons (eVar j) (aCons (eVar i) aNil))) x η n (.exc cn [g, f] [b, a]) := fun R hR => av_2 (ev_v h2) (ev_v h) _ ⟨rfl, rfl, by simp, hc, hR⟩
theorem ev_isE {cs : List Str} {fb : Str → Bool} {w : WE} {c : Str} {ns : List Str} {fs : List D} (h : EV w x η n (.exc c ns fs)) (hc : c ∈ cs) : EV (eIsE cs fb w) x η n (.bl (fb c)) := fun R hR => h _ ⟨hc, hR⟩
theorem ev_fldE {cs : List Str} {fl : Str → List Str} {w : WE} {c : Str} {ns : List Str} {fs : List D} {y : D} (h : EV w x η n (.exc c ns fs)) (hc : c ∈ cs) (hf : f ∈ fl c) (hl : (ns.zip fs).lookup f = some y) : EV (eFldE cs fl f w) x η n y := fun R hR => h _ ⟨hc, hf, y, hl, hR⟩
theorem ev_fld1 {w : WE} {c : Str} (h : EV w x η n (ex1 c f a)) (hc : c ∈ csE) (hf : f ∈ flE c) : EV (eFldE csE flE f w) x η n a := ev_fldE h hc hf (by simp)
theorem ev_fldA {w : WE} {c : Str} (h : EV w x η n (.exc c [g, f] [b, a])) (hc : c ∈ csE) (hf : g ∈ flE c) : EV (eFldE csE flE g w) x η n b := ev_fldE h hc hf (by simp)
theorem ev_fldB {w : WE} {c : Str} (h : EV w x η n (.exc c [g, f] [b, a])) (hc : c ∈ csE) (hf : f ∈ flE c ∧ f ≠ g) : EV (eFldE csE flE f w) x η n a := ev_fldE h hc hf.1 (by
  have e : (f == g) = false := beq_eq_false_iff_ne.2 hf.2
  show List.lookup f [(g, b), (f, a)] = _
  rw [List.lookup_cons, e]
  simp)
theorem st_p3 {w : WA} {i j l : Nat} {s : WS} {k : Wk} {d e u : D} (hw : AV w x η n [d, e, u]) (h : s x k (((η.set i (.dt d)).set j (.dt e)).set l (.dt u)) n) : sSeq (sPar3 i j l w) s x k η n := hw _ h
theorem st_p2 {w : WA} {i j : Nat} {s : WS} {k : Wk} {d e : D} (hw : AV w x η n [d, e]) (h : s x k ((η.set i (.dt d)).set j (.dt e)) n) : sSeq (sPar i j w) s x k η n := hw _ h
end
theorem mE_BadAreas : ("BadAreas" : Str) ∈ csE := by decide +kernel
theorem fE_BadAreas : ("given" : Str) ∈ flE "BadAreas" := by decide +kernel
theorem mE_BadName : ("BadName" : Str) ∈ csE := by decide +kernel
theorem fE_BadName : ("given" : Str) ∈ flE "BadName" := by decide +kernel
theorem mE_BadRing : ("BadRing" : Str) ∈ csE := by decide +kernel
theorem fE_BadRingA : ("index" : Str) ∈ flE "BadRing" := by decide +kernel
theorem fE_BadRingB : ("name" : Str) ∈ flE "BadRing" ∧ ("name" : Str) ≠ "index" := by decide +kernel
theorem mE_Crossing : ("Crossing" : Str) ∈ csE := by decide +kernel
theorem fE_CrossingA : ("second" : Str) ∈ flE "Crossing" := by decide +kernel
theorem fE_CrossingB : ("first" : Str) ∈ flE "Crossing" ∧ ("first" : Str) ≠ "second" := by decide +kernel
theorem mE_BadPoint : ("BadPoint" : Str) ∈ csE := by decide +kernel
theorem fE_BadPoint : ("given" : Str) ∈ flE "BadPoint" := by decide +kernel
theorem mE_BadSlack : ("BadSlack" : Str) ∈ csE := by decide +kernel
theorem fE_BadSlack : ("given" : Str) ∈ flE "BadSlack" := by decide +kernel
theorem mE_BadArc : ("BadArc" : Str) ∈ csE := by decide +kernel
theorem fE_BadArc : ("given" : Str) ∈ flE "BadArc" := by decide +kernel
theorem mE_BadNumber : ("BadNumber" : Str) ∈ csE := by decide +kernel
theorem fE_BadNumber : ("given" : Str) ∈ flE "BadNumber" := by decide +kernel
theorem mE_BadText : ("BadText" : Str) ∈ csE := by decide +kernel
theorem fE_BadTextA : ("word" : Str) ∈ flE "BadText" := by decide +kernel
theorem fE_BadTextB : ("line" : Str) ∈ flE "BadText" ∧ ("line" : Str) ≠ "word" := by decide +kernel
theorem mE_Clash : ("Clash" : Str) ∈ csE := by decide +kernel
theorem fE_Clash : ("pair" : Str) ∈ flE "Clash" := by decide +kernel
theorem mE_TooMany : ("TooMany" : Str) ∈ csE := by decide +kernel
theorem fE_TooMany : ("most" : Str) ∈ flE "TooMany" := by decide +kernel
theorem mE_Unlike : ("Unlike" : Str) ∈ csE := by decide +kernel
theorem fE_Unlike : ("other" : Str) ∈ flE "Unlike" := by decide +kernel
theorem mE_NothingToUndo : ("NothingToUndo" : Str) ∈ csE := by decide +kernel
theorem fE_NothingToUndo : ("count" : Str) ∈ flE "NothingToUndo" := by decide +kernel
theorem mE_NoArea : ("NoArea" : Str) ∈ csE := by decide +kernel
theorem fE_NoArea : ("name" : Str) ∈ flE "NoArea" := by decide +kernel
theorem h_L_pick : ∀ x ds n R, ds.length = 2 → C_L_pick x ds n R → w_L_pick x {nx := fun _ n => R .non n, rt := R} (st0 ds N_L_pick) n := by
  intro x ds n R _ h
  obtain ⟨xs, rfl, hx, hl, hn, h⟩ := h
  simp only [w_L_pick, N_L_pick, r_bin, r_ixT0, r_ixT1, r_ixT2, r_ixT3, r_ixL0, r_ixL1, r_ixL2, r_ixL3, r_sub, r_add, r_mul, r_div, r_mod, r_pow, r_le, r_gt, r_ge, r_lt, r_eqI, r_neI, r_sIf, r_asg, r_asg2, r_g2, sRet, sSeq, sNext, sRetN, eVar, eVarB, eC, r_dt, r_rd, r_rdo, r_owS, tB_bl, r_test, r_notV, r_tru, r_trB, r_trL, r_trI, r_sqL, r_sqT, tw_2, r_par, r_rev, rv_t, rv_l, r_mt, r_ext, r_app, r_len, r_lenT, ow_ex, size0, size1, size2, size3, size4, ↓reduceIte, Bool.false_eq_true, sSetN, nLst, eFz, eCB,  eTup, aCons, aNil, eIf, wOr, wAnd, wNot, r_andV, r_orV, bT_bl, r_ifAnd, r_ifOr, eCall, eMake, st0, List.map, List.replicate, List.append, List.length, List.set, List.getElem?_cons_zero, List.getElem?_cons_succ, List.cons_append, List.nil_append, Nat.reduceSub, Nat.reduceAdd, Nat.zero_add, List.append_nil, true_and, and_true, List.getElem?_nil, List.length_cons, List.length_nil, List.map_cons, List.map_nil, r_pt0, r_pt1, r_fr0, r_fr1, r_ed0, r_ed1, r_g2pt, r_g2fr, r_g2ed, ed_mk, r_ltP, r_eqP, r_neP, r_eqE, r_inE, r_notInE, r_inEE, c_in_order, c_turning, c_product, c_cross, c_are_apart, c_overlap_well, c_meet_well, c_offset_parts, c_offset_of, c_is_integer, c_common, c_Slack_init, c_L_lies, c_L_meet, c_L_offset, c_L_spot, eq_self, rv_ed, gP_10, r_rep4, r_addL, eCallK, List.reverse_cons, List.reverse_nil, gNm, List.set_cons_succ, List.set_cons_zero, r_chain, r_wchain, r_negC, r_allM, r_anyM, r_all2, r_sl, r_oSo, r_oNo, tI'_i, r_slT, r_slL, r_raise, r_expr, r_addT, r_said, r_zp, zpD_t, zpD_l, r_tupB, r_lstB, r_callN, r_callKN, r_asg3, r_g3, r_putIx, r_eqS, r_neS, c_L_next, C_L_next]
  have := List.length_pos_iff.2 hx
  refine ⟨by omega, by omega, hn, fun r h0 h1 => ?_⟩
  have hr : r.toNat < xs.length := by omega
  exact ⟨xs[r.toNat], by rw [atI_nat h0]; exact List.getElem?_eq_getElem hr, h _ (List.getElem_mem hr)⟩
theorem h_L_things : ∀ x ds n R, ds.length = 0 → C_L_things x ds n R → w_L_things x {nx := fun _ n => R .non n, rt := R} (st0 ds N_L_things) n := by
  intro q ds n R _ h
  obtain ⟨rfl, h⟩ := h
  show w_L_things q _ [] n
  unfold w_L_things
  exact st_ret (d := .lst thingsL) (ev_lst (av_cons ev_c (av_cons (ev_neg ev_c) (av_cons ev_c (av_cons ev_c (av_cons ev_c (av_cons ev_c (av_cons ev_c (av_cons (ev_tup av_nil (by decide)) (av_cons (ev_tup (av_2 ev_c ev_c)) (av_cons (ev_lst av_nil (by decide)) (av_cons (ev_lst (av_1 ev_c)) (av_cons ev_c (av_cons (ev_tup (av_2 ev_c ev_c)) (av_cons (ev_bin ev_c ev_c fun k hk => ⟨⟨by decide, by decide, by decide, by decide⟩, hk⟩) (av_cons ev_c av_nil))))))))))))))) (by decide)) h
theorem h_L_made : ∀ x ds n R, ds.length = 2 → C_L_made x ds n R → w_L_made x {nx := fun _ n => R .non n, rt := R} (st0 ds N_L_made) n := by
  intro q ds n R _ h
  have hb := sizeLine_big
  obtain ⟨x, y, rfl, fx, fy, h⟩ := h
  have hfx : cdFD [x] := fun d hd => by rw [List.mem_singleton.1 hd]; exact fx
  have hf2 : cdFD [x, y] := fun d hd => by
    rcases List.mem_cons.1 hd with rfl | hd
    · exact fx
    · rw [List.mem_singleton.1 hd]; exact fy
  show w_L_made q _ [.dt x, .dt y, .un] n
  unfold w_L_made
  refine st_asg (d := .lst [ex1 "BadAreas" "given" x, ex1 "BadName" "given" x, .exc "BadRing" ["index", "name"] [y, x], .exc "Crossing" ["second", "first"] [y, x]]) (ev_lst (av_cons (ev_exc1 (a := x) (i := 0) trivial rfl) (av_cons (ev_exc1 (a := x) (i := 0) trivial rfl) (av_cons (ev_exc2 (a := x) (b := y) (i := 0) (j := 1) trivial rfl rfl) (av_cons (ev_exc2 (a := x) (b := y) (i := 0) (j := 1) trivial rfl rfl) av_nil))))) ?_
  show sSeq _ _ q _ [.dt x, .dt y, .dt (.lst [ex1 "BadAreas" "given" x, ex1 "BadName" "given" x, .exc "BadRing" ["index", "name"] [y, x], .exc "Crossing" ["second", "first"] [y, x]])] n
  refine st_asg (d := .lst [ex1 "BadAreas" "given" x, ex1 "BadName" "given" x, .exc "BadRing" ["index", "name"] [y, x], .exc "Crossing" ["second", "first"] [y, x], ex1 "BadPoint" "given" x, ex1 "BadSlack" "given" x]) (ev_catL (xs := [ex1 "BadAreas" "given" x, ex1 "BadName" "given" x, .exc "BadRing" ["index", "name"] [y, x], .exc "Crossing" ["second", "first"] [y, x]]) (ys := [ex1 "BadPoint" "given" x, ex1 "BadSlack" "given" x]) (ev_b (i := 2) rfl) (ev_lst (av_cons (ev_exc1 (a := x) (i := 0) trivial rfl) (av_cons (ev_exc1 (a := x) (i := 0) trivial rfl) av_nil))) (by simp only [List.length_cons, List.length_nil]; omega)) ?_
  show sSeq _ _ q _ [.dt x, .dt y, .dt (.lst [ex1 "BadAreas" "given" x, ex1 "BadName" "given" x, .exc "BadRing" ["index", "name"] [y, x], .exc "Crossing" ["second", "first"] [y, x], ex1 "BadPoint" "given" x, ex1 "BadSlack" "given" x])] n
  refine st_asg (d := .lst [ex1 "BadAreas" "given" x, ex1 "BadName" "given" x, .exc "BadRing" ["index", "name"] [y, x], .exc "Crossing" ["second", "first"] [y, x], ex1 "BadPoint" "given" x, ex1 "BadSlack" "given" x, ex1 "BadArc" "given" x, ex1 "BadNumber" "given" x, .exc "BadText" ["word", "line"] [y, x], ex1 "Clash" "pair" x, ex1 "TooMany" "most" x, ex1 "Unlike" "other" x]) (ev_catL (xs := [ex1 "BadAreas" "given" x, ex1 "BadName" "given" x, .exc "BadRing" ["index", "name"] [y, x], .exc "Crossing" ["second", "first"] [y, x], ex1 "BadPoint" "given" x, ex1 "BadSlack" "given" x]) (ys := [ex1 "BadArc" "given" x, ex1 "BadNumber" "given" x, .exc "BadText" ["word", "line"] [y, x], ex1 "Clash" "pair" x, ex1 "TooMany" "most" x, ex1 "Unlike" "other" x]) (ev_b (i := 2) rfl) (ev_lst (av_cons (ev_exc1 (a := x) (i := 0) trivial rfl) (av_cons (ev_exc1 (a := x) (i := 0) trivial rfl) (av_cons (ev_exc2 (a := x) (b := y) (i := 0) (j := 1) hf2 rfl rfl) (av_cons (ev_exc1 (a := x) (i := 0) trivial rfl) (av_cons (ev_exc1 (a := x) (i := 0) hfx rfl) (av_cons (ev_exc1 (a := x) (i := 0) trivial rfl) av_nil))))))) (by simp only [List.length_cons, List.length_nil]; omega)) ?_
  show sRet _ q _ [.dt x, .dt y, .dt (.lst [ex1 "BadAreas" "given" x, ex1 "BadName" "given" x, .exc "BadRing" ["index", "name"] [y, x], .exc "Crossing" ["second", "first"] [y, x], ex1 "BadPoint" "given" x, ex1 "BadSlack" "given" x, ex1 "BadArc" "given" x, ex1 "BadNumber" "given" x, .exc "BadText" ["word", "line"] [y, x], ex1 "Clash" "pair" x, ex1 "TooMany" "most" x, ex1 "Unlike" "other" x])] n
  exact st_ret (d := .lst [ex1 "BadAreas" "given" x, ex1 "BadName" "given" x, .exc "BadRing" ["index", "name"] [y, x], .exc "Crossing" ["second", "first"] [y, x], ex1 "BadPoint" "given" x, ex1 "BadSlack" "given" x, ex1 "BadArc" "given" x, ex1 "BadNumber" "given" x, .exc "BadText" ["word", "line"] [y, x], ex1 "Clash" "pair" x, ex1 "TooMany" "most" x, ex1 "Unlike" "other" x, ex1 "NothingToUndo" "count" x, ex1 "NoArea" "name" x]) (ev_catL (xs := [ex1 "BadAreas" "given" x, ex1 "BadName" "given" x, .exc "BadRing" ["index", "name"] [y, x], .exc "Crossing" ["second", "first"] [y, x], ex1 "BadPoint" "given" x, ex1 "BadSlack" "given" x, ex1 "BadArc" "given" x, ex1 "BadNumber" "given" x, .exc "BadText" ["word", "line"] [y, x], ex1 "Clash" "pair" x, ex1 "TooMany" "most" x, ex1 "Unlike" "other" x]) (ys := [ex1 "NothingToUndo" "count" x, ex1 "NoArea" "name" x]) (ev_b (i := 2) rfl) (ev_lst (av_cons (ev_exc1 (a := x) (i := 0) trivial rfl) (av_cons (ev_exc1 (a := x) (i := 0) trivial rfl) av_nil))) (by simp only [List.length_cons, List.length_nil]; omega)) h
theorem h_L_named : ∀ x ds n R, ds.length = 2 → C_L_named x ds n R → w_L_named x {nx := fun _ n => R .non n, rt := R} (st0 ds N_L_named) n := by
  intro q ds n R _ h
  have hb := sizeLine_big
  obtain ⟨x, y, rfl, fx, fy, h⟩ := h
  have hfx : cdFD [x] := fun d hd => by rw [List.mem_singleton.1 hd]; exact fx
  have hf2 : cdFD [x, y] := fun d hd => by
    rcases List.mem_cons.1 hd with rfl | hd
    · exact fx
    · rw [List.mem_singleton.1 hd]; exact fy
  show w_L_named q _ [.dt x, .dt y, .un] n
  unfold w_L_named
  refine st_asg (d := .lst [ex1 "BadAreas" "given" x, ex1 "BadName" "given" x, .exc "BadRing" ["index", "name"] [y, x]]) (ev_lst (av_cons (ev_exk1 (a := x) (i := 0) trivial rfl) (av_cons (ev_exk1 (a := x) (i := 0) trivial rfl) (av_cons (ev_exk2 (a := x) (b := y) (i := 0) (j := 1) trivial rfl rfl) av_nil)))) ?_
  show sSeq _ _ q _ [.dt x, .dt y, .dt (.lst [ex1 "BadAreas" "given" x, ex1 "BadName" "given" x, .exc "BadRing" ["index", "name"] [y, x]])] n
  refine st_asg (d := .lst [ex1 "BadAreas" "given" x, ex1 "BadName" "given" x, .exc "BadRing" ["index", "name"] [y, x], .exc "Crossing" ["second", "first"] [y, x], ex1 "BadPoint" "given" x, ex1 "BadSlack" "given" x]) (ev_catL (xs := [ex1 "BadAreas" "given" x, ex1 "BadName" "given" x, .exc "BadRing" ["index", "name"] [y, x]]) (ys := [.exc "Crossing" ["second", "first"] [y, x], ex1 "BadPoint" "given" x, ex1 "BadSlack" "given" x]) (ev_b (i := 2) rfl) (ev_lst (av_cons (ev_exk2 (a := x) (b := y) (i := 0) (j := 1) trivial rfl rfl) (av_cons (ev_exk1 (a := x) (i := 0) trivial rfl) (av_cons (ev_exk1 (a := x) (i := 0) trivial rfl) av_nil)))) (by simp only [List.length_cons, List.length_nil]; omega)) ?_
  show sSeq _ _ q _ [.dt x, .dt y, .dt (.lst [ex1 "BadAreas" "given" x, ex1 "BadName" "given" x, .exc "BadRing" ["index", "name"] [y, x], .exc "Crossing" ["second", "first"] [y, x], ex1 "BadPoint" "given" x, ex1 "BadSlack" "given" x])] n
  refine st_asg (d := .lst [ex1 "BadAreas" "given" x, ex1 "BadName" "given" x, .exc "BadRing" ["index", "name"] [y, x], .exc "Crossing" ["second", "first"] [y, x], ex1 "BadPoint" "given" x, ex1 "BadSlack" "given" x, ex1 "BadArc" "given" x, ex1 "BadNumber" "given" x, .exc "BadText" ["word", "line"] [y, x]]) (ev_catL (xs := [ex1 "BadAreas" "given" x, ex1 "BadName" "given" x, .exc "BadRing" ["index", "name"] [y, x], .exc "Crossing" ["second", "first"] [y, x], ex1 "BadPoint" "given" x, ex1 "BadSlack" "given" x]) (ys := [ex1 "BadArc" "given" x, ex1 "BadNumber" "given" x, .exc "BadText" ["word", "line"] [y, x]]) (ev_b (i := 2) rfl) (ev_lst (av_cons (ev_exk1 (a := x) (i := 0) trivial rfl) (av_cons (ev_exk1 (a := x) (i := 0) trivial rfl) (av_cons (ev_exk2 (a := x) (b := y) (i := 0) (j := 1) hf2 rfl rfl) av_nil)))) (by simp only [List.length_cons, List.length_nil]; omega)) ?_
  show sSeq _ _ q _ [.dt x, .dt y, .dt (.lst [ex1 "BadAreas" "given" x, ex1 "BadName" "given" x, .exc "BadRing" ["index", "name"] [y, x], .exc "Crossing" ["second", "first"] [y, x], ex1 "BadPoint" "given" x, ex1 "BadSlack" "given" x, ex1 "BadArc" "given" x, ex1 "BadNumber" "given" x, .exc "BadText" ["word", "line"] [y, x]])] n
  refine st_asg (d := .lst [ex1 "BadAreas" "given" x, ex1 "BadName" "given" x, .exc "BadRing" ["index", "name"] [y, x], .exc "Crossing" ["second", "first"] [y, x], ex1 "BadPoint" "given" x, ex1 "BadSlack" "given" x, ex1 "BadArc" "given" x, ex1 "BadNumber" "given" x, .exc "BadText" ["word", "line"] [y, x], ex1 "Clash" "pair" x, ex1 "TooMany" "most" x, ex1 "Unlike" "other" x]) (ev_catL (xs := [ex1 "BadAreas" "given" x, ex1 "BadName" "given" x, .exc "BadRing" ["index", "name"] [y, x], .exc "Crossing" ["second", "first"] [y, x], ex1 "BadPoint" "given" x, ex1 "BadSlack" "given" x, ex1 "BadArc" "given" x, ex1 "BadNumber" "given" x, .exc "BadText" ["word", "line"] [y, x]]) (ys := [ex1 "Clash" "pair" x, ex1 "TooMany" "most" x, ex1 "Unlike" "other" x]) (ev_b (i := 2) rfl) (ev_lst (av_cons (ev_exk1 (a := x) (i := 0) trivial rfl) (av_cons (ev_exk1 (a := x) (i := 0) hfx rfl) (av_cons (ev_exk1 (a := x) (i := 0) trivial rfl) av_nil)))) (by simp only [List.length_cons, List.length_nil]; omega)) ?_
  show sRet _ q _ [.dt x, .dt y, .dt (.lst [ex1 "BadAreas" "given" x, ex1 "BadName" "given" x, .exc "BadRing" ["index", "name"] [y, x], .exc "Crossing" ["second", "first"] [y, x], ex1 "BadPoint" "given" x, ex1 "BadSlack" "given" x, ex1 "BadArc" "given" x, ex1 "BadNumber" "given" x, .exc "BadText" ["word", "line"] [y, x], ex1 "Clash" "pair" x, ex1 "TooMany" "most" x, ex1 "Unlike" "other" x])] n
  exact st_ret (d := .lst [ex1 "BadAreas" "given" x, ex1 "BadName" "given" x, .exc "BadRing" ["index", "name"] [y, x], .exc "Crossing" ["second", "first"] [y, x], ex1 "BadPoint" "given" x, ex1 "BadSlack" "given" x, ex1 "BadArc" "given" x, ex1 "BadNumber" "given" x, .exc "BadText" ["word", "line"] [y, x], ex1 "Clash" "pair" x, ex1 "TooMany" "most" x, ex1 "Unlike" "other" x, ex1 "NothingToUndo" "count" x, ex1 "NoArea" "name" x]) (ev_catL (xs := [ex1 "BadAreas" "given" x, ex1 "BadName" "given" x, .exc "BadRing" ["index", "name"] [y, x], .exc "Crossing" ["second", "first"] [y, x], ex1 "BadPoint" "given" x, ex1 "BadSlack" "given" x, ex1 "BadArc" "given" x, ex1 "BadNumber" "given" x, .exc "BadText" ["word", "line"] [y, x], ex1 "Clash" "pair" x, ex1 "TooMany" "most" x, ex1 "Unlike" "other" x]) (ys := [ex1 "NothingToUndo" "count" x, ex1 "NoArea" "name" x]) (ev_b (i := 2) rfl) (ev_lst (av_cons (ev_exk1 (a := x) (i := 0) trivial rfl) (av_cons (ev_exk1 (a := x) (i := 0) trivial rfl) av_nil))) (by simp only [List.length_cons, List.length_nil]; omega)) h
theorem h_L_told : ∀ x ds n R, ds.length = 1 → C_L_told x ds n R → w_L_told x {nx := fun _ n => R .non n, rt := R} (st0 ds N_L_told) n := by
  intro q ds n R _ h
  have hb := sizeLine_big
  obtain ⟨x, y, rfl, h⟩ := h
  show w_L_told q _ [.dt (.lst (madeL x y)), .un, .un, .un, .un, .un, .un, .un, .un, .un, .un] n
  unfold w_L_told
  refine st_p3 (av_3 (ev_ixL (xs := madeL x y) (ev_b (i := 0) rfl) ev_c rfl) (ev_ixL (xs := madeL x y) (ev_b (i := 0) rfl) ev_c rfl) (ev_ixL (xs := madeL x y) (ev_b (i := 0) rfl) ev_c rfl)) ?_
  show sSeq _ _ q _ [.dt (.lst (madeL x y)), .dt (.exc "BadRing" ["index", "name"] [y, x]), .dt (.exc "Crossing" ["second", "first"] [y, x]), .dt (.exc "BadText" ["word", "line"] [y, x]), .un, .un, .un, .un, .un, .un, .un] n
  refine st_p3 (av_3 (ev_ixL (xs := madeL x y) (ev_b (i := 0) rfl) ev_c rfl) (ev_ixL (xs := madeL x y) (ev_b (i := 0) rfl) ev_c rfl) (ev_ixL (xs := madeL x y) (ev_b (i := 0) rfl) ev_c rfl)) ?_
  show sSeq _ _ q _ [.dt (.lst (madeL x y)), .dt (.exc "BadRing" ["index", "name"] [y, x]), .dt (.exc "Crossing" ["second", "first"] [y, x]), .dt (.exc "BadText" ["word", "line"] [y, x]), .dt (ex1 "Clash" "pair" x), .dt (ex1 "TooMany" "most" x), .dt (ex1 "Unlike" "other" x), .un, .un, .un, .un] n
  refine st_p2 (av_2 (ev_ixL (xs := madeL x y) (ev_b (i := 0) rfl) ev_c rfl) (ev_ixL (xs := madeL x y) (ev_b (i := 0) rfl) ev_c rfl)) ?_
  show sSeq _ _ q _ [.dt (.lst (madeL x y)), .dt (.exc "BadRing" ["index", "name"] [y, x]), .dt (.exc "Crossing" ["second", "first"] [y, x]), .dt (.exc "BadText" ["word", "line"] [y, x]), .dt (ex1 "Clash" "pair" x), .dt (ex1 "TooMany" "most" x), .dt (ex1 "Unlike" "other" x), .dt (ex1 "NothingToUndo" "count" x), .dt (ex1 "NoArea" "name" x), .un, .un] n
  refine st_asg (d := .lst [x, x, x, x, x, x]) (ev_fz (nv_mapE (α := Int) (fun i => .int i) (fun _ => x) (ys := [0, 1, 4, 5, 6, 7]) (iv_sqT (ev_tup (av_cons ev_c (av_cons ev_c (av_cons ev_c (av_cons ev_c (av_cons ev_c (av_cons ev_c av_nil)))))))) (fun a ha => ?_) (by simp only [List.length_cons, List.length_nil]; omega))) ?_
  · have ix : ∃ c : Str, c ∈ csE ∧ ("given" : Str) ∈ flE c ∧ atI (madeL x y) a = some (ex1 c "given" x) := by
      simp only [List.mem_cons, List.not_mem_nil, or_false] at ha
      rcases ha with rfl | rfl | rfl | rfl | rfl | rfl
      · exact ⟨"BadAreas", mE_BadAreas, fE_BadAreas, rfl⟩
      · exact ⟨"BadName", mE_BadName, fE_BadName, rfl⟩
      · exact ⟨"BadPoint", mE_BadPoint, fE_BadPoint, rfl⟩
      · exact ⟨"BadSlack", mE_BadSlack, fE_BadSlack, rfl⟩
      · exact ⟨"BadArc", mE_BadArc, fE_BadArc, rfl⟩
      · exact ⟨"BadNumber", mE_BadNumber, fE_BadNumber, rfl⟩
    obtain ⟨c, hc, hf, hx⟩ := ix
    exact ev_fld1 (ev_ixL (xs := madeL x y) (ev_b (i := 0) rfl) (ev_b (i := 10) (d := .int a) rfl) hx) hc hf
  show sSeq _ _ q _ [.dt (.lst (madeL x y)), .dt (.exc "BadRing" ["index", "name"] [y, x]), .dt (.exc "Crossing" ["second", "first"] [y, x]), .dt (.exc "BadText" ["word", "line"] [y, x]), .dt (ex1 "Clash" "pair" x), .dt (ex1 "TooMany" "most" x), .dt (ex1 "Unlike" "other" x), .dt (ex1 "NothingToUndo" "count" x), .dt (ex1 "NoArea" "name" x), .dt (.lst [x, x, x, x, x, x]), .un] n
  refine st_asg (d := .lst [x, x, x, x, x, x, x, y, x]) (ev_catL (xs := [x, x, x, x, x, x]) (ys := [x, y, x]) (ev_b (i := 9) rfl) (ev_lst (av_cons (ev_fldB (ev_b (i := 1) rfl) mE_BadRing fE_BadRingB) (av_cons (ev_fldA (ev_b (i := 1) rfl) mE_BadRing fE_BadRingA) (av_cons (ev_fldB (ev_b (i := 2) rfl) mE_Crossing fE_CrossingB) av_nil)))) (by simp only [List.length_cons, List.length_nil]; omega)) ?_
  show sSeq _ _ q _ [.dt (.lst (madeL x y)), .dt (.exc "BadRing" ["index", "name"] [y, x]), .dt (.exc "Crossing" ["second", "first"] [y, x]), .dt (.exc "BadText" ["word", "line"] [y, x]), .dt (ex1 "Clash" "pair" x), .dt (ex1 "TooMany" "most" x), .dt (ex1 "Unlike" "other" x), .dt (ex1 "NothingToUndo" "count" x), .dt (ex1 "NoArea" "name" x), .dt (.lst [x, x, x, x, x, x, x, y, x]), .un] n
  refine st_asg (d := .lst [x, x, x, x, x, x, x, y, x, y, x, y, x]) (ev_catL (xs := [x, x, x, x, x, x, x, y, x]) (ys := [y, x, y, x]) (ev_b (i := 9) rfl) (ev_lst (av_cons (ev_fldA (ev_b (i := 2) rfl) mE_Crossing fE_CrossingA) (av_cons (ev_fldB (ev_b (i := 3) rfl) mE_BadText fE_BadTextB) (av_cons (ev_fldA (ev_b (i := 3) rfl) mE_BadText fE_BadTextA) (av_cons (ev_fld1 (ev_b (i := 4) rfl) mE_Clash fE_Clash) av_nil))))) (by simp only [List.length_cons, List.length_nil]; omega)) ?_
  show sRet _ q _ [.dt (.lst (madeL x y)), .dt (.exc "BadRing" ["index", "name"] [y, x]), .dt (.exc "Crossing" ["second", "first"] [y, x]), .dt (.exc "BadText" ["word", "line"] [y, x]), .dt (ex1 "Clash" "pair" x), .dt (ex1 "TooMany" "most" x), .dt (ex1 "Unlike" "other" x), .dt (ex1 "NothingToUndo" "count" x), .dt (ex1 "NoArea" "name" x), .dt (.lst [x, x, x, x, x, x, x, y, x, y, x, y, x]), .un] n
  exact st_ret (d := .lst (toldL x y)) (ev_catL (xs := [x, x, x, x, x, x, x, y, x, y, x, y, x]) (ys := [x, x, x, x]) (ev_b (i := 9) rfl) (ev_lst (av_cons (ev_fld1 (ev_b (i := 5) rfl) mE_TooMany fE_TooMany) (av_cons (ev_fld1 (ev_b (i := 6) rfl) mE_Unlike fE_Unlike) (av_cons (ev_fld1 (ev_b (i := 7) rfl) mE_NothingToUndo fE_NothingToUndo) (av_cons (ev_fld1 (ev_b (i := 8) rfl) mE_NoArea fE_NoArea) av_nil))))) (by simp only [List.length_cons, List.length_nil]; omega)) h
theorem h_L_kinds : ∀ x ds n R, ds.length = 1 → C_L_kinds x ds n R → w_L_kinds x {nx := fun _ n => R .non n, rt := R} (st0 ds N_L_kinds) n := by
  intro q ds n R _ h
  have hb := sizeLine_big
  obtain ⟨c, ns, fs, rfl, hc, h⟩ := h
  show w_L_kinds q _ [.dt (.exc c ns fs), .un, .un] n
  unfold w_L_kinds
  unfold kindsD csE at h
  simp only [List.map_cons, List.map_nil] at h
  generalize isO = fo at h ⊢
  generalize isT = ft at h ⊢
  refine st_asg (d := .lst [.bl (fo "BadAreas" c), .bl (fo "BadName" c), .bl (fo "BadRing" c)]) (ev_lst (av_cons (ev_isE (ev_b (i := 0) (d := .exc c ns fs) rfl) hc) (av_cons (ev_isE (ev_b (i := 0) (d := .exc c ns fs) rfl) hc) (av_cons (ev_isE (ev_b (i := 0) (d := .exc c ns fs) rfl) hc) av_nil)))) ?_
  show sSeq _ _ q _ [.dt (.exc c ns fs), .dt (.lst [.bl (fo "BadAreas" c), .bl (fo "BadName" c), .bl (fo "BadRing" c)]), .un] n
  refine st_asg (d := .lst [.bl (fo "BadAreas" c), .bl (fo "BadName" c), .bl (fo "BadRing" c), .bl (fo "Crossing" c), .bl (fo "BadPoint" c), .bl (fo "BadSlack" c)]) (ev_catL (xs := [.bl (fo "BadAreas" c), .bl (fo "BadName" c), .bl (fo "BadRing" c)]) (ys := [.bl (fo "Crossing" c), .bl (fo "BadPoint" c), .bl (fo "BadSlack" c)]) (ev_b (i := 1) rfl) (ev_lst (av_cons (ev_isE (ev_b (i := 0) (d := .exc c ns fs) rfl) hc) (av_cons (ev_isE (ev_b (i := 0) (d := .exc c ns fs) rfl) hc) (av_cons (ev_isE (ev_b (i := 0) (d := .exc c ns fs) rfl) hc) av_nil)))) (by simp only [List.length_cons, List.length_nil]; omega)) ?_
  show sSeq _ _ q _ [.dt (.exc c ns fs), .dt (.lst [.bl (fo "BadAreas" c), .bl (fo "BadName" c), .bl (fo "BadRing" c), .bl (fo "Crossing" c), .bl (fo "BadPoint" c), .bl (fo "BadSlack" c)]), .un] n
  refine st_asg (d := .lst [.bl (fo "BadAreas" c), .bl (fo "BadName" c), .bl (fo "BadRing" c), .bl (fo "Crossing" c), .bl (fo "BadPoint" c), .bl (fo "BadSlack" c), .bl (fo "BadArc" c), .bl (fo "BadNumber" c), .bl (fo "BadText" c)]) (ev_catL (xs := [.bl (fo "BadAreas" c), .bl (fo "BadName" c), .bl (fo "BadRing" c), .bl (fo "Crossing" c), .bl (fo "BadPoint" c), .bl (fo "BadSlack" c)]) (ys := [.bl (fo "BadArc" c), .bl (fo "BadNumber" c), .bl (fo "BadText" c)]) (ev_b (i := 1) rfl) (ev_lst (av_cons (ev_isE (ev_b (i := 0) (d := .exc c ns fs) rfl) hc) (av_cons (ev_isE (ev_b (i := 0) (d := .exc c ns fs) rfl) hc) (av_cons (ev_isE (ev_b (i := 0) (d := .exc c ns fs) rfl) hc) av_nil)))) (by simp only [List.length_cons, List.length_nil]; omega)) ?_
  show sSeq _ _ q _ [.dt (.exc c ns fs), .dt (.lst [.bl (fo "BadAreas" c), .bl (fo "BadName" c), .bl (fo "BadRing" c), .bl (fo "Crossing" c), .bl (fo "BadPoint" c), .bl (fo "BadSlack" c), .bl (fo "BadArc" c), .bl (fo "BadNumber" c), .bl (fo "BadText" c)]), .un] n
  refine st_asg (d := .lst [.bl (fo "BadAreas" c), .bl (fo "BadName" c), .bl (fo "BadRing" c), .bl (fo "Crossing" c), .bl (fo "BadPoint" c), .bl (fo "BadSlack" c), .bl (fo "BadArc" c), .bl (fo "BadNumber" c), .bl (fo "BadText" c), .bl (fo "Clash" c), .bl (fo "TooMany" c), .bl (fo "Unlike" c)]) (ev_catL (xs := [.bl (fo "BadAreas" c), .bl (fo "BadName" c), .bl (fo "BadRing" c), .bl (fo "Crossing" c), .bl (fo "BadPoint" c), .bl (fo "BadSlack" c), .bl (fo "BadArc" c), .bl (fo "BadNumber" c), .bl (fo "BadText" c)]) (ys := [.bl (fo "Clash" c), .bl (fo "TooMany" c), .bl (fo "Unlike" c)]) (ev_b (i := 1) rfl) (ev_lst (av_cons (ev_isE (ev_b (i := 0) (d := .exc c ns fs) rfl) hc) (av_cons (ev_isE (ev_b (i := 0) (d := .exc c ns fs) rfl) hc) (av_cons (ev_isE (ev_b (i := 0) (d := .exc c ns fs) rfl) hc) av_nil)))) (by simp only [List.length_cons, List.length_nil]; omega)) ?_
  show sSeq _ _ q _ [.dt (.exc c ns fs), .dt (.lst [.bl (fo "BadAreas" c), .bl (fo "BadName" c), .bl (fo "BadRing" c), .bl (fo "Crossing" c), .bl (fo "BadPoint" c), .bl (fo "BadSlack" c), .bl (fo "BadArc" c), .bl (fo "BadNumber" c), .bl (fo "BadText" c), .bl (fo "Clash" c), .bl (fo "TooMany" c), .bl (fo "Unlike" c)]), .un] n
  refine st_asg (d := .lst [.bl (fo "BadAreas" c), .bl (fo "BadName" c), .bl (fo "BadRing" c), .bl (fo "Crossing" c), .bl (fo "BadPoint" c), .bl (fo "BadSlack" c), .bl (fo "BadArc" c), .bl (fo "BadNumber" c), .bl (fo "BadText" c), .bl (fo "Clash" c), .bl (fo "TooMany" c), .bl (fo "Unlike" c), .bl (fo "NothingToUndo" c), .bl (fo "NoArea" c)]) (ev_catL (xs := [.bl (fo "BadAreas" c), .bl (fo "BadName" c), .bl (fo "BadRing" c), .bl (fo "Crossing" c), .bl (fo "BadPoint" c), .bl (fo "BadSlack" c), .bl (fo "BadArc" c), .bl (fo "BadNumber" c), .bl (fo "BadText" c), .bl (fo "Clash" c), .bl (fo "TooMany" c), .bl (fo "Unlike" c)]) (ys := [.bl (fo "NothingToUndo" c), .bl (fo "NoArea" c)]) (ev_b (i := 1) rfl) (ev_lst (av_cons (ev_isE (ev_b (i := 0) (d := .exc c ns fs) rfl) hc) (av_cons (ev_isE (ev_b (i := 0) (d := .exc c ns fs) rfl) hc) av_nil))) (by simp only [List.length_cons, List.length_nil]; omega)) ?_
  show sSeq _ _ q _ [.dt (.exc c ns fs), .dt (.lst [.bl (fo "BadAreas" c), .bl (fo "BadName" c), .bl (fo "BadRing" c), .bl (fo "Crossing" c), .bl (fo "BadPoint" c), .bl (fo "BadSlack" c), .bl (fo "BadArc" c), .bl (fo "BadNumber" c), .bl (fo "BadText" c), .bl (fo "Clash" c), .bl (fo "TooMany" c), .bl (fo "Unlike" c), .bl (fo "NothingToUndo" c), .bl (fo "NoArea" c)]), .un] n
  refine st_asg (d := .lst [.bl (fo "SheetError" c), .bl (fo "StateError" c), .bl (fo "MissingError" c)]) (ev_lst (av_cons (ev_isE (ev_b (i := 0) (d := .exc c ns fs) rfl) hc) (av_cons (ev_isE (ev_b (i := 0) (d := .exc c ns fs) rfl) hc) (av_cons (ev_isE (ev_b (i := 0) (d := .exc c ns fs) rfl) hc) av_nil)))) ?_
  show sSeq _ _ q _ [.dt (.exc c ns fs), .dt (.lst [.bl (fo "BadAreas" c), .bl (fo "BadName" c), .bl (fo "BadRing" c), .bl (fo "Crossing" c), .bl (fo "BadPoint" c), .bl (fo "BadSlack" c), .bl (fo "BadArc" c), .bl (fo "BadNumber" c), .bl (fo "BadText" c), .bl (fo "Clash" c), .bl (fo "TooMany" c), .bl (fo "Unlike" c), .bl (fo "NothingToUndo" c), .bl (fo "NoArea" c)]), .dt (.lst [.bl (fo "SheetError" c), .bl (fo "StateError" c), .bl (fo "MissingError" c)])] n
  refine st_asg (d := .lst [.bl (fo "SheetError" c), .bl (fo "StateError" c), .bl (fo "MissingError" c), .bl (ft "ValueError" c), .bl (ft "RuntimeError" c)]) (ev_catL (xs := [.bl (fo "SheetError" c), .bl (fo "StateError" c), .bl (fo "MissingError" c)]) (ys := [.bl (ft "ValueError" c), .bl (ft "RuntimeError" c)]) (ev_b (i := 2) rfl) (ev_lst (av_cons (ev_isE (ev_b (i := 0) (d := .exc c ns fs) rfl) hc) (av_cons (ev_isE (ev_b (i := 0) (d := .exc c ns fs) rfl) hc) av_nil))) (by simp only [List.length_cons, List.length_nil]; omega)) ?_
  show sRet _ q _ [.dt (.exc c ns fs), .dt (.lst [.bl (fo "BadAreas" c), .bl (fo "BadName" c), .bl (fo "BadRing" c), .bl (fo "Crossing" c), .bl (fo "BadPoint" c), .bl (fo "BadSlack" c), .bl (fo "BadArc" c), .bl (fo "BadNumber" c), .bl (fo "BadText" c), .bl (fo "Clash" c), .bl (fo "TooMany" c), .bl (fo "Unlike" c), .bl (fo "NothingToUndo" c), .bl (fo "NoArea" c)]), .dt (.lst [.bl (fo "SheetError" c), .bl (fo "StateError" c), .bl (fo "MissingError" c), .bl (ft "ValueError" c), .bl (ft "RuntimeError" c)])] n
  exact st_ret (d := .tup [.lst [.bl (fo "BadAreas" c), .bl (fo "BadName" c), .bl (fo "BadRing" c), .bl (fo "Crossing" c), .bl (fo "BadPoint" c), .bl (fo "BadSlack" c), .bl (fo "BadArc" c), .bl (fo "BadNumber" c), .bl (fo "BadText" c), .bl (fo "Clash" c), .bl (fo "TooMany" c), .bl (fo "Unlike" c), .bl (fo "NothingToUndo" c), .bl (fo "NoArea" c)], .lst [.bl (fo "SheetError" c), .bl (fo "StateError" c), .bl (fo "MissingError" c), .bl (ft "ValueError" c), .bl (ft "RuntimeError" c), .bl (ft "LookupError" c)]]) (ev_tup (av_2 (ev_v (i := 1) rfl) (ev_catL (xs := [.bl (fo "SheetError" c), .bl (fo "StateError" c), .bl (fo "MissingError" c), .bl (ft "ValueError" c), .bl (ft "RuntimeError" c)]) (ys := [.bl (ft "LookupError" c)]) (ev_b (i := 2) rfl) (ev_lst (av_cons (ev_isE (ev_b (i := 0) (d := .exc c ns fs) rfl) hc) av_nil)) (by simp only [List.length_cons, List.length_nil]; omega)))) h
end DL
set_option maxHeartbeats 4000000
/-! ### the law (k01) -/
namespace DL
open PySem PySem.Spec PyProof.Rows L2
/-! what is shown of lists -/
theorem ShE.elt {k b : Nat} : ∀ {xs : List D}, (∀ d ∈ xs, ShE k b d) → plainEL xs = true ∧ PyData.showableAll (pyL xs) = true ∧ PyData.depthAll (pyL xs) ≤ k ∧ piled (PyData.shownAll (pyL xs)) ≤ xs.length * (b + 2) ∧ (PyData.shownAll (pyL xs)).length = xs.length
  | [], _ => ⟨rfl, rfl, Nat.zero_le _, by simp [pyL, PyData.shownAll, piled], rfl⟩
  | d :: xs, h => by
    have h1 := h d (List.mem_cons_self ..)
    obtain ⟨a1, a2, a4, a5, a6⟩ := ShE.elt (xs := xs) fun e he => h e (List.mem_cons_of_mem _ he)
    refine ⟨?_, ?_, ?_, ?_, ?_⟩
    · show (plainE d && plainEL xs) = true
      rw [h1.pl, a1]
      rfl
    · show ((py d).showable && PyData.showableAll (pyL xs)) = true
      rw [h1.sh, a2]
      rfl
    · show max (py d).depth (PyData.depthAll (pyL xs)) ≤ k
      exact Nat.max_le.2 ⟨h1.dp, a4⟩
    · show piled ((py d).shown :: PyData.shownAll (pyL xs)) ≤ (xs.length + 1) * (b + 2)
      rw [piled_cons, Nat.succ_mul]
      have := h1.ln
      omega
    · show (PyData.shownAll (pyL xs)).length + 1 = xs.length + 1
      rw [a6]
theorem ShE.lst {k b : Nat} {xs : List D} (h : ∀ d ∈ xs, ShE k b d) (m : Nat) (hm : xs.length ≤ m) : ShE (k + 1) (m * (b + 2) + 3) (.lst xs) := by
  obtain ⟨a1, a2, a4, a5, _⟩ := ShE.elt h
  refine ⟨a1, a2, Nat.succ_le_succ a4, ?_⟩
  show (listText (PyData.shownAll (pyL xs))).length ≤ _
  unfold listText
  rw [strLen_append]
  have q := textFrom_len_le (PyData.shownAll (pyL xs)) 0 "["
  have q2 := piled_sum (PyData.shownAll (pyL xs))
  have : xs.length * (b + 2) ≤ m * (b + 2) := Nat.mul_le_mul_right _ hm
  have e1 : ((("[" : String) : Str)).length = 1 := rfl
  have e2 : ((("]" : String) : Str)).length = 1 := rfl
  omega
theorem ShE.mono {k k' b b' : Nat} {d : D} (h : ShE k b d) (h1 : k ≤ k') (h2 : b ≤ b') : ShE k' b' d := ⟨h.pl, h.sh, Nat.le_trans h.dp h1, Nat.le_trans h.ln h2⟩
/-- a thing that is told small -/
def smE (d : D) : Bool := plainE d && (py d).showable && decide ((py d).depth ≤ 40) && decide ((py d).shown.length ≤ 1000) && decide ((fmtT d).length ≤ 1000)
theorem smE_ok {d : D} (h : smE d = true) : ShE 40 1000 d ∧ ((∀ i, d = .int i → i.natAbs.log2 < 1920) → FmOk d) := by
  unfold smE at h
  simp only [Bool.and_eq_true, decide_eq_true_eq] at h
  obtain ⟨⟨⟨⟨h1, h2⟩, h3⟩, h4⟩, h5⟩ := h
  exact ⟨⟨h1, h2, h3, h4⟩, fun hi => ⟨h1, h2, h3, by omega, hi, by omega⟩⟩
theorem things_all : thingsL.all smE = true := by decide +kernel
theorem things_int : ∀ i : Int, .int i ∈ thingsL → i.natAbs.log2 < 1920 := by
  intro i h
  have hi : i = 0 ∨ i = -1 ∨ i = 5 ∨ i = 10 ^ 30 := by
    simp only [thingsL, List.mem_cons, List.not_mem_nil, or_false, D.int.injEq, reduceCtorEq, false_or] at h
    exact h
  rcases hi with rfl | rfl | rfl | rfl <;> decide +kernel
theorem thing_ok {d : D} (h : d ∈ thingsL) : ShE 40 1000 d ∧ FmOk d := by
  obtain ⟨h1, h2⟩ := smE_ok (List.all_eq_true.1 things_all d h)
  exact ⟨h1, h2 fun i e => things_int i (by rw [← e]; exact h)⟩
theorem told_sh {x y : D} (hx : ShE 40 1000 x) (hy : ShE 40 1000 y) : ShE 60 sizeLine (.lst (toldL x y)) := by
  have hb := sizeLine_big
  refine (ShE.lst (k := 40) (b := 1000) (fun d hd => ?_) 17 (by simp [toldL])).mono (by decide) (by omega)
  simp only [toldL, List.mem_cons, List.not_mem_nil, or_false] at hd
  rcases hd with rfl | rfl | rfl | rfl | rfl | rfl | rfl | rfl | rfl | rfl | rfl | rfl | rfl | rfl | rfl | rfl | rfl <;> assumption
/-! the classes, told by numbers -/
theorem kinds_at : ∀ j : Fin 14, (csE.map fun d => isO d (csE.getD j "")) = (List.range 14).map fun k => decide (k = j.val) := by decide +kernel
def famOf (j : Nat) : Nat := if j < 9 then 0 else if j < 13 then 1 else 2
theorem fams_at : ∀ j : Fin 14, [isO "SheetError" (csE.getD j ""), isO "StateError" (csE.getD j ""), isO "MissingError" (csE.getD j ""), isT "ValueError" (csE.getD j ""), isT "RuntimeError" (csE.getD j ""), isT "LookupError" (csE.getD j "")] = (List.range 6).map fun k => decide (k % 3 = famOf j.val) := by decide +kernel
theorem kinds_D (j : Fin 14) : kindsD (csE.getD j "") = .tup [.lst ((List.range 14).map fun k => .bl (decide (k = j.val))), .lst ((List.range 6).map fun k => .bl (decide (k % 3 = famOf j.val)))] := by
  unfold kindsD
  have e1 := congrArg (List.map D.bl) (kinds_at j)
  have e2 := congrArg (List.map D.bl) (fams_at j)
  rw [List.map_map, List.map_map] at e1
  rw [List.map_map] at e2
  have e1' : (csE.map fun d => D.bl (isO d (csE.getD j ""))) = (List.range 14).map fun k => D.bl (decide (k = j.val)) := e1
  have e2' : [D.bl (isO "SheetError" (csE.getD j "")), .bl (isO "StateError" (csE.getD j "")), .bl (isO "MissingError" (csE.getD j "")), .bl (isT "ValueError" (csE.getD j "")), .bl (isT "RuntimeError" (csE.getD j "")), .bl (isT "LookupError" (csE.getD j ""))] = (List.range 6).map fun k => D.bl (decide (k % 3 = famOf j.val)) := e2
  rw [e1', e2']
theorem rng_map (m : Nat) : rangeD 0 m = (List.range m).map fun k : Nat => D.int (k : Int) := by
  apply List.ext_getElem?
  intro i
  by_cases h : i < m
  · have h1 : i < (rangeD 0 m).length := by rw [rangeD_len]; exact h
    obtain ⟨_, e⟩ := rangeD_get m 0 i _ (List.getElem?_eq_getElem h1)
    rw [List.getElem?_eq_getElem h1, e, List.getElem?_map, List.getElem?_range h]
    simp
  · rw [List.getElem?_eq_none (by rw [rangeD_len]; omega), List.getElem?_eq_none (by rw [List.length_map, List.length_range]; omega)]
theorem lay_bls {α : Type} (f : α → Bool) (xs : List α) : Lay (.lst (xs.map fun a => D.bl (f a))) := (LayN.lst (k := 0) fun d hd => by
  obtain ⟨a, _, rfl⟩ := List.mem_map.1 hd
  exact LayN.bl _).lay
theorem rep_fl (d : D) : ∀ i : Nat, (List.replicate i [d]).flatten = List.replicate i d
  | 0 => rfl
  | i + 1 => by
    rw [List.replicate_succ, List.flatten_cons, List.replicate_succ, rep_fl d i]
    rfl
abbrev exD (p : Str × List Str × List D) : D := .exc p.1 p.2.1 p.2.2
def excL (x y : D) : List (Str × List Str × List D) := [("BadAreas", ["given"], [x]), ("BadName", ["given"], [x]), ("BadRing", ["index", "name"], [y, x]), ("Crossing", ["second", "first"], [y, x]), ("BadPoint", ["given"], [x]), ("BadSlack", ["given"], [x]),
  ("BadArc", ["given"], [x]), ("BadNumber", ["given"], [x]), ("BadText", ["word", "line"], [y, x]), ("Clash", ["pair"], [x]), ("TooMany", ["most"], [x]), ("Unlike", ["other"], [x]), ("NothingToUndo", ["count"], [x]), ("NoArea", ["name"], [x])]
theorem excL_D (x y : D) : (excL x y).map exD = madeL x y := rfl
theorem excL_c (x y : D) : (excL x y).map (·.1) = csE := rfl
section
variable {x : Xn} {η : List Sl} {n : Nat}
theorem ev_mod {wa wb : WE} {i j : Int} (ha : EV wa x η n (.int i)) (hb : EV wb x η n (.int j)) (hj : 0 < j) : EV (eBin oMod wa wb) x η n (.int (i % j)) := ev_bin ha hb fun _ h => ⟨hj, h⟩
theorem st_ifFL {t : WT} {a : WS} {k : Wk} (ht : TV t x η n false) (h : k.nx η n) : sIf t a sNext x k η n := by
  rw [r_sIf]
  exact ht _ h
theorem ev_pick1 {R : D → Nat → Prop} (h1 : η[1]? = some (.dt .drw)) (hn : 1 ≤ n) (h : ∀ d, d ∈ thingsL → R d (n - 1)) : eCall 2 C_L_pick [] (aCons (eVar 1) (aCons (eCall 0 C_L_things [] aNil) aNil)) x η n R :=
  av_2 (ev_v h1) (ev_call (ds := []) (d := .lst thingsL) av_nil rfl fun R hR => ⟨rfl, hR⟩) _ ⟨rfl, thingsL, rfl, by decide, by decide, hn, h⟩
theorem st_pick1 {i j : Nat} {s : WS} {k : Wk} (h1 : η[1]? = some (.dt .drw)) (hn : 2 ≤ n) (h : ∀ d e, d ∈ thingsL → e ∈ thingsL → s x k ((η.set i (.dt d)).set j (.dt e)) (n - 2)) :
    sSeq (sPar i j (aCons (eCall 2 C_L_pick [] (aCons (eVar 1) (aCons (eCall 0 C_L_things [] aNil) aNil))) (aCons (eCall 2 C_L_pick [] (aCons (eVar 1) (aCons (eCall 0 C_L_things [] aNil) aNil))) aNil))) s x k η n :=
  ev_pick1 h1 (by omega) fun d hd => ev_pick1 h1 (by omega) fun e he => h d e hd he
theorem ev_rep1 {w : WE} {d : D} {i : Nat} (h : EV w x η n d) (hi : i ≤ 100) : EV (eBin oRep (eFz (nLst (aCons w aNil))) (eC (.int (i : Int)))) x η n (.lst (List.replicate i d)) := ev_bin (ev_lst (av_1 h)) ev_c fun k hk => by
  have hb := sizeLine_big
  refine ⟨by omega, by omega, by simp only [List.length_cons, List.length_nil]; omega, ?_⟩
  rw [Int.toNat_natCast, rep_fl]
  exact hk
theorem st_g2 {w : WE} {i j : Nat} {s : WS} {k : Wk} {d e : D} (hw : EV w x η n (.tup [d, e])) (h : s x k ((η.set i (.dt d)).set j (.dt e)) n) : sSeq (sAsg w (gTp 2 (gsCons (gNm i) (gsCons (gNm j) gsNil)))) s x k η n := hw _ ⟨rfl, h⟩
end
theorem h_law : w_law (fun _ _ => False) { nx := fun _ _ => False, rt := fun d _ => d = .bl true } (.un :: .dt .drw :: List.replicate (N_law.length - 2) Sl.un) (2 ^ 39) := by
  have hb := sizeLine_big
  unfold w_law
  refine seq_cut (fun _ _ => True) (fun nx0 hn0 => ?_) (fun _ _ _ => rfl)
  refine st_for (iv_r1 (ev_c (d := .int 4)) ⟨by decide, by decide⟩) ?_
  refine for_cnt (fun m η n => (∃ s2 s3 s4 s5 s6 s7 s8 s9 s10 s11 s12, η = [.un, .dt .drw, s2, s3, s4, s5, s6, s7, s8, s9, s10, s11, s12]) ∧ 2 * m ≤ n) (fun η n _ => hn0 η n trivial) ?_ _ _ _ ⟨⟨_, _, _, _, _, _, _, _, _, _, _, rfl⟩, by rw [rangeD_len]; decide⟩
  rintro d m η n nxt ⟨⟨s2, s3, s4, s5, s6, s7, s8, s9, s10, s11, s12, rfl⟩, hn⟩ hx
  show sSeq _ _ _ _ [.un, .dt .drw, .dt d, s3, s4, s5, s6, s7, s8, s9, s10, s11, s12] n
  refine st_pick1 rfl (by omega) fun x y hxt hyt => ?_
  obtain ⟨sx, fx⟩ := thing_ok hxt
  obtain ⟨sy, fy⟩ := thing_ok hyt
  show sSeq _ _ _ _ [.un, .dt .drw, .dt d, .dt x, .dt y, s5, s6, s7, s8, s9, s10, s11, s12] (n - 2)
  refine st_asg (d := .lst (toldL x y)) (ev_catL (xs := [x, x, x, x, x, x, x, y, x, y, x, y]) (ys := [x, x, x, x, x]) (ev_catL (xs := [x, x, x, x, x, x]) (ys := [x, y, x, y, x, y]) (ev_rep1 (i := 6) (ev_v (i := 3) rfl) (by decide)) (ev_lst (av_cons (ev_v (i := 3) rfl) (av_cons (ev_v (i := 4) rfl) (av_cons (ev_v (i := 3) rfl) (av_cons (ev_v (i := 4) rfl) (av_2 (ev_v (i := 3) rfl) (ev_v (i := 4) rfl))))))) (by simp only [List.length_cons, List.length_nil]; omega)) (ev_rep1 (i := 5) (ev_v (i := 3) rfl) (by decide)) (by simp only [List.length_cons, List.length_nil]; omega)) ?_
  show sFor _ _ _ _ _ [.un, .dt .drw, .dt d, .dt x, .dt y, .dt (.lst (toldL x y)), s6, s7, s8, s9, s10, s11, s12] (n - 2)
  refine st_for (iv_sqT (xs := [(), ()].map fun _ => .lst (madeL x y)) (ev_tup (av_2 (ev_call (av_2 (ev_v (i := 3) rfl) (ev_v (i := 4) rfl)) rfl fun R hR => ⟨x, y, rfl, fx, fy, hR⟩) (ev_call (av_2 (ev_v (i := 3) rfl) (ev_v (i := 4) rfl)) rfl fun R hR => ⟨x, y, rfl, fx, fy, hR⟩)))) ?_
  refine for_ind (fun _ : Unit => .lst (madeL x y)) (fun _ η n' => n' = n - 2 ∧ ∃ t6 t7 t8 t9 t10 t11 t12, η = [.un, .dt .drw, .dt d, .dt x, .dt y, .dt (.lst (toldL x y)), t6, t7, t8, t9, t10, t11, t12]) (fun η n' h => ?_) ?_ _ _ _ ⟨rfl, _, _, _, _, _, _, _, rfl⟩
  · obtain ⟨rfl, t6, t7, t8, t9, t10, t11, t12, rfl⟩ := h
    exact hx _ _ ⟨⟨_, _, _, _, _, _, _, _, _, _, _, rfl⟩, by omega⟩
  rintro _ ys η n' nxt2 ⟨rfl, t6, t7, t8, t9, t10, t11, t12, rfl⟩ hx2
  show sSeq _ _ _ _ [.un, .dt .drw, .dt d, .dt x, .dt y, .dt (.lst (toldL x y)), .dt (.lst (madeL x y)), t7, t8, t9, t10, t11, t12] (n - 2)
  have sh := told_sh sx sy
  refine st_ifF (tv_test (ev_bin (a := .str (py (.lst (toldL x y))).shown) (b := .str (py (.lst (toldL x y))).shown) (ev_cb (o := bReprE) (ds := [.lst (toldL x y)]) (av_1 (ev_call (av_1 (ev_v (i := 6) rfl)) rfl fun R hR => ⟨x, y, rfl, hR⟩)) fun k hk => ⟨sh, hk⟩) (ev_cb (o := bReprE) (ds := [.lst (toldL x y)]) (av_1 (ev_b (i := 5) rfl)) fun k hk => ⟨sh, hk⟩) fun k hk => by
    rw [r_neS, decide_eq_true rfl]
    exact hk)) ?_
  show sFor _ _ _ _ _ [.un, .dt .drw, .dt d, .dt x, .dt y, .dt (.lst (toldL x y)), .dt (.lst (madeL x y)), t7, t8, t9, t10, t11, t12] (n - 2)
  rw [← excL_D x y]
  refine st_for (iv_en (xs := (excL x y).map exD) (ev_v (i := 6) rfl)) ?_
  refine for_en exD (fun ys i η n' => n' = n - 2 ∧ (∃ j : Nat, i = (j : Int) ∧ ys.map (·.1) = csE.drop j) ∧ ∃ u7 u8 u9 u10 u11 u12, η = [.un, .dt .drw, .dt d, .dt x, .dt y, .dt (.lst (toldL x y)), .dt (.lst ((excL x y).map exD)), u7, u8, u9, u10, u11, u12]) (fun i η n' h => ?_) ?_ _ _ _ _ ⟨rfl, ⟨0, rfl, excL_c x y⟩, _, _, _, _, _, _, rfl⟩
  · obtain ⟨rfl, _, u7, u8, u9, u10, u11, u12, rfl⟩ := h
    exact hx2 _ _ ⟨rfl, _, _, _, _, _, _, _, rfl⟩
  rintro ⟨c, ns, fs⟩ ys2 i η n' nxt3 ⟨rfl, ⟨j, rfl, hj⟩, u7, u8, u9, u10, u11, u12, rfl⟩ hx3
  have hlt : j < 14 := by
    have := congrArg List.length hj
    simp only [List.map_cons, List.length_cons, List.length_drop] at this
    have h14 : csE.length = 14 := rfl
    omega
  have hc : csE.getD j "" = c ∧ ys2.map (·.1) = csE.drop (j + 1) := by
    rw [List.drop_eq_getElem_cons (show j < csE.length from hlt)] at hj
    injection hj with h1 h2
    exact ⟨by rw [List.getD_eq_getElem?_getD, List.getElem?_eq_getElem (show j < csE.length from hlt)]; exact h1.symm, h2⟩
  have hm : c ∈ csE := by
    rw [← hc.1, List.getD_eq_getElem?_getD, List.getElem?_eq_getElem (show j < csE.length from hlt)]
    exact List.getElem_mem _
  have kd := kinds_D ⟨j, hlt⟩
  simp only [hc.1] at kd
  refine ⟨rfl, ?_⟩
  dsimp only [gsCons, gsNil, gNm, List.set_cons_succ, List.set_cons_zero]
  show sSeq _ _ _ _ [.un, .dt .drw, .dt d, .dt x, .dt y, .dt (.lst (toldL x y)), .dt (.lst ((excL x y).map exD)), .dt (.int (j : Int)), .dt (.exc c ns fs), u9, u10, u11, u12] (n - 2)
  refine st_g2 (ev_eq (ev_call (av_1 (ev_v (i := 8) rfl)) rfl fun R hR => ⟨c, ns, fs, rfl, hm, hR⟩) kd) ?_
  show sSeq _ _ _ _ [.un, .dt .drw, .dt d, .dt x, .dt y, .dt (.lst (toldL x y)), .dt (.lst ((excL x y).map exD)), .dt (.int (j : Int)), .dt (.exc c ns fs), .dt (.lst ((List.range 14).map fun k => .bl (decide (k = j)))), .dt (.lst ((List.range 6).map fun k => .bl (decide (k % 3 = famOf j)))), u11, u12] (n - 2)
  refine st_asg (d := .int (famOf j : Nat)) ?_ ?_
  · unfold famOf
    refine ev_if (b := decide (j < 9)) (tv_test (ev_eq (ev_lt (ev_b (i := 7) rfl) ev_c) (by congr 1; exact decide_eq_decide.2 (by omega)))) (fun h => ?_) (fun h => ?_)
    · rw [if_pos (of_decide_eq_true h)]
      exact ev_c
    · rw [if_neg (of_decide_eq_false h)]
      refine ev_if (b := decide (j < 13)) (tv_test (ev_eq (ev_lt (ev_b (i := 7) rfl) ev_c) (by congr 1; exact decide_eq_decide.2 (by omega)))) (fun h => ?_) (fun h => ?_)
      · rw [if_pos (of_decide_eq_true h)]
        exact ev_c
      · rw [if_neg (of_decide_eq_false h)]
        exact ev_c
  show sSeq _ _ _ _ [.un, .dt .drw, .dt d, .dt x, .dt y, .dt (.lst (toldL x y)), .dt (.lst ((excL x y).map exD)), .dt (.int (j : Int)), .dt (.exc c ns fs), .dt (.lst ((List.range 14).map fun k => .bl (decide (k = j)))), .dt (.lst ((List.range 6).map fun k => .bl (decide (k % 3 = famOf j)))), .dt (.int (famOf j : Nat)), u12] (n - 2)
  have rg : ∀ m : Nat, rangeD 0 m = (List.range m).map fun k : Nat => D.int (k : Int) := fun m => rng_map m
  have hf3 : famOf j < 3 := by
    unfold famOf
    split
    · decide
    · split <;> decide
  refine st_ifF (tv_test (ev_bin (ev_b (i := 9) (d := .lst ((List.range 14).map fun k => .bl (decide (k = j)))) rfl) (ev_fz (nv_mapE (α := Nat) (fun k => .int (k : Int)) (fun k => .bl (decide (k = j))) (ys := List.range 14) (fun R hR => iv_r1 (ev_c (d := .int 14)) ⟨by decide, by decide⟩ R (by rw [show ((14 : Int)).toNat = 14 from rfl, rg]; exact hR)) (fun k _ => ev_eq (ev_eqI (ev_b (i := 12) rfl) (ev_b (i := 7) rfl)) (by congr 1; exact decide_eq_decide.2 (by omega))) (by rw [List.length_range]; omega))) fun k hk => ne_same (lay_bls _ _) hk)) ?_
  refine st_ifFL (tv_test (ev_bin (ev_b (i := 10) (d := .lst ((List.range 6).map fun k => .bl (decide (k % 3 = famOf j)))) rfl) (ev_fz (nv_mapE (α := Nat) (fun k => .int (k : Int)) (fun k => .bl (decide (k % 3 = famOf j))) (ys := List.range 6) (fun R hR => iv_r1 (ev_c (d := .int 6)) ⟨by decide, by decide⟩ R (by rw [show ((6 : Int)).toNat = 6 from rfl, rg]; exact hR)) (fun k _ => ev_eq (ev_eqI (ev_mod (ev_b (i := 12) rfl) ev_c (by decide)) (ev_b (i := 11) rfl)) (by congr 1; exact decide_eq_decide.2 (by omega))) (by rw [List.length_range]; omega))) fun k hk => ne_same (lay_bls _ _) hk)) ?_
  exact hx3 _ _ ⟨rfl, ⟨j + 1, by omega, hc.2⟩, _, _, _, _, _, _, rfl⟩
end DL
set_option maxHeartbeats 0
namespace DL
open PySem PySem.Spec PyProof.Rows L2
abbrev N_BadAreas__init_ : List Str := ["self", "given"]
theorem sc_BadAreas__init_ : FnScope N_BadAreas__init_ ["self", "given"] (defScope s_BadAreas__init_) := ⟨rfl, rfl, rfl, by decide +kernel, rfl, by decide +kernel, by decide +kernel⟩
theorem b_BadAreas__init_ {P : Program} {wd : World} {K : PySem.W.Frag} {mg : Str → Option Value} {base : Heap} (B : ExBF famValue K (He.ga K "SheetError")) (gS : mg "SheetError" = some (.ref (He.ga K "SheetError"))) (f : Addr) (cdv : Value) (A : Around) (outer : List Env) (s : Shared) (H : Hp) (E : XK) :
    PSs (cxOf CX0 P wd K mg base N_BadAreas__init_ "BadAreas.__init__" (defScope s_BadAreas__init_) f cdv A outer s H E) (defBody s_BadAreas__init_) (tSeq (tIn famValue K (tC (.str "no tuple of areas"))) (tOstF famValue K "given" (tVar 0) (tVar 1))) :=
  pss_cons (ps_expr (pe_iniF famV B (by rfl) gS (pa_cons (pv 0) (pa_cons pe_str pa_nil)))) (pss_one (ps_ostF famV (pv 0) (pv 1)))
abbrev N_BadName__init_ : List Str := ["self", "given"]
theorem sc_BadName__init_ : FnScope N_BadName__init_ ["self", "given"] (defScope s_BadName__init_) := ⟨rfl, rfl, rfl, by decide +kernel, rfl, by decide +kernel, by decide +kernel⟩
theorem b_BadName__init_ {P : Program} {wd : World} {K : PySem.W.Frag} {mg : Str → Option Value} {base : Heap} (B : ExBF famValue K (He.ga K "SheetError")) (gS : mg "SheetError" = some (.ref (He.ga K "SheetError"))) (f : Addr) (cdv : Value) (A : Around) (outer : List Env) (s : Shared) (H : Hp) (E : XK) :
    PSs (cxOf CX0 P wd K mg base N_BadName__init_ "BadName.__init__" (defScope s_BadName__init_) f cdv A outer s H E) (defBody s_BadName__init_) (tSeq (tIn famValue K (tC (.str "no name"))) (tOstF famValue K "given" (tVar 0) (tVar 1))) :=
  pss_cons (ps_expr (pe_iniF famV B (by rfl) gS (pa_cons (pv 0) (pa_cons pe_str pa_nil)))) (pss_one (ps_ostF famV (pv 0) (pv 1)))
abbrev N_BadRing__init_ : List Str := ["self", "name", "index"]
theorem sc_BadRing__init_ : FnScope N_BadRing__init_ ["self", "name", "index"] (defScope s_BadRing__init_) := ⟨rfl, rfl, rfl, by decide +kernel, rfl, by decide +kernel, by decide +kernel⟩
theorem b_BadRing__init_ {P : Program} {wd : World} {K : PySem.W.Frag} {mg : Str → Option Value} {base : Heap} (B : ExBF famValue K (He.ga K "SheetError")) (gS : mg "SheetError" = some (.ref (He.ga K "SheetError"))) (f : Addr) (cdv : Value) (A : Around) (outer : List Env) (s : Shared) (H : Hp) (E : XK) :
    PSs (cxOf CX0 P wd K mg base N_BadRing__init_ "BadRing.__init__" (defScope s_BadRing__init_) f cdv A outer s H E) (defBody s_BadRing__init_) (tSeq (tIn famValue K (tC (.str "no ring"))) (tSeq (tOstF famValue K "name" (tVar 0) (tVar 1)) (tOstF famValue K "index" (tVar 0) (tVar 2)))) :=
  pss_cons (ps_expr (pe_iniF famV B (by rfl) gS (pa_cons (pv 0) (pa_cons pe_str pa_nil)))) (pss_cons (ps_ostF famV (pv 0) (pv 1)) (pss_one (ps_ostF famV (pv 0) (pv 2))))
abbrev N_Crossing__init_ : List Str := ["self", "first", "second"]
theorem sc_Crossing__init_ : FnScope N_Crossing__init_ ["self", "first", "second"] (defScope s_Crossing__init_) := ⟨rfl, rfl, rfl, by decide +kernel, rfl, by decide +kernel, by decide +kernel⟩
theorem b_Crossing__init_ {P : Program} {wd : World} {K : PySem.W.Frag} {mg : Str → Option Value} {base : Heap} (B : ExBF famValue K (He.ga K "SheetError")) (gS : mg "SheetError" = some (.ref (He.ga K "SheetError"))) (f : Addr) (cdv : Value) (A : Around) (outer : List Env) (s : Shared) (H : Hp) (E : XK) :
    PSs (cxOf CX0 P wd K mg base N_Crossing__init_ "Crossing.__init__" (defScope s_Crossing__init_) f cdv A outer s H E) (defBody s_Crossing__init_) (tSeq (tIn famValue K (tC (.str "edges that do not meet well"))) (tSeq (tOstF famValue K "first" (tVar 0) (tVar 1)) (tOstF famValue K "second" (tVar 0) (tVar 2)))) :=
  pss_cons (ps_expr (pe_iniF famV B (by rfl) gS (pa_cons (pv 0) (pa_cons pe_str pa_nil)))) (pss_cons (ps_ostF famV (pv 0) (pv 1)) (pss_one (ps_ostF famV (pv 0) (pv 2))))
abbrev N_BadPoint__init_ : List Str := ["self", "given"]
theorem sc_BadPoint__init_ : FnScope N_BadPoint__init_ ["self", "given"] (defScope s_BadPoint__init_) := ⟨rfl, rfl, rfl, by decide +kernel, rfl, by decide +kernel, by decide +kernel⟩
theorem b_BadPoint__init_ {P : Program} {wd : World} {K : PySem.W.Frag} {mg : Str → Option Value} {base : Heap} (B : ExBF famValue K (He.ga K "SheetError")) (gS : mg "SheetError" = some (.ref (He.ga K "SheetError"))) (f : Addr) (cdv : Value) (A : Around) (outer : List Env) (s : Shared) (H : Hp) (E : XK) :
    PSs (cxOf CX0 P wd K mg base N_BadPoint__init_ "BadPoint.__init__" (defScope s_BadPoint__init_) f cdv A outer s H E) (defBody s_BadPoint__init_) (tSeq (tIn famValue K (tC (.str "no point"))) (tOstF famValue K "given" (tVar 0) (tVar 1))) :=
  pss_cons (ps_expr (pe_iniF famV B (by rfl) gS (pa_cons (pv 0) (pa_cons pe_str pa_nil)))) (pss_one (ps_ostF famV (pv 0) (pv 1)))
abbrev N_BadSlack__init_ : List Str := ["self", "given"]
theorem sc_BadSlack__init_ : FnScope N_BadSlack__init_ ["self", "given"] (defScope s_BadSlack__init_) := ⟨rfl, rfl, rfl, by decide +kernel, rfl, by decide +kernel, by decide +kernel⟩
theorem b_BadSlack__init_ {P : Program} {wd : World} {K : PySem.W.Frag} {mg : Str → Option Value} {base : Heap} (B : ExBF famValue K (He.ga K "SheetError")) (gS : mg "SheetError" = some (.ref (He.ga K "SheetError"))) (f : Addr) (cdv : Value) (A : Around) (outer : List Env) (s : Shared) (H : Hp) (E : XK) :
    PSs (cxOf CX0 P wd K mg base N_BadSlack__init_ "BadSlack.__init__" (defScope s_BadSlack__init_) f cdv A outer s H E) (defBody s_BadSlack__init_) (tSeq (tIn famValue K (tC (.str "no slack"))) (tOstF famValue K "given" (tVar 0) (tVar 1))) :=
  pss_cons (ps_expr (pe_iniF famV B (by rfl) gS (pa_cons (pv 0) (pa_cons pe_str pa_nil)))) (pss_one (ps_ostF famV (pv 0) (pv 1)))
abbrev N_BadArc__init_ : List Str := ["self", "given"]
theorem sc_BadArc__init_ : FnScope N_BadArc__init_ ["self", "given"] (defScope s_BadArc__init_) := ⟨rfl, rfl, rfl, by decide +kernel, rfl, by decide +kernel, by decide +kernel⟩
theorem b_BadArc__init_ {P : Program} {wd : World} {K : PySem.W.Frag} {mg : Str → Option Value} {base : Heap} (B : ExBF famValue K (He.ga K "SheetError")) (gS : mg "SheetError" = some (.ref (He.ga K "SheetError"))) (f : Addr) (cdv : Value) (A : Around) (outer : List Env) (s : Shared) (H : Hp) (E : XK) :
    PSs (cxOf CX0 P wd K mg base N_BadArc__init_ "BadArc.__init__" (defScope s_BadArc__init_) f cdv A outer s H E) (defBody s_BadArc__init_) (tSeq (tIn famValue K (tC (.str "no arc"))) (tOstF famValue K "given" (tVar 0) (tVar 1))) :=
  pss_cons (ps_expr (pe_iniF famV B (by rfl) gS (pa_cons (pv 0) (pa_cons pe_str pa_nil)))) (pss_one (ps_ostF famV (pv 0) (pv 1)))
abbrev N_BadNumber__init_ : List Str := ["self", "given"]
theorem sc_BadNumber__init_ : FnScope N_BadNumber__init_ ["self", "given"] (defScope s_BadNumber__init_) := ⟨rfl, rfl, rfl, by decide +kernel, rfl, by decide +kernel, by decide +kernel⟩
theorem b_BadNumber__init_ {P : Program} {wd : World} {K : PySem.W.Frag} {mg : Str → Option Value} {base : Heap} (B : ExBF famValue K (He.ga K "SheetError")) (gS : mg "SheetError" = some (.ref (He.ga K "SheetError"))) (f : Addr) (cdv : Value) (A : Around) (outer : List Env) (s : Shared) (H : Hp) (E : XK) :
    PSs (cxOf CX0 P wd K mg base N_BadNumber__init_ "BadNumber.__init__" (defScope s_BadNumber__init_) f cdv A outer s H E) (defBody s_BadNumber__init_) (tSeq (tIn famValue K (tC (.str "no such number"))) (tOstF famValue K "given" (tVar 0) (tVar 1))) :=
  pss_cons (ps_expr (pe_iniF famV B (by rfl) gS (pa_cons (pv 0) (pa_cons pe_str pa_nil)))) (pss_one (ps_ostF famV (pv 0) (pv 1)))
abbrev N_BadText__init_ : List Str := ["self", "line", "word"]
theorem sc_BadText__init_ : FnScope N_BadText__init_ ["self", "line", "word"] (defScope s_BadText__init_) := ⟨rfl, rfl, rfl, by decide +kernel, rfl, by decide +kernel, by decide +kernel⟩
theorem b_BadText__init_ {P : Program} {wd : World} {K : PySem.W.Frag} {mg : Str → Option Value} {base : Heap} (B : ExBF famValue K (He.ga K "SheetError")) (gS : mg "SheetError" = some (.ref (He.ga K "SheetError"))) (f : Addr) (cdv : Value) (A : Around) (outer : List Env) (s : Shared) (H : Hp) (E : XK) (hK : (K.lookup sysModules).isSome = true) (hgd : A.guards = some []) (hr : Room 0 (A.deeper (envOfC "BadText.__init__" (defScope s_BadText__init_) s.heap.objs.size f cdv))) :
    PSs (cxOf CX0 P wd K mg base N_BadText__init_ "BadText.__init__" (defScope s_BadText__init_) f cdv A outer s H E) (defBody s_BadText__init_) (tSeq (tIn famValue K (tMs [tC (.str "wrong at line "), tFmtE K (tVar 1), tC (.str ", word "), tFmtE K (tVar 2)])) (tSeq (tOstF famValue K "line" (tVar 0) (tVar 1)) (tOstF famValue K "word" (tVar 0) (tVar 2)))) :=
  pss_cons (ps_expr (pe_iniF famV B (by rfl) gS (pa_cons (pv 0) (pa_cons (pe_joined (.cons pe_str (.cons (pe_fmtE hK hgd hr.units (pv 1)) (.cons pe_str (.cons (pe_fmtE hK hgd hr.units (pv 2)) .nil))))) pa_nil)))) (pss_cons (ps_ostF famV (pv 0) (pv 1)) (pss_one (ps_ostF famV (pv 0) (pv 2))))
abbrev N_Clash__init_ : List Str := ["self", "pair"]
theorem sc_Clash__init_ : FnScope N_Clash__init_ ["self", "pair"] (defScope s_Clash__init_) := ⟨rfl, rfl, rfl, by decide +kernel, rfl, by decide +kernel, by decide +kernel⟩
theorem b_Clash__init_ {P : Program} {wd : World} {K : PySem.W.Frag} {mg : Str → Option Value} {base : Heap} (B : ExBF famRuntime K (He.ga K "StateError")) (gS : mg "StateError" = some (.ref (He.ga K "StateError"))) (f : Addr) (cdv : Value) (A : Around) (outer : List Env) (s : Shared) (H : Hp) (E : XK) :
    PSs (cxOf CX0 P wd K mg base N_Clash__init_ "Clash.__init__" (defScope s_Clash__init_) f cdv A outer s H E) (defBody s_Clash__init_) (tSeq (tIn famRuntime K (tC (.str "strokes that clash"))) (tOstF famRuntime K "pair" (tVar 0) (tVar 1))) :=
  pss_cons (ps_expr (pe_iniF famR B (by rfl) gS (pa_cons (pv 0) (pa_cons pe_str pa_nil)))) (pss_one (ps_ostF famR (pv 0) (pv 1)))
abbrev N_TooMany__init_ : List Str := ["self", "most"]
theorem sc_TooMany__init_ : FnScope N_TooMany__init_ ["self", "most"] (defScope s_TooMany__init_) := ⟨rfl, rfl, rfl, by decide +kernel, rfl, by decide +kernel, by decide +kernel⟩
theorem b_TooMany__init_ {P : Program} {wd : World} {K : PySem.W.Frag} {mg : Str → Option Value} {base : Heap} (B : ExBF famRuntime K (He.ga K "StateError")) (gS : mg "StateError" = some (.ref (He.ga K "StateError"))) (f : Addr) (cdv : Value) (A : Around) (outer : List Env) (s : Shared) (H : Hp) (E : XK) (hK : (K.lookup sysModules).isSome = true) (hgd : A.guards = some []) (hr : Room 0 (A.deeper (envOfC "TooMany.__init__" (defScope s_TooMany__init_) s.heap.objs.size f cdv))) :
    PSs (cxOf CX0 P wd K mg base N_TooMany__init_ "TooMany.__init__" (defScope s_TooMany__init_) f cdv A outer s H E) (defBody s_TooMany__init_) (tSeq (tIn famRuntime K (tMs [tC (.str "more than "), tFmtE K (tVar 1)])) (tOstF famRuntime K "most" (tVar 0) (tVar 1))) :=
  pss_cons (ps_expr (pe_iniF famR B (by rfl) gS (pa_cons (pv 0) (pa_cons (pe_joined (.cons pe_str (.cons (pe_fmtE hK hgd hr.units (pv 1)) .nil))) pa_nil)))) (pss_one (ps_ostF famR (pv 0) (pv 1)))
abbrev N_Unlike__init_ : List Str := ["self", "other"]
theorem sc_Unlike__init_ : FnScope N_Unlike__init_ ["self", "other"] (defScope s_Unlike__init_) := ⟨rfl, rfl, rfl, by decide +kernel, rfl, by decide +kernel, by decide +kernel⟩
theorem b_Unlike__init_ {P : Program} {wd : World} {K : PySem.W.Frag} {mg : Str → Option Value} {base : Heap} (B : ExBF famRuntime K (He.ga K "StateError")) (gS : mg "StateError" = some (.ref (He.ga K "StateError"))) (f : Addr) (cdv : Value) (A : Around) (outer : List Env) (s : Shared) (H : Hp) (E : XK) :
    PSs (cxOf CX0 P wd K mg base N_Unlike__init_ "Unlike.__init__" (defScope s_Unlike__init_) f cdv A outer s H E) (defBody s_Unlike__init_) (tSeq (tIn famRuntime K (tC (.str "other names"))) (tOstF famRuntime K "other" (tVar 0) (tVar 1))) :=
  pss_cons (ps_expr (pe_iniF famR B (by rfl) gS (pa_cons (pv 0) (pa_cons pe_str pa_nil)))) (pss_one (ps_ostF famR (pv 0) (pv 1)))
abbrev N_NothingToUndo__init_ : List Str := ["self", "count"]
theorem sc_NothingToUndo__init_ : FnScope N_NothingToUndo__init_ ["self", "count"] (defScope s_NothingToUndo__init_) := ⟨rfl, rfl, rfl, by decide +kernel, rfl, by decide +kernel, by decide +kernel⟩
theorem b_NothingToUndo__init_ {P : Program} {wd : World} {K : PySem.W.Frag} {mg : Str → Option Value} {base : Heap} (B : ExBF famRuntime K (He.ga K "StateError")) (gS : mg "StateError" = some (.ref (He.ga K "StateError"))) (f : Addr) (cdv : Value) (A : Around) (outer : List Env) (s : Shared) (H : Hp) (E : XK) :
    PSs (cxOf CX0 P wd K mg base N_NothingToUndo__init_ "NothingToUndo.__init__" (defScope s_NothingToUndo__init_) f cdv A outer s H E) (defBody s_NothingToUndo__init_) (tSeq (tIn famRuntime K (tC (.str "not so many changes"))) (tOstF famRuntime K "count" (tVar 0) (tVar 1))) :=
  pss_cons (ps_expr (pe_iniF famR B (by rfl) gS (pa_cons (pv 0) (pa_cons pe_str pa_nil)))) (pss_one (ps_ostF famR (pv 0) (pv 1)))
abbrev N_NoArea__init_ : List Str := ["self", "name"]
theorem sc_NoArea__init_ : FnScope N_NoArea__init_ ["self", "name"] (defScope s_NoArea__init_) := ⟨rfl, rfl, rfl, by decide +kernel, rfl, by decide +kernel, by decide +kernel⟩
theorem b_NoArea__init_ {P : Program} {wd : World} {K : PySem.W.Frag} {mg : Str → Option Value} {base : Heap} (B : ExBF famLookup K (He.ga K "MissingError")) (gS : mg "MissingError" = some (.ref (He.ga K "MissingError"))) (f : Addr) (cdv : Value) (A : Around) (outer : List Env) (s : Shared) (H : Hp) (E : XK) :
    PSs (cxOf CX0 P wd K mg base N_NoArea__init_ "NoArea.__init__" (defScope s_NoArea__init_) f cdv A outer s H E) (defBody s_NoArea__init_) (tSeq (tIn famLookup K (tC (.str "no such area"))) (tOstF famLookup K "name" (tVar 0) (tVar 1))) :=
  pss_cons (ps_expr (pe_iniF famL B (by rfl) gS (pa_cons (pv 0) (pa_cons pe_str pa_nil)))) (pss_one (ps_ostF famL (pv 0) (pv 1)))
theorem factsL {P : Program} {wd : World} {K : PySem.W.Frag} {h : Heap} {mg : Str → Option Value} {f : Addr} (X : K.In h) (G : h.Ns mainGlobals mg) (hfa : mg ("law" : Str) = some (.ref f)) (c : He.SaysD faL fnL K) (ec : exL K = true) (ca : He5.SaysA [] glL K) :
    ∃ fd : FuncData, (∀ (s : Shared) (v : Value), BindsTo s fd ⟨[v], []⟩ [("_law_script", v)]) ∧ ∀ base : Heap, K.In base → base.Ns mainGlobals mg → (∀ p, p ∈ (lamDefs.map fun q => He.cT K (q, none)) → LamX.TabB base mg p.1 p.2) → FnOkG P wd K mg base CX0 4 f fd ["_law_script"] (spLaw K) := by
  obtain ⟨fd_L_begin, D_L_begin⟩ : ∃ fd, FunD K "_law_begin" "_law_begin" (defArgs s_L_begin) (defBody s_L_begin) (defScope s_L_begin) (d_L_begin.dvs K) [] (He.ga K "_law_begin") fd := c.def_ 0 (d := d_L_begin) rfl
  obtain ⟨fd_L_next, D_L_next⟩ : ∃ fd, FunD K "_law_next" "_law_next" (defArgs s_L_next) (defBody s_L_next) (defScope s_L_next) (d_L_next.dvs K) [] (He.ga K "_law_next") fd := c.def_ 1 (d := d_L_next) rfl
  obtain ⟨fd_L_pick, D_L_pick⟩ : ∃ fd, FunD K "_law_pick" "_law_pick" (defArgs s_L_pick) (defBody s_L_pick) (defScope s_L_pick) (d_L_pick.dvs K) [] (He.ga K "_law_pick") fd := c.def_ 2 (d := d_L_pick) rfl
  obtain ⟨fd_L_things, D_L_things⟩ : ∃ fd, FunD K "_law_things" "_law_things" (defArgs s_L_things) (defBody s_L_things) (defScope s_L_things) (d_L_things.dvs K) [] (He.ga K "_law_things") fd := c.def_ 3 (d := d_L_things) rfl
  obtain ⟨fd_L_made, D_L_made⟩ : ∃ fd, FunD K "_law_made" "_law_made" (defArgs s_L_made) (defBody s_L_made) (defScope s_L_made) (d_L_made.dvs K) [] (He.ga K "_law_made") fd := c.def_ 4 (d := d_L_made) rfl
  obtain ⟨fd_L_named, D_L_named⟩ : ∃ fd, FunD K "_law_named" "_law_named" (defArgs s_L_named) (defBody s_L_named) (defScope s_L_named) (d_L_named.dvs K) [] (He.ga K "_law_named") fd := c.def_ 5 (d := d_L_named) rfl
  obtain ⟨fd_L_told, D_L_told⟩ : ∃ fd, FunD K "_law_told" "_law_told" (defArgs s_L_told) (defBody s_L_told) (defScope s_L_told) (d_L_told.dvs K) [] (He.ga K "_law_told") fd := c.def_ 6 (d := d_L_told) rfl
  obtain ⟨fd_L_kinds, D_L_kinds⟩ : ∃ fd, FunD K "_law_kinds" "_law_kinds" (defArgs s_L_kinds) (defBody s_L_kinds) (defScope s_L_kinds) (d_L_kinds.dvs K) [] (He.ga K "_law_kinds") fd := c.def_ 7 (d := d_L_kinds) rfl
  obtain ⟨fd_law, D_law⟩ : ∃ fd, FunD K "law" "law" (defArgs s_law) (defBody s_law) (defScope s_law) (d_law.dvs K) [] (He.ga K "law") fd := c.def_ 8 (d := d_law) rfl
  obtain ⟨fd_BadAreas__init_, D_BadAreas__init_⟩ : ∃ fd, FunD K "__init__" "BadAreas.__init__" (defArgs s_BadAreas__init_) (defBody s_BadAreas__init_) (defScope s_BadAreas__init_) (d_BadAreas__init_.dvs K) [] (He.ma K (He.ga K "BadAreas") "__init__") fd := c.def_ 9 (d := d_BadAreas__init_) rfl
  obtain ⟨fd_BadName__init_, D_BadName__init_⟩ : ∃ fd, FunD K "__init__" "BadName.__init__" (defArgs s_BadName__init_) (defBody s_BadName__init_) (defScope s_BadName__init_) (d_BadName__init_.dvs K) [] (He.ma K (He.ga K "BadName") "__init__") fd := c.def_ 10 (d := d_BadName__init_) rfl
  obtain ⟨fd_BadRing__init_, D_BadRing__init_⟩ : ∃ fd, FunD K "__init__" "BadRing.__init__" (defArgs s_BadRing__init_) (defBody s_BadRing__init_) (defScope s_BadRing__init_) (d_BadRing__init_.dvs K) [] (He.ma K (He.ga K "BadRing") "__init__") fd := c.def_ 11 (d := d_BadRing__init_) rfl
  obtain ⟨fd_Crossing__init_, D_Crossing__init_⟩ : ∃ fd, FunD K "__init__" "Crossing.__init__" (defArgs s_Crossing__init_) (defBody s_Crossing__init_) (defScope s_Crossing__init_) (d_Crossing__init_.dvs K) [] (He.ma K (He.ga K "Crossing") "__init__") fd := c.def_ 12 (d := d_Crossing__init_) rfl
  obtain ⟨fd_BadPoint__init_, D_BadPoint__init_⟩ : ∃ fd, FunD K "__init__" "BadPoint.__init__" (defArgs s_BadPoint__init_) (defBody s_BadPoint__init_) (defScope s_BadPoint__init_) (d_BadPoint__init_.dvs K) [] (He.ma K (He.ga K "BadPoint") "__init__") fd := c.def_ 13 (d := d_BadPoint__init_) rfl
  obtain ⟨fd_BadSlack__init_, D_BadSlack__init_⟩ : ∃ fd, FunD K "__init__" "BadSlack.__init__" (defArgs s_BadSlack__init_) (defBody s_BadSlack__init_) (defScope s_BadSlack__init_) (d_BadSlack__init_.dvs K) [] (He.ma K (He.ga K "BadSlack") "__init__") fd := c.def_ 14 (d := d_BadSlack__init_) rfl
  obtain ⟨fd_BadArc__init_, D_BadArc__init_⟩ : ∃ fd, FunD K "__init__" "BadArc.__init__" (defArgs s_BadArc__init_) (defBody s_BadArc__init_) (defScope s_BadArc__init_) (d_BadArc__init_.dvs K) [] (He.ma K (He.ga K "BadArc") "__init__") fd := c.def_ 15 (d := d_BadArc__init_) rfl
  obtain ⟨fd_BadNumber__init_, D_BadNumber__init_⟩ : ∃ fd, FunD K "__init__" "BadNumber.__init__" (defArgs s_BadNumber__init_) (defBody s_BadNumber__init_) (defScope s_BadNumber__init_) (d_BadNumber__init_.dvs K) [] (He.ma K (He.ga K "BadNumber") "__init__") fd := c.def_ 16 (d := d_BadNumber__init_) rfl
  obtain ⟨fd_BadText__init_, D_BadText__init_⟩ : ∃ fd, FunD K "__init__" "BadText.__init__" (defArgs s_BadText__init_) (defBody s_BadText__init_) (defScope s_BadText__init_) (d_BadText__init_.dvs K) [] (He.ma K (He.ga K "BadText") "__init__") fd := c.def_ 17 (d := d_BadText__init_) rfl
  obtain ⟨fd_Clash__init_, D_Clash__init_⟩ : ∃ fd, FunD K "__init__" "Clash.__init__" (defArgs s_Clash__init_) (defBody s_Clash__init_) (defScope s_Clash__init_) (d_Clash__init_.dvs K) [] (He.ma K (He.ga K "Clash") "__init__") fd := c.def_ 18 (d := d_Clash__init_) rfl
  obtain ⟨fd_TooMany__init_, D_TooMany__init_⟩ : ∃ fd, FunD K "__init__" "TooMany.__init__" (defArgs s_TooMany__init_) (defBody s_TooMany__init_) (defScope s_TooMany__init_) (d_TooMany__init_.dvs K) [] (He.ma K (He.ga K "TooMany") "__init__") fd := c.def_ 19 (d := d_TooMany__init_) rfl
  obtain ⟨fd_Unlike__init_, D_Unlike__init_⟩ : ∃ fd, FunD K "__init__" "Unlike.__init__" (defArgs s_Unlike__init_) (defBody s_Unlike__init_) (defScope s_Unlike__init_) (d_Unlike__init_.dvs K) [] (He.ma K (He.ga K "Unlike") "__init__") fd := c.def_ 20 (d := d_Unlike__init_) rfl
  obtain ⟨fd_NothingToUndo__init_, D_NothingToUndo__init_⟩ : ∃ fd, FunD K "__init__" "NothingToUndo.__init__" (defArgs s_NothingToUndo__init_) (defBody s_NothingToUndo__init_) (defScope s_NothingToUndo__init_) (d_NothingToUndo__init_.dvs K) [] (He.ma K (He.ga K "NothingToUndo") "__init__") fd := c.def_ 21 (d := d_NothingToUndo__init_) rfl
  obtain ⟨fd_NoArea__init_, D_NoArea__init_⟩ : ∃ fd, FunD K "__init__" "NoArea.__init__" (defArgs s_NoArea__init_) (defBody s_NoArea__init_) (defScope s_NoArea__init_) (d_NoArea__init_.dvs K) [] (He.ma K (He.ga K "NoArea") "__init__") fd := c.def_ 22 (d := d_NoArea__init_) rfl
  have g_L_begin := He.glo_ok X G (c.fact 8 (f := .glo "_law_begin") rfl)
  have g_L_next := He.glo_ok X G (c.fact 9 (f := .glo "_law_next") rfl)
  have g_L_pick := He.glo_ok X G (c.fact 10 (f := .glo "_law_pick") rfl)
  have g_L_things := He.glo_ok X G (c.fact 11 (f := .glo "_law_things") rfl)
  have g_L_made := He.glo_ok X G (c.fact 12 (f := .glo "_law_made") rfl)
  have g_L_named := He.glo_ok X G (c.fact 13 (f := .glo "_law_named") rfl)
  have g_L_told := He.glo_ok X G (c.fact 14 (f := .glo "_law_told") rfl)
  have g_L_kinds := He.glo_ok X G (c.fact 15 (f := .glo "_law_kinds") rfl)
  have g_law := He.glo_ok X G (c.fact 16 (f := .glo "law") rfl)
  have ec2 : (excXF famValue K "BadAreas" ["given"] && excXF famValue K "BadName" ["given"] && excXF famValue K "BadRing" ["name", "index"] && excXF famValue K "Crossing" ["first", "second"] && excXF famValue K "BadPoint" ["given"] && excXF famValue K "BadSlack" ["given"] && excXF famValue K "BadArc" ["given"] && excXF famValue K "BadNumber" ["given"] && excXF famValue K "BadText" ["line", "word"] && excXF famRuntime K "Clash" ["pair"] && excXF famRuntime K "TooMany" ["most"] && excXF famRuntime K "Unlike" ["other"] && excXF famRuntime K "NothingToUndo" ["count"] && excXF famLookup K "NoArea" ["name"] && famX K "SheetError" famValue.ini && famX K "StateError" famRuntime.ini && famX K "MissingError" famLookup.ini && (K.lookup sysModules).isSome && exAK K) = true := ec
  simp only [Bool.and_eq_true] at ec2
  obtain ⟨⟨⟨⟨⟨⟨⟨⟨⟨⟨⟨⟨⟨⟨⟨⟨⟨⟨xx_BadAreas, xx_BadName⟩, xx_BadRing⟩, xx_Crossing⟩, xx_BadPoint⟩, xx_BadSlack⟩, xx_BadArc⟩, xx_BadNumber⟩, xx_BadText⟩, xx_Clash⟩, xx_TooMany⟩, xx_Unlike⟩, xx_NothingToUndo⟩, xx_NoArea⟩, xf_SheetError⟩, xf_StateError⟩, xf_MissingError⟩, KSY⟩, xea⟩ := ec2
  have T : Tx K mg := ⟨He.free_ok X G (c.fact 0 (f := .free "len") rfl), He.free_ok X G (c.fact 1 (f := .free "isinstance") rfl), He.free_ok X G (c.fact 2 (f := .free "ValueError") rfl), He.free_ok X G (c.fact 3 (f := .free "RuntimeError") rfl), He.free_ok X G (c.fact 4 (f := .free "LookupError") rfl), He.free_ok X G (c.fact 5 (f := .free "range") rfl), He.free_ok X G (c.fact 6 (f := .free "repr") rfl), He.free_ok X G (c.fact 7 (f := .free "enumerate") rfl)⟩
  have zl : mg "len" = none := He.free_ok X G (c.fact 0 (f := .free "len") rfl)
  have m_BadAreas := He.glo_ok X G (c.fact 17 (f := .glo "BadAreas") rfl)
  have m_BadName := He.glo_ok X G (c.fact 18 (f := .glo "BadName") rfl)
  have m_BadRing := He.glo_ok X G (c.fact 19 (f := .glo "BadRing") rfl)
  have m_Crossing := He.glo_ok X G (c.fact 20 (f := .glo "Crossing") rfl)
  have m_BadPoint := He.glo_ok X G (c.fact 21 (f := .glo "BadPoint") rfl)
  have m_BadSlack := He.glo_ok X G (c.fact 22 (f := .glo "BadSlack") rfl)
  have m_BadArc := He.glo_ok X G (c.fact 23 (f := .glo "BadArc") rfl)
  have m_BadNumber := He.glo_ok X G (c.fact 24 (f := .glo "BadNumber") rfl)
  have m_BadText := He.glo_ok X G (c.fact 25 (f := .glo "BadText") rfl)
  have m_Clash := He.glo_ok X G (c.fact 26 (f := .glo "Clash") rfl)
  have m_TooMany := He.glo_ok X G (c.fact 27 (f := .glo "TooMany") rfl)
  have m_Unlike := He.glo_ok X G (c.fact 28 (f := .glo "Unlike") rfl)
  have m_NothingToUndo := He.glo_ok X G (c.fact 29 (f := .glo "NothingToUndo") rfl)
  have m_NoArea := He.glo_ok X G (c.fact 30 (f := .glo "NoArea") rfl)
  have m_SheetError := He.glo_ok X G (c.fact 31 (f := .glo "SheetError") rfl)
  have m_StateError := He.glo_ok X G (c.fact 32 (f := .glo "StateError") rfl)
  have m_MissingError := He.glo_ok X G (c.fact 33 (f := .glo "MissingError") rfl)
  have el := hfa.symm.trans g_law
  cases el
  refine ⟨fd_law, fun s v => FunD.bindsA (ps := ["_law_script"]) D_law (fun _ _ _ _ _ _ us hl => match us, hl with | [_], _ => rfl) s [v] rfl, fun base _ _ hTB => ?_⟩
  have F_L_begin : FnS P wd K mg base "_law_begin" ["_law_script"] 1 (spBegin K) := ⟨fd_L_begin, FunD.ok D_L_begin sc_L_begin (fun _ _ _ _ h => spBegin_len h) (fun cdv A outer s H vs Q E hr h => ⟨t_begin K, (b_L_begin _ cdv A outer s H E).nox, start_begin rfl vs H Q h⟩), FunD.bindsN D_L_begin (fun _ _ _ _ _ _ us hl => match us, hl with | [_], _ => rfl), D_L_begin.kp, g_L_begin⟩
  have F_L_next : Fn P wd K mg base "_law_next" ["_law_draw", "_law_many"] 2 1 C_L_next := ⟨fd_L_next, FunD.ok D_L_next sc_L_next (fun _ _ _ _ h => spU_len h) (fun cdv A outer s H vs Q E hr h => ⟨t_next K, (b_L_next zl _ cdv A outer s H E hr).nox, start_next rfl vs H Q h⟩), FunD.bindsN D_L_next (fun _ _ _ _ _ _ us hl => match us, hl with | [_, _], _ => rfl), D_L_next.kp, g_L_next⟩
  have F_L_pick : Fn P wd K mg base "_law_pick" ["_law_draw", "_law_some"] 2 2 C_L_pick := ⟨fd_L_pick, fn_up D_L_pick sc_L_pick rfl (fun cdv A outer s H E hr => b_L_pick T F_L_next _ cdv A outer s H E hr) (st_m h_L_pick), FunD.bindsN D_L_pick (fun _ _ _ _ _ _ us hl => match us, hl with | [_, _], _ => rfl), D_L_pick.kp, g_L_pick⟩
  have F_L_things : Fn P wd K mg base "_law_things" [] 0 1 C_L_things := ⟨fd_L_things, fn_up D_L_things sc_L_things rfl (fun cdv A outer s H E hr => b_L_things T  _ cdv A outer s H E hr) (st_m h_L_things), FunD.bindsN D_L_things (fun _ _ _ _ _ _ us hl => match us, hl with | [], _ => rfl), D_L_things.kp, g_L_things⟩
  have EF_BadAreas : FnOkG P wd K mg base CX0 1 (He.ma K (He.ga K "BadAreas") "__init__") fd_BadAreas__init_ ["self", "given"] (spXF famValue K cdT ["given"]) := FnOk.toG (FunD.ok D_BadAreas__init_ sc_BadAreas__init_ (fun _ _ _ _ h => spXF_len h) (fun cdv A outer s H vs Q E hr h => ⟨_, b_BadAreas__init_ (famXF_ok xf_SheetError) m_SheetError _ cdv A outer s H E, px1 h⟩))
  have XP_BadAreas : ExP famValue P wd K mg base "BadAreas" ["self", "given"] ["given"] cdT 1 := ⟨_, fd_BadAreas__init_, exMF_of famV (excXF_ok xx_BadAreas) m_BadAreas EF_BadAreas, FunD.bindsN D_BadAreas__init_ (fun _ _ _ _ _ _ us hl => match us, hl with | [_, _], _ => rfl)⟩
  have EF_BadName : FnOkG P wd K mg base CX0 1 (He.ma K (He.ga K "BadName") "__init__") fd_BadName__init_ ["self", "given"] (spXF famValue K cdT ["given"]) := FnOk.toG (FunD.ok D_BadName__init_ sc_BadName__init_ (fun _ _ _ _ h => spXF_len h) (fun cdv A outer s H vs Q E hr h => ⟨_, b_BadName__init_ (famXF_ok xf_SheetError) m_SheetError _ cdv A outer s H E, px1 h⟩))
  have XP_BadName : ExP famValue P wd K mg base "BadName" ["self", "given"] ["given"] cdT 1 := ⟨_, fd_BadName__init_, exMF_of famV (excXF_ok xx_BadName) m_BadName EF_BadName, FunD.bindsN D_BadName__init_ (fun _ _ _ _ _ _ us hl => match us, hl with | [_, _], _ => rfl)⟩
  have EF_BadRing : FnOkG P wd K mg base CX0 1 (He.ma K (He.ga K "BadRing") "__init__") fd_BadRing__init_ ["self", "name", "index"] (spXF famValue K cdT ["name", "index"]) := FnOk.toG (FunD.ok D_BadRing__init_ sc_BadRing__init_ (fun _ _ _ _ h => spXF_len h) (fun cdv A outer s H vs Q E hr h => ⟨_, b_BadRing__init_ (famXF_ok xf_SheetError) m_SheetError _ cdv A outer s H E, px2 h⟩))
  have XP_BadRing : ExP famValue P wd K mg base "BadRing" ["self", "name", "index"] ["name", "index"] cdT 1 := ⟨_, fd_BadRing__init_, exMF_of famV (excXF_ok xx_BadRing) m_BadRing EF_BadRing, FunD.bindsN D_BadRing__init_ (fun _ _ _ _ _ _ us hl => match us, hl with | [_, _, _], _ => rfl)⟩
  have EF_Crossing : FnOkG P wd K mg base CX0 1 (He.ma K (He.ga K "Crossing") "__init__") fd_Crossing__init_ ["self", "first", "second"] (spXF famValue K cdT ["first", "second"]) := FnOk.toG (FunD.ok D_Crossing__init_ sc_Crossing__init_ (fun _ _ _ _ h => spXF_len h) (fun cdv A outer s H vs Q E hr h => ⟨_, b_Crossing__init_ (famXF_ok xf_SheetError) m_SheetError _ cdv A outer s H E, px2 h⟩))
  have XP_Crossing : ExP famValue P wd K mg base "Crossing" ["self", "first", "second"] ["first", "second"] cdT 1 := ⟨_, fd_Crossing__init_, exMF_of famV (excXF_ok xx_Crossing) m_Crossing EF_Crossing, FunD.bindsN D_Crossing__init_ (fun _ _ _ _ _ _ us hl => match us, hl with | [_, _, _], _ => rfl)⟩
  have EF_BadPoint : FnOkG P wd K mg base CX0 1 (He.ma K (He.ga K "BadPoint") "__init__") fd_BadPoint__init_ ["self", "given"] (spXF famValue K cdT ["given"]) := FnOk.toG (FunD.ok D_BadPoint__init_ sc_BadPoint__init_ (fun _ _ _ _ h => spXF_len h) (fun cdv A outer s H vs Q E hr h => ⟨_, b_BadPoint__init_ (famXF_ok xf_SheetError) m_SheetError _ cdv A outer s H E, px1 h⟩))
  have XP_BadPoint : ExP famValue P wd K mg base "BadPoint" ["self", "given"] ["given"] cdT 1 := ⟨_, fd_BadPoint__init_, exMF_of famV (excXF_ok xx_BadPoint) m_BadPoint EF_BadPoint, FunD.bindsN D_BadPoint__init_ (fun _ _ _ _ _ _ us hl => match us, hl with | [_, _], _ => rfl)⟩
  have EF_BadSlack : FnOkG P wd K mg base CX0 1 (He.ma K (He.ga K "BadSlack") "__init__") fd_BadSlack__init_ ["self", "given"] (spXF famValue K cdT ["given"]) := FnOk.toG (FunD.ok D_BadSlack__init_ sc_BadSlack__init_ (fun _ _ _ _ h => spXF_len h) (fun cdv A outer s H vs Q E hr h => ⟨_, b_BadSlack__init_ (famXF_ok xf_SheetError) m_SheetError _ cdv A outer s H E, px1 h⟩))
  have XP_BadSlack : ExP famValue P wd K mg base "BadSlack" ["self", "given"] ["given"] cdT 1 := ⟨_, fd_BadSlack__init_, exMF_of famV (excXF_ok xx_BadSlack) m_BadSlack EF_BadSlack, FunD.bindsN D_BadSlack__init_ (fun _ _ _ _ _ _ us hl => match us, hl with | [_, _], _ => rfl)⟩
  have EF_BadArc : FnOkG P wd K mg base CX0 1 (He.ma K (He.ga K "BadArc") "__init__") fd_BadArc__init_ ["self", "given"] (spXF famValue K cdT ["given"]) := FnOk.toG (FunD.ok D_BadArc__init_ sc_BadArc__init_ (fun _ _ _ _ h => spXF_len h) (fun cdv A outer s H vs Q E hr h => ⟨_, b_BadArc__init_ (famXF_ok xf_SheetError) m_SheetError _ cdv A outer s H E, px1 h⟩))
  have XP_BadArc : ExP famValue P wd K mg base "BadArc" ["self", "given"] ["given"] cdT 1 := ⟨_, fd_BadArc__init_, exMF_of famV (excXF_ok xx_BadArc) m_BadArc EF_BadArc, FunD.bindsN D_BadArc__init_ (fun _ _ _ _ _ _ us hl => match us, hl with | [_, _], _ => rfl)⟩
  have EF_BadNumber : FnOkG P wd K mg base CX0 1 (He.ma K (He.ga K "BadNumber") "__init__") fd_BadNumber__init_ ["self", "given"] (spXF famValue K cdT ["given"]) := FnOk.toG (FunD.ok D_BadNumber__init_ sc_BadNumber__init_ (fun _ _ _ _ h => spXF_len h) (fun cdv A outer s H vs Q E hr h => ⟨_, b_BadNumber__init_ (famXF_ok xf_SheetError) m_SheetError _ cdv A outer s H E, px1 h⟩))
  have XP_BadNumber : ExP famValue P wd K mg base "BadNumber" ["self", "given"] ["given"] cdT 1 := ⟨_, fd_BadNumber__init_, exMF_of famV (excXF_ok xx_BadNumber) m_BadNumber EF_BadNumber, FunD.bindsN D_BadNumber__init_ (fun _ _ _ _ _ _ us hl => match us, hl with | [_, _], _ => rfl)⟩
  have EF_BadText : FnOkG P wd K mg base CX0 1 (He.ma K (He.ga K "BadText") "__init__") fd_BadText__init_ ["self", "line", "word"] (spXF famValue K cdF ["line", "word"]) := okG D_BadText__init_ sc_BadText__init_ (fun _ _ _ _ h => spXF_len h) (fun cdv A outer s H vs Q E hg hr h => ⟨_, b_BadText__init_ (famXF_ok xf_SheetError) m_SheetError _ cdv A outer s H E KSY hg hr, px2m (by decide) (by decide) h⟩)
  have XP_BadText : ExP famValue P wd K mg base "BadText" ["self", "line", "word"] ["line", "word"] cdF 1 := ⟨_, fd_BadText__init_, exMF_of famV (excXF_ok xx_BadText) m_BadText EF_BadText, FunD.bindsN D_BadText__init_ (fun _ _ _ _ _ _ us hl => match us, hl with | [_, _, _], _ => rfl)⟩
  have EF_Clash : FnOkG P wd K mg base CX0 1 (He.ma K (He.ga K "Clash") "__init__") fd_Clash__init_ ["self", "pair"] (spXF famRuntime K cdT ["pair"]) := FnOk.toG (FunD.ok D_Clash__init_ sc_Clash__init_ (fun _ _ _ _ h => spXF_len h) (fun cdv A outer s H vs Q E hr h => ⟨_, b_Clash__init_ (famXF_ok xf_StateError) m_StateError _ cdv A outer s H E, px1 h⟩))
  have XP_Clash : ExP famRuntime P wd K mg base "Clash" ["self", "pair"] ["pair"] cdT 1 := ⟨_, fd_Clash__init_, exMF_of famR (excXF_ok xx_Clash) m_Clash EF_Clash, FunD.bindsN D_Clash__init_ (fun _ _ _ _ _ _ us hl => match us, hl with | [_, _], _ => rfl)⟩
  have EF_TooMany : FnOkG P wd K mg base CX0 1 (He.ma K (He.ga K "TooMany") "__init__") fd_TooMany__init_ ["self", "most"] (spXF famRuntime K cdF ["most"]) := okG D_TooMany__init_ sc_TooMany__init_ (fun _ _ _ _ h => spXF_len h) (fun cdv A outer s H vs Q E hg hr h => ⟨_, b_TooMany__init_ (famXF_ok xf_StateError) m_StateError _ cdv A outer s H E KSY hg hr, px1m (by decide) h⟩)
  have XP_TooMany : ExP famRuntime P wd K mg base "TooMany" ["self", "most"] ["most"] cdF 1 := ⟨_, fd_TooMany__init_, exMF_of famR (excXF_ok xx_TooMany) m_TooMany EF_TooMany, FunD.bindsN D_TooMany__init_ (fun _ _ _ _ _ _ us hl => match us, hl with | [_, _], _ => rfl)⟩
  have EF_Unlike : FnOkG P wd K mg base CX0 1 (He.ma K (He.ga K "Unlike") "__init__") fd_Unlike__init_ ["self", "other"] (spXF famRuntime K cdT ["other"]) := FnOk.toG (FunD.ok D_Unlike__init_ sc_Unlike__init_ (fun _ _ _ _ h => spXF_len h) (fun cdv A outer s H vs Q E hr h => ⟨_, b_Unlike__init_ (famXF_ok xf_StateError) m_StateError _ cdv A outer s H E, px1 h⟩))
  have XP_Unlike : ExP famRuntime P wd K mg base "Unlike" ["self", "other"] ["other"] cdT 1 := ⟨_, fd_Unlike__init_, exMF_of famR (excXF_ok xx_Unlike) m_Unlike EF_Unlike, FunD.bindsN D_Unlike__init_ (fun _ _ _ _ _ _ us hl => match us, hl with | [_, _], _ => rfl)⟩
  have EF_NothingToUndo : FnOkG P wd K mg base CX0 1 (He.ma K (He.ga K "NothingToUndo") "__init__") fd_NothingToUndo__init_ ["self", "count"] (spXF famRuntime K cdT ["count"]) := FnOk.toG (FunD.ok D_NothingToUndo__init_ sc_NothingToUndo__init_ (fun _ _ _ _ h => spXF_len h) (fun cdv A outer s H vs Q E hr h => ⟨_, b_NothingToUndo__init_ (famXF_ok xf_StateError) m_StateError _ cdv A outer s H E, px1 h⟩))
  have XP_NothingToUndo : ExP famRuntime P wd K mg base "NothingToUndo" ["self", "count"] ["count"] cdT 1 := ⟨_, fd_NothingToUndo__init_, exMF_of famR (excXF_ok xx_NothingToUndo) m_NothingToUndo EF_NothingToUndo, FunD.bindsN D_NothingToUndo__init_ (fun _ _ _ _ _ _ us hl => match us, hl with | [_, _], _ => rfl)⟩
  have EF_NoArea : FnOkG P wd K mg base CX0 1 (He.ma K (He.ga K "NoArea") "__init__") fd_NoArea__init_ ["self", "name"] (spXF famLookup K cdT ["name"]) := FnOk.toG (FunD.ok D_NoArea__init_ sc_NoArea__init_ (fun _ _ _ _ h => spXF_len h) (fun cdv A outer s H vs Q E hr h => ⟨_, b_NoArea__init_ (famXF_ok xf_MissingError) m_MissingError _ cdv A outer s H E, px1 h⟩))
  have XP_NoArea : ExP famLookup P wd K mg base "NoArea" ["self", "name"] ["name"] cdT 1 := ⟨_, fd_NoArea__init_, exMF_of famL (excXF_ok xx_NoArea) m_NoArea EF_NoArea, FunD.bindsN D_NoArea__init_ (fun _ _ _ _ _ _ us hl => match us, hl with | [_, _], _ => rfl)⟩
  have F_L_made : FnG P wd K mg base "_law_made" ["_law_some", "_law_partner"] 2 3 C_L_made := ⟨fd_L_made, okG D_L_made sc_L_made (fun _ _ _ _ h => spU_len h) (fun cdv A outer s H vs Q E hg hr h => ⟨_, (b_L_made T XP_BadAreas XP_BadName XP_BadRing XP_Crossing XP_BadPoint XP_BadSlack XP_BadArc XP_BadNumber XP_BadText XP_Clash XP_TooMany XP_Unlike XP_NothingToUndo XP_NoArea _ cdv A outer s H E hg hr).nox, body_up h (st_m h_L_made)⟩), FunD.bindsN D_L_made (fun _ _ _ _ _ _ us hl => match us, hl with | [_, _], _ => rfl), D_L_made.kp, g_L_made⟩
  have XK_BadAreas_given : ExK famValue P wd K mg base "BadAreas" ["self", "given"] ["given"] cdT 1 ["given"] [0] := ⟨_, fd_BadAreas__init_, exMF_of famV (excXF_ok xx_BadAreas) m_BadAreas EF_BadAreas, kbn_mk 1 (0 :: List.map (· + 1) [0]) D_BadAreas__init_ (fun kV doc pmm an cdv ct us ws h1 h2 => match us, ws, h1, h2 with | [_], [_], _, _ => rfl)⟩
  have XK_BadName_given : ExK famValue P wd K mg base "BadName" ["self", "given"] ["given"] cdT 1 ["given"] [0] := ⟨_, fd_BadName__init_, exMF_of famV (excXF_ok xx_BadName) m_BadName EF_BadName, kbn_mk 1 (0 :: List.map (· + 1) [0]) D_BadName__init_ (fun kV doc pmm an cdv ct us ws h1 h2 => match us, ws, h1, h2 with | [_], [_], _, _ => rfl)⟩
  have XK_BadRing_index_name : ExK famValue P wd K mg base "BadRing" ["self", "name", "index"] ["name", "index"] cdT 1 ["index", "name"] [1, 0] := ⟨_, fd_BadRing__init_, exMF_of famV (excXF_ok xx_BadRing) m_BadRing EF_BadRing, kbn_mk 1 (0 :: List.map (· + 1) [1, 0]) D_BadRing__init_ (fun kV doc pmm an cdv ct us ws h1 h2 => match us, ws, h1, h2 with | [_], [_, _], _, _ => rfl)⟩
  have XK_Crossing_second_first : ExK famValue P wd K mg base "Crossing" ["self", "first", "second"] ["first", "second"] cdT 1 ["second", "first"] [1, 0] := ⟨_, fd_Crossing__init_, exMF_of famV (excXF_ok xx_Crossing) m_Crossing EF_Crossing, kbn_mk 1 (0 :: List.map (· + 1) [1, 0]) D_Crossing__init_ (fun kV doc pmm an cdv ct us ws h1 h2 => match us, ws, h1, h2 with | [_], [_, _], _, _ => rfl)⟩
  have XK_BadPoint_given : ExK famValue P wd K mg base "BadPoint" ["self", "given"] ["given"] cdT 1 ["given"] [0] := ⟨_, fd_BadPoint__init_, exMF_of famV (excXF_ok xx_BadPoint) m_BadPoint EF_BadPoint, kbn_mk 1 (0 :: List.map (· + 1) [0]) D_BadPoint__init_ (fun kV doc pmm an cdv ct us ws h1 h2 => match us, ws, h1, h2 with | [_], [_], _, _ => rfl)⟩
  have XK_BadSlack_given : ExK famValue P wd K mg base "BadSlack" ["self", "given"] ["given"] cdT 1 ["given"] [0] := ⟨_, fd_BadSlack__init_, exMF_of famV (excXF_ok xx_BadSlack) m_BadSlack EF_BadSlack, kbn_mk 1 (0 :: List.map (· + 1) [0]) D_BadSlack__init_ (fun kV doc pmm an cdv ct us ws h1 h2 => match us, ws, h1, h2 with | [_], [_], _, _ => rfl)⟩
  have XK_BadArc_given : ExK famValue P wd K mg base "BadArc" ["self", "given"] ["given"] cdT 1 ["given"] [0] := ⟨_, fd_BadArc__init_, exMF_of famV (excXF_ok xx_BadArc) m_BadArc EF_BadArc, kbn_mk 1 (0 :: List.map (· + 1) [0]) D_BadArc__init_ (fun kV doc pmm an cdv ct us ws h1 h2 => match us, ws, h1, h2 with | [_], [_], _, _ => rfl)⟩
  have XK_BadNumber_given : ExK famValue P wd K mg base "BadNumber" ["self", "given"] ["given"] cdT 1 ["given"] [0] := ⟨_, fd_BadNumber__init_, exMF_of famV (excXF_ok xx_BadNumber) m_BadNumber EF_BadNumber, kbn_mk 1 (0 :: List.map (· + 1) [0]) D_BadNumber__init_ (fun kV doc pmm an cdv ct us ws h1 h2 => match us, ws, h1, h2 with | [_], [_], _, _ => rfl)⟩
  have XK_BadText_word_line : ExK famValue P wd K mg base "BadText" ["self", "line", "word"] ["line", "word"] cdF 1 ["word", "line"] [1, 0] := ⟨_, fd_BadText__init_, exMF_of famV (excXF_ok xx_BadText) m_BadText EF_BadText, kbn_mk 1 (0 :: List.map (· + 1) [1, 0]) D_BadText__init_ (fun kV doc pmm an cdv ct us ws h1 h2 => match us, ws, h1, h2 with | [_], [_, _], _, _ => rfl)⟩
  have XK_Clash_pair : ExK famRuntime P wd K mg base "Clash" ["self", "pair"] ["pair"] cdT 1 ["pair"] [0] := ⟨_, fd_Clash__init_, exMF_of famR (excXF_ok xx_Clash) m_Clash EF_Clash, kbn_mk 1 (0 :: List.map (· + 1) [0]) D_Clash__init_ (fun kV doc pmm an cdv ct us ws h1 h2 => match us, ws, h1, h2 with | [_], [_], _, _ => rfl)⟩
  have XK_TooMany_most : ExK famRuntime P wd K mg base "TooMany" ["self", "most"] ["most"] cdF 1 ["most"] [0] := ⟨_, fd_TooMany__init_, exMF_of famR (excXF_ok xx_TooMany) m_TooMany EF_TooMany, kbn_mk 1 (0 :: List.map (· + 1) [0]) D_TooMany__init_ (fun kV doc pmm an cdv ct us ws h1 h2 => match us, ws, h1, h2 with | [_], [_], _, _ => rfl)⟩
  have XK_Unlike_other : ExK famRuntime P wd K mg base "Unlike" ["self", "other"] ["other"] cdT 1 ["other"] [0] := ⟨_, fd_Unlike__init_, exMF_of famR (excXF_ok xx_Unlike) m_Unlike EF_Unlike, kbn_mk 1 (0 :: List.map (· + 1) [0]) D_Unlike__init_ (fun kV doc pmm an cdv ct us ws h1 h2 => match us, ws, h1, h2 with | [_], [_], _, _ => rfl)⟩
  have XK_NothingToUndo_count : ExK famRuntime P wd K mg base "NothingToUndo" ["self", "count"] ["count"] cdT 1 ["count"] [0] := ⟨_, fd_NothingToUndo__init_, exMF_of famR (excXF_ok xx_NothingToUndo) m_NothingToUndo EF_NothingToUndo, kbn_mk 1 (0 :: List.map (· + 1) [0]) D_NothingToUndo__init_ (fun kV doc pmm an cdv ct us ws h1 h2 => match us, ws, h1, h2 with | [_], [_], _, _ => rfl)⟩
  have XK_NoArea_name : ExK famLookup P wd K mg base "NoArea" ["self", "name"] ["name"] cdT 1 ["name"] [0] := ⟨_, fd_NoArea__init_, exMF_of famL (excXF_ok xx_NoArea) m_NoArea EF_NoArea, kbn_mk 1 (0 :: List.map (· + 1) [0]) D_NoArea__init_ (fun kV doc pmm an cdv ct us ws h1 h2 => match us, ws, h1, h2 with | [_], [_], _, _ => rfl)⟩
  have F_L_named : FnG P wd K mg base "_law_named" ["_law_some", "_law_partner"] 2 3 C_L_named := ⟨fd_L_named, okG D_L_named sc_L_named (fun _ _ _ _ h => spU_len h) (fun cdv A outer s H vs Q E hg hr h => ⟨_, (b_L_named T XK_BadAreas_given XK_BadName_given XK_BadRing_index_name XK_Crossing_second_first XK_BadPoint_given XK_BadSlack_given XK_BadArc_given XK_BadNumber_given XK_BadText_word_line XK_Clash_pair XK_TooMany_most XK_Unlike_other XK_NothingToUndo_count XK_NoArea_name _ cdv A outer s H E hg hr).nox, body_up h (st_m h_L_named)⟩), FunD.bindsN D_L_named (fun _ _ _ _ _ _ us hl => match us, hl with | [_, _], _ => rfl), D_L_named.kp, g_L_named⟩
  have XA : ExA K mg := exA_of xea (fun c hc => by
    simp only [csE, List.mem_cons, List.not_mem_nil, or_false] at hc
    rcases hc with rfl | rfl | rfl | rfl | rfl | rfl | rfl | rfl | rfl | rfl | rfl | rfl | rfl | rfl
    · exact ⟨(excXF_ok xx_BadAreas).q, fun f hf => (excXF_ok xx_BadAreas).n f (by rw [show flE "BadAreas" = (["given"] : List Str) by decide +kernel] at hf; exact hf)⟩
    · exact ⟨(excXF_ok xx_BadName).q, fun f hf => (excXF_ok xx_BadName).n f (by rw [show flE "BadName" = (["given"] : List Str) by decide +kernel] at hf; exact hf)⟩
    · exact ⟨(excXF_ok xx_BadRing).q, fun f hf => (excXF_ok xx_BadRing).n f (by rw [show flE "BadRing" = (["name", "index"] : List Str) by decide +kernel] at hf; exact hf)⟩
    · exact ⟨(excXF_ok xx_Crossing).q, fun f hf => (excXF_ok xx_Crossing).n f (by rw [show flE "Crossing" = (["first", "second"] : List Str) by decide +kernel] at hf; exact hf)⟩
    · exact ⟨(excXF_ok xx_BadPoint).q, fun f hf => (excXF_ok xx_BadPoint).n f (by rw [show flE "BadPoint" = (["given"] : List Str) by decide +kernel] at hf; exact hf)⟩
    · exact ⟨(excXF_ok xx_BadSlack).q, fun f hf => (excXF_ok xx_BadSlack).n f (by rw [show flE "BadSlack" = (["given"] : List Str) by decide +kernel] at hf; exact hf)⟩
    · exact ⟨(excXF_ok xx_BadArc).q, fun f hf => (excXF_ok xx_BadArc).n f (by rw [show flE "BadArc" = (["given"] : List Str) by decide +kernel] at hf; exact hf)⟩
    · exact ⟨(excXF_ok xx_BadNumber).q, fun f hf => (excXF_ok xx_BadNumber).n f (by rw [show flE "BadNumber" = (["given"] : List Str) by decide +kernel] at hf; exact hf)⟩
    · exact ⟨(excXF_ok xx_BadText).q, fun f hf => (excXF_ok xx_BadText).n f (by rw [show flE "BadText" = (["line", "word"] : List Str) by decide +kernel] at hf; exact hf)⟩
    · exact ⟨(excXF_ok xx_Clash).q, fun f hf => (excXF_ok xx_Clash).n f (by rw [show flE "Clash" = (["pair"] : List Str) by decide +kernel] at hf; exact hf)⟩
    · exact ⟨(excXF_ok xx_TooMany).q, fun f hf => (excXF_ok xx_TooMany).n f (by rw [show flE "TooMany" = (["most"] : List Str) by decide +kernel] at hf; exact hf)⟩
    · exact ⟨(excXF_ok xx_Unlike).q, fun f hf => (excXF_ok xx_Unlike).n f (by rw [show flE "Unlike" = (["other"] : List Str) by decide +kernel] at hf; exact hf)⟩
    · exact ⟨(excXF_ok xx_NothingToUndo).q, fun f hf => (excXF_ok xx_NothingToUndo).n f (by rw [show flE "NothingToUndo" = (["count"] : List Str) by decide +kernel] at hf; exact hf)⟩
    · exact ⟨(excXF_ok xx_NoArea).q, fun f hf => (excXF_ok xx_NoArea).n f (by rw [show flE "NoArea" = (["name"] : List Str) by decide +kernel] at hf; exact hf)⟩
    ) (fun d hd => by
    simp only [csO, csE, List.mem_append, List.mem_cons, List.not_mem_nil, or_false] at hd
    rcases hd with (rfl | rfl | rfl | rfl | rfl | rfl | rfl | rfl | rfl | rfl | rfl | rfl | rfl | rfl) | rfl | rfl | rfl
    · exact m_BadAreas
    · exact m_BadName
    · exact m_BadRing
    · exact m_Crossing
    · exact m_BadPoint
    · exact m_BadSlack
    · exact m_BadArc
    · exact m_BadNumber
    · exact m_BadText
    · exact m_Clash
    · exact m_TooMany
    · exact m_Unlike
    · exact m_NothingToUndo
    · exact m_NoArea
    · exact m_SheetError
    · exact m_StateError
    · exact m_MissingError
    )
  have F_L_told : Fn P wd K mg base "_law_told" ["_law_made_here"] 1 1 C_L_told := ⟨fd_L_told, fn_up D_L_told sc_L_told rfl (fun cdv A outer s H E hr => b_L_told T XA _ cdv A outer s H E hr) (st_m h_L_told), FunD.bindsN D_L_told (fun _ _ _ _ _ _ us hl => match us, hl with | [_], _ => rfl), D_L_told.kp, g_L_told⟩
  have F_L_kinds : Fn P wd K mg base "_law_kinds" ["_law_error"] 1 1 C_L_kinds := ⟨fd_L_kinds, fn_up D_L_kinds sc_L_kinds rfl (fun cdv A outer s H E hr => b_L_kinds T XA _ cdv A outer s H E hr) (st_m h_L_kinds), FunD.bindsN D_L_kinds (fun _ _ _ _ _ _ us hl => match us, hl with | [_], _ => rfl), D_L_kinds.kp, g_L_kinds⟩
  exact okG D_law sc_law (fun _ _ _ _ h => spLaw_len h) (fun cdv A outer s H vs Q E hg hr h => ⟨_, (b_law T F_L_begin F_L_pick F_L_things F_L_made F_L_named F_L_told KSY F_L_kinds _ cdv A outer s H E hg hr).nox, law_pure (by decide) vs H Q h h_law⟩)
end DL
open PySem PySem.W PySem.Calls PyProof.Rows
theorem PySem.Challenge.cw_sharedborders_k01_errors_made_holds : PySem.Challenge.rw_sharedborders_k01_errors_made.Holds := by
  w_on; o_law
  refine HandSHeadRun.head_any (r := OpenLaw.row PySem.Challenge.rw_sharedborders_k01_errors_made) (q := view (OpenLaw.row PySem.Challenge.rw_sharedborders_k01_errors_made).prog [27]) (H := DL.hkL) (ob := DL.obL) (M := 20000) (loose := DL.looseL) (d := HandSHeadRun.topDef (OpenLaw.row PySem.Challenge.rw_sharedborders_k01_errors_made).prog 27) (kwd := []) DL.ob_eqL
    (by kernel_rfl) (fun s => by kernel_rfl) DL.runL (by kernel_rfl) (by kernel_rfl) (by kernel_rfl) (by rfl) (by first | assumption | decide +kernel) (by decide +kernel) ⟨rfl, rfl, rfl, rfl, rfl, by decide +kernel⟩ ?hw ?hc
  case hw => w_witness2
  case hc =>
    refine DL.walk_ofGT (l := PySem.Challenge.rw_sharedborders_k01_errors_made) (n := 63) (k := 4) (x := "_law_script") rfl (by decide) (by kernel_rfl) ⟨rfl, by decide, by decide⟩ ?F
    intro w mg fa h Y G hmg0
    obtain ⟨K, KX, c⟩ := Y
    have hmg : mg ("law" : PySem.Str) = some (.ref fa) := by
      have e : (HandSHeadRun.topDef (OpenLaw.row PySem.Challenge.rw_sharedborders_k01_errors_made).prog 27).name = ("law" : PySem.Str) := by kernel_rfl
      rw [← e]
      exact hmg0
    obtain ⟨fd, hb, hF⟩ := DL.factsL (P := (PySem.Challenge.rw_sharedborders_k01_errors_made).prog) (wd := w) KX G hmg c.y.d c.y.more c.a
    have tm : ∀ p, p ∈ (DL.lamDefs.map fun q => He.cT K (q, none)) → ∃ d, d ∈ (DL.lamDefs.map fun q => ((q, none) : Str × Option Str)) ∧ p = He.cT K d := fun p hp => by
      obtain ⟨q, hq, rfl⟩ := List.mem_map.1 hp
      exact ⟨_, List.mem_map.2 ⟨q, hq, rfl⟩, rfl⟩
    refine ⟨K, fd, DL.lamDefs.map fun q => He.cT K (q, none), DL.spLaw K, KX, fun p hp => ?_, fun p hp => ?_, fun p hp => ?_, hb, fun H a ns hl hH hS => ⟨a, ns, rfl, hS, hl, DL.tabs_start hH, fun _ => rfl⟩, hF⟩
    · obtain ⟨d, hd, rfl⟩ := tm p hp
      exact c.y.empty d hd
    · obtain ⟨d, hd, rfl⟩ := tm p hp
      exact c.y.out d hd
    · obtain ⟨d, hd, rfl⟩ := tm p hp
      exact PySem.W.codeHd_of_K KX (c.y.hd d hd)
