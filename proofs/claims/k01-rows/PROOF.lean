import PyProof.Rows.All
import Wide.All
import OpenK.AllK
import Wide.FinOn
import HandS.ForMost
import HandS.Exc
import HandS.ExcInit
import HandS.WordsExc
import HandS.Defaults
import HandS.CallSlots
import HandS.ExcOwn
import HandS.Flow
import HandS.Walk
import HandS.TupAny
import HandS.TupMul
import HandS.IsInst
import HandS.Conv
import HandS.Text
import HandS.Style
import KE.GoesMore
import HandS.Zip
import HandS.TryMany
import HandS.TryOnly
import HandS.ExcField
import HandS.ExcIs
import KE.KExcIs
import KE.KIsAll
import HandS.SetBool
import HandS.Strs
import HandS.Wide
import HandS.Head0
import HandS.Head1
import HandS.Head2
import HandS.HeadEnd
import HandS.HeadHook1
import HandS.HeadHook2
import HandS.HeadHook3
import HandS.HeadHook4
import HandS.HeadWalk
import KE.KStateDown
import PySem.Challenge.RW_ranksweeps_k01_rows
set_option Elab.async false
set_option linter.all false
set_option maxRecDepth 100000
set_option maxHeartbeats 0
/-! DA: the layer of plain data over HandS: values as trees (D), the objects that may change (DO), what ties them to HandS's heap. -/
namespace DL
open PySem PySem.Spec PyProof.Rows L2
abbrev Frag := PySem.W.Frag
abbrev St := L2.St
/-- a value as a tree: tuples and settled instances are data; ref is an object that may change -/
inductive D where
  | non | bl (b : Bool) | int (i : Int) | str (x : Str) | ty (n : String) | ref (a : Addr)
  | tup (xs : List D) | fl (xs : List D) | obj (C : Addr) (fs : List (Str × D)) | exc (a : Addr) (d : Option Addr) (C : Addr) (fs : List (Str × D))
inductive DO where
  | lst (xs : List D)
  | dK (kvs : List (Key × D))
  | dT (kvs : List (List Key × D))
  | ins (C : Addr) (fs : List (Str × D))
  | ext (o : HO)
abbrev Hd := Addr → Option DO
def updD (g : Hd) (a : Addr) (o : DO) : Hd := fun b => if b = a then some o else g b
theorem updD_same {g : Hd} {a : Addr} {o : DO} : updD g a o a = some o := by unfold updD; rw [if_pos rfl]
theorem updD_ne {g : Hd} {a b : Addr} {o : DO} (h : b ≠ a) : updD g a o b = g b := by unfold updD; rw [if_neg h]
theorem updD_updD {g : Hd} {a : Addr} {o u : DO} : updD (updD g a o) a u = updD g a u := by
  funext b; unfold updD; split <;> rfl
def delD (g : Hd) (a : Addr) : Hd := fun b => if b = a then none else g b
theorem delD_ne {g : Hd} {a b : Addr} (h : b ≠ a) : delD g a b = g b := by unfold delD; rw [if_neg h]
theorem delD_same {g : Hd} {a : Addr} : delD g a a = none := by unfold delD; rw [if_pos rfl]
theorem delD_upd {g : Hd} {a : Addr} {o : DO} (h : g a = none) : delD (updD g a o) a = g := by
  funext b
  by_cases e : b = a
  · rw [e, delD_same, h]
  · rw [delD_ne e, updD_ne e]
theorem neD {g : Hd} {a b : Addr} {o : DO} (h : g a = some o) (h' : g b = none) : a ≠ b := by
  intro e; subst e; rw [h] at h'; cases h'
theorem neD' {g : Hd} {a b : Addr} {o : DO} (h : g a = some o) (h' : g b = none) : b ≠ a := fun e => neD h h' e.symm
/-- the objects that may change, and those that are settled -/
structure Gh where
  h : Hd
  F : Addr → Prop
def Gh.upd (g : Gh) (p : Addr) (o : DO) : Gh := ⟨updD g.h p o, g.F⟩
def Gh.del (g : Gh) (p : Addr) : Gh := ⟨delD g.h p, g.F⟩
def Gh.frz (g : Gh) (p : Addr) : Gh := ⟨delD g.h p, fun q => g.F q ∨ q = p⟩
/-- a tuple that stands for good: tracked or written -/
def TupAt (K : Frag) (H : Hp) (p : Addr) (vs : List V) : Prop :=
  H p = some (.tup vs) ∨
    ∃ (o : Obj) (its : Array Value) (n : Nat), K.lookup p = some o ∧ o.cls = .type "tuple" ∧ o.data = .seq its n ∧ its.size ≤ sizeLine ∧ Vals vs its.toList
theorem TupAt.sq {K : Frag} {H : Hp} {p : Addr} {vs : List V} (h : TupAt K H p vs) : SqT K H p vs := by
  rcases h with h | h
  · exact SqT.of h
  · exact .inr h
/-- a list that is only read: no longer tracked, locked or written -/
def RolAt (K : Frag) (g : Gh) (H : Hp) (p : Addr) (vs : List V) : Prop :=
  ((H p = some (.lst vs) ∧ g.F p) ∨ ∃ o, H p = some (.frz o (.lst vs))) ∨
    ∃ (o : Obj) (its : Array Value) (n : Nat), K.lookup p = some o ∧ o.cls = .type "list" ∧ o.dict = none ∧ o.data = .seq its n ∧ its.size ≤ sizeLine ∧ Vals vs its.toList
theorem RolAt.sq {K : Frag} {g : Gh} {H : Hp} {p : Addr} {vs : List V} (h : RolAt K g H p vs) : SqL K H p vs := by
  rcases h with (⟨h, _⟩ | h) | h
  · exact .inl (.inl h)
  · exact .inl (.inr h)
  · exact .inr h
mutual
def DV (K : Frag) (g : Gh) (H : Hp) : D → V → Prop
  | .non, v => v = .non
  | .bl b, v => v = .bl b
  | .int i, v => v = .int i
  | .str x, v => v = .str x
  | .ty n, v => v = .ty n
  | .ref a, v => v = .ref a
  | .tup ds, v => ∃ p vs, v = .ref p ∧ TupAt K H p vs ∧ DVs K g H ds vs
  | .fl ds, v => ∃ p vs, v = .ref p ∧ RolAt K g H p vs ∧ DVs K g H ds vs
  | .obj C fs, v => ∃ p dx fvs, v = .ref p ∧ H p = some (.ins C dx fvs) ∧ g.F p ∧ DFs K g H fs fvs
  | .exc a d _ fs, v => v = .ref a ∧ ((d = none ∧ fs = []) ∨ ∃ dx us, d = some dx ∧ H dx = some (.xd us) ∧ g.F dx ∧ DFs K g H fs us)
def DVs (K : Frag) (g : Gh) (H : Hp) : List D → List V → Prop
  | [], vs => vs = []
  | d :: ds, vs => ∃ v r, vs = v :: r ∧ DV K g H d v ∧ DVs K g H ds r
def DFs (K : Frag) (g : Gh) (H : Hp) : List (Str × D) → List (Str × V) → Prop
  | [], vs => vs = []
  | (f, d) :: ds, vs => ∃ v r, vs = (f, v) :: r ∧ DV K g H d v ∧ DFs K g H ds r
end
def DKs {κ : Type} (K : Frag) (g : Gh) (H : Hp) : List (κ × D) → List (κ × V) → Prop
  | [], vs => vs = []
  | (f, d) :: ds, vs => ∃ v r, vs = (f, v) :: r ∧ DV K g H d v ∧ DKs K g H ds r
/-- what of a heap stands for good -/
structure Ext0 (K : Frag) (g : Gh) (H : Hp) (g' : Gh) (H' : Hp) : Prop where
  tup : ∀ p vs, H p = some (.tup vs) → H' p = some (.tup vs)
  frz : ∀ p o u, H p = some (.frz o u) → H' p = some (.frz o u)
  set : ∀ p u, H p = some u → g.F p → H' p = some u ∧ g'.F p
structure Ext (K : Frag) (g : Gh) (H : Hp) (g' : Gh) (H' : Hp) : Prop where
  tup : ∀ p vs, H p = some (.tup vs) → H' p = some (.tup vs)
  frz : ∀ p o u, H p = some (.frz o u) → H' p = some (.frz o u)
  set : ∀ p u, H p = some u → g.F p → H' p = some u ∧ g'.F p
  rest : ∀ p u, H p = some u → g.h p = none → H' p = some u ∧ g'.h p = none ∧ (g'.F p → g.F p)
  there : ∀ p, H' p = none → H p = none
theorem Ext.zero {K : Frag} {g g' : Gh} {H H' : Hp} (x : Ext K g H g' H') : Ext0 K g H g' H' := ⟨x.tup, x.frz, x.set⟩
theorem Ext.refl {K : Frag} {g : Gh} {H : Hp} : Ext K g H g H := ⟨fun _ _ h => h, fun _ _ _ h => h, fun _ _ h n => ⟨h, n⟩, fun _ _ h n => ⟨h, n, fun z => z⟩, fun _ h => h⟩
theorem Ext.trans {K : Frag} {g g1 g2 : Gh} {H H1 H2 : Hp} (a : Ext K g H g1 H1) (b : Ext K g1 H1 g2 H2) : Ext K g H g2 H2 :=
  ⟨fun p vs h => b.tup p vs (a.tup p vs h), fun p o u h => b.frz p o u (a.frz p o u h), fun p u h n => let ⟨h1, n1⟩ := a.set p u h n; b.set p u h1 n1,
   fun p u h n => let ⟨h1, n1, k1⟩ := a.rest p u h n; let ⟨h2, n2, k2⟩ := b.rest p u h1 n1; ⟨h2, n2, fun z => k1 (k2 z)⟩, fun p h => a.there p (b.there p h)⟩
theorem TupAt.ext0 {K : Frag} {g g' : Gh} {H H' : Hp} {p : Addr} {vs : List V} (h : TupAt K H p vs) (x : Ext0 K g H g' H') : TupAt K H' p vs := by
  rcases h with h | h
  · exact .inl (x.tup p vs h)
  · exact .inr h
theorem RolAt.ext0 {K : Frag} {g g' : Gh} {H H' : Hp} {p : Addr} {vs : List V} (h : RolAt K g H p vs) (x : Ext0 K g H g' H') : RolAt K g' H' p vs := by
  rcases h with (⟨h, n⟩ | ⟨o, h⟩) | h
  · exact .inl (.inl (x.set p _ h n))
  · exact .inl (.inr ⟨o, x.frz p _ _ h⟩)
  · exact .inr h
section
variable {K : Frag} {g g' : Gh} {H H' : Hp}
mutual
theorem DV.ext0 (x : Ext0 K g H g' H') : ∀ {d : D} {v : V}, DV K g H d v → DV K g' H' d v
  | .non, _, h => h
  | .bl _, _, h => h
  | .int _, _, h => h
  | .str _, _, h => h
  | .ty _, _, h => h
  | .ref _, _, h => h
  | .tup ds, v, h => by
    obtain ⟨p, vs, e, t, r⟩ := h
    exact ⟨p, vs, e, t.ext0 x, DVs.ext0 x r⟩
  | .fl ds, v, h => by
    obtain ⟨p, vs, e, t, r⟩ := h
    exact ⟨p, vs, e, t.ext0 x, DVs.ext0 x r⟩
  | .obj C fs, v, h => by
    obtain ⟨p, dx, fvs, e, t, n, r⟩ := h
    obtain ⟨t', n'⟩ := x.set p _ t n
    exact ⟨p, dx, fvs, e, t', n', DFs.ext0 x r⟩
  | .exc a d C fs, v, h => by
    obtain ⟨e, q | ⟨dx, us, e1, t, n, r⟩⟩ := h
    · exact ⟨e, .inl q⟩
    · obtain ⟨t', n'⟩ := x.set dx _ t n
      exact ⟨e, .inr ⟨dx, us, e1, t', n', DFs.ext0 x r⟩⟩
theorem DVs.ext0 (x : Ext0 K g H g' H') : ∀ {d : List D} {v : List V}, DVs K g H d v → DVs K g' H' d v
  | [], _, h => h
  | d :: ds, vs, h => by
    obtain ⟨v, r, e, h1, h2⟩ := h
    exact ⟨v, r, e, DV.ext0 x h1, DVs.ext0 x h2⟩
theorem DFs.ext0 (x : Ext0 K g H g' H') : ∀ {d : List (Str × D)} {v : List (Str × V)}, DFs K g H d v → DFs K g' H' d v
  | [], _, h => h
  | (f, d) :: ds, vs, h => by
    obtain ⟨v, r, e, h1, h2⟩ := h
    exact ⟨v, r, e, DV.ext0 x h1, DFs.ext0 x h2⟩
end
theorem DKs.ext0 {κ : Type} (x : Ext0 K g H g' H') : ∀ {d : List (κ × D)} {v : List (κ × V)}, DKs K g H d v → DKs K g' H' d v
  | [], _, h => h
  | (f, d) :: ds, vs, h => by
    obtain ⟨v, r, e, h1, h2⟩ := h
    exact ⟨v, r, e, h1.ext0 x, DKs.ext0 x h2⟩
theorem DV.ext {d : D} {v : V} (h : DV K g H d v) (x : Ext K g H g' H') : DV K g' H' d v := DV.ext0 x.zero h
theorem DVs.ext {d : List D} {v : List V} (h : DVs K g H d v) (x : Ext K g H g' H') : DVs K g' H' d v := DVs.ext0 x.zero h
theorem DFs.ext {d : List (Str × D)} {v : List (Str × V)} (h : DFs K g H d v) (x : Ext K g H g' H') : DFs K g' H' d v := DFs.ext0 x.zero h
theorem DKs.ext {κ : Type} {d : List (κ × D)} {v : List (κ × V)} (h : DKs K g H d v) (x : Ext K g H g' H') : DKs K g' H' d v := DKs.ext0 x.zero h
theorem TupAt.ext {p : Addr} {vs : List V} (h : TupAt K H p vs) (x : Ext K g H g' H') : TupAt K H' p vs := h.ext0 x.zero
theorem RolAt.ext {p : Addr} {vs : List V} (h : RolAt K g H p vs) (x : Ext K g H g' H') : RolAt K g' H' p vs := h.ext0 x.zero
theorem DVs.length : ∀ {ds : List D} {vs : List V}, DVs K g H ds vs → vs.length = ds.length
  | [], _, h => by
    rw [show _ = [] from h]
    rfl
  | d :: ds, vs, h => by
    obtain ⟨v, r, e, h1, h2⟩ := h
    rw [e, List.length_cons, List.length_cons, DVs.length h2]
theorem DVs.append : ∀ {ds es : List D} {vs us : List V}, DVs K g H ds vs → DVs K g H es us → DVs K g H (ds ++ es) (vs ++ us)
  | [], _, _, _, h, q => by
    rw [show _ = [] from h]
    exact q
  | d :: ds, es, vs, us, h, q => by
    obtain ⟨v, r, e, h1, h2⟩ := h
    rw [e]
    exact ⟨v, r ++ us, rfl, h1, DVs.append h2 q⟩
theorem DVs.get : ∀ {ds : List D} {vs : List V} {i : Nat} {d : D}, DVs K g H ds vs → ds[i]? = some d → ∃ v, vs[i]? = some v ∧ DV K g H d v
  | [], _, i, d, h, e => by simp at e
  | d :: ds, vs, 0, d', h, e => by
    obtain ⟨v, r, e1, h1, h2⟩ := h
    simp at e
    subst e
    exact ⟨v, by rw [e1]; rfl, h1⟩
  | d :: ds, vs, i + 1, d', h, e => by
    obtain ⟨v, r, e1, h1, h2⟩ := h
    obtain ⟨u, h3, h4⟩ := DVs.get (i := i) h2 (by simpa using e)
    exact ⟨u, by rw [e1]; simpa using h3, h4⟩
theorem DVs.get' : ∀ {ds : List D} {vs : List V} {i : Nat} {v : V}, DVs K g H ds vs → vs[i]? = some v → ∃ d, ds[i]? = some d ∧ DV K g H d v := fun {ds vs i v} h e => by
  have hi : i < vs.length := (List.getElem?_eq_some_iff.mp e).1
  rw [h.length] at hi
  obtain ⟨u, h1, h2⟩ := h.get (i := i) (d := ds[i]) (List.getElem?_eq_getElem hi)
  rw [e] at h1
  cases h1
  exact ⟨_, List.getElem?_eq_getElem hi, h2⟩
theorem DVs.set : ∀ {ds : List D} {vs : List V} (i : Nat) {d : D} {v : V}, DVs K g H ds vs → DV K g H d v → DVs K g H (ds.set i d) (vs.set i v)
  | [], _, i, d, v, h, q => by
    rw [show _ = [] from h]
    simp
    rfl
  | d :: ds, vs, 0, d', v', h, q => by
    obtain ⟨v, r, e1, h1, h2⟩ := h
    rw [e1]
    exact ⟨v', r, rfl, q, h2⟩
  | d :: ds, vs, i + 1, d', v', h, q => by
    obtain ⟨v, r, e1, h1, h2⟩ := h
    rw [e1]
    exact ⟨v, r.set i v', rfl, h1, DVs.set i h2 q⟩
theorem DVs.drop : ∀ {ds : List D} {vs : List V} (n : Nat), DVs K g H ds vs → DVs K g H (ds.drop n) (vs.drop n)
  | ds, vs, 0, h => by simpa using h
  | [], _, n + 1, h => by
    rw [show _ = [] from h]
    simp
    rfl
  | d :: ds, vs, n + 1, h => by
    obtain ⟨v, r, e1, h1, h2⟩ := h
    rw [e1]
    exact DVs.drop n h2
theorem DVs.take : ∀ {ds : List D} {vs : List V} (n : Nat), DVs K g H ds vs → DVs K g H (ds.take n) (vs.take n)
  | ds, vs, 0, h => by
    simp
    rfl
  | [], _, n + 1, h => by
    rw [show _ = [] from h]
    simp
    rfl
  | d :: ds, vs, n + 1, h => by
    obtain ⟨v, r, e1, h1, h2⟩ := h
    rw [e1]
    exact ⟨v, r.take n, rfl, h1, DVs.take n h2⟩
theorem DVs.reverse : ∀ {ds : List D} {vs : List V}, DVs K g H ds vs → DVs K g H ds.reverse vs.reverse
  | [], _, h => by
    rw [show _ = [] from h]
    exact rfl
  | d :: ds, vs, h => by
    obtain ⟨v, r, e1, h1, h2⟩ := h
    rw [e1, List.reverse_cons, List.reverse_cons]
    exact DVs.append (DVs.reverse h2) ⟨v, [], rfl, h1, rfl⟩
theorem DVs.ints : ∀ {ns : List Int} {vs : List V}, DVs K g H (ns.map D.int) vs → vs = ns.map V.int
  | [], _, h => h
  | n :: ns, vs, h => by
    obtain ⟨v, r, e1, h1, h2⟩ := h
    rw [e1, show v = V.int n from h1, DVs.ints h2]
    rfl
theorem DVs.ofInts : ∀ {ns : List Int}, DVs K g H (ns.map D.int) (ns.map V.int)
  | [] => rfl
  | n :: ns => ⟨.int n, ns.map V.int, rfl, rfl, DVs.ofInts⟩
theorem DVs.bls : ∀ {ns : List Bool} {vs : List V}, DVs K g H (ns.map D.bl) vs → vs = ns.map V.bl
  | [], _, h => h
  | n :: ns, vs, h => by
    obtain ⟨v, r, e1, h1, h2⟩ := h
    rw [e1, show v = V.bl n from h1, DVs.bls h2]
    rfl
theorem DVs.strs : ∀ {ns : List Str} {vs : List V}, DVs K g H (ns.map D.str) vs → vs = ns.map V.str
  | [], _, h => h
  | n :: ns, vs, h => by
    obtain ⟨v, r, e1, h1, h2⟩ := h
    rw [e1, show v = V.str n from h1, DVs.strs h2]
    rfl
theorem DVs.ofStrs : ∀ {ns : List Str}, DVs K g H (ns.map D.str) (ns.map V.str)
  | [] => rfl
  | n :: ns => ⟨.str n, ns.map V.str, rfl, rfl, DVs.ofStrs⟩
theorem DFs.lookup : ∀ {ds : List (Str × D)} {vs : List (Str × V)} {f : Str} {d : D}, DFs K g H ds vs → ds.lookup f = some d → ∃ v, vs.lookup f = some v ∧ DV K g H d v
  | [], _, f, d, h, e => by simp at e
  | (f', d') :: ds, vs, f, d, h, e => by
    obtain ⟨v, r, e1, h1, h2⟩ := h
    rw [e1]
    by_cases q : f = f'
    · subst q
      simp [List.lookup] at e ⊢
      subst e
      exact h1
    · have q' : (f == f') = false := by simpa using q
      simp [List.lookup, q'] at e ⊢
      exact DFs.lookup h2 e
theorem DFs.lookup_none : ∀ {ds : List (Str × D)} {vs : List (Str × V)} {f : Str}, DFs K g H ds vs → ds.lookup f = none → vs.lookup f = none
  | [], _, f, h, e => by
    rw [show _ = [] from h]
    rfl
  | (f', d') :: ds, vs, f, h, e => by
    obtain ⟨v, r, e1, h1, h2⟩ := h
    rw [e1]
    by_cases q : f = f'
    · subst q
      simp [List.lookup] at e
    · have q' : (f == f') = false := by simpa using q
      have e2 : ds.lookup f = none := by
        have e3 := e
        unfold List.lookup at e3
        rw [q'] at e3
        exact e3
      have e4 := DFs.lookup_none h2 e2
      show (match f == f' with | true => some v | false => r.lookup f) = none
      rw [q']
      exact e4
theorem DFs.length : ∀ {ds : List (Str × D)} {vs : List (Str × V)}, DFs K g H ds vs → vs.length = ds.length
  | [], _, h => by
    rw [show _ = [] from h]
    rfl
  | (f, d) :: ds, vs, h => by
    obtain ⟨v, r, e, h1, h2⟩ := h
    rw [e, List.length_cons, List.length_cons, DFs.length h2]
def putD (f : Str) (y : D) : List (Str × D) → List (Str × D)
  | [] => [(f, y)]
  | (g, x) :: r => if g = f then (g, y) :: r else (g, x) :: putD f y r
end

/-! ### the state -/
def DOk (K : Frag) (g : Gh) (H : Hp) (a : Addr) : DO → Prop
  | .lst ds => ∃ vs, H a = some (.lst vs) ∧ DVs K g H ds vs
  | .dK kvs => ∃ us, H a = some (.dK us) ∧ DKs K g H kvs us
  | .dT kvs => ∃ us, H a = some (.dT us) ∧ DKs K g H kvs us
  | .ins C fs => ∃ dx us, H a = some (.ins C dx us) ∧ DFs K g H fs us
  | .ext o => H a = some o
structure RH (K : Frag) (g : Gh) (H : Hp) : Prop where
  at_ : ∀ a o, g.h a = some o → DOk K g H a o
  apart : ∀ a o, g.h a = some o → ¬ g.F a
  there : ∀ a, g.F a → ∃ u, H a = some u
abbrev Sd := List (Option D)
def RSt (K : Frag) (g : Gh) (H : Hp) : Sd → St → Prop
  | [], σ => σ = []
  | none :: s, σ => ∃ v r, σ = v :: r ∧ RSt K g H s r
  | some d :: s, σ => ∃ v r, σ = some v :: r ∧ DV K g H d v ∧ RSt K g H s r
abbrev Qd := D → Hd → Prop
abbrev Xd := Addr → List (Str × D) → Sd → Hd → Prop
/-- an exception: its class at C, its fields -/
def ExR (K : Frag) (g : Gh) (H : Hp) (cls : Value) (d : Option Addr) (C : Addr) (fs : List (Str × D)) : Prop :=
  cls = .ref C ∧ ((d = none ∧ fs = []) ∨ ∃ dx us, d = some dx ∧ H dx = some (.xd us) ∧ g.F dx ∧ DFs K g H fs us)
section
variable {K : Frag} {g g' : Gh} {H H' : Hp}
theorem RSt.ext (x : Ext K g H g' H') : ∀ {s : Sd} {σ : St}, RSt K g H s σ → RSt K g' H' s σ
  | [], _, h => h
  | none :: s, σ, h => by
    obtain ⟨v, r, e, h⟩ := h
    exact ⟨v, r, e, RSt.ext x h⟩
  | some d :: s, σ, h => by
    obtain ⟨v, r, e, q, h⟩ := h
    exact ⟨v, r, e, q.ext x, RSt.ext x h⟩
theorem RSt.get : ∀ {s : Sd} {σ : St} {i : Nat} {d : D}, RSt K g H s σ → s[i]? = some (some d) → ∃ v, σ[i]? = some (some v) ∧ DV K g H d v
  | [], _, i, d, h, e => by simp at e
  | none :: s, σ, 0, d, h, e => by simp at e
  | some d :: s, σ, 0, d', h, e => by
    obtain ⟨v, r, e1, q, h⟩ := h
    simp at e
    subst e
    exact ⟨v, by rw [e1]; rfl, q⟩
  | none :: s, σ, i + 1, d, h, e => by
    obtain ⟨v, r, e1, h⟩ := h
    obtain ⟨u, h1, h2⟩ := RSt.get (i := i) h (by simpa using e)
    exact ⟨u, by rw [e1]; simpa using h1, h2⟩
  | some d' :: s, σ, i + 1, d, h, e => by
    obtain ⟨v, r, e1, q, h⟩ := h
    obtain ⟨u, h1, h2⟩ := RSt.get (i := i) h (by simpa using e)
    exact ⟨u, by rw [e1]; simpa using h1, h2⟩
theorem RSt.set : ∀ {s : Sd} {σ : St} (i : Nat) {d : D} {v : V}, RSt K g H s σ → DV K g H d v → RSt K g H (s.set i (some d)) (σ.set i (some v))
  | [], _, i, d, v, h, q => by
    rw [show _ = [] from h]
    simp
    rfl
  | none :: s, σ, 0, d, v, h, q => by
    obtain ⟨v', r, e1, h⟩ := h
    rw [e1]
    exact ⟨v, r, rfl, q, h⟩
  | some _ :: s, σ, 0, d, v, h, q => by
    obtain ⟨v', r, e1, _, h⟩ := h
    rw [e1]
    exact ⟨v, r, rfl, q, h⟩
  | none :: s, σ, i + 1, d, v, h, q => by
    obtain ⟨v', r, e1, h⟩ := h
    rw [e1]
    exact ⟨v', r.set i (some v), rfl, RSt.set i h q⟩
  | some _ :: s, σ, i + 1, d, v, h, q => by
    obtain ⟨v', r, e1, q1, h⟩ := h
    rw [e1]
    exact ⟨v', r.set i (some v), rfl, q1, RSt.set i h q⟩
theorem RSt.wipe : ∀ {s : Sd} {σ : St} (i : Nat), RSt K g H s σ → RSt K g H (s.set i none) (σ.set i none)
  | [], _, i, h => by
    rw [show _ = [] from h]
    simp
    rfl
  | none :: s, σ, 0, h => by
    obtain ⟨v', r, e1, h⟩ := h
    rw [e1]
    exact ⟨none, r, rfl, h⟩
  | some _ :: s, σ, 0, h => by
    obtain ⟨v', r, e1, _, h⟩ := h
    rw [e1]
    exact ⟨none, r, rfl, h⟩
  | none :: s, σ, i + 1, h => by
    obtain ⟨v', r, e1, h⟩ := h
    rw [e1]
    exact ⟨v', r.set i none, rfl, RSt.wipe i h⟩
  | some _ :: s, σ, i + 1, h => by
    obtain ⟨v', r, e1, q1, h⟩ := h
    rw [e1]
    exact ⟨v', r.set i none, rfl, q1, RSt.wipe i h⟩
theorem DOk.ext' {a : Addr} {o : DO} (x : Ext0 K g H g' H') (e : ∀ u, H a = some u → H' a = some u) (h : DOk K g H a o) : DOk K g' H' a o := by
  cases o with
  | lst ds =>
    obtain ⟨vs, h1, h2⟩ := h
    exact ⟨vs, e _ h1, h2.ext0 x⟩
  | dK kvs =>
    obtain ⟨vs, h1, h2⟩ := h
    exact ⟨vs, e _ h1, h2.ext0 x⟩
  | dT kvs =>
    obtain ⟨vs, h1, h2⟩ := h
    exact ⟨vs, e _ h1, h2.ext0 x⟩
  | ins C fs =>
    obtain ⟨dx, vs, h1, h2⟩ := h
    exact ⟨dx, vs, e _ h1, h2.ext0 x⟩
  | ext o => exact e _ h
theorem RH.nset (R : RH K g H) {p : Addr} (h : H p = none) : ¬ g.F p := fun z => by
  obtain ⟨u, e⟩ := R.there p z
  rw [h] at e
  cases e
theorem RH.fresh (R : RH K g H) {p : Addr} (h : H p = none) : g.h p = none := by
  cases e : g.h p with
  | none => rfl
  | some o =>
    have q := R.at_ p o e
    cases o with
    | lst ds =>
      obtain ⟨vs, h1, _⟩ := q
      rw [h] at h1
      cases h1
    | dK kvs =>
      obtain ⟨vs, h1, _⟩ := q
      rw [h] at h1
      cases h1
    | dT kvs =>
      obtain ⟨vs, h1, _⟩ := q
      rw [h] at h1
      cases h1
    | ins C fs =>
      obtain ⟨_, vs, h1, _⟩ := q
      rw [h] at h1
      cases h1
    | ext o =>
      have q' : H p = some o := q
      rw [h] at q'
      cases q'
theorem upd_none' {p q : Addr} {o : HO} (e : L2.upd H p o q = none) : H q = none := by
  by_cases z : q = p
  · rw [z, upd_same] at e
    cases e
  · rw [upd_ne z] at e
    exact e
/-- a new object at p, tracked as o' -/
theorem Ext.new {p : Addr} {o : HO} {o' : DO} (h : H p = none) : Ext K g H (g.upd p o') (L2.upd H p o) :=
  ⟨fun q vs e => by rw [upd_ne (ne_of_none e h)]; exact e,
   fun q o u e => by rw [upd_ne (ne_of_none e h)]; exact e,
   fun q u e n => ⟨by rw [upd_ne (ne_of_none e h)]; exact e, n⟩,
   fun q u e n => ⟨by rw [upd_ne (ne_of_none e h)]; exact e, (updD_ne (ne_of_none e h)).trans n, fun z => z⟩, fun q e => upd_none' e⟩
/-- a new object at p, not tracked -/
theorem Ext.new0 {p : Addr} {o : HO} (h : H p = none) : Ext K g H g (L2.upd H p o) :=
  ⟨fun q vs e => by rw [upd_ne (ne_of_none e h)]; exact e,
   fun q o u e => by rw [upd_ne (ne_of_none e h)]; exact e,
   fun q u e n => ⟨by rw [upd_ne (ne_of_none e h)]; exact e, n⟩,
   fun q u e n => ⟨by rw [upd_ne (ne_of_none e h)]; exact e, n, fun z => z⟩, fun q e => upd_none' e⟩
theorem delD_none {g : Hd} {p q : Addr} (n : g q = none) : delD g p q = none := by
  by_cases z : q = p
  · rw [z, delD_same]
  · rw [delD_ne z]
    exact n
/-- forgetting -/
theorem Ext.del {p : Addr} : Ext K g H (g.del p) H :=
  ⟨fun _ _ e => e, fun _ _ _ e => e, fun _ _ e n => ⟨e, n⟩, fun _ _ e n => ⟨e, delD_none n, fun z => z⟩, fun _ e => e⟩
/-- settling what was tracked -/
theorem Ext.settle {p : Addr} {o : DO} (hp : g.h p = some o) : Ext K g H (g.frz p) H :=
  ⟨fun _ _ e => e, fun _ _ _ e => e, fun _ _ e n => ⟨e, .inl n⟩, fun q _ e n => ⟨e, delD_none n, fun z => z.elim (fun z => z) fun z => by rw [z, hp] at n; cases n⟩, fun _ e => e⟩
theorem RH.new0 (R : RH K g H) {p : Addr} {o : HO} (h : H p = none) : RH K g (L2.upd H p o) :=
  ⟨fun a u e => (R.at_ a u e).ext' (Ext.new0 h).zero fun _ e2 => by rw [upd_ne (ne_of_none e2 h)]; exact e2, R.apart, fun a z => by
    obtain ⟨u, e⟩ := R.there a z
    exact ⟨u, by rw [upd_ne (ne_of_none e h)]; exact e⟩⟩
theorem RH.new (R : RH K g H) {p : Addr} {o : HO} {o' : DO} (h : H p = none) (q : DOk K (g.upd p o') (L2.upd H p o) p o') : RH K (g.upd p o') (L2.upd H p o) :=
  ⟨fun a u e => by
    by_cases z : a = p
    · subst z
      rw [show (g.upd a o').h a = some o' from updD_same] at e
      cases e
      exact q
    · rw [show (g.upd p o').h a = g.h a from updD_ne z] at e
      exact (R.at_ a u e).ext' (Ext.new h).zero fun _ e2 => by rw [upd_ne (ne_of_none e2 h)]; exact e2,
   fun a u e => by
    by_cases z : a = p
    · rw [z]
      exact R.nset h
    · rw [show (g.upd p o').h a = g.h a from updD_ne z] at e
      exact R.apart a u e,
   fun a z => by
    obtain ⟨u, e⟩ := R.there a z
    exact ⟨u, by rw [upd_ne (ne_of_none e h)]; exact e⟩⟩
theorem RH.del (R : RH K g H) {p : Addr} : RH K (g.del p) H :=
  ⟨fun a u e => by
    by_cases z : a = p
    · rw [z, show (g.del p).h p = none from delD_same] at e
      cases e
    · rw [show (g.del p).h a = g.h a from delD_ne z] at e
      exact (R.at_ a u e).ext' Ext.del.zero fun _ h => h,
   fun a u e => by
    by_cases z : a = p
    · rw [z, show (g.del p).h p = none from delD_same] at e
      cases e
    · rw [show (g.del p).h a = g.h a from delD_ne z] at e
      exact R.apart a u e, R.there⟩
theorem RH.settle (R : RH K g H) {p : Addr} {o : DO} {u : HO} (hp : g.h p = some o) (hu : H p = some u) : RH K (g.frz p) H :=
  ⟨fun a v e => by
    by_cases z : a = p
    · rw [z, show (g.frz p).h p = none from delD_same] at e
      cases e
    · rw [show (g.frz p).h a = g.h a from delD_ne z] at e
      exact (R.at_ a v e).ext' (Ext.settle hp).zero fun _ h => h,
   fun a v e => by
    by_cases z : a = p
    · rw [z, show (g.frz p).h p = none from delD_same] at e
      cases e
    · rw [show (g.frz p).h a = g.h a from delD_ne z] at e
      exact fun q => q.elim (R.apart a v e) z,
   fun a z => z.elim (R.there a) fun z => ⟨u, by rw [z]; exact hu⟩⟩
end
end DL

/-! DB: readings over plain data, lifted to HandS's readings; names, constants, operators, tests, statements. -/
namespace DL
open PySem PySem.Spec PyProof.Rows L2
abbrev TEd := Sd → Hd → Qd → Xd → Prop
abbrev TTd := Sd → Hd → (Bool → Hd → Prop) → Xd → Prop
abbrev TAd := Sd → Hd → (List D → Hd → Prop) → Xd → Prop
structure Dn where
  nx : Sd → Hd → Prop
  rt : Qd
  bk : Sd → Hd → Prop
  ct : Sd → Hd → Prop
  ex : Xd
abbrev TSd := Dn → Sd → Hd → Prop
section
variable (K : Frag)
def QL (g : Gh) (H : Hp) (q : Qd) (Q : VK) : Prop := ∀ d v (g' : Gh) H', Ext K g H g' H' → RH K g' H' → DV K g' H' d v → q d g'.h → Q v H'
def BL (g : Gh) (H : Hp) (q : Bool → Hd → Prop) (Q : Bool → Hp → Prop) : Prop := ∀ b (g' : Gh) H', Ext K g H g' H' → RH K g' H' → q b g'.h → Q b H'
def LL (g : Gh) (H : Hp) (q : List D → Hd → Prop) (Q : List V → Hp → Prop) : Prop := ∀ d v (g' : Gh) H', Ext K g H g' H' → RH K g' H' → DVs K g' H' d v → q d g'.h → Q v H'
def SL (g : Gh) (H : Hp) (q : Sd → Hd → Prop) (Q : St → Hp → Prop) : Prop := ∀ s σ (g' : Gh) H', Ext K g H g' H' → RH K g' H' → RSt K g' H' s σ → q s g'.h → Q σ H'
def XL (g : Gh) (H : Hp) (x : Xd) (W : WX) : Prop := ∀ C fs cls dd s σ (g' : Gh) H', Ext K g H g' H' → RH K g' H' → RSt K g' H' s σ → ExR K g' H' cls dd C fs → x C fs s g'.h → W cls dd σ H'
variable (W : WX)
def liftE (t : TEd) : TE := fun σ H Q => ∃ s, ∃ g : Gh, ∃ q x, RSt K g H s σ ∧ RH K g H ∧ t s g.h q x ∧ QL K g H q Q ∧ XL K g H x W
def liftT (t : TTd) : TT := fun σ H Q => ∃ s, ∃ g : Gh, ∃ q x, RSt K g H s σ ∧ RH K g H ∧ t s g.h q x ∧ BL K g H q Q ∧ XL K g H x W
def liftA (t : TAd) : TA := fun σ H Q => ∃ s, ∃ g : Gh, ∃ q x, RSt K g H s σ ∧ RH K g H ∧ t s g.h q x ∧ LL K g H q Q ∧ XL K g H x W
def liftS (t : TSd) : TS := fun D σ H => ∃ s, ∃ g : Gh, ∃ d, RSt K g H s σ ∧ RH K g H ∧ t d s g.h ∧ SL K g H d.nx D.nx ∧ SL K g H d.bk D.bk ∧ SL K g H d.ct D.ct ∧ QL K g H d.rt D.rt ∧ XL K g H d.ex W
end
section
variable {K : Frag} {W : WX} {g g1 : Gh} {H H1 : Hp}
theorem QL.ext {q : Qd} {Q : VK} (h : QL K g H q Q) (x : Ext K g H g1 H1) : QL K g1 H1 q Q := fun d v g' H' x' => h d v g' H' (x.trans x')
theorem BL.ext {q : Bool → Hd → Prop} {Q : Bool → Hp → Prop} (h : BL K g H q Q) (x : Ext K g H g1 H1) : BL K g1 H1 q Q := fun d g' H' x' => h d g' H' (x.trans x')
theorem LL.ext {q : List D → Hd → Prop} {Q : List V → Hp → Prop} (h : LL K g H q Q) (x : Ext K g H g1 H1) : LL K g1 H1 q Q := fun d v g' H' x' => h d v g' H' (x.trans x')
theorem SL.ext {q : Sd → Hd → Prop} {Q : St → Hp → Prop} (h : SL K g H q Q) (x : Ext K g H g1 H1) : SL K g1 H1 q Q := fun d v g' H' x' => h d v g' H' (x.trans x')
theorem XL.ext {x : Xd} (h : XL K g H x W) (e : Ext K g H g1 H1) : XL K g1 H1 x W := fun C fs cls dd s σ g' H' x' => h C fs cls dd s σ g' H' (e.trans x')
end
section
variable {X : Cx} {W : WX}
abbrev DE (X : Cx) (W : WX) (e : Expr) (t : TEd) : Prop := PE X e (liftE X.K W t)
abbrev DT (X : Cx) (W : WX) (e : Expr) (t : TTd) : Prop := PT X e (liftT X.K W t)
abbrev DW (X : Cx) (W : WX) (e : Expr) (t : TTd) : Prop := PW X e (liftT X.K W t)
abbrev DAr (X : Cx) (W : WX) (e : List Expr) (t : TAd) : Prop := PA X e (liftA X.K W t)
abbrev DS (X : Cx) (W : WX) (e : Stmt) (t : TSd) : Prop := PS X e (liftS X.K W t)
abbrev DSs (X : Cx) (W : WX) (e : List Stmt) (t : TSd) : Prop := PSs X e (liftS X.K W t)
theorem PE_mono {e : Expr} {t t' : TE} (h : PE X e t) (m : ∀ σ H Q, t' σ H Q → t σ H Q) : PE X e t' := ⟨fun pins s σ H Q I q => h.run pins s σ H Q I (m σ H Q q)⟩
theorem PT_mono {e : Expr} {t t' : TT} (h : PT X e t) (m : ∀ σ H Q, t' σ H Q → t σ H Q) : PT X e t' := ⟨fun pins s σ H Q I q => h.run pins s σ H Q I (m σ H Q q)⟩
theorem PW_mono {e : Expr} {t t' : TT} (h : PW X e t) (m : ∀ σ H Q, t' σ H Q → t σ H Q) : PW X e t' := ⟨fun wh pins s σ H Q I q => h.run wh pins s σ H Q I (m σ H Q q)⟩
theorem PA_mono {e : List Expr} {t t' : TA} (h : PA X e t) (m : ∀ σ H Q, t' σ H Q → t σ H Q) : PA X e t' := ⟨fun pos pins s σ H Q I q => h.run pos pins s σ H Q I (m σ H Q q)⟩
theorem PS_mono {e : Stmt} {t t' : TS} (h : PS X e t) (m : ∀ D σ H, t' D σ H → t D σ H) : PS X e t' := ⟨fun pins s σ H D I q => h.run pins s σ H D I (m D σ H q)⟩
theorem PSs_mono {e : List Stmt} {t t' : TS} (h : PSs X e t) (m : ∀ D σ H, t' D σ H → t D σ H) : PSs X e t' := ⟨fun pins s σ H D I q => h.run pins s σ H D I (m D σ H q)⟩
/-! ### names and constants -/
def headS (Q : D → Prop) : Sd → Prop
  | [] => False
  | none :: _ => False
  | some d :: _ => Q d
def getS : Nat → Sd → (D → Prop) → Prop
  | 0, s, Q => headS Q s
  | n + 1, s, Q => getS n s.tail Q
theorem getS_ok : ∀ {n : Nat} {s : Sd} {Q : D → Prop}, getS n s Q → ∃ d, s[n]? = some (some d) ∧ Q d
  | 0, [], _, h => False.elim h
  | 0, none :: _, _, h => False.elim h
  | 0, some d :: _, Q, h => ⟨d, rfl, h⟩
  | n + 1, s, Q, h => by
    obtain ⟨d, e, q⟩ := getS_ok (n := n) (s := s.tail) h
    refine ⟨d, ?_, q⟩
    cases s with
    | nil => simp at e
    | cons a r => simpa using e
def dVar (i : Nat) : TEd := fun s g q _ => getS i s fun d => q d g
def dC (d : D) : TEd := fun _ g q _ => q d g
theorem de_var (i : Nat) {x : Str} {pos : Pos} (hN : X.N[i]? = some x := by rfl) (hv : Vis X.env.scope x := by first | exact Or.inl rfl | exact Or.inr (Or.inl rfl) | exact Or.inr (Or.inr rfl)) (hd : (x == ("__debug__" : Str)) = false := by decide)
    (hcd : (x == ("__classdict__" : Str)) = false := by decide) : DE X W (.Name x pos) (dVar i) := PE_mono (pe_var hN hv hd hcd) fun σ H Q ⟨s, g, q, x, rs, rh, h, ql, _⟩ => by
  obtain ⟨d, e, h⟩ := getS_ok h
  obtain ⟨v, e1, r⟩ := rs.get e
  exact ⟨v, e1, ql d v g H Ext.refl rh r h⟩
theorem de_c {e : Expr} {v : V} {d : D} (h : PE X e (tC v)) (r : ∀ (g : Gh) H, DV X.K g H d v) : DE X W e (dC d) := PE_mono h fun σ H Q ⟨s, g, q, x, rs, rh, h, ql, _⟩ => ql d v g H Ext.refl rh (r g H) h
theorem de_int {i j pos} : DE X W (.Constant (.int i) j pos) (dC (.int i)) := de_c pe_int fun _ _ => rfl
theorem de_bl {i j pos} : DE X W (.Constant (.bool i) j pos) (dC (.bl i)) := de_c pe_bl fun _ _ => rfl
theorem de_non {j pos} : DE X W (.Constant .none j pos) (dC .non) := de_c pe_non fun _ _ => rfl
theorem de_str {i j pos} : DE X W (.Constant (.str i) j pos) (dC (.str i)) := de_c pe_str fun _ _ => rfl
/-- a module's int, str constant; a class, a def as a value -/
theorem de_glob {x : Str} {v : V} {u : Value} {d : D} {pos : Pos} (hg : Gl X x) (hm : X.mg x = some u) (r : RelV v u) (rd : ∀ (g : Gh) H, DV X.K g H d v) (hd : (x == ("__debug__" : Str)) = false := by decide) : DE X W (.Name x pos) (dC d) := de_c (pe_glob hg hm r hd) rd
theorem de_globI {x : Str} {i : Int} {t : Tok} {pos : Pos} (hm : X.mg x = some (.int i t)) (hg : Gl X x := by rfl) (hd : (x == ("__debug__" : Str)) = false := by decide) : DE X W (.Name x pos) (dC (.int i)) := de_glob (v := .int i) hg hm ⟨t, rfl⟩ (fun _ _ => rfl) hd
theorem de_globS {x : Str} {i : Str} {t : Tok} {pos : Pos} (hm : X.mg x = some (.str i t)) (hg : Gl X x := by rfl) (hd : (x == ("__debug__" : Str)) = false := by decide) : DE X W (.Name x pos) (dC (.str i)) := de_glob (v := .str i) hg hm ⟨t, rfl⟩ (fun _ _ => rfl) hd
theorem de_globR {x : Str} {a : Addr} {pos : Pos} (hm : X.mg x = some (.ref a)) (hg : Gl X x := by rfl) (hd : (x == ("__debug__" : Str)) = false := by decide) : DE X W (.Name x pos) (dC (.ref a)) := de_glob (v := .ref a) hg hm rfl (fun _ _ => rfl) hd
theorem de_bty {x : Str} {n : String} {pos : Pos} (hm : X.mg x = none) (hv : bootBuiltins x = some (.type n) := by decide +kernel) (hg : Gl X x := by rfl) (hn : x ≠ "__name__" := by decide) (hd : (x == ("__debug__" : Str)) = false := by decide) : DE X W (.Name x pos) (dC (.ty n)) := de_c (pe_bltn (v := .ty n) hg hm hv rfl hn hd) fun _ _ => rfl
/-! ### two-place operations by values -/
abbrev R2d := D → D → Hd → Qd → Prop
def OpL (K : Frag) (rd : R2d) (r : R2) : Prop := ∀ d e x y (g : Gh) H q Q, RH K g H → DV K g H d x → DV K g H e y → rd d e g.h q → QL K g H q Q → r x y H Q
def dOp (rd : R2d) (ta tb : TEd) : TEd := fun s g q x => ta s g (fun d g1 => tb s g1 (fun e g2 => rd d e g2 q) x) x
variable {a b c : Expr} {ta tb tc : TEd} {pos : Pos}
theorem two {K : Frag} {ra rb : TEd} {rd : R2d} {r : R2} (hl : OpL K rd r) {σ : St} {H : Hp} {Q : VK} {s : Sd} {g : Gh} {q : Qd} {x : Xd} (rs : RSt K g H s σ) (rh : RH K g H) (h : dOp rd ra rb s g.h q x) (ql : QL K g H q Q) (xl : XL K g H x W) :
    tOp r (liftE K W ra) (liftE K W rb) σ H Q := by
  refine ⟨s, g, _, x, rs, rh, h, fun d v g1 H1 x1 rh1 dv h1 => ?_, xl⟩
  refine ⟨s, g1, _, x, rs.ext x1, rh1, h1, fun e u g2 H2 x2 rh2 du h2 => ?_, xl.ext x1⟩
  exact hl d e v u g2 H2 q Q rh2 (dv.ext x2) du h2 (ql.ext (x1.trans x2))
theorem de_op {op : Operator} {r : R2} {rd : R2d} (ho : OpR X (binaryOp op) r) (hl : OpL X.K rd r) (ha : DE X W a ta) (hb : DE X W b tb) : DE X W (.BinOp a op b pos) (dOp rd ta tb) :=
  PE_mono (pe_op ho ha hb) fun σ H Q ⟨s, g, q, x, rs, rh, h, ql, xl⟩ => two hl rs rh h ql xl
theorem de_cmp {op : CmpOp} {r : R2} {rd : R2d} (ho : OpR X (compareOp op) r) (hl : OpL X.K rd r) (ha : DE X W a ta) (hb : DE X W b tb) (hm : behindInMarks op b = false) : DE X W (.Compare a [op] [b] pos) (dOp rd ta tb) :=
  PE_mono (pe_cmpR ho ha hb hm) fun σ H Q ⟨s, g, q, x, rs, rh, h, ql, xl⟩ => two hl rs rh h ql xl
/-- a reading as a test: the value is a bool -/
def asB (Q : Bool → Hd → Prop) : Qd := fun d g => match d with
  | .bl b => Q b g
  | _ => False
def dTest (t : TEd) : TTd := fun s g q x => t s g (asB q) x
theorem asB_ok {K : Frag} {g : Gh} {H : Hp} {q : Bool → Hd → Prop} {Q : Bool → Hp → Prop} (bl : BL K g H q Q) : QL K g H (asB q) (fun x H' => ∃ k, x = .bl k ∧ Q k H') := fun d v g' H' x rh dv h => by
  cases d with
  | bl b => exact ⟨b, dv, bl b g' H' x rh h⟩
  | _ => exact False.elim h
theorem dt_cmp {op : CmpOp} {r : R2} {rd : R2d} (ho : OpR X (compareOp op) r) (hl : OpL X.K rd r) (ha : DE X W a ta) (hb : DE X W b tb) (hm : behindInMarks op b = false) : DT X W (.Compare a [op] [b] pos) (dTest (dOp rd ta tb)) :=
  PT_mono (pt_cmpR ho ha hb hm) fun σ H Q ⟨s, g, q, x, rs, rh, h, ql, xl⟩ => two hl rs rh h (asB_ok ql) xl
theorem dt_val {e : Expr} {t : TEd} (h : DE X W e t) (he : ∀ whole, isTrue e X.env whole = (do let v ← whole; standAt e.pos; holding [v] (truthy v)) := by intro _; rfl) : DT X W e (dTest t) :=
  PT_mono (pt_val h he) fun σ H Q ⟨s, g, q, x, rs, rh, h, ql, xl⟩ => ⟨s, g, _, x, rs, rh, h, asB_ok ql, xl⟩
/-- a op b op' c -/
def dChain (r r' : R2d) (ta tb tc : TEd) : TEd := fun s g q x => ta s g (fun d g1 => tb s g1 (fun e g2 => r d e g2 (asB fun k g3 => cond k (tc s g3 (fun f g4 => r' e f g4 q) x) (q (.bl false) g3))) x) x
theorem chain_ok {K : Frag} {ra rb rc : TEd} {rd rd' : R2d} {r r' : R2} (hl : OpL K rd r) (hl' : OpL K rd' r') {σ : St} {H : Hp} {Q : VK} {s : Sd} {g : Gh} {q : Qd} {x : Xd} (rs : RSt K g H s σ) (rh : RH K g H) (h : dChain rd rd' ra rb rc s g.h q x) (ql : QL K g H q Q) (xl : XL K g H x W) :
    tChain r r' (liftE K W ra) (liftE K W rb) (liftE K W rc) σ H Q := by
  refine ⟨s, g, _, x, rs, rh, h, fun d v g1 H1 x1 rh1 dv h1 => ?_, xl⟩
  refine ⟨s, g1, _, x, rs.ext x1, rh1, h1, fun e u g2 H2 x2 rh2 du h2 => ?_, xl.ext x1⟩
  refine hl d e v u g2 H2 _ _ rh2 (dv.ext x2) du h2 fun d3 v3 g3 H3 x3 rh3 dv3 h3 => ?_
  cases d3 with
  | bl k =>
    refine ⟨k, dv3, ?_⟩
    have x13 := (x1.trans x2).trans x3
    cases k with
    | true =>
      rw [if_pos rfl]
      have h3' : rc s g3.h (fun f g4 => rd' e f g4 q) x := h3
      exact ⟨s, g3, _, x, rs.ext x13, rh3, h3', fun f w' g4 H4 x4 rh4 df h4 => hl' e f u w' g4 H4 q Q rh4 ((du.ext x3).ext x4) df h4 (ql.ext (x13.trans x4)), xl.ext x13⟩
    | false =>
      rw [if_neg Bool.false_ne_true]
      have h3' : q (.bl false) g3.h := h3
      exact ql (.bl false) (.bl false) g3 H3 x13 rh3 rfl h3'
  | _ => exact False.elim h3
theorem de_chain {op op' : CmpOp} {r r' : R2} {rd rd' : R2d} (ho : OpR X (compareOp op) r) (hl : OpL X.K rd r) (ho' : OpR X (compareOp op') r') (hl' : OpL X.K rd' r') (ha : DE X W a ta) (hb : DE X W b tb) (hc : DE X W c tc)
    (hm : lastMarks [op, op'] [b, c] = false := by with_unfolding_all rfl) : DE X W (.Compare a [op, op'] [b, c] pos) (dChain rd rd' ta tb tc) :=
  PE_mono (pe_chain ho ho' ha hb hc hm) fun σ H Q ⟨s, g, q, x, rs, rh, h, ql, xl⟩ => chain_ok hl hl' rs rh h ql xl
theorem dt_chain {op op' : CmpOp} {r r' : R2} {rd rd' : R2d} (ho : OpR X (compareOp op) r) (hl : OpL X.K rd r) (ho' : OpR X (compareOp op') r') (hl' : OpL X.K rd' r') (ha : DE X W a ta) (hb : DE X W b tb) (hc : DE X W c tc)
    (hm : lastMarks [op, op'] [b, c] = false := by with_unfolding_all rfl) : DT X W (.Compare a [op, op'] [b, c] pos) (dTest (dChain rd rd' ta tb tc)) :=
  PT_mono (pt_chain ho ho' ha hb hc hm) fun σ H Q ⟨s, g, q, x, rs, rh, h, ql, xl⟩ => chain_ok hl hl' rs rh h (asB_ok ql) xl
/-! ### and, or, not, if -/
variable {tA tB : TTd} {rest : List Expr}
def dAnd (t u : TTd) : TTd := fun s g q x => t s g (fun c g1 => cond c (u s g1 q x) (q false g1)) x
def dOr (t u : TTd) : TTd := fun s g q x => t s g (fun c g1 => cond c (q true g1) (u s g1 q x)) x
def dNot (t : TTd) : TTd := fun s g q x => t s g (fun c g1 => q (!c) g1) x
theorem dw_and1 (ha : DT X W a tA) : DW X W (.BoolOp .And [a] pos) tA := pw_and1 ha
theorem dw_or1 (ha : DT X W a tA) : DW X W (.BoolOp .Or [a] pos) tA := pw_or1 ha
theorem dw_and (ha : DT X W a tA) (hb : DW X W (.BoolOp .And (b :: rest) pos) tB) : DW X W (.BoolOp .And (a :: b :: rest) pos) (dAnd tA tB) :=
  PW_mono (pw_and ha hb) fun σ H Q ⟨s, g, q, x, rs, rh, h, ql, xl⟩ => ⟨s, g, _, x, rs, rh, h, fun c g1 H1 x1 rh1 h1 => by
    cases c with
    | true =>
      rw [if_pos rfl]
      exact ⟨s, g1, q, x, rs.ext x1, rh1, h1, ql.ext x1, xl.ext x1⟩
    | false =>
      rw [if_neg Bool.false_ne_true]
      exact ql false g1 H1 x1 rh1 h1, xl⟩
theorem dw_or (ha : DT X W a tA) (hb : DW X W (.BoolOp .Or (b :: rest) pos) tB) : DW X W (.BoolOp .Or (a :: b :: rest) pos) (dOr tA tB) :=
  PW_mono (pw_or ha hb) fun σ H Q ⟨s, g, q, x, rs, rh, h, ql, xl⟩ => ⟨s, g, _, x, rs, rh, h, fun c g1 H1 x1 rh1 h1 => by
    cases c with
    | false =>
      rw [if_neg Bool.false_ne_true]
      exact ⟨s, g1, q, x, rs.ext x1, rh1, h1, ql.ext x1, xl.ext x1⟩
    | true =>
      rw [if_pos rfl]
      exact ql true g1 H1 x1 rh1 h1, xl⟩
theorem dt_w {e : Expr} (h : DW X W e tA) : DT X W e tA := PW.pt h
theorem dt_not (ha : DT X W a tA) : DT X W (.UnaryOp .Not a pos) (dNot tA) :=
  PT_mono (pt_not ha) fun σ H Q ⟨s, g, q, x, rs, rh, h, ql, xl⟩ => ⟨s, g, _, x, rs, rh, h, fun c g1 H1 x1 rh1 h1 => ql (!c) g1 H1 x1 rh1 h1, xl⟩
/-- .. as values (bools) -/
def dAndV (ta tb : TEd) : TEd := fun s g q x => ta s g (asB fun c g1 => cond c (tb s g1 q x) (q (.bl false) g1)) x
def dOrV (ta tb : TEd) : TEd := fun s g q x => ta s g (asB fun c g1 => cond c (q (.bl true) g1) (tb s g1 q x)) x
def dNotV (ta : TEd) : TEd := fun s g q x => ta s g (asB fun c g1 => q (.bl (!c)) g1) x
theorem de_one {op} (h : DE X W a ta) : DE X W (.BoolOp op [a] pos) ta := pe_one h
theorem de_and (ha : DE X W a ta) (hb : DE X W (.BoolOp .And (b :: rest) pos) tb) : DE X W (.BoolOp .And (a :: b :: rest) pos) (dAndV ta tb) :=
  PE_mono (pe_and ha hb) fun σ H Q ⟨s, g, q, x, rs, rh, h, ql, xl⟩ => ⟨s, g, _, x, rs, rh, h, fun d v g1 H1 x1 rh1 dv h1 => by
    cases d with
    | bl c =>
      refine ⟨c, dv, ?_⟩
      cases c with
      | true =>
        rw [if_pos rfl]
        exact ⟨s, g1, q, x, rs.ext x1, rh1, h1, ql.ext x1, xl.ext x1⟩
      | false =>
        rw [if_neg Bool.false_ne_true]
        exact ql (.bl false) (.bl false) g1 H1 x1 rh1 rfl h1
    | _ => exact False.elim h1, xl⟩
theorem de_or (ha : DE X W a ta) (hb : DE X W (.BoolOp .Or (b :: rest) pos) tb) : DE X W (.BoolOp .Or (a :: b :: rest) pos) (dOrV ta tb) :=
  PE_mono (pe_or ha hb) fun σ H Q ⟨s, g, q, x, rs, rh, h, ql, xl⟩ => ⟨s, g, _, x, rs, rh, h, fun d v g1 H1 x1 rh1 dv h1 => by
    cases d with
    | bl c =>
      refine ⟨c, dv, ?_⟩
      cases c with
      | false =>
        rw [if_neg Bool.false_ne_true]
        exact ⟨s, g1, q, x, rs.ext x1, rh1, h1, ql.ext x1, xl.ext x1⟩
      | true =>
        rw [if_pos rfl]
        exact ql (.bl true) (.bl true) g1 H1 x1 rh1 rfl h1
    | _ => exact False.elim h1, xl⟩
theorem de_not (ha : DE X W a ta) : DE X W (.UnaryOp .Not a pos) (dNotV ta) :=
  PE_mono (pe_not ha) fun σ H Q ⟨s, g, q, x, rs, rh, h, ql, xl⟩ => ⟨s, g, _, x, rs, rh, h, fun d v g1 H1 x1 rh1 dv h1 => by
    cases d with
    | bl c => exact ⟨c, dv, ql (.bl (!c)) (.bl (!c)) g1 H1 x1 rh1 rfl h1⟩
    | _ => exact False.elim h1, xl⟩
def dIf (t : TTd) (ta tb : TEd) : TEd := fun s g q x => t s g (fun c g1 => cond c (ta s g1 q x) (tb s g1 q x)) x
theorem de_if {c : Expr} (hc : DT X W c tA) (ha : DE X W a ta) (hb : DE X W b tb) : DE X W (.IfExp c a b pos) (dIf tA ta tb) :=
  PE_mono (pe_ifExp hc ha hb) fun σ H Q ⟨s, g, q, x, rs, rh, h, ql, xl⟩ => ⟨s, g, _, x, rs, rh, h, fun c g1 H1 x1 rh1 h1 => by
    cases c with
    | true =>
      rw [if_pos rfl]
      exact ⟨s, g1, q, x, rs.ext x1, rh1, h1, ql.ext x1, xl.ext x1⟩
    | false =>
      rw [if_neg Bool.false_ne_true]
      exact ⟨s, g1, q, x, rs.ext x1, rh1, h1, ql.ext x1, xl.ext x1⟩, xl⟩
/-! ### argument lists -/
def dNil : TAd := fun _ g q _ => q [] g
def dCons (ta : TEd) (tr : TAd) : TAd := fun s g q x => ta s g (fun d g1 => tr s g1 (fun ds g2 => q (d :: ds) g2) x) x
theorem da_nil : DAr X W [] dNil := PA_mono pa_nil fun σ H Q ⟨s, g, q, x, rs, rh, h, ql, xl⟩ => ql [] [] g H Ext.refl rh rfl h
theorem da_cons {e : Expr} {es : List Expr} {te : TEd} {t : TAd} (ha : DE X W e te) (hr : DAr X W es t) (hs : starEach (e :: es) X.env = (false, eval e X.env) :: starEach es X.env := by rfl) : DAr X W (e :: es) (dCons te t) :=
  PA_mono (pa_cons ha hr hs) fun σ H Q ⟨s, g, q, x, rs, rh, h, ql, xl⟩ => ⟨s, g, _, x, rs, rh, h, fun d v g1 H1 x1 rh1 dv h1 =>
    ⟨s, g1, _, x, rs.ext x1, rh1, h1, fun ds vs g2 H2 x2 rh2 dvs h2 => ql (d :: ds) (v :: vs) g2 H2 (x1.trans x2) rh2 ⟨v, vs, rfl, dv.ext x2, dvs⟩ h2, xl.ext x1⟩, xl⟩
/-! ### displays -/
def dTup (t : TAd) : TEd := fun s g q x => t s g (fun ds g1 => ds.length ≤ sizeLine ∧ q (.tup ds) g1) x
def dLst (t : TAd) : TEd := fun s g q x => t s g (fun ds g1 => ds.length ≤ sizeLine ∧ ∀ p, g1 p = none → q (.ref p) (updD g1 p (.lst ds))) x
theorem new_tup {K : Frag} {g : Gh} {H : Hp} {q : Qd} {Q : VK} {ds : List D} {vs : List V} (ql : QL K g H q Q) (rh : RH K g H) (dv : DVs K g H ds vs) (h : q (.tup ds) g.h) : ∀ p, H p = none → Q (.ref p) (upd H p (.tup vs)) := fun p hp =>
  ql (.tup ds) (.ref p) g _ (Ext.new0 hp) (rh.new0 hp) ⟨p, vs, rfl, .inl upd_same, dv.ext (Ext.new0 hp)⟩ h
theorem new_lst {K : Frag} {g : Gh} {H : Hp} {q : Qd} {Q : VK} {ds : List D} {vs : List V} (ql : QL K g H q Q) (rh : RH K g H) (dv : DVs K g H ds vs) (h : ∀ p, g.h p = none → q (.ref p) (updD g.h p (.lst ds))) : ∀ p, H p = none → Q (.ref p) (upd H p (.lst vs)) := fun p hp =>
  ql (.ref p) (.ref p) (g.upd p (.lst ds)) _ (Ext.new hp) (rh.new hp ⟨vs, upd_same, dv.ext (Ext.new hp)⟩) rfl (h p (rh.fresh hp))
theorem de_tup {es : List Expr} {x1} {t : TAd} (h : DAr X W es t) : DE X W (.Tuple es x1 pos) (dTup t) :=
  PE_mono (pe_tup h) fun σ H Q ⟨s, g, q, x, rs, rh, h, ql, xl⟩ => ⟨s, g, _, x, rs, rh, h, fun ds vs g1 H1 x1 rh1 dv ⟨hz, h1⟩ => ⟨by rw [dv.length]; exact hz, new_tup (ql.ext x1) rh1 dv h1⟩, xl⟩
theorem de_lst {es : List Expr} {t : TAd} (h : DAr X W es t) : DE X W (.List es pos) (dLst t) :=
  PE_mono (pe_lst h) fun σ H Q ⟨s, g, q, x, rs, rh, h, ql, xl⟩ => ⟨s, g, _, x, rs, rh, h, fun ds vs g1 H1 x1 rh1 dv ⟨hz, h1⟩ => ⟨by rw [dv.length]; exact hz, new_lst (ql.ext x1) rh1 dv h1⟩, xl⟩
/-! ### statements -/
variable {st : Stmt} {sts : List Stmt} {t u : TSd} {e : Expr} {te : TEd}
def dNext : TSd := fun D s g => D.nx s g
def dSeq (t u : TSd) : TSd := fun D s g => t { D with nx := u D } s g
theorem dss_nil : DSs X W [] dNext := PSs_mono pss_nil fun D σ H ⟨s, g, d, rs, rh, h, n, b, c, r, x⟩ => n s σ g H Ext.refl rh rs h
theorem dss_cons (h1 : DS X W st t) (h2 : DSs X W sts u) : DSs X W (st :: sts) (dSeq t u) :=
  PSs_mono (pss_cons h1 h2) fun D σ H ⟨s, g, d, rs, rh, h, n, b, c, r, x⟩ => ⟨s, g, _, rs, rh, h, fun s1 σ1 g1 H1 x1 rh1 rs1 hh => ⟨s1, g1, d, rs1, rh1, hh, n.ext x1, b.ext x1, c.ext x1, r.ext x1, x.ext x1⟩, b, c, r, x⟩
theorem dss_one (h1 : DS X W st t) : DSs X W [st] t := pss_one h1
def dBreak : TSd := fun D s g => D.bk s g
def dCont : TSd := fun D s g => D.ct s g
theorem ds_pass : DS X W (.Pass pos) dNext := PS_mono ps_pass fun D σ H ⟨s, g, d, rs, rh, h, n, b, c, r, x⟩ => n s σ g H Ext.refl rh rs h
theorem ds_break : DS X W (.Break pos) dBreak := PS_mono ps_break fun D σ H ⟨s, g, d, rs, rh, h, n, b, c, r, x⟩ => b s σ g H Ext.refl rh rs h
theorem ds_continue : DS X W (.Continue pos) dCont := PS_mono ps_continue fun D σ H ⟨s, g, d, rs, rh, h, n, b, c, r, x⟩ => c s σ g H Ext.refl rh rs h
def dDrop (te : TEd) : TSd := fun D s g => te s g (fun _ g1 => D.nx s g1) D.ex
theorem ds_expr (he : DE X W e te) (hs : swapsWith e none pos.line X.env = pure false := by rfl) : DS X W (.Expr e pos) (dDrop te) :=
  PS_mono (ps_expr he hs) fun D σ H ⟨s, g, d, rs, rh, h, n, b, c, r, x⟩ => ⟨s, g, _, _, rs, rh, h, fun _ v g1 H1 x1 rh1 _ hh => n s σ g1 H1 x1 rh1 (rs.ext x1) hh, x⟩
def dRet (te : TEd) : TSd := fun D s g => te s g D.rt D.ex
theorem ds_ret (he : DE X W e te) : DS X W (.Return (some e) pos) (dRet te) :=
  PS_mono (ps_ret he) fun D σ H ⟨s, g, d, rs, rh, h, n, b, c, r, x⟩ => ⟨s, g, _, _, rs, rh, h, r, x⟩
def dRetN : TSd := fun D _ g => D.rt .non g
theorem ds_retN : DS X W (.Return none pos) dRetN := PS_mono ps_retN fun D σ H ⟨s, g, d, rs, rh, h, n, b, c, r, x⟩ => r .non .non g H Ext.refl rh rfl h
def dIfS (c : TTd) (t u : TSd) : TSd := fun D s g => c s g (fun b g1 => cond b (t D s g1) (u D s g1)) D.ex
theorem ds_if {c : Expr} {a b : List Stmt} {tc : TTd} (hc : DT X W c tc) (ha : DSs X W a t) (hb : DSs X W b u) : DS X W (.If c a b pos) (dIfS tc t u) :=
  PS_mono (ps_if hc ha hb) fun D σ H ⟨s, g, d, rs, rh, h, n, b, c, r, x⟩ => ⟨s, g, _, _, rs, rh, h, fun k g1 H1 x1 rh1 hh => by
    cases k with
    | true =>
      rw [if_pos rfl]
      exact ⟨s, g1, d, rs.ext x1, rh1, hh, n.ext x1, b.ext x1, c.ext x1, r.ext x1, x.ext x1⟩
    | false =>
      rw [if_neg Bool.false_ne_true]
      exact ⟨s, g1, d, rs.ext x1, rh1, hh, n.ext x1, b.ext x1, c.ext x1, r.ext x1, x.ext x1⟩, x⟩
/-! ### targets -/
abbrev TGd := D → Sd → Hd → (Sd → Hd → Prop) → Xd → Prop
abbrev TGsd := List D → Sd → Hd → (Sd → Hd → Prop) → Xd → Prop
def liftG (K : Frag) (W : WX) (t : TGd) : TG := fun v σ H Q => ∃ d s, ∃ g : Gh, ∃ q x, DV K g H d v ∧ RSt K g H s σ ∧ RH K g H ∧ t d s g.h q x ∧ SL K g H q Q ∧ XL K g H x W
def liftGs (K : Frag) (W : WX) (t : TGsd) : TGs := fun v σ H Q => ∃ d s, ∃ g : Gh, ∃ q x, DVs K g H d v ∧ RSt K g H s σ ∧ RH K g H ∧ t d s g.h q x ∧ SL K g H q Q ∧ XL K g H x W
abbrev DG (X : Cx) (W : WX) (e : Expr) (t : TGd) : Prop := PG X e (liftG X.K W t)
abbrev DGs (X : Cx) (W : WX) (e : List Expr) (t : TGsd) : Prop := PGs X e (liftGs X.K W t)
theorem PG_mono {e : Expr} {t t' : TG} (h : PG X e t) (m : ∀ v σ H Q, t' v σ H Q → t v σ H Q) : PG X e t' := ⟨fun pins s σ H v u Q I r q => h.run pins s σ H v u Q I r (m v σ H Q q)⟩
theorem PGs_mono {e : List Expr} {t t' : TGs} (h : PGs X e t) (m : ∀ v σ H Q, t' v σ H Q → t v σ H Q) : PGs X e t' := ⟨fun pins s σ H v u Q I r q => h.run pins s σ H v u Q I r (m v σ H Q q)⟩
def kName (i : Nat) : TGd := fun d s g q _ => q (s.set i (some d)) g
theorem dg_name (i : Nat) {x : Str} (hN : X.N.Nodup) (hi : X.N[i]? = some x := by rfl) (hx : Loc X.env.scope x := by first | exact Or.inl rfl | exact Or.inr rfl) (hf : X.fn x = true ∨ X.env.scope.names.lookup x = some .local := by first | exact .inl rfl | exact .inr rfl | assumption) : DG X W (.Name x pos) (kName i) :=
  PG_mono (pg_name hN hi hx hf) fun v σ H Q ⟨d, s, g, q, x, dv, rs, rh, h, ql, xl⟩ => ql _ _ g H Ext.refl rh (rs.set i dv) h
def kNil : TGsd := fun ds s g q _ => match ds with
  | [] => q s g
  | _ => False
def kCons (t : TGd) (u : TGsd) : TGsd := fun ds s g q x => match ds with
  | d :: r => t d s g (fun s1 g1 => u r s1 g1 q x) x
  | _ => False
theorem dgs_nil : DGs X W [] kNil := PGs_mono pgs_nil fun v σ H Q ⟨d, s, g, q, x, dv, rs, rh, h, ql, xl⟩ => by
  cases d with
  | nil => exact ⟨dv, ql s σ g H Ext.refl rh rs h⟩
  | cons _ _ => exact False.elim h
theorem dgs_cons {es : List Expr} {t : TGd} {u : TGsd} (h1 : DG X W e t) (h2 : DGs X W es u) (hs : (assignEach (e :: es) X.env).map (·.2) = assign e X.env :: (assignEach es X.env).map (·.2) := by rfl) : DGs X W (e :: es) (kCons t u) :=
  PGs_mono (pgs_cons h1 h2 hs) fun v σ H Q ⟨d, s, g, q, x, dv, rs, rh, h, ql, xl⟩ => by
    cases d with
    | nil => exact False.elim h
    | cons d r =>
      obtain ⟨v1, r1, e1, dv1, dvr⟩ := dv
      exact ⟨v1, r1, e1, d, s, g, _, x, dv1, rs, rh, h, fun s1 σ1 g1 H1 x1 rh1 rs1 hh => ⟨r, s1, g1, q, x, dvr.ext x1, rs1, rh1, hh, ql.ext x1, xl.ext x1⟩, xl⟩
def kTup (n : Nat) (t : TGsd) : TGd := fun d s g q x => match d with
  | .tup ds => ds.length = n ∧ t ds s g q x
  | _ => False
theorem dg_tup {es : List Expr} {k : Nat} {t : TGsd} {n : Nat} (hc : X.calm = true) (h : DGs X W es t) (hn : (assignEach es X.env).length = n := by rfl) (hst : (assignEach es X.env).findIdx? (·.1) = none := by rfl) : DG X W (.Tuple es k pos) (kTup n t) :=
  PG_mono (pg_tup hc h hn hst) fun v σ H Q ⟨d, s, g, q, x, dv, rs, rh, h, ql, xl⟩ => by
    cases d with
    | tup ds =>
      obtain ⟨p, vs, e1, tp, r⟩ := dv
      obtain ⟨h1, h2⟩ := h
      exact ⟨p, vs, e1, tp.sq, by rw [r.length]; exact h1, ds, s, g, q, x, r, rs, rh, h2, ql, xl⟩
    | _ => exact False.elim h
def dAsg (te : TEd) (t : TGd) : TSd := fun D s g => te s g (fun d g1 => t d s g1 D.nx D.ex) D.ex
theorem ds_asg {tg e : Expr} {te : TEd} {t : TGd} (he : DE X W e te) (hg : DG X W tg t) (hs : swapsWithSole [tg] e pos.line X.env = pure false := by rfl) (hw : swappedStores [tg] e X.env = pure none := by rfl)
    (h1 : (assignEach [tg] X.env).map (·.2) = [assign tg X.env] := by rfl) : DS X W (.Assign [tg] e pos) (dAsg te t) :=
  PS_mono (ps_asg he hg hs hw h1) fun D σ H ⟨s, g, d, rs, rh, h, n, b, c, r, x⟩ => ⟨s, g, _, _, rs, rh, h, fun dd v g1 H1 x1 rh1 dv hh => ⟨dd, s, g1, _, _, dv, rs.ext x1, rh1, hh, n.ext x1, x.ext x1⟩, x⟩
theorem ds_set (i : Nat) {x : Str} {e : Expr} {te : TEd} {pos' : Pos} (hN : X.N.Nodup) (he : DE X W e te) (hi : X.N[i]? = some x := by rfl) (hx : Loc X.env.scope x := by first | exact Or.inl rfl | exact Or.inr rfl) (hs : swapsWith e (some (.Name x pos')) pos.line X.env = pure false := by rfl) (hf : X.fn x = true ∨ X.env.scope.names.lookup x = some .local := by first | exact .inl rfl | exact .inr rfl | assumption) :
    DS X W (.Assign [.Name x pos'] e pos) (dAsg te (kName i)) :=
  PS_mono (ps_set hN hi hx he hs hf) fun D σ H ⟨s, g, d, rs, rh, h, n, b, c, r, x⟩ => ⟨s, g, _, _, rs, rh, h, fun dd v g1 H1 x1 rh1 dv hh => n _ _ g1 H1 x1 rh1 ((rs.ext x1).set i dv) hh, x⟩
end
end DL

/-! DC: defs, calls, raise, loops. -/
namespace DL
open PySem PySem.Spec PyProof.Rows L2
abbrev Ed := Addr → List (Str × D) → Hd → Prop
abbrev Spd := List D → Hd → Qd → Ed → Prop
def EL (K : Frag) (g : Gh) (H : Hp) (x : Ed) (E : XK) : Prop := ∀ C fs cls dd (g' : Gh) H', Ext K g H g' H' → RH K g' H' → ExR K g' H' cls dd C fs → x C fs g'.h → E cls dd H'
def liftSp (K : Frag) (sp : Spd) : Sp := fun vs H Q E => ∃ ds, ∃ g : Gh, ∃ q x, DVs K g H ds vs ∧ RH K g H ∧ sp ds g.h q x ∧ QL K g H q Q ∧ EL K g H x E
abbrev FnD (P : Program) (w : World) (K : Frag) (mg : Str → Option Value) (base : Heap) (k : Nat) (f : Addr) (fd : FuncData) (ps : List Str) (sp : Spd) : Prop := FnOk P w K mg base (L2.CX P w) k f fd ps (liftSp K sp)
def startD (N : List Str) (ds : List D) : Sd := ds.map some ++ List.replicate (N.length - ds.length) none
theorem rst_none {K : Frag} {g : Gh} {H : Hp} : ∀ n : Nat, RSt K g H (List.replicate n none) (List.replicate n none)
  | 0 => rfl
  | n + 1 => ⟨none, List.replicate n none, rfl, rst_none n⟩
theorem rst_start {K : Frag} {g : Gh} {H : Hp} {N : List Str} : ∀ {ds : List D} {vs : List V} (n : Nat), DVs K g H ds vs → RSt K g H (ds.map some ++ List.replicate n none) (vs.map some ++ List.replicate n none)
  | [], _, n, h => by
    rw [show _ = [] from h]
    exact rst_none n
  | d :: ds, vs, n, h => by
    obtain ⟨v, r, e, h1, h2⟩ := h
    rw [e]
    exact ⟨v, _, rfl, h1, rst_start (N := N) n h2⟩
abbrev dnOf (q : Qd) (x : Ed) : Dn := ⟨fun _ g => q .non g, q, fun _ _ => False, fun _ _ => False, fun C fs _ g => x C fs g⟩
/-- the context of a def's body -/
abbrev bodyX (P : Program) (w : World) (K : Frag) (mg : Str → Option Value) (base : Heap) (N : List Str) (qual : Str) (scope : Scope) (f : Addr) (cdv : Value) (A : Around) (outer : List Env) (s : Shared) (H : Hp) (E : XK) : Cx :=
  cxOf (L2.CX P w) P w K mg base N qual scope f cdv A outer s H E
abbrev bodyW (E : XK) : WX := fun cls d _ H => E cls d H
section
variable {P : Program} {w : World} {K : Frag} {mg : Str → Option Value} {base : Heap} {x qual : Str} {params : Arguments} {body : List Stmt} {scope : Scope} {dvs : List V} {kws : List (Str × V)} {f : Addr} {fd : FuncData}
theorem okD {N ps : List Str} {k : Nat} {sp : Spd} {t : TSd} (F : FunD K x qual params body scope dvs kws f fd) (S : FnScope N ps scope) (len : ∀ ds g q x, sp ds g q x → ds.length = ps.length)
    (der : ∀ (cdv : Value) (A : Around) (outer : List Env) (s : Shared) (H : Hp) (E : XK), Room k (A.deeper (envOfC qual scope s.heap.objs.size f cdv)) → Takes (bodyX P w K mg base N qual scope f cdv A outer s H E) (bodyW E) →
      PassesOwn (model P w) (A.deeper (envOfC qual scope s.heap.objs.size f cdv)) (envOfC qual scope s.heap.objs.size f cdv) (bodyX P w K mg base N qual scope f cdv A outer s H E).xe → DSs (bodyX P w K mg base N qual scope f cdv A outer s H E) (bodyW E) body t)
    (pure : ∀ ds g q x, sp ds g q x → t (dnOf q x) (startD N ds) g) : FnD P w K mg base (k + 1) f fd ps sp := by
  refine F.ok S (fun vs H Q E ⟨ds, g, q, x, dv, _, h, _⟩ => ?_) fun cdv A outer s H vs Q E hr ⟨ds, g, q, x, dv, rh, h, ql, el⟩ => ?_
  · rw [dv.length]
    exact len ds g.h q x h
  · refine ⟨_, der cdv A outer s H E hr (takes_of rfl rfl rfl rfl) (passes_of rfl), ?_⟩
    refine ⟨startD N ds, g, dnOf q x, ?_, rh, pure ds g.h q x h, fun s1 σ1 g1 H1 x1 rh1 _ hh => ql .non .non g1 H1 x1 rh1 rfl hh, fun _ _ _ _ _ _ _ hh => hh.elim, fun _ _ _ _ _ _ _ hh => hh.elim, ql, fun C fs cls dd s1 σ1 g1 H1 x1 rh1 _ er hh => el C fs cls dd g1 H1 x1 rh1 er hh⟩
    unfold startD L2.start
    rw [dv.length]
    exact rst_start (N := N) _ dv
end
/-- a def that is called by its name; dds: the defaults that fill up -/
structure Cal (P : Program) (w : World) (K : Frag) (mg : Str → Option Value) (base : Heap) (x : Str) (k : Nat) (ps : List Str) (sp : Spd) (dds : List D := []) : Prop where
  ex : ∃ f fd ds dvs, mg x = some (.ref f) ∧ PySem.W.keepIn K (.ref f) = true ∧ Binds K fd ps ds ∧ Vals dvs ds ∧ (∀ (g : Gh) H, DVs K g H dds dvs) ∧ FnD P w K mg base k f fd ps sp
section
variable {X : Cx} {W : WX} {k : Nat} {ps : List Str} {sp : Spd} {dds : List D} {x : Str} {p pos : Pos} {e : Expr} {es : List Expr} {t : TAd}
def dCall (sp : Spd) (dds : List D) (t : TAd) : TEd := fun s g q x => t s g (fun ds g1 => sp (ds ++ dds) g1 q fun C fs g2 => x C fs s g2) x
theorem call_ok {K : Frag} {W : WX} {dvs : List V} (hd : ∀ (g : Gh) H, DVs K g H dds dvs) {σ : St} {H : Hp} {Q : VK} : liftE K W (dCall sp dds t) σ H Q → tCallSD (liftSp K sp) dvs (WE W) (liftA K W t) σ H Q := fun ⟨s, g, q, x, rs, rh, h, ql, xl⟩ =>
  ⟨s, g, _, x, rs, rh, h, fun ds vs g1 H1 x1 rh1 dv h1 => ⟨ds ++ dds, g1, q, _, dv.append (hd g1 H1), rh1, h1, ql.ext x1, fun C fs cls dd g2 H2 x2 rh2 er hh => xl C fs cls dd s σ g2 H2 (x1.trans x2) rh2 (rs.ext (x1.trans x2)) er hh⟩, xl⟩
theorem de_call (c : Cal X.prog X.w X.K X.mg X.base x k ps sp dds) (hr : Room k X.A) (tk : Takes X W) (ha : DAr X W (e :: es) t) (hg : Gl X x := by rfl) (hdb : (x == ("__debug__" : Str)) = false := by decide) (he : starEach (e :: es) X.env = (false, eval e X.env) :: starEach es X.env := by rfl)
    (hpl : (backTo pos (starEach es X.env)).any (·.1) = false := by rfl) : DE X W (.Call (.Name x p) (e :: es) [] pos) (dCall sp dds t) := by
  obtain ⟨f, fd, ds, dvs, hm, hk, hb, hd, hdd, F⟩ := c.ex
  exact PE_mono (pe_callSD F hr hg hm hk hb hd (fun σ => passAt tk σ) ha hdb he hpl) fun σ H Q h => call_ok hdd h
theorem de_call0 (c : Cal X.prog X.w X.K X.mg X.base x k ps sp dds) (hr : Room k X.A) (tk : Takes X W) (hg : Gl X x := by rfl) (hdb : (x == ("__debug__" : Str)) = false := by decide) : DE X W (.Call (.Name x p) [] [] pos) (dCall sp dds dNil) := by
  obtain ⟨f, fd, ds, dvs, hm, hk, hb, hd, hdd, F⟩ := c.ex
  refine ⟨fun pins s σ H Q I h => ?_⟩
  refine wpAny_Call_Name_kw (ld_glob I hg hm ?_ hdb)
  have h2 := call_ok (t := dNil) (dvs := dvs) hdd h
  obtain ⟨s1, g1, q1, x1, rs, rh, h3, ll, xl⟩ := h2
  exact PySem.W.callWith_K0 I.kIn hk (run_fnSD (us := []) (E := WE W) F hr hb hd (passAt tk σ) I .nil (ll [] [] g1 H Ext.refl rh rfl h3))
end
end DL

/-! DD: raise, loops, comprehensions. -/
namespace DL
open PySem PySem.Spec PyProof.Rows L2
section
variable {K : Frag} {g : Gh} {H H' : Hp}
theorem Ext.same (h : ∀ b o, H b = some o → H' b = some o) : Ext K g H g H' := ⟨fun p vs e => h p _ e, fun p o u e => h p _ e, fun p u e n => ⟨h p _ e, n⟩, fun p u e n => ⟨h p _ e, n, fun z => z⟩, fun p e => by
  cases q : H p with
  | none => rfl
  | some u =>
    rw [h p u q] at e
    cases e⟩
theorem RH.same (R : RH K g H) (h : ∀ b o, H b = some o → H' b = some o) : RH K g H' := ⟨fun a o e => (R.at_ a o e).ext' (Ext.same h).zero fun u q => h a u q, R.apart, fun a z => by
  obtain ⟨u, e⟩ := R.there a z
  exact ⟨u, h a u e⟩⟩
/-- a new settled object at p -/
def Gh.fz (g : Gh) (p : Addr) : Gh := ⟨g.h, fun q => g.F q ∨ q = p⟩
theorem Ext.sameF {p : Addr} (h : ∀ b o, H b = some o → H' b = some o) (n : H p = none) : Ext K g H (g.fz p) H' := ⟨fun p vs e => h p _ e, fun p o u e => h p _ e, fun p u e n => ⟨h p _ e, .inl n⟩, fun q u e n' => ⟨h q _ e, n', fun z => z.elim (fun z => z) fun z => by
    rw [z, n] at e
    cases e⟩, fun p e => by
  cases q : H p with
  | none => rfl
  | some u =>
    rw [h p u q] at e
    cases e⟩
theorem RH.sameF (R : RH K g H) {p : Addr} {u : HO} (h : ∀ b o, H b = some o → H' b = some o) (n : H p = none) (hu : H' p = some u) : RH K (g.fz p) H' := by
  refine ⟨fun a o e => (R.at_ a o e).ext' (Ext.sameF h n).zero fun u q => h a u q, fun a o e z => ?_, fun a z => ?_⟩
  · have e' : g.h a = some o := e
    have z' : g.F a ∨ a = p := z
    rcases z' with z | z
    · exact R.apart a o e' z
    · rw [z, R.fresh n] at e'
      cases e'
  · have z' : g.F a ∨ a = p := z
    rcases z' with z | z
    · obtain ⟨u, e⟩ := R.there a z
      exact ⟨u, h a u e⟩
    · exact ⟨u, by rw [z]; exact hu⟩
/-- a change at a place that is tracked -/
theorem Ext.write (R : RH K g H) {p : Addr} {o : DO} {o' : DO} {u u' : HO} (hg : g.h p = some o) (hp : H p = some u) (h1 : ∀ vs, u ≠ .tup vs) (h2 : ∀ q v, u ≠ .frz q v) : Ext K g H (g.upd p o') (L2.upd H p u') := by
  have ne1 : ∀ q, g.h q = none → q ≠ p := fun q n z => by
    rw [z, hg] at n
    cases n
  have ne2 : ∀ q, g.F q → q ≠ p := fun q n z => by
    rw [z] at n
    exact R.apart p o hg n
  refine ⟨fun q vs e => ?_, fun q o v e => ?_, fun q v e n => ?_, fun q v e n => ?_, fun q e => upd_none' e⟩
  · have z : q ≠ p := fun z => by
      rw [z, hp] at e
      cases e
      exact h1 vs rfl
    rw [upd_ne z]
    exact e
  · have z : q ≠ p := fun z => by
      rw [z, hp] at e
      cases e
      exact h2 o v rfl
    rw [upd_ne z]
    exact e
  · rw [upd_ne (ne2 q n)]
    exact ⟨e, n⟩
  · rw [upd_ne (ne1 q n)]
    exact ⟨e, (updD_ne (ne1 q n)).trans n, fun z => z⟩
theorem RH.write (R : RH K g H) {p : Addr} {o o' : DO} {u' : HO} (hg : g.h p = some o) (x : Ext K g H (g.upd p o') (L2.upd H p u')) (q : DOk K (g.upd p o') (L2.upd H p u') p o') : RH K (g.upd p o') (L2.upd H p u') :=
  ⟨fun a v e => by
    by_cases z : a = p
    · subst z
      rw [show (g.upd a o').h a = some o' from updD_same] at e
      cases e
      exact q
    · rw [show (g.upd p o').h a = g.h a from updD_ne z] at e
      exact (R.at_ a v e).ext' x.zero fun _ e2 => by rw [upd_ne z]; exact e2,
   fun a v e => by
    by_cases z : a = p
    · rw [z]
      exact R.apart p o hg
    · rw [show (g.upd p o').h a = g.h a from updD_ne z] at e
      exact R.apart a v e,
   fun a z => by
    obtain ⟨u, e⟩ := R.there a z
    by_cases y : a = p
    · exact ⟨u', by rw [y, upd_same]⟩
    · exact ⟨u, by rw [upd_ne y]; exact e⟩⟩
end
/-! ### exceptions -/
def oexB (K : Frag) (C : Addr) : Bool := (match K.lookup C with
  | some ⟨.type t, _, .cls cd, sl⟩ => decide (t = "type") && (match cd.mro, sl.toList with
    | .ref C' :: bm, [_, _, _, _, some (.builtin n), _] => decide (C' = C) && (decide (n = "ValueError.__new__") && (!cd.hasDel && (cd.hasDict && PySem.HandSPX.refsVE bm)))
    | _, _ => false)
  | _ => false) && (decide (PySem.W.findIn K (.ref C) "__setattr__" = some (some (.builtin "object.__setattr__"))) && (decide (PySem.W.subIn K (.ref C) (.type "BaseException") = some true) && (decide (PySem.W.typeIn K (.ref C) = some (.type "type")) && PySem.W.keepIn K (.ref C))))
theorem oexB_ok {K : Frag} {C : Addr} (h : oexB K C = true) : OexC K C := by
  unfold oexB at h
  obtain ⟨h1, h⟩ := Bool.and_eq_true_iff.mp h
  obtain ⟨h2, h⟩ := Bool.and_eq_true_iff.mp h
  obtain ⟨h3, h⟩ := Bool.and_eq_true_iff.mp h
  obtain ⟨h4, h5⟩ := Bool.and_eq_true_iff.mp h
  refine ⟨?_, of_decide_eq_true h2, of_decide_eq_true h3, of_decide_eq_true h4, h5⟩
  split at h1
  · rename_i t dd cd sl ho
    obtain ⟨e1, h1⟩ := Bool.and_eq_true_iff.mp h1
    split at h1
    · rename_i C' bm k0 k1 k2 k3 n k5 hm hs
      obtain ⟨e2, h1⟩ := Bool.and_eq_true_iff.mp h1
      obtain ⟨e3, h1⟩ := Bool.and_eq_true_iff.mp h1
      obtain ⟨e4, h1⟩ := Bool.and_eq_true_iff.mp h1
      obtain ⟨e5, e6⟩ := Bool.and_eq_true_iff.mp h1
      have e1 := of_decide_eq_true e1
      have e2 := of_decide_eq_true e2
      have e3 := of_decide_eq_true e3
      subst e1 e2 e3
      obtain ⟨nm, bs, mro, ns, qn, hd, sn, sub, ab, col, del⟩ := cd
      dsimp only at hm e4 e5
      have e4 : del = false := by simpa using e4
      subst hm e4 e5
      have hsl : sl = #[k0, k1, k2, k3, some (.builtin "ValueError.__new__"), k5] := by
        obtain ⟨l⟩ := sl
        simp only at hs
        rw [hs]
      subst hsl
      exact ⟨nm, qn, ns, bs, bm, sn, sub, ab, col, dd, k0, k1, k2, k3, k5, ho, e6⟩
    · cases h1
  · cases h1
def spEx1 (C : Addr) (f : Str) : Sp := fun vs H Q _ => ∃ (a : Addr) (v : V), vs = [.ref a, v] ∧ H a = some (exo a C none) ∧ ∀ dx, H dx = none → dx ≠ a → Q .non (upd (upd H dx (exd dx [(f, v)])) a (exo a C (some dx)))
def spEx2 (C : Addr) (f1 f2 : Str) : Sp := fun vs H Q _ => ∃ (a : Addr) (v1 v2 : V), vs = [.ref a, v1, v2] ∧ H a = some (exo a C none) ∧ ∀ dx, H dx = none → dx ≠ a → Q .non (upd (upd (upd H dx (exd dx [(f1, v1)])) a (exo a C (some dx))) dx (exd dx [(f2, v2), (f1, v1)]))
/-- an exception class of the text with one field -/
structure Exc1 (P : Program) (w : World) (K : Frag) (mg : Str → Option Value) (base : Heap) (x : Str) (C : Addr) (f : Str) : Prop where
  gC : mg x = some (.ref C)
  oex : OexC K C
  ex : ∃ fI fd, PySem.W.findIn K (.ref C) "__init__" = some (some (.ref fI)) ∧ PySem.W.typeIn K (.ref fI) = some (.type "function") ∧ Binds K fd ["self", f] [] ∧ FnOk P w K mg base (L2.CX P w) 1 fI fd ["self", f] (spEx1 C f)
structure Exc2 (P : Program) (w : World) (K : Frag) (mg : Str → Option Value) (base : Heap) (x : Str) (C : Addr) (f1 f2 : Str) : Prop where
  gC : mg x = some (.ref C)
  oex : OexC K C
  ex : ∃ fI fd, PySem.W.findIn K (.ref C) "__init__" = some (some (.ref fI)) ∧ PySem.W.typeIn K (.ref fI) = some (.type "function") ∧ Binds K fd ["self", f1, f2] [] ∧ FnOk P w K mg base (L2.CX P w) 1 fI fd ["self", f1, f2] (spEx2 C f1 f2)
section
variable {P : Program} {w : World} {K : Frag} {mg : Str → Option Value} {base : Heap} {x qual : Str} {params : Arguments} {body : List Stmt} {scope : Scope} {fI C : Addr} {fd : FuncData} {f f1 f2 : Str}
theorem ok_ex1 (F : FunD K x qual params body scope [] [] fI fd) (S : FnScope ["self", f] ["self", f] scope) (T : OexC K C) (hno : PySem.W.findIn K (.ref C) f = some none)
    (der : ∀ cdv A outer s H E, PSs (cxOf (L2.CX P w) P w K mg base ["self", f] qual scope fI cdv A outer s H E) body (tOst K f (tVar 0) (tVar 1))) : FnOk P w K mg base (L2.CX P w) 1 fI fd ["self", f] (spEx1 C f) := by
  refine F.ok S (fun vs H Q E ⟨a, v, e, _⟩ => by rw [e]; rfl) fun cdv A outer s H vs Q E hr ⟨a, v, e, ha, k⟩ => ⟨_, der cdv A outer s H E, ?_⟩
  subst e
  exact ⟨v, rfl, .ref a, rfl, a, C, rfl, T, hno, .inl ⟨ha, fun dx n ne => k dx n ne⟩⟩
theorem ok_ex2 (F : FunD K x qual params body scope [] [] fI fd) (S : FnScope ["self", f1, f2] ["self", f1, f2] scope) (T : OexC K C) (hno1 : PySem.W.findIn K (.ref C) f1 = some none) (hno2 : PySem.W.findIn K (.ref C) f2 = some none)
    (der : ∀ cdv A outer s H E, PSs (cxOf (L2.CX P w) P w K mg base ["self", f1, f2] qual scope fI cdv A outer s H E) body (tSeq (tOst K f1 (tVar 0) (tVar 1)) (tOst K f2 (tVar 0) (tVar 2)))) : FnOk P w K mg base (L2.CX P w) 1 fI fd ["self", f1, f2] (spEx2 C f1 f2) := by
  refine F.ok S (fun vs H Q E ⟨a, v1, v2, e, _⟩ => by rw [e]; rfl) fun cdv A outer s H vs Q E hr ⟨a, v1, v2, e, ha, k⟩ => ⟨_, der cdv A outer s H E, ?_⟩
  subst e
  refine ⟨v1, rfl, .ref a, rfl, a, C, rfl, T, hno1, .inl ⟨ha, fun dx n ne => ?_⟩⟩
  exact ⟨v2, rfl, .ref a, rfl, a, C, rfl, T, hno2, .inr ⟨dx, [(f1, v1)], upd_same, by rw [upd_ne ne, upd_same], by show 1 ≤ 900; decide, k dx n ne⟩⟩
end
section
variable {X : Cx} {W : WX} {C : Addr} {f f1 f2 : Str} {x : Str} {p pos pos2 : Pos} {e e1 e2 : Expr} {t : TAd}
def dRaise1 (C : Addr) (f : Str) (t : TAd) : TSd := fun D s g => t s g (fun ds g1 => match ds with
  | [d] => D.ex C [(f, d)] s g1
  | _ => False) D.ex
def dRaise2 (C : Addr) (f1 f2 : Str) (t : TAd) : TSd := fun D s g => t s g (fun ds g1 => match ds with
  | [d1, d2] => D.ex C [(f2, d2), (f1, d1)] s g1
  | _ => False) D.ex
theorem ds_raise1 (hc : X.calm = true) (tk : Takes X W) (T : Exc1 X.prog X.w X.K X.mg X.base x C f) (hr : Room 2 X.A) (ha : DAr X W [e] t) (hg : Gl X x := by rfl)
    (hdb : (x == ("__debug__" : Str)) = false := by decide) (he : starEach (e :: []) X.env = (false, eval e X.env) :: starEach [] X.env := by rfl) (hpl : (backTo pos (starEach [] X.env)).any (·.1) = false := by rfl) :
    DS X W (.Raise (some (.Call (.Name x p) [e] [] pos)) none pos2) (dRaise1 C f t) := by
  obtain ⟨fI, fd, iC, tI, hb, F⟩ := T.ex
  refine PS_mono (ps_raise hc tk (pmk_oex T.oex iC tI F hr hb .nil passL hg T.gC ha hdb he hpl)) fun D σ H ⟨s, g, d, rs, rh, h, n, b, c, r, xl⟩ => ?_
  refine ⟨s, g, _, d.ex, rs, rh, h, fun ds vs g1 H1 x1 rh1 dv hh => ?_, xl⟩
  match ds, dv, hh with
  | [d0], dv, hh =>
    obtain ⟨v, r0, e0, dv0, er⟩ := dv
    subst e0
    rw [show r0 = [] from er]
    refine ⟨by show 1 ≤ 1000; decide, fun a na => ⟨a, v, rfl, upd_same, fun dx ndx hne => ?_⟩⟩
    have nd : H1 dx = none := by
      rw [upd_ne hne] at ndx
      exact ndx
    refine ⟨rfl, dx, [(f, v)], upd_same, by rw [upd_ne hne, upd_same], nd, ?_⟩
    have sm : ∀ b o, H1 b = some o → upd (del (upd (upd (upd H1 a (exo a C none)) dx (exd dx [(f, v)])) a (exo a C (some dx))) a) dx (.xd [(f, v)]) b = some o := fun b o q => by
      have z1 := ne_of_none q na
      have z2 := ne_of_none q nd
      rw [upd_ne z2, del_ne z1, upd_ne z1, upd_ne z2, upd_ne z1]
      exact q
    have y1 := Ext.sameF (K := X.K) (g := g1) sm nd
    exact xl C [(f, d0)] _ _ s σ (g1.fz dx) _ (x1.trans y1) (rh1.sameF sm nd upd_same) (rs.ext (x1.trans y1)) ⟨rfl, .inr ⟨dx, [(f, v)], rfl, upd_same, .inr rfl, v, [], rfl, dv0.ext y1, rfl⟩⟩ hh
theorem ds_raise2 (hc : X.calm = true) (tk : Takes X W) (T : Exc2 X.prog X.w X.K X.mg X.base x C f1 f2) (hr : Room 2 X.A) (ha : DAr X W [e1, e2] t) (hg : Gl X x := by rfl)
    (hdb : (x == ("__debug__" : Str)) = false := by decide) (he : starEach (e1 :: [e2]) X.env = (false, eval e1 X.env) :: starEach [e2] X.env := by rfl) (hpl : (backTo pos (starEach [e2] X.env)).any (·.1) = false := by rfl) :
    DS X W (.Raise (some (.Call (.Name x p) [e1, e2] [] pos)) none pos2) (dRaise2 C f1 f2 t) := by
  obtain ⟨fI, fd, iC, tI, hb, F⟩ := T.ex
  refine PS_mono (ps_raise hc tk (pmk_oex T.oex iC tI F hr hb .nil passL hg T.gC ha hdb he hpl)) fun D σ H ⟨s, g, d, rs, rh, h, n, b, c, r, xl⟩ => ?_
  refine ⟨s, g, _, d.ex, rs, rh, h, fun ds vs g1 H1 x1 rh1 dv hh => ?_, xl⟩
  match ds, dv, hh with
  | [d1, d2], dv, hh =>
    obtain ⟨v1, r0, e0, dv1, v2, r1, e1, dv2, er⟩ := dv
    subst e0 e1
    rw [show r1 = [] from er]
    refine ⟨by show 2 ≤ 1000; decide, fun a na => ⟨a, v1, v2, rfl, upd_same, fun dx ndx hne => ?_⟩⟩
    have nd : H1 dx = none := by
      rw [upd_ne hne] at ndx
      exact ndx
    refine ⟨rfl, dx, [(f2, v2), (f1, v1)], by rw [upd_ne (Ne.symm hne), upd_same], upd_same, nd, ?_⟩
    have sm : ∀ b o, H1 b = some o → upd (del (upd (upd (upd (upd H1 a (exo a C none)) dx (exd dx [(f1, v1)])) a (exo a C (some dx))) dx (exd dx [(f2, v2), (f1, v1)])) a) dx (.xd [(f2, v2), (f1, v1)]) b = some o := fun b o q => by
      have z1 := ne_of_none q na
      have z2 := ne_of_none q nd
      rw [upd_ne z2, del_ne z1, upd_ne z2, upd_ne z1, upd_ne z2, upd_ne z1]
      exact q
    have y1 := Ext.sameF (K := X.K) (g := g1) sm nd
    exact xl C [(f2, d2), (f1, d1)] _ _ s σ (g1.fz dx) _ (x1.trans y1) (rh1.sameF sm nd upd_same) (rs.ext (x1.trans y1)) ⟨rfl, .inr ⟨dx, [(f2, v2), (f1, v1)], rfl, upd_same, .inr rfl, v2, _, rfl, dv2.ext y1, v1, [], rfl, dv1.ext y1, rfl⟩⟩ hh
end
/-! ### while -/
section
variable {X : Cx} {W : WX} {pos : Pos}
def dWhile (c : TTd) (tb : TSd) : TSd := fun D s g => ∃ I : Nat → Sd → Hd → Prop, (∃ m, I m s g) ∧ ∀ m s g, I m s g →
  c s g (fun b g1 => cond b (tb { D with nx := fun s' g' => ∃ m', m' < m ∧ I m' s' g', ct := fun s' g' => ∃ m', m' < m ∧ I m' s' g', bk := D.nx } s g1) (D.nx s g1)) D.ex
theorem ds_while {c : Expr} {body : List Stmt} {tc : TTd} {tb : TSd} (hp : PassesOwn (model X.prog X.w) X.A X.env X.xe) (hc : DT X W c tc) (hb : DSs X W body tb) : DS X W (.While c body [] pos) (dWhile tc tb) := by
  refine PS_mono (ps_while hp hc hb) fun D σ H ⟨s0, g0, d, rs, rh, ⟨I, ⟨m0, i0⟩, turn⟩, n, b, c, r, x⟩ => ?_
  refine ⟨fun m σ' H' => ∃ s, ∃ g : Gh, RSt X.K g H' s σ' ∧ RH X.K g H' ∧ Ext X.K g0 H g H' ∧ I m s g.h, ⟨m0, s0, g0, rs, rh, Ext.refl, i0⟩, fun m σ1 H1 ⟨s1, g1, rs1, rh1, x1, i1⟩ => ?_⟩
  refine ⟨s1, g1, _, _, rs1, rh1, turn m s1 g1.h i1, fun k g2 H2 x2 rh2 hh => ?_, x.ext x1⟩
  dsimp only
  have x12 := x1.trans x2
  cases k with
  | true =>
    rw [if_pos rfl]
    refine ⟨fun σ' H' => ∃ m', m' < m ∧ ∃ s, ∃ g : Gh, RSt X.K g H' s σ' ∧ RH X.K g H' ∧ Ext X.K g0 H g H' ∧ I m' s g.h, fun σ' H' z => z, s1, g2, _, rs1.ext x2, rh2, hh, fun s3 σ3 g3 H3 x3 rh3 rs3 ⟨m', hm, i3⟩ => ⟨m', hm, s3, g3, rs3, rh3, x12.trans x3, i3⟩, n.ext x12,
      fun s3 σ3 g3 H3 x3 rh3 rs3 ⟨m', hm, i3⟩ => ⟨m', hm, s3, g3, rs3, rh3, x12.trans x3, i3⟩, r.ext x12, x.ext x12⟩
  | false =>
    rw [if_neg Bool.false_ne_true]
    exact n s1 σ1 g2 H2 x12 rh2 (rs1.ext x2) hh
end
end DL

/-! DF: for, comprehensions. -/
namespace DL
open PySem PySem.Spec PyProof.Rows L2
/-- a list that is walked stays as it is -/
def ckP : Option (Addr × List D) → Hd → Prop → Prop
  | none, _, P => P
  | some (a, xs), g, P => g a = some (.lst xs) ∧ P
theorem ckP_imp {o : Option (Addr × List D)} {g : Hd} {P Q : Prop} (h : ckP o g P) (k : P → Q) : ckP o g Q := by
  cases o with
  | none => exact k h
  | some q => exact ⟨h.1, k h.2⟩
theorem ckP_out {o : Option (Addr × List D)} {g : Hd} {P : Prop} (h : ckP o g P) : P := by
  cases o with
  | none => exact h
  | some q => exact h.2
/-- J walks over ds -/
def WalkD (K : Frag) (g1 : Gh) (H1 : Hp) (ds : List D) (o : Option (Addr × List D)) (J : It) : Prop :=
  Walk J ds.length (fun H => ∃ g : Gh, RH K g H ∧ Ext K g1 H1 g H ∧ ckP o g.h True) (fun i H x H' => ∀ g : Gh, RH K g H → Ext K g1 H1 g H → ckP o g.h True → ∃ d, ds[i]? = some d ∧ Ext K g H g H' ∧ RH K g H' ∧ DV K g H' d x)
abbrev TId := Sd → Hd → (List D → Option (Addr × List D) → Hd → Prop) → Xd → Prop
def liftI (K : Frag) (W : WX) (t : TId) : TI := fun σ H R => ∃ s, ∃ g : Gh, ∃ q x, RSt K g H s σ ∧ RH K g H ∧ t s g.h q x ∧ (∀ ds o J (g1 : Gh) H1, Ext K g H g1 H1 → RH K g1 H1 → WalkD K g1 H1 ds o J → q ds o g1.h → R J H1) ∧ XL K g H x W
abbrev DI (X : Cx) (W : WX) (tg e : Expr) (t : TId) : Prop := PI X tg e (liftI X.K W t)
theorem PI_mono {X : Cx} {tg e : Expr} {t t' : TI} (h : PI X tg e t) (m : ∀ σ H R, t' σ H R → t σ H R) : PI X tg e t' := ⟨fun pins s σ H R I q => h.run pins s σ H R I (m σ H R q)⟩
section
variable {X : Cx} {W : WX} {tg e e1 e2 : Expr} {te : TEd} {ta : TAd} {p pos : Pos}
theorem walkD_tup {K : Frag} {g1 : Gh} {H1 : Hp} {a : Addr} {ds : List D} {vs : List V} (t : TupAt K H1 a vs) (r : DVs K g1 H1 ds vs) : WalkD K g1 H1 ds none (Itt K a) := by
  have w := walk_tup (K := K) (a := a) (xs := vs)
  rw [r.length] at w
  refine w.mono (fun H ⟨g, rh, x, _⟩ => (t.ext x).sq) fun i H y H' hi _ ⟨e, yv⟩ g rh x _ => ?_
  obtain ⟨d, h1, h2⟩ := r.get' yv
  subst e
  exact ⟨d, h1, Ext.refl, rh, h2.ext x⟩
theorem walkD_rol {K : Frag} {g1 : Gh} {H1 : Hp} {a : Addr} {ds : List D} {vs : List V} (t : RolAt K g1 H1 a vs) (r : DVs K g1 H1 ds vs) : WalkD K g1 H1 ds none (Itl K a) := by
  have w := walk_list (K := K) (a := a) (xs := vs)
  rw [r.length] at w
  refine w.mono (fun H ⟨g, rh, x, _⟩ => (t.ext x).sq) fun i H y H' hi _ ⟨e, yv⟩ g rh x _ => ?_
  obtain ⟨d, h1, h2⟩ := r.get' yv
  subst e
  exact ⟨d, h1, Ext.refl, rh, h2.ext x⟩
theorem walkD_lst {K : Frag} {g1 : Gh} {H1 : Hp} {a : Addr} {ds : List D} : WalkD K g1 H1 ds (some (a, ds)) (Itl K a) := by
  refine ⟨fun i H hi ⟨g, rh, x, c⟩ => ?_, fun H ⟨g, rh, x, c⟩ => ?_, fun i H y H' hi _ ⟨e, yv⟩ g rh x c => ?_⟩
  · obtain ⟨vs, h1, r⟩ := rh.at_ a _ c.1
    have hl := r.length
    exact ⟨vs, vs[i], SqL.of h1, by simp⟩
  · obtain ⟨vs, h1, r⟩ := rh.at_ a _ c.1
    exact ⟨vs, SqL.of h1, by rw [r.length]; exact Nat.le_refl _⟩
  · obtain ⟨vs, h1, r⟩ := rh.at_ a _ c.1
    obtain ⟨d, h2, h3⟩ := r.get' (yv vs (SqL.of h1))
    subst e
    exact ⟨d, h2, Ext.refl, rh, h3⟩
/-- a tuple, a list that is walked -/
def jT (d : D) (g : Hd) (q : List D → Option (Addr × List D) → Hd → Prop) : Prop := match d with
  | .tup ds => q ds none g
  | _ => False
def jL (d : D) (g : Hd) (q : List D → Option (Addr × List D) → Hd → Prop) : Prop := match d with
  | .fl ds => q ds none g
  | .ref a => ∃ ds, g a = some (.lst ds) ∧ q ds (some (a, ds)) g
  | _ => False
def iT (te : TEd) : TId := fun s g q x => te s g (fun d g1 => jT d g1 q) x
def iL (te : TEd) : TId := fun s g q x => te s g (fun d g1 => jL d g1 q) x
theorem di_tup (he : DE X W e te) : DI X W tg e (iT te) := PI_mono (pi_tup he) fun σ H R ⟨s, g, q, x, rs, rh, h, k, xl⟩ => ⟨s, g, _, x, rs, rh, h, fun d v g1 H1 x1 rh1 dv hh => by
  cases d with
  | tup ds =>
    obtain ⟨a, vs, e, t, r⟩ := dv
    exact ⟨a, e, ⟨vs, t.sq⟩, k ds none _ g1 H1 x1 rh1 (walkD_tup t r) hh⟩
  | _ => exact False.elim hh, xl⟩
theorem di_lst (he : DE X W e te) : DI X W tg e (iL te) := PI_mono (pi_list he) fun σ H R ⟨s, g, q, x, rs, rh, h, k, xl⟩ => ⟨s, g, _, x, rs, rh, h, fun d v g1 H1 x1 rh1 dv hh => by
  cases d with
  | fl ds =>
    obtain ⟨a, vs, e, t, r⟩ := dv
    exact ⟨a, e, ⟨vs, t.sq⟩, k ds none _ g1 H1 x1 rh1 (walkD_rol t r) hh⟩
  | ref a =>
    obtain ⟨ds, hg, hh⟩ := hh
    obtain ⟨vs, h1, r⟩ := rh1.at_ a _ hg
    exact ⟨a, dv, ⟨vs, SqL.of h1⟩, k ds _ _ g1 H1 x1 rh1 walkD_lst hh⟩
  | _ => exact False.elim hh, xl⟩
/-! ### range -/
def upI (lo : Int) : Nat → List D
  | 0 => []
  | n + 1 => .int lo :: upI (lo + 1) n
theorem upI_len : ∀ (lo : Int) (n : Nat), (upI lo n).length = n
  | _, 0 => rfl
  | lo, n + 1 => by
    show (upI (lo + 1) n).length + 1 = n + 1
    rw [upI_len]
theorem upI_get : ∀ (lo : Int) (n i : Nat), i < n → (upI lo n)[i]? = some (.int (lo + i))
  | _, 0, i, h => absurd h (Nat.not_lt_zero i)
  | lo, n + 1, 0, h => by
    show some (D.int lo) = _
    rw [show lo + ((0 : Nat) : Int) = lo by omega]
  | lo, n + 1, i + 1, h => by
    show (upI (lo + 1) n)[i]? = _
    rw [upI_get (lo + 1) n i (by omega), show lo + 1 + (i : Int) = lo + ((i + 1 : Nat) : Int) by omega]
theorem walkD_range {K : Frag} {g1 : Gh} {H1 : Hp} {lo : Int} {n : Nat} : WalkD K g1 H1 (upI lo n) none (Itr lo n) := by
  have w := walk_range (lo := lo) (n := n)
  unfold WalkD
  rw [upI_len]
  refine w.mono (fun H _ => True.intro) fun i H y H' hi _ ⟨e, yv⟩ g rh x _ => ?_
  subst e yv
  exact ⟨.int (lo + i), upI_get lo n i hi, Ext.refl, rh, rfl⟩
def arg1 (ds : List D) (Q : D → Prop) : Prop := match ds with
  | [d] => Q d
  | _ => False
def arg2 (ds : List D) (Q : D → D → Prop) : Prop := match ds with
  | [d, e] => Q d e
  | _ => False
def asI (d : D) (Q : Int → Prop) : Prop := match d with
  | .int i => Q i
  | _ => False
def asT (d : D) (Q : List D → Prop) : Prop := match d with
  | .tup i => Q i
  | _ => False
def asS (d : D) (Q : Str → Prop) : Prop := match d with
  | .str i => Q i
  | _ => False
def asR (d : D) (Q : Addr → Prop) : Prop := match d with
  | .ref i => Q i
  | _ => False
theorem arg1_ok {ds : List D} {Q : D → Prop} (h : arg1 ds Q) : ∃ d, ds = [d] ∧ Q d := by
  cases ds with
  | nil => exact False.elim h
  | cons d r =>
    cases r with
    | nil => exact ⟨d, rfl, h⟩
    | cons _ _ => exact False.elim h
theorem arg2_ok {ds : List D} {Q : D → D → Prop} (h : arg2 ds Q) : ∃ d e, ds = [d, e] ∧ Q d e := by
  cases ds with
  | nil => exact False.elim h
  | cons d r =>
    cases r with
    | nil => exact False.elim h
    | cons e r =>
      cases r with
      | nil => exact ⟨d, e, rfl, h⟩
      | cons _ _ => exact False.elim h
theorem asI_ok {d : D} {Q : Int → Prop} (h : asI d Q) : ∃ i, d = .int i ∧ Q i := by
  cases d with
  | int i => exact ⟨i, rfl, h⟩
  | _ => exact False.elim h
theorem asT_ok {d : D} {Q : List D → Prop} (h : asT d Q) : ∃ i, d = .tup i ∧ Q i := by
  cases d with
  | tup i => exact ⟨i, rfl, h⟩
  | _ => exact False.elim h
theorem asS_ok {d : D} {Q : Str → Prop} (h : asS d Q) : ∃ i, d = .str i ∧ Q i := by
  cases d with
  | str i => exact ⟨i, rfl, h⟩
  | _ => exact False.elim h
theorem asR_ok {d : D} {Q : Addr → Prop} (h : asR d Q) : ∃ i, d = .ref i ∧ Q i := by
  cases d with
  | ref i => exact ⟨i, rfl, h⟩
  | _ => exact False.elim h
def rgB (j : Int) : Prop := -(2 ^ 62) ≤ j ∧ j < 2 ^ 62
theorem rgB_of {j : Int} (h1 : -1000000000 ≤ j) (h2 : j ≤ 1000000000) : rgB j := by
  constructor <;> omega
def jR1 (ds : List D) (g : Hd) (q : List D → Option (Addr × List D) → Hd → Prop) : Prop := arg1 ds fun d => asI d fun j => rgB j ∧ q (upI 0 j.toNat) none g
def jR2 (ds : List D) (g : Hd) (q : List D → Option (Addr × List D) → Hd → Prop) : Prop := arg2 ds fun d e => asI d fun i => asI e fun j => (rgB i ∧ rgB j) ∧ q (upI i (j - i).toNat) none g
def iA (j : List D → Hd → (List D → Option (Addr × List D) → Hd → Prop) → Prop) (ta : TAd) : TId := fun s g q x => ta s g (fun ds g1 => j ds g1 q) x
theorem dvs1 {K : Frag} {g : Gh} {H : Hp} {d : D} {vs : List V} (h : DVs K g H [d] vs) : ∃ v, vs = [v] ∧ DV K g H d v := by
  obtain ⟨v, r, e, h1, h2⟩ := h
  exact ⟨v, by rw [e, show r = [] from h2], h1⟩
theorem dvs2 {K : Frag} {g : Gh} {H : Hp} {d e : D} {vs : List V} (h : DVs K g H [d, e] vs) : ∃ v u, vs = [v, u] ∧ DV K g H d v ∧ DV K g H e u := by
  obtain ⟨v, r, e, h1, h2⟩ := h
  obtain ⟨u, e2, h3⟩ := dvs1 h2
  exact ⟨v, u, by rw [e, e2], h1, h3⟩
theorem dvs3 {K : Frag} {g : Gh} {H : Hp} {d e f : D} {vs : List V} (h : DVs K g H [d, e, f] vs) : ∃ v u w, vs = [v, u, w] ∧ DV K g H d v ∧ DV K g H e u ∧ DV K g H f w := by
  obtain ⟨v, r, e, h1, h2⟩ := h
  obtain ⟨u, w, e2, h3, h4⟩ := dvs2 h2
  exact ⟨v, u, w, by rw [e, e2], h1, h3, h4⟩
theorem dvI1 {K : Frag} {g : Gh} {H : Hp} {i : Int} {vs : List V} (h : DVs K g H [.int i] vs) : vs = [.int i] := by
  obtain ⟨v, e, r⟩ := dvs1 h
  have r : v = V.int i := r
  rw [e, r]
theorem dvI2 {K : Frag} {g : Gh} {H : Hp} {i j : Int} {vs : List V} (h : DVs K g H [.int i, .int j] vs) : vs = [.int i, .int j] := by
  obtain ⟨v, u, e, r1, r2⟩ := dvs2 h
  have r1 : v = V.int i := r1
  have r2 : u = V.int j := r2
  rw [e, r1, r2]
theorem di_range1 (hm : X.mg "range" = none) (ha : DAr X W [e] ta) (hg : Gl X "range" := by rfl) (hs : starEach [e] X.env = [(false, eval e X.env)] := by rfl) : DI X W tg (.Call (.Name "range" p) [e] [] pos) (iA jR1 ta) :=
  PI_mono (pi_range1 hg hm ha hs) fun σ H R ⟨s, g, q, x, rs, rh, h, k, xl⟩ => ⟨s, g, _, x, rs, rh, h, fun ds vs g1 H1 x1 rh1 dv hh => by
    obtain ⟨d, e1, hh⟩ := arg1_ok hh
    obtain ⟨j, e2, hh⟩ := asI_ok hh
    subst e1 e2
    exact ⟨j, dvI1 dv, hh.1.1, hh.1.2, k _ none _ g1 H1 x1 rh1 walkD_range hh.2⟩, xl⟩
theorem di_range2 (hm : X.mg "range" = none) (ha : DAr X W [e1, e2] ta) (hg : Gl X "range" := by rfl) (hs : starEach [e1, e2] X.env = [(false, eval e1 X.env), (false, eval e2 X.env)] := by rfl) (hs2 : starEach [e2] X.env = [(false, eval e2 X.env)] := by rfl) : DI X W tg (.Call (.Name "range" p) [e1, e2] [] pos) (iA jR2 ta) :=
  PI_mono (pi_range2 hg hm ha hs hs2) fun σ H R ⟨s, g, q, x, rs, rh, h, k, xl⟩ => ⟨s, g, _, x, rs, rh, h, fun ds vs g1 H1 x1 rh1 dv hh => by
    obtain ⟨d, e, e1, hh⟩ := arg2_ok hh
    obtain ⟨i, e2, hh⟩ := asI_ok hh
    obtain ⟨j, e3, hh⟩ := asI_ok hh
    subst e1 e2 e3
    exact ⟨i, j, dvI2 dv, ⟨hh.1.1.1, hh.1.1.2, hh.1.2.1, hh.1.2.2⟩, k _ none _ g1 H1 x1 rh1 walkD_range hh.2⟩, xl⟩
/-! ### for -/
def forD (gt : TGd) (tb : TSd) (o : Option (Addr × List D)) (D : Dn) : List DL.D → Sd → Hd → Prop
  | [], s, g => D.nx s g
  | d :: r, s, g => gt d s g (fun s1 g1 => tb { D with nx := fun s2 g2 => ckP o g2 (forD gt tb o D r s2 g2), ct := fun s2 g2 => ckP o g2 (forD gt tb o D r s2 g2), bk := D.nx } s1 g1) D.ex
def dFor (ti : TId) (gt : TGd) (tb : TSd) : TSd := fun D s g => ti s g (fun ds o g1 => ckP o g1 (forD gt tb o D ds s g1)) D.ex
theorem ds_for {iter : Expr} {body : List Stmt} {ti : TId} {gt : TGd} {tb : TSd} (hp : PassesOwn (model X.prog X.w) X.A X.env X.xe) (hc : X.calm = true) (hi : DI X W tg iter ti) (hg : DG X W tg gt) (hb : DSs X W body tb)
    (hs : ∀ x, foldedSetIterable iter X.env x = pure x := by intro _; rfl) : DS X W (.For tg iter body [] pos) (dFor ti gt tb) := by
  refine PS_mono (ps_for hp hc hi hg hb hs) fun D σ H ⟨s0, g0, d, rs, rh, h, n, b, c, r, x⟩ => ?_
  refine ⟨s0, g0, _, d.ex, rs, rh, h, fun ds o J g1 H1 x1 rh1 wd hh => ?_, x⟩
  exact for_it wd (fun i σ' H' => ∃ s, ∃ g : Gh, RSt X.K g H' s σ' ∧ RH X.K g H' ∧ Ext X.K g1 H1 g H' ∧ ckP o g.h (forD gt tb o d (ds.drop i) s g.h)) ⟨s0, g1, rs.ext x1, rh1, Ext.refl, hh⟩
    (fun i σ' H' _ ⟨s, g, _, rh, x, hh⟩ => ⟨g, rh, x, ckP_imp hh fun _ => True.intro⟩) (fun i y σ' H' H2 hi ⟨s, g, rs2, rh2, x2, hh⟩ yv => by
      obtain ⟨dd, hd, x3, rh3, dv⟩ := yv g rh2 x2 (ckP_imp hh fun _ => True.intro)
      have hd2 : ds.drop i = dd :: ds.drop (i + 1) := by
        obtain ⟨h1, h2⟩ := List.getElem?_eq_some_iff.mp hd
        rw [← h2, List.drop_eq_getElem_cons h1]
      have hh := ckP_out hh
      rw [hd2] at hh
      have x03 := (x1.trans x2).trans x3
      refine ⟨dd, s, g, _, _, dv, rs2.ext x3, rh3, hh, fun s4 σ4 g4 H4 x4 rh4 rs4 h4 => ?_, x.ext x03⟩
      have x04 := x03.trans x4
      exact ⟨s4, g4, _, rs4, rh4, h4, fun s5 σ5 g5 H5 x5 rh5 rs5 h5 => ⟨s5, g5, rs5, rh5, ((x2.trans x3).trans x4).trans x5, h5⟩, n.ext x04, fun s5 σ5 g5 H5 x5 rh5 rs5 h5 => ⟨s5, g5, rs5, rh5, ((x2.trans x3).trans x4).trans x5, h5⟩, r.ext x04, x.ext x04⟩)
    (fun σ' H' ⟨s, g, rs2, rh2, x2, hh⟩ => by
      have hh := ckP_out hh
      rw [List.drop_length] at hh
      exact n s σ' g H' (x1.trans x2) rh2 rs2 hh)
end
end DL

/-! DG: comprehensions; a new list as a value. -/
namespace DL
open PySem PySem.Spec PyProof.Rows L2
section
variable {K : Frag} {g g1 : Gh} {H H1 : Hp}
theorem Ext0.poke {L : Addr} {vs : List V} {u : HO} (hL : H L = some (.lst vs)) (n : ¬ g.F L) : Ext0 K g H g (upd H L u) :=
  ⟨fun p ws e => by rw [upd_ne (fun z => by rw [z, hL] at e; cases e)]; exact e, fun p o w e => by rw [upd_ne (fun z => by rw [z, hL] at e; cases e)]; exact e,
   fun p w e f => ⟨by rw [upd_ne (fun z => by rw [z] at f; exact n f)]; exact e, f⟩⟩
theorem RH.poke (R : RH K g H) {L : Addr} {vs : List V} {u : HO} (hL : H L = some (.lst vs)) (h0 : g.h L = none) (n : ¬ g.F L) : RH K g (upd H L u) :=
  ⟨fun a o e => (R.at_ a o e).ext' (Ext0.poke hL n) fun w q => by rw [upd_ne (fun z => by rw [z, h0] at e; cases e)]; exact q, R.apart, fun a f => by
    obtain ⟨w, e⟩ := R.there a f
    exact ⟨w, by rw [upd_ne (fun z => by rw [z] at f; exact n f)]; exact e⟩⟩
theorem Ext.poke {L : Addr} {u : HO} (x : Ext K g H g1 H1) (h0 : H L = none) : Ext K g H g1 (upd H1 L u) :=
  ⟨fun p ws e => by rw [upd_ne (ne_of_none e h0)]; exact x.tup p ws e, fun p o w e => by rw [upd_ne (ne_of_none e h0)]; exact x.frz p o w e,
   fun p w e f => by rw [upd_ne (ne_of_none e h0)]; exact x.set p w e f, fun p w e f => by rw [upd_ne (ne_of_none e h0)]; exact x.rest p w e f, fun p e => x.there p (upd_none' e)⟩
/-- a hidden new list is tracked -/
theorem Ext.track {L : Addr} {o : DO} (x : Ext K g H g1 H1) (h0 : H L = none) : Ext K g H (g1.upd L o) H1 :=
  ⟨x.tup, x.frz, x.set, fun p w e f => by
    obtain ⟨a, b, c⟩ := x.rest p w e f
    exact ⟨a, (updD_ne (ne_of_none e h0)).trans b, c⟩, x.there⟩
theorem Ext0.track {L : Addr} {o : DO} : Ext0 K g H (g.upd L o) H := ⟨fun _ _ e => e, fun _ _ _ e => e, fun _ _ e f => ⟨e, f⟩⟩
theorem RH.track (R : RH K g H) {L : Addr} {ds : List D} {vs : List V} (hL : H L = some (.lst vs)) (r : DVs K g H ds vs) (n : ¬ g.F L) : RH K (g.upd L (.lst ds)) H :=
  ⟨fun a o e => by
    by_cases z : a = L
    · rw [z, show (g.upd L (.lst ds)).h L = some (.lst ds) from updD_same] at e
      cases e
      rw [z]
      exact ⟨vs, hL, DVs.ext0 Ext0.track r⟩
    · rw [show (g.upd L (.lst ds)).h a = g.h a from updD_ne z] at e
      exact (R.at_ a o e).ext' Ext0.track fun _ q => q,
   fun a o e => by
    by_cases z : a = L
    · rw [z]
      exact n
    · rw [show (g.upd L (.lst ds)).h a = g.h a from updD_ne z] at e
      exact R.apart a o e, R.there⟩
end
/-! ### a new list -/
abbrev TLd := Sd → Hd → (List D → Hd → Prop) → Xd → Prop
def NL (K : Frag) (g : Gh) (H : Hp) (q : List D → Hd → Prop) (Q : VK) : Prop := ∀ ds L vs (g' : Gh) H', Ext K g H g' H' → RH K g' H' → H' L = some (.lst vs) → H L = none → g'.h L = none → ¬ g'.F L → DVs K g' H' ds vs → q ds g'.h → Q (.ref L) H'
def liftL (K : Frag) (W : WX) (t : TLd) : TE := fun σ H Q => ∃ s, ∃ g : Gh, ∃ q x, RSt K g H s σ ∧ RH K g H ∧ t s g.h q x ∧ NL K g H q Q ∧ XL K g H x W
abbrev DLs (X : Cx) (W : WX) (e : Expr) (t : TLd) : Prop := PE X e (liftL X.K W t)
def dNew (t : TLd) : TEd := fun s g q x => t s g (fun ds g1 => ∀ p, g1 p = none → q (.ref p) (updD g1 p (.lst ds))) x
section
variable {X : Cx} {W : WX} {e : Expr} {tl : TLd} {p pos : Pos}
theorem de_new (he : DLs X W e tl) : DE X W e (dNew tl) := PE_mono he fun σ H Q ⟨s, g, q, x, rs, rh, h, ql, xl⟩ => ⟨s, g, _, x, rs, rh, h, fun ds L vs g1 H1 x1 rh1 hL h0 hn nf r hh =>
  ql (.ref L) (.ref L) (g1.upd L (.lst ds)) H1 (x1.track h0) (rh1.track hL r nf) rfl (hh L hn), xl⟩
/-! ### the target of a comprehension -/
abbrev TCd := D → Sd → (Sd → Prop) → Prop
def wipeD (s : Sd) : List Nat → Sd
  | [] => s
  | v :: vs => (wipeD s vs).set v none
theorem rst_wipe {K : Frag} {g : Gh} {H : Hp} {s : Sd} {σ : St} (r : RSt K g H s σ) : ∀ vs : List Nat, RSt K g H (wipeD s vs) (wipe σ vs)
  | [] => r
  | v :: vs => (rst_wipe r vs).wipe v
theorem wipe_set {σ : St} {i : Nat} {v : Option V} : ∀ {vs : List Nat}, i ∈ vs → wipe (σ.set i v) vs = wipe σ vs := by
  have key : ∀ (vs : List Nat) (σ : St), (wipe (σ.set i v) vs).set i none = (wipe σ vs).set i none := by
    intro vs
    induction vs with
    | nil =>
      intro σ
      show (σ.set i v).set i none = σ.set i none
      rw [List.set_set]
    | cons w vs ih =>
      intro σ
      show ((wipe (σ.set i v) vs).set w none).set i none = ((wipe σ vs).set w none).set i none
      by_cases z : w = i
      · rw [z, List.set_set, List.set_set, ih]
      · rw [List.set_comm _ _ z, List.set_comm _ _ z, ih]
  intro vs
  induction vs with
  | nil => intro h; cases h
  | cons w vs ih =>
    intro h
    show (wipe (σ.set i v) vs).set w none = (wipe σ vs).set w none
    by_cases z : i ∈ vs
    · rw [ih z]
    · have e : i = w := by
        rcases List.mem_cons.mp h with e | e
        · exact e
        · exact absurd e z
      subst e
      exact key vs σ
/-- g, gt: the target by HandS, by plain data -/
structure CG (K : Frag) (vs : List Nat) (g : TG) (gt : TCd) : Prop where
  run : ∀ (d : D) (v : V) (s : Sd) (σ : St) (gh : Gh) (H : Hp) (q : Sd → Prop) (Q : St → Hp → Prop), DV K gh H d v → RSt K gh H s σ → RH K gh H → gt d s q → (∀ s' σ', RSt K gh H s' σ' → wipe σ' vs = wipe σ vs → q s' → Q σ' H) → g v σ H Q
def cName (i : Nat) : TCd := fun d s q => q (s.set i (some d))
theorem cg_name {K : Frag} {vs : List Nat} {i : Nat} (hi : i ∈ vs := by decide) : CG K vs (gName i) (cName i) := ⟨fun d v s σ gh H q Q dv rs rh h k => k _ _ (rs.set i dv) (wipe_set hi) h⟩
def cPair (i j : Nat) : TCd := fun d s q => asT d fun ds => arg2 ds fun a b => q ((s.set i (some a)).set j (some b))
theorem cg_pair {K : Frag} {vs : List Nat} {i j : Nat} (hi : i ∈ vs := by decide) (hj : j ∈ vs := by decide) : CG K vs (gTup K 2 (gCons (gName i) (gCons (gName j) gNil))) (cPair i j) := ⟨fun d v s σ gh H q Q dv rs rh h k => by
  obtain ⟨ds, e, h⟩ := asT_ok h
  obtain ⟨a, b, e2, h⟩ := arg2_ok h
  subst e e2
  obtain ⟨p, us, e3, t, r⟩ := dv
  obtain ⟨u, w, e4, r1, r2⟩ := dvs2 r
  subst e4
  exact ⟨p, [u, w], e3, t.sq, rfl, u, [w], rfl, w, [], rfl, rfl, k _ _ ((rs.set i r1).set j r2) (by rw [wipe_set hj, wipe_set hi]) h⟩⟩
/-! ### the loop -/
def X0 : Xd := fun _ _ _ _ => False
abbrev W0 : WX := fun _ _ _ _ => False
def lcD (gt : TCd) (tt : TTd) (te : TEd) (o : Option (Addr × List D)) (s0 : Sd) : List D → Hd → (List D → Hd → Prop) → Prop
  | [], g, q => q [] g
  | d :: r, g, q => gt d s0 fun s1 => tt s1 g (fun b g2 => cond b (te s1 g2 (fun y g3 => ckP o g3 (lcD gt tt te o s0 r g3 fun ys g4 => q (y :: ys) g4)) X0) (ckP o g2 (lcD gt tt te o s0 r g2 q))) X0
def dYes : TTd := fun _ g q _ => q true g
def dLc (ti : TId) (gt : TCd) (tt : TTd) (te : TEd) (vs : List Nat) : TLd := fun s g q x => ti s g (fun ds o g1 => ds.length ≤ sizeLine ∧ ckP o g1 (lcD gt tt te o (wipeD s vs) ds g1 q)) x
theorem XL0 {K : Frag} {g : Gh} {H : Hp} : XL K g H X0 W0 := fun _ _ _ _ _ _ _ _ _ _ _ _ h => h
theorem dts_nil {X : Cx} : PTs X [] (liftT X.K W0 dYes) := ⟨fun pins s σ H Q I ⟨s0, g, q, x, rs, rh, h, bl, xl⟩ => pts_nil.run pins s σ H Q I (bl true g H Ext.refl rh h)⟩
theorem dts_one {X : Cx} {c : Expr} {t : TTd} (h : DT X W0 c t) : PTs X [c] (liftT X.K W0 t) := pts_one h
/-- the comprehension's loop, told over plain data -/
theorem lc_walk {K : Frag} {vs : List Nat} {g : TG} {gt : TCd} (cg : CG K vs g gt) {tt : TTd} {te : TEd} {ds : List D} {o : Option (Addr × List D)} {J : It} {s : Sd} {σ : St} {g1 : Gh} {H1 : Hp} {q : List D → Hd → Prop} (rs : RSt K g1 H1 s σ) (rh1 : RH K g1 H1) (wd : WalkD K g1 H1 ds o J)
    (hz : ds.length ≤ sizeLine) (hh : ckP o g1.h (lcD gt tt te o (wipeD s vs) ds g1.h q)) {L : Addr} (hL : H1 L = none) {Qd : Hp → Prop}
    (hq : ∀ ys us (g' : Gh) H', Ext K g1 H1 g' H' → RH K g' H' → H' L = some (.lst us) → g'.h L = none → ¬ g'.F L → DVs K g' H' ys us → q ys g'.h → Qd H') :
    ∃ W : Nat → Nat → Hp → Prop, (∃ m, W 0 m (upd H1 L (.lst []))) ∧ ∀ i m H, W i m H →
      (J.stop i H ∧ Qd H) ∨ (J.go i H ∧ ∃ Nx : Hp → Prop, (∀ H', Nx H' → ∃ m', m' < m ∧ W (i + 1) m' H') ∧ ∀ x H', J.yld i H x H' → g x (wipe σ vs) H' fun σ2 H2 => wipe σ2 vs = wipe σ vs ∧ liftT K W0 tt σ2 H2 fun b H3 =>
        if b = true then liftE K W0 te σ2 H3 fun y H4 => ∃ acc, H4 L = some (.lst acc) ∧ acc.length < sizeLine ∧ Nx (upd H4 L (.lst (acc ++ [y]))) else Nx H3) := by
  have ww : wipe (wipe σ vs) vs = wipe σ vs := by
    have key : ∀ us : List Nat, (∀ v ∈ us, v ∈ vs) → wipe (wipe σ us) vs = wipe σ vs := by
      intro us
      induction us with
      | nil => intro _; rfl
      | cons v us ih =>
        intro h
        show wipe ((wipe σ us).set v none) vs = wipe σ vs
        rw [wipe_set (h v (List.mem_cons_self ..)), ih fun w hw => h w (List.mem_cons_of_mem _ hw)]
    exact key vs fun _ h => h
  refine lc_it wd (fun i H => ∃ gh : Gh, ∃ acc us, RH K gh H ∧ Ext K g1 H1 gh H ∧ H L = some (.lst us) ∧ gh.h L = none ∧ ¬ gh.F L ∧ DVs K gh H acc us ∧ acc.length ≤ i ∧ ckP o gh.h (lcD gt tt te o (wipeD s vs) (ds.drop i) gh.h fun zs g => q (acc ++ zs) g))
    ⟨g1, [], [], rh1.new0 hL, Ext.new0 hL, upd_same, rh1.fresh hL, rh1.nset hL, rfl, Nat.le_refl _, by simpa using hh⟩ (fun i H hi ⟨gh, acc, us, r, x, _, _, _, _, _, c⟩ => ⟨gh, r, x, ckP_imp c fun _ => True.intro⟩) (fun i y H H2 hi ⟨gh, acc, us, rh2, x2, h1, h2, h3, da, la, hh⟩ yv => ?_) (fun H ⟨gh, acc, us, rh2, x2, h1, h2, h3, da, la, hh⟩ => ?_)
  · obtain ⟨d, hd, x3, rh3, dv⟩ := yv gh rh2 x2 (ckP_imp hh fun _ => True.intro)
    have hd2 : ds.drop i = d :: ds.drop (i + 1) := by
      obtain ⟨h1, h2⟩ := List.getElem?_eq_some_iff.mp hd
      rw [← h2, List.drop_eq_getElem_cons h1]
    have hh := ckP_out hh
    rw [hd2] at hh
    have x13 := x2.trans x3
    obtain ⟨k1, k2, k3⟩ := x3.rest L _ h1 h2
    refine cg.run d y (wipeD s vs) (wipe σ vs) gh H2 _ _ dv (rst_wipe (rs.ext x13) vs) rh3 hh fun s1 σ1 rs1 hw hh => ⟨hw.trans ww |>.trans rfl, ?_⟩
    refine ⟨s1, gh, _, X0, rs1, rh3, hh, fun b g4 H4 x4 rh4 hh => ?_, XL0⟩
    obtain ⟨m1, m2, m3⟩ := x4.rest L _ k1 h2
    have x14 := x13.trans x4
    cases b with
    | true =>
      rw [if_pos rfl]
      refine ⟨s1, g4, _, X0, rs1.ext x4, rh4, hh, fun z u g5 H5 x5 rh5 du hh => ?_, XL0⟩
      obtain ⟨n1, n2, n3⟩ := x5.rest L _ m1 m2
      have nf : ¬ g5.F L := fun f => h3 (m3 (n3 f))
      have x35 := (x3.trans x4).trans x5
      have ex0 := Ext0.poke (K := K) (u := .lst (us ++ [u])) n1 nf
      have dvz : DVs K g5 H5 (acc ++ [z]) (us ++ [u]) := (da.ext x35).append ⟨u, [], rfl, du, rfl⟩
      refine ⟨us, n1, ?_, g5, acc ++ [z], us ++ [u], rh5.poke n1 n2 nf, (x14.trans x5).poke hL, upd_same, n2, nf, DVs.ext0 ex0 dvz, by rw [List.length_append]; show acc.length + 1 ≤ i + 1; omega, ?_⟩
      · rw [da.length]
        omega
      · have e : (fun zs g => q (acc ++ [z] ++ zs) g) = fun zs g => q (acc ++ (z :: zs)) g := by
          funext zs g
          rw [List.append_assoc]
          rfl
        rw [e]
        exact hh
    | false =>
      rw [if_neg Bool.false_ne_true]
      exact ⟨g4, acc, us, rh4, x14, m1, m2, fun f => h3 (m3 f), da.ext (x3.trans x4), by omega, hh⟩
  · have hh := ckP_out hh
    rw [List.drop_length] at hh
    have hh : q (acc ++ []) gh.h := hh
    rw [List.append_nil] at hh
    exact hq acc us gh H x2 rh2 h1 h2 h3 da hh
theorem dl_lc {elt tg iter : Expr} {ifs : List Expr} {scope : Scope} {own : List (Str × Nat)} {ti : TId} {g : TG} {gt : TCd} {tt : TTd} {te : TEd} (hc : X.calm = true) (hN : X.N.Nodup) (hi : DI X W tg iter ti) (ok : BlkOk X.N X.env.scope scope own) (cg : CG X.K (own.map (·.2)) g gt)
    (hg : ∀ (s : Shared) (H : Hp) (C : Addr) (cl : List (Str × Addr)) (fp : List Addr), PG (X.blk s H scope (compEnvC scope cl C X.env) fp) tg g) (ht : ∀ (s : Shared) (H : Hp) (C : Addr) (cl : List (Str × Addr)) (fp : List Addr), PTs (X.blk s H scope (compEnvC scope cl C X.env) fp) ifs (liftT X.K W0 tt))
    (he : ∀ (s : Shared) (H : Hp) (C : Addr) (cl : List (Str × Addr)) (fp : List Addr), DE (X.blk s H scope (compEnvC scope cl C X.env) fp) W0 elt te) (hs : ∀ x, foldedSetIterable iter X.env x = pure x := by intro _; rfl) :
    DLs X W (.ListComp elt [⟨tg, iter, ifs, 0⟩] scope pos) (dLc ti gt tt te (own.map (·.2))) :=
  PE_mono (pe_lc hc hN hi ok hg ht he hs) fun σ H Q ⟨s, g0, q, x, rs, rh, h, ql, xl⟩ => ⟨s, g0, _, x, rs, rh, h, fun ds o J g1 H1 x1 rh1 wd ⟨hz, hh⟩ L hL =>
    lc_walk cg (rs.ext x1) rh1 wd hz hh hL fun ys us g' H' x' rh' h1 h2 h3 r hh => ql ys L us g' H' (x1.trans x') rh' h1 (x1.there L hL) h2 h3 r hh, xl⟩
end
end DL

/-! DH: operators, comparisons, truth, subscripts. -/
namespace DL
open PySem PySem.Spec PyProof.Rows L2
/-! ### equality of data -/
mutual
def pdOf : D → Option PyData
  | .non => some .none
  | .bl b => some (.bool b)
  | .int i => some (.int i)
  | .str x => some (.str x)
  | .tup ds => (pdsOf ds).map .tuple
  | .fl ds => (pdsOf ds).map .list
  | _ => none
def pdsOf : List D → Option (List PyData)
  | [] => some []
  | d :: ds => (pdOf d).bind fun p => (pdsOf ds).map (p :: ·)
end
mutual
inductive Pd (g : Hd) : D → PyData → Prop
  | non : Pd g .non .none
  | bl (b : Bool) : Pd g (.bl b) (.bool b)
  | int (i : Int) : Pd g (.int i) (.int i)
  | str (x : Str) : Pd g (.str x) (.str x)
  | tup {ds : List D} {ps : List PyData} : Pds g ds ps → Pd g (.tup ds) (.tuple ps)
  | fl {ds : List D} {ps : List PyData} : Pds g ds ps → Pd g (.fl ds) (.list ps)
  | lst {a : Addr} {ds : List D} {ps : List PyData} : g a = some (.lst ds) → Pds g ds ps → Pd g (.ref a) (.list ps)
inductive Pds (g : Hd) : List D → List PyData → Prop
  | nil : Pds g [] []
  | cons {d : D} {ds : List D} {p : PyData} {ps : List PyData} : Pd g d p → Pds g ds ps → Pds g (d :: ds) (p :: ps)
end
mutual
theorem pd_of {g : Hd} : ∀ {d : D} {p : PyData}, pdOf d = some p → Pd g d p
  | .non, _, h => by cases h; exact .non
  | .bl b, _, h => by cases h; exact .bl b
  | .int i, _, h => by cases h; exact .int i
  | .str x, _, h => by cases h; exact .str x
  | .tup ds, p, h => by
    have h : (pdsOf ds).map PyData.tuple = some p := h
    obtain ⟨ps, h1, h2⟩ := Option.map_eq_some_iff.mp h
    subst h2
    exact .tup (pds_of h1)
  | .fl ds, p, h => by
    have h : (pdsOf ds).map PyData.list = some p := h
    obtain ⟨ps, h1, h2⟩ := Option.map_eq_some_iff.mp h
    subst h2
    exact .fl (pds_of h1)
  | .obj _ _, _, h => by cases h
  | .exc _ _ _ _, _, h => by cases h
  | .ref _, _, h => by cases h
  | .ty _, _, h => by cases h
theorem pds_of {g : Hd} : ∀ {ds : List D} {ps : List PyData}, pdsOf ds = some ps → Pds g ds ps
  | [], _, h => by cases h; exact .nil
  | d :: ds, ps, h => by
    have h : ((pdOf d).bind fun p => (pdsOf ds).map (p :: ·)) = some ps := h
    obtain ⟨p, h1, h2⟩ := Option.bind_eq_some_iff.mp h
    obtain ⟨qs, h3, h4⟩ := Option.map_eq_some_iff.mp h2
    subst h4
    exact .cons (pd_of h1) (pds_of h3)
end
mutual
theorem Pd.dp {K : Frag} {g : Gh} {H : Hp} (rh : RH K g H) : ∀ (d : D) (p : PyData) (v : V), Pd g.h d p → DV K g H d v → Dp K H v p
  | .non, p, v, h, dv => by
    cases h
    rw [show v = .non from dv]
    exact .non
  | .bl b, p, v, h, dv => by
    cases h
    rw [show v = .bl b from dv]
    exact .bl b
  | .int b, p, v, h, dv => by
    cases h
    rw [show v = .int b from dv]
    exact .int b
  | .str b, p, v, h, dv => by
    cases h
    rw [show v = .str b from dv]
    exact .str b
  | .tup ds, p, v, h, dv => by
    cases h with
    | tup h =>
      obtain ⟨a, vs, e, t, r⟩ := dv
      rw [e]
      exact .tup t.sq (Pds.dp rh ds _ vs h r)
  | .fl ds, p, v, h, dv => by
    cases h with
    | fl h =>
      obtain ⟨a, vs, e, t, r⟩ := dv
      rw [e]
      exact .lst t.sq (Pds.dp rh ds _ vs h r)
  | .ref a, .list ps, v, h, dv => by
    cases h with
    | lst hg h =>
      rename_i ds
      obtain ⟨vs, h1, r⟩ := rh.at_ a _ hg
      rw [show v = .ref a from dv]
      exact .lst (SqL.of h1) (Pds.dp rh ds ps vs h r)
  | .obj _ _, p, v, h, dv => by cases h
  | .exc _ _ _ _, p, v, h, dv => by cases h
  | .ty _, p, v, h, dv => by cases h
termination_by d p => sizeOf p
theorem Pds.dp {K : Frag} {g : Gh} {H : Hp} (rh : RH K g H) : ∀ (ds : List D) (ps : List PyData) (vs : List V), Pds g.h ds ps → DVs K g H ds vs → DpAll K H vs ps
  | [], p, v, h, dv => by
    cases h
    rw [show v = [] from dv]
    exact .nil
  | d :: ds, p :: ps, v, h, dv => by
    cases h with
    | cons h1 h2 =>
      obtain ⟨u, r, e, q1, q2⟩ := dv
      rw [e]
      exact .cons (Pd.dp rh d p u h1 q1) (Pds.dp rh ds ps r h2 q2)
termination_by ds ps => sizeOf ps
end
@[irreducible] def strEq (x y : Str) : Bool := decide (x = y)
theorem strEq_eq (x y : Str) : strEq x y = decide (x = y) := by unfold strEq; rfl
theorem strEq_self (x : Str) : strEq x x = true := by rw [strEq_eq]; simp
theorem strEq_ne {x y : Str} (h : x ≠ y) : strEq x y = false := by rw [strEq_eq]; simp [h]
/-- two scalars -/
def eqSc : D → D → Option Bool
  | .non, .non => some true
  | .non, .int _ => some false
  | .int _, .non => some false
  | .non, .bl _ => some false
  | .bl _, .non => some false
  | .non, .str _ => some false
  | .str _, .non => some false
  | .int i, .int j => some (decide (i = j))
  | .bl i, .bl j => some (i == j)
  | .str x, .str y => some (strEq x y)
  | .int _, .str _ => some false
  | .str _, .int _ => some false
  | .bl _, .str _ => some false
  | .str _, .bl _ => some false
  | _, _ => none
theorem eqSc_ok {K : Frag} {g : Gh} {H : Hp} {d e : D} {x y : V} {b : Bool} (h : eqSc d e = some b) (dx : DV K g H d x) (ey : DV K g H e y) : scal x y = true ∧ decide (x = y) = b := by
  cases d with
  | bl i =>
    cases e with
    | bl j =>
      cases h
      rw [show x = .bl i from dx, show y = .bl j from ey]
      exact ⟨rfl, dec_bl⟩
    | _ => first
      | (cases h; rw [show x = _ from dx, show y = _ from ey]; exact ⟨rfl, by simp⟩)
      | (cases h)
  | str i =>
    cases e with
    | str j =>
      cases h
      rw [show x = .str i from dx, show y = .str j from ey]
      exact ⟨rfl, by rw [strEq_eq]; simp⟩
    | _ => first
      | (cases h; rw [show x = _ from dx, show y = _ from ey]; exact ⟨rfl, by simp⟩)
      | (cases h)
  | _ =>
    cases e <;> first
      | (cases h; rw [show x = _ from dx, show y = _ from ey]; exact ⟨rfl, by simp⟩)
      | (cases h)
def rdEq : R2d := fun d e g Q => match eqSc d e with
  | some b => Q (.bl b) g
  | none => ∃ p q, Pd g d p ∧ Pd g e q ∧ SeqAt.shaped p = true ∧ SeqAt.shaped q = true ∧ Q (.bl (PyData.eqv p q)) g
def rdNe : R2d := fun d e g Q => match eqSc d e with
  | some b => Q (.bl (!b)) g
  | none => ∃ p q, Pd g d p ∧ Pd g e q ∧ SeqAt.shaped p = true ∧ SeqAt.shaped q = true ∧ Q (.bl (!PyData.eqv p q)) g
theorem opl_eq {K : Frag} : OpL K rdEq (fun x y H Q => rEq x y H Q ∨ rEqD K x y H Q) := fun d e x y g H q Q rh dx ey h ql => by
  unfold rdEq at h
  split at h
  · rename_i b hb
    obtain ⟨h1, h2⟩ := eqSc_ok hb dx ey
    exact .inl ⟨h1, by rw [h2]; exact ql (.bl b) (.bl b) g H Ext.refl rh rfl h⟩
  · obtain ⟨p, r, h1, h2, h3, h4, h5⟩ := h
    exact .inr ⟨p, r, h1.dp rh d p x dx, h2.dp rh e r y ey, h3, h4, ql (.bl _) (.bl _) g H Ext.refl rh rfl h5⟩
theorem opl_ne {K : Frag} : OpL K rdNe (fun x y H Q => rNe x y H Q ∨ rNeD K x y H Q) := fun d e x y g H q Q rh dx ey h ql => by
  unfold rdNe at h
  split at h
  · rename_i b hb
    obtain ⟨h1, h2⟩ := eqSc_ok hb dx ey
    exact .inl ⟨h1, by rw [h2]; exact ql (.bl (!b)) (.bl (!b)) g H Ext.refl rh rfl h⟩
  · obtain ⟨p, r, h1, h2, h3, h4, h5⟩ := h
    exact .inr ⟨p, r, h1.dp rh d p x dx, h2.dp rh e r y ey, h3, h4, ql (.bl _) (.bl _) g H Ext.refl rh rfl h5⟩
section
variable {X : Cx} {W : WX} {a b c : Expr} {ta tb tc : TEd} {pos : Pos}
theorem or_eq (hu : X.A.units + 64 < cLine) : OpR X (compareOp .Eq) (fun x y H Q => rEq x y H Q ∨ rEqD X.K x y H Q) := op_eq.or (op_eqD hu)
theorem or_ne (hu : X.A.units + 64 < cLine) : OpR X (compareOp .NotEq) (fun x y H Q => rNe x y H Q ∨ rNeD X.K x y H Q) := op_ne.or (op_neD hu)
theorem de_eq (hu : X.A.units + 64 < cLine) (ha : DE X W a ta) (hb : DE X W b tb) : DE X W (.Compare a [.Eq] [b] pos) (dOp rdEq ta tb) := de_cmp (or_eq hu) opl_eq ha hb (nomark _)
theorem dt_eq (hu : X.A.units + 64 < cLine) (ha : DE X W a ta) (hb : DE X W b tb) : DT X W (.Compare a [.Eq] [b] pos) (dTest (dOp rdEq ta tb)) := dt_cmp (or_eq hu) opl_eq ha hb (nomark _)
theorem de_ne (hu : X.A.units + 64 < cLine) (ha : DE X W a ta) (hb : DE X W b tb) : DE X W (.Compare a [.NotEq] [b] pos) (dOp rdNe ta tb) := de_cmp (or_ne hu) opl_ne ha hb (nomark _)
theorem dt_ne (hu : X.A.units + 64 < cLine) (ha : DE X W a ta) (hb : DE X W b tb) : DT X W (.Compare a [.NotEq] [b] pos) (dTest (dOp rdNe ta tb)) := dt_cmp (or_ne hu) opl_ne ha hb (nomark _)
/-! ### ints -/
def rd2 (f : Int → Int → D) : R2d := fun d e g Q => asI d fun i => asI e fun j => Q (f i j) g
def rd2C (C : Int → Int → Prop) (f : Int → Int → D) : R2d := fun d e g Q => asI d fun i => asI e fun j => C i j ∧ Q (f i j) g
theorem opl_i {K : Frag} {f : Int → Int → Int} : OpL K (rd2 fun i j => .int (f i j)) (rI0 fun i j => .int (f i j)) := fun d e x y g H q Q rh dx ey h ql => by
  obtain ⟨i, e1, h⟩ := asI_ok h
  obtain ⟨j, e2, h⟩ := asI_ok h
  subst e1 e2
  exact ⟨i, j, dx, ey, ql (.int _) (.int _) g H Ext.refl rh rfl h⟩
theorem opl_iC {K : Frag} {C : Int → Int → Prop} {f : Int → Int → Int} : OpL K (rd2C C fun i j => .int (f i j)) (rI C fun i j => .int (f i j)) := fun d e x y g H q Q rh dx ey h ql => by
  obtain ⟨i, e1, h⟩ := asI_ok h
  obtain ⟨j, e2, h⟩ := asI_ok h
  subst e1 e2
  exact ⟨i, j, dx, ey, h.1, ql (.int _) (.int _) g H Ext.refl rh rfl h.2⟩
theorem opl_b {K : Frag} {f : Int → Int → Bool} : OpL K (rd2 fun i j => .bl (f i j)) (rI0 fun i j => .bl (f i j)) := fun d e x y g H q Q rh dx ey h ql => by
  obtain ⟨i, e1, h⟩ := asI_ok h
  obtain ⟨j, e2, h⟩ := asI_ok h
  subst e1 e2
  exact ⟨i, j, dx, ey, ql (.bl _) (.bl _) g H Ext.refl rh rfl h⟩
theorem de_sub (ha : DE X W a ta) (hb : DE X W b tb) : DE X W (.BinOp a .Sub b pos) (dOp (rd2 fun i j => .int (i - j)) ta tb) := de_op op_sub opl_i ha hb
theorem de_addI (ha : DE X W a ta) (hb : DE X W b tb) : DE X W (.BinOp a .Add b pos) (dOp (rd2 fun i j => .int (i + j)) ta tb) := de_op op_add opl_i ha hb
theorem de_mulI (ha : DE X W a ta) (hb : DE X W b tb) : DE X W (.BinOp a .Mult b pos) (dOp (rd2C CMul fun i j => .int (i * j)) ta tb) := de_op op_mul opl_iC ha hb
theorem de_mod (ha : DE X W a ta) (hb : DE X W b tb) : DE X W (.BinOp a .Mod b pos) (dOp (rd2C (fun _ j => 0 < j) fun i j => .int (i % j)) ta tb) := de_op op_mod opl_iC ha hb
theorem de_fdiv (ha : DE X W a ta) (hb : DE X W b tb) : DE X W (.BinOp a .FloorDiv b pos) (dOp (rd2C CDiv fun i j => .int (i / j)) ta tb) := de_op op_fdiv opl_iC ha hb
theorem de_pow (ha : DE X W a ta) (hb : DE X W b tb) : DE X W (.BinOp a .Pow b pos) (dOp (rd2C CPow fun i j => .int (i ^ j.toNat)) ta tb) := de_op op_pow opl_iC ha hb
abbrev rdLt : R2d := rd2 fun i j => .bl (decide (i < j))
abbrev rdLe : R2d := rd2 fun i j => .bl (decide (i ≤ j))
abbrev rdGt : R2d := rd2 fun i j => .bl (decide (j < i))
abbrev rdGe : R2d := rd2 fun i j => .bl (decide (j ≤ i))
theorem de_lt (ha : DE X W a ta) (hb : DE X W b tb) : DE X W (.Compare a [.Lt] [b] pos) (dOp rdLt ta tb) := de_cmp op_lt opl_b ha hb (nomark _)
theorem de_le (ha : DE X W a ta) (hb : DE X W b tb) : DE X W (.Compare a [.LtE] [b] pos) (dOp rdLe ta tb) := de_cmp op_le opl_b ha hb (nomark _)
theorem de_gt (ha : DE X W a ta) (hb : DE X W b tb) : DE X W (.Compare a [.Gt] [b] pos) (dOp rdGt ta tb) := de_cmp op_gt opl_b ha hb (nomark _)
theorem de_ge (ha : DE X W a ta) (hb : DE X W b tb) : DE X W (.Compare a [.GtE] [b] pos) (dOp rdGe ta tb) := de_cmp op_ge opl_b ha hb (nomark _)
theorem dt_lt (ha : DE X W a ta) (hb : DE X W b tb) : DT X W (.Compare a [.Lt] [b] pos) (dTest (dOp rdLt ta tb)) := dt_cmp op_lt opl_b ha hb (nomark _)
theorem dt_le (ha : DE X W a ta) (hb : DE X W b tb) : DT X W (.Compare a [.LtE] [b] pos) (dTest (dOp rdLe ta tb)) := dt_cmp op_le opl_b ha hb (nomark _)
theorem dt_gt (ha : DE X W a ta) (hb : DE X W b tb) : DT X W (.Compare a [.Gt] [b] pos) (dTest (dOp rdGt ta tb)) := dt_cmp op_gt opl_b ha hb (nomark _)
theorem dt_ge (ha : DE X W a ta) (hb : DE X W b tb) : DT X W (.Compare a [.GtE] [b] pos) (dTest (dOp rdGe ta tb)) := dt_cmp op_ge opl_b ha hb (nomark _)
/-- chains of two of < and <= -/
theorem de_lele (ha : DE X W a ta) (hb : DE X W b tb) (hc : DE X W c tc) (hm : lastMarks [.LtE, .LtE] [b, c] = false := by with_unfolding_all rfl) : DE X W (.Compare a [.LtE, .LtE] [b, c] pos) (dChain rdLe rdLe ta tb tc) := de_chain op_le opl_b op_le opl_b ha hb hc hm
theorem dt_lele (ha : DE X W a ta) (hb : DE X W b tb) (hc : DE X W c tc) (hm : lastMarks [.LtE, .LtE] [b, c] = false := by with_unfolding_all rfl) : DT X W (.Compare a [.LtE, .LtE] [b, c] pos) (dTest (dChain rdLe rdLe ta tb tc)) := dt_chain op_le opl_b op_le opl_b ha hb hc hm
theorem de_lelt (ha : DE X W a ta) (hb : DE X W b tb) (hc : DE X W c tc) (hm : lastMarks [.LtE, .Lt] [b, c] = false := by with_unfolding_all rfl) : DE X W (.Compare a [.LtE, .Lt] [b, c] pos) (dChain rdLe rdLt ta tb tc) := de_chain op_le opl_b op_lt opl_b ha hb hc hm
theorem dt_lelt (ha : DE X W a ta) (hb : DE X W b tb) (hc : DE X W c tc) (hm : lastMarks [.LtE, .Lt] [b, c] = false := by with_unfolding_all rfl) : DT X W (.Compare a [.LtE, .Lt] [b, c] pos) (dTest (dChain rdLe rdLt ta tb tc)) := dt_chain op_le opl_b op_lt opl_b ha hb hc hm
def dUn (r : D → Hd → Qd → Prop) (ta : TEd) : TEd := fun s g q x => ta s g (fun d g1 => r d g1 q) x
theorem de_neg (ha : DE X W a ta) : DE X W (.UnaryOp .USub a pos) (dUn (fun d g Q => asI d fun i => Q (.int (-i)) g) ta) := PE_mono (pe_un un_neg ha) fun σ H Q ⟨s, g, q, x, rs, rh, h, ql, xl⟩ => ⟨s, g, _, x, rs, rh, h, fun d v g1 H1 x1 rh1 dv hh => by
  obtain ⟨i, e, hh⟩ := asI_ok hh
  subst e
  exact ⟨i, dv, ql (.int _) (.int _) g1 H1 x1 rh1 rfl hh⟩, xl⟩
/-! ### is None -/
def dNonB : D → Bool
  | .non => true
  | _ => false
theorem dNon_ok {K : Frag} {g : Gh} {H : Hp} {d : D} {x : V} (dx : DV K g H d x) : decide (x = .non) = dNonB d := by
  cases d <;> first
    | (rw [show x = _ from dx]; simp [dNonB])
    | (rw [show x = _ from dx.1]; simp [dNonB])
    | (obtain ⟨p, vs, e, _⟩ := dx; rw [show x = .ref p from e]; simp [dNonB])
    | (obtain ⟨p, d0, vs, e, _⟩ := dx; rw [show x = .ref p from e]; simp [dNonB])
theorem opl_isN {K : Frag} : OpL K (fun d e g Q => dNonB e = true ∧ Q (.bl (dNonB d)) g) (fun x y H Q => y = .non ∧ Q (.bl (decide (x = .non))) H) := fun d e x y g H q Q rh dx ey h ql => by
  have z := dNon_ok ey
  rw [h.1] at z
  exact ⟨of_decide_eq_true z, by rw [dNon_ok dx]; exact ql (.bl _) (.bl _) g H Ext.refl rh rfl h.2⟩
theorem opl_notN {K : Frag} : OpL K (fun d e g Q => dNonB e = true ∧ Q (.bl (!dNonB d)) g) (fun x y H Q => y = .non ∧ Q (.bl (!decide (x = .non))) H) := fun d e x y g H q Q rh dx ey h ql => by
  have z := dNon_ok ey
  rw [h.1] at z
  exact ⟨of_decide_eq_true z, by rw [dNon_ok dx]; exact ql (.bl _) (.bl _) g H Ext.refl rh rfl h.2⟩
def dIsN (ta : TEd) : TEd := fun s g q x => ta s g (fun d g1 => q (.bl (dNonB d)) g1) x
def dNotN (ta : TEd) : TEd := fun s g q x => ta s g (fun d g1 => q (.bl (!dNonB d)) g1) x
theorem de_isN {j p'} (ha : DE X W a ta) : DE X W (.Compare a [.Is] [.Constant .none j p'] pos) (dIsN ta) := PE_mono (pe_cmpR op_isN ha (pe_non (j := j) (pos := p')) (nomark _)) fun σ H Q ⟨s, g, q, x, rs, rh, h, ql, xl⟩ =>
  ⟨s, g, _, x, rs, rh, h, fun d v g1 H1 x1 rh1 dv hh => ⟨rfl, by rw [dNon_ok dv]; exact ql (.bl _) (.bl _) g1 H1 x1 rh1 rfl hh⟩, xl⟩
theorem de_notN {j p'} (ha : DE X W a ta) : DE X W (.Compare a [.IsNot] [.Constant .none j p'] pos) (dNotN ta) := PE_mono (pe_cmpR op_notN ha (pe_non (j := j) (pos := p')) (nomark _)) fun σ H Q ⟨s, g, q, x, rs, rh, h, ql, xl⟩ =>
  ⟨s, g, _, x, rs, rh, h, fun d v g1 H1 x1 rh1 dv hh => ⟨rfl, by rw [dNon_ok dv]; exact ql (.bl _) (.bl _) g1 H1 x1 rh1 rfl hh⟩, xl⟩
theorem dt_isN {j p'} (ha : DE X W a ta) : DT X W (.Compare a [.Is] [.Constant .none j p'] pos) (dTest (dIsN ta)) := PT_mono (pt_cmpR op_isN ha (pe_non (j := j) (pos := p')) (nomark _)) fun σ H Q ⟨s, g, q, x, rs, rh, h, ql, xl⟩ =>
  ⟨s, g, _, x, rs, rh, h, fun d v g1 H1 x1 rh1 dv hh => ⟨rfl, by rw [dNon_ok dv]; exact (asB_ok ql) (.bl _) (.bl _) g1 H1 x1 rh1 rfl hh⟩, xl⟩
theorem dt_notN {j p'} (ha : DE X W a ta) : DT X W (.Compare a [.IsNot] [.Constant .none j p'] pos) (dTest (dNotN ta)) := PT_mono (pt_cmpR op_notN ha (pe_non (j := j) (pos := p')) (nomark _)) fun σ H Q ⟨s, g, q, x, rs, rh, h, ql, xl⟩ =>
  ⟨s, g, _, x, rs, rh, h, fun d v g1 H1 x1 rh1 dv hh => ⟨rfl, by rw [dNon_ok dv]; exact (asB_ok ql) (.bl _) (.bl _) g1 H1 x1 rh1 rfl hh⟩, xl⟩
/-! ### truth -/
def truD (d : D) (g : Hd) (q : Bool → Hd → Prop) : Prop := match d with
  | .non => q false g
  | .bl b => q b g
  | .int i => q (decide (i ≠ 0)) g
  | .str y => y.length ≤ sizeLine ∧ q (decide (y.length ≠ 0)) g
  | .tup ds => q (!ds.isEmpty) g
  | .fl ds => q (!ds.isEmpty) g
  | .ref a => ∃ o, g a = some o ∧ (match o with
    | .lst ds => q (!ds.isEmpty) g
    | .dK kvs => q (!kvs.isEmpty) g
    | _ => False)
  | _ => False
theorem isEmpty_dvs {K : Frag} {g : Gh} {H : Hp} {ds : List D} {vs : List V} (r : DVs K g H ds vs) : (!ds.isEmpty) = !vs.isEmpty := by
  have h := r.length
  cases ds <;> cases vs <;> first
    | rfl
    | (simp at h)
theorem DKs.length {κ : Type} {K : Frag} {g : Gh} {H : Hp} : ∀ {ds : List (κ × D)} {vs : List (κ × V)}, DKs K g H ds vs → vs.length = ds.length
  | [], _, h => by
    rw [show _ = [] from h]
    rfl
  | (f, d) :: ds, vs, h => by
    obtain ⟨v, r, e, h1, h2⟩ := h
    rw [e, List.length_cons, List.length_cons, DKs.length h2]
theorem dt_truth (ha : DE X W a ta) (he : ∀ whole, isTrue a X.env whole = (do let v ← whole; standAt a.pos; holding [v] (truthy v)) := by intro _; rfl) : DT X W a (fun s g q x => ta s g (fun d g1 => truD d g1 q) x) :=
  PT_mono (pt_truth ha he) fun σ H Q ⟨s, g, q, x, rs, rh, h, ql, xl⟩ => ⟨s, g, _, x, rs, rh, h, fun d v g1 H1 x1 rh1 dv hh => by
    cases d with
    | non => exact ⟨false, by rw [show v = .non from dv]; rfl, ql false g1 H1 x1 rh1 hh⟩
    | bl b => exact ⟨b, by rw [show v = .bl b from dv]; rfl, ql b g1 H1 x1 rh1 hh⟩
    | int i => exact ⟨decide (i ≠ 0), by rw [show v = .int i from dv]; show decide (i ≠ 0) = (i != 0); rw [Bool.eq_iff_iff]; simp, ql _ g1 H1 x1 rh1 hh⟩
    | str y => exact ⟨decide (y.length ≠ 0), by rw [show v = .str y from dv]; refine ⟨hh.1, ?_⟩; rw [Bool.eq_iff_iff]; simp, ql _ g1 H1 x1 rh1 hh.2⟩
    | tup ds =>
      obtain ⟨p, vs, e, t, r⟩ := dv
      exact ⟨!ds.isEmpty, by rw [show v = .ref p from e]; exact .inr (.inl ⟨vs, t.sq, isEmpty_dvs r⟩), ql _ g1 H1 x1 rh1 hh⟩
    | fl ds =>
      obtain ⟨p, vs, e, t, r⟩ := dv
      exact ⟨!ds.isEmpty, by rw [show v = .ref p from e]; exact .inl ⟨vs, t.sq, isEmpty_dvs r⟩, ql _ g1 H1 x1 rh1 hh⟩
    | ref a =>
      obtain ⟨o, hg, hh⟩ := hh
      have z := rh1.at_ a o hg
      cases o with
      | lst ds =>
        obtain ⟨vs, h1, r⟩ := z
        exact ⟨!ds.isEmpty, by rw [show v = .ref a from dv]; exact .inl ⟨vs, SqL.of h1, isEmpty_dvs r⟩, ql _ g1 H1 x1 rh1 hh⟩
      | dK kvs =>
        obtain ⟨vs, h1, r⟩ := z
        have hl := r.length
        exact ⟨!kvs.isEmpty, by rw [show v = .ref a from dv]; exact .inr (.inr ⟨vs, h1, by cases kvs <;> cases vs <;> first | rfl | (simp at hl)⟩), ql _ g1 H1 x1 rh1 hh⟩
      | _ => exact False.elim hh
    | _ => exact False.elim hh, xl⟩
end
end DL

/-! DJ: built-ins, subscripts, sums, list methods. -/
namespace DL
open PySem PySem.Spec PyProof.Rows L2
/-! ### forgetting at a def's end -/
def SubH (g0 g : Hd) : Prop := ∀ a o, g0 a = some o → g a = some o
theorem SubH.refl {g : Hd} : SubH g g := fun _ _ h => h
theorem SubH.trans {g0 g1 g2 : Hd} (a : SubH g0 g1) (b : SubH g1 g2) : SubH g0 g2 := fun p o h => b p o (a p o h)
theorem SubH.upd {g0 g : Hd} {p : Addr} {o : DO} (h : SubH g0 g) (n : g p = none) : SubH g0 (updD g p o) := fun a u e => by
  rw [updD_ne (neD (h a u e) n)]
  exact h a u e
theorem SubH.new {g : Hd} {p : Addr} {o : DO} (n : g p = none) : SubH g (updD g p o) := SubH.upd SubH.refl n
theorem SubH.both {g0 g : Hd} {p : Addr} {o : DO} (h : SubH g0 g) : SubH (updD g0 p o) (updD g p o) := fun a u e => by
  by_cases z : a = p
  · rw [z, updD_same] at e ⊢
    exact e
  · rw [updD_ne z] at e ⊢
    exact h a u e
/-- a change at a place that the smaller heap does not know -/
theorem SubH.out {g0 g : Hd} {p : Addr} {o : DO} (h : SubH g0 g) (n : g0 p = none) : SubH g0 (updD g p o) := fun a u e => by
  rw [updD_ne (neD e n)]
  exact h a u e
theorem Ext.sub {K : Frag} {g : Gh} {H : Hp} {g0 : Hd} (h : SubH g0 g.h) : Ext K g H ⟨g0, g.F⟩ H :=
  ⟨fun _ _ e => e, fun _ _ _ e => e, fun _ _ e n => ⟨e, n⟩, fun p _ e n => ⟨e, (by
    show g0 p = none
    cases q : g0 p with
    | none => rfl
    | some o =>
      rw [h p o q] at n
      cases n), fun z => z⟩, fun _ e => e⟩
theorem RH.sub {K : Frag} {g : Gh} {H : Hp} {g0 : Hd} (R : RH K g H) (h : SubH g0 g.h) : RH K ⟨g0, g.F⟩ H :=
  ⟨fun a o e => (R.at_ a o (h a o e)).ext' (Ext.sub h).zero fun _ q => q, fun a o e => R.apart a o (h a o e), R.there⟩
def sub (q : Qd) : Qd := fun d g => ∃ g0, SubH g0 g ∧ q d g0
def subE (x : Ed) : Ed := fun C fs g => ∃ g0, SubH g0 g ∧ x C fs g0
theorem QL.sub {K : Frag} {g : Gh} {H : Hp} {q : Qd} {Q : VK} (h : QL K g H q Q) : QL K g H (sub q) Q := fun d v g1 H1 x1 rh1 dv ⟨g0, s0, hh⟩ =>
  h d v ⟨g0, g1.F⟩ H1 (x1.trans (Ext.sub s0)) (rh1.sub s0) (dv.ext (Ext.sub s0)) hh
theorem ExR.ext {K : Frag} {g g1 : Gh} {H H1 : Hp} {cls : Value} {dd : Option Addr} {C : Addr} {fs : List (Str × D)} (h : ExR K g H cls dd C fs) (x : Ext K g H g1 H1) : ExR K g1 H1 cls dd C fs := by
  obtain ⟨h1, h2 | ⟨dx, us, h2, h3, hf, h4⟩⟩ := h
  · exact ⟨h1, .inl h2⟩
  · obtain ⟨h3, hf⟩ := x.set dx _ h3 hf
    exact ⟨h1, .inr ⟨dx, us, h2, h3, hf, h4.ext x⟩⟩
theorem EL.sub {K : Frag} {g : Gh} {H : Hp} {q : Ed} {Q : XK} (h : EL K g H q Q) : EL K g H (subE q) Q := fun C fs cls dd g1 H1 x1 rh1 er ⟨g0, s0, hh⟩ =>
  h C fs cls dd ⟨g0, g1.F⟩ H1 (x1.trans (Ext.sub s0)) (rh1.sub s0) (er.ext (Ext.sub s0)) hh
theorem sub_same {q : Qd} {d : D} {g : Hd} (h : q d g) : sub q d g := ⟨g, SubH.refl, h⟩
theorem subE_same {x : Ed} {C : Addr} {fs : List (Str × D)} {g : Hd} (h : x C fs g) : subE x C fs g := ⟨g, SubH.refl, h⟩
section
variable {P : Program} {w : World} {K : Frag} {mg : Str → Option Value} {base : Heap} {x qual : Str} {params : Arguments} {body : List Stmt} {scope : Scope} {dvs : List V} {kws : List (Str × V)} {f : Addr} {fd : FuncData}
/-- a def by its body; what its end does not need may be forgotten -/
theorem okDs {N ps : List Str} {k : Nat} {sp : Spd} {t : TSd} (F : FunD K x qual params body scope dvs kws f fd) (S : FnScope N ps scope) (len : ∀ ds g q x, sp ds g q x → ds.length = ps.length)
    (der : ∀ (cdv : Value) (A : Around) (outer : List Env) (s : Shared) (H : Hp) (E : XK), Room k (A.deeper (envOfC qual scope s.heap.objs.size f cdv)) → Takes (bodyX P w K mg base N qual scope f cdv A outer s H E) (bodyW E) →
      PassesOwn (model P w) (A.deeper (envOfC qual scope s.heap.objs.size f cdv)) (envOfC qual scope s.heap.objs.size f cdv) (bodyX P w K mg base N qual scope f cdv A outer s H E).xe → DSs (bodyX P w K mg base N qual scope f cdv A outer s H E) (bodyW E) body t)
    (pure : ∀ ds g q x, sp ds g q x → t (dnOf (sub q) (subE x)) (startD N ds) g) : FnD P w K mg base (k + 1) f fd ps sp := by
  have z : FnD P w K mg base (k + 1) f fd ps (fun ds g q x => ∃ q0 x0, sp ds g q0 x0 ∧ q = sub q0 ∧ x = subE x0) := okD (t := t) F S (fun ds g q x ⟨q0, x0, h, _, _⟩ => len ds g q0 x0 h) der fun ds g q x ⟨q0, x0, h, e1, e2⟩ => by
    rw [e1, e2]
    exact pure ds g q0 x0 h
  refine FnOk.imp z fun vs H Q E ⟨ds, g, q, x, dv, rh, h, ql, el⟩ => ⟨ds, g, sub q, subE x, dv, rh, ⟨q, x, h, rfl, rfl⟩, ql.sub, el.sub⟩
end
/-! ### calls of built-ins by values -/
def CallL (K : Frag) (rd : List D → Hd → Qd → Prop) (r : List V → Hp → VK → Prop) : Prop := ∀ ds vs (g : Gh) H q Q, RH K g H → DVs K g H ds vs → rd ds g.h q → QL K g H q Q → r vs H Q
def CallN (K : Frag) (rd : List D → Hd → Qd → Prop) (r : List V → Hp → VK → Prop) : Prop := ∀ ds L vs (g : Gh) H q Q, RH K g H → H L = some (.lst vs) → DVs K g H ds vs → rd ds g.h q → QL K g H q Q → r [.ref L] H Q
def dCB (rd : List D → Hd → Qd → Prop) (t : TAd) : TEd := fun s g q x => t s g (fun ds g1 => rd ds g1 q) x
def dCN (rd : List D → Hd → Qd → Prop) (t : TLd) : TEd := fun s g q x => t s g (fun ds g1 => rd ds g1 q) x
section
variable {X : Cx} {W : WX} {x : Str} {p pos : Pos} {e : Expr} {es : List Expr} {t : TAd} {tl : TLd} {id T : String} {r : List V → Hp → VK → Prop} {rd : List D → Hd → Qd → Prop}
theorem de_callB (hc : CallR X (.builtin id) r) (hl : CallL X.K rd r) (hm : X.mg x = none) (ha : DAr X W (e :: es) t) (hg : Gl X x := by rfl) (hv : bootBuiltins x = some (.builtin id) := by decide +kernel) (hn : x ≠ "__name__" := by decide) (hdb : (x == ("__debug__" : Str)) = false := by decide)
    (he : starEach (e :: es) X.env = (false, eval e X.env) :: starEach es X.env := by rfl) (hpl : (backTo pos (starEach es X.env)).any (·.1) = false := by rfl) : DE X W (.Call (.Name x p) (e :: es) [] pos) (dCB rd t) :=
  PE_mono (pe_callB hc hg hm hv ha hn hdb he hpl) fun σ H Q ⟨s, g, q, x, rs, rh, h, ql, xl⟩ => ⟨s, g, _, x, rs, rh, h, fun ds vs g1 H1 x1 rh1 dv hh => hl ds vs g1 H1 q Q rh1 dv hh (ql.ext x1), xl⟩
theorem de_callTy (hc : CallR X (.type T) r) (hl : CallL X.K rd r) (hm : X.mg x = none) (ha : DAr X W (e :: es) t) (hg : Gl X x := by rfl) (hv : bootBuiltins x = some (.type T) := by decide +kernel) (hn : x ≠ "__name__" := by decide) (hdb : (x == ("__debug__" : Str)) = false := by decide)
    (he : starEach (e :: es) X.env = (false, eval e X.env) :: starEach es X.env := by rfl) (hpl : (backTo pos (starEach es X.env)).any (·.1) = false := by rfl) : DE X W (.Call (.Name x p) (e :: es) [] pos) (dCB rd t) :=
  PE_mono (pe_callTy hc hg hm hv ha hn hdb he hpl) fun σ H Q ⟨s, g, q, x, rs, rh, h, ql, xl⟩ => ⟨s, g, _, x, rs, rh, h, fun ds vs g1 H1 x1 rh1 dv hh => hl ds vs g1 H1 q Q rh1 dv hh (ql.ext x1), xl⟩
theorem pa1L {he' : DLs X W e tl} (hs : starEach (e :: []) X.env = (false, eval e X.env) :: starEach [] X.env := by rfl) : PA X [e] (tCons (liftL X.K W tl) tNil) := pa_cons he' pa_nil hs
theorem de_callBN (hc : CallR X (.builtin id) r) (hl : CallN X.K rd r) (hm : X.mg x = none) (ha : DLs X W e tl) (hg : Gl X x := by rfl) (hv : bootBuiltins x = some (.builtin id) := by decide +kernel) (hn : x ≠ "__name__" := by decide) (hdb : (x == ("__debug__" : Str)) = false := by decide)
    (he : starEach (e :: []) X.env = (false, eval e X.env) :: starEach [] X.env := by rfl) (hpl : (backTo pos (starEach [] X.env)).any (·.1) = false := by rfl) : DE X W (.Call (.Name x p) [e] [] pos) (dCN rd tl) :=
  PE_mono (pe_callB hc hg hm hv (pa_cons ha pa_nil he) hn hdb he hpl) fun σ H Q ⟨s, g, q, x, rs, rh, h, ql, xl⟩ => ⟨s, g, _, x, rs, rh, h, fun ds L vs g1 H1 x1 rh1 hL _ _ _ dv hh => hl ds L vs g1 H1 q Q rh1 hL dv hh (ql.ext x1), xl⟩
theorem de_callTyN (hc : CallR X (.type T) r) (hl : CallN X.K rd r) (hm : X.mg x = none) (ha : DLs X W e tl) (hg : Gl X x := by rfl) (hv : bootBuiltins x = some (.type T) := by decide +kernel) (hn : x ≠ "__name__" := by decide) (hdb : (x == ("__debug__" : Str)) = false := by decide)
    (he : starEach (e :: []) X.env = (false, eval e X.env) :: starEach [] X.env := by rfl) (hpl : (backTo pos (starEach [] X.env)).any (·.1) = false := by rfl) : DE X W (.Call (.Name x p) [e] [] pos) (dCN rd tl) :=
  PE_mono (pe_callTy hc hg hm hv (pa_cons ha pa_nil he) hn hdb he hpl) fun σ H Q ⟨s, g, q, x, rs, rh, h, ql, xl⟩ => ⟨s, g, _, x, rs, rh, h, fun ds L vs g1 H1 x1 rh1 hL _ _ _ dv hh => hl ds L vs g1 H1 q Q rh1 hL dv hh (ql.ext x1), xl⟩
/-- a written list as a new list -/
def dLstN (t : TAd) : TLd := fun s g q x => t s g (fun ds g1 => ds.length ≤ sizeLine ∧ q ds g1) x
theorem dl_lst (h : DAr X W es t) : DLs X W (.List es pos) (dLstN t) :=
  PE_mono (pe_lst h) fun σ H Q ⟨s, g, q, x, rs, rh, h, ql, xl⟩ => ⟨s, g, _, x, rs, rh, h, fun ds vs g1 H1 x1 rh1 dv ⟨hz, h1⟩ => ⟨by rw [dv.length]; exact hz, fun p hp =>
    ql ds p vs g1 _ (x1.trans (Ext.new0 hp)) (rh1.new0 hp) upd_same (x1.there p hp) (rh1.fresh hp) (rh1.nset hp) (dv.ext (Ext.new0 hp)) h1⟩, xl⟩
end
/-! ### the built-ins -/
section
variable {K : Frag}
def rdInt : List D → Hd → Qd → Prop := fun ds g Q => arg1 ds fun d => match d with
  | .int i => Q (.int i) g
  | .bl b => Q (.int (if b then 1 else 0)) g
  | _ => False
theorem cl_int : CallL K rdInt (fun xs H Q => (∃ i, xs = [.int i] ∧ Q (.int i) H) ∨ ∃ k, xs = [.bl k] ∧ Q (.int (if k then 1 else 0)) H) := fun ds vs g H q Q rh dv h ql => by
  obtain ⟨d, e, h⟩ := arg1_ok h
  subst e
  obtain ⟨v, e, r⟩ := dvs1 dv
  subst e
  cases d with
  | int i => exact .inl ⟨i, by rw [show v = .int i from r], ql (.int i) (.int i) g H Ext.refl rh rfl h⟩
  | bl b => exact .inr ⟨b, by rw [show v = .bl b from r], ql (.int _) (.int _) g H Ext.refl rh rfl h⟩
  | _ => exact False.elim h
def rdAbs : List D → Hd → Qd → Prop := fun ds g Q => arg1 ds fun d => asI d fun i => Q (.int (if i < 0 then -i else i)) g
theorem cl_abs : CallL K rdAbs (fun xs H Q => ∃ i, xs = [.int i] ∧ Q (.int (if i < 0 then -i else i)) H) := fun ds vs g H q Q rh dv h ql => by
  obtain ⟨d, e, h⟩ := arg1_ok h
  obtain ⟨i, e2, h⟩ := asI_ok h
  subst e e2
  exact ⟨i, dvI1 dv, ql (.int _) (.int _) g H Ext.refl rh rfl h⟩
def rdMax : List D → Hd → Qd → Prop := fun ds g Q => arg2 ds fun d e => asI d fun i => asI e fun j => Q (.int (max i j)) g
def rdMin : List D → Hd → Qd → Prop := fun ds g Q => arg2 ds fun d e => asI d fun i => asI e fun j => Q (.int (min i j)) g
theorem cl_max : CallL K rdMax (fun xs H Q => ∃ i j, xs = [.int i, .int j] ∧ Q (.int (if j > i then j else i)) H) := fun ds vs g H q Q rh dv h ql => by
  obtain ⟨d, e, e1, h⟩ := arg2_ok h
  obtain ⟨i, e2, h⟩ := asI_ok h
  obtain ⟨j, e3, h⟩ := asI_ok h
  subst e1 e2 e3
  refine ⟨i, j, dvI2 dv, ?_⟩
  have z : (if j > i then j else i) = max i j := by split <;> omega
  rw [z]
  exact ql (.int _) (.int _) g H Ext.refl rh rfl h
theorem cl_min : CallL K rdMin (fun xs H Q => ∃ i j, xs = [.int i, .int j] ∧ Q (.int (if j < i then j else i)) H) := fun ds vs g H q Q rh dv h ql => by
  obtain ⟨d, e, e1, h⟩ := arg2_ok h
  obtain ⟨i, e2, h⟩ := asI_ok h
  obtain ⟨j, e3, h⟩ := asI_ok h
  subst e1 e2 e3
  refine ⟨i, j, dvI2 dv, ?_⟩
  have z : (if j < i then j else i) = min i j := by split <;> omega
  rw [z]
  exact ql (.int _) (.int _) g H Ext.refl rh rfl h
def rdStr : List D → Hd → Qd → Prop := fun ds g Q => arg1 ds fun d => asI d fun i => i.natAbs.log2 < 1920 ∧ Q (.str (toString i)) g
theorem cl_str : CallL K rdStr (fun xs H Q => ∃ i, xs = [.int i] ∧ i.natAbs.log2 < 1920 ∧ Q (.str (toString i)) H) := fun ds vs g H q Q rh dv h ql => by
  obtain ⟨d, e, h⟩ := arg1_ok h
  obtain ⟨i, e2, h⟩ := asI_ok h
  subst e e2
  exact ⟨i, dvI1 dv, h.1, ql (.str _) (.str _) g H Ext.refl rh rfl h.2⟩
/-- how long a value is -/
@[irreducible] def lenD (d : D) (g : Hd) (q : Nat → Prop) : Prop := match d with
  | .tup ds => q ds.length
  | .fl ds => q ds.length
  | .str y => y.length ≤ sizeLine ∧ q y.length
  | .ref a => ∃ ds, g a = some (.lst ds) ∧ q ds.length
  | _ => False
def rdLen : List D → Hd → Qd → Prop := fun ds g Q => arg1 ds fun d => lenD d g fun n => Q (.int (n : Nat)) g
theorem cl_len : CallL K rdLen (fun xs H Q => ∃ x n, xs = [x] ∧ LenV K x H n ∧ Q (.int (n : Nat)) H) := fun ds vs g H q Q rh dv h ql => by
  obtain ⟨d, e, h⟩ := arg1_ok h
  subst e
  obtain ⟨v, e, r⟩ := dvs1 dv
  subst e
  have fin : ∀ n : Nat, q (.int n) g.h → Q (.int n) H := fun n hh => ql (.int _) (.int _) g H Ext.refl rh rfl hh
  have h : lenD d g.h (fun n => q (.int (n : Nat)) g.h) := h
  unfold lenD at h
  cases d with
  | tup ds =>
    obtain ⟨p, us, e, t, r⟩ := r
    exact ⟨v, ds.length, rfl, by rw [e]; exact .inr ⟨us, t.sq, r.length.symm⟩, fin _ h⟩
  | fl ds =>
    obtain ⟨p, us, e, t, r⟩ := r
    exact ⟨v, ds.length, rfl, by rw [e]; exact .inl ⟨us, t.sq, r.length.symm⟩, fin _ h⟩
  | str y => exact ⟨v, y.length, rfl, by rw [show v = .str y from r]; exact ⟨h.1, rfl⟩, fin _ h.2⟩
  | ref a =>
    obtain ⟨ds, hg, h⟩ := h
    obtain ⟨us, h1, r'⟩ := rh.at_ a _ hg
    exact ⟨v, ds.length, rfl, by rw [show v = .ref a from r]; exact .inl ⟨us, SqL.of h1, r'.length.symm⟩, fin _ h⟩
  | _ => exact False.elim h
/-- a list or a tuple that is read whole -/
@[irreducible] def seqD (d : D) (g : Hd) (q : List D → Prop) : Prop := match d with
  | .tup ds => q ds
  | .fl ds => q ds
  | .ref a => ∃ ds, g a = some (.lst ds) ∧ q ds
  | _ => False
theorem seqD_ok {d : D} {g : Gh} {H : Hp} {q : List D → Prop} {v : V} (rh : RH K g H) (dv : DV K g H d v) (h : seqD d g.h q) : ∃ p ds vs, v = .ref p ∧ (SqL K H p vs ∨ SqT K H p vs) ∧ DVs K g H ds vs ∧ q ds := by
  unfold seqD at h
  cases d with
  | tup ds =>
    obtain ⟨p, us, e, t, r⟩ := dv
    exact ⟨p, ds, us, e, .inr t.sq, r, h⟩
  | fl ds =>
    obtain ⟨p, us, e, t, r⟩ := dv
    exact ⟨p, ds, us, e, .inl t.sq, r, h⟩
  | ref a =>
    obtain ⟨ds, hg, h⟩ := h
    obtain ⟨us, h1, r'⟩ := rh.at_ a _ hg
    exact ⟨a, ds, us, dv, .inl (SqL.of h1), r', h⟩
  | _ => exact False.elim h
/-- list(x): a new list -/
def rdList : List D → Hd → Qd → Prop := fun ds g Q => arg1 ds fun d => seqD d g fun es => ∀ p, g p = none → Q (.ref p) (updD g p (.lst es))
theorem cl_list : CallL K rdList (fun xs H Q => ∃ p ys, xs = [.ref p] ∧ (SqL K H p ys ∨ SqT K H p ys) ∧ ∀ l, H l = none → Q (.ref l) (upd H l (.lst ys))) := fun ds vs g H q Q rh dv h ql => by
  obtain ⟨d, e, h⟩ := arg1_ok h
  subst e
  obtain ⟨v, e, r⟩ := dvs1 dv
  subst e
  obtain ⟨p, es, us, e, s, r, h⟩ := seqD_ok rh r h
  exact ⟨p, us, by rw [e], s, new_lst ql rh r h⟩
/-- tuple(x) -/
def rdTuple : List D → Hd → Qd → Prop := fun ds g Q => arg1 ds fun d => seqD d g fun es => Q (.tup es) g
theorem cl_tuple : CallL K rdTuple (fun xs H Q => ∃ p ys, xs = [.ref p] ∧ ((SqL K H p ys ∧ ∀ l, H l = none → Q (.ref l) (upd H l (.tup ys))) ∨ (SqT K H p ys ∧ Q (.ref p) H))) := fun ds vs g H q Q rh dv h ql => by
  obtain ⟨d, e, h⟩ := arg1_ok h
  subst e
  obtain ⟨v, e, r⟩ := dvs1 dv
  subst e
  have h : seqD d g.h (fun es => q (.tup es) g.h) := h
  unfold seqD at h
  cases d with
  | tup ds =>
    have r' := r
    obtain ⟨p, us, e, t, r⟩ := r
    exact ⟨p, us, by rw [e], .inr ⟨t.sq, by rw [← e]; exact ql (.tup ds) v g H Ext.refl rh r' h⟩⟩
  | fl ds =>
    obtain ⟨p, us, e, t, r⟩ := r
    exact ⟨p, us, by rw [e], .inl ⟨t.sq, new_tup ql rh r h⟩⟩
  | ref a =>
    obtain ⟨ds, hg, h⟩ := h
    obtain ⟨us, h1, r'⟩ := rh.at_ a _ hg
    exact ⟨a, us, by rw [show v = .ref a from r], .inl ⟨SqL.of h1, new_tup ql rh r' h⟩⟩
  | _ => exact False.elim h
def rdTupleN : List D → Hd → Qd → Prop := fun ds g Q => Q (.tup ds) g
theorem cn_tuple : CallN K rdTupleN (fun xs H Q => ∃ p ys, xs = [.ref p] ∧ ((SqL K H p ys ∧ ∀ l, H l = none → Q (.ref l) (upd H l (.tup ys))) ∨ (SqT K H p ys ∧ Q (.ref p) H))) := fun ds L vs g H q Q rh hL dv h ql =>
  ⟨L, vs, rfl, .inl ⟨SqL.of hL, new_tup ql rh dv h⟩⟩
/-- all, any of a new list of bools -/
def allBl (q : List Bool → Prop) : List D → Prop
  | [] => q []
  | .bl b :: ds => allBl (fun bs => q (b :: bs)) ds
  | _ => False
theorem allBl_ok : ∀ {ds : List D} {q : List Bool → Prop}, allBl q ds → ∃ bs : List Bool, ds = bs.map D.bl ∧ q bs
  | [], q, h => ⟨[], rfl, h⟩
  | d :: ds, q, h => by
    cases d with
    | bl b =>
      obtain ⟨bs, e, h⟩ := allBl_ok (ds := ds) h
      exact ⟨b :: bs, by rw [e]; rfl, h⟩
    | _ => exact False.elim h
def rdAllN : List D → Hd → Qd → Prop := fun ds g Q => ∃ bs : List Bool, ds = bs.map D.bl ∧ Q (.bl (bs.all id)) g
def rdAnyN : List D → Hd → Qd → Prop := fun ds g Q => ∃ bs : List Bool, ds = bs.map D.bl ∧ Q (.bl (bs.any id)) g
theorem cn_all : CallN K rdAllN (rAll K) := fun ds L vs g H q Q rh hL dv ⟨bs, e, h⟩ ql => by
  subst e
  exact ⟨L, bs, rfl, by rw [← dv.bls]; exact SqL.of hL, ql (.bl _) (.bl _) g H Ext.refl rh rfl h⟩
theorem cn_any : CallN K rdAnyN (rAny K) := fun ds L vs g H q Q rh hL dv ⟨bs, e, h⟩ ql => by
  subst e
  exact ⟨L, bs, rfl, by rw [← dv.bls]; exact SqL.of hL, ql (.bl _) (.bl _) g H Ext.refl rh rfl h⟩
def rdSumN : List D → Hd → Qd → Prop := fun ds g Q => ∃ ns : List Int, ds = ns.map D.int ∧ Q (.int ns.sum) g
theorem cn_sum : CallN K rdSumN (rSum K) := fun ds L vs g H q Q rh hL dv ⟨bs, e, h⟩ ql => by
  subst e
  exact ⟨L, bs, rfl, by rw [← dv.ints]; exact SqL.of hL, ql (.int _) (.int _) g H Ext.refl rh rfl h⟩
end
/-! ### x + y -/
def rdAdd : R2d := fun d e g Q => match d, e with
  | .int i, .int j => Q (.int (i + j)) g
  | .str x, .str y => x.length + y.length ≤ sizeLine ∧ Q (.str (x ++ y)) g
  | .tup xs, .tup ys => xs.length + ys.length ≤ sizeLine ∧ Q (.tup (xs ++ ys)) g
  | .ref a, .ref b => ∃ xs ys, g a = some (.lst xs) ∧ g b = some (.lst ys) ∧ xs.length + ys.length ≤ sizeLine ∧ ∀ p, g p = none → Q (.ref p) (updD g p (.lst (xs ++ ys)))
  | _, _ => False
end DL

/-! DK: sums, subscripts, slices, stores, list methods, isinstance. -/
namespace DL
open PySem PySem.Spec PyProof.Rows L2
section
variable {X : Cx} {W : WX} {a b c o i e : Expr} {es : List Expr} {ta tb tc to ti te : TEd} {t : TAd} {pos p2 : Pos}
abbrev rAddV (K : Frag) : R2 := fun x y H Q => (∃ i j, x = V.int i ∧ y = V.int j ∧ Q (.int (i + j)) H) ∨ ((∃ i j, x = V.str i ∧ y = V.str j ∧ i.length + j.length ≤ sizeLine ∧ Q (.str (i ++ j)) H) ∨ (rCatA K x y H Q ∨ rCat x y H Q))
theorem or_add : OpR X (binaryOp .Add) (rAddV X.K) := OpR.or op_add (op_add_str.or (op_catA.or op_cat))
theorem opl_add {K : Frag} : OpL K rdAdd (rAddV K) := fun d e x y g H q Q rh dx ey h ql => by
  cases d with
  | int i =>
    cases e with
    | int j => exact .inl ⟨i, j, dx, ey, ql (.int _) (.int _) g H Ext.refl rh rfl h⟩
    | _ => exact False.elim h
  | str i =>
    cases e with
    | str j => exact .inr (.inl ⟨i, j, dx, ey, h.1, ql (.str _) (.str _) g H Ext.refl rh rfl h.2⟩)
    | _ => exact False.elim h
  | tup xs =>
    cases e with
    | tup ys =>
      have dx' := dx
      have ey' := ey
      obtain ⟨p, us, e1, t1, r1⟩ := dx
      obtain ⟨r, ws, e2, t2, r2⟩ := ey
      refine .inr (.inr (.inl ⟨p, r, us, ws, e1, e2, t1.sq, t2.sq, by rw [r1.length, r2.length]; exact h.1, fun z => ?_, fun _ z => ?_, fun _ _ => new_tup ql rh (r1.append r2) h.2⟩))
      · have hl := r1.length
        rw [z] at hl
        have hx : xs = [] := List.length_eq_zero_iff.mp hl.symm
        rw [← e2]
        subst hx
        exact ql (.tup ([] ++ ys)) y g H Ext.refl rh ey' h.2
      · have hl := r2.length
        rw [z] at hl
        have hx : ys = [] := List.length_eq_zero_iff.mp hl.symm
        rw [← e1]
        subst hx
        have h2 := h.2
        rw [List.append_nil] at h2
        exact ql (.tup xs) x g H Ext.refl rh dx' h2
    | _ => exact False.elim h
  | ref p =>
    cases e with
    | ref r =>
      obtain ⟨xs, ys, hp, hr, hz, h⟩ := h
      obtain ⟨us, h1, r1⟩ := rh.at_ p _ hp
      obtain ⟨ws, h2, r2⟩ := rh.at_ r _ hr
      exact .inr (.inr (.inr ⟨p, r, us, ws, dx, ey, h1, h2, by rw [r1.length, r2.length]; exact hz, new_lst ql rh (r1.append r2) h⟩))
    | _ => exact False.elim h
  | _ => cases e <;> exact False.elim h
theorem de_add (ha : DE X W a ta) (hb : DE X W b tb) : DE X W (.BinOp a .Add b pos) (dOp rdAdd ta tb) := de_op or_add opl_add ha hb
/-! ### x * y: ints, a list and an int -/
def rdMul : R2d := fun d e g Q => match d, e with
  | .int i, .int j => CMul i j ∧ Q (.int (i * j)) g
  | .ref a, .int k => ∃ xs, g a = some (.lst xs) ∧ 0 ≤ k ∧ k ≤ 1000000 ∧ xs.length * k.toNat ≤ sizeLine ∧ ∀ p, g p = none → Q (.ref p) (updD g p (.lst (List.replicate k.toNat xs).flatten))
  | _, _ => False
theorem dvs_rep {K : Frag} {g : Gh} {H : Hp} {ds : List D} {vs : List V} (r : DVs K g H ds vs) : ∀ n : Nat, DVs K g H (List.replicate n ds).flatten (List.replicate n vs).flatten
  | 0 => rfl
  | n + 1 => by
    rw [List.replicate_succ, List.replicate_succ, List.flatten_cons, List.flatten_cons]
    exact r.append (dvs_rep r n)
/-! ### subscripts -/
@[irreducible] def rdIx (d e : D) (g : Hd) (Q : Qd) : Prop := asI e fun i => match d with
  | .tup xs => ∃ v, atI xs i = some v ∧ Q v g
  | .fl xs => ∃ v, atI xs i = some v ∧ Q v g
  | .ref a => ∃ xs v, g a = some (.lst xs) ∧ atI xs i = some v ∧ Q v g
  | .str z => z.length ≤ sizeLine ∧ ∃ c, atI z.cps.toList i = some c ∧ Q (.str ⟨#[c]⟩) g
  | _ => False
theorem dvs_atI {K : Frag} {g : Gh} {H : Hp} {ds : List D} {vs : List V} {i : Int} {d : D} (r : DVs K g H ds vs) (h : atI ds i = some d) : ∃ v, atI vs i = some v ∧ DV K g H d v := by
  unfold atI at h ⊢
  rw [r.length]
  obtain ⟨j, h1, h2⟩ := Option.bind_eq_some_iff.mp h
  obtain ⟨v, h3, h4⟩ := r.get h2
  exact ⟨v, by rw [h1]; exact h3, h4⟩
theorem opl_ix {K : Frag} : OpL K rdIx (rIx K) := fun d e x y g H q Q rh dx ey h ql => by
  unfold rdIx at h
  obtain ⟨i, e1, h⟩ := asI_ok h
  subst e1
  cases d with
  | tup xs =>
    obtain ⟨p, us, e1, t1, r1⟩ := dx
    obtain ⟨v, h1, h2⟩ := h
    obtain ⟨u, h3, h4⟩ := dvs_atI r1 h1
    exact .inr (.inl ⟨p, us, i, u, e1, ey, t1.sq, h3, ql v u g H Ext.refl rh h4 h2⟩)
  | fl xs =>
    obtain ⟨p, us, e1, t1, r1⟩ := dx
    obtain ⟨v, h1, h2⟩ := h
    obtain ⟨u, h3, h4⟩ := dvs_atI r1 h1
    exact .inl ⟨p, us, i, u, e1, ey, t1.sq, h3, ql v u g H Ext.refl rh h4 h2⟩
  | ref a =>
    obtain ⟨xs, v, hg, h1, h2⟩ := h
    obtain ⟨us, h5, r1⟩ := rh.at_ a _ hg
    obtain ⟨u, h3, h4⟩ := dvs_atI r1 h1
    exact .inl ⟨a, us, i, u, dx, ey, SqL.of h5, h3, ql v u g H Ext.refl rh h4 h2⟩
  | str z =>
    obtain ⟨h0, c, h1, h2⟩ := h
    exact .inr (.inr ⟨z, i, c, dx, ey, h0, h1, ql (.str _) (.str _) g H Ext.refl rh rfl h2⟩)
  | _ => exact False.elim h
theorem de_ix (ha : DE X W a ta) (hb : DE X W b tb) (hs : PlainIx b := by exact fun _ _ => rfl) : DE X W (.Subscript a b pos) (dOp rdIx ta tb) :=
  PE_mono (pe_ix ix_seq ha hb hs) fun σ H Q ⟨s, g, q, x, rs, rh, h, ql, xl⟩ => two opl_ix rs rh h ql xl
/-! ### slices -/
abbrev TOd := Sd → Hd → (Option Int → Hd → Prop) → Xd → Prop
def liftO (K : Frag) (W : WX) (t : TOd) : TO := fun σ H Q => ∃ s, ∃ g : Gh, ∃ q x, RSt K g H s σ ∧ RH K g H ∧ t s g.h q x ∧ (∀ o (g' : Gh) H', Ext K g H g' H' → RH K g' H' → q o g'.h → Q o H') ∧ XL K g H x W
abbrev DO_ (X : Cx) (W : WX) (e : Option Expr) (t : TOd) : Prop := PO X e (liftO X.K W t)
def dNoPart : TOd := fun _ g q _ => q none g
def dPart (t : TEd) : TOd := fun s g q x => t s g (fun d g1 => asI d fun i => q (some i) g1) x
theorem PO_mono {e : Option Expr} {t t' : TO} (h : PO X e t) (m : ∀ σ H Q, t' σ H Q → t σ H Q) : PO X e t' := ⟨fun pins s σ H Q I q => h.run pins s σ H Q I (m σ H Q q)⟩
theorem do_none : DO_ X W none dNoPart := PO_mono po_none fun σ H Q ⟨s, g, q, x, rs, rh, h, k, xl⟩ => k none g H Ext.refl rh h
theorem do_some (h : DE X W e te) : DO_ X W (some e) (dPart te) := PO_mono (po_some h) fun σ H Q ⟨s, g, q, x, rs, rh, h, k, xl⟩ => ⟨s, g, _, x, rs, rh, h, fun d v g1 H1 x1 rh1 dv hh => by
  obtain ⟨i, e1, hh⟩ := asI_ok hh
  subst e1
  exact ⟨i, dv, k (some i) g1 H1 x1 rh1 hh⟩, xl⟩
def cutL (xs : List D) (lo hi : Option Int) : List D := (xs.drop (HT.sIx xs.length 0 lo)).take (HT.sIx xs.length xs.length hi - HT.sIx xs.length 0 lo)
theorem dvs_cut {K : Frag} {g : Gh} {H : Hp} {ds : List D} {vs : List V} {lo hi : Option Int} (r : DVs K g H ds vs) : DVs K g H (cutL ds lo hi) (cutV vs lo hi) := by
  unfold cutL cutV
  rw [r.length]
  exact (r.drop _).take _
def rdSlT (d : D) (lo hi : Option Int) (g : Hd) (Q : Qd) : Prop := asT d fun xs => Q (.tup (cutL xs lo hi)) g
def rdSlL (d : D) (lo hi : Option Int) (g : Hd) (Q : Qd) : Prop := match d with
  | .fl xs => ∀ p, g p = none → Q (.ref p) (updD g p (.lst (cutL xs lo hi)))
  | .ref a => ∃ xs, g a = some (.lst xs) ∧ ∀ p, g p = none → Q (.ref p) (updD g p (.lst (cutL xs lo hi)))
  | _ => False
def dSl (r : D → Option Int → Option Int → Hd → Qd → Prop) (te : TEd) (tl th : TOd) : TEd := fun s g q x => te s g (fun d g1 => tl s g1 (fun l g2 => th s g2 (fun u g3 => r d l u g3 q) x) x) x
theorem sl_ok {K : Frag} {r : D → Option Int → Option Int → Hd → Qd → Prop} {rv : V → Option Int → Option Int → Hp → VK → Prop} {te : TEd} {tl th : TOd} (hl : ∀ d v l u (g : Gh) H q Q, RH K g H → DV K g H d v → r d l u g.h q → QL K g H q Q → rv v l u H Q) {σ : St} {H : Hp} {Q : VK} (h : liftE K W (dSl r te tl th) σ H Q) :
    tSl rv (liftE K W te) (liftO K W tl) (liftO K W th) σ H Q := by
  obtain ⟨s, g, q, x, rs, rh, h, ql, xl⟩ := h
  refine ⟨s, g, _, x, rs, rh, h, fun d v g1 H1 x1 rh1 dv hh => ?_, xl⟩
  refine ⟨s, g1, _, x, rs.ext x1, rh1, hh, fun l g2 H2 x2 rh2 hh => ?_, xl.ext x1⟩
  have x12 := x1.trans x2
  refine ⟨s, g2, _, x, rs.ext x12, rh2, hh, fun u g3 H3 x3 rh3 hh => ?_, xl.ext x12⟩
  exact hl d v l u g3 H3 q Q rh3 ((dv.ext x2).ext x3) hh (ql.ext (x12.trans x3))
theorem de_slT {lo hi : Option Expr} {tl th : TOd} (he : DE X W e te) (hl : DO_ X W lo tl) (hh : DO_ X W hi th) : DE X W (.Subscript e (.Slice lo hi none p2) pos) (dSl rdSlT te tl th) :=
  PE_mono (pe_slice sl_tupA he hl hh) fun σ H Q h => sl_ok (fun d v l u g H q Q rh dv hh ql => by
    obtain ⟨xs, e1, hh⟩ := asT_ok hh
    subst e1
    have dv' := dv
    obtain ⟨p, us, e1, t1, r1⟩ := dv
    refine ⟨p, us, e1, t1.sq, fun ⟨z1, z2⟩ => ?_, fun _ => new_tup ql rh (dvs_cut r1) hh⟩
    rw [r1.length] at z1 z2
    have z : cutL xs l u = xs := by
      unfold cutL
      rw [z1, z2]
      simp
    have hh : q (.tup (cutL xs l u)) g.h := hh
    rw [z] at hh
    rw [← e1]
    exact ql (.tup xs) v g H Ext.refl rh dv' hh) h
theorem de_slL {lo hi : Option Expr} {tl th : TOd} (he : DE X W e te) (hl : DO_ X W lo tl) (hh : DO_ X W hi th) : DE X W (.Subscript e (.Slice lo hi none p2) pos) (dSl rdSlL te tl th) :=
  PE_mono (pe_slice sl_list he hl hh) fun σ H Q h => sl_ok (fun d v l u g H q Q rh dv hh ql => by
    cases d with
    | fl xs =>
      obtain ⟨p, us, e1, t1, r1⟩ := dv
      exact ⟨p, us, e1, t1.sq, new_lst ql rh (dvs_cut r1) hh⟩
    | ref a =>
      obtain ⟨xs, hg, hh⟩ := hh
      obtain ⟨us, h1, r1⟩ := rh.at_ a _ hg
      exact ⟨a, us, dv, SqL.of h1, new_lst ql rh (dvs_cut r1) hh⟩
    | _ => exact False.elim hh) h
/-! ### x[i] = v, a list -/
def kIx (to ti : TEd) : TGd := fun d s g q x => to s g (fun o g1 => ti s g1 (fun i g2 => asR o fun a => asI i fun k => ∃ xs j, g2 a = some (.lst xs) ∧ ixN xs.length k = some j ∧ q s (updD g2 a (.lst (xs.set j d)))) x) x
theorem dg_ix (ho : DE X W o to) (hi : DE X W i ti) (ha : ∀ v, assign (.Subscript o i pos) X.env v = (do
      let ov ← holding [v] (eval o X.env)
      let iv ← holding [v, ov] (eval i X.env)
      standAt pos
      holding [v, ov, iv] (setItem ov iv v)
      release [v, ov, iv] []) := by intro _; rfl) : DG X W (.Subscript o i pos) (kIx to ti) :=
  PG_mono (pg_sub ho hi set_list ha) fun v σ H Q ⟨d, s, g, q, x, dv, rs, rh, h, ql, xl⟩ => ⟨s, g, _, x, rs, rh, h, fun oo ov g1 H1 x1 rh1 odv hh => ⟨s, g1, _, x, rs.ext x1, rh1, hh, fun ii iv g2 H2 x2 rh2 idv hh => by
    obtain ⟨a, e1, hh⟩ := asR_ok hh
    obtain ⟨k, e2, hh⟩ := asI_ok hh
    subst e1 e2
    obtain ⟨xs, j, hg, hj, hh⟩ := hh
    obtain ⟨us, h1, r1⟩ := rh2.at_ a _ hg
    have x12 := x1.trans x2
    have wx := Ext.write (o' := .lst (xs.set j d)) (u' := .lst (us.set j v)) rh2 hg h1 (fun _ z => by cases z) (fun _ _ z => by cases z)
    refine ⟨a, us, k, j, odv, idv, h1, by rw [r1.length]; exact hj, ql s σ (g2.upd a (.lst (xs.set j d))) _ (x12.trans wx) (rh2.write hg wx ⟨us.set j v, upd_same, ((r1.set j (dv.ext x12)).ext wx)⟩) ((rs.ext x12).ext wx) hh⟩, xl.ext x1⟩, xl⟩
/-! ### list methods -/
def dMt (rd : D → List D → Hd → Qd → Prop) (to : TEd) (t : TAd) : TEd := fun s g q x => to s g (fun o g1 => asR o fun a => ∃ xs, g1 a = some (.lst xs) ∧ t s g1 (fun ds g2 => rd o ds g2 q) x) x
theorem mt_ok {K : Frag} {rd : D → List D → Hd → Qd → Prop} {r : V → List V → Hp → VK → Prop} (hl : ∀ o ds x vs (g : Gh) H q Q, RH K g H → DV K g H o x → DVs K g H ds vs → rd o ds g.h q → QL K g H q Q → r x vs H Q) {σ : St} {H : Hp} {Q : VK} (h : liftE K W (dMt rd to t) σ H Q) :
    tBM K "list" r (liftE K W to) (liftA K W t) σ H Q := by
  obtain ⟨s, g, q, x, rs, rh, h, ql, xl⟩ := h
  refine ⟨s, g, _, x, rs, rh, h, fun oo ov g1 H1 x1 rh1 odv hh => ?_, xl⟩
  obtain ⟨a, e1, hh⟩ := asR_ok hh
  subst e1
  obtain ⟨xs, hg, hh⟩ := hh
  obtain ⟨us, h1, r1⟩ := rh1.at_ a _ hg
  rw [show ov = V.ref a from odv]
  refine ⟨.inl ⟨rfl, us, SqL.of h1⟩, s, g1, _, x, rs.ext x1, rh1, hh, fun ds vs g2 H2 x2 rh2 dv hh => hl (.ref a) ds (.ref a) vs g2 H2 q Q rh2 rfl dv hh (ql.ext (x1.trans x2)), xl.ext x1⟩
def rdAppend : D → List D → Hd → Qd → Prop := fun o ds g Q => asR o fun a => arg1 ds fun d => ∃ xs, g a = some (.lst xs) ∧ xs.length < sizeLine ∧ Q .non (updD g a (.lst (xs ++ [d])))
theorem de_mt {name : Str} {id : String} {apos cpos : Pos} {rd : D → List D → Hd → Qd → Prop} {r : V → List V → Hp → VK → Prop} (slot : Slot "list" name id) (hty : typeOf (.builtin id) = pure (.type "method_descriptor")) (hm : MtR X id r)
    (hl : ∀ o ds x vs (g : Gh) H q Q, RH X.K g H → DV X.K g H o x → DVs X.K g H ds vs → rd o ds g.h q → QL X.K g H q Q → r x vs H Q) (ho : DE X W o to) (ha : DAr X W (e :: es) t)
    (hbase : attributeBase o name X.env (eval o X.env) = eval o X.env)
    (hfew : ((backTo cpos (starEach (e :: es) X.env)).all (fun x => !x.1) && (backToKw cpos (keywordEach [] X.env)).all (fun x => x.1.isSome)
      && decide ((e :: es).length + ([] : List Keyword).length + (if ([] : List Keyword).isEmpty then 0 else 1) < 30)) = true)
    (hline : (apos.endLine == cpos.line) = true) (hs : starEach (e :: es) X.env = (false, eval e X.env) :: starEach es X.env) (hplain : (backTo cpos (starEach es X.env)).any (·.1) = false) :
    DE X W (.Call (.Attribute o name apos) (e :: es) [] cpos) (dMt rd to t) :=
  PE_mono (pe_bm PySem.F.plainAttrs_list slot hty hm ho ha hbase hfew hline hs hplain) fun σ H Q h => mt_ok hl h
theorem app_ok' {K : Frag} : ∀ o ds x vs (g : Gh) H q Q, RH K g H → DV K g H o x → DVs K g H ds vs → rdAppend o ds g.h q → QL K g H q Q → rAppend x vs H Q := fun o ds x vs g H q Q rh ox dv h ql => by
  obtain ⟨a, e1, h⟩ := asR_ok h
  obtain ⟨d, e2, h⟩ := arg1_ok h
  subst e1 e2
  obtain ⟨xs, hg, hz, h⟩ := h
  obtain ⟨v, e3, dv1⟩ := dvs1 dv
  obtain ⟨us, h1, r1⟩ := rh.at_ a _ hg
  have wx := Ext.write (o' := .lst (xs ++ [d])) (u' := .lst (us ++ [v])) rh hg h1 (fun _ z => by cases z) (fun _ _ z => by cases z)
  exact ⟨a, us, v, ox, e3, h1, by rw [r1.length]; exact hz, ql .non .non (g.upd a (.lst (xs ++ [d]))) _ wx (rh.write hg wx ⟨_, upd_same, (r1.append (show DVs K g H [d] [v] from ⟨v, [], rfl, dv1, rfl⟩)).ext wx⟩) rfl h⟩
theorem de_append {apos cpos : Pos} (ho : DE X W o to) (ha : DAr X W [e] t) (hbase : attributeBase o "append" X.env (eval o X.env) = eval o X.env := by rfl)
    (hfew : ((backTo cpos (starEach [e] X.env)).all (fun x => !x.1) && (backToKw cpos (keywordEach [] X.env)).all (fun x => x.1.isSome)
      && decide ([e].length + ([] : List Keyword).length + (if ([] : List Keyword).isEmpty then 0 else 1) < 30)) = true := by rfl)
    (hline : (apos.endLine == cpos.line) = true := by rfl) (hs : starEach [e] X.env = (false, eval e X.env) :: starEach [] X.env := by rfl) (hplain : (backTo cpos (starEach [] X.env)).any (·.1) = false := by rfl) :
    DE X W (.Call (.Attribute o "append" apos) [e] [] cpos) (dMt rdAppend to t) := de_mt PySem.F.slot_list_append PySem.F.type_list_append mt_append app_ok' ho ha hbase hfew hline hs hplain
/-! ### isinstance -/
inductive Kd where
  | non | bl | int | str | tup | lst | dct
  deriving DecidableEq
def Kd.nm : Kd → String
  | .non => "NoneType" | .bl => "bool" | .int => "int" | .str => "str" | .tup => "tuple" | .lst => "list" | .dct => "dict"
def kt : Kd → Kd → Bool
  | .non, .non => true | .bl, .bl => true | .bl, .int => true | .int, .int => true | .str, .str => true | .tup, .tup => true | .lst, .lst => true | .dct, .dct => true
  | _, _ => false
theorem kt_ok {K : Frag} (k T : Kd) (hT : T ≠ .non) : PySem.W.kitOne K (.type k.nm) (.type T.nm) = some (kt k T) := by
  cases T <;> first
    | (exact absurd rfl hT)
    | (cases k <;> exact kit_ty (by decide +kernel))
@[irreducible] def kdD (d : D) (g : Hd) (q : Kd → Prop) : Prop := match d with
  | .non => q .non
  | .bl _ => q .bl
  | .int _ => q .int
  | .str _ => q .str
  | .tup _ => q .tup
  | .fl _ => q .lst
  | .ref a => ∃ o, g a = some o ∧ (match o with
    | .lst _ => q .lst
    | .dK _ => q .dct
    | .dT _ => q .dct
    | _ => False)
  | _ => False
theorem kdD_ok {K : Frag} {g : Gh} {H : Hp} {d : D} {v : V} {q : Kd → Prop} (rh : RH K g H) (dv : DV K g H d v) (h : kdD d g.h q) : ∃ k : Kd, TyX K H v (.type k.nm) ∧ q k := by
  unfold kdD at h
  cases d with
  | non => exact ⟨.non, by rw [show v = _ from dv]; exact .base .non, h⟩
  | bl b => exact ⟨.bl, by rw [show v = _ from dv]; exact .base (.bl b), h⟩
  | int b => exact ⟨.int, by rw [show v = _ from dv]; exact .base (.int b), h⟩
  | str b => exact ⟨.str, by rw [show v = _ from dv]; exact .base (.str b), h⟩
  | tup ds =>
    obtain ⟨p, us, e, t, r⟩ := dv
    refine ⟨.tup, ?_, h⟩
    rw [e]
    rcases t with t | ⟨o, its, n, t1, t2, t3, t4, t5⟩
    · exact .base (.tup t)
    · exact .kTuple t1 t2
  | fl ds =>
    obtain ⟨p, us, e, t, r⟩ := dv
    refine ⟨.lst, ?_, h⟩
    rw [e]
    rcases t with (⟨t, _⟩ | ⟨o, t⟩) | ⟨o, its, n, t1, t2, t3, t4, t5⟩
    · exact .base (.lst t)
    · exact .base (.frz t)
    · exact .kList t1 t2
  | ref a =>
    obtain ⟨o, hg, h⟩ := h
    have z := rh.at_ a o hg
    rw [show v = .ref a from dv]
    cases o with
    | lst ds =>
      obtain ⟨us, h1, _⟩ := z
      exact ⟨.lst, .base (.lst h1), h⟩
    | dK ds =>
      obtain ⟨us, h1, _⟩ := z
      exact ⟨.dct, .base (.dK h1), h⟩
    | dT ds =>
      obtain ⟨us, h1, _⟩ := z
      exact ⟨.dct, .base (.dT h1), h⟩
    | _ => exact False.elim h
  | _ => exact False.elim h
def dIsi (f : Kd → Bool) (te : TEd) : TEd := fun s g q x => te s g (fun d g1 => kdD d g1 fun k => q (.bl (f k)) g1) x
theorem de_isi (T : Kd) {n2 : Str} {pn p : Pos} (hm : X.mg "isinstance" = none) (hm2 : X.mg n2 = none) (he : DE X W e te) (hT : T ≠ .non := by decide) (hv2 : bootBuiltins n2 = some (.type T.nm) := by decide +kernel) (hg : Gl X "isinstance" := by rfl) (hg2 : Gl X n2 := by rfl)
    (hn2 : n2 ≠ "__name__" := by decide) (hd2 : (n2 == ("__debug__" : Str)) = false := by decide) (hs1 : starEach [.Name n2 pn] X.env = (false, eval (.Name n2 pn) X.env) :: starEach [] X.env := by rfl)
    (hs : starEach (e :: [.Name n2 pn]) X.env = (false, eval e X.env) :: starEach [.Name n2 pn] X.env := by rfl) (hpl : (backTo pos (starEach [.Name n2 pn] X.env)).any (·.1) = false := by rfl) :
    DE X W (.Call (.Name "isinstance" p) [e, .Name n2 pn] [] pos) (dIsi (fun k => kt k T) te) :=
  PE_mono (pe_callB call_isi hg hm (by decide +kernel) (pa_cons he (pa_cons (pe_bltn (v := .ty T.nm) hg2 hm2 hv2 rfl hn2 hd2) pa_nil hs1) hs) (by decide) (by decide) hs hpl) fun σ H Q ⟨s, g, q, x, rs, rh, h, ql, xl⟩ =>
    ⟨s, g, _, x, rs, rh, h, fun d v g1 H1 x1 rh1 dv hh => by
      obtain ⟨k, ty, hh⟩ := kdD_ok rh1 dv hh
      exact ⟨v, .ty T.nm, _, _, _, rfl, .ty T.nm, ty, kt_ok k T hT, ql (.bl _) (.bl _) g1 H1 x1 rh1 rfl hh⟩, xl⟩
theorem de_isi2 (T U : Kd) {n2 n3 : Str} {pn pn3 p pt : Pos} {kk} (hm : X.mg "isinstance" = none) (hm2 : X.mg n2 = none) (hm3 : X.mg n3 = none) (he : DE X W e te) (hT : T ≠ .non := by decide) (hU : U ≠ .non := by decide) (hv2 : bootBuiltins n2 = some (.type T.nm) := by decide +kernel) (hv3 : bootBuiltins n3 = some (.type U.nm) := by decide +kernel) (hg : Gl X "isinstance" := by rfl) (hg2 : Gl X n2 := by rfl) (hg3 : Gl X n3 := by rfl)
    (hn2 : n2 ≠ "__name__" := by decide) (hd2 : (n2 == ("__debug__" : Str)) = false := by decide) (hn3 : n3 ≠ "__name__" := by decide) (hd3 : (n3 == ("__debug__" : Str)) = false := by decide)
    (ht1 : starEach [.Name n2 pn, .Name n3 pn3] X.env = (false, eval (.Name n2 pn) X.env) :: starEach [.Name n3 pn3] X.env := by rfl) (ht2 : starEach [.Name n3 pn3] X.env = (false, eval (.Name n3 pn3) X.env) :: starEach [] X.env := by rfl)
    (hs1 : starEach [.Tuple [.Name n2 pn, .Name n3 pn3] kk pt] X.env = (false, eval (.Tuple [.Name n2 pn, .Name n3 pn3] kk pt) X.env) :: starEach [] X.env := by rfl)
    (hs : starEach (e :: [.Tuple [.Name n2 pn, .Name n3 pn3] kk pt]) X.env = (false, eval e X.env) :: starEach [.Tuple [.Name n2 pn, .Name n3 pn3] kk pt] X.env := by rfl) (hpl : (backTo pos (starEach [.Tuple [.Name n2 pn, .Name n3 pn3] kk pt] X.env)).any (·.1) = false := by rfl) :
    DE X W (.Call (.Name "isinstance" p) [e, .Tuple [.Name n2 pn, .Name n3 pn3] kk pt] [] pos) (dIsi (fun k => kt k T || kt k U) te) :=
  PE_mono (pe_callB call_isiT hg hm (by decide +kernel) (pa_cons he (pa_cons (pe_tup (pa_cons (pe_bltn (v := .ty T.nm) hg2 hm2 hv2 rfl hn2 hd2) (pa_cons (pe_bltn (v := .ty U.nm) hg3 hm3 hv3 rfl hn3 hd3) pa_nil ht2) ht1)) pa_nil hs1) hs) (by decide) (by decide) hs hpl) fun σ H Q ⟨s, g, q, x, rs, rh, h, ql, xl⟩ =>
    ⟨s, g, _, x, rs, rh, h, fun d v g1 H1 x1 rh1 dv hh => ⟨by show 2 ≤ sizeLine; decide, fun p hp => by
      have x2 := Ext.new0 (K := X.K) (g := g1) (o := .tup [.ty T.nm, .ty U.nm]) hp
      have rh2 := rh1.new0 (o := .tup [.ty T.nm, .ty U.nm]) hp
      obtain ⟨k, ty, hh⟩ := kdD_ok rh2 (dv.ext x2) hh
      refine ⟨v, p, _, _, [.type T.nm, .type U.nm], kt k T || kt k U, rfl, upd_same, .cons (.ty _) (.cons (.ty _) .nil), ty, kitAny_cons (kt_ok k T hT) (fun z => ?_) (fun z => ?_), ql (.bl _) (.bl _) g1 _ (x1.trans x2) rh2 rfl hh⟩
      · rw [z]
        exact kitAny_cons (kt_ok k U hU) (fun z => by rw [z]; exact kitAny_nil) (fun z => by rw [z]; rfl)
      · rw [z]
        rfl⟩, xl⟩
end
end DL

/-! DM: enumerate of a tuple; enumerate, zip over plain data. -/
namespace PySem
open Sem (wp)
open AutoSeq1 (wpAny_loadPart')
theorem meets_enumerate_newT (l : Addr) (items : Array Value) (n : Nat) (dct : Option Addr) (sl : Array (Option Value)) :
    Meets (Builtin.«enumerate.__new__» ⟨[.type "enumerate", .ref l], []⟩) (fun _ R s => s.heap.get? l = some { cls := .type "tuple", dict := dct, data := .seq items n, slots := sl } ∧
      R (.ok (.ret (.ref (s.heap.push { cls := .type "tuple_iterator", data := .fields #[.ref l, .int 0 0] }).objs.size)))
        { s with heap := (s.heap.push { cls := .type "tuple_iterator", data := .fields #[.ref l, .int 0 0] }).push { cls := .type "enumerate", data := .fields #[.none, .bool false, .ref s.heap.objs.size, rawInt 0, .none, .none] } }) :=
  .of_wp fun prog w A R s h => by
    obtain ⟨hp, g, d, tk, os⟩ := s; obtain ⟨hl, h⟩ := h
    have hsub := sub_enumerate
    have hL : Heap.IsTuple (Shared.heap ⟨hp, g, d, tk, os⟩) l items := ⟨_, hl, rfl, n, rfl⟩
    wp_walk using wpAny_loadPart' hl
    refine wpAny_stack_any fun st => wpAny_pure ?_
    split
    · rename_i c _ _ _ _ _
      cases (c == Value.type "enumerate")
      · wp_walk using wpAny_loadPart' hl, wpAny_pyIter_tuple hL
        exact ⟨_, rfl, h⟩
      · wp_walk using wpAny_loadPart' hl, wpAny_pyIter_tuple hL
        exact ⟨_, rfl, h⟩
    · wp_walk using wpAny_loadPart' hl, wpAny_pyIter_tuple hL
      exact ⟨_, rfl, h⟩
section
variable {prog : Program} {w : World} {A : Around} {E : Value → Shared → Prop} {s : Shared}
theorem call_enumerate_tuple {l : Addr} {items : Array Value} {Q : Value → Shared → Prop} (hL : s.heap.IsTuple l items)
    (h : ∀ h', IsEnum h' (s.heap.objs.size + 1) s.heap.objs.size 0 .none → h'.IsTupleIter s.heap.objs.size l 0 → h'.objs.size = s.heap.objs.size + 2 →
      (∀ b o, s.heap.get? b = some o → h'.get? b = some o) → Q (.ref (s.heap.objs.size + 1)) { s with heap := h' }) :
    wpAny (model prog w) A (call (.type "enumerate") [.ref l]) Q E s := by
  obtain ⟨⟨c, dct, dt, sl⟩, hl, hc, n, hd⟩ := hL
  replace hc : c = .type "tuple" := hc
  replace hd : dt = .seq items n := hd
  subst hc hd
  refine callType_new F.called_enumerate (by decide) (F.typeCall_enumerate_1 _) (F.newCall_enumerate_1 _) (fun obj => F.args_object_init_2 obj _) F.entry_enumerate_new
    (meets_enumerate_newT l items n dct sl) ⟨hl, ?_⟩
  have hz : (s.heap.push { cls := .type "tuple_iterator", data := .fields #[.ref l, .int 0 0] }).objs.size = s.heap.objs.size + 1 := Heap.size_push _ _
  show _ ∧ _
  rw [hz]
  have he : IsEnum ((s.heap.push { cls := .type "tuple_iterator", data := .fields #[.ref l, .int 0 0] }).push
      { cls := .type "enumerate", data := .fields #[.none, .bool false, .ref s.heap.objs.size, rawInt 0, .none, .none] }) (s.heap.objs.size + 1) s.heap.objs.size 0 .none := by
    have := Heap.get?_push_size (s.heap.push { cls := .type "tuple_iterator", data := .fields #[.ref l, .int 0 0] })
      (o := { cls := .type "enumerate", data := .fields #[.none, .bool false, .ref s.heap.objs.size, rawInt 0, .none, .none] }) rfl
    rw [hz] at this; exact this
  refine ⟨⟨_, he, rfl⟩, h _ he ⟨_, Heap.get?_push_of_some _ (Heap.get?_push_size _ rfl), rfl, rfl⟩ (by rw [Heap.size_push, hz]) fun b o x => Heap.get?_push_of_some _ (Heap.get?_push_of_some _ x)⟩
end
end PySem
namespace DL
open PySem PySem.Spec PyProof.Rows L2
def IteT (K : Frag) (a : Addr) : It :=
  ⟨fun i H => ∃ (xs : List V) (x : V), SqT K H a xs ∧ xs[i]? = some x, fun i H v H' => ∃ T x, v = .ref T ∧ H T = none ∧ H' = upd H T (.tup [.int (i : Nat), x]) ∧ ∀ xs, SqT K H a xs → xs[i]? = some x, fun i H => ∃ xs : List V, SqT K H a xs ∧ xs.length = i⟩
theorem turn_enumT {P : Program} {w : World} {K : Frag} {elts : List Expr} {kk : Nat} {tpos : Pos} (a e it : Addr) :
    Turn P w K (.Tuple elts kk tpos) (IteT K a) [e, it] e (fun i h => (∃ old, IsEnum h e it ((i : Nat) : Int) old) ∧ h.IsTupleIter it a i ∧ e ≠ it) where
  mem := by simp
  obj := fun i h st b hb => by
    obtain ⟨⟨old, he⟩, ⟨o, ho, hc, hd⟩, _⟩ := st
    have e' : b = e ∨ b = it := by simpa using hb
    rcases e' with z | z
    · rw [z]; exact ⟨_, he, fun v q => nomatch q⟩
    · rw [z]; exact ⟨o, ho, fun v q => by rw [hd] at q; cases q⟩
  keep := fun i h h' st k => let ⟨⟨old, he⟩, hi, hne⟩ := st; ⟨⟨old, k e (by simp) _ he⟩, hi.at fun o q => k it (by simp) o q, hne⟩
  item := by
    intro X hP hw hK hc i pins s σ H E I hf st hg
    subst hP hw hK
    obtain ⟨⟨old, he⟩, hit, hne⟩ := st
    obtain ⟨xs, x, hq, hx⟩ := hg
    obtain ⟨its, rv, p, hz⟩ := I.tuple hq
    obtain ⟨u, hu, ru⟩ := rv.get hx
    have hel : e < s.heap.objs.size := Heap.lt_size he
    have hil : it < s.heap.objs.size := by obtain ⟨_, q, _⟩ := hit; exact Heap.lt_size q
    have hae : a ≠ e := fun z => by
      obtain ⟨o, h1, h2, _⟩ := p
      rw [z, he] at h1
      cases h1
      exact absurd h2 (show Value.type "enumerate" ≠ Value.type "tuple" by decide +kernel)
    have hai : a ≠ it := fun z => by
      obtain ⟨o, h1, h2, _⟩ := p
      obtain ⟨o2, h3, h4, _⟩ := hit
      rw [z, h3] at h1
      cases h1
      rw [h4] at h2
      exact absurd h2 (show Value.type "tuple_iterator" ≠ Value.type "tuple" by decide +kernel)
    have hlt : i < its.toArray.size := by
      have := (List.getElem?_eq_some_iff.mp hu).1
      simpa using this
    refine wpAny_pyNext_enum_itemD (Draws.tuple (prog := X.prog) (w := X.w) (A := X.A.in1) (by exact I.ok.hd hc) it a hai its.toArray) he ⟨hit, p⟩ hlt hne (by simp only [List.mem_cons, List.not_mem_nil, or_false, not_or]; exact ⟨hne, Ne.symm hae⟩) fun x2 h' tk hx2 ho hst' hT hsz hk => ?_
    have hx2 : its.toArray[i]? = some x2 := hx2
    have e2 : x2 = u := by
      have q : its.toArray[i]? = some u := by simpa using hu
      rw [q] at hx2
      cases hx2
      rfl
    subst e2
    refine ⟨_, rfl, wpAny_letOwnedTupleGo_enum (s := { s with heap := h', toks := tk + 1 }) ho fun h'' he' sb => ?_⟩
    have hT2 : h''.get? s.heap.objs.size = some { cls := .type "tuple", data := .seq #[.int i tk, x2] } := (sb.2 _ (Nat.ne_of_gt hel)).trans hT
    have new : ObjOk X.prog X.w (upd H s.heap.objs.size (.tup [.int (i : Nat), x])) h'' s.heap.objs.size (.tup [.int (i : Nat), x]) :=
      ⟨by show 2 ≤ sizeLine; decide, [.int i tk, x2], .cons ⟨_, rfl⟩ (.cons ru .nil), ⟨_, hT2, rfl, _, rfl⟩⟩
    have I1 : Inv X pins σ (upd H s.heap.objs.size (.tup [.int (i : Nat), x])) { s with heap := h'', toks := tk + 1 } :=
      I.turnedNew (ch := [e, it]) (fun b ob hb q => (sb.2 b (fun z => hb (by simp [z]))).trans (hk b ob (fun z => hb (by simp [z])) (fun z => hb (by simp [z])) q)) hf (Nat.le_refl _) new
    refine ⟨.ref s.heap.objs.size, _, I1, rfl, ⟨_, x, rfl, I.hok.fresh (Nat.le_refl _), rfl, fun ys hy => by rw [I.tuple_inj hy hq]; exact hx⟩, ⟨⟨x2, ?_⟩, hst'.1.at fun o q => (sb.2 it (Ne.symm hne)).trans q, hne⟩, fun b hb => ?_⟩
    · have e1 : ((i + 1 : Nat) : Int) = (i : Int) + 1 := by omega
      rw [e1]; exact he'
    · have hb' : b < s.heap.objs.size := by
        have e' : b = e ∨ b = it := by simpa using hb
        rcases e' with z | z
        · rw [z]; exact hel
        · rw [z]; exact hil
      rw [upd_ne (Nat.ne_of_lt hb')]
      exact (hf b hb).1
  done := by
    intro X hP hw hK hc i pins s σ H E I hf st hg
    subst hP hw hK
    obtain ⟨⟨old, he⟩, hit, hne⟩ := st
    obtain ⟨xs, hq, hx⟩ := hg
    obtain ⟨its, rv, p, hz⟩ := I.tuple hq
    obtain ⟨f0, f1, f2, f3, f4, f5⟩ := hf it (by simp)
    have hl := rv.length
    have hai : a ≠ it := fun z => by
      obtain ⟨o, h1, h2, _⟩ := p
      obtain ⟨o2, h3, h4, _⟩ := hit
      rw [z, h3] at h1
      cases h1
      rw [h4] at h2
      exact absurd h2 (show Value.type "tuple_iterator" ≠ Value.type "tuple" by decide +kernel)
    have hn : i = its.toArray.size := by simp; omega
    refine wpAny_pyNext_enum_endD (Draws.tuple (prog := X.prog) (w := X.w) (A := X.A.in1) (by exact I.ok.hd hc) it a hai its.toArray) he ⟨by rw [← hn]; exact hit, p⟩ fun h' eb => ⟨rfl, I.turned (t' := s.toks) (fun b o hb q => eb b o hb q) f0 f1 f3 f4 f5⟩
  self := fun A i s Q E st h => let ⟨⟨_, he⟩, _⟩ := st; wpAny_pyIter_enum he h
/-- enumerate of a list or a tuple -/
def iEnumA (K : Frag) (ta : TA) : TI := fun σ H R => ta σ H fun vs H1 => ∃ a xs, vs = [.ref a] ∧ ((SqL K H1 a xs ∧ R (Ite K a) H1) ∨ (SqT K H1 a xs ∧ R (IteT K a) H1))
theorem pi_enumA {X : Cx} {e : Expr} {ta : TA} {p pos tpos : Pos} {elts : List Expr} {kk : Nat} (hg : Gl X "enumerate") (hm : X.mg "enumerate" = none) (ha : PA X [e] ta) (hs : starEach [e] X.env = [(false, eval e X.env)] := by rfl) :
    PI X (.Tuple elts kk tpos) (.Call (.Name "enumerate" p) [e] [] pos) (iEnumA X.K ta) := by
  refine ⟨fun pins s σ H R I h => ?_⟩
  refine Call_ (ld_blt I hg hm boot_enumerate (PyProof.Rows.callWith_type1 (thn (ha.run pos pins s σ H _ I h) fun us s1 ⟨vs, H1, I1, r1, q1⟩ => ?_) hs rfl))
  obtain ⟨a, xs, ex, q1⟩ := q1
  subst ex
  have fp : ∀ b ∈ [s1.heap.objs.size + 1, s1.heap.objs.size], FpOk X pins H1 b := fun b hb => by
    have e' : b = s1.heap.objs.size + 1 ∨ b = s1.heap.objs.size := by simpa using hb
    have hle : s1.heap.objs.size ≤ b := by
      rcases e' with z | z
      · rw [z]; exact Nat.le_add_right _ _
      · rw [z]; exact Nat.le_refl _
    exact I1.fpOk hle (I1.hok.fresh hle)
  cases r1 with
  | cons r rr =>
    cases rr
    cases r
    rcases q1 with ⟨hq, q⟩ | ⟨hq, q⟩
    · obtain ⟨its, rv, p', hz⟩ := I1.list hq
      refine call_enumerate_list p'.isList fun h' he hit hsz hk => wpAny_pyIter_enum he ?_
      have I2 : Inv X pins σ H1 { s1 with heap := h' } := I1.kept (t' := s1.toks) hk
      exact ⟨s1.heap.objs.size + 1, [s1.heap.objs.size + 1, s1.heap.objs.size], _, _, H1, rfl, I2, turn_enum a (s1.heap.objs.size + 1) s1.heap.objs.size, ⟨⟨.none, he⟩, hit, Nat.succ_ne_self _⟩, fp, q⟩
    · obtain ⟨its, rv, p', hz⟩ := I1.tuple hq
      refine call_enumerate_tuple p' fun h' he hit hsz hk => wpAny_pyIter_enum he ?_
      have I2 : Inv X pins σ H1 { s1 with heap := h' } := I1.kept (t' := s1.toks) hk
      exact ⟨s1.heap.objs.size + 1, [s1.heap.objs.size + 1, s1.heap.objs.size], _, _, H1, rfl, I2, turn_enumT a (s1.heap.objs.size + 1) s1.heap.objs.size, ⟨⟨.none, he⟩, hit, Nat.succ_ne_self _⟩, fp, q⟩
/-! ### over plain data -/
def enD (n : Nat) : List D → List D
  | [] => []
  | d :: ds => .tup [.int n, d] :: enD (n + 1) ds
theorem enD_len : ∀ (n : Nat) (ds : List D), (enD n ds).length = ds.length
  | _, [] => rfl
  | n, d :: ds => by
    show (enD (n + 1) ds).length + 1 = ds.length + 1
    rw [enD_len]
theorem enD_get : ∀ (n : Nat) (ds : List D) (i : Nat) (d : D), ds[i]? = some d → (enD n ds)[i]? = some (.tup [.int ((n + i : Nat)), d])
  | _, [], i, d, h => by simp at h
  | n, d :: ds, 0, e, h => by
    simp at h
    subst h
    rfl
  | n, d :: ds, i + 1, e, h => by
    show (enD (n + 1) ds)[i]? = _
    rw [enD_get (n + 1) ds i e (by simpa using h), show n + 1 + i = n + (i + 1) by omega]
theorem pair_step {K : Frag} {g : Gh} {H : Hp} {T : Addr} {d e : D} {x y : V} (rh : RH K g H) (hT : H T = none) (dx : DV K g H d x) (ey : DV K g H e y) : Ext K g H g (upd H T (.tup [x, y])) ∧ RH K g (upd H T (.tup [x, y])) ∧ DV K g (upd H T (.tup [x, y])) (.tup [d, e]) (.ref T) :=
  ⟨Ext.new0 hT, rh.new0 hT, T, [x, y], rfl, .inl upd_same, x, [y], rfl, dx.ext (Ext.new0 hT), y, [], rfl, ey.ext (Ext.new0 hT), rfl⟩
section
variable {X : Cx} {W : WX} {e e2 : Expr} {ta : TAd} {p pos tpos : Pos} {elts : List Expr} {kk : Nat}
@[irreducible] def jEn (ds : List D) (g : Hd) (q : List D → Option (Addr × List D) → Hd → Prop) : Prop := arg1 ds fun d => match d with
  | .tup es => q (enD 0 es) none g
  | .fl es => q (enD 0 es) none g
  | .ref a => ∃ es, g a = some (.lst es) ∧ q (enD 0 es) (some (a, es)) g
  | _ => False
theorem di_enum (hm : X.mg "enumerate" = none) (ha : DAr X W [e] ta) (hg : Gl X "enumerate" := by rfl) (hs : starEach [e] X.env = [(false, eval e X.env)] := by rfl) : DI X W (.Tuple elts kk tpos) (.Call (.Name "enumerate" p) [e] [] pos) (iA jEn ta) :=
  PI_mono (pi_enumA hg hm ha hs) fun σ H R ⟨s, g, q, x, rs, rh, h, k, xl⟩ => ⟨s, g, _, x, rs, rh, h, fun ds vs g1 H1 x1 rh1 dv hh => by
    unfold jEn at hh
    obtain ⟨d, e1, hh⟩ := arg1_ok hh
    subst e1
    obtain ⟨v, e2, r⟩ := dvs1 dv
    subst e2
    cases d with
    | tup es =>
      obtain ⟨a, us, e3, t, r⟩ := r
      refine ⟨a, us, by rw [e3], .inr ⟨t.sq, k _ none _ g1 H1 x1 rh1 ?_ hh⟩⟩
      unfold WalkD
      rw [enD_len]
      refine ⟨fun i H hi ⟨g, rh, x, c⟩ => ⟨us, us[i]'(by rw [r.length]; exact hi), (t.ext x).sq, by simp⟩, fun H ⟨g, rh, x, c⟩ => ⟨us, (t.ext x).sq, r.length⟩, fun i H y H' hi _ ⟨T, z, e4, hT, e5, yv⟩ g rh x c => ?_⟩
      obtain ⟨d, h2, h3⟩ := r.get' (yv us (t.ext x).sq)
      subst e4 e5
      obtain ⟨p1, p2, p3⟩ := pair_step (d := .int (i : Nat)) (x := .int (i : Nat)) rh hT rfl (h3.ext x)
      exact ⟨_, by rw [enD_get 0 es i d h2, Nat.zero_add], p1, p2, p3⟩
    | fl es =>
      obtain ⟨a, us, e3, t, r⟩ := r
      refine ⟨a, us, by rw [e3], .inl ⟨t.sq, k _ none _ g1 H1 x1 rh1 ?_ hh⟩⟩
      unfold WalkD
      rw [enD_len]
      refine ⟨fun i H hi ⟨g, rh, x, c⟩ => ⟨us, us[i]'(by rw [r.length]; exact hi), (t.ext x).sq, by simp⟩, fun H ⟨g, rh, x, c⟩ => ⟨us, (t.ext x).sq, by rw [r.length]; exact Nat.le_refl _⟩, fun i H y H' hi _ ⟨T, z, e4, hT, e5, yv⟩ g rh x c => ?_⟩
      obtain ⟨d, h2, h3⟩ := r.get' (yv us (t.ext x).sq)
      subst e4 e5
      obtain ⟨p1, p2, p3⟩ := pair_step (d := .int (i : Nat)) (x := .int (i : Nat)) rh hT rfl (h3.ext x)
      exact ⟨_, by rw [enD_get 0 es i d h2, Nat.zero_add], p1, p2, p3⟩
    | ref a =>
      obtain ⟨es, hg, hh⟩ := hh
      obtain ⟨us, h1, r'⟩ := rh1.at_ a _ hg
      refine ⟨a, us, by rw [show v = .ref a from r], .inl ⟨SqL.of h1, k _ _ _ g1 H1 x1 rh1 ?_ hh⟩⟩
      unfold WalkD
      rw [enD_len]
      refine ⟨fun i H hi ⟨g, rh, x, c⟩ => ?_, fun H ⟨g, rh, x, c⟩ => ?_, fun i H y H' hi _ ⟨T, z, e4, hT, e5, yv⟩ g rh x c => ?_⟩
      · obtain ⟨ws, h2, r2⟩ := rh.at_ a _ c.1
        exact ⟨ws, ws[i]'(by rw [r2.length]; exact hi), SqL.of h2, by simp⟩
      · obtain ⟨ws, h2, r2⟩ := rh.at_ a _ c.1
        exact ⟨ws, SqL.of h2, by rw [r2.length]; exact Nat.le_refl _⟩
      · obtain ⟨ws, h2, r2⟩ := rh.at_ a _ c.1
        obtain ⟨d, h4, h3⟩ := r2.get' (yv ws (SqL.of h2))
        subst e4 e5
        obtain ⟨p1, p2, p3⟩ := pair_step (d := .int (i : Nat)) (x := .int (i : Nat)) rh hT rfl h3
        exact ⟨_, by rw [enD_get 0 es i d h4, Nat.zero_add], p1, p2, p3⟩
    | _ => exact False.elim hh, xl⟩
end
end DL

/-! DN: try with any except clauses, with and without names; the fields of the caught error. -/
namespace DL
open PySem PySem.Spec PyProof.Rows L2
abbrev ClN := Value × Option Nat × (Addr → Value → Option Addr → TS)
def goneE (oi : Option Nat) (D : Ends) : Ends := match oi with
  | none => D
  | some i => { nx := fun σ' H' => D.nx (σ'.set i none) H', rt := D.rt, bk := fun σ' H' => D.bk (σ'.set i none) H', ct := fun σ' H' => D.ct (σ'.set i none) H' }
def putN (oi : Option Nat) (a : Addr) (σ : St) : St := match oi with
  | none => σ
  | some i => σ.set i (some (.ref a))
def wManyN (K : Frag) (Wout : WX) (D : Ends) : List ClN → WX
  | [] => Wout
  | (c, oi, ts) :: r => fun cls d σ H => ∃ b, PySem.W.exmOne K cls c = some b ∧ (b = true → ∀ a, H a = none → ts a cls d (goneE oi D) (putN oi a σ) H) ∧ (b = false → wManyN K Wout D r cls d σ H)
inductive HdsN (X : Cx) : List ExceptHandler → List ClN → Prop
  | nil : HdsN X [] []
  | cons {x : Str} {c : Value} {ts : Addr → Value → Option Addr → TS} {b₀ : Stmt} {suite : List Stmt} {np pos' : Pos} {hds : List ExceptHandler} {l : List ClN} (hc : Names X x c)
      (hsu : ∀ (a : Addr) (oe : Obj) (cls : Value) (d : Option Addr) (pn : List (Addr × Obj)), Zc cls d oe → (∃ vs, oe.data = .fields vs) → PSs (X.suite a ((a, oe) :: pn)) (b₀ :: suite) (ts a cls d)) (r : HdsN X hds l) :
      HdsN X (.ExceptHandler (some (.Name x np)) none (b₀ :: suite) pos' :: hds) ((c, none, ts) :: l)
  | consN {x n : Str} {i : Nat} {c : Value} {ts : Addr → Value → Option Addr → TS} {b₀ : Stmt} {suite : List Stmt} {np pos' : Pos} {hds : List ExceptHandler} {l : List ClN} (hi : X.N[i]? = some n) (hln : X.env.kindOf n = some .local) (hc : Names X x c)
      (hsu : ∀ (a : Addr) (oe : Obj) (cls : Value) (d : Option Addr) (pn : List (Addr × Obj)), Zc cls d oe → (∃ vs, oe.data = .fields vs) → PSs (X.suite a ((a, oe) :: pn)) (b₀ :: suite) (ts a cls d)) (r : HdsN X hds l) :
      HdsN X (.ExceptHandler (some (.Name x np)) (some n) (b₀ :: suite) pos' :: hds) ((c, some i, ts) :: l)
section
variable {X : Cx} {body : List Stmt} {h₀ : ExceptHandler} {hds : List ExceptHandler} {l : List ClN} {pos : Pos} {tb : WX → TS} {Wout : WX}
theorem ps_try_manyN (hs : X.stack = X.env :: X.outer) (hf : X.env.frame = some X.env.locals) (hN : X.N.Nodup) (tk : Takes X Wout)
    (hb : ∀ (W : WX) (pn : List (Addr × Obj)) (xe : Value → Shared → Prop), Takes (X.tr pn xe) W → PassesOwn (model X.prog X.w) X.A X.env xe → PSs (X.tr pn xe) body (tb W))
    (hh : HdsN X (h₀ :: hds) l) : PS X (.Try body (h₀ :: hds) [] [] pos) (fun D σ H => tb (wManyN X.K Wout D l) D σ H) := by
  refine ⟨fun pins s σ H D I h => ?_⟩
  have ok := I.ok
  have hfr : X.A.frames = some (X.env :: X.outer) := by rw [ok.frames, hs]
  refine wpAny_Try_except ?_
  refine wpAny_mono ((hb (wManyN X.K Wout D l) (X.pn ++ pins) (fun e s₁ => wpAny (model X.prog X.w) X.A (noteFrame e X.env) (fun _ s₂ => wpAny (model X.prog X.w) X.A (setFlight e none) (fun _ s₃ =>
    wpAny (model X.prog X.w) X.A (handleBy e X.env (h₀ :: hds)) (SP X pins D) X.xe s₃) X.xe s₂) X.xe s₁) (fun u s' xx => ?_) PassesOwn.looking).run [] s σ H D (I.toTry _) h) (fun f s1 hsp => ?_) (fun e s1 he => he)
  · obtain ⟨a, B, sI, pins', σ', H', cls, d, rfl, J', nb, up, sky, na, os, ag, w⟩ := xx
    have J : Inv X pins σ' H' sI := J'.ofTry ok
    have sky' : Sky B (X.env :: X.outer) a (Zc cls d) X.env.locals s'.heap := by rw [← hs]; exact sky
    show wpAny (model X.prog X.w) X.A (noteFrame (.ref a) X.env) _ _ _
    refine Sky.land Zc.steady hfr hf sky' fun h3 fl3 up3 => ?_
    have J3 : Inv X pins σ' H' { s' with heap := h3 } := J.landed nb fl3.1 (up.trans up3) os ag
    obtain ⟨oe3, vs3, he3, hz3, hd3⟩ := fl3.there
    have notFr : ∀ {h : Heap} {o : Obj} {vs : Array Value}, h.FunFrames B (X.env :: X.outer) → h.get? a = some o → o.data = .fields vs → a ∉ frs (X.env :: X.outer) := fun {h o vs} ff e dd hm => by
      obtain ⟨_, o', e', hnf⟩ := ff.mem hm
      rw [e] at e'; cases e'
      exact hnf _ dd
    have nfr := notFr fl3.2.2.1 he3 hd3
    have nL : a ≠ X.env.locals := fun z => nfr (List.mem_filterMap.mpr ⟨X.env, List.mem_cons_self, by rw [hf, z]⟩)
    have nF : a ∉ X.fs := fun hm => by
      obtain ⟨e, he, q⟩ := List.mem_filterMap.mp hm
      exact nfr (List.mem_filterMap.mpr ⟨e, List.mem_cons_of_mem _ he, q⟩)
    have S3 := J3.suite he3 hd3 na nL nF
    have LT : PySem.W.Looks (model X.prog X.w) h3 (typeOf (.ref a)) cls := fun A Q E s k q => wpAny_typeOf_ref (k _ _ he3) (by rw [hz3.1]; exact q)
    have test : ∀ {x : Str} {c : Value} {np : Pos}, Names X x c → ∀ {Q : Value → Shared → Prop} {E : Value → Shared → Prop}, Q c { s' with heap := h3 } → wpAny (model X.prog X.w) (X.A.mark (some (.ref a))) (eval (.Name x np) X.env) Q E { s' with heap := h3 } := fun {x c np} hc {Q E} q => by
      obtain ⟨hg, hdbg, hm | ⟨hm, hv, hnn⟩⟩ := hc
      · exact ld_glob (X := X.suite a ((a, oe3) :: (X.pn ++ pins))) S3 hg hm q hdbg
      · exact ld_blt (X := X.suite a ((a, oe3) :: (X.pn ++ pins))) S3 hg hm hv q hnn hdbg
    have go : ∀ {hds' : List ExceptHandler} {l' : List ClN}, HdsN X hds' l' → wManyN X.K Wout D l' cls d σ' H' →
        wpAny (model X.prog X.w) X.A (handleBy (.ref a) X.env hds') (SP X pins D) X.xe { s' with heap := h3 } := by
      intro hds' l' hk
      induction hk with
      | nil =>
        intro w
        refine wpAny_handleBy_nil ?_
        obtain ⟨k1, k2, k3, oe, vs, T, oT, ts', he, hz, hd, h1, hr⟩ := id fl3
        unfold PySem.passOn
        refine wpAny_bind (wpAny_field he hd h1 ?_)
        rw [if_neg (show ¬ ((Value.ref T == Value.none) = true) from by simp)]
        have fin : wpAny (model X.prog X.w) X.A (setFlight (.ref a) X.env.frame) (fun _ s4 => wpAny (model X.prog X.w) X.A (throw (.ref a) : Sem Flow) (SP X pins D) X.xe s4) X.xe { s' with heap := h3 } := by
          rw [hf]
          refine HandSPX.setFlight_upZ fl3 fun h4 hh4 up4 => wpAny_throw (tk _ _ ?_)
          exact ⟨a, B, sI, pins, σ', H', cls, d, rfl, J, nb, (up.trans up3).trans up4, .inr (.inr (by rw [hs]; exact hh4)), na, os, ag, w⟩
        first
          | exact wpAny_bind (wpAny_pure (wpAny_bind fin))
          | exact wpAny_bind fin
      | @cons x c ts b₀ suite np pos' hds2 l2 hc hsu r ih =>
        intro w
        obtain ⟨b, hb1, hyes, hno⟩ := w
        refine wpAny_handleBy_cons (codeAny_handlers_test ?_) (by intro q; cases q)
        have LM := PySem.W.exm_one (M := model X.prog X.w) (J3.kIn) LT hb1
        refine test hc (LM.here ?_)
        cases b with
        | true =>
          refine codeAny_handlers_suite ?_
          refine HandSPX.lands_againZ fl3 fun h4 fl4 up4 => ?_
          have J4 : Inv X pins σ' H' { s' with heap := h4 } := J.landed nb fl4.1 ((up.trans up3).trans up4) os ag
          obtain ⟨oe4, vs4, he4, hz4, hd4⟩ := fl4.there
          have S4 := J4.suite he4 hd4 na nL nF
          refine wpAny_mono ((hsu a oe4 cls d (X.pn ++ pins) hz4 ⟨_, hd4⟩).run [] _ _ H' _ S4 (hyes rfl a na)) (fun f s6 hsp => ?_) (fun _ _ z => False.elim z)
          cases f with
          | next =>
            obtain ⟨σ6, H6, S6, q6⟩ := hsp
            exact ⟨_, _, S6.unsuite ok, q6⟩
          | brk =>
            obtain ⟨σ6, H6, S6, q6⟩ := hsp
            exact ⟨_, _, S6.unsuite ok, q6⟩
          | cont =>
            obtain ⟨σ6, H6, S6, q6⟩ := hsp
            exact ⟨_, _, S6.unsuite ok, q6⟩
          | ret u =>
            obtain ⟨v6, σ6, H6, S6, r6, q6⟩ := hsp
            exact ⟨_, _, _, S6.unsuite ok, r6, q6⟩
        | false =>
          show wpAny _ X.A (handleBy (.ref a) X.env hds2) _ _ _
          exact ih (hno rfl)
      | @consN x n i c ts b₀ suite np pos' hds2 l2 hi hln hc hsu r ih =>
        intro w
        obtain ⟨b, hb1, hyes, hno⟩ := w
        refine wpAny_handleBy_cons (codeAny_handlers_test ?_) (by intro q; cases q)
        have LM := PySem.W.exm_one (M := model X.prog X.w) (J3.kIn) LT hb1
        refine test hc (LM.here ?_)
        cases b with
        | true =>
          refine codeAny_handlers_suite_as ?_
          refine HandSPX.lands_againZ fl3 fun h4 fl4 up4 => ?_
          have J4 : Inv X pins σ' H' { s' with heap := h4 } := J.landed nb fl4.1 ((up.trans up3).trans up4) os ag
          obtain ⟨oe4, vs4, he4, hz4, hd4⟩ := fl4.there
          have S4 := J4.suite he4 hd4 na nL nF
          refine store_ok (X := X.suite a ((a, oe4) :: (X.pn ++ pins))) (v := .ref a) S4 hN hi (.inl hln) rfl (fun s5 S5 => ?_) (.inr hln)
          refine wpAny_mono ((hsu a oe4 cls d (X.pn ++ pins) hz4 ⟨_, hd4⟩).run [] s5 _ H' _ S5 (hyes rfl a na)) (fun f s6 hsp => ?_) (fun _ _ z => False.elim z)
          have end_ : ∀ {σ6 : St} {H6 : Hp} {Q : Shared → Prop}, Inv (X.suite a ((a, oe4) :: (X.pn ++ pins))) [] σ6 H6 s6 → (∀ s7, Inv X pins (σ6.set i none) H6 s7 → Q s7) →
              wpAny (model X.prog X.w) X.A (do bindName X.env n .none; unbindBehindTheSuite X.env n pos') (fun _ s7 => Q s7) X.xe s6 := fun {σ6 H6 Q} S6 hq => gone_ok (S6.unsuite ok) hN hi hln hq
          cases f with
          | next =>
            obtain ⟨σ6, H6, S6, q6⟩ := hsp
            exact end_ S6 fun s7 J7 => ⟨_, _, J7, q6⟩
          | brk =>
            obtain ⟨σ6, H6, S6, q6⟩ := hsp
            exact end_ S6 fun s7 J7 => ⟨_, _, J7, q6⟩
          | cont =>
            obtain ⟨σ6, H6, S6, q6⟩ := hsp
            exact end_ S6 fun s7 J7 => ⟨_, _, J7, q6⟩
          | ret u =>
            obtain ⟨v6, σ6, H6, S6, r6, q6⟩ := hsp
            exact end_ S6 fun s7 J7 => ⟨_, _, _, J7, r6, q6⟩
        | false =>
          show wpAny _ X.A (handleBy (.ref a) X.env hds2) _ _ _
          exact ih (hno rfl)
    exact go hh w
  · cases f with
    | next =>
      obtain ⟨σ', H', J', q⟩ := hsp
      exact wpAny_execs_nil ⟨σ', H', J'.ofTry ok, q⟩
    | brk =>
      obtain ⟨σ', H', J', q⟩ := hsp
      exact ⟨σ', H', J'.ofTry ok, q⟩
    | cont =>
      obtain ⟨σ', H', J', q⟩ := hsp
      exact ⟨σ', H', J'.ofTry ok, q⟩
    | ret u =>
      obtain ⟨v, σ', H', J', r, q⟩ := hsp
      exact ⟨v, σ', H', J'.ofTry ok, r, q⟩
end
/-! ### over plain data -/
abbrev ClD := Value × Option Nat × Addr × (Addr → Option Addr → TSd)
def goneD (oi : Option Nat) (D : Dn) : Dn := match oi with
  | none => D
  | some i => { D with nx := fun s g => D.nx (s.set i none) g, bk := fun s g => D.bk (s.set i none) g, ct := fun s g => D.ct (s.set i none) g }
def putD' (oi : Option Nat) (a : Addr) (d : Option Addr) (C : Addr) (fs : List (Str × DL.D)) (s : Sd) : Sd := match oi with
  | none => s
  | some i => s.set i (some (.exc a d C fs))
/-- what the clauses wish; the suites raise nothing -/
def dClauses (K : Frag) (D : Dn) : List ClD → Xd
  | [] => D.ex
  | (c, oi, C0, ts) :: r => fun C fs s g => ∃ b, PySem.W.exmOne K (.ref C) c = some b ∧ cond b (C = C0 ∧ ∀ a d, ts a d { goneD oi D with ex := X0 } (putD' oi a d C0 fs s) g) (dClauses K D r C fs s g)
def dTry (K : Frag) (tb : TSd) (l : List ClD) : TSd := fun D s g => tb { D with ex := dClauses K D l } s g
inductive HdsD (X : Cx) : List ExceptHandler → List ClD → Prop
  | nil : HdsD X [] []
  | cons {x : Str} {c : Value} {C0 : Addr} {ts : Addr → Option Addr → TSd} {b₀ : Stmt} {suite : List Stmt} {np pos' : Pos} {hds : List ExceptHandler} {l : List ClD} (hc : Names X x c)
      (hsu : ∀ (a : Addr) (oe : Obj) (cls : Value) (d : Option Addr) (pn : List (Addr × Obj)), Zc cls d oe → (∃ vs, oe.data = .fields vs) → cls = .ref C0 → DSs (X.suite a ((a, oe) :: pn)) W0 (b₀ :: suite) (ts a d)) (r : HdsD X hds l) :
      HdsD X (.ExceptHandler (some (.Name x np)) none (b₀ :: suite) pos' :: hds) ((c, none, C0, ts) :: l)
  | consN {x n : Str} (i : Nat) {c : Value} {C0 : Addr} {ts : Addr → Option Addr → TSd} {b₀ : Stmt} {suite : List Stmt} {np pos' : Pos} {hds : List ExceptHandler} {l : List ClD} (hi : X.N[i]? = some n) (hln : X.env.kindOf n = some .local) (hc : Names X x c)
      (hsu : ∀ (a : Addr) (oe : Obj) (cls : Value) (d : Option Addr) (pn : List (Addr × Obj)), Zc cls d oe → (∃ vs, oe.data = .fields vs) → cls = .ref C0 → DSs (X.suite a ((a, oe) :: pn)) W0 (b₀ :: suite) (ts a d)) (r : HdsD X hds l) :
      HdsD X (.ExceptHandler (some (.Name x np)) (some n) (b₀ :: suite) pos' :: hds) ((c, some i, C0, ts) :: l)
def ClD.n (K : Frag) (c : ClD) : ClN := (c.1, c.2.1, fun a cls d D σ H => cls = .ref c.2.2.1 ∧ liftS K W0 (c.2.2.2 a d) D σ H)
theorem HdsD.ok {X : Cx} {hds : List ExceptHandler} {l : List ClD} (h : HdsD X hds l) : HdsN X hds (l.map (ClD.n X.K)) := by
  induction h with
  | nil => exact .nil
  | cons hc hsu r ih => exact .cons hc (fun a oe cls d pn z hv => ⟨fun pins s σ H D I ⟨ec, q⟩ => (hsu a oe cls d pn z hv ec).run pins s σ H D I q⟩) ih
  | consN i hi hln hc hsu r ih => exact .consN hi hln hc (fun a oe cls d pn z hv => ⟨fun pins s σ H D I ⟨ec, q⟩ => (hsu a oe cls d pn z hv ec).run pins s σ H D I q⟩) ih
section
variable {X : Cx} {W : WX} {body : List Stmt} {h₀ : ExceptHandler} {hds : List ExceptHandler} {l : List ClD} {pos : Pos} {tb : TSd}
theorem clauses_ok {K : Frag} {W : WX} {D : Ends} {d : Dn} {g : Gh} {H : Hp} (n : SL K g H d.nx D.nx) (b : SL K g H d.bk D.bk) (c : SL K g H d.ct D.ct) (r : QL K g H d.rt D.rt) (x : XL K g H d.ex W) : ∀ l : List ClD, XL K g H (dClauses K d l) (wManyN K W D (l.map (ClD.n K)))
  | [] => x
  | (cv, oi, C0, ts) :: l => fun C fs cls dd s σ g1 H1 x1 rh1 rs1 er hh => by
    obtain ⟨k, h1, h2⟩ := hh
    have ec := er.1
    subst ec
    refine ⟨k, h1, fun e a na => ?_, fun e => ?_⟩
    · subst e
      have h3 : C = C0 ∧ ∀ a d', ts a d' { goneD oi d with ex := X0 } (putD' oi a d' C0 fs s) g1.h := h2
      obtain ⟨eC, h3⟩ := h3
      subst eC
      refine ⟨rfl, putD' oi a dd C fs s, g1, { goneD oi d with ex := X0 }, ?_, rh1, h3 a dd, ?_⟩
      · cases oi with
        | none => exact rs1
        | some i => exact rs1.set i ⟨rfl, er.2⟩
      · cases oi with
        | none => exact ⟨n.ext x1, b.ext x1, c.ext x1, r.ext x1, XL0⟩
        | some i => exact ⟨fun s2 σ2 g2 H2 x2 rh2 rs2 hh => n _ _ g2 H2 (x1.trans x2) rh2 (rs2.wipe i) hh, fun s2 σ2 g2 H2 x2 rh2 rs2 hh => b _ _ g2 H2 (x1.trans x2) rh2 (rs2.wipe i) hh, fun s2 σ2 g2 H2 x2 rh2 rs2 hh => c _ _ g2 H2 (x1.trans x2) rh2 (rs2.wipe i) hh, r.ext x1, XL0⟩
    · subst e
      exact clauses_ok n b c r x l C fs _ dd s σ g1 H1 x1 rh1 rs1 er h2
theorem ds_try (hs : X.stack = X.env :: X.outer) (hf : X.env.frame = some X.env.locals) (hN : X.N.Nodup) (tk : Takes X W)
    (hb : ∀ (W' : WX) (pn : List (Addr × Obj)) (xe : Value → Shared → Prop), Takes (X.tr pn xe) W' → PassesOwn (model X.prog X.w) X.A X.env xe → DSs (X.tr pn xe) W' body tb)
    (hh : HdsD X (h₀ :: hds) l) : DS X W (.Try body (h₀ :: hds) [] [] pos) (dTry X.K tb l) :=
  PS_mono (ps_try_manyN hs hf hN tk (tb := fun W' => liftS X.K W' tb) hb hh.ok) fun D σ H ⟨s, g, d, rs, rh, h, n, b, c, r, x⟩ =>
    ⟨s, g, _, rs, rh, h, n, b, c, r, clauses_ok n b c r x l⟩
theorem ExcD.lookup {K : Frag} {g : Gh} {H : Hp} {d : Option Addr} {fs : List (Str × DL.D)} {f : Str} {y : DL.D} (h : (d = none ∧ fs = []) ∨ ∃ dx us, d = some dx ∧ H dx = some (.xd us) ∧ g.F dx ∧ DFs K g H fs us) (l : fs.lookup f = some y) :
    ∃ dd us v, d = some dd ∧ H dd = some (.xd us) ∧ us.lookup f = some v ∧ DV K g H y v := by
  rcases h with ⟨_, e⟩ | ⟨dx, us, e, h1, _, r⟩
  · rw [e] at l
    cases l
  · obtain ⟨v, l1, dv⟩ := r.lookup l
    exact ⟨dx, us, v, e, h1, l1, dv⟩
def asX (v : DL.D) (Q : Addr → Option Addr → Addr → List (Str × DL.D) → Prop) : Prop := match v with
  | .exc a d C fs => Q a d C fs
  | _ => False
theorem asX_ok {v : DL.D} {Q : Addr → Option Addr → Addr → List (Str × DL.D) → Prop} (h : asX v Q) : ∃ a d C fs, v = .exc a d C fs ∧ Q a d C fs := by
  cases v with
  | exc a d C fs => exact ⟨a, d, C, fs, rfl, h⟩
  | _ => exact False.elim h
/-- e.f of the caught error -/
def dXf (a : Addr) (d : Option Addr) (f : Str) (te : TEd) : TEd := fun s g q x => te s g (fun v g1 => asX v fun a' d' _ fs => (a' = a ∧ d' = d) ∧ ∃ y, fs.lookup f = some y ∧ q y g1) x
theorem de_xf {a C : Addr} {oe : Obj} {cls : Value} {d : Option Addr} {pn : List (Addr × Obj)} {e : Expr} {te : TEd} {pos : Pos} {n : Str} (T : XfC X.K C) (hno : PySem.W.findIn X.K (.ref C) n = some none)
    (hz : Zc cls d oe) (hf : ∃ vs, oe.data = .fields vs) (hcls : cls = .ref C) (he : DE (X.suite a ((a, oe) :: pn)) W0 e te) (hb : attributeBase e n X.env (eval e X.env) = eval e X.env := by rfl) :
    DE (X.suite a ((a, oe) :: pn)) W0 (.Attribute e n pos) (dXf a d n te) :=
  PE_mono (pe_xf T hno hz hf he hb) fun σ H Q ⟨s, g, q, x, rs, rh, h, ql, xl⟩ => ⟨s, g, _, x, rs, rh, h, fun dv v g1 H1 x1 rh1 r hh => by
    obtain ⟨a', d', C', fs, e0, ⟨e1, e2⟩, y, l, h5⟩ := asX_ok hh
    subst e0
    obtain ⟨ev, r⟩ := r
    obtain ⟨dd, us, v', e3, h3, l3, r3⟩ := ExcD.lookup r l
    exact ⟨by rw [ev, e1], hcls, dd, us, v', by rw [← e2, e3], h3, l3, ql y v' g1 H1 x1 rh1 r3 h5⟩, xl⟩
/-- isinstance(e, c) of the caught error -/
def rIsX (K : Frag) (C a : Addr) (d : Option Addr) : List V → Hp → VK → Prop := fun xs H Q => ∃ (c : V) (cv : Value) (b : Bool), xs = [.ref a, c] ∧ (∀ u, RelV c u → u = cv) ∧ PySem.W.kitOne K (.ref C) cv = some b ∧ (d = none ∨ ∃ dd us, d = some dd ∧ H dd = some (.xd us)) ∧ Q (.bl b) H
theorem call_isX {a C : Addr} {oe : Obj} {d : Option Addr} {pn : List (Addr × Obj)} (T : ExcC X.K C) (hz : Zc (.ref C) d oe) (hf : ∃ vs, oe.data = .fields vs) : CallR (X.suite a ((a, oe) :: pn)) (.builtin "isinstance") (rIsX X.K C a d) := by
  intro pins s σ H xs us Q I r h
  obtain ⟨c, cv, b, rfl, hcv, e, hd, q⟩ := h
  cases r with
  | cons rx rr =>
    cases rr with
    | cons rt rr =>
      cases rr
      cases rx
      have ec := hcv _ rt
      subst ec
      obtain ⟨hget, _⟩ := I.pin (a, oe) (List.mem_append.mpr (.inl List.mem_cons_self))
      obtain ⟨vs, hv⟩ := hf
      have J : ∃ od, PySem.W.InstAt s.heap a oe C od := by
        obtain ⟨oc, od, oda, osl⟩ := oe
        obtain ⟨h1, h2⟩ := hz
        dsimp only at h1 h2 hv
        rcases hd with hd | ⟨dd, us, hd, hx⟩
        · subst h1 h2 hv hd
          exact ⟨none, hget, rfl, rfl, trivial⟩
        · subst h1 h2 hv hd
          have hx' : ObjOk X.prog X.w H s.heap dd (.xd us) := I.hok dd _ hx
          obtain ⟨mA, hns, hr⟩ := hx'
          obtain ⟨o2, ho, _⟩ := lookIn_ns hns
          exact ⟨some o2, hget, rfl, rfl, ho⟩
      obtain ⟨od, J⟩ := J
      have hcl : (PySem.W.clsIn X.K C).isSome = true := by
        have z := T.hd
        unfold PySem.W.hasDictIn at z
        cases q : PySem.W.clsIn X.K C with
        | none =>
          rw [q] at z
          cases z
        | some _ => rfl
      exact PySem.W.kia_one (PySem.W.kitx_exc hcl T.hg T.hk T.hs T.ha T.hn T.ht T.hm) I.kIn J e (fun z => nomatch z) fun tk => ⟨.bl b, H, I.kept (t' := tk) fun _ _ z => z, rfl, q⟩
def dIsX (a : Addr) (d : Option Addr) (b : Bool) (te : TEd) : TEd := fun s g q x => te s g (fun v g1 => asX v fun a' d' _ _ => (a' = a ∧ d' = d) ∧ q (.bl b) g1) x
theorem de_isX {a C : Addr} {oe : Obj} {cls : Value} {d : Option Addr} {pn : List (Addr × Obj)} {e e2 : Expr} {te : TEd} {pos p : Pos} {c : V} {cv : Value} {b : Bool} (T : ExcC X.K C)
    (hz : Zc cls d oe) (hf : ∃ vs, oe.data = .fields vs) (hcls : cls = .ref C) (he : DE (X.suite a ((a, oe) :: pn)) W0 e te) (he2 : PE (X.suite a ((a, oe) :: pn)) e2 (tC c)) (hcv : ∀ u, RelV c u → u = cv) (hk : PySem.W.kitOne X.K (.ref C) cv = some b) (hm : X.mg "isinstance" = none)
    (hg : Gl (X.suite a ((a, oe) :: pn)) "isinstance" := by rfl) (hs1 : starEach (e :: [e2]) X.env = (false, eval e X.env) :: starEach [e2] X.env := by rfl) (hs2 : starEach (e2 :: []) X.env = (false, eval e2 X.env) :: starEach [] X.env := by rfl) (hpl : (backTo pos (starEach [e2] X.env)).any (·.1) = false := by rfl) :
    DE (X.suite a ((a, oe) :: pn)) W0 (.Call (.Name "isinstance" p) [e, e2] [] pos) (dIsX a d b te) := by
  subst hcls
  exact PE_mono (pe_callB (call_isX T hz hf) hg hm (by decide +kernel) (pa_cons he (pa_cons he2 pa_nil hs2) hs1) (by decide) (by decide) hs1 hpl) fun σ H Q ⟨s, g, q, x, rs, rh, h, ql, xl⟩ => ⟨s, g, _, x, rs, rh, h, fun dv v g1 H1 x1 rh1 r hh => by
    obtain ⟨a', d', C', fs, e0, ⟨e1, e2⟩, h5⟩ := asX_ok hh
    subst e0
    obtain ⟨ev, r⟩ := r
    refine ⟨c, cv, b, by rw [ev, e1], hcv, hk, ?_, ql (.bl b) (.bl b) g1 H1 x1 rh1 rfl h5⟩
    rcases r with ⟨z, _⟩ | ⟨dx, us, z, h1, _⟩
    · exact .inl (by rw [← e2, z])
    · exact .inr ⟨dx, us, by rw [← e2, z], h1⟩, xl⟩
theorem relv_ref {a : Addr} : ∀ u, RelV (.ref a) u → u = .ref a := fun u h => h
theorem relv_ty {n : String} : ∀ u, RelV (.ty n) u → u = .type n := fun u h => h
def excB (K : Frag) (D : Addr) : Bool := decide (PySem.W.findIn K (.ref D) "__getattribute__" = some (some (.builtin "BaseException.__getattribute__"))) && (decide (PySem.W.findIn K (.ref D) "__getattr__" = some none) && (decide (PySem.W.subIn K (.ref D) (.type "BaseException") = some true) && (PySem.W.hasDictIn K D &&
  (decide (PySem.W.findIn K (.ref D) "__class__" = some (some (.builtin "object.__class__"))) && (decide (PySem.W.specialIn K (.builtin "object.__class__") "__get__" = some (some (.builtin "getset_descriptor.__get__"))) && (decide (PySem.W.takesIn K (.builtin "object.__class__") = some true) && decide (PySem.W.mroIn K D (.type "object") = some true)))))))
theorem excB_ok {K : Frag} {D : Addr} (h : excB K D = true) : ExcC K D := by
  obtain ⟨h1, h⟩ := Bool.and_eq_true_iff.mp h
  obtain ⟨h2, h⟩ := Bool.and_eq_true_iff.mp h
  obtain ⟨h3, h⟩ := Bool.and_eq_true_iff.mp h
  obtain ⟨h4, h⟩ := Bool.and_eq_true_iff.mp h
  obtain ⟨h5, h⟩ := Bool.and_eq_true_iff.mp h
  obtain ⟨h6, h⟩ := Bool.and_eq_true_iff.mp h
  obtain ⟨h7, h8⟩ := Bool.and_eq_true_iff.mp h
  exact ⟨of_decide_eq_true h1, of_decide_eq_true h2, of_decide_eq_true h3, h4, of_decide_eq_true h5, of_decide_eq_true h6, of_decide_eq_true h7, of_decide_eq_true h8⟩
theorem xf_of {K : Frag} {D : Addr} (T : ExcC K D) : XfC K D := ⟨T.hg, T.hk, T.hs, T.hd⟩
end
end DL

/-! DP: set comprehensions of numbers, sorted. -/
namespace DL
open PySem PySem.Spec PyProof.Rows L2 PpSet
section
variable {X : Cx}
theorem addI_ok {pins : List (Addr × Obj)} {σ : L2.St} {H : Hp} {s : Shared} {E : Value → Shared → Prop} {D : Addr} {S : Int → Bool} {n : Nat} {y : Int} {tk : Tok} {Q : Value → Shared → Prop} (I : Inv X pins σ H s) (hD : H D = some (SetO X.w D S n)) (room : n + 1 < scanBound)
    (h : ∀ s', Inv X pins σ (upd H D (SetO X.w D (fun j => S j || decide (j = y)) (if S y = true then n else n + 1))) s' → Q .none s') : wpAny (model X.prog X.w) X.A (call (.builtin "set.add") [.ref D, .int y tk]) Q E s := by
  have R := setO_get I hD
  refine setR_add R room fun h' sb new => ?_
  have he : ∃ u, h'.get? D = some u := by
    have ⟨o, _, _, _, ho, _⟩ := new
    exact ⟨o, ho⟩
  exact h _ (I.write (e := D) (t' := s.toks + 1) (by rw [hD]; trivial) (.inl rfl) (fun b u hb hu => (sb.2 b hb).trans hu) he (setO_new new))
end
section
variable {X : Cx}
/-- {elt for target in iter if ..}, elt a number: D the new set -/
def tScI (w : World) (wi : TI) (g : TG) (tt : TT) (te : TE) (vs : List Nat) : TE := fun σ H Q => wi σ H fun J H1 => ∀ D, H1 D = none → ∃ W : Nat → Nat → Hp → Prop, (∃ m, W 0 m (upd H1 D (SetO w D (fun _ => false) 0))) ∧ ∀ i m H, W i m H →
  (J.stop i H ∧ Q (.ref D) H) ∨ (J.go i H ∧ ∃ Nx : Hp → Prop, (∀ H', Nx H' → ∃ m', m' < m ∧ W (i + 1) m' H') ∧ ∀ x H', J.yld i H x H' → g x (wipe σ vs) H' fun σ2 H2 => wipe σ2 vs = wipe σ vs ∧ tt σ2 H2 fun b H3 =>
    if b = true then te σ2 H3 fun y H4 => ∃ (c : Int) (S : Int → Bool) (n : Nat), y = .int c ∧ H4 D = some (SetO w D S n) ∧ n + 1 < scanBound ∧ Nx (upd H4 D (SetO w D (fun j => S j || decide (j = c)) (if S c = true then n else n + 1))) else Nx H3)
theorem sc_coreI {pins : List (Addr × Obj)} {s : Shared} {σ : L2.St} {H : Hp} {Q : VK} {elt tg iter : Expr} {ifs : List Expr} {scope : Scope} {own : List (PySem.Str × Nat)} {pos pos' : Pos} {wi : TI} {g : TG} {tt : TT} {te : TE} {use : Option (Value → Sem Unit)} {Qf : Value → Shared → Prop}
    (hc : X.calm = true) (hN : X.N.Nodup) (I : Inv X pins σ H s) (hi : PI X tg iter wi) (ok : BlkOk X.N X.env.scope scope own)
    (hg : ∀ (s : Shared) (H : Hp) (C : Addr) (cl : List (PySem.Str × Addr)) (fp : List Addr), PG (X.blk s H scope (compEnvC scope cl C X.env) fp) tg g) (ht : ∀ (s : Shared) (H : Hp) (C : Addr) (cl : List (PySem.Str × Addr)) (fp : List Addr), PTs (X.blk s H scope (compEnvC scope cl C X.env) fp) ifs tt)
    (he : ∀ (s : Shared) (H : Hp) (C : Addr) (cl : List (PySem.Str × Addr)) (fp : List Addr), PE (X.blk s H scope (compEnvC scope cl C X.env) fp) elt te) (hs : ∀ x, foldedSetIterable iter X.env x = pure x)
    (h : tScI X.w wi g tt te (own.map (·.2)) σ H Q)
    (hRR : ∀ D C s' m H', Inv X pins σ H' s' → Q (.ref D) H' → s'.heap.Ns C m → FpOk X pins H' C → compPost (model X.prog X.w) X.A X.xe use Qf (.ref D) C (.ok .next) s') :
    wpAny (model X.prog X.w) X.A (comprehension (.SetComp elt [⟨tg, iter, ifs, 0⟩] scope pos) scope X.env pos' (newSet (.type "set")) false (eval iter X.env) use) Qf X.xe s := by
  have hfree : ∀ y ∈ scope.names, y.2 = .free → ∃ c, X.env.cells.lookup y.1 = some c := fun y hy e => by
    rcases ok.free y hy e with k | k
    · exact I.ok.has _ (.inl k)
    · exact I.ok.has _ (.inr k)
  refine wpAny_comprehension_free (use := use) rfl hs (closure_ok hfree) ok.kind (fun y hy e => by rw [ok.uniq y hy, e])
    (thn (hi.run pins s σ H _ I h) fun xv s1 hx => thn hx fun itv s2 h2 => ?_)
  obtain ⟨it, fp, tn, J, H2, e, I2, T, st2, f2, q⟩ := h2
  subst e
  refine newSet_ok (newEnv_comp ?_)
  generalize hD : s2.heap.objs.size = D
  have hDn : H2 D = none := I2.hok.fresh (Nat.le_of_eq hD)
  obtain ⟨W, ⟨m0, w0⟩, turn⟩ := q D hDn
  -- the new list
  generalize hs3 : ({ s2 with heap := s2.heap.push { cls := .type "set", dict := none, data := .set #[] 0 (.fresh 0 0 (!X.w.params.followText "set-order")) } } : Shared) = s3
  have I3 : Inv X pins σ (upd H2 D (SetO X.w D (fun _ => false) 0)) s3 := by
    rw [← hs3]
    refine I2.laid (t' := s2.toks) (fun b o e => Heap.get?_push_of_some _ e) (Nat.le_of_eq hD) ?_
    rw [← hD]
    exact setO_new (setR_fresh X.w)
  have h3 : s3.heap = s2.heap.push { cls := .type "set", dict := none, data := .set #[] 0 (.fresh 0 0 (!X.w.params.followText "set-order")) } := by rw [← hs3]
  have sz : ∀ b ∈ fp, b < s2.heap.objs.size := fun b hb => by
    obtain ⟨o, e, _⟩ := T.obj _ _ st2 b hb
    exact Heap.lt_size e
  have f3 : ∀ b ∈ fp, FpOk X pins (upd H2 D (SetO X.w D (fun _ => false) 0)) b ∧ b < s3.heap.objs.size := fun b hb => by
    have hlt := sz b hb
    refine ⟨⟨?_, (f2 b hb).2⟩, by rw [h3, Heap.size_push]; exact Nat.lt_succ_of_lt hlt⟩
    rw [upd_ne (by rw [← hD]; exact Nat.ne_of_lt hlt)]
    exact (f2 b hb).1
  have st3 : tn 0 s3.heap := T.keep _ _ _ st2 fun b _ o e => by rw [h3]; exact Heap.get?_push_of_some _ e
  have I4 := block_start I3 ok hN f3
  have pg := hg s3 (upd H2 D (SetO X.w D (fun _ => false) 0)) s3.heap.objs.size (cellsFrom (s3.heap.objs.size + 1) scope.names (cloFrom X.env.cells scope.names [])) fp
  have pt := ht s3 (upd H2 D (SetO X.w D (fun _ => false) 0)) s3.heap.objs.size (cellsFrom (s3.heap.objs.size + 1) scope.names (cloFrom X.env.cells scope.names [])) fp
  have pe := he s3 (upd H2 D (SetO X.w D (fun _ => false) 0)) s3.heap.objs.size (cellsFrom (s3.heap.objs.size + 1) scope.names (cloFrom X.env.cells scope.names [])) fp
  show codeAny _ _ (.compStart (.SetComp elt [⟨tg, iter, ifs, 0⟩] scope pos) 0 (.ref it) (.ref D) (compEnvC scope (cellsFrom (s3.heap.objs.size + 1) scope.names (cloFrom X.env.cells scope.names [])) s3.heap.objs.size X.env)) (compPost (model X.prog X.w) X.A X.xe use Qf (.ref D) s3.heap.objs.size) { s3 with heap := pushCells (s3.heap.push { cls := .type "dict", data := .dict #[] }) scope.names }
  have nfp : ∀ b ∈ fp, (upd H2 D (SetO X.w D (fun _ => false) 0)) b = none := fun b hb => (f3 b hb).1.1
  generalize hce : compEnvC scope (cellsFrom (s3.heap.objs.size + 1) scope.names (cloFrom X.env.cells scope.names [])) s3.heap.objs.size X.env = ce at I4 pg pt pe ⊢
  have cL : ce.locals = s3.heap.objs.size := by subst hce; rfl
  generalize hH3 : upd H2 D (SetO X.w D (fun _ => false) 0) = H3 at I3 I4 pg pt pe w0 nfp f3
  generalize hs4 : ({ s3 with heap := pushCells (s3.heap.push { cls := .type "dict", data := .dict #[] }) scope.names } : Shared) = s4 at I4 ⊢
  have st4 : tn 0 s4.heap := T.keep _ _ _ st3 fun b _ o e => by rw [← hs4]; exact pushCells_keeps _ _ _ _ (Heap.get?_push_of_some _ e)
  have stat : ∀ {σ' : L2.St} {H' : Hp} {s' : Shared}, Inv (X.blk s3 H3 scope ce fp) [] σ' H' s' → (∀ b ∈ fp, H' b = none) → ∀ b ∈ fp, FpOk (X.blk s3 H3 scope ce fp) [] H' b := fun {σ' H' s'} I' hn b hb =>
    ⟨hn b hb, (I'.ok.exf b hb).1, I'.ok.exfs b hb, .inl hb, fun x c e => (I'.ok.exf b hb).2 x c e, fun p hp => absurd (show p ∈ ([] : List (Addr × Obj)) ++ [] from hp) (by simp)⟩
  have loop : codeAny (model X.prog X.w) X.A (.compLoop (.SetComp elt [⟨tg, iter, ifs, 0⟩] scope pos) 0 (.ref it) (.ref D) ce) (compPost (model X.prog X.w) X.A X.xe use Qf (.ref D) s3.heap.objs.size) s4 := by
    refine compLoopS_any (fun n s' => ∃ i H', Inv (X.blk s3 H3 scope ce fp) [] (wipe σ (own.map (·.2))) H' s' ∧ tn i s'.heap ∧ (∀ b ∈ fp, H' b = none) ∧ W i n H') ?_ m0 ⟨0, H3, I4, st4, nfp, w0⟩
    rintro n s5 ⟨i, H5, I5, st5, n5, w5⟩
    rcases turn i n H5 w5 with ⟨stop, qq⟩ | ⟨go, Nx, hNx, step⟩
    · have td := T.done (X.blk s3 H3 scope ce fp) rfl rfl rfl hc i [] s5 _ H5 (fun _ _ => False) I5 (stat I5 n5) st5 stop
      refine thnF td fun r s6 ⟨hr, I6⟩ => ?_
      subst hr
      -- back in the def's context
      have I7 : Inv X pins σ H5 s6 := I3.call' (ch := fp) I6.os I6.base I6.hok I6.bare fun b hb => ⟨(f3 b hb).1.2.2.2.1, (f3 b hb).1.2.1, (f3 b hb).1.2.2.2.2.1, (f3 b hb).1.2.2.2.2.2⟩
      have nC : H5 s3.heap.objs.size = none := by
        have z : H5 ce.locals = none := I6.free
        rw [cL] at z
        exact z
      obtain ⟨m, hn, _⟩ := I6.loc
      have hn : s6.heap.Ns ce.locals m := hn
      rw [cL] at hn
      exact hRR D s3.heap.objs.size s6 m H5 I7 qq hn (I3.fpOk (Nat.le_refl _) nC)
    · have ti := T.item (X.blk s3 H3 scope ce fp) rfl rfl rfl hc i [] s5 _ H5 (fun _ _ => False) I5 (stat I5 n5) st5 go
      refine thnF ti fun r s6 ⟨u, hr, h6⟩ => ?_
      subst hr
      refine thnF h6 fun _ s7 ⟨x, H7, I7, r7, y7, st7, n7⟩ => ?_
      have I7' := I7.pinned (stat I7 n7) (T.obj _ _ st7)
      refine thnF (pg.run _ s7 _ H7 x u _ I7' r7 (step x H7 y7)) fun _ s8 ⟨σ8, H8, I8, hw8, q8⟩ => ?_
      refine thnF (pt.run _ s8 σ8 H8 _ I8 q8) fun b s9 ⟨H9, I9, q9⟩ => ?_
      -- the turn's end
      have fin : ∀ {s' : Shared} {H' : Hp}, Inv (X.blk s3 H3 scope ce fp) ([] ++ pinsAt fp s7.heap) σ8 H' s' → Nx H' → ∃ m, m < n ∧ ∃ i H', Inv (X.blk s3 H3 scope ce fp) [] (wipe σ (own.map (·.2))) H' s' ∧ tn i s'.heap ∧ (∀ b ∈ fp, H' b = none) ∧ W i m H' := fun {s' H'} I' nx => by
        obtain ⟨m', hm, w'⟩ := hNx H' nx
        have pin' : ∀ b ∈ fp, ∀ o, s7.heap.get? b = some o → s'.heap.get? b = some o ∧ H' b = none := fun b hb o e =>
          let z := I'.pin (b, o) (List.mem_append_right _ (List.mem_append_right _ (mem_pinsAt hb e)))
          ⟨z.1, z.2.1⟩
        have hl : (wipe σ (own.map (·.2))).length = σ8.length := by rw [← hw8, wipe_length]
        refine ⟨m', hm, i + 1, H', (I'.unpinned (pins := [])).weak hl (fun j v e => ?_), T.keep _ _ _ st7 fun b hb o e => (pin' b hb o e).1, fun b hb => ?_, w'⟩
        · rw [← hw8] at e
          exact (wipe_some e).1
        · obtain ⟨o, e, _⟩ := T.obj _ _ st7 b hb
          exact (pin' b hb o e).2
      cases b with
      | false =>
        simp only [Bool.false_eq_true, if_false] at q9 ⊢
        exact fin I9 q9
      | true =>
        simp only [if_true] at q9 ⊢
        refine thnF (pe.run _ s9 σ8 H9 _ I9 q9) fun z s10 ⟨yv, H10, I10, r10, cb, S0, n0, ey, hD10, hz10, nx⟩ => ?_
        subst ey
        obtain ⟨tk, ez⟩ := (show ∃ tk, z = Value.int cb tk from r10)
        subst ez
        exact addI_ok (X := X.blk s3 H3 scope ce fp) I10 hD10 hz10 fun s11 I11 => fin I11 nx
  exact codeAny_compStart_set loop (T.self X.A 0 _ _ _ st4 loop)
/-- as a value -/
theorem pe_scI {elt tg iter : Expr} {ifs : List Expr} {scope : Scope} {own : List (PySem.Str × Nat)} {pos : Pos} {wi : TI} {g : TG} {tt : TT} {te : TE} (hc : X.calm = true) (hN : X.N.Nodup) (hi : PI X tg iter wi) (ok : BlkOk X.N X.env.scope scope own)
    (hg : ∀ (s : Shared) (H : Hp) (C : Addr) (cl : List (PySem.Str × Addr)) (fp : List Addr), PG (X.blk s H scope (compEnvC scope cl C X.env) fp) tg g) (ht : ∀ (s : Shared) (H : Hp) (C : Addr) (cl : List (PySem.Str × Addr)) (fp : List Addr), PTs (X.blk s H scope (compEnvC scope cl C X.env) fp) ifs tt)
    (he : ∀ (s : Shared) (H : Hp) (C : Addr) (cl : List (PySem.Str × Addr)) (fp : List Addr), PE (X.blk s H scope (compEnvC scope cl C X.env) fp) elt te) (hs : ∀ x, foldedSetIterable iter X.env x = pure x := by intro _; rfl) :
    PE X (.SetComp elt [⟨tg, iter, ifs, 0⟩] scope pos) (tScI X.w wi g tt te (own.map (·.2))) := by
  refine ⟨fun pins s σ H Q I h => ?_⟩
  rw [eval_SetComp]
  refine sc_coreI hc hN I hi ok hg ht he hs h fun D C s' m H' I' q hn f => ⟨m, hn, fun h'' sb => ?_⟩
  obtain ⟨f0, f1, f2, f3, f4, f5⟩ := f
  exact ⟨.ref D, H', I'.turned (t' := s'.toks) (fun b o hb e => (sb.2 b hb).trans e) f0 f1 f3 f4 f5, rfl, q⟩
end
/-- a hidden new set of numbers -/
abbrev TSed := Sd → Hd → (List Int → Hd → Prop) → Xd → Prop
def NS (K : Frag) (w : World) (g : Gh) (H : Hp) (q : List Int → Hd → Prop) (Q : VK) : Prop := ∀ ms L S (g' : Gh) H', Ext K g H g' H' → RH K g' H' → H' L = some (SetO w L S ms.length) → H L = none → g'.h L = none → ¬ g'.F L → ms.Nodup → (∀ k, k ∈ ms ↔ S k = true) → q ms g'.h → Q (.ref L) H'
def liftSe (K : Frag) (w : World) (W : WX) (t : TSed) : TE := fun σ H Q => ∃ s, ∃ g : Gh, ∃ q x, RSt K g H s σ ∧ RH K g H ∧ t s g.h q x ∧ NS K w g H q Q ∧ XL K g H x W
abbrev DSe (X : Cx) (W : WX) (e : Expr) (t : TSed) : Prop := PE X e (liftSe X.K X.w W t)
def dInt (te : TEd) : TEd := fun s g q x => te s g (fun d g1 => asI d fun i => q (.int i) g1) x
def dSc (ti : TId) (gt : TCd) (tt : TTd) (te : TEd) (vs : List Nat) : TSed := fun s g q x => ti s g (fun ds o g1 => ds.length + 1 < 4096 ∧ ckP o g1 (lcD gt tt (dInt te) o (wipeD s vs) ds g1 fun ys g2 => ∀ ms : List Int, ms.Nodup → (∀ k, k ∈ ms ↔ D.int k ∈ ys) → q ms g2)) x
section
variable {K : Frag} {g g1 : Gh} {H H1 : Hp}
theorem Ext0.pokeO {L : Addr} {o u : HO} (hL : H L = some o) (h1 : ∀ vs, o ≠ .tup vs) (h2 : ∀ q v, o ≠ .frz q v) (n : ¬ g.F L) : Ext0 K g H g (upd H L u) :=
  ⟨fun p ws e => by rw [upd_ne (fun z => by rw [z, hL] at e; cases e; exact h1 ws rfl)]; exact e, fun p o w e => by rw [upd_ne (fun z => by rw [z, hL] at e; cases e; exact h2 o w rfl)]; exact e,
   fun p w e f => ⟨by rw [upd_ne (fun z => by rw [z] at f; exact n f)]; exact e, f⟩⟩
theorem RH.pokeO (R : RH K g H) {L : Addr} {o u : HO} (hL : H L = some o) (h1 : ∀ vs, o ≠ .tup vs) (h2 : ∀ q v, o ≠ .frz q v) (h0 : g.h L = none) (n : ¬ g.F L) : RH K g (upd H L u) :=
  ⟨fun a o e => (R.at_ a o e).ext' (Ext0.pokeO hL h1 h2 n) fun w q => by rw [upd_ne (fun z => by rw [z, h0] at e; cases e)]; exact q, R.apart, fun a f => by
    obtain ⟨w, e⟩ := R.there a f
    exact ⟨w, by rw [upd_ne (fun z => by rw [z] at f; exact n f)]; exact e⟩⟩
end
theorem sc_it {w : World} {J : It} {n : Nat} {G : Hp → Prop} {Y : Nat → Hp → V → Hp → Prop} (wk : Walk J n G Y) {g : TG} {tt : TT} {te : TE} {vs : List Nat} {σ : St} {H1 : Hp} {D : Addr} {Qd : Hp → Prop} (Pv : Nat → Hp → Prop) (h0 : Pv 0 (upd H1 D (SetO w D (fun _ => false) 0))) (hG : ∀ i H, i ≤ n → Pv i H → G H)
    (hs : ∀ i x H H', i < n → Pv i H → Y i H x H' → g x (wipe σ vs) H' fun σ2 H2 => wipe σ2 vs = wipe σ vs ∧ tt σ2 H2 fun b H3 =>
      if b = true then te σ2 H3 fun y H4 => ∃ (c : Int) (S : Int → Bool) (n : Nat), y = .int c ∧ H4 D = some (SetO w D S n) ∧ n + 1 < scanBound ∧ Pv (i + 1) (upd H4 D (SetO w D (fun j => S j || decide (j = c)) (if S c = true then n else n + 1))) else Pv (i + 1) H3) (hd : ∀ H, Pv n H → Qd H) :
    ∃ W : Nat → Nat → Hp → Prop, (∃ m, W 0 m (upd H1 D (SetO w D (fun _ => false) 0))) ∧ ∀ i m H, W i m H →
      (J.stop i H ∧ Qd H) ∨ (J.go i H ∧ ∃ Nx : Hp → Prop, (∀ H', Nx H' → ∃ m', m' < m ∧ W (i + 1) m' H') ∧ ∀ x H', J.yld i H x H' → g x (wipe σ vs) H' fun σ2 H2 => wipe σ2 vs = wipe σ vs ∧ tt σ2 H2 fun b H3 =>
        if b = true then te σ2 H3 fun y H4 => ∃ (c : Int) (S : Int → Bool) (n : Nat), y = .int c ∧ H4 D = some (SetO w D S n) ∧ n + 1 < scanBound ∧ Nx (upd H4 D (SetO w D (fun j => S j || decide (j = c)) (if S c = true then n else n + 1))) else Nx H3) := by
  refine ⟨fun i m H => m = n - i ∧ i ≤ n ∧ Pv i H, ⟨n, by simp, Nat.zero_le _, h0⟩, ?_⟩
  rintro i m H ⟨rfl, hi, p⟩
  have q := hG i H hi p
  by_cases hlt : i < n
  · refine .inr ⟨wk.goes i H hlt q, Pv (i + 1), fun H' p' => ⟨n - (i + 1), by omega, rfl, hlt, p'⟩, fun x H' y => hs i x H H' hlt p (wk.yields i H x H' hlt q y)⟩
  · have e : i = n := by omega
    subst e
    exact .inl ⟨wk.stops H q, hd H p⟩
theorem setO_nt {w : World} {L : Addr} {S : Int → Bool} {n : Nat} : (∀ vs, SetO w L S n ≠ .tup vs) ∧ (∀ q v, SetO w L S n ≠ .frz q v) := ⟨fun _ e => (by cases e), fun _ _ e => (by cases e)⟩
theorem sc_walk {K : Frag} {w : World} {vs : List Nat} {g : TG} {gt : TCd} (cg : CG K vs g gt) {tt : TTd} {te : TEd} {ds : List D} {o : Option (Addr × List D)} {J : It} {s : Sd} {σ : St} {g1 : Gh} {H1 : Hp} {q : List Int → Hd → Prop} (rs : RSt K g1 H1 s σ) (rh1 : RH K g1 H1) (wd : WalkD K g1 H1 ds o J)
    (hz : ds.length + 1 < 4096) (hh : ckP o g1.h (lcD gt tt (dInt te) o (wipeD s vs) ds g1.h fun ys g2 => ∀ ms : List Int, ms.Nodup → (∀ k, k ∈ ms ↔ D.int k ∈ ys) → q ms g2)) {L : Addr} (hL : H1 L = none) {Qd : Hp → Prop}
    (hq : ∀ ms S (g' : Gh) H', Ext K g1 H1 g' H' → RH K g' H' → H' L = some (SetO w L S ms.length) → g'.h L = none → ¬ g'.F L → ms.Nodup → (∀ k, k ∈ ms ↔ S k = true) → q ms g'.h → Qd H') :
    ∃ W : Nat → Nat → Hp → Prop, (∃ m, W 0 m (upd H1 L (SetO w L (fun _ => false) 0))) ∧ ∀ i m H, W i m H →
      (J.stop i H ∧ Qd H) ∨ (J.go i H ∧ ∃ Nx : Hp → Prop, (∀ H', Nx H' → ∃ m', m' < m ∧ W (i + 1) m' H') ∧ ∀ x H', J.yld i H x H' → g x (wipe σ vs) H' fun σ2 H2 => wipe σ2 vs = wipe σ vs ∧ liftT K W0 tt σ2 H2 fun b H3 =>
        if b = true then liftE K W0 te σ2 H3 fun y H4 => ∃ (c : Int) (S : Int → Bool) (n : Nat), y = .int c ∧ H4 L = some (SetO w L S n) ∧ n + 1 < scanBound ∧ Nx (upd H4 L (SetO w L (fun j => S j || decide (j = c)) (if S c = true then n else n + 1))) else Nx H3) := by
  have ww : wipe (wipe σ vs) vs = wipe σ vs := by
    have key : ∀ us : List Nat, (∀ v ∈ us, v ∈ vs) → wipe (wipe σ us) vs = wipe σ vs := by
      intro us
      induction us with
      | nil => intro _; rfl
      | cons v us ih =>
        intro h
        show wipe ((wipe σ us).set v none) vs = wipe σ vs
        rw [wipe_set (h v (List.mem_cons_self ..)), ih fun w hw => h w (List.mem_cons_of_mem _ hw)]
    exact key vs fun _ h => h
  refine sc_it wd (fun i H => ∃ gh : Gh, ∃ (acc ms : List Int) (S : Int → Bool), RH K gh H ∧ Ext K g1 H1 gh H ∧ H L = some (SetO w L S ms.length) ∧ gh.h L = none ∧ ¬ gh.F L ∧ ms.Nodup ∧ (∀ k, k ∈ ms ↔ S k = true) ∧ (∀ k, k ∈ ms ↔ k ∈ acc) ∧ ms.length ≤ i ∧
      ckP o gh.h (lcD gt tt (dInt te) o (wipeD s vs) (ds.drop i) gh.h fun zs g => ∀ ms : List Int, ms.Nodup → (∀ k, k ∈ ms ↔ D.int k ∈ acc.map D.int ++ zs) → q ms g))
    ⟨g1, [], [], _, rh1.new0 hL, Ext.new0 hL, upd_same, rh1.fresh hL, rh1.nset hL, List.nodup_nil, by simp, by simp, Nat.le_refl _, by simpa using hh⟩ (fun i H hi ⟨gh, acc, ms, S, r, x, _, _, _, _, _, _, _, c⟩ => ⟨gh, r, x, ckP_imp c fun _ => True.intro⟩) (fun i y H H2 hi ⟨gh, acc, ms, S, rh2, x2, h1, h2, h3, nd, mS, mA, la, hh⟩ yv => ?_) (fun H ⟨gh, acc, ms, S, rh2, x2, h1, h2, h3, nd, mS, mA, la, hh⟩ => ?_)
  · obtain ⟨d, hd, x3, rh3, dv⟩ := yv gh rh2 x2 (ckP_imp hh fun _ => True.intro)
    have hd2 : ds.drop i = d :: ds.drop (i + 1) := by
      obtain ⟨h1, h2⟩ := List.getElem?_eq_some_iff.mp hd
      rw [← h2, List.drop_eq_getElem_cons h1]
    have hh := ckP_out hh
    rw [hd2] at hh
    have x13 := x2.trans x3
    obtain ⟨k1, k2, k3⟩ := x3.rest L _ h1 h2
    refine cg.run d y (wipeD s vs) (wipe σ vs) gh H2 _ _ dv (rst_wipe (rs.ext x13) vs) rh3 hh fun s1 σ1 rs1 hw hh => ⟨hw.trans ww |>.trans rfl, ?_⟩
    refine ⟨s1, gh, _, X0, rs1, rh3, hh, fun b g4 H4 x4 rh4 hh => ?_, XL0⟩
    obtain ⟨m1, m2, m3⟩ := x4.rest L _ k1 h2
    have x14 := x13.trans x4
    cases b with
    | true =>
      rw [if_pos rfl]
      refine ⟨s1, g4, _, X0, rs1.ext x4, rh4, hh, fun z u g5 H5 x5 rh5 du hh => ?_, XL0⟩
      obtain ⟨c, ez, hh⟩ := asI_ok hh
      subst ez
      obtain ⟨n1, n2, n3⟩ := x5.rest L _ m1 m2
      have nf : ¬ g5.F L := fun f => h3 (m3 (n3 f))
      refine ⟨c, S, ms.length, du, n1, by show ms.length + 1 < 4096; omega, ?_⟩
      have hh2 : ckP o g5.h (lcD gt tt (dInt te) o (wipeD s vs) (ds.drop (i + 1)) g5.h fun zs g => ∀ ms : List Int, ms.Nodup → (∀ k, k ∈ ms ↔ D.int k ∈ (acc ++ [c]).map D.int ++ zs) → q ms g) := by
        have e : (fun zs g => ∀ ms : List Int, ms.Nodup → (∀ k, k ∈ ms ↔ D.int k ∈ (acc ++ [c]).map D.int ++ zs) → q ms g) = fun zs g => ∀ ms : List Int, ms.Nodup → (∀ k, k ∈ ms ↔ D.int k ∈ acc.map D.int ++ (D.int c :: zs)) → q ms g := by
          funext zs g
          rw [List.map_append, List.append_assoc]
          rfl
        rw [e]
        exact hh
      cases hSc : S c with
      | true =>
        rw [if_pos rfl]
        have eS : (fun j => S j || decide (j = c)) = S := by
          funext j
          by_cases z : j = c
          · rw [z, hSc]
            rfl
          · simp [z]
        rw [eS]
        refine ⟨g5, acc ++ [c], ms, S, rh5.pokeO n1 setO_nt.1 setO_nt.2 n2 nf, (x14.trans x5).poke hL, upd_same, n2, nf, nd, mS, fun k => ?_, Nat.le_succ_of_le la, hh2⟩
        rw [mA k, List.mem_append, List.mem_singleton]
        exact ⟨.inl, fun z => z.elim id fun z => by rw [z, ← mA c, mS c]; exact hSc⟩
      | false =>
        rw [if_neg Bool.false_ne_true]
        have nc : c ∉ ms := fun z => by
          rw [mS c, hSc] at z
          cases z
        refine ⟨g5, acc ++ [c], c :: ms, _, rh5.pokeO n1 setO_nt.1 setO_nt.2 n2 nf, (x14.trans x5).poke hL, upd_same, n2, nf, List.nodup_cons.mpr ⟨nc, nd⟩, fun k => ?_, fun k => ?_, by rw [List.length_cons]; omega, hh2⟩
        · rw [List.mem_cons, mS k]
          simp [or_comm]
        · rw [List.mem_cons, mA k, List.mem_append, List.mem_singleton, or_comm]
    | false =>
      rw [if_neg Bool.false_ne_true]
      exact ⟨g4, acc, ms, S, rh4, x14, m1, m2, fun f => h3 (m3 f), nd, mS, mA, by omega, hh⟩
  · have hh := ckP_out hh
    rw [List.drop_length] at hh
    have hh : ∀ ms : List Int, ms.Nodup → (∀ k, k ∈ ms ↔ D.int k ∈ acc.map D.int ++ []) → q ms gh.h := hh
    exact hq ms S gh H x2 rh2 h1 h2 h3 nd mS (hh ms nd fun k => by rw [mA k, List.append_nil]; simp)
section
variable {X : Cx} {W : WX}
theorem dse_sc {elt tg iter : Expr} {ifs : List Expr} {scope : Scope} {own : List (Str × Nat)} {pos : Pos} {ti : TId} {g : TG} {gt : TCd} {tt : TTd} {te : TEd} (hc : X.calm = true) (hN : X.N.Nodup) (hi : DI X W tg iter ti) (ok : BlkOk X.N X.env.scope scope own) (cg : CG X.K (own.map (·.2)) g gt)
    (hg : ∀ (s : Shared) (H : Hp) (C : Addr) (cl : List (Str × Addr)) (fp : List Addr), PG (X.blk s H scope (compEnvC scope cl C X.env) fp) tg g) (ht : ∀ (s : Shared) (H : Hp) (C : Addr) (cl : List (Str × Addr)) (fp : List Addr), PTs (X.blk s H scope (compEnvC scope cl C X.env) fp) ifs (liftT X.K W0 tt))
    (he : ∀ (s : Shared) (H : Hp) (C : Addr) (cl : List (Str × Addr)) (fp : List Addr), DE (X.blk s H scope (compEnvC scope cl C X.env) fp) W0 elt te) (hs : ∀ x, foldedSetIterable iter X.env x = pure x := by intro _; rfl) :
    DSe X W (.SetComp elt [⟨tg, iter, ifs, 0⟩] scope pos) (dSc ti gt tt te (own.map (·.2))) :=
  PE_mono (pe_scI hc hN hi ok hg ht he hs) fun σ H Q ⟨s, g0, q, x, rs, rh, h, ql, xl⟩ => ⟨s, g0, _, x, rs, rh, h, fun ds o J g1 H1 x1 rh1 wd ⟨hz, hh⟩ L hL =>
    sc_walk cg (rs.ext x1) rh1 wd hz hh hL fun ms S g' H' x' rh' h1 h2 h3 nd mS hh => ql ms L S g' H' (x1.trans x') rh' h1 (x1.there L hL) h2 h3 nd mS hh, xl⟩
/-- sorted(a hidden set) -/
def dSortS (t : TSed) : TLd := fun s g q x => t s g (fun ms g1 => ms.length < 64 ∧ ∀ rs : List Int, rs.Pairwise (· < ·) → (∀ k, k ∈ rs ↔ k ∈ ms) → q (rs.map D.int) g1) x
theorem dl_sortS {e : Expr} {t : TSed} {p pos : Pos} (hc : X.calm = true) (hm : X.mg "sorted" = none) (he : DSe X W e t) (hg : Gl X "sorted" := by rfl) (hs : starEach (e :: []) X.env = (false, eval e X.env) :: starEach [] X.env := by rfl) (hpl : (backTo pos (starEach [] X.env)).any (·.1) = false := by rfl) :
    DLs X W (.Call (.Name "sorted" p) [e] [] pos) (dSortS t) :=
  PE_mono (pe_callB (cr_sortedSet hc) hg hm (by decide +kernel) (pa_cons he pa_nil hs) (by decide) (by decide) hs hpl) fun σ H Q ⟨s, g, q, x, rs, rh, h, ql, xl⟩ => ⟨s, g, _, x, rs, rh, h, fun ms L S g1 H1 x1 rh1 hL h0 hn nf nd mS ⟨h64, hh⟩ =>
    ⟨L, S, ms.length, rfl, hL, h64, fun ns p pw mN ln hp => ql (ns.map D.int) p (ns.map V.int) g1 _ (x1.trans (Ext.new0 hp)) (rh1.new0 hp) upd_same (x1.there p hp) (rh1.fresh hp) (rh1.nset hp) DVs.ofInts (hh ns pw fun k => by rw [mN k, mS k])⟩, xl⟩
end
end DL

/-! DQ: in, wide division and products. -/
namespace DL
open PySem PySem.Spec PyProof.Rows L2
section
variable {X : Cx} {W : WX} {pos : Pos} {a b : Expr} {ta tb : TEd}
theorem de_fdivW (ha : DE X W a ta) (hb : DE X W b tb) : DE X W (.BinOp a .FloorDiv b pos) (dOp (rd2C CDivW fun i j => .int (i / j)) ta tb) := de_op op_fdivW opl_iC ha hb
theorem de_mulW (ha : DE X W a ta) (hb : DE X W b tb) : DE X W (.BinOp a .Mult b pos) (dOp (rd2C CMulW fun i j => .int (i * j)) ta tb) := de_op op_mulW opl_iC ha hb
def flatD : D → Bool
  | .non => true
  | .bl _ => true
  | .int _ => true
  | .str _ => true
  | _ => false
def eqF : D → D → Bool
  | .non, .non => true
  | .bl a, .bl b => a == b
  | .bl a, .int b => (if a then 1 else 0) == b
  | .int a, .bl b => a == (if b then 1 else 0)
  | .int a, .int b => a == b
  | .str a, .str b => strEq a b
  | _, _ => false
def inF (x : D) (ds : List D) : Bool := ds.any fun y => eqF y x
theorem flat_ok {K : Frag} {g : Gh} {H : Hp} {d : D} {v : V} (h : flatD d = true) (dv : DV K g H d v) : flatV v = true := by
  cases d <;> first
    | (rw [show v = _ from dv]; rfl)
    | (cases h)
theorem eqF_ok {K : Frag} {g : Gh} {H : Hp} {d e : D} {v u : V} (h : flatD d = true) (h' : flatD e = true) (dv : DV K g H d v) (du : DV K g H e u) : eqV v u = eqF d e := by
  cases d <;> first
    | (cases h; done)
    | (cases e <;> first
      | (cases h'; done)
      | (rw [show v = _ from dv, show u = _ from du]; first | rfl | (show (_ == _) = strEq _ _; rw [strEq_eq]; rfl)))
theorem flats_ok {K : Frag} {g : Gh} {H : Hp} : ∀ {ds : List D} {vs : List V}, ds.all flatD = true → DVs K g H ds vs → vs.all flatV = true
  | [], _, _, h => by
    rw [show _ = [] from h]
    rfl
  | d :: ds, vs, a, h => by
    obtain ⟨v, r, e, h1, h2⟩ := h
    rw [List.all_cons] at a
    obtain ⟨a1, a2⟩ := Bool.and_eq_true_iff.mp a
    rw [e, List.all_cons, flat_ok a1 h1, flats_ok a2 h2]
    rfl
theorem inF_ok {K : Frag} {g : Gh} {H : Hp} {x : D} {u : V} (hx : flatD x = true) (du : DV K g H x u) : ∀ {ds : List D} {vs : List V}, ds.all flatD = true → DVs K g H ds vs → inV u vs = inF x ds
  | [], _, _, h => by
    rw [show _ = [] from h]
    rfl
  | d :: ds, vs, a, h => by
    obtain ⟨v, r, e, h1, h2⟩ := h
    rw [List.all_cons] at a
    obtain ⟨a1, a2⟩ := Bool.and_eq_true_iff.mp a
    rw [e]
    show (eqV v u || inV u r) = (eqF d x || inF x ds)
    rw [eqF_ok a1 hx h1 du, inF_ok hx du a2 h2]
def rdInS (neg : Bool) : R2d := fun d e g Q => flatD d = true ∧ seqD e g fun ds => ds.all flatD = true ∧ Q (.bl (cond neg (!inF d ds) (inF d ds))) g
theorem opl_inS {K : Frag} {neg : Bool} : OpL K (rdInS neg) (rIn K neg) := fun d e x y g H q Q rh dx ey h ql => by
  obtain ⟨f, h⟩ := h
  obtain ⟨p, ds, vs, e1, s, r, f2, h⟩ := seqD_ok rh ey h
  refine ⟨p, vs, e1, s, flat_ok f dx, flats_ok f2 r, ?_⟩
  rw [inF_ok f dx f2 r]
  have z : (if neg = true then !inF d ds else inF d ds) = cond neg (!inF d ds) (inF d ds) := by cases neg <;> rfl
  rw [z]
  exact ql (.bl _) (.bl _) g H Ext.refl rh rfl h
theorem de_inS (ha : DE X W a ta) (hb : DE X W b tb) (hm : behindInMarks .In b = false := by rfl) : DE X W (.Compare a [.In] [b] pos) (dOp (rdInS false) ta tb) := de_cmp op_in_seq opl_inS ha hb hm
theorem dt_inS (ha : DE X W a ta) (hb : DE X W b tb) (hm : behindInMarks .In b = false := by rfl) : DT X W (.Compare a [.In] [b] pos) (dTest (dOp (rdInS false) ta tb)) := dt_cmp op_in_seq opl_inS ha hb hm
theorem de_ninS (ha : DE X W a ta) (hb : DE X W b tb) (hm : behindInMarks .NotIn b = false := by rfl) : DE X W (.Compare a [.NotIn] [b] pos) (dOp (rdInS true) ta tb) := de_cmp op_notIn_seq opl_inS ha hb hm
theorem dt_ninS (ha : DE X W a ta) (hb : DE X W b tb) (hm : behindInMarks .NotIn b = false := by rfl) : DT X W (.Compare a [.NotIn] [b] pos) (dTest (dOp (rdInS true) ta tb)) := dt_cmp op_notIn_seq opl_inS ha hb hm
end
theorem inF_ints (k : Int) : ∀ ns : List Int, inF (.int k) (ns.map D.int) = decide (k ∈ ns)
  | [] => by simp [inF]
  | n :: ns => by
    show (eqF (.int n) (.int k) || inF (.int k) (ns.map D.int)) = _
    rw [inF_ints k ns]
    show ((n == k) || _) = _
    by_cases z : k = n
    · subst z
      simp
    · have z' : ¬ n = k := fun e => z e.symm
      simp [z, z']
end DL

/-! DR: walks over lists or tuples; names of the module; what the head tells. -/
namespace DL
open PySem PySem.Spec PyProof.Rows L2
section
variable {X : Cx} {W : WX} {tg e : Expr} {te : TEd} {pos : Pos}
def iSeqV (K : Frag) (tl : TE) : TI := fun σ H R => tl σ H fun x H1 => ∃ a, x = .ref a ∧ (((∃ xs, SqL K H1 a xs) ∧ R (Itl K a) H1) ∨ ((∃ xs, SqT K H1 a xs) ∧ R (Itt K a) H1))
theorem pi_seqV {l : Expr} {tl : TE} (hl : PE X l tl) : PI X tg l (iSeqV X.K tl) := by
  refine ⟨fun pins s σ H R I h => ?_⟩
  refine thn (hl.run pins s σ H _ I h) fun v s1 ⟨x, H1, I1, r1, q1⟩ => ?_
  obtain ⟨a, e, ⟨⟨xs, hq⟩, q⟩ | ⟨⟨xs, hq⟩, q⟩⟩ := q1
  · subst e
    cases r1
    obtain ⟨its, rv, p, hz⟩ := I1.list hq
    refine wpAny_pyIter_list p.isList ?_
    refine ⟨s1.heap.objs.size, [s1.heap.objs.size], _, _, H1, rfl, I1.kept (t' := s1.toks) fun b o e => Heap.get?_push_of_some _ e, turn_list a _, ⟨_, Heap.get?_push_size _ rfl, rfl, rfl⟩, fun b hb => ?_, q⟩
    have e : b = s1.heap.objs.size := by simpa using hb
    subst e
    exact I1.fpOk (Nat.le_refl _) (I1.hok.fresh (Nat.le_refl _))
  · subst e
    cases r1
    obtain ⟨its, rv, p, hz⟩ := I1.tuple hq
    refine wpAny_pyIter_tuple (show s1.heap.IsTuple a its.toArray from p) ?_
    refine ⟨s1.heap.objs.size, [s1.heap.objs.size], _, _, H1, rfl, I1.kept (t' := s1.toks) fun b o e => Heap.get?_push_of_some _ e, turn_tuple a _, ⟨_, Heap.get?_push_size _ rfl, rfl, rfl⟩, fun b hb => ?_, q⟩
    have e : b = s1.heap.objs.size := by simpa using hb
    subst e
    exact I1.fpOk (Nat.le_refl _) (I1.hok.fresh (Nat.le_refl _))
@[irreducible] def jSq (d : D) (g : Hd) (q : List D → Option (Addr × List D) → Hd → Prop) : Prop := match d with
  | .tup ds => q ds none g
  | .fl ds => q ds none g
  | .ref a => ∃ ds, g a = some (.lst ds) ∧ q ds (some (a, ds)) g
  | _ => False
def iSq (te : TEd) : TId := fun s g q x => te s g (fun d g1 => jSq d g1 q) x
theorem di_seq (he : DE X W e te) : DI X W tg e (iSq te) := PI_mono (pi_seqV he) fun σ H R ⟨s, g, q, x, rs, rh, h, k, xl⟩ => ⟨s, g, _, x, rs, rh, h, fun d v g1 H1 x1 rh1 dv hh => by
  unfold jSq at hh
  cases d with
  | tup ds =>
    obtain ⟨a, vs, e, t, r⟩ := dv
    exact ⟨a, e, .inr ⟨⟨vs, t.sq⟩, k ds none _ g1 H1 x1 rh1 (walkD_tup t r) hh⟩⟩
  | fl ds =>
    obtain ⟨a, vs, e, t, r⟩ := dv
    exact ⟨a, e, .inl ⟨⟨vs, t.sq⟩, k ds none _ g1 H1 x1 rh1 (walkD_rol t r) hh⟩⟩
  | ref a =>
    obtain ⟨ds, hg, hh⟩ := hh
    obtain ⟨vs, h1, r⟩ := rh1.at_ a _ hg
    exact ⟨a, dv, .inl ⟨⟨vs, SqL.of h1⟩, k ds _ _ g1 H1 x1 rh1 walkD_lst hh⟩⟩
  | _ => exact False.elim hh, xl⟩
def dTru (te : TEd) : TTd := fun s g q x => te s g (fun d g1 => truD d g1 q) x
theorem de_globI2 {x : Str} {i : Int} (hm : ∃ t, X.mg x = some (.int i t)) (hg : Gl X x := by rfl) (hd : (x == ("__debug__" : Str)) = false := by decide) : DE X W (.Name x pos) (dC (.int i)) := by
  obtain ⟨t, hm⟩ := hm
  exact de_globI hm hg hd
theorem de_globS2 {x : Str} {i : Str} (hm : ∃ t, X.mg x = some (.str i t)) (hg : Gl X x := by rfl) (hd : (x == ("__debug__" : Str)) = false := by decide) : DE X W (.Name x pos) (dC (.str i)) := by
  obtain ⟨t, hm⟩ := hm
  exact de_globS hm hg hd
end
/-- what the head tells of the module -/
structure Fx (fa : List He.Fa) (fn : List He.DefD) (ex : Frag → List Bool) (K : Frag) (mg : Str → Option Value) : Prop where
  d : He.SaysD fa fn K
  more : ((ex K).all fun b => b) = true
  G : ∃ h : Heap, K.In h ∧ h.Ns mainGlobals mg
section
variable {fa : List He.Fa} {fn : List He.DefD} {ex : Frag → List Bool} {K : Frag} {mg : Str → Option Value}
theorem Fx.glo (E : Fx fa fn ex K mg) (i : Nat) {x : Str} (h : fa[i]? = some (.glo x) := by rfl) : mg x = some (.ref (He.ga K x)) := by
  obtain ⟨hp, X, G⟩ := E.G
  exact He.glo_ok X G (E.d.fact i (f := .glo x) h)
theorem Fx.free (E : Fx fa fn ex K mg) (i : Nat) {x : Str} (h : fa[i]? = some (.free x) := by rfl) : mg x = none := by
  obtain ⟨hp, X, G⟩ := E.G
  exact He.free_ok X G (E.d.fact i (f := .free x) h)
theorem Fx.int_ (E : Fx fa fn ex K mg) (i : Nat) {x : Str} {z : Int} (h : fa[i]? = some (.int x z) := by rfl) : ∃ t, mg x = some (.int z t) := by
  obtain ⟨hp, X, G⟩ := E.G
  exact He.int_ok X G (E.d.fact i (f := .int x z) h)
theorem Fx.str_ (E : Fx fa fn ex K mg) (i : Nat) {x z : Str} (h : fa[i]? = some (.str x z) := by rfl) : ∃ t, mg x = some (.str z t) := by
  obtain ⟨hp, X, G⟩ := E.G
  exact He.str_ok X G (E.d.fact i (f := .str x z) h)
theorem Fx.x (E : Fx fa fn ex K mg) (i : Nat) {b : Bool} (h : (ex K)[i]? = some b := by rfl) : b = true :=
  List.all_eq_true.mp E.more b (List.mem_of_getElem? h)
end
end DL
namespace DL
open PySem PySem.Spec PyProof.Rows L2
section
variable {X : Cx} {W : WX}
/-- name = [.. for ..] on one line, the name a local -/
theorem ds_setLc (i : Nat) {y : Str} {py : Pos} {elt tg iter : Expr} {ifs : List Expr} {scope : Scope} {own : List (Str × Nat)} {pos spos : Pos} {ti : TId} {g : TG} {gt : TCd} {tt : TTd} {te : TEd} (hc : X.calm = true) (hN : X.N.Nodup)
    (hi : DI X W tg iter ti) (ok : BlkOk X.N X.env.scope scope own) (cg : CG X.K (own.map (·.2)) g gt)
    (hg : ∀ (s : Shared) (H : Hp) (C : Addr) (cl : List (Str × Addr)) (fp : List Addr), PG (X.blk s H scope (compEnvC scope cl C X.env) fp) tg g) (ht : ∀ (s : Shared) (H : Hp) (C : Addr) (cl : List (Str × Addr)) (fp : List Addr), PTs (X.blk s H scope (compEnvC scope cl C X.env) fp) ifs (liftT X.K W0 tt))
    (he : ∀ (s : Shared) (H : Hp) (C : Addr) (cl : List (Str × Addr)) (fp : List Addr), DE (X.blk s H scope (compEnvC scope cl C X.env) fp) W0 elt te)
    (hsw : swapsWith (.ListComp elt [⟨tg, iter, ifs, 0⟩] scope pos) (some (.Name y py)) spos.line X.env = pure true) (hy : X.N[i]? = some y := by rfl) (hyl : X.env.scope.names.lookup y = some .local := by rfl) (hs : ∀ x, foldedSetIterable iter X.env x = pure x := by intro _; rfl) :
    DS X W (.Assign [.Name y py] (.ListComp elt [⟨tg, iter, ifs, 0⟩] scope pos) spos) (dAsg (dNew (dLc ti gt tt te (own.map (·.2)))) (kName i)) :=
  PS_mono (ps_setLc hc hN hy hyl hsw hi ok hg ht he hs) fun D σ H ⟨s, g0, d, rs, rh, h, n, b, c, r, x⟩ => ⟨s, g0, _, _, rs, rh, h, fun ds o J g1 H1 x1 rh1 wd ⟨hz, hh⟩ L hL =>
    lc_walk cg (rs.ext x1) rh1 wd hz hh hL fun ys us g' H' x' rh' h1 h2 h3 r' hh => by
      have h0 : H L = none := x1.there L hL
      have rh2 := rh'.track h1 r' h3
      have xx := (x1.trans x').track (o := .lst ys) h0
      exact n _ _ (g'.upd L (.lst ys)) H' xx rh2 (RSt.set i (d := DL.D.ref L) (v := V.ref L) (rs.ext xx) rfl) (hh L h2), x⟩
end
end DL

/-! DS: the end of a law. -/
namespace DL
open PySem PySem.Spec PyProof.Rows L2
/-- exceptions of any world -/
def CXa (P : Program) : CXT := fun o H s E e s' => ∃ w, L2.CX P w o H s E e s'
theorem FnOk.any {P : Program} {w : World} {K : Frag} {mg : Str → Option Value} {base : Heap} {k : Nat} {f : Addr} {fd : FuncData} {ps : List Str} {sp : Sp} (F : FnOk P w K mg base (L2.CX P w) k f fd ps sp) : FnOk P w K mg base (CXa P) k f fd ps sp :=
  ⟨F.len, fun A outer s H args us vs Q E hr he hb hv hs => codeAny_mono (F.run A outer s H args us vs Q E hr he hb hv hs) fun r s' h => by
    cases r with
    | ok c => cases c <;> exact h
    | error e => exact ⟨w, h⟩⟩
theorem CXa.no {P : Program} {H : Hp} {s : Shared} {e : Value} {s' : Shared} (h : CXa P [] H s (fun _ _ _ => False) e s') : False := by
  obtain ⟨_, _, _, _, _, _, _, _, _, _, _, _, _, z⟩ := h
  exact z
/-- the script as plain data -/
theorem law_end {P : Program} {w : World} {K : Frag} {sp : Spd} (h : ∀ (ns : List Int) (g : Hd) (q : Qd) (x : Ed), ns.length ≤ 63 → (∀ g', q (.bl true) g') → sp [.fl (ns.map D.int)] g q x) :
    ∀ (H : Hp) (a : Addr) (ns : List Int), ns.length ≤ 63 → Only H → SqL K H a (ns.map V.int) → liftSp K sp [.ref a] H (fun v _ => v = .bl true) fun _ _ _ => False := fun H a ns hl _ hS => by
  refine ⟨[.fl (ns.map D.int)], ⟨fun _ => none, fun p => p = a ∧ ∃ u, H p = some u⟩, fun d _ => d = .bl true, fun _ _ _ => False, ?_, ?_, h ns _ _ _ hl (fun _ => rfl), ?_, fun _ _ _ _ _ _ _ _ _ z => z⟩
  · refine ⟨.ref a, [], rfl, ⟨a, ns.map V.int, rfl, ?_, DVs.ofInts⟩, rfl⟩
    rcases hS with (hS | ⟨o, hS⟩) | hS
    · exact .inl (.inl ⟨hS, rfl, _, hS⟩)
    · exact .inl (.inr ⟨o, hS⟩)
    · exact .inr hS
  · exact ⟨fun _ _ z => (by cases z), fun _ _ z => (by cases z), fun p z => z.2⟩
  · intro d v g' H' _ _ dv e
    subst e
    exact dv
end DL

namespace Lw
open PySem PySem.Spec PyProof.Rows L2 DL
def top (i : Nat) : Stmt := PySem.Challenge.pw_ranksweeps_k01_rows.main.body.getD i (.Pass ⟨0, 0, 0, 0⟩)
def inC (s : Stmt) (j : Nat) : Stmt := match s with
  | .ClassDef _ _ _ b _ _ _ _ _ _ _ => b.getD j (.Pass ⟨0, 0, 0, 0⟩)
  | _ => .Pass ⟨0, 0, 0, 0⟩
abbrev s_NoRow___init__ : Stmt := inC (top 2) 0
def d_NoRow___init__ : He.DefD := ⟨("NoRow", some "__init__"), "__init__", "NoRow.__init__", defArgs s_NoRow___init__, defBody s_NoRow___init__, defScope s_NoRow___init__, [], []⟩
abbrev s_NoNumber___init__ : Stmt := inC (top 3) 0
def d_NoNumber___init__ : He.DefD := ⟨("NoNumber", some "__init__"), "__init__", "NoNumber.__init__", defArgs s_NoNumber___init__, defBody s_NoNumber___init__, defScope s_NoNumber___init__, [], []⟩
abbrev s_is_integer : Stmt := top 6
def d_is_integer : He.DefD := ⟨("is_integer", none), "is_integer", "is_integer", defArgs s_is_integer, defBody s_is_integer, defScope s_is_integer, [], []⟩
abbrev s_is_bit : Stmt := top 7
def d_is_bit : He.DefD := ⟨("is_bit", none), "is_bit", "is_bit", defArgs s_is_bit, defBody s_is_bit, defScope s_is_bit, [], []⟩
abbrev s_has_cells : Stmt := top 8
def d_has_cells : He.DefD := ⟨("has_cells", none), "has_cells", "has_cells", defArgs s_has_cells, defBody s_has_cells, defScope s_has_cells, [], []⟩
abbrev s_checked_row : Stmt := top 9
def d_checked_row : He.DefD := ⟨("checked_row", none), "checked_row", "checked_row", defArgs s_checked_row, defBody s_checked_row, defScope s_checked_row, [], []⟩
abbrev s_is_row : Stmt := top 10
def d_is_row : He.DefD := ⟨("is_row", none), "is_row", "is_row", defArgs s_is_row, defBody s_is_row, defScope s_is_row, [], []⟩
abbrev s_is_bits : Stmt := top 11
def d_is_bits : He.DefD := ⟨("is_bits", none), "is_bits", "is_bits", defArgs s_is_bits, defBody s_is_bits, defScope s_is_bits, [], []⟩
abbrev s_level : Stmt := top 12
def d_level : He.DefD := ⟨("level", none), "level", "level", defArgs s_level, defBody s_level, defScope s_level, [], []⟩
abbrev s_levels : Stmt := top 13
def d_levels : He.DefD := ⟨("levels", none), "levels", "levels", defArgs s_levels, defBody s_levels, defScope s_levels, [], []⟩
abbrev s__law_mix : Stmt := top 15
def d__law_mix : He.DefD := ⟨("_law_mix", none), "_law_mix", "_law_mix", defArgs s__law_mix, defBody s__law_mix, defScope s__law_mix, [], []⟩
abbrev s__law_pool : Stmt := top 16
def d__law_pool : He.DefD := ⟨("_law_pool", none), "_law_pool", "_law_pool", defArgs s__law_pool, defBody s__law_pool, defScope s__law_pool, [], []⟩
abbrev s__law_draw : Stmt := top 17
def d__law_draw : He.DefD := ⟨("_law_draw", none), "_law_draw", "_law_draw", defArgs s__law_draw, defBody s__law_draw, defScope s__law_draw, [], []⟩
abbrev s__law_number : Stmt := top 18
def d__law_number : He.DefD := ⟨("_law_number", none), "_law_number", "_law_number", defArgs s__law_number, defBody s__law_number, defScope s__law_number, [], []⟩
abbrev s__law_value : Stmt := top 19
def d__law_value : He.DefD := ⟨("_law_value", none), "_law_value", "_law_value", defArgs s__law_value, defBody s__law_value, defScope s__law_value, [], []⟩
abbrev s__law_is_integer : Stmt := top 20
def d__law_is_integer : He.DefD := ⟨("_law_is_integer", none), "_law_is_integer", "_law_is_integer", defArgs s__law_is_integer, defBody s__law_is_integer, defScope s__law_is_integer, [], []⟩
abbrev s__law_is_flag : Stmt := top 21
def d__law_is_flag : He.DefD := ⟨("_law_is_flag", none), "_law_is_flag", "_law_is_flag", defArgs s__law_is_flag, defBody s__law_is_flag, defScope s__law_is_flag, [], []⟩
abbrev s__law_fault : Stmt := top 22
def d__law_fault : He.DefD := ⟨("_law_fault", none), "_law_fault", "_law_fault", defArgs s__law_fault, defBody s__law_fault, defScope s__law_fault, [], []⟩
abbrev s__law_told_level : Stmt := top 23
def d__law_told_level : He.DefD := ⟨("_law_told_level", none), "_law_told_level", "_law_told_level", defArgs s__law_told_level, defBody s__law_told_level, defScope s__law_told_level, [], []⟩
abbrev s__law_told_levels : Stmt := top 24
def d__law_told_levels : He.DefD := ⟨("_law_told_levels", none), "_law_told_levels", "_law_told_levels", defArgs s__law_told_levels, defBody s__law_told_levels, defScope s__law_told_levels, [], []⟩
abbrev s__law_level_right : Stmt := top 25
def d__law_level_right : He.DefD := ⟨("_law_level_right", none), "_law_level_right", "_law_level_right", defArgs s__law_level_right, defBody s__law_level_right, defScope s__law_level_right, [], []⟩
abbrev s__law_levels_right : Stmt := top 26
def d__law_levels_right : He.DefD := ⟨("_law_levels_right", none), "_law_levels_right", "_law_levels_right", defArgs s__law_levels_right, defBody s__law_levels_right, defScope s__law_levels_right, [], []⟩
abbrev s_law : Stmt := top 27
def d_law : He.DefD := ⟨("law", none), "law", "law", defArgs s_law, defBody s_law, defScope s_law, [], []⟩
def fn0 : List He.DefD := [d_NoRow___init__, d_NoNumber___init__, d_is_integer, d_is_bit, d_has_cells, d_checked_row, d_is_row, d_is_bits, d_level, d_levels, d__law_mix, d__law_pool, d__law_draw, d__law_number, d__law_value, d__law_is_integer, d__law_is_flag, d__law_fault, d__law_told_level, d__law_told_levels, d__law_level_right, d__law_levels_right, d_law]
def fn : List He.DefD := fn0
def fa0 : List He.Fa := [.glo "is_integer", .glo "is_bit", .glo "has_cells", .glo "checked_row", .glo "is_row", .glo "is_bits", .glo "level", .glo "levels", .glo "_law_mix", .glo "_law_pool", .glo "_law_draw", .glo "_law_number", .glo "_law_value", .glo "_law_is_integer", .glo "_law_is_flag", .glo "_law_fault", .glo "_law_told_level", .glo "_law_told_levels", .glo "_law_level_right", .glo "_law_levels_right", .glo "law", .glo "SweepError", .keep "SweepError", .glo "NoRow", .keep "NoRow", .glo "NoNumber", .keep "NoNumber", .free "len", .free "int", .free "isinstance"]
def fa1 : List He.Fa := [.free "range", .free "tuple", .free "list", .free "bool", .free "str", .free "max", .free "min", .free "sum", .free "abs", .free "sorted", .free "any", .free "all", .free "zip", .free "enumerate", .free "reversed", .free "dict", .free "super", .free "ValueError", .free "set", .free "print", .int "MOST_CELLS" 200, .noat "NoRow" "index", .meth "NoRow" "__init__", .noat "NoNumber" "name", .meth "NoNumber" "__init__", .exm "NoRow" "NoRow" true, .exm "NoRow" "NoNumber" false, .exm "NoNumber" "NoRow" false, .exm "NoNumber" "NoNumber" true]
def fa : List He.Fa := fa0 ++ fa1
def exL (K : Frag) : List Bool := [decide (PySem.W.kitOne K (.ref (He.ga K "NoNumber")) (.type "ValueError") = some true), decide (PySem.W.kitOne K (.ref (He.ga K "NoNumber")) (.ref (He.ga K "NoRow")) = some false), decide (PySem.W.kitOne K (.ref (He.ga K "NoRow")) (.ref (He.ga K "NoNumber")) = some false), decide (PySem.W.kitOne K (.ref (He.ga K "NoRow")) (.ref (He.ga K "SweepError")) = some true), oexB K (He.ga K "NoRow"), excB K (He.ga K "NoRow"), oexB K (He.ga K "NoNumber"), excB K (He.ga K "NoNumber")]
def ls0 : List PySem.Str := ["MOST_CELLS", "NoNumber", "NoRow", "SweepError", "_law_draw", "_law_fault", "_law_is_flag", "_law_is_integer", "_law_level_right", "_law_levels_right", "_law_mix", "_law_number", "_law_pool", "_law_told_level", "_law_told_levels", "_law_value", "checked_row", "has_cells", "is_bit", "is_bits", "is_integer", "is_row", "level", "levels"]
def ls : List PySem.Str := ls0
abbrev R : PySem.W.OpenRow := PySem.W.OpenLaw.row PySem.Challenge.rw_ranksweeps_k01_rows
def ex (K : Frag) : Bool := (exL K).all fun b => b
abbrev hk : PySem.W.Hook := He.hookX 4 fa fn [] [] ex
def ob (s : PySem.W.SharedT) : He.AlX := He.obsX 4 fa fn [] [] ex (HandSHeadRun.getT s)
theorem ob_eq (s : PySem.W.SharedT) : ob s = hk.obs s.abs := He.obsX_eq (HandSHeadRun.getT_eq s)
theorem run (w : World) : HandSHeadRun.RunEq R (PySem.W.view R.prog [27]) hk ob 4000 ls w := by
  intro os
  kernel_rfl
abbrev FX (K : Frag) (mg : Str → Option Value) : Prop := Fx fa fn exL K mg
section
variable {K : Frag} {mg : Str → Option Value}
theorem g_is_integer (E : FX K mg) : mg "is_integer" = some (.ref (He.ga K "is_integer")) := E.glo 0
theorem g_is_bit (E : FX K mg) : mg "is_bit" = some (.ref (He.ga K "is_bit")) := E.glo 1
theorem g_has_cells (E : FX K mg) : mg "has_cells" = some (.ref (He.ga K "has_cells")) := E.glo 2
theorem g_checked_row (E : FX K mg) : mg "checked_row" = some (.ref (He.ga K "checked_row")) := E.glo 3
theorem g_is_row (E : FX K mg) : mg "is_row" = some (.ref (He.ga K "is_row")) := E.glo 4
theorem g_is_bits (E : FX K mg) : mg "is_bits" = some (.ref (He.ga K "is_bits")) := E.glo 5
theorem g_level (E : FX K mg) : mg "level" = some (.ref (He.ga K "level")) := E.glo 6
theorem g_levels (E : FX K mg) : mg "levels" = some (.ref (He.ga K "levels")) := E.glo 7
theorem g__law_mix (E : FX K mg) : mg "_law_mix" = some (.ref (He.ga K "_law_mix")) := E.glo 8
theorem g__law_pool (E : FX K mg) : mg "_law_pool" = some (.ref (He.ga K "_law_pool")) := E.glo 9
theorem g__law_draw (E : FX K mg) : mg "_law_draw" = some (.ref (He.ga K "_law_draw")) := E.glo 10
theorem g__law_number (E : FX K mg) : mg "_law_number" = some (.ref (He.ga K "_law_number")) := E.glo 11
theorem g__law_value (E : FX K mg) : mg "_law_value" = some (.ref (He.ga K "_law_value")) := E.glo 12
theorem g__law_is_integer (E : FX K mg) : mg "_law_is_integer" = some (.ref (He.ga K "_law_is_integer")) := E.glo 13
theorem g__law_is_flag (E : FX K mg) : mg "_law_is_flag" = some (.ref (He.ga K "_law_is_flag")) := E.glo 14
theorem g__law_fault (E : FX K mg) : mg "_law_fault" = some (.ref (He.ga K "_law_fault")) := E.glo 15
theorem g__law_told_level (E : FX K mg) : mg "_law_told_level" = some (.ref (He.ga K "_law_told_level")) := E.glo 16
theorem g__law_told_levels (E : FX K mg) : mg "_law_told_levels" = some (.ref (He.ga K "_law_told_levels")) := E.glo 17
theorem g__law_level_right (E : FX K mg) : mg "_law_level_right" = some (.ref (He.ga K "_law_level_right")) := E.glo 18
theorem g__law_levels_right (E : FX K mg) : mg "_law_levels_right" = some (.ref (He.ga K "_law_levels_right")) := E.glo 19
theorem g_law (E : FX K mg) : mg "law" = some (.ref (He.ga K "law")) := E.glo 20
theorem g_SweepError (E : FX K mg) : mg "SweepError" = some (.ref (He.ga K "SweepError")) := E.glo 21
theorem g_NoRow (E : FX K mg) : mg "NoRow" = some (.ref (He.ga K "NoRow")) := E.glo 23
theorem g_NoNumber (E : FX K mg) : mg "NoNumber" = some (.ref (He.ga K "NoNumber")) := E.glo 25
theorem f_len (E : FX K mg) : mg "len" = none := E.free 27
theorem f_int (E : FX K mg) : mg "int" = none := E.free 28
theorem f_isinstance (E : FX K mg) : mg "isinstance" = none := E.free 29
theorem f_range (E : FX K mg) : mg "range" = none := E.free 30
theorem f_tuple (E : FX K mg) : mg "tuple" = none := E.free 31
theorem f_list (E : FX K mg) : mg "list" = none := E.free 32
theorem f_bool (E : FX K mg) : mg "bool" = none := E.free 33
theorem f_str (E : FX K mg) : mg "str" = none := E.free 34
theorem f_max (E : FX K mg) : mg "max" = none := E.free 35
theorem f_min (E : FX K mg) : mg "min" = none := E.free 36
theorem f_sum (E : FX K mg) : mg "sum" = none := E.free 37
theorem f_abs (E : FX K mg) : mg "abs" = none := E.free 38
theorem f_sorted (E : FX K mg) : mg "sorted" = none := E.free 39
theorem f_any (E : FX K mg) : mg "any" = none := E.free 40
theorem f_all (E : FX K mg) : mg "all" = none := E.free 41
theorem f_zip (E : FX K mg) : mg "zip" = none := E.free 42
theorem f_enumerate (E : FX K mg) : mg "enumerate" = none := E.free 43
theorem f_reversed (E : FX K mg) : mg "reversed" = none := E.free 44
theorem f_dict (E : FX K mg) : mg "dict" = none := E.free 45
theorem f_super (E : FX K mg) : mg "super" = none := E.free 46
theorem f_ValueError (E : FX K mg) : mg "ValueError" = none := E.free 47
theorem f_set (E : FX K mg) : mg "set" = none := E.free 48
theorem f_print (E : FX K mg) : mg "print" = none := E.free 49
theorem i_MOST_CELLS (E : FX K mg) : ∃ t, mg "MOST_CELLS" = some (.int 200 t) := E.int_ 50
theorem isb_NoNumber_ValueError (E : FX K mg) : PySem.W.kitOne K (.ref (He.ga K "NoNumber")) (.type "ValueError") = some true := of_decide_eq_true (E.x 0)
theorem isx_NoNumber_NoRow (E : FX K mg) : PySem.W.kitOne K (.ref (He.ga K "NoNumber")) (.ref (He.ga K "NoRow")) = some false := of_decide_eq_true (E.x 1)
theorem isx_NoRow_NoNumber (E : FX K mg) : PySem.W.kitOne K (.ref (He.ga K "NoRow")) (.ref (He.ga K "NoNumber")) = some false := of_decide_eq_true (E.x 2)
theorem isx_NoRow_SweepError (E : FX K mg) : PySem.W.kitOne K (.ref (He.ga K "NoRow")) (.ref (He.ga K "SweepError")) = some true := of_decide_eq_true (E.x 3)
theorem oex_NoRow (E : FX K mg) : OexC K (He.ga K "NoRow") := oexB_ok (E.x 4)
theorem excC_NoRow (E : FX K mg) : ExcC K (He.ga K "NoRow") := excB_ok (E.x 5)
theorem noat_NoRow_index (E : FX K mg) : PySem.W.findIn K (.ref (He.ga K "NoRow")) "index" = some none := He.noat_ok (E.d.fact 51 (f := .noat "NoRow" "index") rfl)
theorem init_NoRow (E : FX K mg) : PySem.W.findIn K (.ref (He.ga K "NoRow")) "__init__" = some (some (.ref (He.ma K (He.ga K "NoRow") "__init__"))) ∧ PySem.W.typeIn K (.ref (He.ma K (He.ga K "NoRow") "__init__")) = some (.type "function") := by
  have h := He.meth_ok (E.d.fact 52 (f := .meth "NoRow" "__init__") rfl)
  exact ⟨h.1, eq_of_beq h.2⟩
theorem oex_NoNumber (E : FX K mg) : OexC K (He.ga K "NoNumber") := oexB_ok (E.x 6)
theorem excC_NoNumber (E : FX K mg) : ExcC K (He.ga K "NoNumber") := excB_ok (E.x 7)
theorem noat_NoNumber_name (E : FX K mg) : PySem.W.findIn K (.ref (He.ga K "NoNumber")) "name" = some none := He.noat_ok (E.d.fact 53 (f := .noat "NoNumber" "name") rfl)
theorem init_NoNumber (E : FX K mg) : PySem.W.findIn K (.ref (He.ga K "NoNumber")) "__init__" = some (some (.ref (He.ma K (He.ga K "NoNumber") "__init__"))) ∧ PySem.W.typeIn K (.ref (He.ma K (He.ga K "NoNumber") "__init__")) = some (.type "function") := by
  have h := He.meth_ok (E.d.fact 54 (f := .meth "NoNumber" "__init__") rfl)
  exact ⟨h.1, eq_of_beq h.2⟩
theorem exm_NoRow_NoRow (E : FX K mg) : PySem.W.exmOne K (.ref (He.ga K "NoRow")) (.ref (He.ga K "NoRow")) = some true := He.exm_ok (E.d.fact 55 (f := .exm "NoRow" "NoRow" true) rfl)
theorem exm_NoRow_NoNumber (E : FX K mg) : PySem.W.exmOne K (.ref (He.ga K "NoRow")) (.ref (He.ga K "NoNumber")) = some false := He.exm_ok (E.d.fact 56 (f := .exm "NoRow" "NoNumber" false) rfl)
theorem exm_NoNumber_NoRow (E : FX K mg) : PySem.W.exmOne K (.ref (He.ga K "NoNumber")) (.ref (He.ga K "NoRow")) = some false := He.exm_ok (E.d.fact 57 (f := .exm "NoNumber" "NoRow" false) rfl)
theorem exm_NoNumber_NoNumber (E : FX K mg) : PySem.W.exmOne K (.ref (He.ga K "NoNumber")) (.ref (He.ga K "NoNumber")) = some true := He.exm_ok (E.d.fact 58 (f := .exm "NoNumber" "NoNumber" true) rfl)
theorem fn_NoRow___init__ (E : FX K mg) : ∃ fd, FunD K "__init__" "NoRow.__init__" (defArgs s_NoRow___init__) (defBody s_NoRow___init__) (defScope s_NoRow___init__) (d_NoRow___init__.dvs K) (d_NoRow___init__.kws K) (He.fAd K d_NoRow___init__.at_) fd := E.d.def_ 0 (d := d_NoRow___init__) rfl
theorem fn_NoNumber___init__ (E : FX K mg) : ∃ fd, FunD K "__init__" "NoNumber.__init__" (defArgs s_NoNumber___init__) (defBody s_NoNumber___init__) (defScope s_NoNumber___init__) (d_NoNumber___init__.dvs K) (d_NoNumber___init__.kws K) (He.fAd K d_NoNumber___init__.at_) fd := E.d.def_ 1 (d := d_NoNumber___init__) rfl
theorem fn_is_integer (E : FX K mg) : ∃ fd, FunD K "is_integer" "is_integer" (defArgs s_is_integer) (defBody s_is_integer) (defScope s_is_integer) (d_is_integer.dvs K) (d_is_integer.kws K) (He.fAd K d_is_integer.at_) fd := E.d.def_ 2 (d := d_is_integer) rfl
theorem fn_is_bit (E : FX K mg) : ∃ fd, FunD K "is_bit" "is_bit" (defArgs s_is_bit) (defBody s_is_bit) (defScope s_is_bit) (d_is_bit.dvs K) (d_is_bit.kws K) (He.fAd K d_is_bit.at_) fd := E.d.def_ 3 (d := d_is_bit) rfl
theorem fn_has_cells (E : FX K mg) : ∃ fd, FunD K "has_cells" "has_cells" (defArgs s_has_cells) (defBody s_has_cells) (defScope s_has_cells) (d_has_cells.dvs K) (d_has_cells.kws K) (He.fAd K d_has_cells.at_) fd := E.d.def_ 4 (d := d_has_cells) rfl
theorem fn_checked_row (E : FX K mg) : ∃ fd, FunD K "checked_row" "checked_row" (defArgs s_checked_row) (defBody s_checked_row) (defScope s_checked_row) (d_checked_row.dvs K) (d_checked_row.kws K) (He.fAd K d_checked_row.at_) fd := E.d.def_ 5 (d := d_checked_row) rfl
theorem fn_is_row (E : FX K mg) : ∃ fd, FunD K "is_row" "is_row" (defArgs s_is_row) (defBody s_is_row) (defScope s_is_row) (d_is_row.dvs K) (d_is_row.kws K) (He.fAd K d_is_row.at_) fd := E.d.def_ 6 (d := d_is_row) rfl
theorem fn_is_bits (E : FX K mg) : ∃ fd, FunD K "is_bits" "is_bits" (defArgs s_is_bits) (defBody s_is_bits) (defScope s_is_bits) (d_is_bits.dvs K) (d_is_bits.kws K) (He.fAd K d_is_bits.at_) fd := E.d.def_ 7 (d := d_is_bits) rfl
theorem fn_level (E : FX K mg) : ∃ fd, FunD K "level" "level" (defArgs s_level) (defBody s_level) (defScope s_level) (d_level.dvs K) (d_level.kws K) (He.fAd K d_level.at_) fd := E.d.def_ 8 (d := d_level) rfl
theorem fn_levels (E : FX K mg) : ∃ fd, FunD K "levels" "levels" (defArgs s_levels) (defBody s_levels) (defScope s_levels) (d_levels.dvs K) (d_levels.kws K) (He.fAd K d_levels.at_) fd := E.d.def_ 9 (d := d_levels) rfl
theorem fn__law_mix (E : FX K mg) : ∃ fd, FunD K "_law_mix" "_law_mix" (defArgs s__law_mix) (defBody s__law_mix) (defScope s__law_mix) (d__law_mix.dvs K) (d__law_mix.kws K) (He.fAd K d__law_mix.at_) fd := E.d.def_ 10 (d := d__law_mix) rfl
theorem fn__law_pool (E : FX K mg) : ∃ fd, FunD K "_law_pool" "_law_pool" (defArgs s__law_pool) (defBody s__law_pool) (defScope s__law_pool) (d__law_pool.dvs K) (d__law_pool.kws K) (He.fAd K d__law_pool.at_) fd := E.d.def_ 11 (d := d__law_pool) rfl
theorem fn__law_draw (E : FX K mg) : ∃ fd, FunD K "_law_draw" "_law_draw" (defArgs s__law_draw) (defBody s__law_draw) (defScope s__law_draw) (d__law_draw.dvs K) (d__law_draw.kws K) (He.fAd K d__law_draw.at_) fd := E.d.def_ 12 (d := d__law_draw) rfl
theorem fn__law_number (E : FX K mg) : ∃ fd, FunD K "_law_number" "_law_number" (defArgs s__law_number) (defBody s__law_number) (defScope s__law_number) (d__law_number.dvs K) (d__law_number.kws K) (He.fAd K d__law_number.at_) fd := E.d.def_ 13 (d := d__law_number) rfl
theorem fn__law_value (E : FX K mg) : ∃ fd, FunD K "_law_value" "_law_value" (defArgs s__law_value) (defBody s__law_value) (defScope s__law_value) (d__law_value.dvs K) (d__law_value.kws K) (He.fAd K d__law_value.at_) fd := E.d.def_ 14 (d := d__law_value) rfl
theorem fn__law_is_integer (E : FX K mg) : ∃ fd, FunD K "_law_is_integer" "_law_is_integer" (defArgs s__law_is_integer) (defBody s__law_is_integer) (defScope s__law_is_integer) (d__law_is_integer.dvs K) (d__law_is_integer.kws K) (He.fAd K d__law_is_integer.at_) fd := E.d.def_ 15 (d := d__law_is_integer) rfl
theorem fn__law_is_flag (E : FX K mg) : ∃ fd, FunD K "_law_is_flag" "_law_is_flag" (defArgs s__law_is_flag) (defBody s__law_is_flag) (defScope s__law_is_flag) (d__law_is_flag.dvs K) (d__law_is_flag.kws K) (He.fAd K d__law_is_flag.at_) fd := E.d.def_ 16 (d := d__law_is_flag) rfl
theorem fn__law_fault (E : FX K mg) : ∃ fd, FunD K "_law_fault" "_law_fault" (defArgs s__law_fault) (defBody s__law_fault) (defScope s__law_fault) (d__law_fault.dvs K) (d__law_fault.kws K) (He.fAd K d__law_fault.at_) fd := E.d.def_ 17 (d := d__law_fault) rfl
theorem fn__law_told_level (E : FX K mg) : ∃ fd, FunD K "_law_told_level" "_law_told_level" (defArgs s__law_told_level) (defBody s__law_told_level) (defScope s__law_told_level) (d__law_told_level.dvs K) (d__law_told_level.kws K) (He.fAd K d__law_told_level.at_) fd := E.d.def_ 18 (d := d__law_told_level) rfl
theorem fn__law_told_levels (E : FX K mg) : ∃ fd, FunD K "_law_told_levels" "_law_told_levels" (defArgs s__law_told_levels) (defBody s__law_told_levels) (defScope s__law_told_levels) (d__law_told_levels.dvs K) (d__law_told_levels.kws K) (He.fAd K d__law_told_levels.at_) fd := E.d.def_ 19 (d := d__law_told_levels) rfl
theorem fn__law_level_right (E : FX K mg) : ∃ fd, FunD K "_law_level_right" "_law_level_right" (defArgs s__law_level_right) (defBody s__law_level_right) (defScope s__law_level_right) (d__law_level_right.dvs K) (d__law_level_right.kws K) (He.fAd K d__law_level_right.at_) fd := E.d.def_ 20 (d := d__law_level_right) rfl
theorem fn__law_levels_right (E : FX K mg) : ∃ fd, FunD K "_law_levels_right" "_law_levels_right" (defArgs s__law_levels_right) (defBody s__law_levels_right) (defScope s__law_levels_right) (d__law_levels_right.dvs K) (d__law_levels_right.kws K) (He.fAd K d__law_levels_right.at_) fd := E.d.def_ 21 (d := d__law_levels_right) rfl
theorem fn_law (E : FX K mg) : ∃ fd, FunD K "law" "law" (defArgs s_law) (defBody s_law) (defScope s_law) (d_law.dvs K) (d_law.kws K) (He.fAd K d_law.at_) fd := E.d.def_ 22 (d := d_law) rfl
end
end Lw

namespace Lw
open PySem PySem.Spec PyProof.Rows L2 DL
/-! ### what the defs do -/
def KdOk (d : D) (g : Hd) : Prop := kdD d g fun _ => True
def isI : D → Bool
  | .int _ => true
  | _ => false
def bitD : D → Bool
  | .int i => decide (0 ≤ i) && decide (i ≤ 1)
  | _ => false
def seqO (d : D) (g : Hd) : Option (List D) := match d with
  | .tup ds => some ds
  | .fl ds => some ds
  | .ref a => (match g a with
    | some (.lst ds) => some ds
    | _ => none)
  | _ => none
def hasL (ds : List D) : Bool := decide (1 ≤ (ds.length : Int)) && decide ((ds.length : Int) ≤ 200)
/-- a value: its items, if it has some -/
def VOk (d : D) (g : Hd) : Prop := KdOk d g ∧ ∀ es, seqO d g = some es → ∀ e ∈ es, KdOk e g
def hasC (d : D) (g : Hd) : Bool := match seqO d g with
  | some ds => hasL ds
  | none => false
/-- the first bad item -/
def bad (p : D → Bool) : List D → Nat → Option Nat
  | [], _ => none
  | d :: r, n => cond (p d) (bad p r (n + 1)) (some n)
def itsOf (d : D) (g : Hd) : List D := (seqO d g).getD []
/-- -1, the index of the first bad item, or none -/
def fltO (p : D → Bool) (d : D) (g : Hd) : Option Int := cond (hasC d g) ((bad p (itsOf d g) 0).map fun (n : Nat) => (n : Int)) (some (-1))
def intsOf : List D → List Int
  | [] => []
  | .int i :: r => i :: intsOf r
  | _ :: r => intsOf r
def sp_is_integer (K : Frag) : Spd := fun ds g q _ => ∃ d, ds = [d] ∧ KdOk d g ∧ q (.bl (isI d)) g
def sp_is_bit (K : Frag) : Spd := fun ds g q _ => ∃ d, ds = [d] ∧ KdOk d g ∧ q (.bl (bitD d)) g
def sp_has_cells (K : Frag) : Spd := fun ds g q _ => ∃ d, ds = [d] ∧ KdOk d g ∧ q (.bl (hasC d g)) g
def exN (x : Ed) (K : Frag) (i : Int) (g : Hd) : Prop := x (He.ga K "NoRow") [("index", .int i)] g
def sp_checked_row (K : Frag) : Spd := fun ds g q x => ∃ d, ds = [d] ∧ VOk d g ∧ (∀ i, fltO isI d g = some i → exN x K i g) ∧ (fltO isI d g = none → q (.tup (itsOf d g)) g)
def sp_is_row (K : Frag) : Spd := fun ds g q x => ∃ d, ds = [d] ∧ VOk d g ∧ q (.bl (fltO isI d g).isNone) g
def sp_is_bits (K : Frag) : Spd := fun ds g q x => ∃ d, ds = [d] ∧ VOk d g ∧ q (.bl (fltO bitD d g).isNone) g
def geL (is : List Int) (v : Int) : List D := is.map fun c => .int (if v ≤ c then 1 else 0)
def sp_level (K : Frag) : Spd := fun ds g q x => ∃ d v, ds = [d, v] ∧ VOk d g ∧ KdOk v g ∧ (∀ i, fltO isI d g = some i → exN x K i g) ∧
  (fltO isI d g = none → (isI v = false → x (He.ga K "NoNumber") [("name", .str "value")] g) ∧ ∀ i, v = .int i → q (.tup (geL (intsOf (itsOf d g)) i)) g)
def sp_levels (K : Frag) : Spd := fun ds g q x => ∃ d, ∃ us : List Int, ds = [d] ∧ VOk d g ∧ us.length < 64 ∧ (∀ i ∈ intsOf (itsOf d g), i ∈ us) ∧ (∀ i, fltO isI d g = some i → exN x K i g) ∧
  (fltO isI d g = none → ∀ rs : List Int, rs.Pairwise (· < ·) → (∀ k, k ∈ rs ↔ k ∈ intsOf (itsOf d g)) → ∀ p, g p = none → q (.ref p) (updD g p (.lst (rs.map D.int))))
def sp__law_mix (K : Frag) : Spd := fun ds g q x => ∃ n k : Int, ds = [.int n, .int k] ∧ ∀ r : Int, q (.int r) g
def pl (p1 : Addr) (a b c : Int) : DO := .lst [.ref p1, .int a, .int b, .int c]
def sp__law_pool (K : Frag) : Spd := fun ds g q x => ∃ ns : List Int, ds = [.fl (ns.map D.int)] ∧ ns.length ≤ 63 ∧ ∀ p1 p, g p1 = none → g p = none → p ≠ p1 → q (.ref p) (updD (updD g p1 (.lst (ns.map D.int))) p (pl p1 0 0 0))
/-- the pool at p -/
structure Pool (g : Hd) (p p1 : Addr) (ns : List Int) (a b c : Int) : Prop where
  at_ : g p = some (pl p1 a b c)
  cells : g p1 = some (.lst (ns.map D.int))
  ne : p ≠ p1
  a0 : 0 ≤ a
  b0 : 0 ≤ b
  c0 : 0 ≤ c
@[irreducible] def sp__law_draw (K : Frag) : Spd := fun ds g q x => ∃ p p1 ns a b c, ∃ l : Int, ds = [.ref p, .int l] ∧ 0 < l ∧ l < 10 ^ 50 ∧ Pool g p p1 ns a b c ∧
  ∀ r a' b' c', 0 ≤ r → r < l → 0 ≤ a' → 0 ≤ b' → 0 ≤ c' → q (.int r) (updD g p (pl p1 a' b' c'))
@[irreducible] def sp__law_number (K : Frag) : Spd := fun ds g q x => ∃ p p1 ns a b c, ds = [.ref p] ∧ Pool g p p1 ns a b c ∧
  ∀ r a' b' c', 0 ≤ a' → 0 ≤ b' → 0 ≤ c' → q (.int r) (updD g p (pl p1 a' b' c'))
/-- an item of a drawn row -/
def Itm (q1 : Addr) (us : List Int) (e : D) : Prop := e = .bl true ∨ e = .bl false ∨ e = .str "1" ∨ e = .non ∨ e = .tup [.int 0] ∨ e = .ref q1 ∨ e = .str "" ∨ ∃ i ∈ us, e = .int i
def sp__law_value (K : Frag) : Spd := fun ds g q x => ∃ p p1 ns a b c, ds = [.ref p] ∧ Pool g p p1 ns a b c ∧
  ∀ a' b' c', 0 ≤ a' → 0 ≤ b' → 0 ≤ c' → (∀ d, d ∈ [D.str "01", .non, .int 7, .bl true, .str ""] → q d (updD g p (pl p1 a' b' c'))) ∧
    ∀ (q1 : Addr) (us : List Int) (items : List D), g q1 = none → q1 ≠ p → us.length ≤ 5 → items.length ≤ 202 → (∀ e ∈ items, Itm q1 us e) →
      q (.tup items) (updD (updD g p (pl p1 a' b' c')) q1 (.lst [.int 1])) ∧ ∀ r, g r = none → r ≠ p → r ≠ q1 → q (.ref r) (updD (updD (updD g p (pl p1 a' b' c')) q1 (.lst [.int 1])) r (.lst items))
def sp__law_is_integer (K : Frag) : Spd := sp_is_integer K
def sp__law_is_flag (K : Frag) : Spd := fun ds g q x => ∃ a b : Bool, ds = [.bl a, .bl b] ∧ q (.bl (a == b)) g
def fltD (o : Option Int) : D := match o with
  | some i => .int i
  | none => .non
def sp__law_fault (K : Frag) : Spd := fun ds g q x => ∃ d, ∃ b : Bool, ds = [d, .bl b] ∧ VOk d g ∧ q (fltD (fltO (cond b bitD isI) d g)) g
def rowT (i : Int) : D := .tup [.str "row", .int i, .bl true, .bl false]
def numT : D := .tup [.str "number", .str "value", .bl true, .bl false]
def sp__law_told_level (K : Frag) : Spd := fun ds g q x => ∃ d v, ds = [d, v] ∧ VOk d g ∧ KdOk v g ∧ (∀ i, fltO isI d g = some i → q (rowT i) g) ∧
  (fltO isI d g = none → (isI v = false → q numT g) ∧ ∀ i, v = .int i → q (.tup [.str "told", .tup (geL (intsOf (itsOf d g)) i)]) g)
@[irreducible] def sp__law_told_levels (K : Frag) : Spd := fun ds g q x => ∃ d, ∃ us : List Int, ds = [d] ∧ VOk d g ∧ us.length < 64 ∧ (∀ i ∈ intsOf (itsOf d g), i ∈ us) ∧ (∀ i, fltO isI d g = some i → q (rowT i) g) ∧
  (fltO isI d g = none → ∀ rs : List Int, rs.Pairwise (· < ·) → (∀ k, k ∈ rs ↔ k ∈ intsOf (itsOf d g)) → ∀ p, g p = none → q (.tup [.str "told", .ref p]) (updD g p (.lst (rs.map D.int))))
def sp__law_level_right (K : Frag) : Spd := fun ds g q x => ∃ d v t, ds = [d, fltD (fltO isI d g), v, t] ∧ VOk d g ∧ KdOk v g ∧ (∀ i, fltO isI d g = some i → t = rowT i) ∧
  (fltO isI d g = none → (isI v = false → t = numT) ∧ ∀ i, v = .int i → t = .tup [.str "told", .tup (geL (intsOf (itsOf d g)) i)]) ∧ q (.bl true) g
@[irreducible] def sp__law_levels_right (K : Frag) : Spd := fun ds g q x => ∃ d t, ds = [d, fltD (fltO isI d g), t] ∧ VOk d g ∧ (∀ i, fltO isI d g = some i → t = rowT i) ∧
  (fltO isI d g = none → ∃ (rs : List Int) (p : Addr), rs.Pairwise (· < ·) ∧ (∀ k, k ∈ rs ↔ k ∈ intsOf (itsOf d g)) ∧ t = .tup [.str "told", .ref p] ∧ g p = some (.lst (rs.map D.int))) ∧ q (.bl true) g
def sp_law (K : Frag) : Spd := fun ds g q x => ∃ ns : List Int, ds = [.fl (ns.map D.int)] ∧ ns.length ≤ 63 ∧ ∀ g', q (.bl true) g'
end Lw

namespace Lw
open PySem PySem.Spec PyProof.Rows L2 DL
section
variable {P : Program} {w : World} {K : Frag} {mg : Str → Option Value} {base : Heap}
theorem sc_is_integer : FnScope ["value"] ["value"] (defScope s_is_integer) := ⟨rfl, rfl, rfl, by decide +kernel, rfl, by decide +kernel, by decide +kernel⟩
def t_is_integer (K : Frag) : TSd := dRet (dAndV (dIsi (fun k => kt k .int) (dVar 0)) (dNotV (dIsi (fun k => kt k .bl) (dVar 0))))
theorem der_is_integer (E : FX K mg)  (f : Addr) (cdv : Value) (A : Around) (outer : List Env) (s : Shared) (H : Hp) (E1 : XK) (hr : Room 0 (A.deeper (envOfC "is_integer" (defScope s_is_integer) s.heap.objs.size f cdv)))
    (tk : Takes (bodyX P w K mg base ["value"] "is_integer" (defScope s_is_integer) f cdv A outer s H E1) (bodyW E1)) (hp : PassesOwn (model P w) (A.deeper (envOfC "is_integer" (defScope s_is_integer) s.heap.objs.size f cdv)) (envOfC "is_integer" (defScope s_is_integer) s.heap.objs.size f cdv) (bodyX P w K mg base ["value"] "is_integer" (defScope s_is_integer) f cdv A outer s H E1).xe) :
    DSs (bodyX P w K mg base ["value"] "is_integer" (defScope s_is_integer) f cdv A outer s H E1) (bodyW E1) (defBody s_is_integer) (t_is_integer K) :=
  dss_one (ds_ret (de_and (de_isi .int (f_isinstance E) (f_int E) (de_var 0)) (de_one (de_not (de_isi .bl (f_isinstance E) (f_bool E) (de_var 0))))))
theorem sc_is_bit : FnScope ["value"] ["value"] (defScope s_is_bit) := ⟨rfl, rfl, rfl, by decide +kernel, rfl, by decide +kernel, by decide +kernel⟩
def t_is_bit (K : Frag) : TSd := dRet (dAndV (dCall (sp_is_integer K) [] (dCons (dVar 0) (dNil))) (dChain rdLe rdLe (dC (.int 0)) (dVar 0) (dC (.int 1))))
theorem der_is_bit (E : FX K mg) (c_is_integer : Cal P w K mg base "is_integer" 1 ["value"] (sp_is_integer K)) (f : Addr) (cdv : Value) (A : Around) (outer : List Env) (s : Shared) (H : Hp) (E1 : XK) (hr : Room 1 (A.deeper (envOfC "is_bit" (defScope s_is_bit) s.heap.objs.size f cdv)))
    (tk : Takes (bodyX P w K mg base ["value"] "is_bit" (defScope s_is_bit) f cdv A outer s H E1) (bodyW E1)) (hp : PassesOwn (model P w) (A.deeper (envOfC "is_bit" (defScope s_is_bit) s.heap.objs.size f cdv)) (envOfC "is_bit" (defScope s_is_bit) s.heap.objs.size f cdv) (bodyX P w K mg base ["value"] "is_bit" (defScope s_is_bit) f cdv A outer s H E1).xe) :
    DSs (bodyX P w K mg base ["value"] "is_bit" (defScope s_is_bit) f cdv A outer s H E1) (bodyW E1) (defBody s_is_bit) (t_is_bit K) :=
  dss_one (ds_ret (de_and (de_call c_is_integer (hr.mono (by decide)) tk (da_cons (de_var 0) (da_nil))) (de_one (de_lele (de_int) (de_var 0) (de_int)))))
theorem sc_has_cells : FnScope ["value"] ["value"] (defScope s_has_cells) := ⟨rfl, rfl, rfl, by decide +kernel, rfl, by decide +kernel, by decide +kernel⟩
def t_has_cells (K : Frag) : TSd := dRet (dAndV (dIsi (fun k => kt k .lst || kt k .tup) (dVar 0)) (dChain rdLe rdLe (dC (.int 1)) (dCB rdLen (dCons (dVar 0) (dNil))) (dC (.int 200))))
theorem der_has_cells (E : FX K mg)  (f : Addr) (cdv : Value) (A : Around) (outer : List Env) (s : Shared) (H : Hp) (E1 : XK) (hr : Room 0 (A.deeper (envOfC "has_cells" (defScope s_has_cells) s.heap.objs.size f cdv)))
    (tk : Takes (bodyX P w K mg base ["value"] "has_cells" (defScope s_has_cells) f cdv A outer s H E1) (bodyW E1)) (hp : PassesOwn (model P w) (A.deeper (envOfC "has_cells" (defScope s_has_cells) s.heap.objs.size f cdv)) (envOfC "has_cells" (defScope s_has_cells) s.heap.objs.size f cdv) (bodyX P w K mg base ["value"] "has_cells" (defScope s_has_cells) f cdv A outer s H E1).xe) :
    DSs (bodyX P w K mg base ["value"] "has_cells" (defScope s_has_cells) f cdv A outer s H E1) (bodyW E1) (defBody s_has_cells) (t_has_cells K) :=
  dss_one (ds_ret (de_and (de_isi2 .lst .tup (f_isinstance E) (f_list E) (f_tuple E) (de_var 0)) (de_one (de_lele (de_int) (de_callB call_len cl_len (f_len E) (da_cons (de_var 0) (da_nil))) (de_globI2 (i_MOST_CELLS E))))))
theorem sc_checked_row : FnScope ["value", "index", "cell"] ["value"] (defScope s_checked_row) := ⟨rfl, rfl, rfl, by decide +kernel, rfl, by decide +kernel, by decide +kernel⟩
def t_checked_row_b1 (K : Frag) : TSd := dIfS (dNot (dTest (dCall (sp_is_integer K) [] (dCons (dVar 2) (dNil))))) (dRaise1 (He.ga K "NoRow") "index" (dCons (dVar 1) (dNil))) (dNext)
def t_checked_row_s2 (K : Frag) : TSd := dSeq (dFor (iA jEn (dCons (dVar 0) (dNil))) (kTup 2 (kCons (kName 1) (kCons (kName 2) (kNil)))) (t_checked_row_b1 K))
  (dRet (dCB rdTuple (dCons (dVar 0) (dNil))))
def t_checked_row (K : Frag) : TSd := dSeq (dIfS (dNot (dTest (dCall (sp_has_cells K) [] (dCons (dVar 0) (dNil))))) (dRaise1 (He.ga K "NoRow") "index" (dCons (dUn (fun d g Q => asI d fun i => Q (.int (-i)) g) (dC (.int 1))) (dNil))) (dNext))
  (t_checked_row_s2 K)
theorem der_checked_row (E : FX K mg) (c_has_cells : Cal P w K mg base "has_cells" 1 ["value"] (sp_has_cells K)) (c_is_integer : Cal P w K mg base "is_integer" 1 ["value"] (sp_is_integer K)) (x_NoRow : Exc1 P w K mg base "NoRow" (He.ga K "NoRow") "index") (f : Addr) (cdv : Value) (A : Around) (outer : List Env) (s : Shared) (H : Hp) (E1 : XK) (hr : Room 2 (A.deeper (envOfC "checked_row" (defScope s_checked_row) s.heap.objs.size f cdv)))
    (tk : Takes (bodyX P w K mg base ["value", "index", "cell"] "checked_row" (defScope s_checked_row) f cdv A outer s H E1) (bodyW E1)) (hp : PassesOwn (model P w) (A.deeper (envOfC "checked_row" (defScope s_checked_row) s.heap.objs.size f cdv)) (envOfC "checked_row" (defScope s_checked_row) s.heap.objs.size f cdv) (bodyX P w K mg base ["value", "index", "cell"] "checked_row" (defScope s_checked_row) f cdv A outer s H E1).xe) :
    DSs (bodyX P w K mg base ["value", "index", "cell"] "checked_row" (defScope s_checked_row) f cdv A outer s H E1) (bodyW E1) (defBody s_checked_row) (t_checked_row K) :=
  dss_cons (ds_if (dt_not (dt_val (de_call c_has_cells (hr.mono (by decide)) tk (da_cons (de_var 0) (da_nil))))) (dss_one (ds_raise1 rfl tk x_NoRow (hr.mono (by decide)) (da_cons (de_neg (de_int)) (da_nil)))) (dss_nil))
  (dss_cons (ds_for hp rfl (di_enum (f_enumerate E) (da_cons (de_var 0) (da_nil))) (dg_tup rfl (dgs_cons (dg_name 1 sc_checked_row.nd) (dgs_cons (dg_name 2 sc_checked_row.nd) (dgs_nil)))) (dss_one (ds_if (dt_not (dt_val (de_call c_is_integer (hr.mono (by decide)) tk (da_cons (de_var 2) (da_nil))))) (dss_one (ds_raise1 rfl tk x_NoRow (hr.mono (by decide)) (da_cons (de_var 1) (da_nil)))) (dss_nil))))
  (dss_one (ds_ret (de_callTy call_tuple_of cl_tuple (f_tuple E) (da_cons (de_var 0) (da_nil))))))
theorem sc_is_row : FnScope ["value", "cell"] ["value"] (defScope s_is_row) := ⟨rfl, rfl, rfl, by decide +kernel, rfl, by decide +kernel, by decide +kernel⟩
def t_is_row_s1 (K : Frag) : TSd := dRet (dCN rdAllN (dLc (iSq (dVar 0)) (cName 1) (dYes) (dCall (sp_is_integer K) [] (dCons (dVar 1) (dNil))) [1]))
def t_is_row (K : Frag) : TSd := dSeq (dIfS (dNot (dTest (dCall (sp_has_cells K) [] (dCons (dVar 0) (dNil))))) (dRet (dC (.bl false))) (dNext))
  (t_is_row_s1 K)
theorem der_is_row (E : FX K mg) (c_has_cells : Cal P w K mg base "has_cells" 1 ["value"] (sp_has_cells K)) (c_is_integer : Cal P w K mg base "is_integer" 1 ["value"] (sp_is_integer K)) (f : Addr) (cdv : Value) (A : Around) (outer : List Env) (s : Shared) (H : Hp) (E1 : XK) (hr : Room 1 (A.deeper (envOfC "is_row" (defScope s_is_row) s.heap.objs.size f cdv)))
    (tk : Takes (bodyX P w K mg base ["value", "cell"] "is_row" (defScope s_is_row) f cdv A outer s H E1) (bodyW E1)) (hp : PassesOwn (model P w) (A.deeper (envOfC "is_row" (defScope s_is_row) s.heap.objs.size f cdv)) (envOfC "is_row" (defScope s_is_row) s.heap.objs.size f cdv) (bodyX P w K mg base ["value", "cell"] "is_row" (defScope s_is_row) f cdv A outer s H E1).xe) :
    DSs (bodyX P w K mg base ["value", "cell"] "is_row" (defScope s_is_row) f cdv A outer s H E1) (bodyW E1) (defBody s_is_row) (t_is_row K) :=
  dss_cons (ds_if (dt_not (dt_val (de_call c_has_cells (hr.mono (by decide)) tk (da_cons (de_var 0) (da_nil))))) (dss_one (ds_ret (de_bl))) (dss_nil))
  (dss_one (ds_ret (de_callBN (cr_all rfl) cn_all (f_all E) (dl_lc (own := [("cell", 1)]) rfl sc_is_row.nd (di_seq (de_var 0)) (blkOk_by (N := ["value", "cell"]) (sc := defScope s_is_row) (by decide +kernel)) (cg_name (i := 1)) (fun _ _ _ _ _ => pg_name sc_is_row.nd rfl (by first | exact .inl rfl | exact .inr rfl)) (fun _ _ _ _ _ => dts_nil) (fun _ _ _ _ _ => de_call c_is_integer (hr.mono (by decide)) takes_none5 (da_cons (de_var 1) (da_nil)))))))
theorem sc_is_bits : FnScope ["value", "cell"] ["value"] (defScope s_is_bits) := ⟨rfl, rfl, rfl, by decide +kernel, rfl, by decide +kernel, by decide +kernel⟩
def t_is_bits_s1 (K : Frag) : TSd := dRet (dCN rdAllN (dLc (iSq (dVar 0)) (cName 1) (dYes) (dCall (sp_is_bit K) [] (dCons (dVar 1) (dNil))) [1]))
def t_is_bits (K : Frag) : TSd := dSeq (dIfS (dNot (dTest (dCall (sp_has_cells K) [] (dCons (dVar 0) (dNil))))) (dRet (dC (.bl false))) (dNext))
  (t_is_bits_s1 K)
theorem der_is_bits (E : FX K mg) (c_has_cells : Cal P w K mg base "has_cells" 1 ["value"] (sp_has_cells K)) (c_is_bit : Cal P w K mg base "is_bit" 2 ["value"] (sp_is_bit K)) (f : Addr) (cdv : Value) (A : Around) (outer : List Env) (s : Shared) (H : Hp) (E1 : XK) (hr : Room 2 (A.deeper (envOfC "is_bits" (defScope s_is_bits) s.heap.objs.size f cdv)))
    (tk : Takes (bodyX P w K mg base ["value", "cell"] "is_bits" (defScope s_is_bits) f cdv A outer s H E1) (bodyW E1)) (hp : PassesOwn (model P w) (A.deeper (envOfC "is_bits" (defScope s_is_bits) s.heap.objs.size f cdv)) (envOfC "is_bits" (defScope s_is_bits) s.heap.objs.size f cdv) (bodyX P w K mg base ["value", "cell"] "is_bits" (defScope s_is_bits) f cdv A outer s H E1).xe) :
    DSs (bodyX P w K mg base ["value", "cell"] "is_bits" (defScope s_is_bits) f cdv A outer s H E1) (bodyW E1) (defBody s_is_bits) (t_is_bits K) :=
  dss_cons (ds_if (dt_not (dt_val (de_call c_has_cells (hr.mono (by decide)) tk (da_cons (de_var 0) (da_nil))))) (dss_one (ds_ret (de_bl))) (dss_nil))
  (dss_one (ds_ret (de_callBN (cr_all rfl) cn_all (f_all E) (dl_lc (own := [("cell", 1)]) rfl sc_is_bits.nd (di_seq (de_var 0)) (blkOk_by (N := ["value", "cell"]) (sc := defScope s_is_bits) (by decide +kernel)) (cg_name (i := 1)) (fun _ _ _ _ _ => pg_name sc_is_bits.nd rfl (by first | exact .inl rfl | exact .inr rfl)) (fun _ _ _ _ _ => dts_nil) (fun _ _ _ _ _ => de_call c_is_bit (hr.mono (by decide)) takes_none5 (da_cons (de_var 1) (da_nil)))))))
theorem sc_level : FnScope ["row", "value", "cells", "cell"] ["row", "value"] (defScope s_level) := ⟨rfl, rfl, rfl, by decide +kernel, rfl, by decide +kernel, by decide +kernel⟩
def t_level_s1 (K : Frag) : TSd := dRet (dCN rdTupleN (dLc (iSq (dVar 2)) (cName 3) (dYes) (dCB rdInt (dCons (dOp rdGe (dVar 3) (dVar 1)) (dNil))) [3]))
def t_level_s2 (K : Frag) : TSd := dSeq (dIfS (dNot (dTest (dCall (sp_is_integer K) [] (dCons (dVar 1) (dNil))))) (dRaise1 (He.ga K "NoNumber") "name" (dCons (dC (.str "value")) (dNil))) (dNext))
  (t_level_s1 K)
def t_level (K : Frag) : TSd := dSeq (dAsg (dCall (sp_checked_row K) [] (dCons (dVar 0) (dNil))) (kName 2))
  (t_level_s2 K)
theorem der_level (E : FX K mg) (c_checked_row : Cal P w K mg base "checked_row" 3 ["value"] (sp_checked_row K)) (c_is_integer : Cal P w K mg base "is_integer" 1 ["value"] (sp_is_integer K)) (x_NoNumber : Exc1 P w K mg base "NoNumber" (He.ga K "NoNumber") "name") (f : Addr) (cdv : Value) (A : Around) (outer : List Env) (s : Shared) (H : Hp) (E1 : XK) (hr : Room 3 (A.deeper (envOfC "level" (defScope s_level) s.heap.objs.size f cdv)))
    (tk : Takes (bodyX P w K mg base ["row", "value", "cells", "cell"] "level" (defScope s_level) f cdv A outer s H E1) (bodyW E1)) (hp : PassesOwn (model P w) (A.deeper (envOfC "level" (defScope s_level) s.heap.objs.size f cdv)) (envOfC "level" (defScope s_level) s.heap.objs.size f cdv) (bodyX P w K mg base ["row", "value", "cells", "cell"] "level" (defScope s_level) f cdv A outer s H E1).xe) :
    DSs (bodyX P w K mg base ["row", "value", "cells", "cell"] "level" (defScope s_level) f cdv A outer s H E1) (bodyW E1) (defBody s_level) (t_level K) :=
  dss_cons (ds_set 2 sc_level.nd (de_call c_checked_row (hr.mono (by decide)) tk (da_cons (de_var 0) (da_nil))))
  (dss_cons (ds_if (dt_not (dt_val (de_call c_is_integer (hr.mono (by decide)) tk (da_cons (de_var 1) (da_nil))))) (dss_one (ds_raise1 rfl tk x_NoNumber (hr.mono (by decide)) (da_cons (de_str) (da_nil)))) (dss_nil))
  (dss_one (ds_ret (de_callTyN call_tuple_of cn_tuple (f_tuple E) (dl_lc (own := [("cell", 3)]) rfl sc_level.nd (di_seq (de_var 2)) (blkOk_by (N := ["row", "value", "cells", "cell"]) (sc := defScope s_level) (by decide +kernel)) (cg_name (i := 3)) (fun _ _ _ _ _ => pg_name sc_level.nd rfl (by first | exact .inl rfl | exact .inr rfl)) (fun _ _ _ _ _ => dts_nil) (fun _ _ _ _ _ => de_callTy call_int1 cl_int (f_int E) (da_cons (de_ge (de_var 3) (de_var 1)) (da_nil))))))))
theorem sc_levels : FnScope ["row", "cell"] ["row"] (defScope s_levels) := ⟨rfl, rfl, rfl, by decide +kernel, rfl, by decide +kernel, by decide +kernel⟩
def t_levels (K : Frag) : TSd := dRet (dNew (dSortS (dSc (iSq (dCall (sp_checked_row K) [] (dCons (dVar 0) (dNil)))) (cName 1) (dYes) (dCB rdInt (dCons (dVar 1) (dNil))) [1])))
theorem der_levels (E : FX K mg) (c_checked_row : Cal P w K mg base "checked_row" 3 ["value"] (sp_checked_row K)) (f : Addr) (cdv : Value) (A : Around) (outer : List Env) (s : Shared) (H : Hp) (E1 : XK) (hr : Room 3 (A.deeper (envOfC "levels" (defScope s_levels) s.heap.objs.size f cdv)))
    (tk : Takes (bodyX P w K mg base ["row", "cell"] "levels" (defScope s_levels) f cdv A outer s H E1) (bodyW E1)) (hp : PassesOwn (model P w) (A.deeper (envOfC "levels" (defScope s_levels) s.heap.objs.size f cdv)) (envOfC "levels" (defScope s_levels) s.heap.objs.size f cdv) (bodyX P w K mg base ["row", "cell"] "levels" (defScope s_levels) f cdv A outer s H E1).xe) :
    DSs (bodyX P w K mg base ["row", "cell"] "levels" (defScope s_levels) f cdv A outer s H E1) (bodyW E1) (defBody s_levels) (t_levels K) :=
  dss_one (ds_ret (de_new (dl_sortS rfl (f_sorted E) (dse_sc (own := [("cell", 1)]) rfl sc_levels.nd (di_seq (de_call c_checked_row (hr.mono (by decide)) tk (da_cons (de_var 0) (da_nil)))) (blkOk_by (N := ["row", "cell"]) (sc := defScope s_levels) (by decide +kernel)) (cg_name (i := 1)) (fun _ _ _ _ _ => pg_name sc_levels.nd rfl (by first | exact .inl rfl | exact .inr rfl)) (fun _ _ _ _ _ => dts_nil) (fun _ _ _ _ _ => de_callTy call_int1 cl_int (f_int E) (da_cons (de_var 1) (da_nil)))))))
theorem sc__law_mix : FnScope ["_law_number_here", "_law_k"] ["_law_number_here", "_law_k"] (defScope s__law_mix) := ⟨rfl, rfl, rfl, by decide +kernel, rfl, by decide +kernel, by decide +kernel⟩
def t__law_mix_s1 (K : Frag) : TSd := dRet (dOp (rd2C (fun _ j => 0 < j) fun i j => .int (i % j)) (dCB rdInt (dCons (dOp (rd2C CMul fun i j => .int (i * j)) (dVar 0) (dOp rdAdd (dOp rdAdd (dOp (rd2C CDivW fun i j => .int (i / j)) (dVar 0) (dC (.int 2003))) (dC (.int 40692))) (dVar 1))) (dNil))) (dC (.int 2147483399)))
def t__law_mix_s2 (K : Frag) : TSd := dSeq (dAsg (dOp (rd2C (fun _ j => 0 < j) fun i j => .int (i % j)) (dCB rdInt (dCons (dOp (rd2C CMul fun i j => .int (i * j)) (dVar 0) (dOp rdAdd (dOp (rd2C CDivW fun i j => .int (i / j)) (dVar 0) (dC (.int 1009))) (dC (.int 69621)))) (dNil))) (dC (.int 2147483647))) (kName 0))
  (t__law_mix_s1 K)
def t__law_mix (K : Frag) : TSd := dSeq (dAsg (dOp (rd2C (fun _ j => 0 < j) fun i j => .int (i % j)) (dCB rdInt (dCons (dOp (rd2C CMul fun i j => .int (i * j)) (dOp rdAdd (dOp rdAdd (dVar 0) (dOp (rd2C CMul fun i j => .int (i * j)) (dC (.int 7919)) (dVar 1))) (dC (.int 1))) (dC (.int 48271))) (dNil))) (dC (.int 2147483647))) (kName 0))
  (t__law_mix_s2 K)
theorem der__law_mix (E : FX K mg)  (f : Addr) (cdv : Value) (A : Around) (outer : List Env) (s : Shared) (H : Hp) (E1 : XK) (hr : Room 0 (A.deeper (envOfC "_law_mix" (defScope s__law_mix) s.heap.objs.size f cdv)))
    (tk : Takes (bodyX P w K mg base ["_law_number_here", "_law_k"] "_law_mix" (defScope s__law_mix) f cdv A outer s H E1) (bodyW E1)) (hp : PassesOwn (model P w) (A.deeper (envOfC "_law_mix" (defScope s__law_mix) s.heap.objs.size f cdv)) (envOfC "_law_mix" (defScope s__law_mix) s.heap.objs.size f cdv) (bodyX P w K mg base ["_law_number_here", "_law_k"] "_law_mix" (defScope s__law_mix) f cdv A outer s H E1).xe) :
    DSs (bodyX P w K mg base ["_law_number_here", "_law_k"] "_law_mix" (defScope s__law_mix) f cdv A outer s H E1) (bodyW E1) (defBody s__law_mix) (t__law_mix K) :=
  dss_cons (ds_set 0 sc__law_mix.nd (de_mod (de_callTy call_int1 cl_int (f_int E) (da_cons (de_mulI (de_add (de_add (de_var 0) (de_mulI (de_int) (de_var 1))) (de_int)) (de_int)) (da_nil))) (de_int)))
  (dss_cons (ds_set 0 sc__law_mix.nd (de_mod (de_callTy call_int1 cl_int (f_int E) (da_cons (de_mulI (de_var 0) (de_add (de_fdivW (de_var 0) (de_int)) (de_int))) (da_nil))) (de_int)))
  (dss_one (ds_ret (de_mod (de_callTy call_int1 cl_int (f_int E) (da_cons (de_mulI (de_var 0) (de_add (de_add (de_fdivW (de_var 0) (de_int)) (de_int)) (de_var 1))) (da_nil))) (de_int)))))
theorem sc__law_pool : FnScope ["_law_script", "_law_cell"] ["_law_script"] (defScope s__law_pool) := ⟨rfl, rfl, rfl, by decide +kernel, rfl, by decide +kernel, by decide +kernel⟩
def t__law_pool (K : Frag) : TSd := dRet (dNew (dLstN (dCons (dNew (dLc (iL (dSl rdSlL (dVar 0) (dNoPart) (dPart (dC (.int 63))))) (cName 1) (dYes) (dCB rdInt (dCons (dVar 1) (dNil))) [1])) (dCons (dC (.int 0)) (dCons (dC (.int 0)) (dCons (dC (.int 0)) (dNil)))))))
theorem der__law_pool (E : FX K mg)  (f : Addr) (cdv : Value) (A : Around) (outer : List Env) (s : Shared) (H : Hp) (E1 : XK) (hr : Room 0 (A.deeper (envOfC "_law_pool" (defScope s__law_pool) s.heap.objs.size f cdv)))
    (tk : Takes (bodyX P w K mg base ["_law_script", "_law_cell"] "_law_pool" (defScope s__law_pool) f cdv A outer s H E1) (bodyW E1)) (hp : PassesOwn (model P w) (A.deeper (envOfC "_law_pool" (defScope s__law_pool) s.heap.objs.size f cdv)) (envOfC "_law_pool" (defScope s__law_pool) s.heap.objs.size f cdv) (bodyX P w K mg base ["_law_script", "_law_cell"] "_law_pool" (defScope s__law_pool) f cdv A outer s H E1).xe) :
    DSs (bodyX P w K mg base ["_law_script", "_law_cell"] "_law_pool" (defScope s__law_pool) f cdv A outer s H E1) (bodyW E1) (defBody s__law_pool) (t__law_pool K) :=
  dss_one (ds_ret (de_new (dl_lst (da_cons (de_new (dl_lc (own := [("_law_cell", 1)]) rfl sc__law_pool.nd (di_lst (de_slL (de_var 0) (do_none) (do_some (de_int)))) (blkOk_by (N := ["_law_script", "_law_cell"]) (sc := defScope s__law_pool) (by decide +kernel)) (cg_name (i := 1)) (fun _ _ _ _ _ => pg_name sc__law_pool.nd rfl (by first | exact .inl rfl | exact .inr rfl)) (fun _ _ _ _ _ => dts_nil) (fun _ _ _ _ _ => de_callTy call_int1 cl_int (f_int E) (da_cons (de_var 1) (da_nil))))) (da_cons (de_int) (da_cons (de_int) (da_cons (de_int) (da_nil))))))))
theorem sc__law_draw : FnScope ["_law_pool_here", "_law_limit", "_law_cells", "_law_cell", "_law_digit"] ["_law_pool_here", "_law_limit"] (defScope s__law_draw) := ⟨rfl, rfl, rfl, by decide +kernel, rfl, by decide +kernel, by decide +kernel⟩
def t__law_draw_s1 (K : Frag) : TSd := dAsg (dOp rdAdd (dOp (rd2C CMul fun i j => .int (i * j)) (dC (.int 2)) (dCB rdAbs (dCons (dVar 3) (dNil)))) (dCB rdInt (dCons (dOp rdLt (dVar 3) (dC (.int 0))) (dNil)))) (kIx (dVar 0) (dC (.int 2)))
def t__law_draw_s2 (K : Frag) : TSd := dSeq (dIfS (dTest (dOp rdLt (dCB rdAbs (dCons (dVar 3) (dNil))) (dOp (rd2C CPow fun i j => .int (i ^ j.toNat)) (dC (.int 10)) (dC (.int 18))))) (dRet (dOp (rd2C (fun _ j => 0 < j) fun i j => .int (i % j)) (dCB rdInt (dCons (dCall (sp__law_mix K) [] (dCons (dVar 3) (dCons (dOp rdIx (dVar 0) (dC (.int 3))) (dNil)))) (dNil))) (dVar 1))) (dNext))
  (t__law_draw_s1 K)
def t__law_draw_s3 (K : Frag) : TSd := dSeq (dAsg (dOp rdAdd (dOp rdIx (dVar 0) (dC (.int 1))) (dC (.int 1))) (kIx (dVar 0) (dC (.int 1))))
  (t__law_draw_s2 K)
def t__law_draw_s4 (K : Frag) : TSd := dSeq (dAsg (dOp (rd2C CDivW fun i j => .int (i / j)) (dCB rdInt (dCons (dOp rdIx (dVar 0) (dC (.int 2))) (dNil))) (dVar 1)) (kIx (dVar 0) (dC (.int 2))))
  (dRet (dVar 4))
def t__law_draw_s5 (K : Frag) : TSd := dRet (dOp (rd2C (fun _ j => 0 < j) fun i j => .int (i % j)) (dCB rdInt (dCons (dCall (sp__law_mix K) [] (dCons (dCB rdInt (dCons (dOp rdIx (dVar 2) (dOp (rd2C (fun _ j => 0 < j) fun i j => .int (i % j)) (dCB rdInt (dCons (dOp rdIx (dVar 0) (dC (.int 3))) (dNil))) (dCB rdLen (dCons (dVar 2) (dNil))))) (dNil))) (dCons (dOp rdIx (dVar 0) (dC (.int 3))) (dNil)))) (dNil))) (dVar 1))
def t__law_draw_s6 (K : Frag) : TSd := dSeq (dIfS (dTest (dOp rdEq (dCB rdLen (dCons (dVar 2) (dNil))) (dC (.int 0)))) (dRet (dOp (rd2C (fun _ j => 0 < j) fun i j => .int (i % j)) (dCB rdInt (dCons (dCall (sp__law_mix K) [] (dCons (dC (.int 4711)) (dCons (dOp rdIx (dVar 0) (dC (.int 3))) (dNil)))) (dNil))) (dVar 1))) (dNext))
  (t__law_draw_s5 K)
def t__law_draw_s7 (K : Frag) : TSd := dSeq (dIfS (dTest (dOp rdGt (dOp rdIx (dVar 0) (dC (.int 2))) (dC (.int 0)))) (dSeq (dAsg (dOp (rd2C (fun _ j => 0 < j) fun i j => .int (i % j)) (dCB rdInt (dCons (dOp rdIx (dVar 0) (dC (.int 2))) (dNil))) (dVar 1)) (kName 4))
  (t__law_draw_s4 K)) (dNext))
  (t__law_draw_s6 K)
def t__law_draw_s8 (K : Frag) : TSd := dSeq (dIfS (dAnd (dTest (dOp rdEq (dOp rdIx (dVar 0) (dC (.int 2))) (dC (.int 0)))) (dTest (dOp rdLt (dOp rdIx (dVar 0) (dC (.int 1))) (dCB rdLen (dCons (dVar 2) (dNil)))))) (dSeq (dAsg (dCB rdInt (dCons (dOp rdIx (dVar 2) (dOp rdIx (dVar 0) (dC (.int 1)))) (dNil))) (kName 3))
  (t__law_draw_s3 K)) (dNext))
  (t__law_draw_s7 K)
def t__law_draw_s9 (K : Frag) : TSd := dSeq (dAsg (dOp rdIx (dVar 0) (dC (.int 0))) (kName 2))
  (t__law_draw_s8 K)
def t__law_draw (K : Frag) : TSd := dSeq (dAsg (dOp rdAdd (dOp rdIx (dVar 0) (dC (.int 3))) (dC (.int 1))) (kIx (dVar 0) (dC (.int 3))))
  (t__law_draw_s9 K)
theorem der__law_draw (E : FX K mg) (c__law_mix : Cal P w K mg base "_law_mix" 1 ["_law_number_here", "_law_k"] (sp__law_mix K)) (f : Addr) (cdv : Value) (A : Around) (outer : List Env) (s : Shared) (H : Hp) (E1 : XK) (hr : Room 1 (A.deeper (envOfC "_law_draw" (defScope s__law_draw) s.heap.objs.size f cdv)))
    (tk : Takes (bodyX P w K mg base ["_law_pool_here", "_law_limit", "_law_cells", "_law_cell", "_law_digit"] "_law_draw" (defScope s__law_draw) f cdv A outer s H E1) (bodyW E1)) (hp : PassesOwn (model P w) (A.deeper (envOfC "_law_draw" (defScope s__law_draw) s.heap.objs.size f cdv)) (envOfC "_law_draw" (defScope s__law_draw) s.heap.objs.size f cdv) (bodyX P w K mg base ["_law_pool_here", "_law_limit", "_law_cells", "_law_cell", "_law_digit"] "_law_draw" (defScope s__law_draw) f cdv A outer s H E1).xe) :
    DSs (bodyX P w K mg base ["_law_pool_here", "_law_limit", "_law_cells", "_law_cell", "_law_digit"] "_law_draw" (defScope s__law_draw) f cdv A outer s H E1) (bodyW E1) (defBody s__law_draw) (t__law_draw K) :=
  dss_cons (ds_asg (de_add (de_ix (de_var 0) (de_int)) (de_int)) (dg_ix (de_var 0) (de_int) (by intro v; rfl)))
  (dss_cons (ds_set 2 sc__law_draw.nd (de_ix (de_var 0) (de_int)))
  (dss_cons (ds_if (dt_w (dw_and (dt_eq hr.units (de_ix (de_var 0) (de_int)) (de_int)) (dw_and1 (dt_lt (de_ix (de_var 0) (de_int)) (de_callB call_len cl_len (f_len E) (da_cons (de_var 2) (da_nil))))))) (dss_cons (ds_set 3 sc__law_draw.nd (de_callTy call_int1 cl_int (f_int E) (da_cons (de_ix (de_var 2) (de_ix (de_var 0) (de_int))) (da_nil))))
  (dss_cons (ds_asg (de_add (de_ix (de_var 0) (de_int)) (de_int)) (dg_ix (de_var 0) (de_int) (by intro v; rfl)))
  (dss_cons (ds_if (dt_lt (de_callB call_abs cl_abs (f_abs E) (da_cons (de_var 3) (da_nil))) (de_pow (de_int) (de_int))) (dss_one (ds_ret (de_mod (de_callTy call_int1 cl_int (f_int E) (da_cons (de_call c__law_mix (hr.mono (by decide)) tk (da_cons (de_var 3) (da_cons (de_ix (de_var 0) (de_int)) (da_nil)))) (da_nil))) (de_var 1)))) (dss_nil))
  (dss_one (ds_asg (de_add (de_mulI (de_int) (de_callB call_abs cl_abs (f_abs E) (da_cons (de_var 3) (da_nil)))) (de_callTy call_int1 cl_int (f_int E) (da_cons (de_lt (de_var 3) (de_int)) (da_nil)))) (dg_ix (de_var 0) (de_int) (by intro v; rfl))))))) (dss_nil))
  (dss_cons (ds_if (dt_gt (de_ix (de_var 0) (de_int)) (de_int)) (dss_cons (ds_set 4 sc__law_draw.nd (de_mod (de_callTy call_int1 cl_int (f_int E) (da_cons (de_ix (de_var 0) (de_int)) (da_nil))) (de_var 1)))
  (dss_cons (ds_asg (de_fdivW (de_callTy call_int1 cl_int (f_int E) (da_cons (de_ix (de_var 0) (de_int)) (da_nil))) (de_var 1)) (dg_ix (de_var 0) (de_int) (by intro v; rfl)))
  (dss_one (ds_ret (de_var 4))))) (dss_nil))
  (dss_cons (ds_if (dt_eq hr.units (de_callB call_len cl_len (f_len E) (da_cons (de_var 2) (da_nil))) (de_int)) (dss_one (ds_ret (de_mod (de_callTy call_int1 cl_int (f_int E) (da_cons (de_call c__law_mix (hr.mono (by decide)) tk (da_cons (de_int) (da_cons (de_ix (de_var 0) (de_int)) (da_nil)))) (da_nil))) (de_var 1)))) (dss_nil))
  (dss_one (ds_ret (de_mod (de_callTy call_int1 cl_int (f_int E) (da_cons (de_call c__law_mix (hr.mono (by decide)) tk (da_cons (de_callTy call_int1 cl_int (f_int E) (da_cons (de_ix (de_var 2) (de_mod (de_callTy call_int1 cl_int (f_int E) (da_cons (de_ix (de_var 0) (de_int)) (da_nil))) (de_callB call_len cl_len (f_len E) (da_cons (de_var 2) (da_nil))))) (da_nil))) (da_cons (de_ix (de_var 0) (de_int)) (da_nil)))) (da_nil))) (de_var 1))))))))
theorem sc__law_number : FnScope ["_law_pool_here", "_law_kind"] ["_law_pool_here"] (defScope s__law_number) := ⟨rfl, rfl, rfl, by decide +kernel, rfl, by decide +kernel, by decide +kernel⟩
def t__law_number_s1 (K : Frag) : TSd := dRet (dCall (sp__law_draw K) [] (dCons (dVar 0) (dCons (dC (.int 4)) (dNil))))
def t__law_number_s2 (K : Frag) : TSd := dSeq (dIfS (dTest (dOp rdEq (dVar 1) (dC (.int 2)))) (dRet (dOp (rd2 fun i j => .int (i - j)) (dC (.int 0)) (dCall (sp__law_draw K) [] (dCons (dVar 0) (dCons (dC (.int 5)) (dNil)))))) (dNext))
  (t__law_number_s1 K)
def t__law_number_s3 (K : Frag) : TSd := dSeq (dIfS (dTest (dOp rdEq (dVar 1) (dC (.int 1)))) (dRet (dOp rdAdd (dOp (rd2C CPow fun i j => .int (i ^ j.toNat)) (dC (.int 10)) (dC (.int 60))) (dCall (sp__law_draw K) [] (dCons (dVar 0) (dCons (dC (.int 3)) (dNil)))))) (dNext))
  (t__law_number_s2 K)
def t__law_number_s4 (K : Frag) : TSd := dSeq (dIfS (dTest (dOp rdEq (dVar 1) (dC (.int 0)))) (dRet (dOp (rd2 fun i j => .int (i - j)) (dCall (sp__law_draw K) [] (dCons (dVar 0) (dCons (dOp rdAdd (dOp (rd2C CMul fun i j => .int (i * j)) (dC (.int 2)) (dOp (rd2C CPow fun i j => .int (i ^ j.toNat)) (dC (.int 10)) (dC (.int 40)))) (dC (.int 1))) (dNil)))) (dOp (rd2C CPow fun i j => .int (i ^ j.toNat)) (dC (.int 10)) (dC (.int 40))))) (dNext))
  (t__law_number_s3 K)
def t__law_number (K : Frag) : TSd := dSeq (dAsg (dCall (sp__law_draw K) [] (dCons (dVar 0) (dCons (dC (.int 6)) (dNil)))) (kName 1))
  (t__law_number_s4 K)
theorem der__law_number (E : FX K mg) (c__law_draw : Cal P w K mg base "_law_draw" 2 ["_law_pool_here", "_law_limit"] (sp__law_draw K)) (f : Addr) (cdv : Value) (A : Around) (outer : List Env) (s : Shared) (H : Hp) (E1 : XK) (hr : Room 2 (A.deeper (envOfC "_law_number" (defScope s__law_number) s.heap.objs.size f cdv)))
    (tk : Takes (bodyX P w K mg base ["_law_pool_here", "_law_kind"] "_law_number" (defScope s__law_number) f cdv A outer s H E1) (bodyW E1)) (hp : PassesOwn (model P w) (A.deeper (envOfC "_law_number" (defScope s__law_number) s.heap.objs.size f cdv)) (envOfC "_law_number" (defScope s__law_number) s.heap.objs.size f cdv) (bodyX P w K mg base ["_law_pool_here", "_law_kind"] "_law_number" (defScope s__law_number) f cdv A outer s H E1).xe) :
    DSs (bodyX P w K mg base ["_law_pool_here", "_law_kind"] "_law_number" (defScope s__law_number) f cdv A outer s H E1) (bodyW E1) (defBody s__law_number) (t__law_number K) :=
  dss_cons (ds_set 1 sc__law_number.nd (de_call c__law_draw (hr.mono (by decide)) tk (da_cons (de_var 0) (da_cons (de_int) (da_nil)))))
  (dss_cons (ds_if (dt_eq hr.units (de_var 1) (de_int)) (dss_one (ds_ret (de_sub (de_call c__law_draw (hr.mono (by decide)) tk (da_cons (de_var 0) (da_cons (de_add (de_mulI (de_int) (de_pow (de_int) (de_int))) (de_int)) (da_nil)))) (de_pow (de_int) (de_int))))) (dss_nil))
  (dss_cons (ds_if (dt_eq hr.units (de_var 1) (de_int)) (dss_one (ds_ret (de_add (de_pow (de_int) (de_int)) (de_call c__law_draw (hr.mono (by decide)) tk (da_cons (de_var 0) (da_cons (de_int) (da_nil))))))) (dss_nil))
  (dss_cons (ds_if (dt_eq hr.units (de_var 1) (de_int)) (dss_one (ds_ret (de_sub (de_int) (de_call c__law_draw (hr.mono (by decide)) tk (da_cons (de_var 0) (da_cons (de_int) (da_nil))))))) (dss_nil))
  (dss_one (ds_ret (de_call c__law_draw (hr.mono (by decide)) tk (da_cons (de_var 0) (da_cons (de_int) (da_nil)))))))))
theorem sc__law_value : FnScope ["_law_pool_here", "_law_kind", "_law_others", "_law_size", "_law_bits", "_law_k", "_law_start", "_law_row", "_law_spoils", "_law_bad", "_law_place"] ["_law_pool_here"] (defScope s__law_value) := ⟨rfl, rfl, rfl, by decide +kernel, rfl, by decide +kernel, by decide +kernel⟩
def t__law_value_s1 (K : Frag) : TSd := dIfS (dTest (dOp rdGt (dVar 3) (dC (.int 0)))) (dAsg (dVar 9) (kIx (dVar 7) (dVar 10))) (dNext)
def t__law_value_s2 (K : Frag) : TSd := dSeq (dAsg (dCall (sp__law_draw K) [] (dCons (dVar 0) (dCons (dCB rdMax (dCons (dC (.int 1)) (dCons (dVar 3) (dNil)))) (dNil)))) (kName 10))
  (t__law_value_s1 K)
def t__law_value_b3 (K : Frag) : TSd := dSeq (dAsg (dOp rdIx (dVar 8) (dCall (sp__law_draw K) [] (dCons (dVar 0) (dCons (dC (.int 7)) (dNil))))) (kName 9))
  (t__law_value_s2 K)
def t__law_value_s4 (K : Frag) : TSd := dRet (dIf (dTest (dOp rdLt (dVar 1) (dC (.int 9)))) (dVar 7) (dCB rdTuple (dCons (dVar 7) (dNil))))
def t__law_value_s5 (K : Frag) : TSd := dSeq (dFor (iA jR1 (dCons (dCall (sp__law_draw K) [] (dCons (dVar 0) (dCons (dC (.int 3)) (dNil)))) (dNil))) (kName 5) (t__law_value_b3 K))
  (t__law_value_s4 K)
def t__law_value_s6 (K : Frag) : TSd := dSeq (dAsg (dTup (dCons (dC (.bl true)) (dCons (dC (.bl false)) (dCons (dC (.str "1")) (dCons (dC .non) (dCons (dTup (dCons (dC (.int 0)) (dNil))) (dCons (dNew (dLstN (dCons (dC (.int 1)) (dNil)))) (dCons (dC (.str "")) (dNil))))))))) (kName 8))
  (t__law_value_s5 K)
def t__law_value_s7 (K : Frag) : TSd := dSeq (dAsg (dNew (dLc (iA jR1 (dCons (dVar 3) (dNil))) (cName 5) (dYes) (dOp rdIx (dVar 6) (dOp (rd2C (fun _ j => 0 < j) fun i j => .int (i % j)) (dCB rdInt (dCons (dVar 5) (dNil))) (dCB rdLen (dCons (dVar 6) (dNil))))) [5])) (kName 7))
  (t__law_value_s6 K)
def t__law_value_s8 (K : Frag) : TSd := dSeq (dAsg (dNew (dLc (iA jR1 (dCons (dOp rdAdd (dC (.int 1)) (dCall (sp__law_draw K) [] (dCons (dVar 0) (dCons (dC (.int 5)) (dNil))))) (dNil))) (cName 5) (dYes) (dIf (dTru (dVar 4)) (dCall (sp__law_draw K) [] (dCons (dVar 0) (dCons (dC (.int 2)) (dNil)))) (dCall (sp__law_number K) [] (dCons (dVar 0) (dNil)))) [5])) (kName 6))
  (t__law_value_s7 K)
def t__law_value_s9 (K : Frag) : TSd := dSeq (dAsg (dCall (sp__law_draw K) [] (dCons (dVar 0) (dCons (dC (.int 2)) (dNil)))) (kName 4))
  (t__law_value_s8 K)
def t__law_value_s10 (K : Frag) : TSd := dSeq (dIfS (dTest (dOp rdEq (dCall (sp__law_draw K) [] (dCons (dVar 0) (dCons (dC (.int 3)) (dNil)))) (dC (.int 0)))) (dAsg (dOp rdAdd (dC (.int 198)) (dCall (sp__law_draw K) [] (dCons (dVar 0) (dCons (dC (.int 5)) (dNil))))) (kName 3)) (dNext))
  (t__law_value_s9 K)
def t__law_value_s11 (K : Frag) : TSd := dSeq (dAsg (dCall (sp__law_draw K) [] (dCons (dVar 0) (dCons (dC (.int 8)) (dNil)))) (kName 3))
  (t__law_value_s10 K)
def t__law_value_s12 (K : Frag) : TSd := dSeq (dIfS (dTest (dOp rdLt (dVar 1) (dC (.int 5)))) (dSeq (dAsg (dTup (dCons (dC (.str "01")) (dCons (dC .non) (dCons (dC (.int 7)) (dCons (dC (.bl true)) (dCons (dC (.str "")) (dNil))))))) (kName 2))
  (dRet (dOp rdIx (dVar 2) (dVar 1)))) (dNext))
  (t__law_value_s11 K)
def t__law_value (K : Frag) : TSd := dSeq (dAsg (dCall (sp__law_draw K) [] (dCons (dVar 0) (dCons (dC (.int 12)) (dNil)))) (kName 1))
  (t__law_value_s12 K)
theorem der__law_value (E : FX K mg) (c__law_draw : Cal P w K mg base "_law_draw" 2 ["_law_pool_here", "_law_limit"] (sp__law_draw K)) (c__law_number : Cal P w K mg base "_law_number" 3 ["_law_pool_here"] (sp__law_number K)) (f : Addr) (cdv : Value) (A : Around) (outer : List Env) (s : Shared) (H : Hp) (E1 : XK) (hr : Room 3 (A.deeper (envOfC "_law_value" (defScope s__law_value) s.heap.objs.size f cdv)))
    (tk : Takes (bodyX P w K mg base ["_law_pool_here", "_law_kind", "_law_others", "_law_size", "_law_bits", "_law_k", "_law_start", "_law_row", "_law_spoils", "_law_bad", "_law_place"] "_law_value" (defScope s__law_value) f cdv A outer s H E1) (bodyW E1)) (hp : PassesOwn (model P w) (A.deeper (envOfC "_law_value" (defScope s__law_value) s.heap.objs.size f cdv)) (envOfC "_law_value" (defScope s__law_value) s.heap.objs.size f cdv) (bodyX P w K mg base ["_law_pool_here", "_law_kind", "_law_others", "_law_size", "_law_bits", "_law_k", "_law_start", "_law_row", "_law_spoils", "_law_bad", "_law_place"] "_law_value" (defScope s__law_value) f cdv A outer s H E1).xe) :
    DSs (bodyX P w K mg base ["_law_pool_here", "_law_kind", "_law_others", "_law_size", "_law_bits", "_law_k", "_law_start", "_law_row", "_law_spoils", "_law_bad", "_law_place"] "_law_value" (defScope s__law_value) f cdv A outer s H E1) (bodyW E1) (defBody s__law_value) (t__law_value K) :=
  dss_cons (ds_set 1 sc__law_value.nd (de_call c__law_draw (hr.mono (by decide)) tk (da_cons (de_var 0) (da_cons (de_int) (da_nil)))))
  (dss_cons (ds_if (dt_lt (de_var 1) (de_int)) (dss_cons (ds_set 2 sc__law_value.nd (de_tup (da_cons (de_str) (da_cons (de_non) (da_cons (de_int) (da_cons (de_bl) (da_cons (de_str) (da_nil))))))))
  (dss_one (ds_ret (de_ix (de_var 2) (de_var 1))))) (dss_nil))
  (dss_cons (ds_set 3 sc__law_value.nd (de_call c__law_draw (hr.mono (by decide)) tk (da_cons (de_var 0) (da_cons (de_int) (da_nil)))))
  (dss_cons (ds_if (dt_eq hr.units (de_call c__law_draw (hr.mono (by decide)) tk (da_cons (de_var 0) (da_cons (de_int) (da_nil)))) (de_int)) (dss_one (ds_set 3 sc__law_value.nd (de_add (de_int) (de_call c__law_draw (hr.mono (by decide)) tk (da_cons (de_var 0) (da_cons (de_int) (da_nil))))))) (dss_nil))
  (dss_cons (ds_set 4 sc__law_value.nd (de_call c__law_draw (hr.mono (by decide)) tk (da_cons (de_var 0) (da_cons (de_int) (da_nil)))))
  (dss_cons (ds_set 6 sc__law_value.nd (de_new (dl_lc (own := [("_law_k", 5)]) rfl sc__law_value.nd (di_range1 (f_range E) (da_cons (de_add (de_int) (de_call c__law_draw (hr.mono (by decide)) tk (da_cons (de_var 0) (da_cons (de_int) (da_nil))))) (da_nil))) (blkOk_by (N := ["_law_pool_here", "_law_kind", "_law_others", "_law_size", "_law_bits", "_law_k", "_law_start", "_law_row", "_law_spoils", "_law_bad", "_law_place"]) (sc := defScope s__law_value) (by decide +kernel)) (cg_name (i := 5)) (fun _ _ _ _ _ => pg_name sc__law_value.nd rfl (by first | exact .inl rfl | exact .inr rfl)) (fun _ _ _ _ _ => dts_nil) (fun _ _ _ _ _ => de_if (dt_truth (de_var 4)) (de_call c__law_draw (hr.mono (by decide)) takes_none5 (da_cons (de_var 0) (da_cons (de_int) (da_nil)))) (de_call c__law_number (hr.mono (by decide)) takes_none5 (da_cons (de_var 0) (da_nil)))))))
  (dss_cons (ds_setLc 7 (own := [("_law_k", 5)]) rfl sc__law_value.nd (di_range1 (f_range E) (da_cons (de_var 3) (da_nil))) (blkOk_by (N := ["_law_pool_here", "_law_kind", "_law_others", "_law_size", "_law_bits", "_law_k", "_law_start", "_law_row", "_law_spoils", "_law_bad", "_law_place"]) (sc := defScope s__law_value) (by decide +kernel)) (cg_name (i := 5)) (fun _ _ _ _ _ => pg_name sc__law_value.nd rfl (by first | exact .inl rfl | exact .inr rfl)) (fun _ _ _ _ _ => dts_nil) (fun _ _ _ _ _ => de_ix (de_var 6) (de_mod (de_callTy call_int1 cl_int (f_int E) (da_cons (de_var 5) (da_nil))) (de_callB call_len cl_len (f_len E) (da_cons (de_var 6) (da_nil))))) (sw_true rfl rfl rfl rfl))
  (dss_cons (ds_set 8 sc__law_value.nd (de_tup (da_cons (de_bl) (da_cons (de_bl) (da_cons (de_str) (da_cons (de_non) (da_cons (de_tup (da_cons (de_int) (da_nil))) (da_cons (de_new (dl_lst (da_cons (de_int) (da_nil)))) (da_cons (de_str) (da_nil))))))))))
  (dss_cons (ds_for hp rfl (di_range1 (f_range E) (da_cons (de_call c__law_draw (hr.mono (by decide)) tk (da_cons (de_var 0) (da_cons (de_int) (da_nil)))) (da_nil))) (dg_name 5 sc__law_value.nd) (dss_cons (ds_set 9 sc__law_value.nd (de_ix (de_var 8) (de_call c__law_draw (hr.mono (by decide)) tk (da_cons (de_var 0) (da_cons (de_int) (da_nil))))))
  (dss_cons (ds_set 10 sc__law_value.nd (de_call c__law_draw (hr.mono (by decide)) tk (da_cons (de_var 0) (da_cons (de_callB (call_max2 rfl) cl_max (f_max E) (da_cons (de_int) (da_cons (de_var 3) (da_nil)))) (da_nil)))))
  (dss_one (ds_if (dt_gt (de_var 3) (de_int)) (dss_one (ds_asg (de_var 9) (dg_ix (de_var 7) (de_var 10) (by intro v; rfl)))) (dss_nil))))))
  (dss_one (ds_ret (de_if (dt_lt (de_var 1) (de_int)) (de_var 7) (de_callTy call_tuple_of cl_tuple (f_tuple E) (da_cons (de_var 7) (da_nil))))))))))))))
theorem sc__law_is_integer : FnScope ["_law_cell"] ["_law_cell"] (defScope s__law_is_integer) := ⟨rfl, rfl, rfl, by decide +kernel, rfl, by decide +kernel, by decide +kernel⟩
def t__law_is_integer (K : Frag) : TSd := dRet (dAndV (dIsi (fun k => kt k .int) (dVar 0)) (dNotV (dIsi (fun k => kt k .bl) (dVar 0))))
theorem der__law_is_integer (E : FX K mg)  (f : Addr) (cdv : Value) (A : Around) (outer : List Env) (s : Shared) (H : Hp) (E1 : XK) (hr : Room 0 (A.deeper (envOfC "_law_is_integer" (defScope s__law_is_integer) s.heap.objs.size f cdv)))
    (tk : Takes (bodyX P w K mg base ["_law_cell"] "_law_is_integer" (defScope s__law_is_integer) f cdv A outer s H E1) (bodyW E1)) (hp : PassesOwn (model P w) (A.deeper (envOfC "_law_is_integer" (defScope s__law_is_integer) s.heap.objs.size f cdv)) (envOfC "_law_is_integer" (defScope s__law_is_integer) s.heap.objs.size f cdv) (bodyX P w K mg base ["_law_cell"] "_law_is_integer" (defScope s__law_is_integer) f cdv A outer s H E1).xe) :
    DSs (bodyX P w K mg base ["_law_cell"] "_law_is_integer" (defScope s__law_is_integer) f cdv A outer s H E1) (bodyW E1) (defBody s__law_is_integer) (t__law_is_integer K) :=
  dss_one (ds_ret (de_and (de_isi .int (f_isinstance E) (f_int E) (de_var 0)) (de_one (de_not (de_isi .bl (f_isinstance E) (f_bool E) (de_var 0))))))
theorem sc__law_is_flag : FnScope ["_law_actual", "_law_due"] ["_law_actual", "_law_due"] (defScope s__law_is_flag) := ⟨rfl, rfl, rfl, by decide +kernel, rfl, by decide +kernel, by decide +kernel⟩
def t__law_is_flag (K : Frag) : TSd := dRet (dAndV (dIsi (fun k => kt k .bl) (dVar 0)) (dOp rdEq (dVar 0) (dVar 1)))
theorem der__law_is_flag (E : FX K mg)  (f : Addr) (cdv : Value) (A : Around) (outer : List Env) (s : Shared) (H : Hp) (E1 : XK) (hr : Room 0 (A.deeper (envOfC "_law_is_flag" (defScope s__law_is_flag) s.heap.objs.size f cdv)))
    (tk : Takes (bodyX P w K mg base ["_law_actual", "_law_due"] "_law_is_flag" (defScope s__law_is_flag) f cdv A outer s H E1) (bodyW E1)) (hp : PassesOwn (model P w) (A.deeper (envOfC "_law_is_flag" (defScope s__law_is_flag) s.heap.objs.size f cdv)) (envOfC "_law_is_flag" (defScope s__law_is_flag) s.heap.objs.size f cdv) (bodyX P w K mg base ["_law_actual", "_law_due"] "_law_is_flag" (defScope s__law_is_flag) f cdv A outer s H E1).xe) :
    DSs (bodyX P w K mg base ["_law_actual", "_law_due"] "_law_is_flag" (defScope s__law_is_flag) f cdv A outer s H E1) (bodyW E1) (defBody s__law_is_flag) (t__law_is_flag K) :=
  dss_one (ds_ret (de_and (de_isi .bl (f_isinstance E) (f_bool E) (de_var 0)) (de_one (de_eq hr.units (de_var 0) (de_var 1)))))
theorem sc__law_fault : FnScope ["_law_value_here", "_law_bits", "_law_k"] ["_law_value_here", "_law_bits"] (defScope s__law_fault) := ⟨rfl, rfl, rfl, by decide +kernel, rfl, by decide +kernel, by decide +kernel⟩
def t__law_fault_b1 (K : Frag) : TSd := dIfS (dOr (dNot (dTest (dCall (sp__law_is_integer K) [] (dCons (dOp rdIx (dVar 0) (dVar 2)) (dNil))))) (dAnd (dTru (dVar 1)) (dNot (dTest (dChain rdLe rdLe (dC (.int 0)) (dOp rdIx (dVar 0) (dVar 2)) (dC (.int 1))))))) (dRet (dVar 2)) (dNext)
def t__law_fault_s2 (K : Frag) : TSd := dSeq (dFor (iA jR1 (dCons (dCB rdLen (dCons (dVar 0) (dNil))) (dNil))) (kName 2) (t__law_fault_b1 K))
  (dRet (dC .non))
def t__law_fault (K : Frag) : TSd := dSeq (dIfS (dOr (dNot (dTest (dIsi (fun k => kt k .lst || kt k .tup) (dVar 0)))) (dOr (dTest (dOp rdLt (dCB rdLen (dCons (dVar 0) (dNil))) (dC (.int 1)))) (dTest (dOp rdGt (dCB rdLen (dCons (dVar 0) (dNil))) (dC (.int 200)))))) (dRet (dUn (fun d g Q => asI d fun i => Q (.int (-i)) g) (dC (.int 1)))) (dNext))
  (t__law_fault_s2 K)
theorem der__law_fault (E : FX K mg) (c__law_is_integer : Cal P w K mg base "_law_is_integer" 1 ["_law_cell"] (sp__law_is_integer K)) (f : Addr) (cdv : Value) (A : Around) (outer : List Env) (s : Shared) (H : Hp) (E1 : XK) (hr : Room 1 (A.deeper (envOfC "_law_fault" (defScope s__law_fault) s.heap.objs.size f cdv)))
    (tk : Takes (bodyX P w K mg base ["_law_value_here", "_law_bits", "_law_k"] "_law_fault" (defScope s__law_fault) f cdv A outer s H E1) (bodyW E1)) (hp : PassesOwn (model P w) (A.deeper (envOfC "_law_fault" (defScope s__law_fault) s.heap.objs.size f cdv)) (envOfC "_law_fault" (defScope s__law_fault) s.heap.objs.size f cdv) (bodyX P w K mg base ["_law_value_here", "_law_bits", "_law_k"] "_law_fault" (defScope s__law_fault) f cdv A outer s H E1).xe) :
    DSs (bodyX P w K mg base ["_law_value_here", "_law_bits", "_law_k"] "_law_fault" (defScope s__law_fault) f cdv A outer s H E1) (bodyW E1) (defBody s__law_fault) (t__law_fault K) :=
  dss_cons (ds_if (dt_w (dw_or (dt_not (dt_val (de_isi2 .lst .tup (f_isinstance E) (f_list E) (f_tuple E) (de_var 0)))) (dw_or (dt_lt (de_callB call_len cl_len (f_len E) (da_cons (de_var 0) (da_nil))) (de_int)) (dw_or1 (dt_gt (de_callB call_len cl_len (f_len E) (da_cons (de_var 0) (da_nil))) (de_int)))))) (dss_one (ds_ret (de_neg (de_int)))) (dss_nil))
  (dss_cons (ds_for hp rfl (di_range1 (f_range E) (da_cons (de_callB call_len cl_len (f_len E) (da_cons (de_var 0) (da_nil))) (da_nil))) (dg_name 2 sc__law_fault.nd) (dss_one (ds_if (dt_w (dw_or (dt_not (dt_val (de_call c__law_is_integer (hr.mono (by decide)) tk (da_cons (de_ix (de_var 0) (de_var 2)) (da_nil))))) (dw_or1 (dt_w (dw_and (dt_truth (de_var 1)) (dw_and1 (dt_not (dt_lele (de_int) (de_ix (de_var 0) (de_var 2)) (de_int))))))))) (dss_one (ds_ret (de_var 2))) (dss_nil))))
  (dss_one (ds_ret (de_non))))
theorem sc__law_told_level : FnScope ["_law_value_here", "_law_number_here", "_law_told", "e"] ["_law_value_here", "_law_number_here"] (defScope s__law_told_level) := ⟨rfl, rfl, rfl, by decide +kernel, rfl, by decide +kernel, by decide +kernel⟩
def t__law_told_level (K : Frag) : TSd := dSeq (dTry K (dAsg (dTup (dCons (dC (.str "told")) (dCons (dCall (sp_level K) [] (dCons (dVar 0) (dCons (dVar 1) (dNil)))) (dNil)))) (kName 2)) ((.ref (He.ga K "NoRow"), some 3, He.ga K "NoRow", fun a d => dAsg (dTup (dCons (dC (.str "row")) (dCons (dXf a d "index" (dVar 3)) (dCons (dIsX a d true (dVar 3)) (dCons (dIsX a d false (dVar 3)) (dNil)))))) (kName 2)) :: (.ref (He.ga K "NoNumber"), some 3, He.ga K "NoNumber", fun a d => dAsg (dTup (dCons (dC (.str "number")) (dCons (dXf a d "name" (dVar 3)) (dCons (dIsX a d true (dVar 3)) (dCons (dIsX a d false (dVar 3)) (dNil)))))) (kName 2)) :: []))
  (dRet (dVar 2))
theorem der__law_told_level (E : FX K mg) (c_level : Cal P w K mg base "level" 4 ["row", "value"] (sp_level K)) (f : Addr) (cdv : Value) (A : Around) (outer : List Env) (s : Shared) (H : Hp) (E1 : XK) (hr : Room 4 (A.deeper (envOfC "_law_told_level" (defScope s__law_told_level) s.heap.objs.size f cdv)))
    (tk : Takes (bodyX P w K mg base ["_law_value_here", "_law_number_here", "_law_told", "e"] "_law_told_level" (defScope s__law_told_level) f cdv A outer s H E1) (bodyW E1)) (hp : PassesOwn (model P w) (A.deeper (envOfC "_law_told_level" (defScope s__law_told_level) s.heap.objs.size f cdv)) (envOfC "_law_told_level" (defScope s__law_told_level) s.heap.objs.size f cdv) (bodyX P w K mg base ["_law_value_here", "_law_number_here", "_law_told", "e"] "_law_told_level" (defScope s__law_told_level) f cdv A outer s H E1).xe) :
    DSs (bodyX P w K mg base ["_law_value_here", "_law_number_here", "_law_told", "e"] "_law_told_level" (defScope s__law_told_level) f cdv A outer s H E1) (bodyW E1) (defBody s__law_told_level) (t__law_told_level K) :=
  dss_cons (ds_try rfl rfl sc__law_told_level.nd tk (fun W1 pn xe tk hp => dss_one (ds_set 2 sc__law_told_level.nd (de_tup (da_cons (de_str) (da_cons (de_call c_level (hr.mono (by decide)) tk (da_cons (de_var 0) (da_cons (de_var 1) (da_nil)))) (da_nil)))))) (.consN 3 rfl rfl ⟨rfl, by decide, .inl (g_NoRow E)⟩ (fun a oe cls d pn hz hv hcl => dss_one (ds_set 2 sc__law_told_level.nd (de_tup (da_cons (de_str) (da_cons (de_xf (xf_of (excC_NoRow E)) (noat_NoRow_index E) hz hv hcl (de_var 3)) (da_cons (de_isX (excC_NoRow E) hz hv hcl (de_var 3) (pe_glob (v := .ref _) rfl (g_SweepError E) rfl rfl) relv_ref (isx_NoRow_SweepError E) (f_isinstance E)) (da_cons (de_isX (excC_NoRow E) hz hv hcl (de_var 3) (pe_glob (v := .ref _) rfl (g_NoNumber E) rfl rfl) relv_ref (isx_NoRow_NoNumber E) (f_isinstance E)) (da_nil)))))))) (.consN 3 rfl rfl ⟨rfl, by decide, .inl (g_NoNumber E)⟩ (fun a oe cls d pn hz hv hcl => dss_one (ds_set 2 sc__law_told_level.nd (de_tup (da_cons (de_str) (da_cons (de_xf (xf_of (excC_NoNumber E)) (noat_NoNumber_name E) hz hv hcl (de_var 3)) (da_cons (de_isX (excC_NoNumber E) hz hv hcl (de_var 3) (pe_bltn (v := .ty "ValueError") rfl (f_ValueError E) (by decide +kernel) rfl (by decide) (by decide)) relv_ty (isb_NoNumber_ValueError E) (f_isinstance E)) (da_cons (de_isX (excC_NoNumber E) hz hv hcl (de_var 3) (pe_glob (v := .ref _) rfl (g_NoRow E) rfl rfl) relv_ref (isx_NoNumber_NoRow E) (f_isinstance E)) (da_nil)))))))) (.nil))))
  (dss_one (ds_ret (de_var 2)))
theorem sc__law_told_levels : FnScope ["_law_value_here", "_law_told", "e"] ["_law_value_here"] (defScope s__law_told_levels) := ⟨rfl, rfl, rfl, by decide +kernel, rfl, by decide +kernel, by decide +kernel⟩
def t__law_told_levels (K : Frag) : TSd := dSeq (dTry K (dAsg (dTup (dCons (dC (.str "told")) (dCons (dCall (sp_levels K) [] (dCons (dVar 0) (dNil))) (dNil)))) (kName 1)) ((.ref (He.ga K "NoRow"), some 2, He.ga K "NoRow", fun a d => dAsg (dTup (dCons (dC (.str "row")) (dCons (dXf a d "index" (dVar 2)) (dCons (dIsX a d true (dVar 2)) (dCons (dIsX a d false (dVar 2)) (dNil)))))) (kName 1)) :: []))
  (dRet (dVar 1))
theorem der__law_told_levels (E : FX K mg) (c_levels : Cal P w K mg base "levels" 4 ["row"] (sp_levels K)) (f : Addr) (cdv : Value) (A : Around) (outer : List Env) (s : Shared) (H : Hp) (E1 : XK) (hr : Room 4 (A.deeper (envOfC "_law_told_levels" (defScope s__law_told_levels) s.heap.objs.size f cdv)))
    (tk : Takes (bodyX P w K mg base ["_law_value_here", "_law_told", "e"] "_law_told_levels" (defScope s__law_told_levels) f cdv A outer s H E1) (bodyW E1)) (hp : PassesOwn (model P w) (A.deeper (envOfC "_law_told_levels" (defScope s__law_told_levels) s.heap.objs.size f cdv)) (envOfC "_law_told_levels" (defScope s__law_told_levels) s.heap.objs.size f cdv) (bodyX P w K mg base ["_law_value_here", "_law_told", "e"] "_law_told_levels" (defScope s__law_told_levels) f cdv A outer s H E1).xe) :
    DSs (bodyX P w K mg base ["_law_value_here", "_law_told", "e"] "_law_told_levels" (defScope s__law_told_levels) f cdv A outer s H E1) (bodyW E1) (defBody s__law_told_levels) (t__law_told_levels K) :=
  dss_cons (ds_try rfl rfl sc__law_told_levels.nd tk (fun W1 pn xe tk hp => dss_one (ds_set 1 sc__law_told_levels.nd (de_tup (da_cons (de_str) (da_cons (de_call c_levels (hr.mono (by decide)) tk (da_cons (de_var 0) (da_nil))) (da_nil)))))) (.consN 2 rfl rfl ⟨rfl, by decide, .inl (g_NoRow E)⟩ (fun a oe cls d pn hz hv hcl => dss_one (ds_set 1 sc__law_told_levels.nd (de_tup (da_cons (de_str) (da_cons (de_xf (xf_of (excC_NoRow E)) (noat_NoRow_index E) hz hv hcl (de_var 2)) (da_cons (de_isX (excC_NoRow E) hz hv hcl (de_var 2) (pe_glob (v := .ref _) rfl (g_SweepError E) rfl rfl) relv_ref (isx_NoRow_SweepError E) (f_isinstance E)) (da_cons (de_isX (excC_NoRow E) hz hv hcl (de_var 2) (pe_glob (v := .ref _) rfl (g_NoNumber E) rfl rfl) relv_ref (isx_NoRow_NoNumber E) (f_isinstance E)) (da_nil)))))))) (.nil)))
  (dss_one (ds_ret (de_var 1)))
theorem sc__law_level_right : FnScope ["_law_value_here", "_law_fault_here", "_law_number_here", "_law_told", "_law_k"] ["_law_value_here", "_law_fault_here", "_law_number_here", "_law_told"] (defScope s__law_level_right) := ⟨rfl, rfl, rfl, by decide +kernel, rfl, by decide +kernel, by decide +kernel⟩
def t__law_level_right_b1 (K : Frag) : TSd := dIfS (dOr (dNot (dTest (dCall (sp__law_is_integer K) [] (dCons (dOp rdIx (dOp rdIx (dVar 3) (dC (.int 1))) (dVar 4)) (dNil))))) (dTest (dOp rdNe (dOp rdIx (dOp rdIx (dVar 3) (dC (.int 1))) (dVar 4)) (dCB rdInt (dCons (dOp rdGe (dOp rdIx (dVar 0) (dVar 4)) (dVar 2)) (dNil)))))) (dRet (dC (.bl false))) (dNext)
def t__law_level_right_s2 (K : Frag) : TSd := dSeq (dFor (iA jR1 (dCons (dCB rdLen (dCons (dVar 0) (dNil))) (dNil))) (kName 4) (t__law_level_right_b1 K))
  (dRet (dC (.bl true)))
def t__law_level_right_s3 (K : Frag) : TSd := dSeq (dIfS (dOr (dTest (dOp rdNe (dOp rdIx (dVar 3) (dC (.int 0))) (dC (.str "told")))) (dOr (dNot (dTest (dIsi (fun k => kt k .tup) (dOp rdIx (dVar 3) (dC (.int 1)))))) (dTest (dOp rdNe (dCB rdLen (dCons (dOp rdIx (dVar 3) (dC (.int 1))) (dNil))) (dCB rdLen (dCons (dVar 0) (dNil))))))) (dRet (dC (.bl false))) (dNext))
  (t__law_level_right_s2 K)
def t__law_level_right_s4 (K : Frag) : TSd := dSeq (dIfS (dNot (dTest (dCall (sp__law_is_integer K) [] (dCons (dVar 2) (dNil))))) (dRet (dOp rdEq (dVar 3) (dTup (dCons (dC (.str "number")) (dCons (dC (.str "value")) (dCons (dC (.bl true)) (dCons (dC (.bl false)) (dNil)))))))) (dNext))
  (t__law_level_right_s3 K)
def t__law_level_right (K : Frag) : TSd := dSeq (dIfS (dTest (dNotN (dVar 1))) (dRet (dOp rdEq (dVar 3) (dTup (dCons (dC (.str "row")) (dCons (dVar 1) (dCons (dC (.bl true)) (dCons (dC (.bl false)) (dNil)))))))) (dNext))
  (t__law_level_right_s4 K)
theorem der__law_level_right (E : FX K mg) (c__law_is_integer : Cal P w K mg base "_law_is_integer" 1 ["_law_cell"] (sp__law_is_integer K)) (f : Addr) (cdv : Value) (A : Around) (outer : List Env) (s : Shared) (H : Hp) (E1 : XK) (hr : Room 1 (A.deeper (envOfC "_law_level_right" (defScope s__law_level_right) s.heap.objs.size f cdv)))
    (tk : Takes (bodyX P w K mg base ["_law_value_here", "_law_fault_here", "_law_number_here", "_law_told", "_law_k"] "_law_level_right" (defScope s__law_level_right) f cdv A outer s H E1) (bodyW E1)) (hp : PassesOwn (model P w) (A.deeper (envOfC "_law_level_right" (defScope s__law_level_right) s.heap.objs.size f cdv)) (envOfC "_law_level_right" (defScope s__law_level_right) s.heap.objs.size f cdv) (bodyX P w K mg base ["_law_value_here", "_law_fault_here", "_law_number_here", "_law_told", "_law_k"] "_law_level_right" (defScope s__law_level_right) f cdv A outer s H E1).xe) :
    DSs (bodyX P w K mg base ["_law_value_here", "_law_fault_here", "_law_number_here", "_law_told", "_law_k"] "_law_level_right" (defScope s__law_level_right) f cdv A outer s H E1) (bodyW E1) (defBody s__law_level_right) (t__law_level_right K) :=
  dss_cons (ds_if (dt_notN (de_var 1)) (dss_one (ds_ret (de_eq hr.units (de_var 3) (de_tup (da_cons (de_str) (da_cons (de_var 1) (da_cons (de_bl) (da_cons (de_bl) (da_nil))))))))) (dss_nil))
  (dss_cons (ds_if (dt_not (dt_val (de_call c__law_is_integer (hr.mono (by decide)) tk (da_cons (de_var 2) (da_nil))))) (dss_one (ds_ret (de_eq hr.units (de_var 3) (de_tup (da_cons (de_str) (da_cons (de_str) (da_cons (de_bl) (da_cons (de_bl) (da_nil))))))))) (dss_nil))
  (dss_cons (ds_if (dt_w (dw_or (dt_ne hr.units (de_ix (de_var 3) (de_int)) (de_str)) (dw_or (dt_not (dt_val (de_isi .tup (f_isinstance E) (f_tuple E) (de_ix (de_var 3) (de_int))))) (dw_or1 (dt_ne hr.units (de_callB call_len cl_len (f_len E) (da_cons (de_ix (de_var 3) (de_int)) (da_nil))) (de_callB call_len cl_len (f_len E) (da_cons (de_var 0) (da_nil)))))))) (dss_one (ds_ret (de_bl))) (dss_nil))
  (dss_cons (ds_for hp rfl (di_range1 (f_range E) (da_cons (de_callB call_len cl_len (f_len E) (da_cons (de_var 0) (da_nil))) (da_nil))) (dg_name 4 sc__law_level_right.nd) (dss_one (ds_if (dt_w (dw_or (dt_not (dt_val (de_call c__law_is_integer (hr.mono (by decide)) tk (da_cons (de_ix (de_ix (de_var 3) (de_int)) (de_var 4)) (da_nil))))) (dw_or1 (dt_ne hr.units (de_ix (de_ix (de_var 3) (de_int)) (de_var 4)) (de_callTy call_int1 cl_int (f_int E) (da_cons (de_ge (de_ix (de_var 0) (de_var 4)) (de_var 2)) (da_nil))))))) (dss_one (ds_ret (de_bl))) (dss_nil))))
  (dss_one (ds_ret (de_bl))))))
theorem sc__law_levels_right : FnScope ["_law_value_here", "_law_fault_here", "_law_told", "_law_k", "_law_cell"] ["_law_value_here", "_law_fault_here", "_law_told"] (defScope s__law_levels_right) := ⟨rfl, rfl, rfl, by decide +kernel, rfl, by decide +kernel, by decide +kernel⟩
def t__law_levels_right_s1 (K : Frag) : TSd := dIfS (dAnd (dTest (dOp rdGt (dVar 3) (dC (.int 0)))) (dTest (dOp rdLe (dOp rdIx (dOp rdIx (dVar 2) (dC (.int 1))) (dVar 3)) (dOp rdIx (dOp rdIx (dVar 2) (dC (.int 1))) (dOp (rd2 fun i j => .int (i - j)) (dVar 3) (dC (.int 1))))))) (dRet (dC (.bl false))) (dNext)
def t__law_levels_right_b2 (K : Frag) : TSd := dSeq (dIfS (dOr (dNot (dTest (dCall (sp__law_is_integer K) [] (dCons (dOp rdIx (dOp rdIx (dVar 2) (dC (.int 1))) (dVar 3)) (dNil))))) (dTest (dOp (rdInS true) (dOp rdIx (dOp rdIx (dVar 2) (dC (.int 1))) (dVar 3)) (dVar 0)))) (dRet (dC (.bl false))) (dNext))
  (t__law_levels_right_s1 K)
def t__law_levels_right_b3 (K : Frag) : TSd := dIfS (dTest (dOp (rdInS true) (dVar 4) (dOp rdIx (dVar 2) (dC (.int 1))))) (dRet (dC (.bl false))) (dNext)
def t__law_levels_right_s4 (K : Frag) : TSd := dSeq (dFor (iSq (dVar 0)) (kName 4) (t__law_levels_right_b3 K))
  (dRet (dC (.bl true)))
def t__law_levels_right_s5 (K : Frag) : TSd := dSeq (dFor (iA jR1 (dCons (dCB rdLen (dCons (dOp rdIx (dVar 2) (dC (.int 1))) (dNil))) (dNil))) (kName 3) (t__law_levels_right_b2 K))
  (t__law_levels_right_s4 K)
def t__law_levels_right_s6 (K : Frag) : TSd := dSeq (dIfS (dOr (dTest (dOp rdNe (dOp rdIx (dVar 2) (dC (.int 0))) (dC (.str "told")))) (dOr (dNot (dTest (dIsi (fun k => kt k .lst) (dOp rdIx (dVar 2) (dC (.int 1)))))) (dTest (dOp rdEq (dCB rdLen (dCons (dOp rdIx (dVar 2) (dC (.int 1))) (dNil))) (dC (.int 0)))))) (dRet (dC (.bl false))) (dNext))
  (t__law_levels_right_s5 K)
def t__law_levels_right (K : Frag) : TSd := dSeq (dIfS (dTest (dNotN (dVar 1))) (dRet (dOp rdEq (dVar 2) (dTup (dCons (dC (.str "row")) (dCons (dVar 1) (dCons (dC (.bl true)) (dCons (dC (.bl false)) (dNil)))))))) (dNext))
  (t__law_levels_right_s6 K)
theorem der__law_levels_right (E : FX K mg) (c__law_is_integer : Cal P w K mg base "_law_is_integer" 1 ["_law_cell"] (sp__law_is_integer K)) (f : Addr) (cdv : Value) (A : Around) (outer : List Env) (s : Shared) (H : Hp) (E1 : XK) (hr : Room 1 (A.deeper (envOfC "_law_levels_right" (defScope s__law_levels_right) s.heap.objs.size f cdv)))
    (tk : Takes (bodyX P w K mg base ["_law_value_here", "_law_fault_here", "_law_told", "_law_k", "_law_cell"] "_law_levels_right" (defScope s__law_levels_right) f cdv A outer s H E1) (bodyW E1)) (hp : PassesOwn (model P w) (A.deeper (envOfC "_law_levels_right" (defScope s__law_levels_right) s.heap.objs.size f cdv)) (envOfC "_law_levels_right" (defScope s__law_levels_right) s.heap.objs.size f cdv) (bodyX P w K mg base ["_law_value_here", "_law_fault_here", "_law_told", "_law_k", "_law_cell"] "_law_levels_right" (defScope s__law_levels_right) f cdv A outer s H E1).xe) :
    DSs (bodyX P w K mg base ["_law_value_here", "_law_fault_here", "_law_told", "_law_k", "_law_cell"] "_law_levels_right" (defScope s__law_levels_right) f cdv A outer s H E1) (bodyW E1) (defBody s__law_levels_right) (t__law_levels_right K) :=
  dss_cons (ds_if (dt_notN (de_var 1)) (dss_one (ds_ret (de_eq hr.units (de_var 2) (de_tup (da_cons (de_str) (da_cons (de_var 1) (da_cons (de_bl) (da_cons (de_bl) (da_nil))))))))) (dss_nil))
  (dss_cons (ds_if (dt_w (dw_or (dt_ne hr.units (de_ix (de_var 2) (de_int)) (de_str)) (dw_or (dt_not (dt_val (de_isi .lst (f_isinstance E) (f_list E) (de_ix (de_var 2) (de_int))))) (dw_or1 (dt_eq hr.units (de_callB call_len cl_len (f_len E) (da_cons (de_ix (de_var 2) (de_int)) (da_nil))) (de_int)))))) (dss_one (ds_ret (de_bl))) (dss_nil))
  (dss_cons (ds_for hp rfl (di_range1 (f_range E) (da_cons (de_callB call_len cl_len (f_len E) (da_cons (de_ix (de_var 2) (de_int)) (da_nil))) (da_nil))) (dg_name 3 sc__law_levels_right.nd) (dss_cons (ds_if (dt_w (dw_or (dt_not (dt_val (de_call c__law_is_integer (hr.mono (by decide)) tk (da_cons (de_ix (de_ix (de_var 2) (de_int)) (de_var 3)) (da_nil))))) (dw_or1 (dt_ninS (de_ix (de_ix (de_var 2) (de_int)) (de_var 3)) (de_var 0))))) (dss_one (ds_ret (de_bl))) (dss_nil))
  (dss_one (ds_if (dt_w (dw_and (dt_gt (de_var 3) (de_int)) (dw_and1 (dt_le (de_ix (de_ix (de_var 2) (de_int)) (de_var 3)) (de_ix (de_ix (de_var 2) (de_int)) (de_sub (de_var 3) (de_int))))))) (dss_one (ds_ret (de_bl))) (dss_nil)))))
  (dss_cons (ds_for hp rfl (di_seq (de_var 0)) (dg_name 4 sc__law_levels_right.nd) (dss_one (ds_if (dt_ninS (de_var 4) (de_ix (de_var 2) (de_int))) (dss_one (ds_ret (de_bl))) (dss_nil))))
  (dss_one (ds_ret (de_bl))))))
theorem sc_law : FnScope ["_law_script", "_law_pool_here", "_law_value_here", "_law_numbers", "_law_number_here", "_law_fault_here", "_law_handed", "_law_told", "_law_first", "_law_again", "_law_k"] ["_law_script"] (defScope s_law) := ⟨rfl, rfl, rfl, by decide +kernel, rfl, by decide +kernel, by decide +kernel⟩
def t_law_s1 (K : Frag) : TSd := dAsg (dOp (rd2C CPow fun i j => .int (i ^ j.toNat)) (dC (.int 10)) (dC (.int 50))) (kIx (dVar 8) (dC (.int 0)))
def t_law_s2 (K : Frag) : TSd := dSeq (dDrop (dMt rdAppend (dVar 8) (dCons (dC (.int 5)) (dNil))))
  (t_law_s1 K)
def t_law_s3 (K : Frag) : TSd := dRet (dAndV (dOp rdEq (dCB rdLen (dCons (dVar 6) (dNil))) (dCB rdLen (dCons (dVar 2) (dNil)))) (dCN rdAllN (dLc (iA jR1 (dCons (dCB rdLen (dCons (dVar 2) (dNil))) (dNil))) (cName 10) (dYes) (dOp rdEq (dOp rdIx (dVar 6) (dVar 10)) (dOp rdIx (dVar 2) (dVar 10))) [10])))
def t_law_s4 (K : Frag) : TSd := dSeq (dIfS (dNot (dTest (dIsi (fun k => kt k .lst) (dVar 2)))) (dRet (dC (.bl true))) (dNext))
  (t_law_s3 K)
def t_law_s5 (K : Frag) : TSd := dSeq (dIfS (dNot (dTest (dCall (sp__law_levels_right K) [] (dCons (dVar 2) (dCons (dVar 5) (dCons (dVar 9) (dNil))))))) (dRet (dC (.bl false))) (dNext))
  (t_law_s4 K)
def t_law_s6 (K : Frag) : TSd := dSeq (dAsg (dCall (sp__law_told_levels K) [] (dCons (dVar 6) (dNil))) (kName 9))
  (t_law_s5 K)
def t_law_s7 (K : Frag) : TSd := dSeq (dIfS (dTest (dOp rdEq (dOp rdIx (dVar 7) (dC (.int 0))) (dC (.str "told")))) (dSeq (dAsg (dOp rdIx (dVar 7) (dC (.int 1))) (kName 8))
  (t_law_s2 K)) (dNext))
  (t_law_s6 K)
def t_law_s8 (K : Frag) : TSd := dSeq (dIfS (dNot (dTest (dCall (sp__law_levels_right K) [] (dCons (dVar 2) (dCons (dVar 5) (dCons (dVar 7) (dNil))))))) (dRet (dC (.bl false))) (dNext))
  (t_law_s7 K)
def t_law_s9 (K : Frag) : TSd := dSeq (dAsg (dCall (sp__law_told_levels K) [] (dCons (dVar 6) (dNil))) (kName 7))
  (t_law_s8 K)
def t_law_s10 (K : Frag) : TSd := dSeq (dIfS (dNot (dTest (dCall (sp__law_level_right K) [] (dCons (dVar 2) (dCons (dVar 5) (dCons (dVar 4) (dCons (dCall (sp__law_told_level K) [] (dCons (dVar 6) (dCons (dVar 4) (dNil)))) (dNil)))))))) (dRet (dC (.bl false))) (dNext))
  (t_law_s9 K)
def t_law_s11 (K : Frag) : TSd := dSeq (dIfS (dNot (dTest (dCall (sp__law_is_flag K) [] (dCons (dCall (sp_is_bits K) [] (dCons (dVar 6) (dNil))) (dCons (dIsN (dCall (sp__law_fault K) [] (dCons (dVar 2) (dCons (dC (.bl true)) (dNil))))) (dNil)))))) (dRet (dC (.bl false))) (dNext))
  (t_law_s10 K)
def t_law_s12 (K : Frag) : TSd := dSeq (dIfS (dNot (dTest (dCall (sp__law_is_flag K) [] (dCons (dCall (sp_is_row K) [] (dCons (dVar 6) (dNil))) (dCons (dIsN (dVar 5)) (dNil)))))) (dRet (dC (.bl false))) (dNext))
  (t_law_s11 K)
def t_law_s13 (K : Frag) : TSd := dSeq (dAsg (dIf (dTest (dIsi (fun k => kt k .lst) (dVar 2))) (dCB rdList (dCons (dVar 2) (dNil))) (dVar 2)) (kName 6))
  (t_law_s12 K)
def t_law_s14 (K : Frag) : TSd := dSeq (dAsg (dCall (sp__law_fault K) [] (dCons (dVar 2) (dCons (dC (.bl false)) (dNil)))) (kName 5))
  (t_law_s13 K)
def t_law_s15 (K : Frag) : TSd := dSeq (dAsg (dOp rdIx (dVar 3) (dCall (sp__law_draw K) [] (dCons (dVar 1) (dCons (dC (.int 6)) (dNil))))) (kName 4))
  (t_law_s14 K)
def t_law_s16 (K : Frag) : TSd := dSeq (dAsg (dTup (dCons (dCall (sp__law_number K) [] (dCons (dVar 1) (dNil))) (dCons (dC (.int 1)) (dCons (dC (.bl true)) (dCons (dC (.str "1")) (dCons (dC .non) (dCons (dOp (rd2 fun i j => .int (i - j)) (dC (.int 0)) (dCall (sp__law_draw K) [] (dCons (dVar 1) (dCons (dC (.int 9)) (dNil))))) (dNil)))))))) (kName 3))
  (t_law_s15 K)
def t_law_s17 (K : Frag) : TSd := dSeq (dAsg (dCall (sp__law_value K) [] (dCons (dVar 1) (dNil))) (kName 2))
  (t_law_s16 K)
def t_law (K : Frag) : TSd := dSeq (dAsg (dCall (sp__law_pool K) [] (dCons (dVar 0) (dNil))) (kName 1))
  (t_law_s17 K)
theorem der_law (E : FX K mg) (c__law_pool : Cal P w K mg base "_law_pool" 1 ["_law_script"] (sp__law_pool K)) (c__law_value : Cal P w K mg base "_law_value" 4 ["_law_pool_here"] (sp__law_value K)) (c__law_draw : Cal P w K mg base "_law_draw" 2 ["_law_pool_here", "_law_limit"] (sp__law_draw K)) (c__law_number : Cal P w K mg base "_law_number" 3 ["_law_pool_here"] (sp__law_number K)) (c__law_fault : Cal P w K mg base "_law_fault" 2 ["_law_value_here", "_law_bits"] (sp__law_fault K)) (c__law_is_flag : Cal P w K mg base "_law_is_flag" 1 ["_law_actual", "_law_due"] (sp__law_is_flag K)) (c_is_row : Cal P w K mg base "is_row" 2 ["value"] (sp_is_row K)) (c_is_bits : Cal P w K mg base "is_bits" 3 ["value"] (sp_is_bits K)) (c__law_level_right : Cal P w K mg base "_law_level_right" 2 ["_law_value_here", "_law_fault_here", "_law_number_here", "_law_told"] (sp__law_level_right K)) (c__law_told_level : Cal P w K mg base "_law_told_level" 5 ["_law_value_here", "_law_number_here"] (sp__law_told_level K)) (c__law_told_levels : Cal P w K mg base "_law_told_levels" 5 ["_law_value_here"] (sp__law_told_levels K)) (c__law_levels_right : Cal P w K mg base "_law_levels_right" 2 ["_law_value_here", "_law_fault_here", "_law_told"] (sp__law_levels_right K)) (f : Addr) (cdv : Value) (A : Around) (outer : List Env) (s : Shared) (H : Hp) (E1 : XK) (hr : Room 5 (A.deeper (envOfC "law" (defScope s_law) s.heap.objs.size f cdv)))
    (tk : Takes (bodyX P w K mg base ["_law_script", "_law_pool_here", "_law_value_here", "_law_numbers", "_law_number_here", "_law_fault_here", "_law_handed", "_law_told", "_law_first", "_law_again", "_law_k"] "law" (defScope s_law) f cdv A outer s H E1) (bodyW E1)) (hp : PassesOwn (model P w) (A.deeper (envOfC "law" (defScope s_law) s.heap.objs.size f cdv)) (envOfC "law" (defScope s_law) s.heap.objs.size f cdv) (bodyX P w K mg base ["_law_script", "_law_pool_here", "_law_value_here", "_law_numbers", "_law_number_here", "_law_fault_here", "_law_handed", "_law_told", "_law_first", "_law_again", "_law_k"] "law" (defScope s_law) f cdv A outer s H E1).xe) :
    DSs (bodyX P w K mg base ["_law_script", "_law_pool_here", "_law_value_here", "_law_numbers", "_law_number_here", "_law_fault_here", "_law_handed", "_law_told", "_law_first", "_law_again", "_law_k"] "law" (defScope s_law) f cdv A outer s H E1) (bodyW E1) (defBody s_law) (t_law K) :=
  dss_cons (ds_set 1 sc_law.nd (de_call c__law_pool (hr.mono (by decide)) tk (da_cons (de_var 0) (da_nil))))
  (dss_cons (ds_set 2 sc_law.nd (de_call c__law_value (hr.mono (by decide)) tk (da_cons (de_var 1) (da_nil))))
  (dss_cons (ds_set 3 sc_law.nd (de_tup (da_cons (de_call c__law_number (hr.mono (by decide)) tk (da_cons (de_var 1) (da_nil))) (da_cons (de_int) (da_cons (de_bl) (da_cons (de_str) (da_cons (de_non) (da_cons (de_sub (de_int) (de_call c__law_draw (hr.mono (by decide)) tk (da_cons (de_var 1) (da_cons (de_int) (da_nil))))) (da_nil)))))))))
  (dss_cons (ds_set 4 sc_law.nd (de_ix (de_var 3) (de_call c__law_draw (hr.mono (by decide)) tk (da_cons (de_var 1) (da_cons (de_int) (da_nil))))))
  (dss_cons (ds_set 5 sc_law.nd (de_call c__law_fault (hr.mono (by decide)) tk (da_cons (de_var 2) (da_cons (de_bl) (da_nil)))))
  (dss_cons (ds_set 6 sc_law.nd (de_if (dt_val (de_isi .lst (f_isinstance E) (f_list E) (de_var 2))) (de_callTy call_list_of cl_list (f_list E) (da_cons (de_var 2) (da_nil))) (de_var 2)))
  (dss_cons (ds_if (dt_not (dt_val (de_call c__law_is_flag (hr.mono (by decide)) tk (da_cons (de_call c_is_row (hr.mono (by decide)) tk (da_cons (de_var 6) (da_nil))) (da_cons (de_isN (de_var 5)) (da_nil)))))) (dss_one (ds_ret (de_bl))) (dss_nil))
  (dss_cons (ds_if (dt_not (dt_val (de_call c__law_is_flag (hr.mono (by decide)) tk (da_cons (de_call c_is_bits (hr.mono (by decide)) tk (da_cons (de_var 6) (da_nil))) (da_cons (de_isN (de_call c__law_fault (hr.mono (by decide)) tk (da_cons (de_var 2) (da_cons (de_bl) (da_nil))))) (da_nil)))))) (dss_one (ds_ret (de_bl))) (dss_nil))
  (dss_cons (ds_if (dt_not (dt_val (de_call c__law_level_right (hr.mono (by decide)) tk (da_cons (de_var 2) (da_cons (de_var 5) (da_cons (de_var 4) (da_cons (de_call c__law_told_level (hr.mono (by decide)) tk (da_cons (de_var 6) (da_cons (de_var 4) (da_nil)))) (da_nil)))))))) (dss_one (ds_ret (de_bl))) (dss_nil))
  (dss_cons (ds_set 7 sc_law.nd (de_call c__law_told_levels (hr.mono (by decide)) tk (da_cons (de_var 6) (da_nil))))
  (dss_cons (ds_if (dt_not (dt_val (de_call c__law_levels_right (hr.mono (by decide)) tk (da_cons (de_var 2) (da_cons (de_var 5) (da_cons (de_var 7) (da_nil))))))) (dss_one (ds_ret (de_bl))) (dss_nil))
  (dss_cons (ds_if (dt_eq hr.units (de_ix (de_var 7) (de_int)) (de_str)) (dss_cons (ds_set 8 sc_law.nd (de_ix (de_var 7) (de_int)))
  (dss_cons (ds_expr (de_append (de_var 8) (da_cons (de_int) (da_nil))))
  (dss_one (ds_asg (de_pow (de_int) (de_int)) (dg_ix (de_var 8) (de_int) (by intro v; rfl)))))) (dss_nil))
  (dss_cons (ds_set 9 sc_law.nd (de_call c__law_told_levels (hr.mono (by decide)) tk (da_cons (de_var 6) (da_nil))))
  (dss_cons (ds_if (dt_not (dt_val (de_call c__law_levels_right (hr.mono (by decide)) tk (da_cons (de_var 2) (da_cons (de_var 5) (da_cons (de_var 9) (da_nil))))))) (dss_one (ds_ret (de_bl))) (dss_nil))
  (dss_cons (ds_if (dt_not (dt_val (de_isi .lst (f_isinstance E) (f_list E) (de_var 2)))) (dss_one (ds_ret (de_bl))) (dss_nil))
  (dss_one (ds_ret (de_and (de_eq hr.units (de_callB call_len cl_len (f_len E) (da_cons (de_var 6) (da_nil))) (de_callB call_len cl_len (f_len E) (da_cons (de_var 2) (da_nil)))) (de_one (de_callBN (cr_all rfl) cn_all (f_all E) (dl_lc (own := [("_law_k", 10)]) rfl sc_law.nd (di_range1 (f_range E) (da_cons (de_callB call_len cl_len (f_len E) (da_cons (de_var 2) (da_nil))) (da_nil))) (blkOk_by (N := ["_law_script", "_law_pool_here", "_law_value_here", "_law_numbers", "_law_number_here", "_law_fault_here", "_law_handed", "_law_told", "_law_first", "_law_again", "_law_k"]) (sc := defScope s_law) (by decide +kernel)) (cg_name (i := 10)) (fun _ _ _ _ _ => pg_name sc_law.nd rfl (by first | exact .inl rfl | exact .inr rfl)) (fun _ _ _ _ _ => dts_nil) (fun _ _ _ _ _ => de_eq hr.units (de_ix (de_var 6) (de_var 10)) (de_ix (de_var 2) (de_var 10)))))))))))))))))))))))
end
end Lw

namespace Lw
open PySem PySem.Spec PyProof.Rows L2 DL
section
variable {K : Frag} {mg : Str → Option Value}
theorem cnd {a : Bool} {P Q : Prop} (h1 : a = true → P) (h2 : a = false → Q) : cond a P Q := by
  cases a
  · exact h2 rfl
  · exact h1 rfl
theorem len1 {ds : List D} {d : D} (e : ds = [d]) : ds.length = 1 := by rw [e]; rfl
theorem len2 {ds : List D} {d d2 : D} (e : ds = [d, d2]) : ds.length = 2 := by rw [e]; rfl
def isBl : D → Bool
  | .bl _ => true
  | _ => false
theorem hasC_lst {a : Addr} {g : Hd} {ds : List D} (h : g a = some (.lst ds)) : hasC (.ref a) g = hasL ds ∧ seqO (.ref a) g = some ds := by
  have e : seqO (.ref a) g = some ds := by
    show (match g a with
      | some (.lst ds) => some ds
      | _ => none) = some ds
    rw [h]
  refine ⟨?_, e⟩
  unfold hasC
  rw [e]
theorem hasC_no {a : Addr} {g : Hd} {o : DO} (h : g a = some o) (n : ∀ ds, o ≠ .lst ds) : hasC (.ref a) g = false ∧ seqO (.ref a) g = none := by
  have e : seqO (.ref a) g = none := by
    show (match g a with
      | some (.lst ds) => some ds
      | _ => none) = none
    rw [h]
    cases o with
    | lst ds => exact absurd rfl (n ds)
    | _ => rfl
  refine ⟨?_, e⟩
  unfold hasC
  rw [e]
theorem notF {b : Bool} (h : (!b) = false) : b = true := by cases b <;> first | rfl | cases h
theorem notT {b : Bool} (h : (!b) = true) : b = false := by cases b <;> first | rfl | cases h
/-- the kind of a value -/
theorem kd_all {d : D} {g : Hd} (h : KdOk d g) : ∃ k : Kd, (∀ Q : Kd → Prop, Q k → kdD d g Q) ∧ (kt k .int && !kt k .bl) = isI d ∧ (kt k .lst || kt k .tup) = (seqO d g).isSome ∧ kt k .bl = isBl d := by
  unfold KdOk kdD at h
  unfold kdD
  cases d with
  | ref a =>
    obtain ⟨o, hg, h⟩ := h
    cases o with
    | lst ds => exact ⟨.lst, fun Q q => ⟨_, hg, q⟩, rfl, (by rw [(hasC_lst hg).2]; rfl), rfl⟩
    | dK ds => exact ⟨.dct, fun Q q => ⟨_, hg, q⟩, rfl, (by rw [(hasC_no hg (fun _ z => by cases z)).2]; rfl), rfl⟩
    | dT ds => exact ⟨.dct, fun Q q => ⟨_, hg, q⟩, rfl, (by rw [(hasC_no hg (fun _ z => by cases z)).2]; rfl), rfl⟩
    | _ => exact h.elim
  | non => exact ⟨.non, fun Q q => q, rfl, rfl, rfl⟩
  | bl b => exact ⟨.bl, fun Q q => q, rfl, rfl, rfl⟩
  | int b => exact ⟨.int, fun Q q => q, rfl, rfl, rfl⟩
  | str b => exact ⟨.str, fun Q q => q, rfl, rfl, rfl⟩
  | tup b => exact ⟨.tup, fun Q q => q, rfl, rfl, rfl⟩
  | fl b => exact ⟨.lst, fun Q q => q, rfl, rfl, rfl⟩
  | _ => exact h.elim
theorem kd_k {d : D} {g : Hd} (h : KdOk d g) : ∃ k : Kd, (∀ Q : Kd → Prop, Q k → kdD d g Q) ∧ (kt k .lst || kt k .tup) = (seqO d g).isSome ∧ True := by
  obtain ⟨k, h1, _, h2, _⟩ := kd_all h
  exact ⟨k, h1, h2, True.intro⟩
theorem pure_is_integer : ∀ ds g q x, sp_is_integer K ds g q x → t_is_integer K (dnOf (sub q) (subE x)) (startD ["value"] ds) g := by
  intro ds g q x ⟨d, e, hk, hq⟩
  subst e
  obtain ⟨k, h1, h2, _, _⟩ := kd_all hk
  refine h1 _ ?_
  refine cnd (fun h => h1 _ (sub_same ?_)) (fun h => sub_same ?_)
  · have h : kt k .int = true := h
    rw [h] at h2
    show q (.bl (!kt k .bl)) g
    rw [show (!kt k .bl) = isI d from h2]
    exact hq
  · have h : kt k .int = false := h
    rw [h] at h2
    show q (.bl false) g
    rw [show false = isI d from h2]
    exact hq
theorem pure_is_bit : ∀ ds g q x, sp_is_bit K ds g q x → t_is_bit K (dnOf (sub q) (subE x)) (startD ["value"] ds) g := by
  intro ds g q x ⟨d, e, hk, hq⟩
  subst e
  refine Exists.intro d (And.intro rfl (And.intro hk ?_))
  cases d with
  | int i =>
    refine cnd (fun h => sub_same ?_) (fun h => sub_same ?_)
    · have e : bitD (.int i) = decide (i ≤ 1) := by
        show (decide (0 ≤ i) && decide (i ≤ 1)) = _
        rw [h]
        rfl
      show q (.bl (decide (i ≤ 1))) g
      rw [← e]
      exact hq
    · have e : bitD (.int i) = false := by
        show (decide (0 ≤ i) && decide (i ≤ 1)) = _
        rw [h]
        rfl
      rw [← e]
      exact hq
  | _ => exact sub_same hq
theorem and_of {a b : Bool} {P : Bool → Prop} (h : P (a && b)) : cond a (P b) (P false) := by
  cases a <;> exact h
/-- what a walk asks of the walked list -/
def OkP (o : Option (Addr × List D)) (g : Hd) : Prop := ∀ P : Prop, P → ckP o g P
theorem okP_none {g : Hd} : OkP none g := fun _ h => h
theorem okP_some {g : Hd} {a : Addr} {ds : List D} (h : g a = some (.lst ds)) : OkP (some (a, ds)) g := fun _ p => ⟨h, p⟩
/-- a walk over the items of a value -/
theorem jSq_of {d : D} {g : Hd} {q : List D → Option (Addr × List D) → Hd → Prop} {es : List D} (h : seqO d g = some es) (k : ∀ o, OkP o g → q es o g) : jSq d g q := by
  unfold jSq
  cases d with
  | tup ds =>
    cases (show some ds = some es from h)
    exact k _ okP_none
  | fl ds =>
    cases (show some ds = some es from h)
    exact k _ okP_none
  | ref a =>
    have h' : (match g a with
      | some (.lst ds) => some ds
      | _ => none) = some es := h
    cases hg : g a with
    | none =>
      rw [hg] at h'
      cases h'
    | some o =>
      rw [hg] at h'
      cases o with
      | lst ds =>
        cases h'
        exact ⟨es, hg, k _ (okP_some hg)⟩
      | _ => cases h'
  | _ => cases h
theorem jEn_of {d : D} {g : Hd} {q : List D → Option (Addr × List D) → Hd → Prop} {es : List D} (h : seqO d g = some es) (k : ∀ o, OkP o g → q (enD 0 es) o g) : jEn [d] g q := by
  unfold jEn
  cases d with
  | tup ds =>
    cases (show some ds = some es from h)
    exact k _ okP_none
  | fl ds =>
    cases (show some ds = some es from h)
    exact k _ okP_none
  | ref a =>
    have h' : (match g a with
      | some (.lst ds) => some ds
      | _ => none) = some es := h
    cases hg : g a with
    | none =>
      rw [hg] at h'
      cases h'
    | some o =>
      rw [hg] at h'
      cases o with
      | lst ds =>
        cases h'
        exact ⟨es, hg, k _ (okP_some hg)⟩
      | _ => cases h'
  | _ => cases h
theorem seqD_of {d : D} {g : Hd} {q : List D → Prop} {es : List D} (h : seqO d g = some es) (k : q es) : seqD d g q := by
  unfold seqD
  cases d with
  | tup ds =>
    cases (show some ds = some es from h)
    exact k
  | fl ds =>
    cases (show some ds = some es from h)
    exact k
  | ref a =>
    have h' : (match g a with
      | some (.lst ds) => some ds
      | _ => none) = some es := h
    cases hg : g a with
    | none =>
      rw [hg] at h'
      cases h'
    | some o =>
      rw [hg] at h'
      cases o with
      | lst ds =>
        cases h'
        exact ⟨es, hg, k⟩
      | _ => cases h'
  | _ => cases h
theorem lenD_of {d : D} {g : Hd} {q : Nat → Prop} {es : List D} (h : seqO d g = some es) (k : q es.length) : lenD d g q := by
  unfold lenD
  cases d with
  | tup ds =>
    cases (show some ds = some es from h)
    exact k
  | fl ds =>
    cases (show some ds = some es from h)
    exact k
  | ref a =>
    have h' : (match g a with
      | some (.lst ds) => some ds
      | _ => none) = some es := h
    cases hg : g a with
    | none =>
      rw [hg] at h'
      cases h'
    | some o =>
      rw [hg] at h'
      cases o with
      | lst ds =>
        cases h'
        exact ⟨es, hg, k⟩
      | _ => cases h'
  | _ => cases h
/-- d[i] -/
theorem rdIx_of {d : D} {g : Hd} {Q : Qd} {es : List D} {i : Nat} {y : D} (h : seqO d g = some es) (hi : es[i]? = some y) (k : Q y g) : rdIx d (.int (i : Nat)) g Q := by
  unfold rdIx
  have hlt : i < es.length := (List.getElem?_eq_some_iff.mp hi).1
  have ha : atI es (i : Int) = some y := by
    unfold atI ixN
    rw [if_pos (by omega), if_pos (by omega)]
    exact hi
  cases d with
  | tup ds =>
    cases (show some ds = some es from h)
    exact ⟨y, ha, k⟩
  | fl ds =>
    cases (show some ds = some es from h)
    exact ⟨y, ha, k⟩
  | ref a =>
    have h' : (match g a with
      | some (.lst ds) => some ds
      | _ => none) = some es := h
    cases hg : g a with
    | none =>
      rw [hg] at h'
      cases h'
    | some o =>
      rw [hg] at h'
      cases o with
      | lst ds =>
        cases h'
        exact ⟨es, y, hg, ha, k⟩
      | _ => cases h'
  | _ => cases h
theorem hasL_if {n : Nat} {P : Bool → Prop} (h : P (decide (1 ≤ (n : Int)) && decide ((n : Int) ≤ 200))) : cond (decide (1 ≤ (n : Int))) (P (decide ((n : Int) ≤ 200))) (P false) := and_of h
theorem pure_has_cells : ∀ ds g q x, sp_has_cells K ds g q x → t_has_cells K (dnOf (sub q) (subE x)) (startD ["value"] ds) g := by
  intro ds g q x ⟨d, e, hk, hq⟩
  subst e
  obtain ⟨k, h1, _, h2, _⟩ := kd_all hk
  refine h1 _ ?_
  refine cnd (fun h => ?_) (fun h => sub_same ?_)
  · have h : (kt k .lst || kt k .tup) = true := h
    rw [h] at h2
    cases e : seqO d g with
    | none =>
      rw [e] at h2
      cases h2
    | some es =>
      have hc : hasC d g = hasL es := by unfold hasC; rw [e]
      rw [hc] at hq
      unfold hasL at hq
      refine lenD_of e (cnd (fun h3 => sub_same ?_) (fun h3 => sub_same ?_))
      · have h3 : decide (1 ≤ (es.length : Int)) = true := h3
        rw [h3] at hq
        exact hq
      · have h3 : decide (1 ≤ (es.length : Int)) = false := h3
        rw [h3] at hq
        exact hq
  · have h : (kt k .lst || kt k .tup) = false := h
    rw [h] at h2
    have hc : hasC d g = false := by
      unfold hasC
      cases e : seqO d g with
      | none => rfl
      | some es =>
        rw [e] at h2
        cases h2
    rw [hc] at hq
    exact hq
end
end Lw

namespace Lw
open PySem PySem.Spec PyProof.Rows L2 DL
section
variable {K : Frag} {mg : Str → Option Value}
theorem lcD_map {gt : TCd} {te : TEd} {o : Option (Addr × List D)} {s0 : Sd} {g : Hd} (ok : OkP o g) (f : D → D) : ∀ (es : List D) (q : List D → Hd → Prop), (∀ e ∈ es, ∀ Q : Qd, Q (f e) g → gt e s0 fun s1 => te s1 g Q X0) → q (es.map f) g → lcD gt dYes te o s0 es g q
  | [], q, _, h => h
  | e :: es, q, st, h => st e List.mem_cons_self _ (ok _ (lcD_map ok f es (fun ys g4 => q (f e :: ys) g4) (fun y hy => st y (List.mem_cons_of_mem _ hy)) h))
section
theorem hasC_seq {d : D} {g : Hd} (h : hasC d g = true) : ∃ es, seqO d g = some es ∧ 1 ≤ es.length ∧ es.length ≤ 200 ∧ itsOf d g = es := by
  unfold hasC at h
  cases e : seqO d g with
  | none =>
    rw [e] at h
    cases h
  | some es =>
    rw [e] at h
    obtain ⟨h1, h2⟩ := Bool.and_eq_true_iff.mp (show (decide (1 ≤ (es.length : Int)) && decide ((es.length : Int) ≤ 200)) = true from h)
    have h1 := of_decide_eq_true h1
    have h2 := of_decide_eq_true h2
    exact ⟨es, rfl, by omega, by omega, by unfold itsOf; rw [e]; rfl⟩
theorem loop_checked {d : D} {g : Hd} {o : Option (Addr × List D)} (ok : OkP o g) {Dn' : Dn} : ∀ (es : List D) (n : Nat) (s1 s2 : Option D), (∀ e ∈ es, KdOk e g) →
    (∀ i : Nat, bad isI es n = some i → ∀ s, Dn'.ex (He.ga K "NoRow") [("index", .int i)] s g) → (bad isI es n = none → ∀ s1 s2, Dn'.nx [some d, s1, s2] g) →
    forD (kTup 2 (kCons (kName 1) (kCons (kName 2) kNil))) (dIfS (dNot (dTest (dCall (sp_is_integer K) [] (dCons (dVar 2) (dNil))))) (dRaise1 (He.ga K "NoRow") "index" (dCons (dVar 1) (dNil))) (dNext)) o Dn' (enD n es) [some d, s1, s2] g
  | [], n, s1, s2, _, _, h2 => h2 rfl _ _
  | e :: es, n, s1, s2, hk, h1, h2 => by
    refine And.intro rfl ?_
    refine Exists.intro e (And.intro rfl (And.intro (hk e List.mem_cons_self) ?_))
    refine cnd (fun h => ?_) (fun h => ?_)
    · have h' : isI e = false := by simpa using h
      exact h1 n (by show cond (isI e) (bad isI es (n + 1)) (some n) = some n; rw [h']; rfl) _
    · have h' : isI e = true := by simpa using h
      have eb : bad isI (e :: es) n = bad isI es (n + 1) := by
        show cond (isI e) (bad isI es (n + 1)) (some n) = _
        rw [h']
        rfl
      rw [eb] at h1 h2
      exact ok _ (loop_checked ok es (n + 1) _ _ (fun y hy => hk y (List.mem_cons_of_mem _ hy)) h1 h2)
theorem fltO_no {p : D → Bool} {d : D} {g : Hd} (h : hasC d g = false) : fltO p d g = some (-1) := by
  unfold fltO
  rw [h]
  rfl
theorem fltO_yes {p : D → Bool} {d : D} {g : Hd} {es : List D} (h : hasC d g = true) (e : itsOf d g = es) : fltO p d g = (bad p es 0).map fun (n : Nat) => (n : Int) := by
  unfold fltO
  rw [h, e]
  rfl
theorem pure_checked_row : ∀ ds g q x, sp_checked_row K ds g q x → t_checked_row K (dnOf (sub q) (subE x)) (startD ["value", "index", "cell"] ds) g := by
  intro ds g q x ⟨d, e, hv, hx, hq⟩
  subst e
  refine Exists.intro d (And.intro rfl (And.intro hv.1 ?_))
  refine cnd (fun h => ?_) (fun h => ?_)
  · have h' : hasC d g = false := by simpa using h
    exact subE_same (hx (-1) (fltO_no h'))
  · have h' : hasC d g = true := by simpa using h
    obtain ⟨es, h1, h2, h3, h4⟩ := hasC_seq h'
    rw [fltO_yes h' h4] at hx hq
    refine jEn_of h1 (fun o ok => ?_)
    refine ok _ (loop_checked ok es 0 none none (hv.2 es h1) (fun i hb s => subE_same (hx i (by rw [hb]; rfl))) (fun hb s1 s2 => ?_))
    have hq := hq (by rw [hb]; rfl)
    rw [h4] at hq
    exact seqD_of h1 (sub_same hq)
theorem bad_all {p : D → Bool} : ∀ (es : List D) (n : Nat), (es.map p).all id = (bad p es n).isNone
  | [], n => rfl
  | e :: es, n => by
    show (p e && (es.map p).all id) = (cond (p e) (bad p es (n + 1)) (some n)).isNone
    rw [bad_all es (n + 1)]
    cases p e <;> rfl
theorem sz200 {n : Nat} (h : n ≤ 200) : n ≤ sizeLine := Nat.le_trans h (by decide)
theorem map_map_bl {p : D → Bool} (es : List D) : es.map (fun e => D.bl (p e)) = (es.map p).map D.bl := by rw [List.map_map]; rfl
theorem pure_is_row : ∀ ds g q x, sp_is_row K ds g q x → t_is_row K (dnOf (sub q) (subE x)) (startD ["value", "cell"] ds) g := by
  intro ds g q x ⟨d, e, hv, hq⟩
  subst e
  refine Exists.intro d (And.intro rfl (And.intro hv.1 ?_))
  refine cnd (fun h => ?_) (fun h => ?_)
  · have h' : hasC d g = false := by simpa using h
    rw [fltO_no h'] at hq
    exact sub_same hq
  · have h' : hasC d g = true := by simpa using h
    obtain ⟨es, h1, h2, h3, h4⟩ := hasC_seq h'
    rw [fltO_yes h' h4] at hq
    refine jSq_of h1 (fun o ok => ?_)
    refine And.intro (sz200 h3) (ok _ (lcD_map ok (fun e => .bl (isI e)) es _ (fun e he Q hQ => ?_) ?_))
    · exact Exists.intro e (And.intro rfl (And.intro (hv.2 es h1 e he) hQ))
    · refine ⟨es.map isI, map_map_bl es, ?_⟩
      rw [bad_all es 0]
      rw [Option.isNone_map] at hq
      exact sub_same hq
theorem pure_is_bits : ∀ ds g q x, sp_is_bits K ds g q x → t_is_bits K (dnOf (sub q) (subE x)) (startD ["value", "cell"] ds) g := by
  intro ds g q x ⟨d, e, hv, hq⟩
  subst e
  refine Exists.intro d (And.intro rfl (And.intro hv.1 ?_))
  refine cnd (fun h => ?_) (fun h => ?_)
  · have h' : hasC d g = false := by simpa using h
    rw [fltO_no h'] at hq
    exact sub_same hq
  · have h' : hasC d g = true := by simpa using h
    obtain ⟨es, h1, h2, h3, h4⟩ := hasC_seq h'
    rw [fltO_yes h' h4] at hq
    refine jSq_of h1 (fun o ok => ?_)
    refine And.intro (sz200 h3) (ok _ (lcD_map ok (fun e => .bl (bitD e)) es _ (fun e he Q hQ => ?_) ?_))
    · exact Exists.intro e (And.intro rfl (And.intro (hv.2 es h1 e he) hQ))
    · refine ⟨es.map bitD, map_map_bl es, ?_⟩
      rw [bad_all es 0]
      rw [Option.isNone_map] at hq
      exact sub_same hq
theorem bad_ints : ∀ (es : List D) (n : Nat), bad isI es n = none → es = (intsOf es).map D.int
  | [], _, _ => rfl
  | e :: es, n, h => by
    have h' : cond (isI e) (bad isI es (n + 1)) (some n) = none := h
    cases e with
    | int i =>
      have h2 : bad isI es (n + 1) = none := h'
      show D.int i :: es = D.int i :: (intsOf es).map D.int
      rw [← bad_ints es (n + 1) h2]
    | _ => cases h'
theorem flt_none {d : D} {g : Hd} (h : fltO isI d g = none) : hasC d g = true ∧ ∃ is : List Int, itsOf d g = is.map D.int ∧ intsOf (itsOf d g) = is ∧ 1 ≤ is.length ∧ is.length ≤ 200 ∧ seqO d g = some (is.map D.int) := by
  cases hc : hasC d g with
  | false =>
    rw [fltO_no hc] at h
    cases h
  | true =>
    obtain ⟨es, h1, h2, h3, h4⟩ := hasC_seq hc
    rw [fltO_yes hc h4] at h
    have hb : bad isI es 0 = none := by
      cases q : bad isI es 0 with
      | none => rfl
      | some n =>
        rw [q] at h
        cases h
    have e := bad_ints es 0 hb
    refine ⟨rfl, intsOf es, by rw [h4]; exact e, by rw [h4], ?_, ?_, by rw [← e]; exact h1⟩
    · have := congrArg List.length e
      rw [List.length_map] at this
      omega
    · have := congrArg List.length e
      rw [List.length_map] at this
      omega
theorem pure_level : ∀ ds g q x, sp_level K ds g q x → t_level K (dnOf (sub q) (subE x)) (startD ["row", "value", "cells", "cell"] ds) g := by
  intro ds g q x ⟨d, v, e, hv, hk, hx, hq⟩
  subst e
  refine Exists.intro d (And.intro rfl (And.intro hv (And.intro (fun i hi => subE_same (hx i hi)) fun hn => ?_)))
  obtain ⟨hN, hI⟩ := hq hn
  obtain ⟨hc, is, e1, e2, l1, l2, _⟩ := flt_none hn
  refine Exists.intro v (And.intro rfl (And.intro hk ?_))
  refine cnd (fun h => ?_) (fun h => ?_)
  · have h' : isI v = false := by simpa using h
    exact subE_same (hN h')
  · have h' : isI v = true := by simpa using h
    cases v with
    | int i =>
      have hq := hI i rfl
      rw [e2] at hq
      rw [e1]
      refine jSq_of (es := is.map D.int) rfl (fun o ok => ?_)
      refine And.intro (sz200 (by rw [List.length_map]; exact l2)) (ok _ ?_)
      refine lcD_map ok (fun e => match e with | .int c => .int (if i ≤ c then 1 else 0) | _ => .non) _ _ (fun e he Q hQ => ?_) ?_
      · obtain ⟨c, _, ec⟩ := List.mem_map.mp he
        subst ec
        have z : (if decide (i ≤ c) = true then (1 : Int) else 0) = if i ≤ c then 1 else 0 := by simp
        show Q (.int (if decide (i ≤ c) = true then 1 else 0)) g
        rw [z]
        exact hQ
      · rw [List.map_map]
        exact sub_same hq
    | _ => cases h'
theorem pure_levels : ∀ ds g q x, sp_levels K ds g q x → t_levels K (dnOf (sub q) (subE x)) (startD ["row", "cell"] ds) g := by
  intro ds g q x ⟨d, us, e, hv, hu, hus, hx, hq⟩
  subst e
  refine Exists.intro d (And.intro rfl (And.intro hv (And.intro (fun i hi => subE_same (hx i hi)) fun hn => ?_)))
  have hq := hq hn
  obtain ⟨hc, is, e1, e2, l1, l2, _⟩ := flt_none hn
  rw [e2] at hq hus
  rw [e1]
  refine jSq_of (es := is.map D.int) rfl (fun o ok => ?_)
  refine And.intro (show (is.map D.int).length + 1 < 4096 by rw [List.length_map]; omega) (ok _ ?_)
  refine lcD_map ok (fun e => e) _ _ (fun e he Q hQ => ?_) ?_
  · obtain ⟨c, _, ec⟩ := List.mem_map.mp he
    subst ec
    exact hQ
  · rw [List.map_id']
    intro ms nd mm
    have hsub : ∀ k ∈ ms, k ∈ us := fun k hk => by
      have z := (mm k).mp hk
      obtain ⟨c, hc, ec⟩ := List.mem_map.mp z
      cases ec
      exact hus k hc
    refine And.intro (Nat.lt_of_le_of_lt (List.Nodup.length_le_of_subset nd hsub) hu) (fun rs pw mr p hp => sub_same (hq rs pw (fun k => ?_) p hp))
    rw [mr k, mm k]
    simp
end
end
end Lw

namespace Lw
open PySem PySem.Spec PyProof.Rows L2 DL
section
variable {K : Frag} {mg : Str → Option Value}
theorem cmR {i j : Int} (h1 : -1000000000000000000 < j) (h2 : j < 1000000000000000000) : CMul i j := Or.inr ⟨by omega, by omega⟩
theorem cmL {i j : Int} (h1 : -1000000000000000000 < i) (h2 : i < 1000000000000000000) : CMul i j := Or.inl ⟨by omega, by omega⟩
theorem cdW {i j : Int} (h : 0 < j) (h2 : j < 10 ^ 50) : CDivW i j := by
  refine ⟨h, ?_⟩
  have e : j.natAbs < 2 ^ 200 := by
    have : (10 : Int) ^ 50 < 2 ^ 200 := by decide
    omega
  have := (Nat.log2_lt (by omega)).mpr e
  omega
theorem updD_none {g : Hd} {a b : Addr} {o : DO} (h : updD g a o b = none) : b ≠ a ∧ g b = none := by
  by_cases z : b = a
  · rw [z, updD_same] at h
    cases h
  · rw [updD_ne z] at h
    exact ⟨z, h⟩
theorem pure__law_mix : ∀ ds g q x, sp__law_mix K ds g q x → t__law_mix K (dnOf (sub q) (subE x)) (startD ["_law_number_here", "_law_k"] ds) g := by
  intro ds g q x ⟨n, k, e, hq⟩
  subst e
  refine And.intro (cmL (by decide) (by decide)) (And.intro (cmR (by decide) (by decide)) (And.intro (show (0 : Int) < 2147483647 by decide) ?_))
  refine And.intro (cdW (by decide) (by decide)) (And.intro (cmL (by omega) (by omega)) (And.intro (show (0 : Int) < 2147483647 by decide) ?_))
  exact And.intro (cdW (by decide) (by decide)) (And.intro (cmL (by omega) (by omega)) (And.intro (show (0 : Int) < 2147483399 by decide) (sub_same (hq _))))
theorem pure__law_pool : ∀ ds g q x, sp__law_pool K ds g q x → t__law_pool K (dnOf (sub q) (subE x)) (startD ["_law_script", "_law_cell"] ds) g := by
  intro ds g q x ⟨ns, e, hl, hq⟩
  subst e
  have hc : cutL (ns.map D.int) none (some 63) = ns.map D.int := by
    unfold cutL
    have h0 : HT.sIx (ns.map D.int).length 0 none = 0 := rfl
    have h1 : HT.sIx (ns.map D.int).length (ns.map D.int).length (some 63) = ns.length := by
      rw [List.length_map]
      unfold HT.sIx
      simp
      omega
    rw [h0, h1, List.drop_zero, Nat.sub_zero, List.take_of_length_le (by rw [List.length_map]; exact Nat.le_refl _)]
  intro p hp
  rw [hc]
  refine Exists.intro _ (And.intro updD_same ?_)
  refine And.intro (Nat.le_trans (show (ns.map D.int).length ≤ 200 by rw [List.length_map]; omega) (by decide)) ?_
  refine okP_some updD_same _ (lcD_map (okP_some updD_same) (fun e => e) _ _ (fun e he Q hQ => ?_) ?_)
  · obtain ⟨c, _, ec⟩ := List.mem_map.mp he
    subst ec
    exact hQ
  · rw [List.map_id']
    intro p1 hp1
    refine And.intro (show 4 ≤ sizeLine by decide) ?_
    intro p2 hp2
    obtain ⟨n1, g1⟩ := updD_none hp1
    obtain ⟨n2, g2⟩ := updD_none hp2
    obtain ⟨n3, g3⟩ := updD_none g2
    exact ⟨_, SubH.both (SubH.both (SubH.new hp)), hq p1 p2 g1 g3 n2⟩
end
end Lw

namespace Lw
open PySem PySem.Spec PyProof.Rows L2 DL
section
variable {K : Frag} {mg : Str → Option Value}
theorem seqO_ref {a : Addr} {g : Hd} {ds : List D} (h : g a = some (.lst ds)) : seqO (.ref a) g = some ds := (hasC_lst h).2
/-- d[i] of a tracked list, i written -/
theorem rdIx_l {a : Addr} {g : Hd} {ds : List D} {i : Int} {y : D} {Q : Qd} (h : g a = some (.lst ds)) (hi : atI ds i = some y) (k : Q y g) : rdIx (.ref a) (.int i) g Q := by
  unfold rdIx
  exact ⟨ds, y, h, hi, k⟩
theorem rdIx_t {g : Hd} {ds : List D} {i : Int} {y : D} {Q : Qd} (hi : atI ds i = some y) (k : Q y g) : rdIx (.tup ds) (.int i) g Q := by
  unfold rdIx
  exact ⟨y, hi, k⟩
theorem atI_nat {ds : List D} {i : Int} {y : D} (h0 : 0 ≤ i) (h : ds[i.toNat]? = some y) : atI ds i = some y := by
  have hlt := (List.getElem?_eq_some_iff.mp h).1
  unfold atI ixN
  rw [if_pos h0, if_pos (by omega)]
  exact h
theorem atI_ints {ns : List Int} {i : Int} (h0 : 0 ≤ i) (h : i < ns.length) : ∃ z, atI (ns.map D.int) i = some (.int z) ∧ z ∈ ns := by
  have hlt : i.toNat < ns.length := by omega
  exact ⟨ns[i.toNat], atI_nat h0 (by simp [hlt]), List.getElem_mem hlt⟩
theorem cpow (n : Int) (h : 0 ≤ n) (h2 : n ≤ 1000000) : CPow 10 n := ⟨h, h2, by decide⟩
theorem draw_rest {g : Hd} {p p1 : Addr} {ns : List Int} {l : Int} {q : Qd} {x : Ed} (hl : 0 < l) (hl2 : l < 10 ^ 50) (hc : g p1 = some (.lst (ns.map D.int))) (ne : p ≠ p1)
    (hq : ∀ r a' b' c', 0 ≤ r → r < l → 0 ≤ a' → 0 ≤ b' → 0 ≤ c' → q (.int r) (updD g p (pl p1 a' b' c'))) (a b c : Int) (ha : 0 ≤ a) (hb : 0 ≤ b) (hc0 : 0 ≤ c) (s3 s4 : Option D) :
    t__law_draw_s7 K (dnOf (sub q) (subE x)) [some (.ref p), some (.int l), some (.ref p1), s3, s4] (updD g p (pl p1 a b c)) := by
  have hp : updD g p (pl p1 a b c) p = some (pl p1 a b c) := updD_same
  have hp1 : updD g p (pl p1 a b c) p1 = some (.lst (ns.map D.int)) := by rw [updD_ne (Ne.symm ne)]; exact hc
  refine rdIx_l hp rfl ?_
  refine cnd (fun h => ?_) (fun h => ?_)
  · refine rdIx_l hp rfl (And.intro hl (rdIx_l hp rfl (And.intro (cdW hl hl2) (Exists.intro _ (Exists.intro 2 (And.intro hp (And.intro rfl (sub_same ?_))))))))
    rw [updD_updD]
    exact hq (b % l) a (b / l) c (Int.emod_nonneg _ (by omega)) (Int.emod_lt_of_pos _ hl) ha (Int.ediv_nonneg hb (by omega)) hc0
  · refine lenD_of (seqO_ref hp1) ?_
    refine cnd (fun h2 => ?_) (fun h2 => ?_)
    · refine rdIx_l hp rfl (Exists.intro _ (Exists.intro _ (And.intro rfl (fun r => And.intro hl (sub_same ?_)))))
      exact hq (r % l) a b c (Int.emod_nonneg _ (by omega)) (Int.emod_lt_of_pos _ hl) ha hb hc0
    · have hn : (ns.map D.int).length ≠ 0 := fun z => by
        have h2' : decide ((((ns.map D.int).length : Nat) : Int) = 0) = false := h2
        rw [z] at h2'
        cases h2'
      have hpos : (0 : Int) < ((ns.map D.int).length : Nat) := by omega
      refine rdIx_l hp rfl (lenD_of (seqO_ref hp1) (And.intro hpos ?_))
      obtain ⟨z, hz, _⟩ := atI_ints (ns := ns) (i := c % ((ns.map D.int).length : Nat)) (Int.emod_nonneg _ (by omega)) (by
        have := Int.emod_lt_of_pos c hpos
        rw [List.length_map] at this ⊢
        exact this)
      refine rdIx_l hp1 hz (rdIx_l hp rfl (Exists.intro _ (Exists.intro _ (And.intro rfl (fun r => And.intro hl (sub_same ?_))))))
      exact hq (r % l) a b c (Int.emod_nonneg _ (by omega)) (Int.emod_lt_of_pos _ hl) ha hb hc0
theorem pure__law_draw : ∀ ds g q x, sp__law_draw K ds g q x → t__law_draw K (dnOf (sub q) (subE x)) (startD ["_law_pool_here", "_law_limit", "_law_cells", "_law_cell", "_law_digit"] ds) g := by
  intro ds g q x hsp
  unfold sp__law_draw at hsp
  obtain ⟨p, p1, ns, a, b, c, l, e, hl, hl2, P, hq⟩ := hsp
  subst e
  have ha := P.a0
  have hb := P.b0
  have hc := P.c0
  refine rdIx_l P.at_ rfl (Exists.intro _ (Exists.intro 3 (And.intro P.at_ (And.intro rfl ?_))))
  have hp : updD g p (pl p1 a b (c + 1)) p = some (pl p1 a b (c + 1)) := updD_same
  have hp1 : updD g p (pl p1 a b (c + 1)) p1 = some (.lst (ns.map D.int)) := by rw [updD_ne (Ne.symm P.ne)]; exact P.cells
  refine rdIx_l hp rfl (rdIx_l hp rfl ?_)
  refine cnd (fun h => ?_) (fun h => ?_)
  · refine rdIx_l hp rfl (lenD_of (seqO_ref hp1) ?_)
    refine cnd (fun h2 => ?_) (fun h2 => ?_)
    · have h2 := of_decide_eq_true h2
      rw [List.length_map] at h2
      obtain ⟨z, hz, _⟩ := atI_ints (ns := ns) (i := a) ha h2
      refine rdIx_l hp rfl (rdIx_l hp1 hz (rdIx_l hp rfl (Exists.intro _ (Exists.intro 1 (And.intro hp (And.intro rfl ?_))))))
      have hp' : updD (updD g p (pl p1 a b (c + 1))) p (pl p1 (a + 1) b (c + 1)) p = some (pl p1 (a + 1) b (c + 1)) := updD_same
      refine And.intro (cpow 18 (by decide) (by decide)) ?_
      refine cnd (fun h3 => ?_) (fun h3 => ?_)
      · refine rdIx_l hp' rfl (Exists.intro _ (Exists.intro _ (And.intro rfl (fun r => And.intro hl (sub_same ?_)))))
        rw [updD_updD]
        exact hq (r % l) _ _ _ (Int.emod_nonneg _ (by omega)) (Int.emod_lt_of_pos _ hl) (by omega) hb (by omega)
      · refine And.intro (cmL (by decide) (by decide)) (Exists.intro _ (Exists.intro 2 (And.intro hp' (And.intro rfl ?_))))
        rw [updD_updD, updD_updD]
        exact draw_rest hl hl2 P.cells P.ne hq _ _ _ (by omega) (by split <;> split <;> omega) (by omega) _ _
    · exact draw_rest hl hl2 P.cells P.ne hq _ _ _ ha hb (by omega) _ _
  · exact draw_rest hl hl2 P.cells P.ne hq _ _ _ ha hb (by omega) _ _
theorem updD_pool {g : Hd} {p p1 : Addr} {ns : List Int} {a b c a' b' c' : Int} (P : Pool g p p1 ns a b c) (ha : 0 ≤ a') (hb : 0 ≤ b') (hc : 0 ≤ c') : Pool (updD g p (pl p1 a' b' c')) p p1 ns a' b' c' :=
  ⟨updD_same, by rw [updD_ne (Ne.symm P.ne)]; exact P.cells, P.ne, ha, hb, hc⟩
/-- a draw: the call's premise -/
theorem draw_of {g : Hd} {p p1 : Addr} {ns : List Int} {a b c : Int} {q : Qd} {x : Ed} (P : Pool g p p1 ns a b c) {l : Int} (hl : 0 < l) (hl2 : l < 10 ^ 50) (h : ∀ r a' b' c', 0 ≤ r → r < l → Pool (updD g p (pl p1 a' b' c')) p p1 ns a' b' c' → q (.int r) (updD g p (pl p1 a' b' c'))) : sp__law_draw K [.ref p, .int l] g q x := by
  unfold sp__law_draw
  exact ⟨p, p1, ns, a, b, c, l, rfl, hl, hl2, P, fun r a' b' c' h0 h1 ha hb hc => h r a' b' c' h0 h1 (updD_pool P ha hb hc)⟩
theorem pure__law_number : ∀ ds g q x, sp__law_number K ds g q x → t__law_number K (dnOf (sub q) (subE x)) (startD ["_law_pool_here", "_law_kind"] ds) g := by
  intro ds g q x hsp
  unfold sp__law_number at hsp
  obtain ⟨p, p1, ns, a, b, c, e, P, hq⟩ := hsp
  subst e
  refine draw_of P (by decide) (by decide) (fun k a1 b1 c1 _ _ P1 => ?_)
  have fin : ∀ (f : Int → Int) r a' b' c', Pool (updD (updD g p (pl p1 a1 b1 c1)) p (pl p1 a' b' c')) p p1 ns a' b' c' → q (.int (f r)) (updD (updD g p (pl p1 a1 b1 c1)) p (pl p1 a' b' c')) := fun f r a' b' c' P2 => by
    rw [updD_updD]
    exact hq _ _ _ _ P2.a0 P2.b0 P2.c0
  refine cnd (fun h => ?_) (fun h => ?_)
  · refine And.intro (cpow 40 (by decide) (by decide)) (And.intro (cmL (by decide) (by decide)) (draw_of P1 (by decide) (by decide) (fun r a' b' c' h0 h1 P2 => And.intro (cpow 40 (by decide) (by decide)) (sub_same (fin (fun r => r - 10 ^ 40) r a' b' c' P2)))))
  · refine cnd (fun h => ?_) (fun h => ?_)
    · refine And.intro (cpow 60 (by decide) (by decide)) (draw_of P1 (by decide) (by decide) (fun r a' b' c' h0 h1 P2 => sub_same (fin (fun r => 10 ^ 60 + r) r a' b' c' P2)))
    · refine cnd (fun h => ?_) (fun h => ?_)
      · exact draw_of P1 (by decide) (by decide) (fun r a' b' c' h0 h1 P2 => sub_same (fin (fun r => 0 - r) r a' b' c' P2))
      · exact draw_of P1 (by decide) (by decide) (fun r a' b' c' h0 h1 P2 => sub_same (fin (fun r => r) r a' b' c' P2))
end
end Lw

namespace Lw
open PySem PySem.Spec PyProof.Rows L2 DL
section
variable {K : Frag} {mg : Str → Option Value}
theorem updD_comm {g : Hd} {a b : Addr} {x y : DO} (h : a ≠ b) : updD (updD g a x) b y = updD (updD g b y) a x := by
  funext c
  by_cases h1 : c = b
  · subst h1
    rw [updD_same, updD_ne (Ne.symm h), updD_same]
  · rw [updD_ne h1]
    by_cases h2 : c = a
    · subst h2
      rw [updD_same, updD_same]
    · rw [updD_ne h2, updD_ne h2, updD_ne h1]
theorem upI_mem : ∀ {lo : Int} {n : Nat} {e : D}, e ∈ upI lo n → ∃ i, e = .int i ∧ lo ≤ i ∧ i < lo + n
  | lo, 0, e, h => by cases h
  | lo, n + 1, e, h => by
    rcases List.mem_cons.mp h with h | h
    · exact ⟨lo, h, by omega, by omega⟩
    · obtain ⟨i, h1, h2, h3⟩ := upI_mem h
      exact ⟨i, h1, by omega, by omega⟩
theorem lcD_ex {gt : TCd} {te : TEd} {o : Option (Addr × List D)} {s0 : Sd} {g : Hd} {P : D → Prop} (ok : OkP o g) : ∀ (es : List D) (q : List D → Hd → Prop), (∀ e ∈ es, ∃ y, P y ∧ ∀ Q : Qd, Q y g → gt e s0 fun s1 => te s1 g Q X0) →
    (∀ ys, ys.length = es.length → (∀ y ∈ ys, P y) → q ys g) → lcD gt dYes te o s0 es g q
  | [], q, _, h => h [] rfl (fun _ z => by cases z)
  | e :: es, q, st, h => by
    obtain ⟨y, py, k⟩ := st e List.mem_cons_self
    refine k _ (ok _ (lcD_ex ok es (fun ys g4 => q (y :: ys) g4) (fun z hz => st z (List.mem_cons_of_mem _ hz)) (fun ys hl hy => ?_)))
    exact h (y :: ys) (by rw [List.length_cons, List.length_cons, hl]) (fun z hz => (List.mem_cons.mp hz).elim (fun e => by rw [e]; exact py) (hy z))
theorem number_of {g : Hd} {p p1 : Addr} {ns : List Int} {a b c : Int} {q : Qd} {x : Ed} (P : Pool g p p1 ns a b c) (h : ∀ r a' b' c', Pool (updD g p (pl p1 a' b' c')) p p1 ns a' b' c' → q (.int r) (updD g p (pl p1 a' b' c'))) : sp__law_number K [.ref p] g q x := by
  unfold sp__law_number
  exact ⟨p, p1, ns, a, b, c, rfl, P, fun r a' b' c' ha hb hc => h r a' b' c' (updD_pool P ha hb hc)⟩
theorem start_loop {g : Hd} {p p1 : Addr} {ns : List Int} {bits : Int} {s1 s2 s3 s6 s7 s8 s9 s10 : Option D} : ∀ (es : List D) (a b c : Int) (q : List D → Hd → Prop), Pool (updD g p (pl p1 a b c)) p p1 ns a b c →
    (∀ (us : List Int) a' b' c', us.length = es.length → Pool (updD g p (pl p1 a' b' c')) p p1 ns a' b' c' → q (us.map D.int) (updD g p (pl p1 a' b' c'))) →
    lcD (cName 5) dYes (dIf (dTru (dVar 4)) (dCall (sp__law_draw K) [] (dCons (dVar 0) (dCons (dC (.int 2)) (dNil)))) (dCall (sp__law_number K) [] (dCons (dVar 0) (dNil)))) none [some (.ref p), s1, s2, s3, some (.int bits), none, s6, s7, s8, s9, s10] es (updD g p (pl p1 a b c)) q
  | [], a, b, c, q, P, h => h [] a b c rfl P
  | e :: es, a, b, c, q, P, h => by
    have go : ∀ r a' b' c', Pool (updD (updD g p (pl p1 a b c)) p (pl p1 a' b' c')) p p1 ns a' b' c' → lcD (cName 5) dYes (dIf (dTru (dVar 4)) (dCall (sp__law_draw K) [] (dCons (dVar 0) (dCons (dC (.int 2)) (dNil)))) (dCall (sp__law_number K) [] (dCons (dVar 0) (dNil)))) none [some (.ref p), s1, s2, s3, some (.int bits), none, s6, s7, s8, s9, s10] es (updD (updD g p (pl p1 a b c)) p (pl p1 a' b' c')) (fun ys g4 => q (D.int r :: ys) g4) := fun r a' b' c' P' => by
      rw [updD_updD] at P' ⊢
      exact start_loop es a' b' c' _ P' (fun us a2 b2 c2 hl P2 => h (r :: us) a2 b2 c2 (by rw [List.length_cons, List.length_cons, hl]) P2)
    refine cnd (fun hb => ?_) (fun hb => ?_)
    · exact draw_of P (by decide) (by decide) (fun r a' b' c' _ _ P' => go r a' b' c' P')
    · exact number_of P (fun r a' b' c' P' => go r a' b' c' P')
/-- the heap of the spoiling loop -/
def Hs (G0 : Hd) (p p1 r2 : Addr) (row : List D) (a b c : Int) : Hd := updD (updD G0 p (pl p1 a b c)) r2 (.lst row)
theorem hs_pool {G0 : Hd} {p p1 r2 : Addr} {row : List D} {a b c a' b' c' : Int} (h : r2 ≠ p) : updD (Hs G0 p p1 r2 row a b c) p (pl p1 a' b' c') = Hs G0 p p1 r2 row a' b' c' := by
  unfold Hs
  rw [updD_comm h, updD_updD]
theorem hs_row {G0 : Hd} {p p1 r2 : Addr} {row row' : List D} {a b c : Int} : updD (Hs G0 p p1 r2 row a b c) r2 (.lst row') = Hs G0 p p1 r2 row' a b c := by
  unfold Hs
  rw [updD_updD]
theorem hs_P {G0 : Hd} {p p1 r2 : Addr} {ns : List Int} {row : List D} {a b c : Int} (h1 : r2 ≠ p) (h2 : r2 ≠ p1) (hc : G0 p1 = some (.lst (ns.map D.int))) (ne : p ≠ p1) (ha : 0 ≤ a) (hb : 0 ≤ b) (hc0 : 0 ≤ c) : Pool (Hs G0 p p1 r2 row a b c) p p1 ns a b c :=
  ⟨by unfold Hs; rw [updD_ne (Ne.symm h1), updD_same], by unfold Hs; rw [updD_ne (Ne.symm h2), updD_ne (Ne.symm ne)]; exact hc, ne, ha, hb, hc0⟩
def spoils (q1 : Addr) : List D := [.bl true, .bl false, .str "1", .non, .tup [.int 0], .ref q1, .str ""]
theorem spoils_at {q1 : Addr} {us : List Int} {r : Int} (h0 : 0 ≤ r) (h1 : r < 7) : ∃ y, atI (spoils q1) r = some y ∧ Itm q1 us y := by
  have h : r = 0 ∨ r = 1 ∨ r = 2 ∨ r = 3 ∨ r = 4 ∨ r = 5 ∨ r = 6 := by omega
  rcases h with h | h | h | h | h | h | h <;> subst h
  · exact ⟨_, rfl, .inl rfl⟩
  · exact ⟨_, rfl, .inr (.inl rfl)⟩
  · exact ⟨_, rfl, .inr (.inr (.inl rfl))⟩
  · exact ⟨_, rfl, .inr (.inr (.inr (.inl rfl)))⟩
  · exact ⟨_, rfl, .inr (.inr (.inr (.inr (.inl rfl))))⟩
  · exact ⟨_, rfl, .inr (.inr (.inr (.inr (.inr (.inl rfl)))))⟩
  · exact ⟨_, rfl, .inr (.inr (.inr (.inr (.inr (.inr (.inl rfl))))))⟩
theorem value_loop {G0 : Hd} {p p1 r1 r2 q1 : Addr} {ns us : List Int} {size : Nat} {s1 s2 s4 : Option D} {D0 : Dn} (h1 : r2 ≠ p) (h2 : r2 ≠ p1) (hc : G0 p1 = some (.lst (ns.map D.int))) (ne : p ≠ p1) (hz : size ≤ 202) : ∀ (es : List D) (row : List D) (a b c : Int) (s5 s9 s10 : Option D),
    0 ≤ a → 0 ≤ b → 0 ≤ c → row.length = size → (∀ e ∈ row, Itm q1 us e) →
    (∀ (row : List D) (a b c : Int) (s5 s9 s10 : Option D), 0 ≤ a → 0 ≤ b → 0 ≤ c → row.length = size → (∀ e ∈ row, Itm q1 us e) → D0.nx [some (.ref p), s1, s2, some (.int size), s4, s5, some (.ref r1), some (.ref r2), some (.tup (spoils q1)), s9, s10] (Hs G0 p p1 r2 row a b c)) →
    forD (kName 5) (t__law_value_b3 K) none D0 es [some (.ref p), s1, s2, some (.int size), s4, s5, some (.ref r1), some (.ref r2), some (.tup (spoils q1)), s9, s10] (Hs G0 p p1 r2 row a b c)
  | [], row, a, b, c, s5, s9, s10, ha, hb, hc0, hl, hi, k => k row a b c s5 s9 s10 ha hb hc0 hl hi
  | e :: es, row, a, b, c, s5, s9, s10, ha, hb, hc0, hl, hi, k => by
    refine draw_of (hs_P h1 h2 hc ne ha hb hc0) (by decide) (by decide) (fun r a1 b1 c1 r0 r7 P1 => ?_)
    rw [hs_pool h1] at P1 ⊢
    obtain ⟨y, hy, iy⟩ := spoils_at (q1 := q1) (us := us) r0 r7
    refine rdIx_t hy ?_
    have hm : 0 < max (1 : Int) (size : Nat) ∧ max (1 : Int) (size : Nat) < 10 ^ 50 := by omega
    refine draw_of P1 hm.1 hm.2 (fun r2' a2 b2 c2 z0 z1 P2 => ?_)
    rw [hs_pool h1] at P2 ⊢
    refine cnd (fun hs => ?_) (fun hs => ?_)
    · have hs := of_decide_eq_true hs
      have hj : ixN row.length r2' = some r2'.toNat := by
        unfold ixN
        rw [if_pos z0, if_pos (by omega)]
      refine Exists.intro row (Exists.intro r2'.toNat (And.intro (show Hs G0 p p1 r2 row a2 b2 c2 r2 = some (.lst row) from updD_same) (And.intro hj ?_)))
      rw [hs_row]
      exact value_loop h1 h2 hc ne hz es _ a2 b2 c2 _ _ _ P2.a0 P2.b0 P2.c0 (by rw [List.length_set]; exact hl) (fun z hz2 => (List.mem_or_eq_of_mem_set hz2).elim (hi z) (fun e => by rw [e]; exact iy)) k
    · exact value_loop h1 h2 hc ne hz es _ a2 b2 c2 _ _ _ P2.a0 P2.b0 P2.c0 hl hi k
end
end Lw

namespace Lw
open PySem PySem.Spec PyProof.Rows L2 DL
section
variable {K : Frag} {mg : Str → Option Value}
theorem ne_at {g : Hd} {a b : Addr} {o : DO} (h : g a = some o) (h' : g b = none) : b ≠ a := fun e => by
  rw [e, h] at h'
  cases h'
/-- what is asked of the drawn value -/
def QV (g : Hd) (p p1 : Addr) (q : Qd) : Prop := ∀ a' b' c', 0 ≤ a' → 0 ≤ b' → 0 ≤ c' → (∀ d, d ∈ [D.str "01", .non, .int 7, .bl true, .str ""] → q d (updD g p (pl p1 a' b' c'))) ∧
    ∀ (q1 : Addr) (us : List Int) (items : List D), g q1 = none → q1 ≠ p → us.length ≤ 5 → items.length ≤ 202 → (∀ e ∈ items, Itm q1 us e) →
      q (.tup items) (updD (updD g p (pl p1 a' b' c')) q1 (.lst [.int 1])) ∧ ∀ r, g r = none → r ≠ p → r ≠ q1 → q (.ref r) (updD (updD (updD g p (pl p1 a' b' c')) q1 (.lst [.int 1])) r (.lst items))
theorem value_end {g : Hd} {p p1 r1 r2 q1 : Addr} {ns us : List Int} {a b c kind : Int} {size : Nat} {q : Qd} {x : Ed} {bits : Int} (P : Pool (updD g p (pl p1 a b c)) p p1 ns a b c) (hq : QV g p p1 q) (hz : size ≤ 202) (hu : us.length ≤ 5)
    (hr1 : updD g p (pl p1 a b c) r1 = none) (hr2 : updD (updD g p (pl p1 a b c)) r1 (.lst (us.map D.int)) r2 = none) {row : List D} (hq1 : updD (updD (updD g p (pl p1 a b c)) r1 (.lst (us.map D.int))) r2 (.lst row) q1 = none) (hl : row.length = size) (hi : ∀ e ∈ row, Itm q1 us e) :
    t__law_value_s5 K (dnOf (sub q) (subE x)) [some (.ref p), some (.int kind), none, some (.int size), some (.int bits), none, some (.ref r1), some (.ref r2), some (.tup (spoils q1)), none, none] (updD (updD (updD (updD g p (pl p1 a b c)) r1 (.lst (us.map D.int))) r2 (.lst row)) q1 (.lst [.int 1])) := by
  obtain ⟨n1, g1⟩ := updD_none hr1
  obtain ⟨n2, g2⟩ := updD_none hr2
  obtain ⟨n3, g3⟩ := updD_none g2
  obtain ⟨n4, g4⟩ := updD_none hq1
  obtain ⟨n5, g5⟩ := updD_none g4
  obtain ⟨n6, g6⟩ := updD_none g5
  have hc : g p1 = some (.lst (ns.map D.int)) := by
    have := P.cells
    rw [updD_ne (Ne.symm P.ne)] at this
    exact this
  have m1 := ne_at hc g1
  have m2 := ne_at hc g3
  have m3 := ne_at hc g6
  have he : updD (updD (updD (updD g p (pl p1 a b c)) r1 (.lst (us.map D.int))) r2 (.lst row)) q1 (.lst [.int 1]) = Hs (updD (updD g q1 (.lst [.int 1])) r1 (.lst (us.map D.int))) p p1 r2 row a b c := by
    unfold Hs
    rw [updD_comm (Ne.symm n4), updD_comm (Ne.symm n5), updD_comm (Ne.symm n6), updD_comm (a := p) (b := r1) (Ne.symm n1)]
  have hc2 : updD (updD g q1 (.lst [.int 1])) r1 (.lst (us.map D.int)) p1 = some (.lst (ns.map D.int)) := by
    rw [updD_ne (Ne.symm m1), updD_ne (Ne.symm m3)]
    exact hc
  rw [he]
  refine draw_of (hs_P n3 m2 hc2 P.ne P.a0 P.b0 P.c0) (by decide) (by decide) (fun r a1 b1 c1 r0 r3 P1 => ?_)
  rw [hs_pool n3] at P1 ⊢
  refine And.intro (rgB_of (by omega) (by omega)) ?_
  refine value_loop n3 m2 hc2 P.ne hz _ row a1 b1 c1 none none none P1.a0 P1.b0 P1.c0 hl hi (fun row2 a2 b2 c2 s5 s9 s10 ha hb hc0 hl2 hi2 => ?_)
  obtain ⟨_, hq⟩ := hq a2 b2 c2 ha hb hc0
  obtain ⟨hT, hL⟩ := hq q1 us row2 g6 n6 hu (by omega) hi2
  have sX : SubH (updD (updD g p (pl p1 a2 b2 c2)) q1 (.lst [.int 1])) (updD (updD (updD g q1 (.lst [.int 1])) r1 (.lst (us.map D.int))) p (pl p1 a2 b2 c2)) := by
    rw [updD_comm (Ne.symm n6)]
    refine SubH.both (SubH.new ?_)
    rw [updD_ne (Ne.symm n5)]
    exact g1
  refine cnd (fun h => ?_) (fun h => ?_)
  · exact ⟨_, SubH.both sX, hL r2 g3 n3 (Ne.symm n4)⟩
  · refine seqD_of (seqO_ref (show Hs _ p p1 r2 row2 a2 b2 c2 r2 = some (.lst row2) from updD_same)) ?_
    refine ⟨_, sX.trans (SubH.new ?_), hT⟩
    rw [updD_ne n3, updD_ne n2, updD_ne (Ne.symm n4)]
    exact g3
theorem value_rest {g : Hd} {p p1 : Addr} {ns : List Int} {a b c kind : Int} {size : Nat} {q : Qd} {x : Ed} (P : Pool (updD g p (pl p1 a b c)) p p1 ns a b c) (hq : QV g p p1 q) (hz : size ≤ 202) :
    t__law_value_s9 K (dnOf (sub q) (subE x)) [some (.ref p), some (.int kind), none, some (.int size), none, none, none, none, none, none, none] (updD g p (pl p1 a b c)) := by
  refine draw_of P (by decide) (by decide) (fun bits a1 b1 c1 _ _ P1 => ?_)
  rw [updD_updD] at P1 ⊢
  refine draw_of P1 (by decide) (by decide) (fun n a2 b2 c2 n0 n1 P2 => ?_)
  rw [updD_updD] at P2 ⊢
  have hu : ∀ lo (k : Nat), (upI lo k).length = k := upI_len
  refine And.intro (rgB_of (by omega) (by omega)) (And.intro (sz200 (by rw [hu]; omega)) ?_)
  refine start_loop _ a2 b2 c2 _ P2 (fun us a3 b3 c3 hul P3 => ?_)
  rw [hu] at hul
  intro r1 hr1
  refine And.intro (rgB_of (by omega) (by omega)) (And.intro (Nat.le_trans (show (upI 0 (size : Int).toNat).length ≤ 202 by rw [hu]; omega) (by decide)) ?_)
  have hs1 : updD (updD g p (pl p1 a3 b3 c3)) r1 (.lst (us.map D.int)) r1 = some (.lst (us.map D.int)) := updD_same
  have hpos : (0 : Int) < ((us.map D.int).length : Nat) := by rw [List.length_map]; omega
  refine lcD_ex (P := fun y => ∃ i ∈ us, y = .int i) okP_none _ _ (fun e he => ?_) (fun row hrl hry => ?_)
  · obtain ⟨i, ei, _, _⟩ := upI_mem he
    subst ei
    obtain ⟨z, h1, h2⟩ := atI_ints (ns := us) (i := i % ((us.map D.int).length : Nat)) (Int.emod_nonneg _ (by omega)) (by
      have := Int.emod_lt_of_pos i hpos
      rw [List.length_map] at this ⊢
      exact this)
    exact ⟨.int z, ⟨z, h2, rfl⟩, fun Q hQ => lenD_of (seqO_ref hs1) (And.intro hpos (rdIx_l hs1 h1 hQ))⟩
  · rw [hu] at hrl
    intro r2 hr2
    refine And.intro (show 1 ≤ sizeLine by decide) (And.intro (show 1 ≤ sizeLine by decide) (fun q1 hq1 => And.intro (show 7 ≤ sizeLine by decide) ?_))
    exact value_end P3 hq hz (by omega) hr1 hr2 hq1 (by omega) (fun e he => .inr (.inr (.inr (.inr (.inr (.inr (.inr (hry e he))))))))
theorem pure__law_value : ∀ ds g q x, sp__law_value K ds g q x → t__law_value K (dnOf (sub q) (subE x)) (startD ["_law_pool_here", "_law_kind", "_law_others", "_law_size", "_law_bits", "_law_k", "_law_start", "_law_row", "_law_spoils", "_law_bad", "_law_place"] ds) g := by
  intro ds g q x ⟨p, p1, ns, a, b, c, e, P, hq⟩
  subst e
  have hq : QV g p p1 q := hq
  refine draw_of P (by decide) (by decide) (fun kind a1 b1 c1 k0 k1 P1 => ?_)
  refine cnd (fun h => ?_) (fun h => ?_)
  · have h := of_decide_eq_true h
    refine And.intro (show 5 ≤ sizeLine by decide) ?_
    have hy : ∃ y, atI [D.str "01", .non, .int 7, .bl true, .str ""] kind = some y ∧ y ∈ [D.str "01", .non, .int 7, .bl true, .str ""] := by
      have z : kind = 0 ∨ kind = 1 ∨ kind = 2 ∨ kind = 3 ∨ kind = 4 := by omega
      rcases z with z | z | z | z | z <;> subst z
      · exact ⟨_, rfl, List.mem_cons_self⟩
      · exact ⟨_, rfl, List.mem_cons_of_mem _ List.mem_cons_self⟩
      · exact ⟨_, rfl, List.mem_cons_of_mem _ (List.mem_cons_of_mem _ List.mem_cons_self)⟩
      · exact ⟨_, rfl, List.mem_cons_of_mem _ (List.mem_cons_of_mem _ (List.mem_cons_of_mem _ List.mem_cons_self))⟩
      · exact ⟨_, rfl, List.mem_cons_of_mem _ (List.mem_cons_of_mem _ (List.mem_cons_of_mem _ (List.mem_cons_of_mem _ List.mem_cons_self)))⟩
    obtain ⟨y, h1, h2⟩ := hy
    exact rdIx_t h1 (sub_same ((hq a1 b1 c1 P1.a0 P1.b0 P1.c0).1 y h2))
  · refine draw_of P1 (by decide) (by decide) (fun size a2 b2 c2 s0 s1 P2 => ?_)
    refine draw_of P2 (by decide) (by decide) (fun r a3 b3 c3 _ _ P3 => ?_)
    rw [updD_updD] at P2
    rw [updD_updD, updD_updD] at P3
    refine cnd (fun h => ?_) (fun h => ?_)
    · rw [updD_updD, updD_updD]
      refine draw_of P3 (by decide) (by decide) (fun z a4 b4 c4 z0 z1 P4 => ?_)
      rw [updD_updD] at P4 ⊢
      have hn : ∃ n : Nat, 198 + z = n ∧ n ≤ 202 := ⟨(198 + z).toNat, by omega, by omega⟩
      obtain ⟨n, en, hn⟩ := hn
      have hr := value_rest (K := K) (x := x) (kind := kind) P4 hq hn
      rw [← en] at hr
      exact hr
    · rw [updD_updD, updD_updD]
      have hn : ∃ n : Nat, size = n ∧ n ≤ 202 := ⟨size.toNat, by omega, by omega⟩
      obtain ⟨n, en, hn⟩ := hn
      subst en
      exact value_rest P3 hq hn
end
end Lw

namespace Lw
open PySem PySem.Spec PyProof.Rows L2 DL
section
variable {K : Frag} {mg : Str → Option Value}
theorem kdD_bl {b : Bool} {g : Hd} {Q : Kd → Prop} (h : Q .bl) : kdD (.bl b) g Q := by
  unfold kdD
  exact h
theorem pure__law_is_flag : ∀ ds g q x, sp__law_is_flag K ds g q x → t__law_is_flag K (dnOf (sub q) (subE x)) (startD ["_law_actual", "_law_due"] ds) g := by
  intro ds g q x ⟨a, b, e, hq⟩
  subst e
  exact kdD_bl (sub_same hq)
theorem pure__law_is_integer : ∀ ds g q x, sp__law_is_integer K ds g q x → t__law_is_integer K (dnOf (sub q) (subE x)) (startD ["_law_cell"] ds) g := by
  intro ds g q x ⟨d, e, hk, hq⟩
  subst e
  obtain ⟨k, h1, h2, _, _⟩ := kd_all hk
  refine h1 _ ?_
  refine cnd (fun h => h1 _ (sub_same ?_)) (fun h => sub_same ?_)
  · have h : kt k .int = true := h
    rw [h] at h2
    show q (.bl (!kt k .bl)) g
    rw [show (!kt k .bl) = isI d from h2]
    exact hq
  · have h : kt k .int = false := h
    rw [h] at h2
    show q (.bl false) g
    rw [show false = isI d from h2]
    exact hq
/-- == of a value with itself -/
def SelfOk (d : D) (g : Hd) : Prop := d = .non ∨ (∃ b, d = .bl b) ∨ (∃ i, d = .int i) ∨ (∃ x, d = .str x) ∨ (eqSc d d = none ∧ ∃ p, Pd g d p ∧ SeqAt.shaped p = true ∧ PyData.eqv p p = true)
theorem rdEq_self {d : D} {g : Hd} {Q : Qd} (h : SelfOk d g) (k : Q (.bl true) g) : rdEq d d g Q := by
  rcases h with h | ⟨b, h⟩ | ⟨b, h⟩ | ⟨b, h⟩ | ⟨e, p, h1, h2, h3⟩
  · subst h
    exact k
  · subst h
    show Q (.bl (b == b)) g
    rw [beq_self_eq_true]
    exact k
  · subst h
    show Q (.bl (decide (b = b))) g
    rw [decide_eq_true rfl]
    exact k
  · subst h
    show Q (.bl (strEq b b)) g
    rw [strEq_self]
    exact k
  · unfold rdEq
    rw [e]
    exact ⟨p, p, h1, h1, h2, h2, by rw [h3]; exact k⟩
theorem fault_loop {d : D} {g : Hd} {es : List D} {b : Bool} {D0 : Dn} (hs : seqO d g = some es) (hk : ∀ e ∈ es, KdOk e g) : ∀ (m n : Nat) (s2 : Option D), n + m = es.length →
    (∀ i : Nat, bad (cond b bitD isI) (es.drop n) n = some i → D0.rt (.int i) g) → (bad (cond b bitD isI) (es.drop n) n = none → ∀ s2, D0.nx [some d, some (.bl b), s2] g) →
    forD (kName 2) (t__law_fault_b1 K) none D0 (upI n m) [some d, some (.bl b), s2] g
  | 0, n, s2, hl, h1, h2 => h2 (by rw [List.drop_of_length_le (by omega)]; rfl) s2
  | m + 1, n, s2, hl, h1, h2 => by
    have hlt : n < es.length := by omega
    have hy : es[n]? = some es[n] := by simp [hlt]
    have hd : es.drop n = es[n] :: es.drop (n + 1) := List.drop_eq_getElem_cons hlt
    have hb : bad (cond b bitD isI) (es.drop n) n = cond ((cond b bitD isI) es[n]) (bad (cond b bitD isI) (es.drop (n + 1)) (n + 1)) (some n) := by rw [hd]; rfl
    have ky := hk es[n] (List.getElem_mem hlt)
    generalize es[n] = y at hy hb ky
    have stop : (cond b bitD isI) y = false → D0.rt (.int n) g := fun z => h1 n (by rw [hb, z]; rfl)
    have go : (cond b bitD isI) y = true → forD (kName 2) (t__law_fault_b1 K) none D0 (upI ((n : Int) + 1) m) [some d, some (.bl b), some (.int n)] g := fun z => by
      rw [z] at hb
      have hb : bad (cond b bitD isI) (es.drop n) n = bad (cond b bitD isI) (es.drop (n + 1)) (n + 1) := hb
      rw [hb] at h1 h2
      exact fault_loop hs hk m (n + 1) _ (by omega) h1 h2
    refine rdIx_of hs hy ?_
    refine Exists.intro y (And.intro rfl (And.intro ky ?_))
    refine cnd (fun h => ?_) (fun h => ?_)
    · have h' : isI y = false := by simpa using h
      refine stop ?_
      cases b with
      | false => exact h'
      | true =>
        cases y with
        | int i => cases h'
        | _ => rfl
    · have h' : isI y = true := by simpa using h
      cases y with
      | int i =>
        cases b with
        | false => exact go rfl
        | true =>
          refine rdIx_of hs hy ?_
          refine cnd (fun h => ?_) (fun h => ?_)
          · refine cnd (fun h2 => ?_) (fun h2 => ?_)
            · have h2 : decide (i ≤ 1) = false := by simpa using h2
              refine stop ?_
              show (decide (0 ≤ i) && decide (i ≤ 1)) = false
              rw [h2, Bool.and_false]
            · have h2 : decide (i ≤ 1) = true := by simpa using h2
              refine go ?_
              show (decide (0 ≤ i) && decide (i ≤ 1)) = true
              rw [h2, Bool.and_true]
              exact h
          · refine stop ?_
            show (decide (0 ≤ i) && decide (i ≤ 1)) = false
            have h : decide (0 ≤ i) = false := h
            rw [h, Bool.false_and]
      | _ => cases h'
theorem pure__law_fault : ∀ ds g q x, sp__law_fault K ds g q x → t__law_fault K (dnOf (sub q) (subE x)) (startD ["_law_value_here", "_law_bits", "_law_k"] ds) g := by
  intro ds g q x ⟨d, b, e, hv, hq⟩
  subst e
  obtain ⟨k, k1, k2, _⟩ := kd_k hv.1
  refine k1 _ ?_
  refine cnd (fun h => ?_) (fun h => ?_)
  · have h' : (kt k .lst || kt k .tup) = false := notT h
    rw [h'] at k2
    have hc : hasC d g = false := by
      unfold hasC
      cases e : seqO d g with
      | none => rfl
      | some es =>
        rw [e] at k2
        cases k2
    rw [fltO_no hc] at hq
    exact sub_same hq
  · have h' : (kt k .lst || kt k .tup) = true := notF h
    rw [h'] at k2
    cases e : seqO d g with
    | none =>
      rw [e] at k2
      cases k2
    | some es =>
      have hc : hasC d g = hasL es := by unfold hasC; rw [e]
      have no : hasL es = false → sub q (.int (-1)) g := fun z => by
        rw [fltO_no (by rw [hc, z])] at hq
        exact sub_same hq
      refine lenD_of e ?_
      refine cnd (fun h => ?_) (fun h => ?_)
      · have h := of_decide_eq_true h
        exact no (by unfold hasL; rw [decide_eq_false (by omega), Bool.false_and])
      · have h : ¬ ((es.length : Int) < 1) := of_decide_eq_false h
        refine lenD_of e ?_
        refine cnd (fun h2 => ?_) (fun h2 => ?_)
        · have h2 := of_decide_eq_true h2
          exact no (by unfold hasL; rw [decide_eq_false (p := (es.length : Int) ≤ 200) (by omega), Bool.and_false])
        · have h2 : ¬ (200 < (es.length : Int)) := of_decide_eq_false h2
          have hL : hasC d g = true := by
            rw [hc]
            unfold hasL
            rw [decide_eq_true (by omega), decide_eq_true (by omega)]
            rfl
          rw [fltO_yes hL (show itsOf d g = es by unfold itsOf; rw [e]; rfl)] at hq
          refine lenD_of e (And.intro (rgB_of (by omega) (by omega)) ?_)
          refine fault_loop e (hv.2 es e) es.length 0 none (by omega) (fun i hb => sub_same ?_) (fun hb s2 => sub_same ?_)
          · rw [List.drop_zero] at hb
            rw [hb] at hq
            exact hq
          · rw [List.drop_zero] at hb
            rw [hb] at hq
            exact hq
theorem pure__law_told_level (E : FX K mg) : ∀ ds g q x, sp__law_told_level K ds g q x → t__law_told_level K (dnOf (sub q) (subE x)) (startD ["_law_value_here", "_law_number_here", "_law_told", "e"] ds) g := by
  intro ds g q x ⟨d, v, e, hv, hk, hx, hq⟩
  subst e
  refine Exists.intro d (Exists.intro v (And.intro rfl (And.intro hv (And.intro hk (And.intro (fun i hi => ?_) (fun hn => And.intro (fun hN => ?_) (fun i hi => ?_)))))))
  · refine Exists.intro true (And.intro (exm_NoRow_NoRow E) (And.intro rfl (fun a d => And.intro ⟨rfl, rfl⟩ (Exists.intro (.int i) (And.intro rfl (And.intro ⟨rfl, rfl⟩ (And.intro ⟨rfl, rfl⟩ (And.intro (show 4 ≤ sizeLine by decide) ?_))))))))
    exact sub_same (hx i hi)
  · refine Exists.intro false (And.intro (exm_NoNumber_NoRow E) (Exists.intro true (And.intro (exm_NoNumber_NoNumber E) (And.intro rfl (fun a d => And.intro ⟨rfl, rfl⟩ (Exists.intro (.str "value") (And.intro rfl (And.intro ⟨rfl, rfl⟩ (And.intro ⟨rfl, rfl⟩ (And.intro (show 4 ≤ sizeLine by decide) ?_))))))))))
    exact sub_same ((hq hn).1 hN)
  · exact And.intro (show 2 ≤ sizeLine by decide) (sub_same ((hq hn).2 i hi))
theorem pure__law_told_levels (E : FX K mg) : ∀ ds g q x, sp__law_told_levels K ds g q x → t__law_told_levels K (dnOf (sub q) (subE x)) (startD ["_law_value_here", "_law_told", "e"] ds) g := by
  intro ds g q x hsp
  unfold sp__law_told_levels at hsp
  obtain ⟨d, us, e, hv, hu, hus, hx, hq⟩ := hsp
  subst e
  refine Exists.intro d (Exists.intro us (And.intro rfl (And.intro hv (And.intro hu (And.intro hus (And.intro (fun i hi => ?_) (fun hn rs pw mr p hp => ?_)))))))
  · refine Exists.intro true (And.intro (exm_NoRow_NoRow E) (And.intro rfl (fun a d => And.intro ⟨rfl, rfl⟩ (Exists.intro (.int i) (And.intro rfl (And.intro ⟨rfl, rfl⟩ (And.intro ⟨rfl, rfl⟩ (And.intro (show 4 ≤ sizeLine by decide) ?_))))))))
    exact sub_same (hx i hi)
  · exact And.intro (show 2 ≤ sizeLine by decide) (sub_same (hq hn rs pw mr p hp))
end
end Lw

namespace Lw
open PySem PySem.Spec PyProof.Rows L2 DL
section
variable {K : Frag} {mg : Str → Option Value}
theorem kdD_tup {ds : List D} {g : Hd} {Q : Kd → Prop} (h : Q .tup) : kdD (.tup ds) g Q := by
  unfold kdD
  exact h
theorem kdD_lst {a : Addr} {ds : List D} {g : Hd} {Q : Kd → Prop} (hg : g a = some (.lst ds)) (h : Q .lst) : kdD (.ref a) g Q := by
  unfold kdD
  exact ⟨_, hg, h⟩
theorem kdI {i : Int} {g : Hd} : KdOk (.int i) g := by
  unfold KdOk kdD
  exact True.intro
theorem so_row : PyData.strOk (Str.ofString "row") = true := by decide +kernel
theorem so_number : PyData.strOk (Str.ofString "number") = true := by decide +kernel
theorem so_value : PyData.strOk (Str.ofString "value") = true := by decide +kernel
theorem self_row {i : Int} {g : Hd} : SelfOk (rowT i) g := .inr (.inr (.inr (.inr ⟨rfl, .tuple [.str "row", .int i, .bool true, .bool false], pd_of rfl, (by simp [SeqAt.shaped, PyData.canLay0, PyData.canLayAll0, PyData.depth, PyData.depthAll, so_row, so_number, so_value]), SeqAt.eqv_refl _ (SeqAt.canLay_of_shaped (by simp [SeqAt.shaped, PyData.canLay0, PyData.canLayAll0, PyData.depth, PyData.depthAll, so_row, so_number, so_value]))⟩)))
theorem self_num {g : Hd} : SelfOk numT g := .inr (.inr (.inr (.inr ⟨rfl, .tuple [.str "number", .str "value", .bool true, .bool false], pd_of rfl, (by simp [SeqAt.shaped, PyData.canLay0, PyData.canLayAll0, PyData.depth, PyData.depthAll, so_row, so_number, so_value]), SeqAt.eqv_refl _ (SeqAt.canLay_of_shaped (by simp [SeqAt.shaped, PyData.canLay0, PyData.canLayAll0, PyData.depth, PyData.depthAll, so_row, so_number, so_value]))⟩)))
theorem geL_at {is : List Int} {v : Int} {n : Nat} {c : Int} (h : is[n]? = some c) : (geL is v)[n]? = some (.int (if v ≤ c then 1 else 0)) := by
  unfold geL
  rw [List.getElem?_map, h]
  rfl
theorem level_loop {d : D} {g : Hd} {is : List Int} {v : Int} {f : D} {D0 : Dn} (hs : seqO d g = some (is.map D.int)) : ∀ (m n : Nat) (s4 : Option D), n + m = is.length → (∀ s4, D0.nx [some d, some f, some (.int v), some (.tup [.str "told", .tup (geL is v)]), s4] g) →
    forD (kName 4) (t__law_level_right_b1 K) none D0 (upI n m) [some d, some f, some (.int v), some (.tup [.str "told", .tup (geL is v)]), s4] g
  | 0, n, s4, hl, h => h s4
  | m + 1, n, s4, hl, h => by
    have hlt : n < is.length := by omega
    have hy : is[n]? = some is[n] := by simp [hlt]
    generalize is[n] = c at hy
    have hg := geL_at (v := v) hy
    have hm : (is.map D.int)[n]? = some (.int c) := by rw [List.getElem?_map, hy]; rfl
    refine rdIx_t rfl (rdIx_of (d := .tup (geL is v)) rfl hg ?_)
    refine Exists.intro _ (And.intro rfl (And.intro kdI ?_))
    refine rdIx_t rfl (rdIx_of (d := .tup (geL is v)) rfl hg (rdIx_of hs hm ?_))
    refine cnd (fun h2 => ?_) (fun h2 => level_loop hs m (n + 1) _ (by omega) h)
    exfalso
    have h3 : (!decide ((if v ≤ c then (1 : Int) else 0) = (if decide (v ≤ c) = true then 1 else 0))) = true := h2
    have z : (if decide (v ≤ c) = true then (1 : Int) else 0) = if v ≤ c then 1 else 0 := by simp
    rw [z, decide_eq_true rfl] at h3
    cases h3
theorem pure__law_level_right : ∀ ds g q x, sp__law_level_right K ds g q x → t__law_level_right K (dnOf (sub q) (subE x)) (startD ["_law_value_here", "_law_fault_here", "_law_number_here", "_law_told", "_law_k"] ds) g := by
  intro ds g q x ⟨d, v, t, e, hv, hk, hx, hn, hq⟩
  subst e
  cases hf : fltO isI d g with
  | some i =>
    have e := hx i hf
    subst e
    exact And.intro (show 4 ≤ sizeLine by decide) (rdEq_self self_row (sub_same hq))
  | none =>
    obtain ⟨hN, hI⟩ := hn hf
    obtain ⟨hc, is, e1, e2, l1, l2, hs⟩ := flt_none hf
    refine Exists.intro v (And.intro rfl (And.intro hk ?_))
    refine cnd (fun h => ?_) (fun h => ?_)
    · have e := hN (notT h)
      subst e
      exact And.intro (show 4 ≤ sizeLine by decide) (rdEq_self self_num (sub_same hq))
    · have h := notF h
      cases v with
      | int i =>
        have e := hI i rfl
        subst e
        rw [e2]
        have len : (geL is i).length = is.length := by unfold geL; rw [List.length_map]
        refine rdIx_t rfl ?_
        refine cnd (fun h2 => ?_) (fun h2 => ?_)
        · exfalso
          have h3 : (!strEq "told" "told") = true := h2
          rw [strEq_self] at h3
          cases h3
        · refine rdIx_t rfl (kdD_tup (rdIx_t rfl (lenD_of (d := .tup (geL is i)) rfl (lenD_of hs ?_))))
          refine cnd (fun h3 => ?_) (fun h3 => ?_)
          · exfalso
            have h4 : (!decide ((((geL is i).length : Nat) : Int) = (((is.map D.int).length : Nat) : Int))) = true := h3
            rw [len, List.length_map, decide_eq_true rfl] at h4
            cases h4
          · refine lenD_of hs (And.intro (rgB_of (by omega) (by rw [List.length_map]; omega)) ?_)
            refine level_loop hs (Int.toNat ((is.map D.int).length : Nat)) 0 none (by rw [List.length_map]; omega) (fun s4 => sub_same hq)
      | _ => cases h
theorem levels_loop1 {d : D} {g : Hd} {is rs : List Int} {f : D} {p : Addr} {D0 : Dn} {s4 : Option D} (hs : seqO d g = some (is.map D.int)) (hp : g p = some (.lst (rs.map D.int))) (pw : rs.Pairwise (· < ·)) (mr : ∀ k, k ∈ rs ↔ k ∈ is) :
    ∀ (m n : Nat) (s3 : Option D), n + m = rs.length → (∀ s3, D0.nx [some d, some f, some (.tup [.str "told", .ref p]), s3, s4] g) →
    forD (kName 3) (t__law_levels_right_b2 K) none D0 (upI n m) [some d, some f, some (.tup [.str "told", .ref p]), s3, s4] g
  | 0, n, s3, hl, h => h s3
  | m + 1, n, s3, hl, h => by
    have hlt : n < rs.length := by omega
    have hm : (rs.map D.int)[n]? = some (.int rs[n]) := by simp [hlt]
    have hin : rs[n] ∈ is := (mr _).mp (List.getElem_mem hlt)
    refine rdIx_t rfl (rdIx_of (seqO_ref hp) hm ?_)
    refine Exists.intro _ (And.intro rfl (And.intro kdI ?_))
    refine rdIx_t rfl (rdIx_of (seqO_ref hp) hm (And.intro rfl (seqD_of hs (And.intro (by simp [flatD]) ?_))))
    rw [inF_ints, decide_eq_true hin]
    refine cnd (fun h2 => ?_) (fun h2 => levels_loop1 hs hp pw mr m (n + 1) _ (by omega) h)
    have h2 : (0 : Int) < n := of_decide_eq_true h2
    have hlt1 : n - 1 < rs.length := by omega
    have hm1 : (rs.map D.int)[n - 1]? = some (.int rs[n - 1]) := by simp [hlt1]
    have ei : (n : Int) - 1 = ((n - 1 : Nat) : Int) := by omega
    refine rdIx_t rfl (rdIx_of (seqO_ref hp) hm (rdIx_t rfl ?_))
    show rdIx (.ref p) (.int ((n : Int) - 1)) g _
    rw [ei]
    refine rdIx_of (seqO_ref hp) hm1 ?_
    have lt : rs[n - 1] < rs[n] := List.pairwise_iff_getElem.mp pw (n - 1) n hlt1 hlt (by omega)
    refine cnd (fun h3 => ?_) (fun h3 => levels_loop1 hs hp pw mr m (n + 1) _ (by omega) h)
    exfalso
    have h3 : rs[n] ≤ rs[n - 1] := of_decide_eq_true h3
    omega
theorem levels_loop2 {d : D} {g : Hd} {rs : List Int} {f : D} {p : Addr} {D0 : Dn} {s3 : Option D} {o : Option (Addr × List D)} (ok : OkP o g) (hp : g p = some (.lst (rs.map D.int))) :
    ∀ (is : List Int) (s4 : Option D), (∀ k ∈ is, k ∈ rs) → (∀ s4, D0.nx [some d, some f, some (.tup [.str "told", .ref p]), s3, s4] g) →
    forD (kName 4) (t__law_levels_right_b3 K) o D0 (is.map D.int) [some d, some f, some (.tup [.str "told", .ref p]), s3, s4] g
  | [], s4, _, h => h s4
  | k :: is, s4, hk, h => by
    refine rdIx_t rfl (And.intro rfl (seqD_of (seqO_ref hp) (And.intro (by simp [flatD]) ?_)))
    rw [inF_ints, decide_eq_true (hk k List.mem_cons_self)]
    exact ok _ (levels_loop2 ok hp is _ (fun z hz => hk z (List.mem_cons_of_mem _ hz)) h)
theorem pure__law_levels_right : ∀ ds g q x, sp__law_levels_right K ds g q x → t__law_levels_right K (dnOf (sub q) (subE x)) (startD ["_law_value_here", "_law_fault_here", "_law_told", "_law_k", "_law_cell"] ds) g := by
  intro ds g q x hsp
  unfold sp__law_levels_right at hsp
  obtain ⟨d, t, e, hv, hx, hn, hq⟩ := hsp
  subst e
  cases hf : fltO isI d g with
  | some i =>
    have e := hx i hf
    subst e
    exact And.intro (show 4 ≤ sizeLine by decide) (rdEq_self self_row (sub_same hq))
  | none =>
    obtain ⟨rs, p, pw, mr, e, hp⟩ := hn hf
    obtain ⟨hc, is, e1, e2, l1, l2, hs⟩ := flt_none hf
    subst e
    rw [e2] at mr
    have hpos : 0 < rs.length := by
      cases is with
      | nil => exact absurd l1 (by decide)
      | cons i is =>
        exact List.length_pos_of_mem ((mr i).mpr List.mem_cons_self)
    have hle : rs.length ≤ is.length := List.Nodup.length_le_of_subset (pw.imp (fun h => by omega)) (fun k hk => (mr k).mp hk)
    refine rdIx_t rfl ?_
    refine cnd (fun h2 => ?_) (fun h2 => ?_)
    · exfalso
      have h3 : (!strEq "told" "told") = true := h2
      rw [strEq_self] at h3
      cases h3
    · refine rdIx_t rfl (kdD_lst hp (rdIx_t rfl (lenD_of (seqO_ref hp) ?_)))
      refine cnd (fun h3 => ?_) (fun h3 => ?_)
      · exfalso
        have h3 : (((rs.map D.int).length : Nat) : Int) = 0 := of_decide_eq_true h3
        rw [List.length_map] at h3
        omega
      · refine rdIx_t rfl (lenD_of (seqO_ref hp) (And.intro (rgB_of (by omega) (by rw [List.length_map]; omega)) ?_))
        refine levels_loop1 hs hp pw mr (Int.toNat ((rs.map D.int).length : Nat)) 0 none (by rw [List.length_map]; omega) (fun s3 => ?_)
        refine jSq_of hs (fun o ok => ?_)
        exact ok _ (levels_loop2 ok hp is none (fun k hk => (mr k).mpr hk) (fun s4 => sub_same hq))
end
end Lw

namespace Lw
open PySem PySem.Spec PyProof.Rows L2 DL
section
variable {K : Frag} {mg : Str → Option Value}
def Okv (A : List Addr) (G : Hd) (d : D) (us : List Int) : Prop := ∀ G' : Hd, (∀ a ∈ A, G' a = G a) → VOk d G' ∧ (∀ i ∈ intsOf (itsOf d G'), i ∈ us) ∧ (∀ e ∈ itsOf d G', SelfOk e G') ∧ seqO d G' = seqO d G ∧ (itsOf d G').length ≤ 202
def Al (A : List Addr) (G : Hd) : Prop := ∀ a ∈ A, ∃ o, G a = some o
theorem Okv.upd {A : List Addr} {G : Hd} {d : D} {us : List Int} (h : Okv A G d us) {b : Addr} (hb : b ∉ A) (o : DO) : Okv A (updD G b o) d us := fun G' e => by
  have k : ∀ a ∈ A, updD G b o a = G a := fun a ha => updD_ne (fun z => hb (z ▸ ha))
  obtain ⟨h1, h2, h3, h4, h6⟩ := h G' (fun a ha => (e a ha).trans (k a ha))
  obtain ⟨_, _, _, h5, _⟩ := h (updD G b o) k
  exact ⟨h1, h2, h3, h4.trans h5.symm, h6⟩
theorem seq_upd {A : List Addr} {G : Hd} {d : D} {us : List Int} (h : Okv A G d us) {b : Addr} (hb : b ∉ A) {o : DO} : seqO d (updD G b o) = seqO d G :=
  (h (updD G b o) (fun a ha => updD_ne (fun z => hb (z ▸ ha)))).2.2.2.1
theorem Al.upd {A : List Addr} {G : Hd} (h : Al A G) (b : Addr) (o : DO) : Al A (updD G b o) := fun a ha => by
  by_cases z : a = b
  · exact ⟨o, by rw [z, updD_same]⟩
  · rw [updD_ne z]
    exact h a ha
theorem Al.out {A : List Addr} {G : Hd} (h : Al A G) {b : Addr} (hb : G b = none) : b ∉ A := fun z => by
  obtain ⟨o, e⟩ := h b z
  rw [hb] at e
  cases e
theorem fltO_eq {p : D → Bool} {d h : D} {G G' : Hd} (e : seqO d G = seqO h G') : fltO p d G = fltO p h G' := by
  unfold fltO hasC itsOf
  rw [e]
theorem its_eq {d h : D} {G G' : Hd} (e : seqO d G = seqO h G') : itsOf d G = itsOf h G' := by
  unfold itsOf
  rw [e]
structure Sit (A B : List Addr) (G : Hd) (d h : D) (us : List Int) (o : Option Int) : Prop where
  od : Okv A G d us
  oh : Okv B G h us
  ad : Al A G
  ah : Al B G
  sq : seqO h G = seqO d G
  us : us.length < 64
  fl : fltO isI d G = o
theorem Sit.upd {A B : List Addr} {G : Hd} {d h : D} {us : List Int} {o : Option Int} (S : Sit A B G d h us o) {b : Addr} (hA : b ∉ A) (hB : b ∉ B) (x : DO) : Sit A B (updD G b x) d h us o := by
  have e1 : seqO d (updD G b x) = seqO d G := (S.od (updD G b x) (fun a ha => updD_ne (fun z => hA (z ▸ ha)))).2.2.2.1
  have e2 : seqO h (updD G b x) = seqO h G := (S.oh (updD G b x) (fun a ha => updD_ne (fun z => hB (z ▸ ha)))).2.2.2.1
  exact ⟨S.od.upd hA x, S.oh.upd hB x, S.ad.upd b x, S.ah.upd b x, by rw [e1, e2]; exact S.sq, S.us, by rw [fltO_eq e1]; exact S.fl⟩
section
variable {A B : List Addr} {G : Hd} {d h v : D} {us : List Int} {o : Option Int} {q : Qd} {x : Ed} {s0 s1 s3 s4 s5 s7 s8 s9 s10 : Option D}
theorem end_of (S : Sit A B G d h us o) (hq : ∀ g', q (.bl true) g') : t_law_s4 K (dnOf (sub q) (subE x)) [s0, s1, some d, s3, s4, s5, some h, s7, s8, s9, s10] G := by
  obtain ⟨hv, _, hself, _, hlen⟩ := S.od G (fun _ _ => rfl)
  obtain ⟨k, k1, k2, k3⟩ := kd_k hv.1
  refine k1 _ ?_
  refine cnd (fun hh => sub_same (hq _)) (fun hh => ?_)
  have hh : kt k .lst = true := notF hh
  have hsome : (seqO d G).isSome = true := by rw [← k2, hh]; rfl
  obtain ⟨es, he⟩ := Option.isSome_iff_exists.mp hsome
  have hhs : seqO h G = some es := S.sq.trans he
  have hits : itsOf d G = es := by unfold itsOf; rw [he]; rfl
  rw [hits] at hself hlen
  refine lenD_of hhs (lenD_of he ?_)
  refine cnd (fun h2 => ?_) (fun h2 => ?_)
  · have hu : ∀ lo (k : Nat), (upI lo k).length = k := upI_len
    refine lenD_of he (And.intro (rgB_of (by omega) (by omega)) (And.intro (Nat.le_trans (show (upI 0 (es.length : Int).toNat).length ≤ 202 by rw [hu]; omega) (by decide)) ?_))
    refine lcD_ex (P := fun y => y = .bl true) okP_none _ _ (fun e he' => ?_) (fun ys hl hy => ?_)
    · obtain ⟨i, ei, i0, i1⟩ := upI_mem he'
      subst ei
      have hlt : i.toNat < es.length := by omega
      have hm : es[i.toNat]? = some es[i.toNat] := by simp [hlt]
      have hs := hself _ (List.getElem_mem hlt)
      have en : i = ((i.toNat : Nat) : Int) := by omega
      refine ⟨_, rfl, fun Q hQ => ?_⟩
      show rdIx h (.int i) G _
      rw [en]
      refine rdIx_of hhs hm ?_
      exact rdIx_of he hm (rdEq_self hs hQ)
    · refine ⟨List.replicate ys.length true, ?_, ?_⟩
      · rw [List.map_replicate]
        exact List.eq_replicate_iff.mpr ⟨rfl, hy⟩
      · have e : (List.replicate ys.length true).all id = true := by simp
        rw [e]
        exact sub_same (hq _)
  · exfalso
    have h2 : decide (((es.length : Nat) : Int) = ((es.length : Nat) : Int)) = false := h2
    rw [decide_eq_true rfl] at h2
    cases h2
theorem toldl_of (S : Sit A B G d h us o) (h1 : ∀ i, o = some i → q (rowT i) G) (h2 : o = none → ∀ (rs : List Int) (pp : Addr), rs.Pairwise (· < ·) → (∀ k, k ∈ rs ↔ k ∈ intsOf (itsOf d G)) → G pp = none → q (.tup [.str "told", .ref pp]) (updD G pp (.lst (rs.map D.int)))) : sp__law_told_levels K [h] G q x := by
  obtain ⟨hv, hi, _, _, _⟩ := S.oh G (fun _ _ => rfl)
  have ef : fltO isI h G = o := by rw [fltO_eq S.sq]; exact S.fl
  unfold sp__law_told_levels
  exact ⟨h, us, rfl, hv, S.us, hi, fun i hi => h1 i (ef.symm.trans hi), fun hn rs pw mr p hp => h2 (ef.symm.trans hn) rs p pw (by rw [← its_eq S.sq]; exact mr) hp⟩
theorem rightl_of (S : Sit A B G d h us o) {t : D} (h1 : ∀ i, o = some i → t = rowT i) (h2 : o = none → ∃ (rs : List Int) (p : Addr), rs.Pairwise (· < ·) ∧ (∀ k, k ∈ rs ↔ k ∈ intsOf (itsOf d G)) ∧ t = .tup [.str "told", .ref p] ∧ G p = some (.lst (rs.map D.int))) (hq : q (.bl true) G) :
    sp__law_levels_right K [d, fltD o, t] G q x := by
  obtain ⟨hv, _, _, _, _⟩ := S.od G (fun _ _ => rfl)
  unfold sp__law_levels_right
  exact ⟨d, t, by rw [S.fl], hv, fun i hi => h1 i (S.fl.symm.trans hi), fun hn => h2 (S.fl.symm.trans hn), hq⟩
theorem again_of (S : Sit A B G d h us o) (hq : ∀ g', q (.bl true) g') : t_law_s6 K (dnOf (sub q) (subE x)) [s0, s1, some d, s3, s4, some (fltD o), some h, s7, s8, s9, s10] G := by
  refine toldl_of S (fun i hi => ?_) (fun hn rs pp pw mr hp => ?_)
  · exact rightl_of S (fun j hj => by rw [hi] at hj; cases hj; rfl) (fun z => by rw [hi] at z; cases z) (end_of S hq)
  · have S' := S.upd (S.ad.out hp) (S.ah.out hp) (.lst (rs.map D.int))
    have e : itsOf d (updD G pp (.lst (rs.map D.int))) = itsOf d G := its_eq (seq_upd S.od (S.ad.out hp))
    exact rightl_of S' (fun j hj => by rw [hn] at hj; cases hj) (fun _ => ⟨rs, pp, pw, by rw [e]; exact mr, rfl, updD_same⟩) (end_of S' hq)
theorem first_of (S : Sit A B G d h us o) (hq : ∀ g', q (.bl true) g') : t_law_s9 K (dnOf (sub q) (subE x)) [s0, s1, some d, s3, s4, some (fltD o), some h, s7, s8, s9, s10] G := by
  refine toldl_of S (fun i hi => ?_) (fun hn rs pp pw mr hp => ?_)
  · refine rightl_of S (fun j hj => by rw [hi] at hj; cases hj; rfl) (fun z => by rw [hi] at z; cases z) ?_
    refine rdIx_t rfl ?_
    refine cnd (fun h2 => ?_) (fun h2 => again_of S hq)
    exfalso
    have h3 : strEq "row" "told" = true := h2
    rw [strEq_ne (by decide)] at h3
    cases h3
  · have nA := S.ad.out hp
    have nB := S.ah.out hp
    have S' := S.upd nA nB (.lst (rs.map D.int))
    have e : itsOf d (updD G pp (.lst (rs.map D.int))) = itsOf d G := its_eq (seq_upd S.od nA)
    refine rightl_of S' (fun j hj => by rw [hn] at hj; cases hj) (fun _ => ⟨rs, pp, pw, by rw [e]; exact mr, rfl, updD_same⟩) ?_
    refine rdIx_t rfl ?_
    refine cnd (fun h2 => ?_) (fun h2 => again_of S' hq)
    have hpp : updD G pp (.lst (rs.map D.int)) pp = some (.lst (rs.map D.int)) := updD_same
    have hlen : rs.length ≤ 1000 := by
      have : rs.length ≤ us.length := List.Nodup.length_le_of_subset (pw.imp (fun h => by omega)) (fun k hk => (S.od G (fun _ _ => rfl)).2.1 k ((mr k).mp hk))
      have := S.us
      omega
    have hz : (rs.map D.int).length < sizeLine := Nat.lt_of_le_of_lt (show (rs.map D.int).length ≤ 1000 by rw [List.length_map]; exact hlen) (by decide)
    refine rdIx_t rfl ?_
    refine Exists.intro _ (And.intro hpp (Exists.intro _ (And.intro hpp (And.intro hz ?_))))
    refine And.intro (cpow 50 (by decide) (by decide)) ?_
    have hj : ixN (rs.map D.int ++ [D.int 5]).length 0 = some 0 := by
      unfold ixN
      rw [if_pos (by decide), if_pos (by simp)]
      rfl
    refine Exists.intro _ (Exists.intro 0 (And.intro updD_same (And.intro hj ?_)))
    exact again_of ((S'.upd nA nB _).upd nA nB _) hq
theorem level_of (S : Sit A B G d h us o) (hv : KdOk v G) (hq : ∀ g', q (.bl true) g') : t_law_s10 K (dnOf (sub q) (subE x)) [s0, s1, some d, s3, some v, some (fltD o), some h, s7, s8, s9, s10] G := by
  obtain ⟨hh, _, _, _, _⟩ := S.oh G (fun _ _ => rfl)
  obtain ⟨hd, _, _, _, _⟩ := S.od G (fun _ _ => rfl)
  have ef : fltO isI h G = o := by rw [fltO_eq S.sq]; exact S.fl
  have ei : itsOf h G = itsOf d G := its_eq S.sq
  have go : ∀ t, (∀ i, o = some i → t = rowT i) → (o = none → (isI v = false → t = numT) ∧ ∀ i, v = .int i → t = .tup [.str "told", .tup (geL (intsOf (itsOf d G)) i)]) → ∀ (q' : Qd) x', q' (.bl true) G → sp__law_level_right K [d, fltD o, v, t] G q' x' := fun t c1 c2 q' x' hq' =>
    ⟨d, v, t, by rw [S.fl], hd, hv, fun i hi => c1 i (S.fl.symm.trans hi), fun hn => c2 (S.fl.symm.trans hn), hq'⟩
  refine Exists.intro h (Exists.intro v (And.intro rfl (And.intro hh (And.intro hv (And.intro (fun i hi => ?_) (fun hn => ?_))))))
  · have hi := ef.symm.trans hi
    exact go _ (fun j hj => by rw [hi] at hj; cases hj; rfl) (fun z => by rw [hi] at z; cases z) _ (fun _ _ _ => False) (first_of S hq)
  · have hn := ef.symm.trans hn
    rw [ei]
    exact And.intro (fun hN => go _ (fun j hj => by rw [hn] at hj; cases hj) (fun _ => ⟨fun _ => rfl, fun i hi => by rw [hi] at hN; cases hN⟩) _ (fun _ _ _ => False) (first_of S hq))
      (fun i hi => go _ (fun j hj => by rw [hn] at hj; cases hj) (fun _ => ⟨fun z => (by rw [hi] at z; cases z), fun j hj => (by rw [hi] at hj; cases hj; rfl)⟩) _ (fun _ _ _ => False) (first_of S hq))
theorem flt_nonB {o : Option Int} : dNonB (fltD o) = o.isNone := by cases o <;> rfl
theorem flags_of (S : Sit A B G d h us o) (hv : KdOk v G) (hq : ∀ g', q (.bl true) g') : t_law_s12 K (dnOf (sub q) (subE x)) [s0, s1, some d, s3, some v, some (fltD o), some h, s7, s8, s9, s10] G := by
  obtain ⟨hh, _, _, _, _⟩ := S.oh G (fun _ _ => rfl)
  obtain ⟨hd, _, _, _, _⟩ := S.od G (fun _ _ => rfl)
  have ef : fltO isI h G = o := by rw [fltO_eq S.sq]; exact S.fl
  have e2 : fltO bitD h G = fltO bitD d G := fltO_eq S.sq
  refine Exists.intro h (And.intro rfl (And.intro hh ?_))
  refine Exists.intro _ (Exists.intro _ (And.intro rfl ?_))
  refine cnd (fun h2 => ?_) (fun h2 => ?_)
  · exfalso
    have h3 : ((fltO isI h G).isNone == dNonB (fltD o)) = false := notT h2
    rw [ef, flt_nonB, beq_self_eq_true] at h3
    cases h3
  · refine Exists.intro h (And.intro rfl (And.intro hh ?_))
    refine Exists.intro d (Exists.intro true (And.intro rfl (And.intro hd ?_)))
    refine Exists.intro _ (Exists.intro _ (And.intro rfl ?_))
    refine cnd (fun h3 => ?_) (fun h3 => level_of S hv hq)
    exfalso
    have h4 : ((fltO bitD h G).isNone == dNonB (fltD (fltO bitD d G))) = false := notT h3
    rw [e2, flt_nonB, beq_self_eq_true] at h4
    cases h4
end
end
end Lw

namespace Lw
open PySem PySem.Spec PyProof.Rows L2 DL
section
variable {K : Frag} {mg : Str → Option Value}
theorem kdB {b : Bool} {g : Hd} : KdOk (.bl b) g := by
  unfold KdOk kdD
  exact True.intro
theorem kdS {b : Str} {g : Hd} : KdOk (.str b) g := by
  unfold KdOk kdD
  exact True.intro
theorem kdN {g : Hd} : KdOk .non g := by
  unfold KdOk kdD
  exact True.intro
theorem kdT {ds : List D} {g : Hd} : KdOk (.tup ds) g := by
  unfold KdOk kdD
  exact True.intro
theorem kdR {a : Addr} {ds : List D} {g : Hd} (h : g a = some (.lst ds)) : KdOk (.ref a) g := kdD_lst h True.intro
theorem itm_kd {q1 : Addr} {us : List Int} {e : D} {G : Hd} (h : Itm q1 us e) (hq : G q1 = some (.lst [.int 1])) : KdOk e G ∧ SelfOk e G := by
  rcases h with h | h | h | h | h | h | h | ⟨i, _, h⟩ <;> subst h
  · exact ⟨kdB, .inr (.inl ⟨_, rfl⟩)⟩
  · exact ⟨kdB, .inr (.inl ⟨_, rfl⟩)⟩
  · exact ⟨kdS, .inr (.inr (.inr (.inl ⟨_, rfl⟩)))⟩
  · exact ⟨kdN, .inl rfl⟩
  · exact ⟨kdT, .inr (.inr (.inr (.inr ⟨rfl, .tuple [.int 0], pd_of rfl, (by simp [SeqAt.shaped, PyData.canLay0, PyData.canLayAll0, PyData.depth, PyData.depthAll]), SeqAt.eqv_refl _ (SeqAt.canLay_of_shaped (by simp [SeqAt.shaped, PyData.canLay0, PyData.canLayAll0, PyData.depth, PyData.depthAll]))⟩)))⟩
  · exact ⟨kdR hq, .inr (.inr (.inr (.inr ⟨rfl, .list [.int 1], .lst hq (.cons (.int 1) .nil), (by simp [SeqAt.shaped, PyData.canLay0, PyData.canLayAll0, PyData.depth, PyData.depthAll]), SeqAt.eqv_refl _ (SeqAt.canLay_of_shaped (by simp [SeqAt.shaped, PyData.canLay0, PyData.canLayAll0, PyData.depth, PyData.depthAll]))⟩)))⟩
  · exact ⟨kdS, .inr (.inr (.inr (.inl ⟨_, rfl⟩)))⟩
  · exact ⟨kdI, .inr (.inr (.inl ⟨_, rfl⟩))⟩
theorem itm_ints {q1 : Addr} {us : List Int} : ∀ {es : List D}, (∀ e ∈ es, Itm q1 us e) → ∀ i ∈ intsOf es, i ∈ us
  | [], _, i, h => by cases h
  | e :: es, he, i, h => by
    have ih := itm_ints (es := es) (fun z hz => he z (List.mem_cons_of_mem _ hz)) i
    have h1 := he e List.mem_cons_self
    cases e with
    | int j =>
      rcases List.mem_cons.mp (show i ∈ j :: intsOf es from h) with z | z
      · rcases h1 with h | h | h | h | h | h | h | ⟨k, hk, h⟩
        · cases h
        · cases h
        · cases h
        · cases h
        · cases h
        · cases h
        · cases h
        · cases h
          rw [z]
          exact hk
      · exact ih z
    | _ => exact ih h
theorem okv_items {q1 : Addr} {us : List Int} {items : List D} {d : D} {G : Hd} {A : List Addr} (hi : ∀ e ∈ items, Itm q1 us e) (hl : items.length ≤ 202) (hs : ∀ G' : Hd, (∀ a ∈ A, G' a = G a) → KdOk d G' ∧ seqO d G' = some items ∧ G' q1 = some (.lst [.int 1])) : Okv A G d us := fun G' h => by
  obtain ⟨h1, h2, h3⟩ := hs G' h
  obtain ⟨_, h5, _⟩ := hs G (fun _ _ => rfl)
  have e : itsOf d G' = items := by unfold itsOf; rw [h2]; rfl
  exact ⟨⟨h1, fun es he e' hm => by rw [h2] at he; cases he; exact (itm_kd (hi e' hm) h3).1⟩, by rw [e]; exact itm_ints hi, fun e' hm => by rw [e] at hm; exact (itm_kd (hi e' hm) h3).2, by rw [h2, h5], by rw [e]; exact hl⟩
theorem okv_scal {d : D} {G : Hd} {us : List Int} (h : ∀ G, KdOk d G ∧ seqO d G = none) : Okv [] G d us := fun G' _ => by
  have e : itsOf d G' = [] := by unfold itsOf; rw [(h G').2]; rfl
  exact ⟨⟨(h G').1, fun es he => by rw [(h G').2] at he; cases he⟩, (by rw [e]; intro i hi; cases hi), (by rw [e]; intro i hi; cases hi), (by rw [(h G').2, (h G).2]), (by rw [e]; exact Nat.zero_le _)⟩
section
variable {A B : List Addr} {G : Hd} {d h v : D} {us : List Int} {o : Option Int} {q : Qd} {x : Ed} {s0 s1 s3 s4 s5 s6 s7 s8 s9 s10 : Option D}
theorem hand_of (od : Okv A G d us) (ad : Al A G) (hus : us.length < 64) (hv : ∀ G, KdOk v G) (hq : ∀ g', q (.bl true) g') : t_law_s14 K (dnOf (sub q) (subE x)) [s0, s1, some d, s3, some v, s5, s6, s7, s8, s9, s10] G := by
  obtain ⟨hd, hi, hself, _, hlen⟩ := od G (fun _ _ => rfl)
  refine Exists.intro d (Exists.intro false (And.intro rfl (And.intro hd ?_)))
  show t_law_s13 K (dnOf (sub q) (subE x)) [s0, s1, some d, s3, some v, some (fltD (fltO isI d G)), s6, s7, s8, s9, s10] G
  obtain ⟨k, k1, k2, k3⟩ := kd_k hd.1
  refine k1 _ ?_
  refine cnd (fun hh => ?_) (fun hh => ?_)
  · have hh : kt k .lst = true := hh
    have hsome : (seqO d G).isSome = true := by rw [← k2, hh]; rfl
    obtain ⟨es, he⟩ := Option.isSome_iff_exists.mp hsome
    refine seqD_of he (fun l hl => ?_)
    have nl := ad.out hl
    have od' := od.upd nl (.lst es)
    have sd : seqO d (updD G l (.lst es)) = some es := (seq_upd od nl).trans he
    have oh : Okv (l :: A) (updD G l (.lst es)) (.ref l) us := fun G' hG => by
      have hA : ∀ a ∈ A, G' a = updD G l (.lst es) a := fun a ha => hG a (List.mem_cons_of_mem _ ha)
      obtain ⟨h1, h2, h3, h4, h5⟩ := od' G' hA
      have hl' : G' l = some (.lst es) := (hG l List.mem_cons_self).trans updD_same
      have e1 : seqO (.ref l) G' = some es := seqO_ref hl'
      have e2 : seqO d G' = some es := h4.trans sd
      have e3 : itsOf (.ref l) G' = itsOf d G' := its_eq (e1.trans e2.symm)
      exact ⟨⟨kdR hl', fun es' he' => h1.2 es' (by rw [e2, ← e1]; exact he')⟩, by rw [e3]; exact h2, by rw [e3]; exact h3, by rw [e1]; exact (seqO_ref updD_same).symm, by rw [e3]; exact h5⟩
    have S : Sit A (l :: A) (updD G l (.lst es)) d (.ref l) us (fltO isI d G) := ⟨od', oh, ad.upd l _, fun a ha => by
      rcases List.mem_cons.mp ha with z | z
      · exact ⟨_, by rw [z]; exact updD_same⟩
      · exact ad.upd l _ a z, by rw [sd]; exact seqO_ref updD_same, hus, fltO_eq (sd.trans he.symm)⟩
    exact flags_of S (hv _) hq
  · exact flags_of (⟨od, od, ad, ad, rfl, hus, rfl⟩ : Sit A A G d d us (fltO isI d G)) (hv _) hq
theorem nums_of {p p1 : Addr} {ns : List Int} {a b c : Int} (P : Pool G p p1 ns a b c) (od : Okv A G d us) (ad : Al A G) (np : p ∉ A) (hus : us.length < 64) (hq : ∀ g', q (.bl true) g') : t_law_s16 K (dnOf (sub q) (subE x)) [s0, some (.ref p), some d, s3, s4, s5, s6, s7, s8, s9, s10] G := by
  refine number_of P (fun n1 a1 b1 c1 P1 => ?_)
  refine draw_of P1 (by decide) (by decide) (fun r a2 b2 c2 _ _ P2 => And.intro (show 6 ≤ sizeLine by decide) ?_)
  refine draw_of P2 (by decide) (by decide) (fun k a3 b3 c3 k0 k1 P3 => ?_)
  have hy : ∃ y, atI [D.int n1, .int 1, .bl true, .str "1", .non, .int (0 - r)] k = some y ∧ ∀ G, KdOk y G := by
    have z : k = 0 ∨ k = 1 ∨ k = 2 ∨ k = 3 ∨ k = 4 ∨ k = 5 := by omega
    rcases z with z | z | z | z | z | z <;> subst z <;> exact ⟨_, rfl, fun _ => by first | exact kdI | exact kdB | exact kdS | exact kdN⟩
  obtain ⟨y, hy, ky⟩ := hy
  exact rdIx_t hy (hand_of (((od.upd np _).upd np _).upd np _) (((ad.upd _ _).upd _ _).upd _ _) hus ky hq)
end
theorem pure_law : ∀ ds g q x, sp_law K ds g q x → t_law K (dnOf (sub q) (subE x)) (startD ["_law_script", "_law_pool_here", "_law_value_here", "_law_numbers", "_law_number_here", "_law_fault_here", "_law_handed", "_law_told", "_law_first", "_law_again", "_law_k"] ds) g := by
  intro ds g q x ⟨ns, e, hl, hq⟩
  subst e
  refine Exists.intro ns (And.intro rfl (And.intro hl (fun p1 p n1 n2 ne => ?_)))
  have P : Pool (updD (updD g p1 (.lst (ns.map D.int))) p (pl p1 0 0 0)) p p1 ns 0 0 0 := ⟨updD_same, by rw [updD_ne (Ne.symm ne), updD_same], ne, by decide, by decide, by decide⟩
  generalize updD (updD g p1 (.lst (ns.map D.int))) p (pl p1 0 0 0) = G at P
  refine Exists.intro p (Exists.intro p1 (Exists.intro ns (Exists.intro 0 (Exists.intro 0 (Exists.intro 0 (And.intro rfl (And.intro P (fun a b c ha hb hc => And.intro (fun d hd => ?_) (fun q1 us items h1 h2 h3 h4 h5 => And.intro ?_ (fun r h6 h7 h8 => ?_))))))))))
  · have P' := updD_pool P ha hb hc
    refine nums_of P' (okv_scal (us := []) ?_) (fun a ha => by cases ha) (by intro z; cases z) (by decide) hq
    intro G
    simp only [List.mem_cons, List.not_mem_nil, or_false] at hd
    rcases hd with hd | hd | hd | hd | hd <;> subst hd <;> first | exact ⟨kdI, rfl⟩ | exact ⟨kdB, rfl⟩ | exact ⟨kdS, rfl⟩ | exact ⟨kdN, rfl⟩
  · have P' := (updD_pool P ha hb hc)
    have n1 := ne_at P.cells h1
    have P2 : Pool (updD (updD G p (pl p1 a b c)) q1 (.lst [.int 1])) p p1 ns a b c := ⟨by rw [updD_ne (Ne.symm h2)]; exact P'.at_, by rw [updD_ne (Ne.symm n1)]; exact P'.cells, P'.ne, ha, hb, hc⟩
    refine nums_of P2 (okv_items (A := [q1]) h5 h4 (fun G' hG => ⟨kdT, rfl, (hG q1 List.mem_cons_self).trans updD_same⟩)) (fun z hz => ⟨.lst [.int 1], by rw [List.mem_singleton.mp hz]; exact updD_same⟩) (fun z => h2 (List.mem_singleton.mp z).symm) (by omega) hq
  · have P' := (updD_pool P ha hb hc)
    have n1 := ne_at P.cells h1
    have n2 := ne_at P.cells h6
    have P2 : Pool (updD (updD (updD G p (pl p1 a b c)) q1 (.lst [.int 1])) r (.lst items)) p p1 ns a b c := ⟨by rw [updD_ne (Ne.symm h7), updD_ne (Ne.symm h2)]; exact P'.at_, by rw [updD_ne (Ne.symm n2), updD_ne (Ne.symm n1)]; exact P'.cells, P'.ne, ha, hb, hc⟩
    have e1 : updD (updD (updD G p (pl p1 a b c)) q1 (.lst [.int 1])) r (.lst items) r = some (.lst items) := updD_same
    have e2 : updD (updD (updD G p (pl p1 a b c)) q1 (.lst [.int 1])) r (.lst items) q1 = some (.lst [.int 1]) := by rw [updD_ne (Ne.symm h8), updD_same]
    refine nums_of P2 (okv_items (A := [r, q1]) h5 h4 (fun G' hG => ?_)) (fun z hz => ?_) (fun z => ?_) (by omega) hq
    · have f1 := (hG r List.mem_cons_self).trans e1
      have f2 := (hG q1 (List.mem_cons_of_mem _ List.mem_cons_self)).trans e2
      exact ⟨kdR f1, seqO_ref f1, f2⟩
    · rcases List.mem_cons.mp hz with hz | hz
      · exact ⟨.lst items, by rw [hz]; exact e1⟩
      · exact ⟨.lst [.int 1], by rw [List.mem_singleton.mp hz]; exact e2⟩
    · rcases List.mem_cons.mp z with z | z
      · exact h7 z.symm
      · exact h2 (List.mem_singleton.mp z).symm
end
end Lw
namespace Lw
open PySem PySem.Spec PyProof.Rows L2 DL
theorem law_top {K : Frag} : ∀ (ns : List Int) (g : Hd) (q : Qd) (x : Ed), ns.length ≤ 63 → (∀ g', q (.bl true) g') → sp_law K [.fl (ns.map D.int)] g q x := fun ns g q x hl hq => ⟨ns, rfl, hl, hq⟩
end Lw

namespace Lw
open PySem PySem.Spec PyProof.Rows L2 DL
section
variable {P : Program} {w : World} {K : Frag} {mg : Str → Option Value} {base : Heap}
theorem sc_NoRow___init__ : FnScope ["self", "index"] ["self", "index"] (defScope s_NoRow___init__) := ⟨rfl, rfl, rfl, by decide +kernel, rfl, by decide +kernel, by decide +kernel⟩
theorem exc_NoRow (E : FX K mg) : Exc1 P w K mg base "NoRow" (He.ga K "NoRow") "index" := by
  obtain ⟨fd, F⟩ := fn_NoRow___init__ E
  obtain ⟨h1, h2⟩ := init_NoRow E
  exact ⟨g_NoRow E, oex_NoRow E, _, fd, h1, h2, F.bindsN (fun _ _ _ _ _ _ us hl => match us, hl with | [_, _], _ => rfl), ok_ex1 F sc_NoRow___init__ (oex_NoRow E) (noat_NoRow_index E) (fun _ _ _ _ _ _ => pss_one (ps_ost (pv 0) (pv 1)))⟩
theorem sc_NoNumber___init__ : FnScope ["self", "name"] ["self", "name"] (defScope s_NoNumber___init__) := ⟨rfl, rfl, rfl, by decide +kernel, rfl, by decide +kernel, by decide +kernel⟩
theorem exc_NoNumber (E : FX K mg) : Exc1 P w K mg base "NoNumber" (He.ga K "NoNumber") "name" := by
  obtain ⟨fd, F⟩ := fn_NoNumber___init__ E
  obtain ⟨h1, h2⟩ := init_NoNumber E
  exact ⟨g_NoNumber E, oex_NoNumber E, _, fd, h1, h2, F.bindsN (fun _ _ _ _ _ _ us hl => match us, hl with | [_, _], _ => rfl), ok_ex1 F sc_NoNumber___init__ (oex_NoNumber E) (noat_NoNumber_name E) (fun _ _ _ _ _ _ => pss_one (ps_ost (pv 0) (pv 1)))⟩

theorem len_is_integer : ∀ ds g q x, sp_is_integer K ds g q x → ds.length = 1 := by
  intro ds g q x h
  delta sp_is_integer at h
  first | (obtain ⟨_, rfl, _⟩ := h; rfl) | (obtain ⟨_, _, rfl, _⟩ := h; rfl) | (obtain ⟨_, _, _, rfl, _⟩ := h; rfl) | (obtain ⟨_, _, _, _, rfl, _⟩ := h; rfl) | (obtain ⟨_, _, _, _, _, rfl, _⟩ := h; rfl) | (obtain ⟨_, _, _, _, _, _, rfl, _⟩ := h; rfl) | (obtain ⟨_, _, _, _, _, _, _, rfl, _⟩ := h; rfl) | (obtain ⟨_, _, _, _, _, _, _, _, rfl, _⟩ := h; rfl) | (obtain ⟨_, _, _, _, _, _, _, _, _, rfl, _⟩ := h; rfl) | (obtain ⟨_, _, _, _, _, _, _, _, _, _, rfl, _⟩ := h; rfl)
theorem cal_is_integer (E : FX K mg) : Cal P w K mg base "is_integer" 1 ["value"] (sp_is_integer K) := by
  obtain ⟨fd, F⟩ := fn_is_integer E
  exact ⟨_, fd, [], [], g_is_integer E, F.kp, F.bindsN (fun _ _ _ _ _ _ us hl => match us, hl with | [_], _ => rfl), .nil, fun _ _ => rfl, okDs F sc_is_integer len_is_integer (der_is_integer E  _) pure_is_integer⟩

theorem len_is_bit : ∀ ds g q x, sp_is_bit K ds g q x → ds.length = 1 := by
  intro ds g q x h
  delta sp_is_bit at h
  first | (obtain ⟨_, rfl, _⟩ := h; rfl) | (obtain ⟨_, _, rfl, _⟩ := h; rfl) | (obtain ⟨_, _, _, rfl, _⟩ := h; rfl) | (obtain ⟨_, _, _, _, rfl, _⟩ := h; rfl) | (obtain ⟨_, _, _, _, _, rfl, _⟩ := h; rfl) | (obtain ⟨_, _, _, _, _, _, rfl, _⟩ := h; rfl) | (obtain ⟨_, _, _, _, _, _, _, rfl, _⟩ := h; rfl) | (obtain ⟨_, _, _, _, _, _, _, _, rfl, _⟩ := h; rfl) | (obtain ⟨_, _, _, _, _, _, _, _, _, rfl, _⟩ := h; rfl) | (obtain ⟨_, _, _, _, _, _, _, _, _, _, rfl, _⟩ := h; rfl)
theorem cal_is_bit (E : FX K mg) : Cal P w K mg base "is_bit" 2 ["value"] (sp_is_bit K) := by
  obtain ⟨fd, F⟩ := fn_is_bit E
  exact ⟨_, fd, [], [], g_is_bit E, F.kp, F.bindsN (fun _ _ _ _ _ _ us hl => match us, hl with | [_], _ => rfl), .nil, fun _ _ => rfl, okDs F sc_is_bit len_is_bit (der_is_bit E (cal_is_integer E) _) pure_is_bit⟩

theorem len_has_cells : ∀ ds g q x, sp_has_cells K ds g q x → ds.length = 1 := by
  intro ds g q x h
  delta sp_has_cells at h
  first | (obtain ⟨_, rfl, _⟩ := h; rfl) | (obtain ⟨_, _, rfl, _⟩ := h; rfl) | (obtain ⟨_, _, _, rfl, _⟩ := h; rfl) | (obtain ⟨_, _, _, _, rfl, _⟩ := h; rfl) | (obtain ⟨_, _, _, _, _, rfl, _⟩ := h; rfl) | (obtain ⟨_, _, _, _, _, _, rfl, _⟩ := h; rfl) | (obtain ⟨_, _, _, _, _, _, _, rfl, _⟩ := h; rfl) | (obtain ⟨_, _, _, _, _, _, _, _, rfl, _⟩ := h; rfl) | (obtain ⟨_, _, _, _, _, _, _, _, _, rfl, _⟩ := h; rfl) | (obtain ⟨_, _, _, _, _, _, _, _, _, _, rfl, _⟩ := h; rfl)
theorem cal_has_cells (E : FX K mg) : Cal P w K mg base "has_cells" 1 ["value"] (sp_has_cells K) := by
  obtain ⟨fd, F⟩ := fn_has_cells E
  exact ⟨_, fd, [], [], g_has_cells E, F.kp, F.bindsN (fun _ _ _ _ _ _ us hl => match us, hl with | [_], _ => rfl), .nil, fun _ _ => rfl, okDs F sc_has_cells len_has_cells (der_has_cells E  _) pure_has_cells⟩

theorem len_checked_row : ∀ ds g q x, sp_checked_row K ds g q x → ds.length = 1 := by
  intro ds g q x h
  delta sp_checked_row at h
  first | (obtain ⟨_, rfl, _⟩ := h; rfl) | (obtain ⟨_, _, rfl, _⟩ := h; rfl) | (obtain ⟨_, _, _, rfl, _⟩ := h; rfl) | (obtain ⟨_, _, _, _, rfl, _⟩ := h; rfl) | (obtain ⟨_, _, _, _, _, rfl, _⟩ := h; rfl) | (obtain ⟨_, _, _, _, _, _, rfl, _⟩ := h; rfl) | (obtain ⟨_, _, _, _, _, _, _, rfl, _⟩ := h; rfl) | (obtain ⟨_, _, _, _, _, _, _, _, rfl, _⟩ := h; rfl) | (obtain ⟨_, _, _, _, _, _, _, _, _, rfl, _⟩ := h; rfl) | (obtain ⟨_, _, _, _, _, _, _, _, _, _, rfl, _⟩ := h; rfl)
theorem cal_checked_row (E : FX K mg) : Cal P w K mg base "checked_row" 3 ["value"] (sp_checked_row K) := by
  obtain ⟨fd, F⟩ := fn_checked_row E
  exact ⟨_, fd, [], [], g_checked_row E, F.kp, F.bindsN (fun _ _ _ _ _ _ us hl => match us, hl with | [_], _ => rfl), .nil, fun _ _ => rfl, okDs F sc_checked_row len_checked_row (der_checked_row E (cal_has_cells E) (cal_is_integer E) (exc_NoRow E) _) pure_checked_row⟩

theorem len_is_row : ∀ ds g q x, sp_is_row K ds g q x → ds.length = 1 := by
  intro ds g q x h
  delta sp_is_row at h
  first | (obtain ⟨_, rfl, _⟩ := h; rfl) | (obtain ⟨_, _, rfl, _⟩ := h; rfl) | (obtain ⟨_, _, _, rfl, _⟩ := h; rfl) | (obtain ⟨_, _, _, _, rfl, _⟩ := h; rfl) | (obtain ⟨_, _, _, _, _, rfl, _⟩ := h; rfl) | (obtain ⟨_, _, _, _, _, _, rfl, _⟩ := h; rfl) | (obtain ⟨_, _, _, _, _, _, _, rfl, _⟩ := h; rfl) | (obtain ⟨_, _, _, _, _, _, _, _, rfl, _⟩ := h; rfl) | (obtain ⟨_, _, _, _, _, _, _, _, _, rfl, _⟩ := h; rfl) | (obtain ⟨_, _, _, _, _, _, _, _, _, _, rfl, _⟩ := h; rfl)
theorem cal_is_row (E : FX K mg) : Cal P w K mg base "is_row" 2 ["value"] (sp_is_row K) := by
  obtain ⟨fd, F⟩ := fn_is_row E
  exact ⟨_, fd, [], [], g_is_row E, F.kp, F.bindsN (fun _ _ _ _ _ _ us hl => match us, hl with | [_], _ => rfl), .nil, fun _ _ => rfl, okDs F sc_is_row len_is_row (der_is_row E (cal_has_cells E) (cal_is_integer E) _) pure_is_row⟩

theorem len_is_bits : ∀ ds g q x, sp_is_bits K ds g q x → ds.length = 1 := by
  intro ds g q x h
  delta sp_is_bits at h
  first | (obtain ⟨_, rfl, _⟩ := h; rfl) | (obtain ⟨_, _, rfl, _⟩ := h; rfl) | (obtain ⟨_, _, _, rfl, _⟩ := h; rfl) | (obtain ⟨_, _, _, _, rfl, _⟩ := h; rfl) | (obtain ⟨_, _, _, _, _, rfl, _⟩ := h; rfl) | (obtain ⟨_, _, _, _, _, _, rfl, _⟩ := h; rfl) | (obtain ⟨_, _, _, _, _, _, _, rfl, _⟩ := h; rfl) | (obtain ⟨_, _, _, _, _, _, _, _, rfl, _⟩ := h; rfl) | (obtain ⟨_, _, _, _, _, _, _, _, _, rfl, _⟩ := h; rfl) | (obtain ⟨_, _, _, _, _, _, _, _, _, _, rfl, _⟩ := h; rfl)
theorem cal_is_bits (E : FX K mg) : Cal P w K mg base "is_bits" 3 ["value"] (sp_is_bits K) := by
  obtain ⟨fd, F⟩ := fn_is_bits E
  exact ⟨_, fd, [], [], g_is_bits E, F.kp, F.bindsN (fun _ _ _ _ _ _ us hl => match us, hl with | [_], _ => rfl), .nil, fun _ _ => rfl, okDs F sc_is_bits len_is_bits (der_is_bits E (cal_has_cells E) (cal_is_bit E) _) pure_is_bits⟩

theorem len_level : ∀ ds g q x, sp_level K ds g q x → ds.length = 2 := by
  intro ds g q x h
  delta sp_level at h
  first | (obtain ⟨_, rfl, _⟩ := h; rfl) | (obtain ⟨_, _, rfl, _⟩ := h; rfl) | (obtain ⟨_, _, _, rfl, _⟩ := h; rfl) | (obtain ⟨_, _, _, _, rfl, _⟩ := h; rfl) | (obtain ⟨_, _, _, _, _, rfl, _⟩ := h; rfl) | (obtain ⟨_, _, _, _, _, _, rfl, _⟩ := h; rfl) | (obtain ⟨_, _, _, _, _, _, _, rfl, _⟩ := h; rfl) | (obtain ⟨_, _, _, _, _, _, _, _, rfl, _⟩ := h; rfl) | (obtain ⟨_, _, _, _, _, _, _, _, _, rfl, _⟩ := h; rfl) | (obtain ⟨_, _, _, _, _, _, _, _, _, _, rfl, _⟩ := h; rfl)
theorem cal_level (E : FX K mg) : Cal P w K mg base "level" 4 ["row", "value"] (sp_level K) := by
  obtain ⟨fd, F⟩ := fn_level E
  exact ⟨_, fd, [], [], g_level E, F.kp, F.bindsN (fun _ _ _ _ _ _ us hl => match us, hl with | [_, _], _ => rfl), .nil, fun _ _ => rfl, okDs F sc_level len_level (der_level E (cal_checked_row E) (cal_is_integer E) (exc_NoNumber E) _) pure_level⟩

theorem len_levels : ∀ ds g q x, sp_levels K ds g q x → ds.length = 1 := by
  intro ds g q x h
  delta sp_levels at h
  first | (obtain ⟨_, rfl, _⟩ := h; rfl) | (obtain ⟨_, _, rfl, _⟩ := h; rfl) | (obtain ⟨_, _, _, rfl, _⟩ := h; rfl) | (obtain ⟨_, _, _, _, rfl, _⟩ := h; rfl) | (obtain ⟨_, _, _, _, _, rfl, _⟩ := h; rfl) | (obtain ⟨_, _, _, _, _, _, rfl, _⟩ := h; rfl) | (obtain ⟨_, _, _, _, _, _, _, rfl, _⟩ := h; rfl) | (obtain ⟨_, _, _, _, _, _, _, _, rfl, _⟩ := h; rfl) | (obtain ⟨_, _, _, _, _, _, _, _, _, rfl, _⟩ := h; rfl) | (obtain ⟨_, _, _, _, _, _, _, _, _, _, rfl, _⟩ := h; rfl)
theorem cal_levels (E : FX K mg) : Cal P w K mg base "levels" 4 ["row"] (sp_levels K) := by
  obtain ⟨fd, F⟩ := fn_levels E
  exact ⟨_, fd, [], [], g_levels E, F.kp, F.bindsN (fun _ _ _ _ _ _ us hl => match us, hl with | [_], _ => rfl), .nil, fun _ _ => rfl, okDs F sc_levels len_levels (der_levels E (cal_checked_row E) _) pure_levels⟩

theorem len__law_mix : ∀ ds g q x, sp__law_mix K ds g q x → ds.length = 2 := by
  intro ds g q x h
  delta sp__law_mix at h
  first | (obtain ⟨_, rfl, _⟩ := h; rfl) | (obtain ⟨_, _, rfl, _⟩ := h; rfl) | (obtain ⟨_, _, _, rfl, _⟩ := h; rfl) | (obtain ⟨_, _, _, _, rfl, _⟩ := h; rfl) | (obtain ⟨_, _, _, _, _, rfl, _⟩ := h; rfl) | (obtain ⟨_, _, _, _, _, _, rfl, _⟩ := h; rfl) | (obtain ⟨_, _, _, _, _, _, _, rfl, _⟩ := h; rfl) | (obtain ⟨_, _, _, _, _, _, _, _, rfl, _⟩ := h; rfl) | (obtain ⟨_, _, _, _, _, _, _, _, _, rfl, _⟩ := h; rfl) | (obtain ⟨_, _, _, _, _, _, _, _, _, _, rfl, _⟩ := h; rfl)
theorem cal__law_mix (E : FX K mg) : Cal P w K mg base "_law_mix" 1 ["_law_number_here", "_law_k"] (sp__law_mix K) := by
  obtain ⟨fd, F⟩ := fn__law_mix E
  exact ⟨_, fd, [], [], g__law_mix E, F.kp, F.bindsN (fun _ _ _ _ _ _ us hl => match us, hl with | [_, _], _ => rfl), .nil, fun _ _ => rfl, okDs F sc__law_mix len__law_mix (der__law_mix E  _) pure__law_mix⟩

theorem len__law_pool : ∀ ds g q x, sp__law_pool K ds g q x → ds.length = 1 := by
  intro ds g q x h
  delta sp__law_pool at h
  first | (obtain ⟨_, rfl, _⟩ := h; rfl) | (obtain ⟨_, _, rfl, _⟩ := h; rfl) | (obtain ⟨_, _, _, rfl, _⟩ := h; rfl) | (obtain ⟨_, _, _, _, rfl, _⟩ := h; rfl) | (obtain ⟨_, _, _, _, _, rfl, _⟩ := h; rfl) | (obtain ⟨_, _, _, _, _, _, rfl, _⟩ := h; rfl) | (obtain ⟨_, _, _, _, _, _, _, rfl, _⟩ := h; rfl) | (obtain ⟨_, _, _, _, _, _, _, _, rfl, _⟩ := h; rfl) | (obtain ⟨_, _, _, _, _, _, _, _, _, rfl, _⟩ := h; rfl) | (obtain ⟨_, _, _, _, _, _, _, _, _, _, rfl, _⟩ := h; rfl)
theorem cal__law_pool (E : FX K mg) : Cal P w K mg base "_law_pool" 1 ["_law_script"] (sp__law_pool K) := by
  obtain ⟨fd, F⟩ := fn__law_pool E
  exact ⟨_, fd, [], [], g__law_pool E, F.kp, F.bindsN (fun _ _ _ _ _ _ us hl => match us, hl with | [_], _ => rfl), .nil, fun _ _ => rfl, okDs F sc__law_pool len__law_pool (der__law_pool E  _) pure__law_pool⟩

theorem len__law_draw : ∀ ds g q x, sp__law_draw K ds g q x → ds.length = 2 := by
  intro ds g q x h
  delta sp__law_draw at h
  first | (obtain ⟨_, rfl, _⟩ := h; rfl) | (obtain ⟨_, _, rfl, _⟩ := h; rfl) | (obtain ⟨_, _, _, rfl, _⟩ := h; rfl) | (obtain ⟨_, _, _, _, rfl, _⟩ := h; rfl) | (obtain ⟨_, _, _, _, _, rfl, _⟩ := h; rfl) | (obtain ⟨_, _, _, _, _, _, rfl, _⟩ := h; rfl) | (obtain ⟨_, _, _, _, _, _, _, rfl, _⟩ := h; rfl) | (obtain ⟨_, _, _, _, _, _, _, _, rfl, _⟩ := h; rfl) | (obtain ⟨_, _, _, _, _, _, _, _, _, rfl, _⟩ := h; rfl) | (obtain ⟨_, _, _, _, _, _, _, _, _, _, rfl, _⟩ := h; rfl)
theorem cal__law_draw (E : FX K mg) : Cal P w K mg base "_law_draw" 2 ["_law_pool_here", "_law_limit"] (sp__law_draw K) := by
  obtain ⟨fd, F⟩ := fn__law_draw E
  exact ⟨_, fd, [], [], g__law_draw E, F.kp, F.bindsN (fun _ _ _ _ _ _ us hl => match us, hl with | [_, _], _ => rfl), .nil, fun _ _ => rfl, okDs F sc__law_draw len__law_draw (der__law_draw E (cal__law_mix E) _) pure__law_draw⟩

theorem len__law_number : ∀ ds g q x, sp__law_number K ds g q x → ds.length = 1 := by
  intro ds g q x h
  delta sp__law_number at h
  first | (obtain ⟨_, rfl, _⟩ := h; rfl) | (obtain ⟨_, _, rfl, _⟩ := h; rfl) | (obtain ⟨_, _, _, rfl, _⟩ := h; rfl) | (obtain ⟨_, _, _, _, rfl, _⟩ := h; rfl) | (obtain ⟨_, _, _, _, _, rfl, _⟩ := h; rfl) | (obtain ⟨_, _, _, _, _, _, rfl, _⟩ := h; rfl) | (obtain ⟨_, _, _, _, _, _, _, rfl, _⟩ := h; rfl) | (obtain ⟨_, _, _, _, _, _, _, _, rfl, _⟩ := h; rfl) | (obtain ⟨_, _, _, _, _, _, _, _, _, rfl, _⟩ := h; rfl) | (obtain ⟨_, _, _, _, _, _, _, _, _, _, rfl, _⟩ := h; rfl)
theorem cal__law_number (E : FX K mg) : Cal P w K mg base "_law_number" 3 ["_law_pool_here"] (sp__law_number K) := by
  obtain ⟨fd, F⟩ := fn__law_number E
  exact ⟨_, fd, [], [], g__law_number E, F.kp, F.bindsN (fun _ _ _ _ _ _ us hl => match us, hl with | [_], _ => rfl), .nil, fun _ _ => rfl, okDs F sc__law_number len__law_number (der__law_number E (cal__law_draw E) _) pure__law_number⟩

theorem len__law_value : ∀ ds g q x, sp__law_value K ds g q x → ds.length = 1 := by
  intro ds g q x h
  delta sp__law_value at h
  first | (obtain ⟨_, rfl, _⟩ := h; rfl) | (obtain ⟨_, _, rfl, _⟩ := h; rfl) | (obtain ⟨_, _, _, rfl, _⟩ := h; rfl) | (obtain ⟨_, _, _, _, rfl, _⟩ := h; rfl) | (obtain ⟨_, _, _, _, _, rfl, _⟩ := h; rfl) | (obtain ⟨_, _, _, _, _, _, rfl, _⟩ := h; rfl) | (obtain ⟨_, _, _, _, _, _, _, rfl, _⟩ := h; rfl) | (obtain ⟨_, _, _, _, _, _, _, _, rfl, _⟩ := h; rfl) | (obtain ⟨_, _, _, _, _, _, _, _, _, rfl, _⟩ := h; rfl) | (obtain ⟨_, _, _, _, _, _, _, _, _, _, rfl, _⟩ := h; rfl)
theorem cal__law_value (E : FX K mg) : Cal P w K mg base "_law_value" 4 ["_law_pool_here"] (sp__law_value K) := by
  obtain ⟨fd, F⟩ := fn__law_value E
  exact ⟨_, fd, [], [], g__law_value E, F.kp, F.bindsN (fun _ _ _ _ _ _ us hl => match us, hl with | [_], _ => rfl), .nil, fun _ _ => rfl, okDs F sc__law_value len__law_value (der__law_value E (cal__law_draw E) (cal__law_number E) _) pure__law_value⟩

theorem len__law_is_integer : ∀ ds g q x, sp__law_is_integer K ds g q x → ds.length = 1 := by
  intro ds g q x h
  delta sp__law_is_integer at h
  first | (obtain ⟨_, rfl, _⟩ := h; rfl) | (obtain ⟨_, _, rfl, _⟩ := h; rfl) | (obtain ⟨_, _, _, rfl, _⟩ := h; rfl) | (obtain ⟨_, _, _, _, rfl, _⟩ := h; rfl) | (obtain ⟨_, _, _, _, _, rfl, _⟩ := h; rfl) | (obtain ⟨_, _, _, _, _, _, rfl, _⟩ := h; rfl) | (obtain ⟨_, _, _, _, _, _, _, rfl, _⟩ := h; rfl) | (obtain ⟨_, _, _, _, _, _, _, _, rfl, _⟩ := h; rfl) | (obtain ⟨_, _, _, _, _, _, _, _, _, rfl, _⟩ := h; rfl) | (obtain ⟨_, _, _, _, _, _, _, _, _, _, rfl, _⟩ := h; rfl)
theorem cal__law_is_integer (E : FX K mg) : Cal P w K mg base "_law_is_integer" 1 ["_law_cell"] (sp__law_is_integer K) := by
  obtain ⟨fd, F⟩ := fn__law_is_integer E
  exact ⟨_, fd, [], [], g__law_is_integer E, F.kp, F.bindsN (fun _ _ _ _ _ _ us hl => match us, hl with | [_], _ => rfl), .nil, fun _ _ => rfl, okDs F sc__law_is_integer len__law_is_integer (der__law_is_integer E  _) pure__law_is_integer⟩

theorem len__law_is_flag : ∀ ds g q x, sp__law_is_flag K ds g q x → ds.length = 2 := by
  intro ds g q x h
  delta sp__law_is_flag at h
  first | (obtain ⟨_, rfl, _⟩ := h; rfl) | (obtain ⟨_, _, rfl, _⟩ := h; rfl) | (obtain ⟨_, _, _, rfl, _⟩ := h; rfl) | (obtain ⟨_, _, _, _, rfl, _⟩ := h; rfl) | (obtain ⟨_, _, _, _, _, rfl, _⟩ := h; rfl) | (obtain ⟨_, _, _, _, _, _, rfl, _⟩ := h; rfl) | (obtain ⟨_, _, _, _, _, _, _, rfl, _⟩ := h; rfl) | (obtain ⟨_, _, _, _, _, _, _, _, rfl, _⟩ := h; rfl) | (obtain ⟨_, _, _, _, _, _, _, _, _, rfl, _⟩ := h; rfl) | (obtain ⟨_, _, _, _, _, _, _, _, _, _, rfl, _⟩ := h; rfl)
theorem cal__law_is_flag (E : FX K mg) : Cal P w K mg base "_law_is_flag" 1 ["_law_actual", "_law_due"] (sp__law_is_flag K) := by
  obtain ⟨fd, F⟩ := fn__law_is_flag E
  exact ⟨_, fd, [], [], g__law_is_flag E, F.kp, F.bindsN (fun _ _ _ _ _ _ us hl => match us, hl with | [_, _], _ => rfl), .nil, fun _ _ => rfl, okDs F sc__law_is_flag len__law_is_flag (der__law_is_flag E  _) pure__law_is_flag⟩

theorem len__law_fault : ∀ ds g q x, sp__law_fault K ds g q x → ds.length = 2 := by
  intro ds g q x h
  delta sp__law_fault at h
  first | (obtain ⟨_, rfl, _⟩ := h; rfl) | (obtain ⟨_, _, rfl, _⟩ := h; rfl) | (obtain ⟨_, _, _, rfl, _⟩ := h; rfl) | (obtain ⟨_, _, _, _, rfl, _⟩ := h; rfl) | (obtain ⟨_, _, _, _, _, rfl, _⟩ := h; rfl) | (obtain ⟨_, _, _, _, _, _, rfl, _⟩ := h; rfl) | (obtain ⟨_, _, _, _, _, _, _, rfl, _⟩ := h; rfl) | (obtain ⟨_, _, _, _, _, _, _, _, rfl, _⟩ := h; rfl) | (obtain ⟨_, _, _, _, _, _, _, _, _, rfl, _⟩ := h; rfl) | (obtain ⟨_, _, _, _, _, _, _, _, _, _, rfl, _⟩ := h; rfl)
theorem cal__law_fault (E : FX K mg) : Cal P w K mg base "_law_fault" 2 ["_law_value_here", "_law_bits"] (sp__law_fault K) := by
  obtain ⟨fd, F⟩ := fn__law_fault E
  exact ⟨_, fd, [], [], g__law_fault E, F.kp, F.bindsN (fun _ _ _ _ _ _ us hl => match us, hl with | [_, _], _ => rfl), .nil, fun _ _ => rfl, okDs F sc__law_fault len__law_fault (der__law_fault E (cal__law_is_integer E) _) pure__law_fault⟩

theorem len__law_told_level : ∀ ds g q x, sp__law_told_level K ds g q x → ds.length = 2 := by
  intro ds g q x h
  delta sp__law_told_level at h
  first | (obtain ⟨_, rfl, _⟩ := h; rfl) | (obtain ⟨_, _, rfl, _⟩ := h; rfl) | (obtain ⟨_, _, _, rfl, _⟩ := h; rfl) | (obtain ⟨_, _, _, _, rfl, _⟩ := h; rfl) | (obtain ⟨_, _, _, _, _, rfl, _⟩ := h; rfl) | (obtain ⟨_, _, _, _, _, _, rfl, _⟩ := h; rfl) | (obtain ⟨_, _, _, _, _, _, _, rfl, _⟩ := h; rfl) | (obtain ⟨_, _, _, _, _, _, _, _, rfl, _⟩ := h; rfl) | (obtain ⟨_, _, _, _, _, _, _, _, _, rfl, _⟩ := h; rfl) | (obtain ⟨_, _, _, _, _, _, _, _, _, _, rfl, _⟩ := h; rfl)
theorem cal__law_told_level (E : FX K mg) : Cal P w K mg base "_law_told_level" 5 ["_law_value_here", "_law_number_here"] (sp__law_told_level K) := by
  obtain ⟨fd, F⟩ := fn__law_told_level E
  exact ⟨_, fd, [], [], g__law_told_level E, F.kp, F.bindsN (fun _ _ _ _ _ _ us hl => match us, hl with | [_, _], _ => rfl), .nil, fun _ _ => rfl, okDs F sc__law_told_level len__law_told_level (der__law_told_level E (cal_level E) _) (pure__law_told_level E)⟩

theorem len__law_told_levels : ∀ ds g q x, sp__law_told_levels K ds g q x → ds.length = 1 := by
  intro ds g q x h
  delta sp__law_told_levels at h
  first | (obtain ⟨_, rfl, _⟩ := h; rfl) | (obtain ⟨_, _, rfl, _⟩ := h; rfl) | (obtain ⟨_, _, _, rfl, _⟩ := h; rfl) | (obtain ⟨_, _, _, _, rfl, _⟩ := h; rfl) | (obtain ⟨_, _, _, _, _, rfl, _⟩ := h; rfl) | (obtain ⟨_, _, _, _, _, _, rfl, _⟩ := h; rfl) | (obtain ⟨_, _, _, _, _, _, _, rfl, _⟩ := h; rfl) | (obtain ⟨_, _, _, _, _, _, _, _, rfl, _⟩ := h; rfl) | (obtain ⟨_, _, _, _, _, _, _, _, _, rfl, _⟩ := h; rfl) | (obtain ⟨_, _, _, _, _, _, _, _, _, _, rfl, _⟩ := h; rfl)
theorem cal__law_told_levels (E : FX K mg) : Cal P w K mg base "_law_told_levels" 5 ["_law_value_here"] (sp__law_told_levels K) := by
  obtain ⟨fd, F⟩ := fn__law_told_levels E
  exact ⟨_, fd, [], [], g__law_told_levels E, F.kp, F.bindsN (fun _ _ _ _ _ _ us hl => match us, hl with | [_], _ => rfl), .nil, fun _ _ => rfl, okDs F sc__law_told_levels len__law_told_levels (der__law_told_levels E (cal_levels E) _) (pure__law_told_levels E)⟩

theorem len__law_level_right : ∀ ds g q x, sp__law_level_right K ds g q x → ds.length = 4 := by
  intro ds g q x h
  delta sp__law_level_right at h
  first | (obtain ⟨_, rfl, _⟩ := h; rfl) | (obtain ⟨_, _, rfl, _⟩ := h; rfl) | (obtain ⟨_, _, _, rfl, _⟩ := h; rfl) | (obtain ⟨_, _, _, _, rfl, _⟩ := h; rfl) | (obtain ⟨_, _, _, _, _, rfl, _⟩ := h; rfl) | (obtain ⟨_, _, _, _, _, _, rfl, _⟩ := h; rfl) | (obtain ⟨_, _, _, _, _, _, _, rfl, _⟩ := h; rfl) | (obtain ⟨_, _, _, _, _, _, _, _, rfl, _⟩ := h; rfl) | (obtain ⟨_, _, _, _, _, _, _, _, _, rfl, _⟩ := h; rfl) | (obtain ⟨_, _, _, _, _, _, _, _, _, _, rfl, _⟩ := h; rfl)
theorem cal__law_level_right (E : FX K mg) : Cal P w K mg base "_law_level_right" 2 ["_law_value_here", "_law_fault_here", "_law_number_here", "_law_told"] (sp__law_level_right K) := by
  obtain ⟨fd, F⟩ := fn__law_level_right E
  exact ⟨_, fd, [], [], g__law_level_right E, F.kp, F.bindsN (fun _ _ _ _ _ _ us hl => match us, hl with | [_, _, _, _], _ => rfl), .nil, fun _ _ => rfl, okDs F sc__law_level_right len__law_level_right (der__law_level_right E (cal__law_is_integer E) _) pure__law_level_right⟩

theorem len__law_levels_right : ∀ ds g q x, sp__law_levels_right K ds g q x → ds.length = 3 := by
  intro ds g q x h
  delta sp__law_levels_right at h
  first | (obtain ⟨_, rfl, _⟩ := h; rfl) | (obtain ⟨_, _, rfl, _⟩ := h; rfl) | (obtain ⟨_, _, _, rfl, _⟩ := h; rfl) | (obtain ⟨_, _, _, _, rfl, _⟩ := h; rfl) | (obtain ⟨_, _, _, _, _, rfl, _⟩ := h; rfl) | (obtain ⟨_, _, _, _, _, _, rfl, _⟩ := h; rfl) | (obtain ⟨_, _, _, _, _, _, _, rfl, _⟩ := h; rfl) | (obtain ⟨_, _, _, _, _, _, _, _, rfl, _⟩ := h; rfl) | (obtain ⟨_, _, _, _, _, _, _, _, _, rfl, _⟩ := h; rfl) | (obtain ⟨_, _, _, _, _, _, _, _, _, _, rfl, _⟩ := h; rfl)
theorem cal__law_levels_right (E : FX K mg) : Cal P w K mg base "_law_levels_right" 2 ["_law_value_here", "_law_fault_here", "_law_told"] (sp__law_levels_right K) := by
  obtain ⟨fd, F⟩ := fn__law_levels_right E
  exact ⟨_, fd, [], [], g__law_levels_right E, F.kp, F.bindsN (fun _ _ _ _ _ _ us hl => match us, hl with | [_, _, _], _ => rfl), .nil, fun _ _ => rfl, okDs F sc__law_levels_right len__law_levels_right (der__law_levels_right E (cal__law_is_integer E) _) pure__law_levels_right⟩

theorem len_law : ∀ ds g q x, sp_law K ds g q x → ds.length = 1 := by
  intro ds g q x h
  delta sp_law at h
  first | (obtain ⟨_, rfl, _⟩ := h; rfl) | (obtain ⟨_, _, rfl, _⟩ := h; rfl) | (obtain ⟨_, _, _, rfl, _⟩ := h; rfl) | (obtain ⟨_, _, _, _, rfl, _⟩ := h; rfl) | (obtain ⟨_, _, _, _, _, rfl, _⟩ := h; rfl) | (obtain ⟨_, _, _, _, _, _, rfl, _⟩ := h; rfl) | (obtain ⟨_, _, _, _, _, _, _, rfl, _⟩ := h; rfl) | (obtain ⟨_, _, _, _, _, _, _, _, rfl, _⟩ := h; rfl) | (obtain ⟨_, _, _, _, _, _, _, _, _, rfl, _⟩ := h; rfl) | (obtain ⟨_, _, _, _, _, _, _, _, _, _, rfl, _⟩ := h; rfl)
theorem ok_law (E : FX K mg) : ∃ fd, (∀ (s : Shared) (v : Value), BindsTo s fd ⟨[v], []⟩ [("_law_script", v)]) ∧ ∀ base : Heap, FnD P w K mg base 6 (He.ga K "law") fd ["_law_script"] (sp_law K) := by
  obtain ⟨fd, F⟩ := fn_law E
  have b := FunD.bindsA (ps := ["_law_script"]) F fun _ _ _ _ _ _ us hl => match us, hl with | [_], _ => rfl
  exact ⟨fd, fun s v => b s [v] rfl, fun base => okDs F sc_law len_law (der_law E (cal__law_pool E) (cal__law_value E) (cal__law_draw E) (cal__law_number E) (cal__law_fault E) (cal__law_is_flag E) (cal_is_row E) (cal_is_bits E) (cal__law_level_right E) (cal__law_told_level E) (cal__law_told_levels E) (cal__law_levels_right E) _) pure_law⟩

end
theorem fx {h : Heap} {w : World} {K : Frag} {mg : Str → Option Value} (X : K.In h) (G : h.Ns mainGlobals mg) (c : He.SaysX fa fn [] [] ex w h K) : FX K mg := ⟨c.t.d, c.more, ⟨h, X, G⟩⟩
end Lw
open PySem PySem.W PySem.Calls PyProof.Rows
theorem PySem.Challenge.cw_ranksweeps_k01_rows_holds : PySem.Challenge.rw_ranksweeps_k01_rows.Holds := by
  w_on; o_law
  refine HandSHeadRun.head_any (r := OpenLaw.row PySem.Challenge.rw_ranksweeps_k01_rows) (q := view (OpenLaw.row PySem.Challenge.rw_ranksweeps_k01_rows).prog [27]) (H := Lw.hk) (ob := Lw.ob) (M := 4000) (loose := Lw.ls) (d := HandSHeadRun.topDef (OpenLaw.row PySem.Challenge.rw_ranksweeps_k01_rows).prog 27) (kwd := []) Lw.ob_eq
    (by kernel_rfl) (fun s => by kernel_rfl) Lw.run (by kernel_rfl) (by kernel_rfl) (by kernel_rfl) (by rfl) (by first | assumption | decide +kernel) (by decide +kernel) ⟨rfl, rfl, rfl, rfl, rfl, by decide +kernel⟩ ?hw ?hc
  case hw => w_witness2
  case hc =>
    refine L2.walk_ofE (l := PySem.Challenge.rw_ranksweeps_k01_rows) (n := 63) (k := 6) (x := "_law_script") (CX := DL.CXa (PySem.Challenge.rw_ranksweeps_k01_rows).prog) rfl (by decide) (by kernel_rfl) ⟨rfl, by decide, by decide⟩ ?F (fun _ _ _ _ z => DL.CXa.no z)
    intro w mg fa h Y G hmg0
    obtain ⟨K, KX, c⟩ := Y
    have E := Lw.fx KX G c
    have hmg : mg ("law" : PySem.Str) = some (.ref fa) := by
      have e : (HandSHeadRun.topDef (OpenLaw.row PySem.Challenge.rw_ranksweeps_k01_rows).prog 27).name = ("law" : PySem.Str) := by kernel_rfl
      rw [← e]
      exact hmg0
    have ea := hmg.symm.trans (Lw.g_law E)
    cases ea
    obtain ⟨fd, hb, hF⟩ := Lw.ok_law (P := (PySem.Challenge.rw_ranksweeps_k01_rows).prog) (w := w) E
    exact ⟨K, fd, _, KX, hb, DL.law_end (P := (PySem.Challenge.rw_ranksweeps_k01_rows).prog) (w := w) Lw.law_top, fun base _ _ => DL.FnOk.any (hF base)⟩

