import PyProof.Rows.All
import Wide.All
import OpenK.AllK
import Wide.FinOn
import HandS.ForMost
import HandS.ForExc
import HandS.Wide
import HandS.TupAny
import HandS.TupMul
import HandS.Deep
import HandS.Style
import HandS.SortKw
import HandS.IsInst
import HandS.Strs
import HandS.Flow
import HandS.Defaults
import HandS.Exc
import HandS.ExcOwn
import HandS.Lambda
import KE.KExcSuper
import KE.KExcIs
import HandS.ExcInit
import HandS.ExcValue
import HandS.ExcSuper
import HandS.ExcIs
import HandS.ExcField
import HandS.Ends
import HandS.HeadEnd
import HandS.OwnEq
import PyProof.ReprRoads
import HandS.WideBits
import HandS.HeadHook1
import HandS.HeadHook2
import KE.GoesEnum
import KE.GoesEnumKw
import HandS.Set
import HandS.SetFor
import HandS.More
import HandS.RaiseMore
import HandS.Star
import KE.SortData
import HandS.Comp
import HandS.TupLe
import HandS.Dict
import HandS.Head0
import HandS.Head1
import HandS.Head2
import HandS.Words
import PySem.Challenge.RW_tickcounts_k01_errors
import KE.KStateDown
import PyProof.FitsInt
set_option Elab.async false
set_option linter.all false
set_option maxRecDepth 100000
set_option maxHeartbeats 4000000
namespace HT
open PySem PySem.Spec L2

/-- values as trees: what is never changed is told whole; what may be changed stands in the store (cell) -/
inductive D where
  | non | bl (b : Bool) | int (i : Int) | str (x : Str)
  | lst (xs : List D) | tup (xs : List D) | klst (xs : List D)
  | obj (C : Str) (fs : List (Str × D))
  | exn (C : Str) (fs : List (Str × D))
  | dK (kvs : List (Key × D)) | dT (kvs : List (List Key × D))
  | cell (k : Nat) | glob (x : Str) | ty (n : String)

/-- what stands in a cell, or in an owned slot -/
inductive CO where
  | lst (xs : List D) | dK (kvs : List (Key × D)) | dT (kvs : List (List Key × D)) | ins (C : Str) (fs : List (Str × D))
abbrev Sto := List CO
/-- a slot of a frame -/
inductive Sl where
  | un | val (d : D) | own (c : CO) | slf (c : CO)
abbrev Env := List Sl

/-- ends of a computation -/
inductive R (α : Type) where
  | ok (a : α) (S : Sto) | exc (C : Str) (fs : List (Str × D)) (S : Sto) | stuck
abbrev Cm (α : Type) := Sto → R α
def R.bnd {α β : Type} (r : R α) (f : α → Cm β) : R β := match r with
  | .ok a S => f a S
  | .exc C fs S => .exc C fs S
  | .stuck => .stuck
instance : Monad Cm where
  pure a := fun S => .ok a S
  bind m f := fun S => (m S).bnd f
def stk {α : Type} : Cm α := fun _ => .stuck
abbrev FE := Env → Cm D

/-- an exception object behind its catch -/
def EXO (C : Addr) (d : Option Addr) (a : Addr) : HO := .ext fun h => ∃ (oe : Obj) (vs : Array Value), h.get? a = some oe ∧ Zc (.ref C) d oe ∧ oe.data = .fields vs
/-- the fields of an error: in its dict, or none -/
def XAt (F : Hp) : Option Addr → List (Str × V) → Prop
  | some d, vs => F d = some (.xd vs)
  | none, vs => vs = []
theorem XAt.map {F G : Hp} {d : Option Addr} {vs : List (Str × V)} (h : XAt F d vs) (m : ∀ a, F a = some (.xd vs) → G a = some (.xd vs)) : XAt G d vs := by
  cases d with
  | none => exact h
  | some d => exact m d h

section
variable (T : Str → Addr) (K : PySem.W.Frag) (ρ : Nat → Option Addr) (H : Hp)
mutual
/-- the value v stands for the tree -/
def Rep : D → V → Prop
  | .non, v => v = .non
  | .bl b, v => v = .bl b
  | .int i, v => v = .int i
  | .str x, v => v = .str x
  | .lst ds, v => ∃ a vs, v = .ref a ∧ H a = some (.lst vs) ∧ RepL ds vs
  | .klst ds, v => ∃ a vs, v = .ref a ∧ SqL K H a vs ∧ RepL ds vs
  | .tup ds, v => ∃ a vs, v = .ref a ∧ SqT K H a vs ∧ RepL ds vs
  | .obj C fs, v => ∃ a dx vs, v = .ref a ∧ H a = some (.ins (T C) dx vs) ∧ RepF fs vs
  | .exn C fs, v => ∃ a d vs, v = .ref a ∧ H a = some (EXO (T C) d a) ∧ XAt H d vs ∧ RepF fs vs
  | .dK kvs, v => ∃ a vs, v = .ref a ∧ H a = some (.dK vs) ∧ RepK kvs vs
  | .dT kvs, v => ∃ a vs, v = .ref a ∧ H a = some (.dT vs) ∧ RepT kvs vs
  | .cell k, v => ∃ a, v = .ref a ∧ ρ k = some a
  | .glob x, v => v = .ref (T x)
  | .ty n, v => v = .ty n
def RepL : List D → List V → Prop
  | [], vs => vs = []
  | d :: ds, vs => ∃ v r, vs = v :: r ∧ Rep d v ∧ RepL ds r
def RepF : List (Str × D) → List (Str × V) → Prop
  | [], vs => vs = []
  | p :: ds, vs => ∃ v r, vs = (p.1, v) :: r ∧ Rep p.2 v ∧ RepF ds r
def RepK : List (Key × D) → List (Key × V) → Prop
  | [], vs => vs = []
  | p :: ds, vs => ∃ v r, vs = (p.1, v) :: r ∧ Rep p.2 v ∧ RepK ds r
def RepT : List (List Key × D) → List (List Key × V) → Prop
  | [], vs => vs = []
  | p :: ds, vs => ∃ v r, vs = (p.1, v) :: r ∧ Rep p.2 v ∧ RepT ds r
end
end
end HT
set_option maxRecDepth 100000
set_option maxHeartbeats 4000000
namespace HT
open PySem PySem.Spec L2

/-- one abstract heap within another -/
abbrev Sub (H H' : Hp) : Prop := ∀ a o, H a = some o → H' a = some o
theorem Sub.seqL {K : PySem.W.Frag} {H H' : Hp} (h : Sub H H') {a : Addr} {xs : List V} (q : SqL K H a xs) : SqL K H' a xs := by
  rcases q with (q | ⟨o, q⟩) | q
  · exact .inl (.inl (h _ _ q))
  · exact .inl (.inr ⟨o, h _ _ q⟩)
  · exact .inr q
theorem Sub.seqT {K : PySem.W.Frag} {H H' : Hp} (h : Sub H H') {a : Addr} {xs : List V} (q : SqT K H a xs) : SqT K H' a xs := by
  rcases q with (q | ⟨o, q⟩) | q
  · exact .inl (.inl (h _ _ q))
  · exact .inl (.inr ⟨o, h _ _ q⟩)
  · exact .inr q
section
variable {T : Str → Addr} {K : PySem.W.Frag} {ρ ρ' : Nat → Option Addr} {H H' : Hp}
mutual
theorem Rep.mono (hr : ∀ k a, ρ k = some a → ρ' k = some a) (hs : Sub H H') : ∀ (d : D) (v : V), Rep T K ρ H d v → Rep T K ρ' H' d v
  | .non, v, h => h
  | .bl b, v, h => h
  | .int i, v, h => h
  | .str x, v, h => h
  | .lst ds, v, h => by
    obtain ⟨a, vs, e, q, r⟩ := h
    exact ⟨a, vs, e, hs _ _ q, RepL.mono hr hs ds vs r⟩
  | .klst ds, v, h => by
    obtain ⟨a, vs, e, q, r⟩ := h
    exact ⟨a, vs, e, hs.seqL q, RepL.mono hr hs ds vs r⟩
  | .tup ds, v, h => by
    obtain ⟨a, vs, e, q, r⟩ := h
    exact ⟨a, vs, e, hs.seqT q, RepL.mono hr hs ds vs r⟩
  | .obj C fs, v, h => by
    obtain ⟨a, dx, vs, e, q, r⟩ := h
    exact ⟨a, dx, vs, e, hs _ _ q, RepF.mono hr hs fs vs r⟩
  | .exn C fs, v, h => by
    obtain ⟨a, d, vs, e, q, q2, r⟩ := h
    exact ⟨a, d, vs, e, hs _ _ q, q2.map fun a z => hs a _ z, RepF.mono hr hs fs vs r⟩
  | .dK kvs, v, h => by
    obtain ⟨a, vs, e, q, r⟩ := h
    exact ⟨a, vs, e, hs _ _ q, RepK.mono hr hs kvs vs r⟩
  | .dT kvs, v, h => by
    obtain ⟨a, vs, e, q, r⟩ := h
    exact ⟨a, vs, e, hs _ _ q, RepT.mono hr hs kvs vs r⟩
  | .cell k, v, h => by
    obtain ⟨a, e, q⟩ := h
    exact ⟨a, e, hr _ _ q⟩
  | .glob x, v, h => h
  | .ty n, v, h => h
theorem RepL.mono (hr : ∀ k a, ρ k = some a → ρ' k = some a) (hs : Sub H H') : ∀ (ds : List D) (vs : List V), RepL T K ρ H ds vs → RepL T K ρ' H' ds vs
  | [], vs, h => h
  | d :: ds, vs, h => by
    obtain ⟨v, r, e, q, q2⟩ := h
    exact ⟨v, r, e, Rep.mono hr hs d v q, RepL.mono hr hs ds r q2⟩
theorem RepF.mono (hr : ∀ k a, ρ k = some a → ρ' k = some a) (hs : Sub H H') : ∀ (ds : List (Str × D)) (vs : List (Str × V)), RepF T K ρ H ds vs → RepF T K ρ' H' ds vs
  | [], vs, h => h
  | (x, d) :: ds, vs, h => by
    obtain ⟨v, r, e, q, q2⟩ := h
    exact ⟨v, r, e, Rep.mono hr hs d v q, RepF.mono hr hs ds r q2⟩
theorem RepK.mono (hr : ∀ k a, ρ k = some a → ρ' k = some a) (hs : Sub H H') : ∀ (ds : List (Key × D)) (vs : List (Key × V)), RepK T K ρ H ds vs → RepK T K ρ' H' ds vs
  | [], vs, h => h
  | (x, d) :: ds, vs, h => by
    obtain ⟨v, r, e, q, q2⟩ := h
    exact ⟨v, r, e, Rep.mono hr hs d v q, RepK.mono hr hs ds r q2⟩
theorem RepT.mono (hr : ∀ k a, ρ k = some a → ρ' k = some a) (hs : Sub H H') : ∀ (ds : List (List Key × D)) (vs : List (List Key × V)), RepT T K ρ H ds vs → RepT T K ρ' H' ds vs
  | [], vs, h => h
  | (x, d) :: ds, vs, h => by
    obtain ⟨v, r, e, q, q2⟩ := h
    exact ⟨v, r, e, Rep.mono hr hs d v q, RepT.mono hr hs ds r q2⟩
end
theorem RepL.len : ∀ {ds : List D} {vs : List V}, RepL T K ρ H ds vs → ds.length = vs.length
  | [], vs, h => by
    have e : vs = [] := h
    rw [e]
    rfl
  | d :: ds, vs, h => by
    obtain ⟨v, r, e, q, q2⟩ := h
    rw [e, List.length_cons, List.length_cons, RepL.len q2]
theorem RepL.get : ∀ {ds : List D} {vs : List V} {i : Nat} {d : D}, RepL T K ρ H ds vs → ds[i]? = some d → ∃ v, vs[i]? = some v ∧ Rep T K ρ H d v
  | [], _, i, d, _, e => by simp at e
  | d :: ds, vs, 0, d', h, e => by
    obtain ⟨v, r, ev, q, _⟩ := h
    subst ev
    simp at e
    subst e
    exact ⟨v, rfl, q⟩
  | d :: ds, vs, i + 1, d', h, e => by
    obtain ⟨v, r, ev, _, q⟩ := h
    subst ev
    obtain ⟨u, h1, h2⟩ := RepL.get (i := i) (d := d') q (by simpa using e)
    exact ⟨u, by simpa using h1, h2⟩
theorem RepL.getV : ∀ {ds : List D} {vs : List V} {i : Nat} {v : V}, RepL T K ρ H ds vs → vs[i]? = some v → ∃ d, ds[i]? = some d ∧ Rep T K ρ H d v
  | [], vs, i, v, h, e => by
    have h' : vs = [] := h
    rw [h'] at e
    simp at e
  | d :: ds, vs, 0, v', h, e => by
    obtain ⟨v, r, ev, q, _⟩ := h
    subst ev
    simp at e
    subst e
    exact ⟨d, rfl, q⟩
  | d :: ds, vs, i + 1, v', h, e => by
    obtain ⟨v, r, ev, _, q⟩ := h
    subst ev
    obtain ⟨u, h1, h2⟩ := RepL.getV (i := i) (v := v') q (by simpa using e)
    exact ⟨u, by simpa using h1, h2⟩
theorem RepL.app : ∀ {ds es : List D} {vs us : List V}, RepL T K ρ H ds vs → RepL T K ρ H es us → RepL T K ρ H (ds ++ es) (vs ++ us)
  | [], es, vs, us, h, h2 => by
    have h' : vs = [] := h
    subst h'
    exact h2
  | d :: ds, es, vs, us, h, h2 => by
    obtain ⟨v, r, ev, q, q2⟩ := h
    subst ev
    exact ⟨v, r ++ us, rfl, q, RepL.app q2 h2⟩
theorem RepL.one {d : D} {v : V} (h : Rep T K ρ H d v) : RepL T K ρ H [d] [v] := ⟨v, [], rfl, h, rfl⟩
theorem RepL.set : ∀ {ds : List D} {vs : List V} (i : Nat) {d : D} {v : V}, RepL T K ρ H ds vs → Rep T K ρ H d v → RepL T K ρ H (ds.set i d) (vs.set i v)
  | [], vs, i, d, v, h, _ => by
    have h' : vs = [] := h
    subst h'
    exact h
  | d :: ds, vs, 0, d', v', h, q => by
    obtain ⟨v, r, ev, _, q2⟩ := h
    subst ev
    exact ⟨v', r, rfl, q, q2⟩
  | d :: ds, vs, i + 1, d', v', h, q => by
    obtain ⟨v, r, ev, q1, q2⟩ := h
    subst ev
    exact ⟨v, r.set i v', rfl, q1, RepL.set i q2 q⟩
theorem RepL.take : ∀ {ds : List D} {vs : List V} (n : Nat), RepL T K ρ H ds vs → RepL T K ρ H (ds.take n) (vs.take n)
  | ds, vs, 0, h => by
    rw [List.take_zero, List.take_zero]
    exact (rfl : ([] : List V) = [])
  | [], vs, n + 1, h => by
    have h' : vs = [] := h
    subst h'
    exact h
  | d :: ds, vs, n + 1, h => by
    obtain ⟨v, r, ev, q1, q2⟩ := h
    subst ev
    exact ⟨v, r.take n, rfl, q1, RepL.take n q2⟩
theorem RepL.drop : ∀ {ds : List D} {vs : List V} (n : Nat), RepL T K ρ H ds vs → RepL T K ρ H (ds.drop n) (vs.drop n)
  | ds, vs, 0, h => by
    rw [List.drop_zero, List.drop_zero]
    exact h
  | [], vs, n + 1, h => by
    have h' : vs = [] := h
    subst h'
    exact h
  | d :: ds, vs, n + 1, h => by
    obtain ⟨v, r, ev, q1, q2⟩ := h
    subst ev
    exact RepL.drop n q2
theorem RepL.of_all : ∀ {ds : List D} {vs : List V}, ds.length = vs.length → (∀ (i : Nat) (d : D) (v : V), ds[i]? = some d → vs[i]? = some v → Rep T K ρ H d v) → RepL T K ρ H ds vs
  | [], [], _, _ => rfl
  | [], _ :: _, e, _ => by simp at e
  | _ :: _, [], e, _ => by simp at e
  | d :: ds, v :: vs, e, h => ⟨v, vs, rfl, h 0 d v rfl rfl, RepL.of_all (by simpa using e) fun i d' v' h1 h2 => h (i + 1) d' v' (by simpa using h1) (by simpa using h2)⟩
theorem RepL.rev {ds : List D} {vs : List V} (h : RepL T K ρ H ds vs) : RepL T K ρ H ds.reverse vs.reverse := by
  have hl := h.len
  refine RepL.of_all (by simpa using hl) fun i d v h1 h2 => ?_
  have hi : i < ds.length := by
    have := (List.getElem?_eq_some_iff.mp h1).1
    simpa using this
  rw [List.getElem?_reverse hi] at h1
  rw [List.getElem?_reverse (by omega)] at h2
  obtain ⟨v', e1, r⟩ := h.get h1
  rw [hl] at e1
  rw [e1] at h2
  cases h2
  exact r
theorem RepF.look : ∀ {fs : List (Str × D)} {vs : List (Str × V)} {f : Str} {d : D}, RepF T K ρ H fs vs → fs.lookup f = some d → ∃ v, vs.lookup f = some v ∧ Rep T K ρ H d v
  | [], _, f, d, _, e => by simp at e
  | (x, d) :: fs, vs, f, d', h, e => by
    obtain ⟨v, r, ev, q, q2⟩ := h
    subst ev
    rw [List.lookup_cons] at e
    rw [List.lookup_cons]
    cases hx : (f == x) with
    | true =>
      rw [hx] at e
      cases e
      exact ⟨v, rfl, q⟩
    | false =>
      rw [hx] at e
      exact RepF.look q2 e
theorem RepF.nolook : ∀ {fs : List (Str × D)} {vs : List (Str × V)} {f : Str}, RepF T K ρ H fs vs → fs.lookup f = none → vs.lookup f = none
  | [], vs, f, h, e => by
    have h' : vs = [] := h
    subst h'
    rfl
  | (x, d) :: fs, vs, f, h, e => by
    obtain ⟨v, r, ev, q, q2⟩ := h
    subst ev
    rw [List.lookup_cons] at e
    rw [List.lookup_cons]
    cases hx : (f == x) with
    | true =>
      rw [hx] at e
      cases e
    | false =>
      rw [hx] at e
      exact RepF.nolook q2 e
theorem RepF.len : ∀ {ds : List (Str × D)} {vs : List (Str × V)}, RepF T K ρ H ds vs → ds.length = vs.length
  | [], vs, h => by
    have e : vs = [] := h
    rw [e]
    rfl
  | d :: ds, vs, h => by
    obtain ⟨v, r, e, q, q2⟩ := h
    rw [e, List.length_cons, List.length_cons, RepF.len q2]
/-- a field stored -/
def putD (f : Str) (d : D) : List (Str × D) → List (Str × D)
  | [] => [(f, d)]
  | (g, x) :: r => if g = f then (g, d) :: r else (g, x) :: putD f d r
theorem RepF.put {f : Str} {d : D} {v : V} (hv : Rep T K ρ H d v) : ∀ {fs : List (Str × D)} {vs : List (Str × V)}, RepF T K ρ H fs vs → RepF T K ρ H (putD f d fs) (putF f v vs)
  | [], vs, h => by
    have h' : vs = [] := h
    subst h'
    exact ⟨v, [], rfl, hv, rfl⟩
  | (g, x) :: fs, vs, h => by
    obtain ⟨w, r, ev, q, q2⟩ := h
    subst ev
    show RepF T K ρ H (if g = f then (g, d) :: fs else (g, x) :: putD f d fs) (if g = f then (g, v) :: r else (g, w) :: putF f v r)
    by_cases hg : g = f
    · rw [if_pos hg, if_pos hg]
      exact ⟨v, r, rfl, hv, q2⟩
    · rw [if_neg hg, if_neg hg]
      exact ⟨w, putF f v r, rfl, q, RepF.put hv q2⟩
end

/-! ### the world -/
/-- what is hidden (other frames' own objects, ours); me: the object that an __init__ makes -/
structure Hid where
  set : Addr → Prop
  me : Addr
instance : CoeFun Hid (fun _ => Addr → Prop) := ⟨Hid.set⟩
open Classical in
/-- what is frozen: neither hidden nor a cell -/
noncomputable def Fz (ρ : Nat → Option Addr) (Z : Hid) (H : Hp) : Hp := fun a => if Z a ∨ ∃ k, ρ k = some a then none else H a
section
variable {ρ ρ' : Nat → Option Addr} {Z : Hid} {H H' : Hp} {a : Addr} {o : HO}
theorem Fz_at (h : Fz ρ Z H a = some o) : H a = some o ∧ ¬ Z a ∧ ∀ k, ρ k ≠ some a := by
  unfold Fz at h
  split at h
  · cases h
  · rename_i hn
    exact ⟨h, fun z => hn (.inl z), fun k z => hn (.inr ⟨k, z⟩)⟩
theorem Fz_mk (h : H a = some o) (hz : ¬ Z a) (hr : ∀ k, ρ k ≠ some a) : Fz ρ Z H a = some o := by
  unfold Fz
  rw [if_neg]
  · exact h
  · rintro (z | ⟨k, z⟩)
    · exact hz z
    · exact hr k z
theorem Fz_sub : Sub (Fz ρ Z H) H := fun a o h => (Fz_at h).1
end

/-- what an object of the store is -/
def HObj (T : Str → Addr) (K : PySem.W.Frag) (ρ : Nat → Option Addr) (F : Hp) : CO → HO → Prop
  | .lst ds, o => ∃ vs, o = .lst vs ∧ RepL T K ρ F ds vs
  | .dK kvs, o => ∃ vs, o = .dK vs ∧ RepK T K ρ F kvs vs
  | .dT kvs, o => ∃ vs, o = .dT vs ∧ RepT T K ρ F kvs vs
  | .ins C fs, o => ∃ dx vs, o = .ins (T C) dx vs ∧ RepF T K ρ F fs vs
theorem HObj.mono {T : Str → Addr} {K : PySem.W.Frag} {ρ ρ' : Nat → Option Addr} {H H' : Hp} (hr : ∀ k a, ρ k = some a → ρ' k = some a) (hs : Sub H H') {c : CO} {o : HO} (h : HObj T K ρ H c o) : HObj T K ρ' H' c o := by
  cases c with
  | lst ds =>
    obtain ⟨vs, e, r⟩ := h
    exact ⟨vs, e, RepL.mono hr hs _ _ r⟩
  | dK kvs =>
    obtain ⟨vs, e, r⟩ := h
    exact ⟨vs, e, RepK.mono hr hs _ _ r⟩
  | dT kvs =>
    obtain ⟨vs, e, r⟩ := h
    exact ⟨vs, e, RepT.mono hr hs _ _ r⟩
  | ins C fs =>
    obtain ⟨dx, vs, e, r⟩ := h
    exact ⟨dx, vs, e, RepF.mono hr hs _ _ r⟩
theorem HObj.mut {T : Str → Addr} {K : PySem.W.Frag} {ρ : Nat → Option Addr} {F : Hp} {c : CO} {o : HO} (h : HObj T K ρ F c o) : Mut (some o) := by
  cases c <;> (obtain ⟨_, h⟩ := h) <;> first
    | (rw [h.1]; exact True.intro)
    | (obtain ⟨_, h, _⟩ := h; rw [h]; exact True.intro)

structure Wd (T : Str → Addr) (K : PySem.W.Frag) (ρ : Nat → Option Addr) (S : Sto) (Z : Hid) (H : Hp) : Prop where
  dom : ∀ k a, ρ k = some a → k < S.length
  cells : ∀ (k : Nat) (c : CO), S[k]? = some c → ∃ a o, ρ k = some a ∧ ¬ Z a ∧ H a = some o ∧ HObj T K ρ (Fz ρ Z H) c o
  inj : ∀ j k a, ρ j = some a → ρ k = some a → j = k
  there : ∀ a, Z a → ∃ o, H a = some o

/-- a later world, the hidden things as they were -/
structure Ext (ρ : Nat → Option Addr) (Z : Hid) (H : Hp) (ρ' : Nat → Option Addr) (H' : Hp) : Prop where
  cells : ∀ k a, ρ k = some a → ρ' k = some a
  frz : Sub (Fz ρ Z H) (Fz ρ' Z H')
  hid : ∀ a, Z a → H' a = H a
theorem Ext.refl {ρ : Nat → Option Addr} {Z : Hid} {H : Hp} : Ext ρ Z H ρ H := ⟨fun _ _ h => h, fun _ _ h => h, fun _ _ => rfl⟩
theorem Ext.trans {ρ ρ1 ρ2 : Nat → Option Addr} {Z : Hid} {H H1 H2 : Hp} (a : Ext ρ Z H ρ1 H1) (b : Ext ρ1 Z H1 ρ2 H2) : Ext ρ Z H ρ2 H2 :=
  ⟨fun k x h => b.cells k x (a.cells k x h), fun x o h => b.frz x o (a.frz x o h), fun x h => (b.hid x h).trans (a.hid x h)⟩
theorem Ext.rep {T : Str → Addr} {K : PySem.W.Frag} {ρ ρ1 : Nat → Option Addr} {Z : Hid} {H H1 : Hp} (a : Ext ρ Z H ρ1 H1) {d : D} {v : V} (h : Rep T K ρ (Fz ρ Z H) d v) : Rep T K ρ1 (Fz ρ1 Z H1) d v := Rep.mono a.cells a.frz d v h
theorem Ext.repL {T : Str → Addr} {K : PySem.W.Frag} {ρ ρ1 : Nat → Option Addr} {Z : Hid} {H H1 : Hp} (a : Ext ρ Z H ρ1 H1) {d : List D} {v : List V} (h : RepL T K ρ (Fz ρ Z H) d v) : RepL T K ρ1 (Fz ρ1 Z H1) d v := RepL.mono a.cells a.frz d v h

/-- the slots stand for the env -/
structure ER (T : Str → Addr) (K : PySem.W.Frag) (ρ : Nat → Option Addr) (Z : Hid) (H : Hp) (σ : St) (env : Env) : Prop where
  val : ∀ (i : Nat) (d : D), env[i]? = some (.val d) → ∃ v, σ[i]? = some (some v) ∧ Rep T K ρ (Fz ρ Z H) d v
  own : ∀ (i : Nat) (c : CO), env[i]? = some (.own c) → ∃ a o, σ[i]? = some (some (V.ref a)) ∧ Z a ∧ H a = some o ∧ HObj T K ρ (Fz ρ Z H) c o
  slf : ∀ (i : Nat) (c : CO), env[i]? = some (.slf c) → ∃ o, σ[i]? = some (some (V.ref Z.me)) ∧ Z Z.me ∧ H Z.me = some o ∧ HObj T K ρ (Fz ρ Z H) c o
  len : env.length = σ.length
theorem ER.ext {T : Str → Addr} {K : PySem.W.Frag} {ρ ρ1 : Nat → Option Addr} {Z : Hid} {H H1 : Hp} {σ : St} {env : Env} (e : ER T K ρ Z H σ env) (x : Ext ρ Z H ρ1 H1) : ER T K ρ1 Z H1 σ env := by
  refine ⟨fun i d h => ?_, fun i c h => ?_, fun i c h => ?_, e.len⟩
  · obtain ⟨v, h1, h2⟩ := e.val i d h
    exact ⟨v, h1, x.rep h2⟩
  · obtain ⟨a, o, h1, h2, h3, h4⟩ := e.own i c h
    exact ⟨a, o, h1, h2, (x.hid a h2).trans h3, h4.mono x.cells x.frz⟩
  · obtain ⟨o, h1, h2, h3, h4⟩ := e.slf i c h
    exact ⟨o, h1, h2, (x.hid _ h2).trans h3, h4.mono x.cells x.frz⟩

/-! ### readings -/
/-- how what is computed stands in the heap -/
abbrev Rl (α β : Type) := (Nat → Option Addr) → Hp → α → β → Prop
abbrev rB : Rl Bool Bool := fun _ _ a b => a = b
section
variable (T : Str → Addr) (K : PySem.W.Frag)
abbrev rD : Rl D V := fun ρ H d v => Rep T K ρ H d v
abbrev rL : Rl (List D) (List V) := fun ρ H d v => RepL T K ρ H d v
def Good {α β : Type} (rel : Rl α β) (W : WX) (σ : St) (Q : β → Hp → Prop) (ρ : Nat → Option Addr) (Z : Hid) (H : Hp) : R α → Prop
  | .ok d S' => ∀ v H' ρ', Ext ρ Z H ρ' H' → Wd T K ρ' S' Z H' → rel ρ' (Fz ρ' Z H') d v → Q v H'
  | .exc C fs S' => ∀ dx vs H' ρ', Ext ρ Z H ρ' H' → Wd T K ρ' S' Z H' → XAt (Fz ρ' Z H') dx vs → RepF T K ρ' (Fz ρ' Z H') fs vs → W (.ref (T C)) dx σ H'
  | .stuck => False
/-- the reading: what the env computes -/
def lift {α β : Type} (rel : Rl α β) (W : WX) (F : Env → Cm α) (σ : St) (H : Hp) (Q : β → Hp → Prop) : Prop := ∃ ρ S Z env, Wd T K ρ S Z H ∧ ER T K ρ Z H σ env ∧ Good T K rel W σ Q ρ Z H (F env S)
end
section
variable {T : Str → Addr} {K : PySem.W.Frag} {W : WX} {σ : St} {ρ ρ1 : Nat → Option Addr} {Z : Hid} {H H1 : Hp} {S : Sto} {env : Env}
variable {α β γ δ : Type} {rel : Rl α β} {rel2 : Rl γ δ} {Q : β → Hp → Prop} {Q2 : δ → Hp → Prop}
theorem Good.later {r : R α} (g : Good T K rel W σ Q ρ Z H r) (x : Ext ρ Z H ρ1 H1) : Good T K rel W σ Q ρ1 Z H1 r := by
  cases r with
  | ok d S' => exact fun v H' ρ' e w q => g v H' ρ' (x.trans e) w q
  | exc C fs S' => exact fun dx vs H' ρ' e w q q2 => g dx vs H' ρ' (x.trans e) w q q2
  | stuck => exact g
/-- what is known behind a first part: the rest k is still to be run -/
def Behind (T : Str → Addr) (K : PySem.W.Frag) (rel : Rl α β) (rel2 : Rl γ δ) (W : WX) (σ : St) (Q : δ → Hp → Prop) (ρ : Nat → Option Addr) (Z : Hid) (H : Hp) (env : Env) (k : α → Cm γ) (v : β) (H' : Hp) : Prop :=
  ∃ ρ' S' d, Ext ρ Z H ρ' H' ∧ Wd T K ρ' S' Z H' ∧ ER T K ρ' Z H' σ env ∧ rel ρ' (Fz ρ' Z H') d v ∧ Good T K rel2 W σ Q ρ' Z H' (k d S')
theorem lift_bnd {F : Env → Cm α} {k : α → Cm γ} (w : Wd T K ρ S Z H) (e : ER T K ρ Z H σ env) (g : Good T K rel2 W σ Q2 ρ Z H ((F env S).bnd k)) : lift T K rel W F σ H (Behind T K rel rel2 W σ Q2 ρ Z H env k) := by
  refine ⟨ρ, S, Z, env, w, e, ?_⟩
  cases h : F env S with
  | ok d S' =>
    rw [h] at g
    exact fun v H' ρ' x w' q => ⟨ρ', S', d, x, w', e.ext x, q, g.later x⟩
  | exc C fs S' =>
    rw [h] at g
    exact g
  | stuck =>
    rw [h] at g
    exact g
end

/-- an expression that computes F; W: what is wished of an exception -/
abbrev PF (T : Str → Addr) (X : Cx) (W : WX) (e : Expr) (F : FE) : Prop := PE X e (lift T X.K (rD T X.K) W F)
/-- a test -/
abbrev TF (T : Str → Addr) (X : Cx) (W : WX) (e : Expr) (F : Env → Cm Bool) : Prop := PT X e (lift T X.K rB W F)
abbrev TWF (T : Str → Addr) (X : Cx) (W : WX) (e : Expr) (F : Env → Cm Bool) : Prop := PW X e (lift T X.K rB W F)
/-- arguments -/
abbrev AF (T : Str → Addr) (X : Cx) (W : WX) (es : List Expr) (F : Env → Cm (List D)) : Prop := PA X es (lift T X.K (rL T X.K) W F)
theorem pe_imp {X : Cx} {e : Expr} {t t' : TE} (h : PE X e t) (i : ∀ σ H Q, t' σ H Q → t σ H Q) : PE X e t' := ⟨fun pins s σ H Q I q => h.run pins s σ H Q I (i σ H Q q)⟩
theorem pt_imp {X : Cx} {e : Expr} {t t' : TT} (h : PT X e t) (i : ∀ σ H Q, t' σ H Q → t σ H Q) : PT X e t' := ⟨fun pins s σ H Q I q => h.run pins s σ H Q I (i σ H Q q)⟩
theorem pw_imp {X : Cx} {e : Expr} {t t' : TT} (h : PW X e t) (i : ∀ σ H Q, t' σ H Q → t σ H Q) : PW X e t' := ⟨fun wh pins s σ H Q I q => h.run wh pins s σ H Q I (i σ H Q q)⟩
theorem pa_imp {X : Cx} {es : List Expr} {t t' : TA} (h : PA X es t) (i : ∀ σ H Q, t' σ H Q → t σ H Q) : PA X es t' := ⟨fun pos pins s σ H Q I q => h.run pos pins s σ H Q I (i σ H Q q)⟩

/-! ### values that need no store -/
section
variable {T : Str → Addr} {X : Cx} {W : WX}
theorem pf_const {e : Expr} {v : V} {d : D} (h : PE X e (tC v)) (r : ∀ ρ H, Rep T X.K ρ H d v) : PF T X W e (fun _ => pure d) := by
  refine pe_imp h fun σ H Q q => ?_
  obtain ⟨ρ, S, Z, env, w, e, g⟩ := q
  exact g v H ρ .refl w (r _ _)
theorem pf_int {i : Int} {j pos} : PF T X W (.Constant (.int i) j pos) (fun _ => pure (.int i)) := pf_const pe_int fun _ _ => rfl
theorem pf_bl {b : Bool} {j pos} : PF T X W (.Constant (.bool b) j pos) (fun _ => pure (.bl b)) := pf_const pe_bl fun _ _ => rfl
theorem pf_non {j pos} : PF T X W (.Constant .none j pos) (fun _ => pure .non) := pf_const pe_non fun _ _ => rfl
theorem pf_str {x : Str} {j pos} : PF T X W (.Constant (.str x) j pos) (fun _ => pure (.str x)) := pf_const pe_str fun _ _ => rfl
/-- a slot that holds a tree -/
def fVar (i : Nat) : FE := fun env => match env[i]? with
  | some (.val d) => pure d
  | _ => stk
theorem pf_var {i : Nat} {x : Str} {pos : Pos} (h : PE X (.Name x pos) (tVar i)) : PF T X W (.Name x pos) (fVar i) := by
  refine pe_imp h fun σ H Q q => ?_
  obtain ⟨ρ, S, Z, env, w, e, g⟩ := q
  unfold fVar at g
  cases hd : env[i]? with
  | none =>
    rw [hd] at g
    exact g.elim
  | some sl =>
    rw [hd] at g
    cases sl with
    | val d =>
      obtain ⟨v, h1, h2⟩ := e.val i d hd
      exact ⟨v, h1, g v H ρ .refl w h2⟩
    | un => exact g.elim
    | own c => exact g.elim
    | slf c => exact g.elim
end
end HT
set_option maxRecDepth 100000
set_option maxHeartbeats 4000000
namespace HT
open PySem PySem.Spec L2

section
variable {T : Str → Addr} {K : PySem.W.Frag} {W : WX} {σ : St} {ρ ρ1 : Nat → Option Addr} {Z : Hid} {H H1 : Hp} {S : Sto} {env : Env}
variable {α β : Type} {rel : Rl α β} {Q Q' : β → Hp → Prop}
theorem Good.imp {r : R α} (g : Good T K rel W σ Q ρ Z H r) (h : ∀ v H', Q v H' → Q' v H') : Good T K rel W σ Q' ρ Z H r := by
  cases r with
  | ok d S' => exact fun v H' ρ' e w q => h v H' (g v H' ρ' e w q)
  | exc C fs S' => exact g
  | stuck => exact g
theorem lift_imp {F : Env → Cm α} (h : lift T K rel W F σ H Q) (i : ∀ v H', Q v H' → Q' v H') : lift T K rel W F σ H Q' := by
  obtain ⟨ρ, S, Z, env, w, e, g⟩ := h
  exact ⟨ρ, S, Z, env, w, e, g.imp i⟩
/-- nothing is changed: an answer at once -/
theorem Good.now {d : α} {v : β} (g : Good T K rel W σ Q ρ Z H (.ok d S)) (w : Wd T K ρ S Z H) (r : rel ρ (Fz ρ Z H) d v) : Q v H := g v H ρ .refl w r
end

/-! ### the world, step by step -/
section
variable {T : Str → Addr} {K : PySem.W.Frag} {ρ : Nat → Option Addr} {Z : Hid} {H : Hp} {S : Sto} {p : Addr} {o : HO} {c : CO}
theorem fz_new (w : Wd T K ρ S Z H) (hp : H p = none) : ¬ Z p ∧ ∀ k, ρ k ≠ some p := by
  refine ⟨fun z => ?_, fun k z => ?_⟩
  · obtain ⟨o, e⟩ := w.there p z
    rw [hp] at e
    cases e
  · have hk := w.dom k p z
    obtain ⟨a, o, h1, _, h2, _⟩ := w.cells k S[k] (List.getElem?_eq_getElem hk)
    rw [z] at h1
    cases h1
    rw [hp] at h2
    cases h2
/-- a frozen thing more -/
theorem new_frz (w : Wd T K ρ S Z H) (hp : H p = none) : Ext ρ Z H ρ (upd H p o) ∧ Wd T K ρ S Z (upd H p o) ∧ Fz ρ Z (upd H p o) p = some o := by
  obtain ⟨nz, nr⟩ := fz_new w hp
  have ne : ∀ a u, H a = some u → a ≠ p := fun a u e z => by
    rw [z, hp] at e
    cases e
  have sub : Sub (Fz ρ Z H) (Fz ρ Z (upd H p o)) := fun a u e => by
    obtain ⟨e1, e2, e3⟩ := Fz_at e
    exact Fz_mk (by rw [upd_ne (ne a u e1)]; exact e1) e2 e3
  have x : Ext ρ Z H ρ (upd H p o) := ⟨fun _ _ h => h, sub, fun a z => upd_ne (fun e => nz (e ▸ z))⟩
  refine ⟨x, ⟨w.dom, fun k c hc => ?_, w.inj, fun a z => ?_⟩, Fz_mk upd_same nz nr⟩
  · obtain ⟨a, u, h1, h2, h3, h4⟩ := w.cells k c hc
    exact ⟨a, u, h1, h2, by rw [upd_ne (ne a u h3)]; exact h3, h4.mono x.cells x.frz⟩
  · obtain ⟨u, e⟩ := w.there a z
    exact ⟨u, by rw [upd_ne (ne a u e)]; exact e⟩
/-- one cell more -/
def more (ρ : Nat → Option Addr) (n : Nat) (p : Addr) : Nat → Option Addr := fun k => if k = n then some p else ρ k
theorem new_cell (w : Wd T K ρ S Z H) (hp : H p = none) (h : HObj T K ρ (Fz ρ Z H) c o) : Ext ρ Z H (more ρ S.length p) (upd H p o) ∧ Wd T K (more ρ S.length p) (S ++ [c]) Z (upd H p o) ∧ more ρ S.length p S.length = some p := by
  obtain ⟨nz, nr⟩ := fz_new w hp
  have ne : ∀ a u, H a = some u → a ≠ p := fun a u e z => by
    rw [z, hp] at e
    cases e
  have old : ∀ k a, ρ k = some a → more ρ S.length p k = some a := fun k a e => by
    unfold more
    rw [if_neg (Nat.ne_of_lt (w.dom k a e))]
    exact e
  have inv : ∀ k a, more ρ S.length p k = some a → (k = S.length ∧ a = p) ∨ ρ k = some a := fun k a e => by
    unfold more at e
    split at e
    · rename_i hk
      exact .inl ⟨hk, (Option.some.inj e).symm⟩
    · exact .inr e
  have sub : Sub (Fz ρ Z H) (Fz (more ρ S.length p) Z (upd H p o)) := fun a u e => by
    obtain ⟨e1, e2, e3⟩ := Fz_at e
    refine Fz_mk (by rw [upd_ne (ne a u e1)]; exact e1) e2 fun k z => ?_
    rcases inv k a z with ⟨_, q⟩ | q
    · exact ne a u e1 q
    · exact e3 k q
  have x : Ext ρ Z H (more ρ S.length p) (upd H p o) := ⟨old, sub, fun a z => upd_ne (fun e => nz (e ▸ z))⟩
  refine ⟨x, ⟨fun k a e => ?_, fun k c' hc => ?_, fun j k a e1 e2 => ?_, fun a z => ?_⟩, by unfold more; rw [if_pos rfl]⟩
  · rw [List.length_append, List.length_singleton]
    rcases inv k a e with ⟨q, _⟩ | q
    · omega
    · have := w.dom k a q
      omega
  · by_cases hk : k < S.length
    · rw [List.getElem?_append_left hk] at hc
      obtain ⟨a, u, h1, h2, h3, h4⟩ := w.cells k c' hc
      exact ⟨a, u, old k a h1, h2, by rw [upd_ne (ne a u h3)]; exact h3, h4.mono x.cells x.frz⟩
    · rw [List.getElem?_append_right (by omega)] at hc
      have hk0 : k = S.length := by
        have := (List.getElem?_eq_some_iff.mp hc).1
        rw [List.length_singleton] at this
        omega
      subst hk0
      rw [Nat.sub_self] at hc
      cases hc
      exact ⟨p, o, by unfold more; rw [if_pos rfl], nz, upd_same, h.mono x.cells x.frz⟩
  · rcases inv j a e1 with ⟨q1, q2⟩ | q1
    · rcases inv k a e2 with ⟨q3, _⟩ | q3
      · rw [q1, q3]
      · rw [q2] at q3
        exact absurd q3 (nr k)
    · rcases inv k a e2 with ⟨_, q4⟩ | q3
      · rw [q4] at q1
        exact absurd q1 (nr j)
      · exact w.inj j k a q1 q3
  · obtain ⟨u, e⟩ := w.there a z
    exact ⟨u, by rw [upd_ne (ne a u e)]; exact e⟩
/-- a cell is changed -/
theorem put_cell {k : Nat} {a : Addr} {c0 : CO} (w : Wd T K ρ S Z H) (hk : S[k]? = some c0) (ha : ρ k = some a) (h : HObj T K ρ (Fz ρ Z H) c o) : Ext ρ Z H ρ (upd H a o) ∧ Wd T K ρ (S.set k c) Z (upd H a o) := by
  have nz : ¬ Z a := by
    obtain ⟨b, u, h1, h2, _⟩ := w.cells k c0 hk
    rw [ha] at h1
    cases h1
    exact h2
  have sub : Sub (Fz ρ Z H) (Fz ρ Z (upd H a o)) := fun b u e => by
    obtain ⟨e1, e2, e3⟩ := Fz_at e
    have nb : b ≠ a := fun z => e3 k (z ▸ ha)
    exact Fz_mk (by rw [upd_ne nb]; exact e1) e2 e3
  have x : Ext ρ Z H ρ (upd H a o) := ⟨fun _ _ h => h, sub, fun b z => upd_ne (fun e => nz (e ▸ z))⟩
  refine ⟨x, ⟨fun j b e => by rw [List.length_set]; exact w.dom j b e, fun j c' hc => ?_, w.inj, fun b z => ?_⟩⟩
  · by_cases hj : j = k
    · subst hj
      have hl : j < S.length := (List.getElem?_eq_some_iff.mp hk).1
      rw [List.getElem?_set_self hl] at hc
      cases hc
      exact ⟨a, o, ha, nz, upd_same, h.mono x.cells x.frz⟩
    · rw [List.getElem?_set_ne (Ne.symm hj)] at hc
      obtain ⟨b, u, h1, h2, h3, h4⟩ := w.cells j c' hc
      have nb : b ≠ a := fun z => hj (w.inj j k a (z ▸ h1) ha)
      exact ⟨b, u, h1, h2, by rw [upd_ne nb]; exact h3, h4.mono x.cells x.frz⟩
  · obtain ⟨u, e⟩ := w.there b z
    have nb : b ≠ a := fun q => nz (q ▸ z)
    exact ⟨u, by rw [upd_ne nb]; exact e⟩
end

/-! ### what a tree's list is -/
/-- the items of a list -/
def asL (S : Sto) : D → Option (List D)
  | .lst ds => some ds
  | .klst ds => some ds
  | .cell k => match S[k]? with
    | some (.lst ds) => some ds
    | _ => none
  | _ => none
/-- .. of one that is tracked -/
def asLT (S : Sto) : D → Option (List D)
  | .lst ds => some ds
  | .cell k => match S[k]? with
    | some (.lst ds) => some ds
    | _ => none
  | _ => none
section
variable {T : Str → Addr} {K : PySem.W.Frag} {ρ : Nat → Option Addr} {Z : Hid} {H : Hp} {S : Sto}
theorem asLT_ok (w : Wd T K ρ S Z H) {d : D} {v : V} {ds : List D} (r : Rep T K ρ (Fz ρ Z H) d v) (h : asLT S d = some ds) : ∃ a vs, v = .ref a ∧ H a = some (.lst vs) ∧ RepL T K ρ (Fz ρ Z H) ds vs := by
  unfold asLT at h
  split at h
  · cases h
    obtain ⟨a, vs, e, q, q2⟩ := r
    exact ⟨a, vs, e, Fz_sub _ _ q, q2⟩
  · rename_i k
    obtain ⟨a, e, q⟩ := r
    cases hc : S[k]? with
    | none =>
      rw [hc] at h
      cases h
    | some c =>
      rw [hc] at h
      obtain ⟨b, o, h1, h2, h3, h4⟩ := w.cells k c hc
      rw [q] at h1
      cases h1
      cases c with
      | lst es =>
        cases h
        obtain ⟨vs, e2, q2⟩ := h4
        exact ⟨a, vs, e, by rw [h3, e2], q2⟩
      | _ => cases h
  · cases h
theorem asL_ok (w : Wd T K ρ S Z H) {d : D} {v : V} {ds : List D} (r : Rep T K ρ (Fz ρ Z H) d v) (h : asL S d = some ds) : ∃ a vs, v = .ref a ∧ SqL K H a vs ∧ RepL T K ρ (Fz ρ Z H) ds vs := by
  cases d with
  | klst es =>
    cases h
    obtain ⟨a, vs, e, q, q2⟩ := r
    exact ⟨a, vs, e, Fz_sub.seqL q, q2⟩
  | lst es =>
    obtain ⟨a, vs, e, q, q2⟩ := asLT_ok w r (show asLT S (.lst es) = some ds from h)
    exact ⟨a, vs, e, SqL.of q, q2⟩
  | cell k =>
    obtain ⟨a, vs, e, q, q2⟩ := asLT_ok w r (show asLT S (.cell k) = some ds from h)
    exact ⟨a, vs, e, SqL.of q, q2⟩
  | _ => cases h
end

/-! ### operations -/
def f2 (g : D → D → Cm D) (Fa Fb : FE) : FE := fun env S => (Fa env S).bnd fun x S1 => (Fb env S1).bnd fun y => g x y
def f1 (g : D → Cm D) (Fa : FE) : FE := fun env S => (Fa env S).bnd fun x => g x
/-- a rule for values is one for trees -/
def Op2 (T : Str → Addr) (X : Cx) (r : R2) (g : D → D → Cm D) : Prop := ∀ (W : WX) (σ : St) (ρ : Nat → Option Addr) (S : Sto) (Z : Hid) (H : Hp) (x y : D) (v u : V) (Q : VK), Wd T X.K ρ S Z H → Rep T X.K ρ (Fz ρ Z H) x v → Rep T X.K ρ (Fz ρ Z H) y u →
  Good T X.K (rD T X.K) W σ Q ρ Z H (g x y S) → r v u H Q
section
variable {T : Str → Addr} {X : Cx} {W : WX} {a b : Expr} {Fa Fb : FE} {pos : Pos}
theorem lift2 {K : PySem.W.Frag} {g : D → D → Cm D} {σ : St} {H : Hp} {Q : VK} {r : V → V → Hp → Prop} (h : lift T K (rD T K) W (f2 g Fa Fb) σ H Q)
    (k : ∀ ρ S Z H x y v u, Wd T K ρ S Z H → Rep T K ρ (Fz ρ Z H) x v → Rep T K ρ (Fz ρ Z H) y u → Good T K (rD T K) W σ Q ρ Z H (g x y S) → r v u H) : lift T K (rD T K) W Fa σ H fun v H1 => lift T K (rD T K) W Fb σ H1 fun u H2 => r v u H2 := by
  obtain ⟨ρ, S, Z, env, w, e, g⟩ := h
  refine lift_imp (lift_bnd w e g) fun v H1 ⟨ρ1, S1, d1, x1, w1, e1, r1, g1⟩ => ?_
  refine lift_imp (lift_bnd w1 e1 g1) fun u H2 ⟨ρ2, S2, d2, x2, w2, e2, r2, g2⟩ => ?_
  exact k ρ2 S2 Z H2 d1 d2 v u w2 (x2.rep r1) r2 g2
theorem lift1 {K : PySem.W.Frag} {g : D → Cm D} {σ : St} {H : Hp} {Q : VK} {r : V → Hp → Prop} (h : lift T K (rD T K) W (f1 g Fa) σ H Q)
    (k : ∀ ρ S Z H x v, Wd T K ρ S Z H → Rep T K ρ (Fz ρ Z H) x v → Good T K (rD T K) W σ Q ρ Z H (g x S) → r v H) : lift T K (rD T K) W Fa σ H r := by
  obtain ⟨ρ, S, Z, env, w, e, g⟩ := h
  exact lift_imp (lift_bnd w e g) fun v H1 ⟨ρ1, S1, d1, x1, w1, e1, r1, g1⟩ => k ρ1 S1 Z H1 d1 v w1 r1 g1
theorem pf_bin {op : Operator} {r : R2} {g : D → D → Cm D} (ho : OpR X (binaryOp op) r) (h2 : Op2 T X r g) (ha : PF T X W a Fa) (hb : PF T X W b Fb) : PF T X W (.BinOp a op b pos) (f2 g Fa Fb) :=
  pe_imp (pe_op ho ha hb) fun σ H Q q => lift2 (r := fun v u H2 => r v u H2 Q) q fun ρ S Z H x y v u w r1 r2 g => h2 W σ ρ S Z H x y v u Q w r1 r2 g
theorem pf_cmp {op : CmpOp} {r : R2} {g : D → D → Cm D} (ho : OpR X (compareOp op) r) (h2 : Op2 T X r g) (ha : PF T X W a Fa) (hb : PF T X W b Fb) (hm : behindInMarks op b = false) : PF T X W (.Compare a [op] [b] pos) (f2 g Fa Fb) :=
  pe_imp (pe_cmpR ho ha hb hm) fun σ H Q q => lift2 (r := fun v u H2 => r v u H2 Q) q fun ρ S Z H x y v u w r1 r2 g => h2 W σ ρ S Z H x y v u Q w r1 r2 g
/-- a value that is a bool -/
def toB : D → Cm Bool
  | .bl b => pure b
  | _ => stk
def fB (F : FE) : Env → Cm Bool := fun env S => (F env S).bnd toB
theorem lift_test {K : PySem.W.Frag} {F : FE} {σ : St} {H : Hp} {Q : Bool → Hp → Prop} (h : lift T K rB W (fB F) σ H Q) : lift T K (rD T K) W F σ H fun x H' => ∃ k, x = .bl k ∧ Q k H' := by
  obtain ⟨ρ, S, Z, env, w, e, g⟩ := h
  refine lift_imp (lift_bnd w e g) fun v H1 ⟨ρ1, S1, d1, x1, w1, e1, r1, g1⟩ => ?_
  cases d1 with
  | bl b => exact ⟨b, r1, g1 b H1 ρ1 .refl w1 rfl⟩
  | _ => exact g1.elim
theorem tf_cmp {op : CmpOp} {r : R2} {g : D → D → Cm D} (ho : OpR X (compareOp op) r) (h2 : Op2 T X r g) (ha : PF T X W a Fa) (hb : PF T X W b Fb) (hm : behindInMarks op b = false) : TF T X W (.Compare a [op] [b] pos) (fB (f2 g Fa Fb)) :=
  pt_imp (pt_cmpR ho ha hb hm) fun σ H Q q => lift2 (lift_test q) fun ρ S Z H x y v u w r1 r2 g => h2 W σ ρ S Z H x y v u _ w r1 r2 g
theorem tf_val {e : Expr} {F : FE} (h : PF T X W e F) (he : ∀ whole, isTrue e X.env whole = (do let v ← whole; standAt e.pos; holding [v] (truthy v)) := by intro _; rfl) : TF T X W e (fB F) :=
  pt_imp (pt_val h he) fun σ H Q q => lift_test q
end
end HT
set_option maxRecDepth 100000
set_option maxHeartbeats 4000000
namespace HT
open PySem PySem.Spec L2

/-! ### arithmetic -/
def gAdd (x y : D) : Cm D := fun S => match x, y with
  | .int i, .int j => .ok (.int (i + j)) S
  | .str a, .str b => if a.length + b.length ≤ sizeLine then .ok (.str (a ++ b)) S else .stuck
  | .tup a, .tup b => if a.length + b.length ≤ sizeLine then .ok (.tup (a ++ b)) S else .stuck
  | x, y => match asLT S x, asLT S y with
    | some a, some b => if a.length + b.length ≤ sizeLine then .ok (.lst (a ++ b)) S else .stuck
    | _, _ => .stuck
def gSub (x y : D) : Cm D := match x, y with
  | .int i, .int j => pure (.int (i - j))
  | _, _ => stk
def gMul (x y : D) : Cm D := fun S => match x, y with
  | .int i, .int j => if i.natAbs.log2 + j.natAbs.log2 < 1000000 then .ok (.int (i * j)) S else .stuck
  | .tup a, .int k => if a ≠ [] ∧ 2 ≤ k ∧ k ≤ 1000 ∧ a.length ≤ 1000 then .ok (.tup (List.replicate k.toNat a).flatten) S else .stuck
  | x, .int k => match asLT S x with
    | some a => if -(2 ^ 63) ≤ k ∧ k < 2 ^ 63 ∧ a.length * k.toNat ≤ sizeLine then .ok (.lst (List.replicate k.toNat a).flatten) S else .stuck
    | none => .stuck
  | _, _ => .stuck
def gDiv (x y : D) : Cm D := match x, y with
  | .int i, .int j => if 0 < j ∧ j.natAbs.log2 < 9000 then pure (.int (i / j)) else stk
  | _, _ => stk
def gMod (x y : D) : Cm D := match x, y with
  | .int i, .int j => if 0 < j then pure (.int (i % j)) else stk
  | _, _ => stk
def gPow (x y : D) : Cm D := match x, y with
  | .int i, .int j => if 0 ≤ j ∧ (Builtin.Int.intBits i : Int) * j ≤ 2 ^ 27 then pure (.int (i ^ j.toNat)) else stk
  | _, _ => stk
section
variable {T : Str → Addr} {X : Cx}
theorem RepL.flat {T : Str → Addr} {K : PySem.W.Frag} {ρ : Nat → Option Addr} {H : Hp} {ds : List D} {vs : List V} (h : RepL T K ρ H ds vs) : ∀ n : Nat, RepL T K ρ H (List.replicate n ds).flatten (List.replicate n vs).flatten
  | 0 => rfl
  | n + 1 => by
    rw [List.replicate_succ, List.replicate_succ, List.flatten_cons, List.flatten_cons]
    exact h.app (RepL.flat h n)
abbrev rAdd4 (X : Cx) : R2 := fun x y H Q => (fun x y H Q => ∃ i j, x = V.int i ∧ y = .int j ∧ Q (.int (i + j)) H) x y H Q ∨ (fun x y H Q => (fun x y H Q => ∃ i j, x = V.str i ∧ y = .str j ∧ i.length + j.length ≤ sizeLine ∧ Q (.str (i ++ j)) H) x y H Q ∨ (fun x y H Q => rCat x y H Q ∨ rCatA X.K x y H Q) x y H Q) x y H Q
theorem op_add4 : OpR X (binaryOp .Add) (rAdd4 X) := OpR.or op_add (OpR.or op_add_str (OpR.or op_cat op_catA))
theorem repL_nil {T : Str → Addr} {K : PySem.W.Frag} {ρ : Nat → Option Addr} {H : Hp} {ds : List D} {vs : List V} (h : RepL T K ρ H ds vs) : vs = [] ↔ ds = [] := by
  have e := h.len
  cases ds <;> cases vs <;> simp at e ⊢
theorem add_lists {W : WX} {σ : St} {ρ : Nat → Option Addr} {S : Sto} {Z : Hid} {H : Hp} {x y : D} {v u : V} {Q : VK} {a b : List D} (w : Wd T X.K ρ S Z H) (rx : Rep T X.K ρ (Fz ρ Z H) x v) (ry : Rep T X.K ρ (Fz ρ Z H) y u)
    (hx : asLT S x = some a) (hy : asLT S y = some b) (hl : a.length + b.length ≤ sizeLine) (g : Good T X.K (rD T X.K) W σ Q ρ Z H (.ok (.lst (a ++ b)) S)) : rAdd4 X v u H Q := by
  obtain ⟨p, vs, rfl, h1, h2⟩ := asLT_ok w rx hx
  obtain ⟨q, us, rfl, h3, h4⟩ := asLT_ok w ry hy
  refine .inr (.inr (.inl ⟨p, q, vs, us, rfl, rfl, h1, h3, by rw [← h2.len, ← h4.len]; exact hl, fun l hl => ?_⟩))
  obtain ⟨e, w', f⟩ := new_frz (o := .lst (vs ++ us)) w hl
  exact g _ _ ρ e w' ⟨l, _, rfl, f, (e.repL h2).app (e.repL h4)⟩
theorem ok_gAdd : Op2 T X (rAdd4 X) gAdd := by
  intro W σ ρ S Z H x y v u Q w rx ry g
  unfold gAdd at g
  split at g
  · cases rx
    cases ry
    exact .inl ⟨_, _, rfl, rfl, g.now w rfl⟩
  · split at g
    · rename_i hl
      cases rx
      cases ry
      exact .inr (.inl ⟨_, _, rfl, rfl, hl, g.now w rfl⟩)
    · exact g.elim
  · rename_i a b
    split at g
    · rename_i hl
      obtain ⟨p, vs, rfl, h1, h2⟩ := rx
      obtain ⟨q, us, rfl, h3, h4⟩ := ry
      refine .inr (.inr (.inr ⟨p, q, vs, us, rfl, rfl, Fz_sub.seqT h1, Fz_sub.seqT h3, by rw [← h2.len, ← h4.len]; exact hl, fun e => ?_, fun _ e => ?_, fun _ _ l hl => ?_⟩))
      · have ea : a = [] := (repL_nil h2).mp e
        subst ea
        exact g.now w ⟨q, us, rfl, h3, h4⟩
      · have eb : b = [] := (repL_nil h4).mp e
        subst eb
        rw [List.append_nil] at g
        exact g.now w ⟨p, vs, rfl, h1, h2⟩
      · obtain ⟨e, w', f⟩ := new_frz (o := .tup (vs ++ us)) w hl
        exact g _ _ ρ e w' ⟨l, _, rfl, SqT.of f, (e.repL h2).app (e.repL h4)⟩
    · exact g.elim
  · cases hx : asLT S x with
    | none =>
      rw [hx] at g
      exact g.elim
    | some a =>
      cases hy : asLT S y with
      | none =>
        rw [hx, hy] at g
        exact g.elim
      | some b =>
        rw [hx, hy] at g
        dsimp only at g
        split at g
        · rename_i hl
          exact add_lists w rx ry hx hy hl g
        · exact g.elim
theorem ok_gSub : Op2 T X (rI0 fun i j => .int (i - j)) gSub := by
  intro W σ ρ S Z H x y v u Q w rx ry g
  unfold gSub at g
  split at g
  · cases rx
    cases ry
    exact ⟨_, _, rfl, rfl, g.now w rfl⟩
  · exact g.elim
abbrev rMul3 (X : Cx) : R2 := fun x y H Q => rI CMulW (fun i j => .int (i * j)) x y H Q ∨ (fun x y H Q => rRep x y H Q ∨ rRepT X.K x y H Q) x y H Q
theorem op_mul3 : OpR X (binaryOp .Mult) (rMul3 X) := OpR.or op_mulW (OpR.or op_rep op_repT)
theorem ok_gMul : Op2 T X (rMul3 X) gMul := by
  intro W σ ρ S Z H x y v u Q w rx ry g
  unfold gMul at g
  split at g
  · split at g
    · rename_i hl
      cases rx
      cases ry
      exact .inl ⟨_, _, rfl, rfl, hl, g.now w rfl⟩
    · exact g.elim
  · rename_i a k
    split at g
    · rename_i hl
      obtain ⟨h0, h1, h2, h3⟩ := hl
      obtain ⟨p, vs, rfl, q1, q2⟩ := rx
      cases ry
      refine .inr (.inr ⟨p, k, vs, rfl, rfl, Fz_sub.seqT q1, fun e => h0 ((repL_nil q2).mp e), h1, h2, by rw [← q2.len]; exact h3, fun l hl => ?_⟩)
      obtain ⟨e, w', f⟩ := new_frz (o := .tup (List.replicate k.toNat vs).flatten) w hl
      exact g _ _ ρ e w' ⟨l, _, rfl, SqT.of f, (e.repL q2).flat _⟩
    · exact g.elim
  · rename_i k _ _
    cases hx : asLT S x with
    | none =>
      rw [hx] at g
      exact g.elim
    | some a =>
      rw [hx] at g
      dsimp only at g
      split at g
      · rename_i hl
        obtain ⟨h1, h2, h3⟩ := hl
        obtain ⟨p, vs, rfl, q1, q2⟩ := asLT_ok w rx hx
        cases ry
        refine .inr (.inl ⟨p, k, vs, rfl, rfl, q1, h1, h2, by rw [← q2.len]; exact h3, fun l hl => ?_⟩)
        obtain ⟨e, w', f⟩ := new_frz (o := .lst (List.replicate k.toNat vs).flatten) w hl
        exact g _ _ ρ e w' ⟨l, _, rfl, f, (e.repL q2).flat _⟩
      · exact g.elim
  · exact g.elim
theorem ok_gDiv : Op2 T X (rI CDivW fun i j => .int (i / j)) gDiv := by
  intro W σ ρ S Z H x y v u Q w rx ry g
  unfold gDiv at g
  split at g
  · split at g
    · rename_i hl
      cases rx
      cases ry
      exact ⟨_, _, rfl, rfl, hl, g.now w rfl⟩
    · exact g.elim
  · exact g.elim
theorem ok_gMod : Op2 T X (rI (fun _ j => 0 < j) fun i j => .int (i % j)) gMod := by
  intro W σ ρ S Z H x y v u Q w rx ry g
  unfold gMod at g
  split at g
  · split at g
    · rename_i hl
      cases rx
      cases ry
      exact ⟨_, _, rfl, rfl, hl, g.now w rfl⟩
    · exact g.elim
  · exact g.elim
theorem op_powW {X : Cx} : OpR X (binaryOp .Pow) (rI (fun i j => 0 ≤ j ∧ (Builtin.Int.intBits i : Int) * j ≤ 2 ^ 27) fun i j => .int (i ^ j.toNat)) := opI fun _ _ _ _ _ _ _ hc q => PyProof.Rows.pow_int hc.1 hc.2 q
theorem ok_gPow : Op2 T X (rI (fun i j => 0 ≤ j ∧ (Builtin.Int.intBits i : Int) * j ≤ 2 ^ 27) fun i j => .int (i ^ j.toNat)) gPow := by
  intro W σ ρ S Z H x y v u Q w rx ry g
  unfold gPow at g
  split at g
  · split at g
    · rename_i hl
      cases rx
      cases ry
      exact ⟨_, _, rfl, rfl, hl, g.now w rfl⟩
    · exact g.elim
  · exact g.elim
/-- an order of ints -/
def gOrd (p : Int → Int → Bool) (x y : D) : Cm D := match x, y with
  | .int i, .int j => pure (.bl (p i j))
  | _, _ => stk
theorem ok_gOrd (p : Int → Int → Bool) : Op2 T X (rI0 fun i j => .bl (p i j)) (gOrd p) := by
  intro W σ ρ S Z H x y v u Q w rx ry g
  unfold gOrd at g
  split at g
  · cases rx
    cases ry
    exact ⟨_, _, rfl, rfl, g.now w rfl⟩
  · exact g.elim
end

/-! ### data -/
mutual
/-- the data that a tree tells, f: what the cells tell -/
def deep0 (f : Nat → Option PyData) : D → Option PyData
  | .non => some .none
  | .bl b => some (.bool b)
  | .int i => some (.int i)
  | .str x => some (.str x)
  | .lst ds => (deepL f ds).map .list
  | .klst ds => (deepL f ds).map .list
  | .tup ds => (deepL f ds).map .tuple
  | .cell k => f k
  | .obj _ _ => none
  | .exn _ _ => none
  | .dK _ => none
  | .dT _ => none
  | .glob _ => none
  | .ty _ => none
def deepL (f : Nat → Option PyData) : List D → Option (List PyData)
  | [] => some []
  | d :: ds => match deep0 f d, deepL f ds with
    | some a, some b => some (a :: b)
    | _, _ => none
end
/-- .. through n cells -/
def deepC (S : Sto) : Nat → Nat → Option PyData
  | 0, _ => none
  | n + 1, k => match S[k]? with
    | some (.lst ds) => (deepL (deepC S n) ds).map .list
    | _ => none
def deep (S : Sto) (d : D) : Option PyData := deep0 (deepC S 4) d
section
variable {T : Str → Addr} {K : PySem.W.Frag} {ρ : Nat → Option Addr} {Z : Hid} {H : Hp} {S : Sto}
mutual
theorem deep0_dp {F : Hp} {f : Nat → Option PyData} (hs : Sub F H) (hf : ∀ k pd a, f k = some pd → ρ k = some a → Dp K H (.ref a) pd) : ∀ (d : D) (v : V) (pd : PyData), deep0 f d = some pd → Rep T K ρ F d v → Dp K H v pd
  | .non, v, pd, h, r => by
    cases h
    cases r
    exact .non
  | .bl b, v, pd, h, r => by
    cases h
    cases r
    exact .bl _
  | .int i, v, pd, h, r => by
    cases h
    cases r
    exact .int _
  | .str x, v, pd, h, r => by
    cases h
    cases r
    exact .str _
  | .lst ds, v, pd, h, r => by
    obtain ⟨a, vs, rfl, q, q2⟩ := r
    have h' : (deepL f ds).map PyData.list = some pd := h
    cases e : deepL f ds with
    | none =>
      rw [e] at h'
      cases h'
    | some l =>
      rw [e] at h'
      cases h'
      exact .lst (SqL.of (hs _ _ q)) (deepL_dp hs hf ds vs l e q2)
  | .klst ds, v, pd, h, r => by
    obtain ⟨a, vs, rfl, q, q2⟩ := r
    have h' : (deepL f ds).map PyData.list = some pd := h
    cases e : deepL f ds with
    | none =>
      rw [e] at h'
      cases h'
    | some l =>
      rw [e] at h'
      cases h'
      exact .lst (Sub.seqL hs q) (deepL_dp hs hf ds vs l e q2)
  | .tup ds, v, pd, h, r => by
    obtain ⟨a, vs, rfl, q, q2⟩ := r
    have h' : (deepL f ds).map PyData.tuple = some pd := h
    cases e : deepL f ds with
    | none =>
      rw [e] at h'
      cases h'
    | some l =>
      rw [e] at h'
      cases h'
      exact .tup (Sub.seqT hs q) (deepL_dp hs hf ds vs l e q2)
  | .cell k, v, pd, h, r => by
    obtain ⟨a, rfl, q⟩ := r
    exact hf k pd a h q
  | .obj _ _, _, _, h, _ => by cases h
  | .exn _ _, _, _, h, _ => by cases h
  | .dK _, _, _, h, _ => by cases h
  | .dT _, _, _, h, _ => by cases h
  | .glob _, _, _, h, _ => by cases h
  | .ty _, _, _, h, _ => by cases h
theorem deepL_dp {F : Hp} {f : Nat → Option PyData} (hs : Sub F H) (hf : ∀ k pd a, f k = some pd → ρ k = some a → Dp K H (.ref a) pd) : ∀ (ds : List D) (vs : List V) (l : List PyData), deepL f ds = some l → RepL T K ρ F ds vs → DpAll K H vs l
  | [], vs, l, h, r => by
    have r' : vs = [] := r
    subst r'
    cases h
    exact .nil
  | d :: ds, vs, l, h, r => by
    obtain ⟨v, us, rfl, r1, r2⟩ := r
    have h' : (match deep0 f d, deepL f ds with
      | some a, some b => some (a :: b)
      | _, _ => none) = some l := h
    cases e1 : deep0 f d with
    | none =>
      rw [e1] at h'
      cases h'
    | some a =>
      cases e2 : deepL f ds with
      | none =>
        rw [e1, e2] at h'
        cases h'
      | some b =>
        rw [e1, e2] at h'
        cases h'
        exact .cons (deep0_dp hs hf d v a e1 r1) (deepL_dp hs hf ds us b e2 r2)
end
theorem deepC_dp (w : Wd T K ρ S Z H) : ∀ (n k : Nat) (pd : PyData) (a : Addr), deepC S n k = some pd → ρ k = some a → Dp K H (.ref a) pd
  | 0, k, pd, a, h, _ => by cases h
  | n + 1, k, pd, a, h, e => by
    unfold deepC at h
    cases hc : S[k]? with
    | none =>
      rw [hc] at h
      cases h
    | some c =>
      rw [hc] at h
      obtain ⟨b, o, h1, h2, h3, h4⟩ := w.cells k c hc
      rw [e] at h1
      cases h1
      cases c with
      | lst ds =>
        obtain ⟨vs, rfl, q⟩ := h4
        cases e2 : deepL (deepC S n) ds with
        | none =>
          dsimp only at h
          rw [e2] at h
          cases h
        | some l =>
          dsimp only at h
          rw [e2] at h
          cases h
          exact .lst (SqL.of h3) (deepL_dp Fz_sub (fun k pd a h1 h2 => deepC_dp w n k pd a h1 h2) ds vs l e2 q)
      | _ => cases h
theorem deep_dp (w : Wd T K ρ S Z H) {d : D} {v : V} {pd : PyData} (h : deep S d = some pd) (r : Rep T K ρ (Fz ρ Z H) d v) : Dp K H v pd :=
  deep0_dp Fz_sub (fun k pd a h1 h2 => deepC_dp w 4 k pd a h1 h2) d v pd h r
end

/-! ### ==, in -/
/-- == of data -/
def gEq (neg : Bool) (x y : D) : Cm D := fun S => match deep S x, deep S y with
  | some a, some b => if SeqAt.shaped a = true ∧ SeqAt.shaped b = true then .ok (.bl (if neg then !PyData.eqv a b else PyData.eqv a b)) S else .stuck
  | _, _ => .stuck
section
variable {T : Str → Addr} {X : Cx}
theorem ok_gEq : Op2 T X (rEqD X.K) (gEq false) := by
  intro W σ ρ S Z H x y v u Q w rx ry g
  unfold gEq at g
  split at g
  · rename_i a b h1 h2
    split at g
    · rename_i hs
      exact ⟨a, b, deep_dp w h1 rx, deep_dp w h2 ry, hs.1, hs.2, g.now w rfl⟩
    · exact g.elim
  · exact g.elim
theorem ok_gNe : Op2 T X (rNeD X.K) (gEq true) := by
  intro W σ ρ S Z H x y v u Q w rx ry g
  unfold gEq at g
  split at g
  · rename_i a b h1 h2
    split at g
    · rename_i hs
      exact ⟨a, b, deep_dp w h1 rx, deep_dp w h2 ry, hs.1, hs.2, g.now w rfl⟩
    · exact g.elim
  · exact g.elim
/-- in a list of data -/
def gInL (neg : Bool) (x y : D) : Cm D := fun S => match deep S x, deep S y with
  | some a, some (.list ds) => if SeqAt.shaped a = true ∧ SeqAt.shaped (.list ds) = true then .ok (.bl (if neg then !(ds.any fun z => PyData.eqv z a) else ds.any fun z => PyData.eqv z a)) S else .stuck
  | _, _ => .stuck
theorem ok_gInL : Op2 T X (rInD X.K) (gInL false) := by
  intro W σ ρ S Z H x y v u Q w rx ry g
  unfold gInL at g
  split at g
  · rename_i a b h1 h2
    split at g
    · rename_i hs
      exact ⟨a, b, deep_dp w h1 rx, deep_dp w h2 ry, hs.1, hs.2, g.now w rfl⟩
    · exact g.elim
  · exact g.elim
theorem ok_gNotInL : Op2 T X (rNotInD X.K) (gInL true) := by
  intro W σ ρ S Z H x y v u Q w rx ry g
  unfold gInL at g
  split at g
  · rename_i a b h1 h2
    split at g
    · rename_i hs
      exact ⟨a, b, deep_dp w h1 rx, deep_dp w h2 ry, hs.1, hs.2, g.now w rfl⟩
    · exact g.elim
  · exact g.elim
/-- flat things among flat things (a tuple, a list) -/
def flatD : D → Option V
  | .non => some .non
  | .bl b => some (.bl b)
  | .int i => some (.int i)
  | .str x => some (.str x)
  | _ => none
def flatL : List D → Option (List V)
  | [] => some []
  | d :: ds => match flatD d, flatL ds with
    | some a, some b => some (a :: b)
    | _, _ => none
theorem flatD_ok {K : PySem.W.Frag} {ρ : Nat → Option Addr} {F : Hp} {d : D} {v a : V} (h : flatD d = some a) (r : Rep T K ρ F d v) : v = a ∧ flatV v = true := by
  cases d <;> first
    | (cases h; cases r; exact ⟨rfl, rfl⟩)
    | cases h
theorem flatL_ok {K : PySem.W.Frag} {ρ : Nat → Option Addr} {F : Hp} : ∀ {ds : List D} {vs as : List V}, flatL ds = some as → RepL T K ρ F ds vs → vs = as ∧ vs.all flatV = true
  | [], vs, as, h, r => by
    have r' : vs = [] := r
    subst r'
    cases h
    exact ⟨rfl, rfl⟩
  | d :: ds, vs, as, h, r => by
    obtain ⟨v, us, rfl, r1, r2⟩ := r
    unfold flatL at h
    cases e1 : flatD d with
    | none =>
      rw [e1] at h
      cases h
    | some a =>
      cases e2 : flatL ds with
      | none =>
        rw [e1, e2] at h
        cases h
      | some b =>
        rw [e1, e2] at h
        cases h
        obtain ⟨p1, p2⟩ := flatD_ok e1 r1
        obtain ⟨p3, p4⟩ := flatL_ok e2 r2
        exact ⟨by rw [p1, p3], by rw [List.all_cons, p2, p4]; rfl⟩
/-- the items of a tuple or list -/
def asQ (S : Sto) : D → Option (List D)
  | .tup ds => some ds
  | d => asL S d
theorem asQ_ok {K : PySem.W.Frag} {ρ : Nat → Option Addr} {Z : Hid} {H : Hp} {S : Sto} (w : Wd T K ρ S Z H) {d : D} {v : V} {ds : List D} (r : Rep T K ρ (Fz ρ Z H) d v) (h : asQ S d = some ds) : ∃ a vs, v = .ref a ∧ (SqL K H a vs ∨ SqT K H a vs) ∧ RepL T K ρ (Fz ρ Z H) ds vs := by
  unfold asQ at h
  split at h
  · cases h
    obtain ⟨a, vs, e, q, q2⟩ := r
    exact ⟨a, vs, e, .inr (Fz_sub.seqT q), q2⟩
  · obtain ⟨a, vs, e, q, q2⟩ := asL_ok w r h
    exact ⟨a, vs, e, .inl q, q2⟩
def gInF (neg : Bool) (x y : D) : Cm D := fun S => match asQ S y with
  | some ds => (match flatD x, flatL ds with
    | some a, some as => .ok (.bl (if neg then !inV a as else inV a as)) S
    | _, _ => .stuck)
  | none => .stuck
theorem ok_gInF (neg : Bool) : Op2 T X (rIn X.K neg) (gInF neg) := by
  intro W σ ρ S Z H x y v u Q w rx ry g
  unfold gInF at g
  cases hq : asQ S y with
  | none =>
    rw [hq] at g
    exact g.elim
  | some ds =>
    rw [hq] at g
    dsimp only at g
    split at g
    · rename_i a as h1 h2
      obtain ⟨p, vs, rfl, q1, q2⟩ := asQ_ok w ry hq
      obtain ⟨e1, e2⟩ := flatD_ok h1 rx
      obtain ⟨e3, e4⟩ := flatL_ok h2 q2
      subst e1
      subst e3
      exact ⟨p, vs, rfl, q1, e2, e4, g.now w rfl⟩
    · exact g.elim
/-- one sign in a text -/
def gInS (neg : Bool) (x y : D) : Cm D := match x, y with
  | .str c, .str z => if c.cps.size = 1 then pure (.bl (if neg then !decide (c.cps.getD 0 0 ∈ z.cps.toList) else decide (c.cps.getD 0 0 ∈ z.cps.toList))) else stk
  | _, _ => stk
theorem one_sign {c : Str} (h : c.cps.size = 1) : c = ⟨#[c.cps.getD 0 0]⟩ := by
  obtain ⟨l⟩ := c
  obtain ⟨l⟩ := l
  match l, h with
  | [x], _ => rfl
theorem ok_gInS : Op2 T X (fun x y H Q => ∃ (c : Nat) (z : Str), x = .str ⟨#[c]⟩ ∧ y = .str z ∧ Q (.bl (decide (c ∈ z.cps.toList))) H) (gInS false) := by
  intro W σ ρ S Z H x y v u Q w rx ry g
  unfold gInS at g
  split at g
  · split at g
    · rename_i c z hc
      cases rx
      cases ry
      exact ⟨c.cps.getD 0 0, z, congrArg V.str (one_sign hc), rfl, g.now w rfl⟩
    · exact g.elim
  · exact g.elim
theorem ok_gNotInS : Op2 T X (fun x y H Q => ∃ (c : Nat) (z : Str), x = .str ⟨#[c]⟩ ∧ y = .str z ∧ Q (.bl (!decide (c ∈ z.cps.toList))) H) (gInS true) := by
  intro W σ ρ S Z H x y v u Q w rx ry g
  unfold gInS at g
  split at g
  · split at g
    · rename_i c z hc
      cases rx
      cases ry
      exact ⟨c.cps.getD 0 0, z, congrArg V.str (one_sign hc), rfl, g.now w rfl⟩
    · exact g.elim
  · exact g.elim
/-- is None -/
def isNon : D → Bool
  | .non => true
  | _ => false
theorem isNon_ok {K : PySem.W.Frag} {ρ : Nat → Option Addr} {F : Hp} {d : D} {v : V} (r : Rep T K ρ F d v) : decide (v = .non) = isNon d := by
  cases d with
  | non => cases r; rfl
  | bl b => cases r; rfl
  | int i => cases r; rfl
  | str x => cases r; rfl
  | lst ds => obtain ⟨a, vs, rfl, _⟩ := r; rfl
  | klst ds => obtain ⟨a, vs, rfl, _⟩ := r; rfl
  | tup ds => obtain ⟨a, vs, rfl, _⟩ := r; rfl
  | obj C fs => obtain ⟨a, dx, vs, rfl, _⟩ := r; rfl
  | exn C fs => obtain ⟨a, dx, vs, rfl, _⟩ := r; rfl
  | dK kvs => obtain ⟨a, vs, rfl, _⟩ := r; rfl
  | dT kvs => obtain ⟨a, vs, rfl, _⟩ := r; rfl
  | cell k => obtain ⟨a, rfl, _⟩ := r; rfl
  | glob x => cases r; rfl
  | ty n => cases r; rfl
def gIsN (neg : Bool) (x y : D) : Cm D := match y with
  | .non => pure (.bl (if neg then !isNon x else isNon x))
  | _ => stk
theorem ok_gIsN : Op2 T X (fun x y H Q => y = .non ∧ Q (.bl (decide (x = .non))) H) (gIsN false) := by
  intro W σ ρ S Z H x y v u Q w rx ry g
  unfold gIsN at g
  split at g
  · cases ry
    exact ⟨rfl, g.now w (by rw [isNon_ok rx]; rfl)⟩
  · exact g.elim
theorem ok_gIsNotN : Op2 T X (fun x y H Q => y = .non ∧ Q (.bl (!decide (x = .non))) H) (gIsN true) := by
  intro W σ ρ S Z H x y v u Q w rx ry g
  unfold gIsN at g
  split at g
  · cases ry
    exact ⟨rfl, g.now w (by rw [isNon_ok rx]; rfl)⟩
  · exact g.elim
end
end HT
set_option maxRecDepth 100000
set_option maxHeartbeats 4000000
namespace HT
open PySem PySem.Spec L2

/-! ### new objects that nobody else holds -/
/-- hidden, and p -/
def plusZ (Z : Hid) (p : Addr) : Hid := ⟨fun a => Z a ∨ a = p, Z.me⟩
/-- what an object is as a tree -/
def frzD : CO → D
  | .lst ds => .lst ds
  | .dK kvs => .dK kvs
  | .dT kvs => .dT kvs
  | .ins C fs => .obj C fs
section
variable {T : Str → Addr} {K : PySem.W.Frag} {ρ ρ' : Nat → Option Addr} {Z : Hid} {H H' : Hp} {S : Sto} {p : Addr} {o : HO} {c : CO}
/-- a later world in which a new object stands at p, hidden -/
structure Neu (T : Str → Addr) (K : PySem.W.Frag) (ρ : Nat → Option Addr) (Z : Hid) (H : Hp) (ρ' : Nat → Option Addr) (S' : Sto) (H' : Hp) (p : Addr) (c : CO) : Prop where
  cells : ∀ k a, ρ k = some a → ρ' k = some a
  frz : Sub (Fz ρ Z H) (Fz ρ' (plusZ Z p) H')
  hid : ∀ a, Z a → H' a = H a
  w : Wd T K ρ' S' (plusZ Z p) H'
  nz : ¬ Z p
  obj : ∃ o, H' p = some o ∧ HObj T K ρ' (Fz ρ' (plusZ Z p) H') c o
theorem fz_minus : Sub (Fz ρ (plusZ Z p) H) (Fz ρ Z H) := fun a o h => by
  obtain ⟨h1, h2, h3⟩ := Fz_at h
  exact Fz_mk h1 (fun z => h2 (.inl z)) h3
theorem Wd.minus (w : Wd T K ρ S (plusZ Z p) H) : Wd T K ρ S Z H :=
  ⟨w.dom, fun k c hc => by
    obtain ⟨a, o, h1, h2, h3, h4⟩ := w.cells k c hc
    exact ⟨a, o, h1, fun z => h2 (.inl z), h3, h4.mono (fun _ _ h => h) fz_minus⟩, w.inj, fun a z => w.there a (.inl z)⟩
theorem HObj.frzD {F : Hp} {F' : Hp} (h : HObj T K ρ F c o) (hs : Sub F F') (hp : F' p = some o) : Rep T K ρ F' (frzD c) (.ref p) := by
  have h' := HObj.mono (ρ' := ρ) (fun _ _ h => h) hs h
  cases c with
  | lst ds =>
    obtain ⟨vs, rfl, q⟩ := h'
    exact ⟨p, vs, rfl, hp, q⟩
  | dK kvs =>
    obtain ⟨vs, rfl, q⟩ := h'
    exact ⟨p, vs, rfl, hp, q⟩
  | dT kvs =>
    obtain ⟨vs, rfl, q⟩ := h'
    exact ⟨p, vs, rfl, hp, q⟩
  | ins C fs =>
    obtain ⟨dx, vs, rfl, q⟩ := h'
    exact ⟨p, dx, vs, rfl, hp, q⟩
/-- it is frozen -/
theorem Neu.freeze (n : Neu T K ρ Z H ρ' S H' p c) : Ext ρ Z H ρ' H' ∧ Wd T K ρ' S Z H' ∧ Rep T K ρ' (Fz ρ' Z H') (frzD c) (.ref p) := by
  obtain ⟨o, h1, h2⟩ := n.obj
  have nr : ∀ k, ρ' k ≠ some p := fun k e => by
    have hk := n.w.dom k p e
    obtain ⟨a, u, g1, g2, _⟩ := n.w.cells k S[k] (List.getElem?_eq_getElem hk)
    rw [e] at g1
    cases g1
    exact g2 (.inr rfl)
  exact ⟨⟨n.cells, fun a u h => fz_minus a u (n.frz a u h), n.hid⟩, n.w.minus, h2.frzD fz_minus (Fz_mk h1 n.nz nr)⟩
/-- it is a cell -/
theorem Neu.cell (n : Neu T K ρ Z H ρ' S H' p c) : Ext ρ Z H (more ρ' S.length p) H' ∧ Wd T K (more ρ' S.length p) (S ++ [c]) Z H' ∧ more ρ' S.length p S.length = some p := by
  obtain ⟨o, h1, h2⟩ := n.obj
  have w := n.w
  have old : ∀ k a, ρ' k = some a → more ρ' S.length p k = some a := fun k a e => by
    unfold more
    rw [if_neg (Nat.ne_of_lt (w.dom k a e))]
    exact e
  have inv : ∀ k a, more ρ' S.length p k = some a → (k = S.length ∧ a = p) ∨ ρ' k = some a := fun k a e => by
    unfold more at e
    split at e
    · rename_i hk
      exact .inl ⟨hk, (Option.some.inj e).symm⟩
    · exact .inr e
  have nr : ∀ k, ρ' k ≠ some p := fun k e => by
    have hk := w.dom k p e
    obtain ⟨a, u, g1, g2, _⟩ := w.cells k S[k] (List.getElem?_eq_getElem hk)
    rw [e] at g1
    cases g1
    exact g2 (.inr rfl)
  have sub : Sub (Fz ρ' (plusZ Z p) H') (Fz (more ρ' S.length p) Z H') := fun a u e => by
    obtain ⟨e1, e2, e3⟩ := Fz_at e
    refine Fz_mk e1 (fun z => e2 (.inl z)) fun k z => ?_
    rcases inv k a z with ⟨_, q⟩ | q
    · exact e2 (.inr q)
    · exact e3 k q
  refine ⟨⟨fun k a h => old k a (n.cells k a h), fun a u h => sub a u (n.frz a u h), n.hid⟩, ⟨fun k a e => ?_, fun k c' hc => ?_, fun j k a e1 e2 => ?_, fun a z => w.there a (.inl z)⟩, by unfold more; rw [if_pos rfl]⟩
  · rw [List.length_append, List.length_singleton]
    rcases inv k a e with ⟨q, _⟩ | q
    · omega
    · have := w.dom k a q
      omega
  · by_cases hk : k < S.length
    · rw [List.getElem?_append_left hk] at hc
      obtain ⟨a, u, g1, g2, g3, g4⟩ := w.cells k c' hc
      exact ⟨a, u, old k a g1, fun z => g2 (.inl z), g3, g4.mono old sub⟩
    · rw [List.getElem?_append_right (by omega)] at hc
      have hk0 : k = S.length := by
        have := (List.getElem?_eq_some_iff.mp hc).1
        rw [List.length_singleton] at this
        omega
      subst hk0
      rw [Nat.sub_self] at hc
      cases hc
      exact ⟨p, o, by unfold more; rw [if_pos rfl], n.nz, h1, h2.mono old sub⟩
  · rcases inv j a e1 with ⟨q1, q2⟩ | q1
    · rcases inv k a e2 with ⟨q3, _⟩ | q3
      · rw [q1, q3]
      · rw [q2] at q3
        exact absurd q3 (nr k)
    · rcases inv k a e2 with ⟨_, q4⟩ | q3
      · rw [q4] at q1
        exact absurd q1 (nr j)
      · exact w.inj j k a q1 q3
/-- a new object laid -/
theorem new_neu (w : Wd T K ρ S Z H) (hp : H p = none) (h : HObj T K ρ (Fz ρ Z H) c o) : Neu T K ρ Z H ρ S (upd H p o) p c := by
  obtain ⟨nz, nr⟩ := fz_new w hp
  have ne : ∀ a u, H a = some u → a ≠ p := fun a u e z => by
    rw [z, hp] at e
    cases e
  have sub : Sub (Fz ρ Z H) (Fz ρ (plusZ Z p) (upd H p o)) := fun a u e => by
    obtain ⟨e1, e2, e3⟩ := Fz_at e
    refine Fz_mk (by rw [upd_ne (ne a u e1)]; exact e1) (fun z => ?_) e3
    rcases z with z | z
    · exact e2 z
    · exact ne a u e1 z
  refine ⟨fun _ _ h => h, sub, fun a z => upd_ne (fun e => nz (e ▸ z)), ⟨w.dom, fun k c hc => ?_, w.inj, fun a z => ?_⟩, nz, ⟨o, upd_same, h.mono (fun _ _ h => h) sub⟩⟩
  · obtain ⟨a, u, h1, h2, h3, h4⟩ := w.cells k c hc
    refine ⟨a, u, h1, fun z => ?_, by rw [upd_ne (ne a u h3)]; exact h3, h4.mono (fun _ _ h => h) sub⟩
    rcases z with z | z
    · exact h2 z
    · exact ne a u h3 z
  · rcases z with z | z
    · obtain ⟨u, e⟩ := w.there a z
      exact ⟨u, by rw [upd_ne (ne a u e)]; exact e⟩
    · exact ⟨o, by rw [z]; exact upd_same⟩
theorem Neu.after {ρ0 : Nat → Option Addr} {H0 : Hp} (x : Ext ρ0 Z H0 ρ H) (n : Neu T K ρ Z H ρ' S H' p c) : Neu T K ρ0 Z H0 ρ' S H' p c :=
  ⟨fun k a h => n.cells k a (x.cells k a h), fun a u h => n.frz a u (x.frz a u h), fun a z => (n.hid a z).trans (x.hid a z), n.w, n.nz, n.obj⟩
end

section
variable (T : Str → Addr) (K : PySem.W.Frag)
def GoodO (W : WX) (σ : St) (Q : VK) (ρ : Nat → Option Addr) (Z : Hid) (H : Hp) : R CO → Prop
  | .ok c S' => ∀ p H' ρ', Neu T K ρ Z H ρ' S' H' p c → Q (.ref p) H'
  | .exc C fs S' => ∀ dx vs H' ρ', Ext ρ Z H ρ' H' → Wd T K ρ' S' Z H' → XAt (Fz ρ' Z H') dx vs → RepF T K ρ' (Fz ρ' Z H') fs vs → W (.ref (T C)) dx σ H'
  | .stuck => False
def liftO (W : WX) (F : Env → Cm CO) : TE := fun σ H Q => ∃ ρ S Z env, Wd T K ρ S Z H ∧ ER T K ρ Z H σ env ∧ GoodO T K W σ Q ρ Z H (F env S)
end
/-- an expression that makes a new object -/
abbrev OF (T : Str → Addr) (X : Cx) (W : WX) (e : Expr) (F : Env → Cm CO) : Prop := PE X e (liftO T X.K W F)
/-- .. as a tree; as a cell -/
def fFrz (F : Env → Cm CO) : FE := fun env S => (F env S).bnd fun c S' => .ok (frzD c) S'
def fCell (F : Env → Cm CO) : FE := fun env S => (F env S).bnd fun c S' => .ok (.cell S'.length) (S' ++ [c])
section
variable {T : Str → Addr} {X : Cx} {W : WX} {e : Expr} {F : Env → Cm CO}
theorem pf_frz (h : OF T X W e F) : PF T X W e (fFrz F) := by
  refine pe_imp h fun σ H Q q => ?_
  obtain ⟨ρ, S, Z, env, w, er, g⟩ := q
  refine ⟨ρ, S, Z, env, w, er, ?_⟩
  unfold fFrz at g
  cases hF : F env S with
  | ok c S' =>
    rw [hF] at g
    intro p H' ρ' n
    obtain ⟨x, w', r⟩ := n.freeze
    exact g _ H' ρ' x w' r
  | exc C fs S' =>
    rw [hF] at g
    exact g
  | stuck =>
    rw [hF] at g
    exact g
theorem pf_cell (h : OF T X W e F) : PF T X W e (fCell F) := by
  refine pe_imp h fun σ H Q q => ?_
  obtain ⟨ρ, S, Z, env, w, er, g⟩ := q
  refine ⟨ρ, S, Z, env, w, er, ?_⟩
  unfold fCell at g
  cases hF : F env S with
  | ok c S' =>
    rw [hF] at g
    intro p H' ρ' n
    obtain ⟨x, w', r⟩ := n.cell
    exact g _ H' _ x w' ⟨p, rfl, r⟩
  | exc C fs S' =>
    rw [hF] at g
    exact g
  | stuck =>
    rw [hF] at g
    exact g
end

/-! ### arguments, displays -/
def aNil : Env → Cm (List D) := fun _ => pure []
def aCons (Fa : FE) (Fr : Env → Cm (List D)) : Env → Cm (List D) := fun env S => (Fa env S).bnd fun x S1 => (Fr env S1).bnd fun xs S2 => .ok (x :: xs) S2
section
variable {T : Str → Addr} {X : Cx} {W : WX} {e : Expr} {es : List Expr} {Fa : FE} {Fr : Env → Cm (List D)} {pos : Pos}
theorem af_nil : AF T X W [] aNil := by
  refine pa_imp pa_nil fun σ H Q q => ?_
  obtain ⟨ρ, S, Z, env, w, er, g⟩ := q
  exact g [] H ρ .refl w rfl
theorem af_cons (ha : PF T X W e Fa) (hr : AF T X W es Fr) (hs : starEach (e :: es) X.env = (false, eval e X.env) :: starEach es X.env := by rfl) : AF T X W (e :: es) (aCons Fa Fr) := by
  refine pa_imp (pa_cons ha hr hs) fun σ H Q q => ?_
  obtain ⟨ρ, S, Z, env, w, er, g⟩ := q
  refine lift_imp (lift_bnd w er g) fun v H1 ⟨ρ1, S1, d1, x1, w1, e1, r1, g1⟩ => ?_
  refine lift_imp (lift_bnd w1 e1 g1) fun vs H2 ⟨ρ2, S2, d2, x2, w2, e2, r2, g2⟩ => ?_
  exact g2 (v :: vs) H2 ρ2 .refl w2 ⟨v, vs, rfl, x2.rep r1, r2⟩
/-- a list of written items -/
def oLst (Fr : Env → Cm (List D)) : Env → Cm CO := fun env S => (Fr env S).bnd fun xs S1 => if xs.length ≤ sizeLine then .ok (.lst xs) S1 else .stuck
theorem lift_bndO {β α : Type} {rel : Rl α β} {K : PySem.W.Frag} {σ : St} {ρ : Nat → Option Addr} {S : Sto} {Z : Hid} {H : Hp} {env : Env} {Q : VK} {F : Env → Cm α} {k : α → Cm CO} (w : Wd T K ρ S Z H) (e : ER T K ρ Z H σ env) (g : GoodO T K W σ Q ρ Z H ((F env S).bnd k)) :
    lift T K rel W F σ H fun v H' => ∃ ρ' S' d, Ext ρ Z H ρ' H' ∧ Wd T K ρ' S' Z H' ∧ ER T K ρ' Z H' σ env ∧ rel ρ' (Fz ρ' Z H') d v ∧ GoodO T K W σ Q ρ' Z H' (k d S') := by
  refine ⟨ρ, S, Z, env, w, e, ?_⟩
  cases h : F env S with
  | ok d S' =>
    rw [h] at g
    refine fun v H' ρ' x w' q => ⟨ρ', S', d, x, w', e.ext x, q, ?_⟩
    cases hk : k d S' with
    | ok c S2 =>
      rw [show ((R.ok d S').bnd k) = k d S' from rfl, hk] at g
      exact fun p H2 ρ2 n => g p H2 ρ2 (n.after x)
    | exc C fs S2 =>
      rw [show ((R.ok d S').bnd k) = k d S' from rfl, hk] at g
      exact fun dx vs H2 ρ2 x2 => g dx vs H2 ρ2 (x.trans x2)
    | stuck =>
      rw [show ((R.ok d S').bnd k) = k d S' from rfl, hk] at g
      exact g
  | exc C fs S' =>
    rw [h] at g
    exact g
  | stuck =>
    rw [h] at g
    exact g
theorem of_lst (h : AF T X W es Fr) : OF T X W (.List es pos) (oLst Fr) := by
  refine pe_imp (pe_lst h) fun σ H Q q => ?_
  obtain ⟨ρ, S, Z, env, w, er, g⟩ := q
  refine lift_imp (lift_bndO w er g) fun vs H1 ⟨ρ1, S1, d1, x1, w1, e1, r1, g1⟩ => ?_
  change GoodO _ _ _ _ _ _ _ _ (if d1.length ≤ sizeLine then _ else _) at g1
  split at g1
  · rename_i hl
    refine ⟨by rw [← r1.len]; exact hl, fun p hp => g1 p _ ρ1 (new_neu w1 hp ⟨vs, rfl, r1⟩)⟩
  · exact g1.elim
/-- a tuple of written items -/
def fTup (Fr : Env → Cm (List D)) : FE := fun env S => (Fr env S).bnd fun xs S1 => if xs.length ≤ sizeLine then .ok (.tup xs) S1 else .stuck
theorem pf_tup {x1 : Nat} (h : AF T X W es Fr) : PF T X W (.Tuple es x1 pos) (fTup Fr) := by
  refine pe_imp (pe_tup h) fun σ H Q q => ?_
  obtain ⟨ρ, S, Z, env, w, er, g⟩ := q
  refine lift_imp (lift_bnd w er g) fun vs H1 ⟨ρ1, S1, d1, x1, w1, e1, r1, g1⟩ => ?_
  change Good _ _ _ _ _ _ _ _ _ (if d1.length ≤ sizeLine then _ else _) at g1
  split at g1
  · rename_i hl
    refine ⟨by rw [← r1.len]; exact hl, fun p hp => ?_⟩
    obtain ⟨x2, w2, f⟩ := new_frz (o := .tup vs) w1 hp
    exact g1 _ _ ρ1 x2 w2 ⟨p, vs, rfl, SqT.of f, x2.repL r1⟩
  · exact g1.elim
end
end HT
set_option maxRecDepth 100000
set_option maxHeartbeats 4000000
namespace HT
open PySem PySem.Spec L2

/-! ### statements -/
/-- where a statement goes -/
inductive Fl where
  | nx (env : Env) | rt (d : D) | bk (env : Env) | ct (env : Env) | xc (env : Env) (C : Str) (fs : List (Str × D))
abbrev FS := Env → Cm Fl
/-- the frame's own objects -/
structure OW (Z0 Z : Hid) (σ : St) (env : Env) : Prop where
  sub : ∀ a, Z0 a → Z a
  own : ∀ (i : Nat) (c : CO) (a : Addr), env[i]? = some (.own c) → σ[i]? = some (some (V.ref a)) → Z a ∧ ¬ Z0 a
  apart : ∀ (i j : Nat) (c c' : CO) (a : Addr), env[i]? = some (.own c) → env[j]? = some (.own c') → σ[i]? = some (some (V.ref a)) → σ[j]? = some (some (V.ref a)) → i = j
  me : Z.me = Z0.me
  slf : ∀ (i : Nat) (c : CO), env[i]? = some (.slf c) → ¬ Z0 Z.me
  apart2 : ∀ (i j : Nat) (c c' : CO) (a : Addr), env[i]? = some (.own c) → env[j]? = some (.slf c') → σ[i]? = some (some (V.ref a)) → a ≠ Z.me
  one : ∀ (i j : Nat) (c c' : CO), env[i]? = some (.slf c) → env[j]? = some (.slf c') → i = j
/-- a later world of a frame -/
structure ExtS (ρ : Nat → Option Addr) (Z0 Z : Hid) (H : Hp) (ρ' : Nat → Option Addr) (Z' : Hid) (H' : Hp) : Prop where
  cells : ∀ k a, ρ k = some a → ρ' k = some a
  frz : Sub (Fz ρ Z H) (Fz ρ' Z' H')
  hid : ∀ a, Z0 a → H' a = H a
theorem ExtS.refl {ρ : Nat → Option Addr} {Z0 Z : Hid} {H : Hp} : ExtS ρ Z0 Z H ρ Z H := ⟨fun _ _ h => h, fun _ _ h => h, fun _ _ => rfl⟩
theorem ExtS.trans {ρ ρ1 ρ2 : Nat → Option Addr} {Z0 Z Z1 Z2 : Hid} {H H1 H2 : Hp} (a : ExtS ρ Z0 Z H ρ1 Z1 H1) (b : ExtS ρ1 Z0 Z1 H1 ρ2 Z2 H2) : ExtS ρ Z0 Z H ρ2 Z2 H2 :=
  ⟨fun k x h => b.cells k x (a.cells k x h), fun x o h => b.frz x o (a.frz x o h), fun x h => (b.hid x h).trans (a.hid x h)⟩
theorem Ext.s {ρ ρ' : Nat → Option Addr} {Z0 Z : Hid} {H H' : Hp} (x : Ext ρ Z H ρ' H') (h : ∀ a, Z0 a → Z a) : ExtS ρ Z0 Z H ρ' Z H' := ⟨x.cells, x.frz, fun a z => x.hid a (h a z)⟩
structure At (T : Str → Addr) (K : PySem.W.Frag) (ρ : Nat → Option Addr) (S : Sto) (Z0 Z : Hid) (H : Hp) (σ : St) (env : Env) : Prop where
  w : Wd T K ρ S Z H
  e : ER T K ρ Z H σ env
  o : OW Z0 Z σ env
theorem At.ext {T : Str → Addr} {K : PySem.W.Frag} {ρ ρ' : Nat → Option Addr} {S S' : Sto} {Z0 Z : Hid} {H H' : Hp} {σ : St} {env : Env} (a : At T K ρ S Z0 Z H σ env) (x : Ext ρ Z H ρ' H') (w : Wd T K ρ' S' Z H') : At T K ρ' S' Z0 Z H' σ env := ⟨w, a.e.ext x, a.o⟩
section
variable (T : Str → Addr) (K : PySem.W.Frag)
def GoodF (W : WX) (B : Ends) (ρ : Nat → Option Addr) (Z0 Z : Hid) (H : Hp) (S' : Sto) : Fl → Prop
  | .nx env' => ∀ σ' H' ρ' Z', ExtS ρ Z0 Z H ρ' Z' H' → At T K ρ' S' Z0 Z' H' σ' env' → B.nx σ' H'
  | .bk env' => ∀ σ' H' ρ' Z', ExtS ρ Z0 Z H ρ' Z' H' → At T K ρ' S' Z0 Z' H' σ' env' → B.bk σ' H'
  | .ct env' => ∀ σ' H' ρ' Z', ExtS ρ Z0 Z H ρ' Z' H' → At T K ρ' S' Z0 Z' H' σ' env' → B.ct σ' H'
  | .rt d => ∀ v H' ρ' Z', ExtS ρ Z0 Z H ρ' Z' H' → (∀ a, Z0 a → Z' a) → Wd T K ρ' S' Z' H' → Rep T K ρ' (Fz ρ' Z' H') d v → B.rt v H'
  | .xc env' C fs => ∀ σ' dx vs H' ρ' Z', ExtS ρ Z0 Z H ρ' Z' H' → At T K ρ' S' Z0 Z' H' σ' env' → XAt (Fz ρ' Z' H') dx vs → RepF T K ρ' (Fz ρ' Z' H') fs vs → W (.ref (T C)) dx σ' H'
def GoodS (W : WX) (B : Ends) (ρ : Nat → Option Addr) (Z0 Z : Hid) (H : Hp) : R Fl → Prop
  | .ok f S' => GoodF T K W B ρ Z0 Z H S' f
  | _ => False
def liftS (W : WX) (F : FS) : TS := fun B σ H => ∃ ρ S Z0 Z env, At T K ρ S Z0 Z H σ env ∧ GoodS T K W B ρ Z0 Z H (F env S)
end
abbrev SF (T : Str → Addr) (X : Cx) (W : WX) (st : Stmt) (F : FS) : Prop := PS X st (liftS T X.K W F)
abbrev SFs (T : Str → Addr) (X : Cx) (W : WX) (st : List Stmt) (F : FS) : Prop := PSs X st (liftS T X.K W F)
theorem ps_imp {X : Cx} {st : Stmt} {t t' : TS} (h : PS X st t) (i : ∀ B σ H, t' B σ H → t B σ H) : PS X st t' := ⟨fun pins s σ H B I q => h.run pins s σ H B I (i B σ H q)⟩
theorem pss_imp {X : Cx} {st : List Stmt} {t t' : TS} (h : PSs X st t) (i : ∀ B σ H, t' B σ H → t B σ H) : PSs X st t' := ⟨fun pins s σ H B I q => h.run pins s σ H B I (i B σ H q)⟩
/-- an expression within a statement -/
def sB {α : Type} (env : Env) (r : R α) (k : α → Sto → R Fl) : R Fl := match r with
  | .ok d S => k d S
  | .exc C fs S => .ok (.xc env C fs) S
  | .stuck => .stuck
section
variable {T : Str → Addr} {K : PySem.W.Frag} {W : WX} {B B' : Ends} {ρ ρ1 : Nat → Option Addr} {Z0 Z Z1 : Hid} {H H1 : Hp} {S : Sto} {σ : St} {env : Env}
theorem GoodF.later {f : Fl} {S' : Sto} (g : GoodF T K W B ρ Z0 Z H S' f) (x : ExtS ρ Z0 Z H ρ1 Z1 H1) : GoodF T K W B ρ1 Z0 Z1 H1 S' f := by
  cases f with
  | nx e => exact fun σ' H' ρ' Z' y a => g σ' H' ρ' Z' (x.trans y) a
  | bk e => exact fun σ' H' ρ' Z' y a => g σ' H' ρ' Z' (x.trans y) a
  | ct e => exact fun σ' H' ρ' Z' y a => g σ' H' ρ' Z' (x.trans y) a
  | rt d => exact fun v H' ρ' Z' y a => g v H' ρ' Z' (x.trans y) a
  | xc e C fs => exact fun σ' dx vs H' ρ' Z' y a => g σ' dx vs H' ρ' Z' (x.trans y) a
theorem GoodS.later {r : R Fl} (g : GoodS T K W B ρ Z0 Z H r) (x : ExtS ρ Z0 Z H ρ1 Z1 H1) : GoodS T K W B ρ1 Z0 Z1 H1 r := by
  cases r with
  | ok f S' => exact GoodF.later (show GoodF T K W B ρ Z0 Z H S' f from g) x
  | exc C fs S' => exact g
  | stuck => exact g
theorem lift_sB {α β : Type} {rel : Rl α β} {F : Env → Cm α} {k : α → Sto → R Fl} (a : At T K ρ S Z0 Z H σ env) (g : GoodS T K W B ρ Z0 Z H (sB env (F env S) k)) :
    lift T K rel W F σ H fun v H' => ∃ ρ' S' d, Ext ρ Z H ρ' H' ∧ At T K ρ' S' Z0 Z H' σ env ∧ rel ρ' (Fz ρ' Z H') d v ∧ GoodS T K W B ρ' Z0 Z H' (k d S') := by
  refine ⟨ρ, S, Z, env, a.w, a.e, ?_⟩
  cases h : F env S with
  | ok d S' =>
    rw [h] at g
    exact fun v H' ρ' x w' q => ⟨ρ', S', d, x, a.ext x w', q, GoodS.later (show GoodS T K W B ρ Z0 Z H (k d S') from g) (x.s a.o.sub)⟩
  | exc C fs S' =>
    rw [h] at g
    exact fun dx vs H' ρ' x w' q1 q2 => (show GoodF T K W B ρ Z0 Z H S' (.xc env C fs) from g) σ dx vs H' ρ' Z (x.s a.o.sub) (a.ext x w') q1 q2
  | stuck =>
    rw [h] at g
    exact g
theorem At.set {i : Nat} {d : D} {v : V} (a : At T K ρ S Z0 Z H σ env) (hv : Rep T K ρ (Fz ρ Z H) d v) : At T K ρ S Z0 Z H (σ.set i (some v)) (env.set i (.val d)) := by
  have hl := a.e.len
  have bnd : ∀ {j : Nat} {s : Sl}, (env.set i (.val d))[j]? = some s → i = j → i < env.length := fun {j s} h q => by
    have := (List.getElem?_eq_some_iff.mp h).1
    rw [List.length_set] at this
    omega
  have oldS : ∀ {j : Nat} {c : CO}, (env.set i (.val d))[j]? = some (.slf c) → env[j]? = some (.slf c) ∧ i ≠ j := fun {j c} h => by
    by_cases hj : i = j
    · have hi := bnd h hj
      subst hj
      rw [List.getElem?_set_self hi] at h
      cases h
    · rw [List.getElem?_set_ne hj] at h
      exact ⟨h, hj⟩
  have oldO : ∀ {j : Nat} {c : CO}, (env.set i (.val d))[j]? = some (.own c) → env[j]? = some (.own c) ∧ i ≠ j := fun {j c} h => by
    by_cases hj : i = j
    · have hi := bnd h hj
      subst hj
      rw [List.getElem?_set_self hi] at h
      cases h
    · rw [List.getElem?_set_ne hj] at h
      exact ⟨h, hj⟩
  refine ⟨a.w, ⟨fun j d' h => ?_, fun j c h => ?_, fun j c h => ?_, by rw [List.length_set, List.length_set]; exact hl⟩, ⟨a.o.sub, fun j c b h1 h2 => ?_, fun j k c c' b h1 h2 h3 h4 => ?_, a.o.me, fun j c h => a.o.slf j c (oldS h).1,
    fun j k c c' b h1 h2 h3 => ?_, fun j k c c' h1 h2 => a.o.one j k c c' (oldS h1).1 (oldS h2).1⟩⟩
  · by_cases hj : i = j
    · subst hj
      have hi : i < env.length := by
        have := (List.getElem?_eq_some_iff.mp h).1
        rw [List.length_set] at this
        exact this
      rw [List.getElem?_set_self hi] at h
      cases h
      exact ⟨v, List.getElem?_set_self (by omega), hv⟩
    · rw [List.getElem?_set_ne hj] at h
      obtain ⟨w, h1, h2⟩ := a.e.val j d' h
      exact ⟨w, by rw [List.getElem?_set_ne hj]; exact h1, h2⟩
  · obtain ⟨h', hj⟩ := oldO h
    obtain ⟨b, o, h1, h2⟩ := a.e.own j c h'
    exact ⟨b, o, by rw [List.getElem?_set_ne hj]; exact h1, h2⟩
  · obtain ⟨h', hj⟩ := oldS h
    obtain ⟨o, h1, h2⟩ := a.e.slf j c h'
    exact ⟨o, by rw [List.getElem?_set_ne hj]; exact h1, h2⟩
  · by_cases hj : i = j
    · subst hj
      have hi : i < env.length := by
        have := (List.getElem?_eq_some_iff.mp h1).1
        rw [List.length_set] at this
        exact this
      rw [List.getElem?_set_self hi] at h1
      cases h1
    · rw [List.getElem?_set_ne hj] at h1 h2
      exact a.o.own j c b h1 h2
  · by_cases hj : i = j
    · subst hj
      have hi : i < env.length := by
        have := (List.getElem?_eq_some_iff.mp h1).1
        rw [List.length_set] at this
        exact this
      rw [List.getElem?_set_self hi] at h1
      cases h1
    · by_cases hk : i = k
      · subst hk
        have hi : i < env.length := by
          have := (List.getElem?_eq_some_iff.mp h2).1
          rw [List.length_set] at this
          exact this
        rw [List.getElem?_set_self hi] at h2
        cases h2
      · rw [List.getElem?_set_ne hj] at h1 h3
        rw [List.getElem?_set_ne hk] at h2 h4
        exact a.o.apart j k c c' b h1 h2 h3 h4
  · obtain ⟨h1', hj⟩ := oldO h1
    rw [List.getElem?_set_ne hj] at h3
    exact a.o.apart2 j k c c' b h1' (oldS h2).1 h3
theorem plus_s {p : Addr} (z : ∀ a, Z0 a → Z a) : ∀ a, Z0 a → plusZ Z p a := fun a h => .inl (z a h)
theorem At.setOwn {i : Nat} {c : CO} {p : Addr} {ρ' : Nat → Option Addr} {S' : Sto} {H' : Hp} (a : At T K ρ S Z0 Z H σ env) (n : Neu T K ρ Z H ρ' S' H' p c) :
    ExtS ρ Z0 Z H ρ' (plusZ Z p) H' ∧ At T K ρ' S' Z0 (plusZ Z p) H' (σ.set i (some (V.ref p))) (env.set i (.own c)) := by
  have hl := a.e.len
  have bnd : ∀ {j : Nat} {s : Sl} {x : Sl}, (env.set i x)[j]? = some s → i = j → i < env.length := fun {j s x} h e => by
    have := (List.getElem?_eq_some_iff.mp h).1
    rw [List.length_set] at this
    omega
  have oldS : ∀ {j : Nat} {c' : CO}, (env.set i (.own c))[j]? = some (.slf c') → env[j]? = some (.slf c') ∧ i ≠ j := fun {j c'} h => by
    by_cases hj : i = j
    · have hi := bnd h hj
      subst hj
      rw [List.getElem?_set_self hi] at h
      cases h
    · rw [List.getElem?_set_ne hj] at h
      exact ⟨h, hj⟩
  refine ⟨⟨n.cells, n.frz, fun b z => n.hid b (a.o.sub b z)⟩, n.w, ⟨fun j d' h => ?_, fun j c' h => ?_, fun j c' h => ?_, by rw [List.length_set, List.length_set]; exact hl⟩, ⟨plus_s a.o.sub, fun j c' b h1 h2 => ?_, fun j k c1 c2 b h1 h2 h3 h4 => ?_, a.o.me,
    fun j c' h => a.o.slf j c' (oldS h).1, fun j k c1 c2 b h1 h2 h3 => ?_, fun j k c1 c2 h1 h2 => a.o.one j k c1 c2 (oldS h1).1 (oldS h2).1⟩⟩
  · by_cases hj : i = j
    · have hi := bnd h hj
      subst hj
      rw [List.getElem?_set_self hi] at h
      cases h
    · rw [List.getElem?_set_ne hj] at h
      obtain ⟨w, h1, h2⟩ := a.e.val j d' h
      exact ⟨w, by rw [List.getElem?_set_ne hj]; exact h1, Rep.mono n.cells n.frz _ _ h2⟩
  · by_cases hj : i = j
    · have hi := bnd h hj
      subst hj
      rw [List.getElem?_set_self hi] at h
      cases h
      obtain ⟨o, h1, h2⟩ := n.obj
      exact ⟨p, o, List.getElem?_set_self (by omega), .inr rfl, h1, h2⟩
    · rw [List.getElem?_set_ne hj] at h
      obtain ⟨b, o, h1, h2, h3, h4⟩ := a.e.own j c' h
      exact ⟨b, o, by rw [List.getElem?_set_ne hj]; exact h1, .inl h2, (n.hid b h2).trans h3, h4.mono n.cells n.frz⟩
  · obtain ⟨h', hj⟩ := oldS h
    obtain ⟨o, h1, h2, h3, h4⟩ := a.e.slf j c' h'
    exact ⟨o, by rw [List.getElem?_set_ne hj]; exact h1, .inl h2, (n.hid _ h2).trans h3, h4.mono n.cells n.frz⟩
  · by_cases hj : i = j
    · have hi := bnd h1 hj
      subst hj
      rw [List.getElem?_set_self (by omega)] at h2
      cases h2
      exact ⟨.inr rfl, fun z => n.nz (a.o.sub p z)⟩
    · rw [List.getElem?_set_ne hj] at h1 h2
      obtain ⟨q1, q2⟩ := a.o.own j c' b h1 h2
      exact ⟨.inl q1, q2⟩
  · have old : ∀ {j : Nat} {c' : CO}, i ≠ j → (env.set i (.own c))[j]? = some (.own c') → (σ.set i (some (V.ref p)))[j]? = some (some (V.ref p)) → False := fun {j c'} hj h h' => by
      rw [List.getElem?_set_ne hj] at h h'
      exact n.nz (a.o.own j c' p h h').1
    by_cases hj : i = j
    · have hi := bnd h1 hj
      subst hj
      rw [List.getElem?_set_self (by omega)] at h3
      cases h3
      by_cases hk : i = k
      · exact hk
      · exact (old hk h2 h4).elim
    · by_cases hk : i = k
      · have hi := bnd h2 hk
        subst hk
        rw [List.getElem?_set_self (by omega)] at h4
        cases h4
        exact (old hj h1 h3).elim
      · rw [List.getElem?_set_ne hj] at h1 h3
        rw [List.getElem?_set_ne hk] at h2 h4
        exact a.o.apart j k c1 c2 b h1 h2 h3 h4
  · obtain ⟨h2', hk⟩ := oldS h2
    by_cases hj : i = j
    · have hi := bnd h1 hj
      subst hj
      rw [List.getElem?_set_self (by omega)] at h3
      cases h3
      intro e
      obtain ⟨o, _, q, _⟩ := a.e.slf k c2 h2'
      exact n.nz (by rw [e]; exact q)
    · rw [List.getElem?_set_ne hj] at h1 h3
      exact a.o.apart2 j k c1 c2 b h1 h2' h3
end

/-! ### the rules -/
def sNil : FS := fun env S => .ok (.nx env) S
def sSeq (F G : FS) : FS := fun env S => match F env S with
  | .ok (.nx env') S' => G env' S'
  | r => r
def sExpr {α : Type} (F : Env → Cm α) : FS := fun env S => sB env (F env S) fun _ S' => .ok (.nx env) S'
def sRet (F : FE) : FS := fun env S => sB env (F env S) fun d S' => .ok (.rt d) S'
def sRetN : FS := fun _ S => .ok (.rt .non) S
def sSet (i : Nat) (F : FE) : FS := fun env S => sB env (F env S) fun d S' => .ok (.nx (env.set i (.val d))) S'
def sOwn (i : Nat) (F : Env → Cm CO) : FS := fun env S => sB env (F env S) fun c S' => .ok (.nx (env.set i (.own c))) S'
def sIf (C : Env → Cm Bool) (F G : FS) : FS := fun env S => sB env (C env S) fun b S' => if b = true then F env S' else G env S'
def sBrk : FS := fun env S => .ok (.bk env) S
def sCnt : FS := fun env S => .ok (.ct env) S
section
variable {T : Str → Addr} {X : Cx} {W : WX} {st : Stmt} {rest : List Stmt} {F G : FS} {e : Expr} {Fe : FE} {pos : Pos}
theorem sfs_nil : SFs T X W [] sNil := pss_imp pss_nil fun B σ H q => by
  obtain ⟨ρ, S, Z0, Z, env, a, g⟩ := q
  exact (show GoodF T X.K W B ρ Z0 Z H S (.nx env) from g) σ H ρ Z .refl a
theorem sf_pass : SF T X W (.Pass pos) sNil := ps_imp ps_pass fun B σ H q => by
  obtain ⟨ρ, S, Z0, Z, env, a, g⟩ := q
  exact (show GoodF T X.K W B ρ Z0 Z H S (.nx env) from g) σ H ρ Z .refl a
theorem sf_break : SF T X W (.Break pos) sBrk := ps_imp ps_break fun B σ H q => by
  obtain ⟨ρ, S, Z0, Z, env, a, g⟩ := q
  exact (show GoodF T X.K W B ρ Z0 Z H S (.bk env) from g) σ H ρ Z .refl a
theorem sf_cont : SF T X W (.Continue pos) sCnt := ps_imp ps_continue fun B σ H q => by
  obtain ⟨ρ, S, Z0, Z, env, a, g⟩ := q
  exact (show GoodF T X.K W B ρ Z0 Z H S (.ct env) from g) σ H ρ Z .refl a
theorem sfs_cons (h1 : SF T X W st F) (h2 : SFs T X W rest G) : SFs T X W (st :: rest) (sSeq F G) := pss_imp (pss_cons h1 h2) fun B σ H q => by
  obtain ⟨ρ, S, Z0, Z, env, a, g⟩ := q
  refine ⟨ρ, S, Z0, Z, env, a, ?_⟩
  unfold sSeq at g
  cases hF : F env S with
  | ok f S' =>
    rw [hF] at g
    cases f with
    | nx env' => exact fun σ' H' ρ' Z' x a' => ⟨ρ', S', Z0, Z', env', a', GoodS.later (show GoodS T X.K W B ρ Z0 Z H (G env' S') from g) x⟩
    | _ => exact g
  | exc C fs S' =>
    rw [hF] at g
    exact g
  | stuck =>
    rw [hF] at g
    exact g
theorem sfs_one (h1 : SF T X W st F) : SFs T X W [st] F := pss_one h1
theorem sf_expr (he : PF T X W e Fe) (hs : swapsWith e none pos.line X.env = pure false := by rfl) : SF T X W (.Expr e pos) (sExpr Fe) := ps_imp (ps_expr he hs) fun B σ H q => by
  obtain ⟨ρ, S, Z0, Z, env, a, g⟩ := q
  exact lift_imp (lift_sB a g) fun v H1 ⟨ρ1, S1, d1, x1, a1, r1, g1⟩ => (show GoodF T X.K W B ρ1 Z0 Z H1 S1 (.nx env) from g1) σ H1 ρ1 Z .refl a1
theorem sf_ret (he : PF T X W e Fe) : SF T X W (.Return (some e) pos) (sRet Fe) := ps_imp (ps_ret he) fun B σ H q => by
  obtain ⟨ρ, S, Z0, Z, env, a, g⟩ := q
  exact lift_imp (lift_sB a g) fun v H1 ⟨ρ1, S1, d1, x1, a1, r1, g1⟩ => (show GoodF T X.K W B ρ1 Z0 Z H1 S1 (.rt d1) from g1) v H1 ρ1 Z .refl a1.o.sub a1.w r1
theorem sf_retN : SF T X W (.Return none pos) sRetN := ps_imp ps_retN fun B σ H q => by
  obtain ⟨ρ, S, Z0, Z, env, a, g⟩ := q
  exact (show GoodF T X.K W B ρ Z0 Z H S (.rt .non) from g) .non H ρ Z .refl a.o.sub a.w rfl
theorem sf_set {i : Nat} {x : Str} {pos' : Pos} (hN : X.N.Nodup) (hi : X.N[i]? = some x) (hx : Loc X.env.scope x) (he : PF T X W e Fe) (hs : swapsWith e (some (.Name x pos')) pos.line X.env = pure false := by rfl) (hf : X.fn x = true ∨ X.env.scope.names.lookup x = some .local := by first | exact .inl rfl | exact .inr rfl | assumption) :
    SF T X W (.Assign [.Name x pos'] e pos) (sSet i Fe) := ps_imp (ps_set hN hi hx he hs hf) fun B σ H q => by
  obtain ⟨ρ, S, Z0, Z, env, a, g⟩ := q
  exact lift_imp (lift_sB a g) fun v H1 ⟨ρ1, S1, d1, x1, a1, r1, g1⟩ => (show GoodF T X.K W B ρ1 Z0 Z H1 S1 (.nx (env.set i (.val d1))) from g1) _ H1 ρ1 Z .refl (a1.set r1)
theorem lift_sO {K : PySem.W.Frag} {B : Ends} {ρ : Nat → Option Addr} {S : Sto} {Z0 Z : Hid} {H : Hp} {σ : St} {env : Env} {Fo : Env → Cm CO} {k : CO → Sto → R Fl} (a : At T K ρ S Z0 Z H σ env) (g : GoodS T K W B ρ Z0 Z H (sB env (Fo env S) k)) :
    liftO T K W Fo σ H fun v H' => ∃ ρ' S' c p, v = .ref p ∧ Neu T K ρ Z H ρ' S' H' p c ∧ GoodS T K W B ρ Z0 Z H (k c S') := by
  refine ⟨ρ, S, Z, env, a.w, a.e, ?_⟩
  cases h : Fo env S with
  | ok c S' =>
    rw [h] at g
    exact fun p H' ρ' n => ⟨ρ', S', c, p, rfl, n, g⟩
  | exc C fs S' =>
    rw [h] at g
    exact fun dx vs H' ρ' x w' q1 q2 => (show GoodF T K W B ρ Z0 Z H S' (.xc env C fs) from g) σ dx vs H' ρ' Z (x.s a.o.sub) (a.ext x w') q1 q2
  | stuck =>
    rw [h] at g
    exact g
theorem sf_own {i : Nat} {x : Str} {pos' : Pos} {Fo : Env → Cm CO} (hN : X.N.Nodup) (hi : X.N[i]? = some x) (hx : Loc X.env.scope x) (he : OF T X W e Fo) (hs : swapsWith e (some (.Name x pos')) pos.line X.env = pure false := by rfl) (hf : X.fn x = true ∨ X.env.scope.names.lookup x = some .local := by first | exact .inl rfl | exact .inr rfl | assumption) :
    SF T X W (.Assign [.Name x pos'] e pos) (sOwn i Fo) := ps_imp (ps_set hN hi hx he hs hf) fun B σ H q => by
  obtain ⟨ρ, S, Z0, Z, env, a, g⟩ := q
  obtain ⟨ρ1, S1, Z1, env1, w1, e1, g1⟩ := lift_sO a g
  refine ⟨ρ1, S1, Z1, env1, w1, e1, ?_⟩
  cases hF : Fo env1 S1 with
  | ok c S' =>
    rw [hF] at g1
    intro p H' ρ' n
    obtain ⟨ρ2, S2, c2, p2, ev, n2, g2⟩ := g1 p H' ρ' n
    cases ev
    obtain ⟨x2, a2⟩ := a.setOwn (i := i) n2
    exact (show GoodF T X.K W B ρ Z0 Z H S2 (.nx (env.set i (.own c2))) from g2) _ H' ρ2 _ x2 a2
  | exc C fs S' =>
    rw [hF] at g1
    exact g1
  | stuck =>
    rw [hF] at g1
    exact g1
theorem sf_if {c : Expr} {sa sb : List Stmt} {Fc : Env → Cm Bool} (hc : TF T X W c Fc) (ha : SFs T X W sa F) (hb : SFs T X W sb G) : SF T X W (.If c sa sb pos) (sIf Fc F G) := ps_imp (ps_if hc ha hb) fun B σ H q => by
  obtain ⟨ρ, S, Z0, Z, env, a, g⟩ := q
  refine lift_imp (lift_sB a g) fun v H1 ⟨ρ1, S1, d1, x1, a1, r1, g1⟩ => ?_
  have e : d1 = v := r1
  subst e
  cases d1 with
  | true => exact iteT ⟨ρ1, S1, Z0, Z, env, a1, g1⟩
  | false => exact iteF ⟨ρ1, S1, Z0, Z, env, a1, g1⟩
/-- code that is never come to -/
def sNo : FS := fun _ _ => .stuck
theorem sf_never : SF T X W st sNo := ps_imp ps_never fun B σ H q => by
  obtain ⟨ρ, S, Z0, Z, env, a, g⟩ := q
  exact g
end
end HT
set_option maxRecDepth 100000
set_option maxHeartbeats 4000000
namespace HT
open PySem PySem.Spec L2

/-! ### own objects become trees -/
def thaw1 : Sl → Sl
  | .own c => .val (frzD c)
  | s => s
/-- all slots in I -/
def thaw (I : Nat → Bool) (env : Env) : Env := env.mapIdx fun i s => if I i = true then thaw1 s else s
/-- hidden but for the own objects of the slots in I -/
def lessZ (I : Nat → Bool) (Z : Hid) (σ : St) (env : Env) : Hid := ⟨fun a => Z a ∧ ¬ ∃ (i : Nat) (c : CO), I i = true ∧ env[i]? = some (.own c) ∧ σ[i]? = some (some (V.ref a)), Z.me⟩
section
variable {T : Str → Addr} {K : PySem.W.Frag} {ρ : Nat → Option Addr} {S : Sto} {Z0 Z : Hid} {H : Hp} {σ : St} {env : Env} {I : Nat → Bool}
theorem thaw_get {i : Nat} {s : Sl} (h : (thaw I env)[i]? = some s) : ∃ s0, env[i]? = some s0 ∧ s = if I i = true then thaw1 s0 else s0 := by
  unfold thaw at h
  rw [List.getElem?_mapIdx] at h
  cases e : env[i]? with
  | none =>
    rw [e] at h
    cases h
  | some s0 =>
    rw [e] at h
    exact ⟨s0, rfl, (Option.some.inj h).symm⟩
theorem less_sub : Sub (Fz ρ Z H) (Fz ρ (lessZ I Z σ env) H) := fun a o h => by
  obtain ⟨h1, h2, h3⟩ := Fz_at h
  exact Fz_mk h1 (fun z => h2 z.1) h3
theorem less_world (w : Wd T K ρ S Z H) : Wd T K ρ S (lessZ I Z σ env) H :=
  ⟨w.dom, fun k c hc => by
    obtain ⟨a, o, h1, h2, h3, h4⟩ := w.cells k c hc
    exact ⟨a, o, h1, fun z => h2 z.1, h3, h4.mono (fun _ _ h => h) less_sub⟩, w.inj, fun a z => w.there a z.1⟩
theorem less_env (w : Wd T K ρ S Z H) (e : ER T K ρ Z H σ env) (ap : ∀ (i j : Nat) (c c' : CO) (a : Addr), env[i]? = some (.own c) → env[j]? = some (.own c') → σ[i]? = some (some (V.ref a)) → σ[j]? = some (some (V.ref a)) → i = j)
    (ap2 : ∀ (i j : Nat) (c c' : CO) (a : Addr), env[i]? = some (.own c) → env[j]? = some (.slf c') → σ[i]? = some (some (V.ref a)) → a ≠ Z.me) : ER T K ρ (lessZ I Z σ env) H σ (thaw I env) := by
  have nr : ∀ a, Z a → ∀ k, ρ k ≠ some a := fun a z k q => by
    have hk := w.dom k a q
    obtain ⟨b, u, g1, g2, _⟩ := w.cells k S[k] (List.getElem?_eq_getElem hk)
    rw [q] at g1
    cases g1
    exact g2 z
  refine ⟨fun i d h => ?_, fun i c h => ?_, fun i c h => ?_, ?_⟩
  · obtain ⟨s0, e1, e2⟩ := thaw_get h
    cases s0 with
    | un =>
      exfalso
      split at e2 <;> cases e2
    | val d0 =>
      have ed : d = d0 := by
        split at e2 <;> exact Sl.val.inj e2
      subst ed
      obtain ⟨v, h1, h2⟩ := e.val i d e1
      exact ⟨v, h1, Rep.mono (fun _ _ h => h) less_sub _ _ h2⟩
    | own c =>
      by_cases hI : I i = true
      · rw [if_pos hI] at e2
        have ed : d = frzD c := Sl.val.inj e2
        subst ed
        obtain ⟨a, o, h1, h2, h3, h4⟩ := e.own i c e1
        refine ⟨.ref a, h1, h4.frzD less_sub (Fz_mk h3 (fun z => z.2 ⟨i, c, hI, e1, h1⟩) (nr a h2))⟩
      · rw [if_neg hI] at e2
        cases e2
    | slf c =>
      exfalso
      split at e2 <;> cases e2
  · obtain ⟨s0, e1, e2⟩ := thaw_get h
    cases s0 with
    | un =>
      exfalso
      split at e2 <;> cases e2
    | val d0 =>
      exfalso
      split at e2 <;> cases e2
    | slf d0 =>
      exfalso
      split at e2 <;> cases e2
    | own c0 =>
      by_cases hI : I i = true
      · rw [if_pos hI] at e2
        cases e2
      · rw [if_neg hI] at e2
        cases e2
        obtain ⟨a, o, h1, h2, h3, h4⟩ := e.own i c e1
        refine ⟨a, o, h1, ⟨h2, fun ⟨j, c', q1, q2, q3⟩ => ?_⟩, h3, h4.mono (fun _ _ h => h) less_sub⟩
        have ij := ap i j c c' a e1 q2 h1 q3
        subst ij
        exact hI q1
  · obtain ⟨s0, e1, e2⟩ := thaw_get h
    have es : s0 = .slf c := by
      cases s0 with
      | slf c0 =>
        have : Sl.slf c = .slf c0 := by
          rw [e2]
          split <;> rfl
        exact this.symm
      | un => exfalso; split at e2 <;> cases e2
      | val d0 => exfalso; split at e2 <;> cases e2
      | own c0 =>
        exfalso
        split at e2 <;> cases e2
    subst es
    obtain ⟨o, h1, h2, h3, h4⟩ := e.slf i c e1
    exact ⟨o, h1, ⟨h2, fun ⟨j, c', q1, q2, q3⟩ => ap2 j i c' c _ q2 e1 q3 rfl⟩, h3, h4.mono (fun _ _ h => h) less_sub⟩
  · unfold thaw
    rw [List.length_mapIdx]
    exact e.len
theorem At.less (a : At T K ρ S Z0 Z H σ env) : ExtS ρ Z0 Z H ρ (lessZ I Z σ env) H ∧ At T K ρ S Z0 (lessZ I Z σ env) H σ (thaw I env) := by
  have backS : ∀ {i : Nat} {c : CO}, (thaw I env)[i]? = some (.slf c) → env[i]? = some (.slf c) := fun {i c} h => by
    obtain ⟨s0, e1, e2⟩ := thaw_get h
    cases s0 with
    | slf c0 =>
      have : Sl.slf c = .slf c0 := by
        rw [e2]
        split <;> rfl
      rw [this]
      exact e1
    | un => exfalso; split at e2 <;> cases e2
    | val d0 => exfalso; split at e2 <;> cases e2
    | own c0 => exfalso; split at e2 <;> cases e2
  have back : ∀ {i : Nat} {c : CO}, (thaw I env)[i]? = some (.own c) → env[i]? = some (.own c) ∧ ¬ I i = true := fun {i c} h => by
    obtain ⟨s0, e1, e2⟩ := thaw_get h
    cases s0 with
    | slf c0 =>
      exfalso
      split at e2 <;> cases e2
    | un =>
      exfalso
      split at e2 <;> cases e2
    | val d0 =>
      exfalso
      split at e2 <;> cases e2
    | own c0 =>
      by_cases hI : I i = true
      · rw [if_pos hI] at e2
        cases e2
      · rw [if_neg hI] at e2
        cases e2
        exact ⟨e1, hI⟩
  refine ⟨⟨fun _ _ h => h, less_sub, fun _ _ => rfl⟩, less_world a.w, less_env a.w a.e a.o.apart a.o.apart2, ⟨fun b z => ⟨a.o.sub b z, fun ⟨j, c', q1, q2, q3⟩ => (a.o.own j c' b q2 q3).2 z⟩, fun i c b h1 h2 => ?_, fun i j c c' b h1 h2 h3 h4 => a.o.apart i j c c' b (back h1).1 (back h2).1 h3 h4, a.o.me, fun i c h => a.o.slf i c (backS h), fun i j c c' b h1 h2 h3 => a.o.apart2 i j c c' b (back h1).1 (backS h2) h3, fun i j c c' h1 h2 => a.o.one i j c c' (backS h1) (backS h2)⟩⟩
  obtain ⟨q1, q2⟩ := back h1
  obtain ⟨z1, z2⟩ := a.o.own i c b q1 h2
  refine ⟨⟨z1, fun ⟨j, c', p1, p2, p3⟩ => ?_⟩, z2⟩
  have ij := a.o.apart i j c c' b q1 p2 h2 p3
  subst ij
  exact q2 p1
end
/-- ahead of a statement the slots in I become trees -/
def sFrz (I : List Nat) (F : FS) : FS := fun env => F (thaw (fun i => I.contains i) env)
theorem sf_frz {T : Str → Addr} {X : Cx} {W : WX} {st : Stmt} {F : FS} (I : List Nat) (h : SF T X W st F) : SF T X W st (sFrz I F) := ps_imp h fun B σ H q => by
  obtain ⟨ρ, S, Z0, Z, env, a, g⟩ := q
  obtain ⟨x, a'⟩ := a.less (I := fun i => I.contains i)
  exact ⟨ρ, S, Z0, _, _, a', g.later x⟩
theorem sfs_frz {T : Str → Addr} {X : Cx} {W : WX} {st : List Stmt} {F : FS} (I : List Nat) (h : SFs T X W st F) : SFs T X W st (sFrz I F) := pss_imp h fun B σ H q => by
  obtain ⟨ρ, S, Z0, Z, env, a, g⟩ := q
  obtain ⟨x, a'⟩ := a.less (I := fun i => I.contains i)
  exact ⟨ρ, S, Z0, _, _, a', g.later x⟩
end HT
set_option maxRecDepth 100000
set_option maxHeartbeats 4000000
namespace HT
open PySem PySem.Spec L2

/-! ### trees are compared -/
mutual
def eqD : D → D → Bool
  | .non => fun y => (match y with | .non => true | _ => false)
  | .bl a => fun y => (match y with | .bl b => a == b | _ => false)
  | .int a => fun y => (match y with | .int b => a == b | _ => false)
  | .str a => fun y => (match y with | .str b => decide (a = b) | _ => false)
  | .lst a => fun y => (match y with | .lst b => eqL a b | _ => false)
  | .klst a => fun y => (match y with | .klst b => eqL a b | _ => false)
  | .tup a => fun y => (match y with | .tup b => eqL a b | _ => false)
  | .obj C a => fun y => (match y with | .obj C' b => decide (C = C') && eqF a b | _ => false)
  | .exn C a => fun y => (match y with | .exn C' b => decide (C = C') && eqF a b | _ => false)
  | .dK a => fun y => (match y with | .dK b => eqK a b | _ => false)
  | .dT a => fun y => (match y with | .dT b => eqT a b | _ => false)
  | .cell a => fun y => (match y with | .cell b => a == b | _ => false)
  | .glob a => fun y => (match y with | .glob b => decide (a = b) | _ => false)
  | .ty a => fun y => (match y with | .ty b => decide (a = b) | _ => false)
termination_by structural x => x
def eqL : List D → List D → Bool
  | [] => fun ys => ys.isEmpty
  | x :: xs => fun ys => (match ys with | y :: r => eqD x y && eqL xs r | [] => false)
termination_by structural x => x
def eqF : List (Str × D) → List (Str × D) → Bool
  | [] => fun ys => ys.isEmpty
  | p :: xs => fun ys => (match ys with | q :: r => decide (p.1 = q.1) && (eqD p.2 q.2 && eqF xs r) | [] => false)
termination_by structural x => x
def eqK : List (Key × D) → List (Key × D) → Bool
  | [] => fun ys => ys.isEmpty
  | p :: xs => fun ys => (match ys with | q :: r => decide (p.1 = q.1) && (eqD p.2 q.2 && eqK xs r) | [] => false)
termination_by structural x => x
def eqT : List (List Key × D) → List (List Key × D) → Bool
  | [] => fun ys => ys.isEmpty
  | p :: xs => fun ys => (match ys with | q :: r => decide (p.1 = q.1) && (eqD p.2 q.2 && eqT xs r) | [] => false)
termination_by structural x => x
end
theorem bAnd {a b : Bool} (h : (a && b) = true) : a = true ∧ b = true := Bool.and_eq_true_iff.mp h
mutual
theorem eqD_eq : ∀ x y : D, eqD x y = true → x = y
  | .non => fun y h => by cases y <;> first | rfl | cases h
  | .bl a => fun y h => by
    cases y with
    | bl b => rw [eq_of_beq (show (a == b) = true from h)]
    | _ => cases h
  | .int a => fun y h => by
    cases y with
    | int b => rw [eq_of_beq (show (a == b) = true from h)]
    | _ => cases h
  | .str a => fun y h => by
    cases y with
    | str b => rw [of_decide_eq_true (show decide (a = b) = true from h)]
    | _ => cases h
  | .lst a => fun y h => by
    cases y with
    | lst b => rw [eqL_eq a b h]
    | _ => cases h
  | .klst a => fun y h => by
    cases y with
    | klst b => rw [eqL_eq a b h]
    | _ => cases h
  | .tup a => fun y h => by
    cases y with
    | tup b => rw [eqL_eq a b h]
    | _ => cases h
  | .obj C a => fun y h => by
    cases y with
    | obj C' b =>
      obtain ⟨h1, h2⟩ := bAnd (show (decide (C = C') && eqF a b) = true from h)
      rw [of_decide_eq_true h1, eqF_eq a b h2]
    | _ => cases h
  | .exn C a => fun y h => by
    cases y with
    | exn C' b =>
      obtain ⟨h1, h2⟩ := bAnd (show (decide (C = C') && eqF a b) = true from h)
      rw [of_decide_eq_true h1, eqF_eq a b h2]
    | _ => cases h
  | .dK a => fun y h => by
    cases y with
    | dK b => rw [eqK_eq a b h]
    | _ => cases h
  | .dT a => fun y h => by
    cases y with
    | dT b => rw [eqT_eq a b h]
    | _ => cases h
  | .cell a => fun y h => by
    cases y with
    | cell b => rw [eq_of_beq (show (a == b) = true from h)]
    | _ => cases h
  | .glob a => fun y h => by
    cases y with
    | glob b => rw [of_decide_eq_true (show decide (a = b) = true from h)]
    | _ => cases h
  | .ty a => fun y h => by
    cases y with
    | ty b => rw [of_decide_eq_true (show decide (a = b) = true from h)]
    | _ => cases h
termination_by structural x => x
theorem eqL_eq : ∀ x y : List D, eqL x y = true → x = y
  | [] => fun y h => by cases y <;> first | rfl | cases h
  | a :: x => fun y h => by
    cases y with
    | nil => cases h
    | cons b y =>
      obtain ⟨h1, h2⟩ := bAnd (show (eqD a b && eqL x y) = true from h)
      rw [eqD_eq a b h1, eqL_eq x y h2]
termination_by structural x => x
theorem eqF_eq : ∀ x y : List (Str × D), eqF x y = true → x = y
  | [] => fun y h => by cases y <;> first | rfl | cases h
  | p :: x => fun y h => by
    cases y with
    | nil => cases h
    | cons q y =>
      obtain ⟨h0, h'⟩ := bAnd (show (decide (p.1 = q.1) && (eqD p.2 q.2 && eqF x y)) = true from h)
      obtain ⟨h1, h2⟩ := bAnd h'
      have e2 := eqD_eq p.2 q.2 h1
      obtain ⟨f, a⟩ := p
      obtain ⟨g, b⟩ := q
      cases of_decide_eq_true h0
      cases e2
      rw [eqF_eq x y h2]
termination_by structural x => x
theorem eqK_eq : ∀ x y : List (Key × D), eqK x y = true → x = y
  | [] => fun y h => by cases y <;> first | rfl | cases h
  | p :: x => fun y h => by
    cases y with
    | nil => cases h
    | cons q y =>
      obtain ⟨h0, h'⟩ := bAnd (show (decide (p.1 = q.1) && (eqD p.2 q.2 && eqK x y)) = true from h)
      obtain ⟨h1, h2⟩ := bAnd h'
      have e2 := eqD_eq p.2 q.2 h1
      obtain ⟨f, a⟩ := p
      obtain ⟨g, b⟩ := q
      cases of_decide_eq_true h0
      cases e2
      rw [eqK_eq x y h2]
termination_by structural x => x
theorem eqT_eq : ∀ x y : List (List Key × D), eqT x y = true → x = y
  | [] => fun y h => by cases y <;> first | rfl | cases h
  | p :: x => fun y h => by
    cases y with
    | nil => cases h
    | cons q y =>
      obtain ⟨h0, h'⟩ := bAnd (show (decide (p.1 = q.1) && (eqD p.2 q.2 && eqT x y)) = true from h)
      obtain ⟨h1, h2⟩ := bAnd h'
      have e2 := eqD_eq p.2 q.2 h1
      obtain ⟨f, a⟩ := p
      obtain ⟨g, b⟩ := q
      cases of_decide_eq_true h0
      cases e2
      rw [eqT_eq x y h2]
termination_by structural x => x
end
mutual
theorem eqD_rfl : ∀ x : D, eqD x x = true
  | .non => rfl
  | .bl a => by show (a == a) = true; exact beq_self_eq_true a
  | .int a => by show (a == a) = true; exact beq_self_eq_true a
  | .str a => by show decide (a = a) = true; exact decide_eq_true rfl
  | .lst a => eqL_rfl a
  | .klst a => eqL_rfl a
  | .tup a => eqL_rfl a
  | .obj C a => by show (decide (C = C) && eqF a a) = true; rw [decide_eq_true rfl, eqF_rfl a]; rfl
  | .exn C a => by show (decide (C = C) && eqF a a) = true; rw [decide_eq_true rfl, eqF_rfl a]; rfl
  | .dK a => eqK_rfl a
  | .dT a => eqT_rfl a
  | .cell a => by show (a == a) = true; exact beq_self_eq_true a
  | .glob a => by show decide (a = a) = true; exact decide_eq_true rfl
  | .ty a => by show decide (a = a) = true; exact decide_eq_true rfl
termination_by structural x => x
theorem eqL_rfl : ∀ x : List D, eqL x x = true
  | [] => rfl
  | a :: x => by show (eqD a a && eqL x x) = true; rw [eqD_rfl a, eqL_rfl x]; rfl
termination_by structural x => x
theorem eqF_rfl : ∀ x : List (Str × D), eqF x x = true
  | [] => rfl
  | p :: x => by show (decide (p.1 = p.1) && (eqD p.2 p.2 && eqF x x)) = true; rw [decide_eq_true rfl, eqD_rfl p.2, eqF_rfl x]; rfl
termination_by structural x => x
theorem eqK_rfl : ∀ x : List (Key × D), eqK x x = true
  | [] => rfl
  | p :: x => by show (decide (p.1 = p.1) && (eqD p.2 p.2 && eqK x x)) = true; rw [decide_eq_true rfl, eqD_rfl p.2, eqK_rfl x]; rfl
termination_by structural x => x
theorem eqT_rfl : ∀ x : List (List Key × D), eqT x x = true
  | [] => rfl
  | p :: x => by show (decide (p.1 = p.1) && (eqD p.2 p.2 && eqT x x)) = true; rw [decide_eq_true rfl, eqD_rfl p.2, eqT_rfl x]; rfl
termination_by structural x => x
end
def eqCO : CO → CO → Bool
  | .lst a, .lst b => eqL a b
  | .dK a, .dK b => eqK a b
  | .dT a, .dT b => eqT a b
  | .ins C a, .ins C' b => decide (C = C') && eqF a b
  | _, _ => false
theorem eqCO_eq {x y : CO} (h : eqCO x y = true) : x = y := by
  cases x with
  | lst a =>
    cases y with
    | lst b => rw [eqL_eq a b h]
    | _ => cases h
  | dK a =>
    cases y with
    | dK b => rw [eqK_eq a b h]
    | _ => cases h
  | dT a =>
    cases y with
    | dT b => rw [eqT_eq a b h]
    | _ => cases h
  | ins C a =>
    cases y with
    | ins C' b =>
      obtain ⟨h1, h2⟩ := bAnd (show (decide (C = C') && eqF a b) = true from h)
      rw [of_decide_eq_true h1, eqF_eq a b h2]
    | _ => cases h
theorem eqCO_rfl (x : CO) : eqCO x x = true := by
  cases x with
  | lst a => exact eqL_rfl a
  | dK a => exact eqK_rfl a
  | dT a => exact eqT_rfl a
  | ins C a => show (decide (C = C) && eqF a a) = true; rw [decide_eq_true rfl, eqF_rfl a]; rfl
def eqS : Sto → Sto → Bool
  | [], [] => true
  | a :: x, b :: y => eqCO a b && eqS x y
  | _, _ => false
theorem eqS_eq : ∀ {x y : Sto}, eqS x y = true → x = y
  | [], [], _ => rfl
  | a :: x, b :: y, h => by
    obtain ⟨h1, h2⟩ := bAnd (show (eqCO a b && eqS x y) = true from h)
    rw [eqCO_eq h1, eqS_eq h2]
  | [], _ :: _, h => by cases h
  | _ :: _, [], h => by cases h
@[simp] theorem eqS_rfl : ∀ x : Sto, eqS x x = true
  | [] => rfl
  | a :: x => by show (eqCO a a && eqS x x) = true; rw [eqCO_rfl a, eqS_rfl x]; rfl

end HT
set_option maxRecDepth 100000
set_option maxHeartbeats 4000000
namespace HT
open PySem PySem.Spec L2

/-! ### a look at an object -/
section
variable (T : Str → Addr) (K : PySem.W.Frag)
def GoodV (W : WX) (σ : St) (Q : VK) (ρ : Nat → Option Addr) (Z : Hid) (H : Hp) : R CO → Prop
  | .ok c S' => ∀ a o H' ρ', Ext ρ Z H ρ' H' → Wd T K ρ' S' Z H' → H' a = some o → HObj T K ρ' (Fz ρ' Z H') c o → Q (.ref a) H'
  | .exc C fs S' => ∀ dx vs H' ρ', Ext ρ Z H ρ' H' → Wd T K ρ' S' Z H' → XAt (Fz ρ' Z H') dx vs → RepF T K ρ' (Fz ρ' Z H') fs vs → W (.ref (T C)) dx σ H'
  | .stuck => False
def liftV (W : WX) (F : Env → Cm CO) : TE := fun σ H Q => ∃ ρ S Z env, Wd T K ρ S Z H ∧ ER T K ρ Z H σ env ∧ GoodV T K W σ Q ρ Z H (F env S)
end
abbrev VF (T : Str → Addr) (X : Cx) (W : WX) (e : Expr) (F : Env → Cm CO) : Prop := PE X e (liftV T X.K W F)
def asCO (S : Sto) : D → Option CO
  | .lst ds => some (.lst ds)
  | .dK kvs => some (.dK kvs)
  | .dT kvs => some (.dT kvs)
  | .obj C fs => some (.ins C fs)
  | .cell k => S[k]?
  | _ => none
theorem asCO_ok {T : Str → Addr} {K : PySem.W.Frag} {ρ : Nat → Option Addr} {Z : Hid} {H : Hp} {S : Sto} (w : Wd T K ρ S Z H) {d : D} {v : V} {c : CO} (r : Rep T K ρ (Fz ρ Z H) d v) (h : asCO S d = some c) : ∃ a o, v = .ref a ∧ H a = some o ∧ HObj T K ρ (Fz ρ Z H) c o := by
  cases d with
  | lst ds =>
    cases h
    obtain ⟨a, vs, e, q, q2⟩ := r
    exact ⟨a, _, e, Fz_sub _ _ q, vs, rfl, q2⟩
  | dK kvs =>
    cases h
    obtain ⟨a, vs, e, q, q2⟩ := r
    exact ⟨a, _, e, Fz_sub _ _ q, vs, rfl, q2⟩
  | dT kvs =>
    cases h
    obtain ⟨a, vs, e, q, q2⟩ := r
    exact ⟨a, _, e, Fz_sub _ _ q, vs, rfl, q2⟩
  | obj C fs =>
    cases h
    obtain ⟨a, dx, vs, e, q, q2⟩ := r
    exact ⟨a, _, e, Fz_sub _ _ q, dx, vs, rfl, q2⟩
  | cell k =>
    obtain ⟨a, e, q⟩ := r
    obtain ⟨b, o, h1, h2, h3, h4⟩ := w.cells k c h
    rw [q] at h1
    cases h1
    exact ⟨a, o, e, h3, h4⟩
  | _ => cases h
def vPF (F : FE) : Env → Cm CO := fun env S => (F env S).bnd fun d S' => match asCO S' d with
  | some c => .ok c S'
  | none => .stuck
def vVar (i : Nat) : Env → Cm CO := fun env S => match env[i]? with
  | some (.own c) => .ok c S
  | some (.slf c) => .ok c S
  | some (.val d) => (match asCO S d with
    | some c => .ok c S
    | none => .stuck)
  | _ => .stuck
section
variable {T : Str → Addr} {X : Cx} {W : WX}
theorem vf_pf {e : Expr} {F : FE} (h : PF T X W e F) : VF T X W e (vPF F) := by
  refine pe_imp h fun σ H Q q => ?_
  obtain ⟨ρ, S, Z, env, w, er, g⟩ := q
  refine ⟨ρ, S, Z, env, w, er, ?_⟩
  unfold vPF at g
  cases hF : F env S with
  | ok d S' =>
    rw [hF] at g
    cases hc : asCO S' d with
    | none =>
      rw [show (R.ok d S').bnd (fun d S' => match asCO S' d with | some c => R.ok c S' | none => R.stuck) = (match asCO S' d with | some c => R.ok c S' | none => R.stuck) from rfl, hc] at g
      exact g.elim
    | some c =>
      rw [show (R.ok d S').bnd (fun d S' => match asCO S' d with | some c => R.ok c S' | none => R.stuck) = (match asCO S' d with | some c => R.ok c S' | none => R.stuck) from rfl, hc] at g
      intro v H' ρ' x w' r
      obtain ⟨a, o, rfl, h1, h2⟩ := asCO_ok w' r hc
      exact g a o H' ρ' x w' h1 h2
  | exc C fs S' =>
    rw [hF] at g
    exact g
  | stuck =>
    rw [hF] at g
    exact g
theorem vf_var {i : Nat} {x : Str} {pos : Pos} (h : PE X (.Name x pos) (tVar i)) : VF T X W (.Name x pos) (vVar i) := by
  refine pe_imp h fun σ H Q q => ?_
  obtain ⟨ρ, S, Z, env, w, e, g⟩ := q
  unfold vVar at g
  cases hd : env[i]? with
  | none =>
    rw [hd] at g
    exact g.elim
  | some sl =>
    rw [hd] at g
    cases sl with
    | val d =>
      obtain ⟨v, h1, h2⟩ := e.val i d hd
      cases hc : asCO S d with
      | none =>
        dsimp only at g
        rw [hc] at g
        exact g.elim
      | some c =>
        dsimp only at g
        rw [hc] at g
        obtain ⟨a, o, rfl, q1, q2⟩ := asCO_ok w h2 hc
        exact ⟨_, h1, g a o H ρ .refl w q1 q2⟩
    | un => exact g.elim
    | own c =>
      obtain ⟨a, o, h1, h2, h3, h4⟩ := e.own i c hd
      exact ⟨_, h1, g a o H ρ .refl w h3 h4⟩
    | slf c =>
      obtain ⟨o, h1, h2, h3, h4⟩ := e.slf i c hd
      exact ⟨_, h1, g _ o H ρ .refl w h3 h4⟩
end

/-! ### targets -/
def gNames : List Nat → TGs
  | [] => gNil
  | i :: r => gCons (gName i) (gNames r)
inductive Bd where
  | one (i : Nat) | many (is : List Nat)
def gBd (K : PySem.W.Frag) : Bd → TG
  | .one i => gName i
  | .many is => gTup K is.length (gNames is)
def bindL : List Nat → List D → Env → Env
  | i :: is, d :: ds, env => bindL is ds (env.set i (.val d))
  | _, _, env => env
def bindE (b : Bd) (d : D) (env : Env) : Option Env := match b with
  | .one i => some (env.set i (.val d))
  | .many is => match d with
    | .tup ds => if ds.length = is.length then some (bindL is ds env) else none
    | _ => none
def Bd.slots : Bd → List Nat
  | .one i => [i]
  | .many is => is
section
variable {T : Str → Addr} {K : PySem.W.Frag} {ρ : Nat → Option Addr} {S : Sto} {Z0 Z : Hid} {H : Hp} {σ : St} {env : Env}
theorem ER.set {i : Nat} {d : D} {v : V} (e : ER T K ρ Z H σ env) (hv : Rep T K ρ (Fz ρ Z H) d v) : ER T K ρ Z H (σ.set i (some v)) (env.set i (.val d)) := by
  have hl := e.len
  have bnd : ∀ {j : Nat} {s : Sl}, (env.set i (.val d))[j]? = some s → i = j → i < env.length := fun {j s} h q => by
    have := (List.getElem?_eq_some_iff.mp h).1
    rw [List.length_set] at this
    omega
  refine ⟨fun j d' h => ?_, fun j c h => ?_, fun j c h => ?_, by rw [List.length_set, List.length_set]; exact hl⟩
  · by_cases hj : i = j
    · have hi := bnd h hj
      subst hj
      rw [List.getElem?_set_self hi] at h
      cases h
      exact ⟨v, List.getElem?_set_self (by omega), hv⟩
    · rw [List.getElem?_set_ne hj] at h
      obtain ⟨w, h1, h2⟩ := e.val j d' h
      exact ⟨w, by rw [List.getElem?_set_ne hj]; exact h1, h2⟩
  · by_cases hj : i = j
    · have hi := bnd h hj
      subst hj
      rw [List.getElem?_set_self hi] at h
      cases h
    · rw [List.getElem?_set_ne hj] at h
      obtain ⟨b, o, h1, h2⟩ := e.own j c h
      exact ⟨b, o, by rw [List.getElem?_set_ne hj]; exact h1, h2⟩
  · by_cases hj : i = j
    · have hi := bnd h hj
      subst hj
      rw [List.getElem?_set_self hi] at h
      cases h
    · rw [List.getElem?_set_ne hj] at h
      obtain ⟨o, h1, h2⟩ := e.slf j c h
      exact ⟨o, by rw [List.getElem?_set_ne hj]; exact h1, h2⟩
/-- behind a store to the slots is -/
structure Agree (is : List Nat) (σ σ' : St) : Prop where
  len : σ'.length = σ.length
  same : ∀ j, j ∉ is → σ'[j]? = σ[j]?
theorem Agree.set {i : Nat} {v : V} : Agree [i] σ (σ.set i (some v)) := ⟨List.length_set .., fun j h => List.getElem?_set_ne (fun e => h (by rw [e]; exact List.mem_singleton.mpr rfl))⟩
theorem names_run {Q : St → Hp → Prop} : ∀ (is : List Nat) (ds : List D) (vs : List V) (σ : St) (env : Env), RepL T K ρ (Fz ρ Z H) ds vs → ds.length = is.length → ER T K ρ Z H σ env → (∀ σ', ER T K ρ Z H σ' (bindL is ds env) → Agree is σ σ' → Q σ' H) → gNames is vs σ H Q
  | [], ds, vs, σ, env, r, hl, e, k => by
    have hd : ds = [] := List.eq_nil_of_length_eq_zero hl
    subst hd
    have hv : vs = [] := r
    subst hv
    exact ⟨rfl, k σ e ⟨rfl, fun _ _ => rfl⟩⟩
  | i :: is, ds, vs, σ, env, r, hl, e, k => by
    cases ds with
    | nil => simp at hl
    | cons d ds =>
      obtain ⟨v, us, rfl, r1, r2⟩ := r
      refine ⟨v, us, rfl, names_run is ds us _ _ r2 (by simpa using hl) (e.set r1) fun σ' e' a => k σ' e' ⟨a.len.trans (List.length_set ..), fun j hj => ?_⟩⟩
      rw [a.same j fun z => hj (List.mem_cons_of_mem _ z)]
      exact List.getElem?_set_ne fun z => hj (by rw [z]; exact List.mem_cons_self)
theorem names_runA {Q : St → Hp → Prop} : ∀ (is : List Nat) (ds : List D) (vs : List V) (σ : St) (env : Env), RepL T K ρ (Fz ρ Z H) ds vs → ds.length = is.length → At T K ρ S Z0 Z H σ env → (∀ σ', At T K ρ S Z0 Z H σ' (bindL is ds env) → Q σ' H) → gNames is vs σ H Q
  | [], ds, vs, σ, env, r, hl, e, k => by
    have hd : ds = [] := List.eq_nil_of_length_eq_zero hl
    subst hd
    have hv : vs = [] := r
    subst hv
    exact ⟨rfl, k σ e⟩
  | i :: is, ds, vs, σ, env, r, hl, e, k => by
    cases ds with
    | nil => simp at hl
    | cons d ds =>
      obtain ⟨v, us, rfl, r1, r2⟩ := r
      exact ⟨v, us, rfl, names_runA is ds us _ _ r2 (by simpa using hl) (e.set r1) k⟩
theorem bd_run {Q : St → Hp → Prop} {b : Bd} {d : D} {v : V} {env' : Env} (r : Rep T K ρ (Fz ρ Z H) d v) (e : ER T K ρ Z H σ env) (h : bindE b d env = some env') (k : ∀ σ', ER T K ρ Z H σ' env' → Agree b.slots σ σ' → Q σ' H) : gBd K b v σ H Q := by
  cases b with
  | one i =>
    cases h
    exact k _ (e.set r) .set
  | many is =>
    cases d with
    | tup ds =>
      have h' : (if ds.length = is.length then some (bindL is ds env) else none) = some env' := h
      split at h'
      · rename_i hl
        cases h'
        obtain ⟨a, vs, rfl, q, q2⟩ := r
        exact ⟨a, vs, rfl, Fz_sub.seqT q, by rw [← q2.len]; exact hl, names_run is ds vs σ env q2 hl e k⟩
      · cases h'
    | _ => cases h
theorem bd_runA {Q : St → Hp → Prop} {b : Bd} {d : D} {v : V} {env' : Env} (r : Rep T K ρ (Fz ρ Z H) d v) (e : At T K ρ S Z0 Z H σ env) (h : bindE b d env = some env') (k : ∀ σ', At T K ρ S Z0 Z H σ' env' → Q σ' H) : gBd K b v σ H Q := by
  cases b with
  | one i =>
    cases h
    exact k _ (e.set r)
  | many is =>
    cases d with
    | tup ds =>
      have h' : (if ds.length = is.length then some (bindL is ds env) else none) = some env' := h
      split at h'
      · rename_i hl
        cases h'
        obtain ⟨a, vs, rfl, q, q2⟩ := r
        exact ⟨a, vs, rfl, Fz_sub.seqT q, by rw [← q2.len]; exact hl, names_runA is ds vs σ env q2 hl e k⟩
      · cases h'
    | _ => cases h
theorem Agree.wipe {is vs : List Nat} {σ' : St} (a : Agree is σ σ') (h : ∀ i ∈ is, i ∈ vs) : wipe σ' vs = wipe σ vs := by
  refine List.ext_getElem? fun j => ?_
  have wl : ∀ (l : List Nat) (τ : St), (L2.wipe τ l)[j]? = if j ∈ l then (if j < τ.length then some none else none) else τ[j]? := by
    intro l
    induction l with
    | nil => intro τ; rfl
    | cons x l ih =>
      intro τ
      show ((L2.wipe τ l).set x none)[j]? = _
      by_cases hx : x = j
      · subst hx
        by_cases hl : x < τ.length
        · rw [List.getElem?_set_self (by rw [wipe_length]; exact hl), if_pos List.mem_cons_self, if_pos hl]
        · rw [List.getElem?_eq_none (by rw [List.length_set, wipe_length]; omega), if_pos List.mem_cons_self, if_neg hl]
      · rw [List.getElem?_set_ne hx, ih τ]
        by_cases hm : j ∈ l
        · rw [if_pos hm, if_pos (List.mem_cons_of_mem _ hm)]
        · rw [if_neg hm, if_neg (by intro z; rcases List.mem_cons.mp z with q | q; exact hx q.symm; exact hm q)]
  rw [wl, wl, a.len]
  by_cases hj : j ∈ vs
  · rw [if_pos hj, if_pos hj]
  · rw [if_neg hj, if_neg hj]
    exact a.same j fun z => hj (h j z)
end

/-! ### what is walked -/
/-- where the list that is walked stands: it stays as it is -/
inductive Src where
  | fz | cl (k : Nat) (c : CO) | hid
def Src.isHid : Src → Bool
  | .hid => true
  | _ => false
def chk (src : Src) (S : Sto) : Bool := match src with
  | .cl k c => (match S[k]? with
    | some c' => eqCO c c'
    | none => false)
  | _ => true
def ItOk (T : Str → Addr) (K : PySem.W.Frag) (ρ : Nat → Option Addr) (Z : Hid) (H : Hp) (J : It) (ds : List D) (src : Src) : Prop :=
  ∀ ρ2 S2 (Z2 : Hid) H2, (∀ k a, ρ k = some a → ρ2 k = some a) → Sub (Fz ρ Z H) (Fz ρ2 Z2 H2) → (src.isHid = true → ∀ a, Z a → H2 a = H a) → Wd T K ρ2 S2 Z2 H2 → chk src S2 = true → ∀ i,
    (∀ d, ds[i]? = some d → J.go i H2 ∧ ∀ x H3, J.yld i H2 x H3 → Ext ρ2 Z2 H2 ρ2 H3 ∧ Wd T K ρ2 S2 Z2 H3 ∧ Rep T K ρ2 (Fz ρ2 Z2 H3) d x) ∧ (ds.length ≤ i → J.stop i H2)
section
variable (T : Str → Addr) (K : PySem.W.Frag)
def GoodI (W : WX) (σ : St) (Q : It → Hp → Prop) (ρ : Nat → Option Addr) (Z : Hid) (H : Hp) : R (List D × Src) → Prop
  | .ok p S' => ∀ J H' ρ', Ext ρ Z H ρ' H' → Wd T K ρ' S' Z H' → ItOk T K ρ' Z H' J p.1 p.2 → Q J H'
  | .exc C fs S' => ∀ dx vs H' ρ', Ext ρ Z H ρ' H' → Wd T K ρ' S' Z H' → XAt (Fz ρ' Z H') dx vs → RepF T K ρ' (Fz ρ' Z H') fs vs → W (.ref (T C)) dx σ H'
  | .stuck => False
def liftI (W : WX) (F : Env → Cm (List D × Src)) : TI := fun σ H Q => ∃ ρ S Z env, Wd T K ρ S Z H ∧ ER T K ρ Z H σ env ∧ GoodI T K W σ Q ρ Z H (F env S)
end
abbrev IF (T : Str → Addr) (X : Cx) (W : WX) (tg iter : Expr) (F : Env → Cm (List D × Src)) : Prop := PI X tg iter (liftI T X.K W F)
theorem pi_imp {X : Cx} {tg iter : Expr} {t t' : TI} (h : PI X tg iter t) (i : ∀ σ H R, t' σ H R → t σ H R) : PI X tg iter t' := ⟨fun pins s σ H R I q => h.run pins s σ H R I (i σ H R q)⟩
theorem pi_or {X : Cx} {tg iter : Expr} {t t' : TI} (h : PI X tg iter t) (h' : PI X tg iter t') : PI X tg iter (fun σ H R => t σ H R ∨ t' σ H R) := ⟨fun pins s σ H R I q => by
  rcases q with q | q
  · exact h.run pins s σ H R I q
  · exact h'.run pins s σ H R I q⟩
/-- of a list, a tuple: its items -/
def srcOf : D → Option (Sto → Option (List D × Src))
  | .lst ds => some fun _ => some (ds, .fz)
  | .klst ds => some fun _ => some (ds, .fz)
  | .tup ds => some fun _ => some (ds, .fz)
  | .cell k => some fun S => match S[k]? with
    | some (.lst ds) => some (ds, .cl k (.lst ds))
    | _ => none
  | _ => none
def walkD (S : Sto) (d : D) : Option (List D × Src) := match d with
  | .lst ds => some (ds, .fz)
  | .klst ds => some (ds, .fz)
  | .tup ds => some (ds, .fz)
  | .cell k => (match S[k]? with
    | some (.lst ds) => some (ds, .cl k (.lst ds))
    | _ => none)
  | _ => none
section
variable {T : Str → Addr} {K : PySem.W.Frag} {ρ : Nat → Option Addr} {S : Sto} {Z : Hid} {H : Hp}
theorem it_seqL {a : Addr} {vs : List V} {ds : List D} (h : SqL K (Fz ρ Z H) a vs) (r : RepL T K ρ (Fz ρ Z H) ds vs) : ItOk T K ρ Z H (Itl K a) ds .fz := by
  intro ρ2 S2 Z2 H2 hc hs _ w2 _ i
  have h2 : SqL K H2 a vs := Fz_sub.seqL (hs.seqL h)
  have r2 := RepL.mono hc hs _ _ r
  refine ⟨fun d hd => ?_, fun hl => ⟨vs, h2, by rw [← r.len]; exact hl⟩⟩
  obtain ⟨v, hv, rv⟩ := r2.get hd
  refine ⟨⟨vs, v, h2, hv⟩, fun x H3 y => ?_⟩
  obtain ⟨e, y⟩ := y
  subst e
  have e2 := y vs h2
  rw [hv] at e2
  cases e2
  exact ⟨.refl, w2, rv⟩
theorem it_seqT {a : Addr} {vs : List V} {ds : List D} (h : SqT K (Fz ρ Z H) a vs) (r : RepL T K ρ (Fz ρ Z H) ds vs) : ItOk T K ρ Z H (Itt K a) ds .fz := by
  intro ρ2 S2 Z2 H2 hc hs _ w2 _ i
  have h2 : SqT K H2 a vs := Fz_sub.seqT (hs.seqT h)
  have r2 := RepL.mono hc hs _ _ r
  refine ⟨fun d hd => ?_, fun hl => ⟨vs, h2, by rw [← r.len]; exact hl⟩⟩
  obtain ⟨v, hv, rv⟩ := r2.get hd
  refine ⟨⟨vs, v, h2, hv⟩, fun x H3 y => ?_⟩
  obtain ⟨e, y⟩ := y
  subst e
  have e2 := y vs h2
  rw [hv] at e2
  cases e2
  exact ⟨.refl, w2, rv⟩
/-- what a list that stands in the heap by itself yields (a tracked list is no list of the module) -/
theorem sq_inj {P : Prop} : P → P := id
end
end HT
set_option maxRecDepth 100000
set_option maxHeartbeats 400000
namespace HT
open PySem PySem.Spec L2

section
variable {T : Str → Addr} {K : PySem.W.Frag} {ρ : Nat → Option Addr} {S : Sto} {Z : Hid} {H : Hp}
theorem it_cell {k : Nat} {a : Addr} {ds : List D} (hk : ρ k = some a) : ItOk T K ρ Z H (Itl K a) ds (.cl k (.lst ds)) := by
  intro ρ2 S2 Z2 H2 hc hs _ w2 hch i
  have hch' : (match S2[k]? with
    | some c' => eqCO (.lst ds) c'
    | none => false) = true := hch
  cases e : S2[k]? with
  | none =>
    rw [e] at hch'
    cases hch'
  | some c' =>
    rw [e] at hch'
    have ec := eqCO_eq hch'
    subst ec
    obtain ⟨b, o, h1, h2, h3, h4⟩ := w2.cells k _ e
    rw [hc k a hk] at h1
    cases h1
    obtain ⟨vs, rfl, r2⟩ := h4
    refine ⟨fun d hd => ?_, fun hl => ⟨vs, SqL.of h3, by rw [← r2.len]; exact hl⟩⟩
    obtain ⟨v, hv, rv⟩ := r2.get hd
    refine ⟨⟨vs, v, SqL.of h3, hv⟩, fun x H3 y => ?_⟩
    obtain ⟨e, y⟩ := y
    subst e
    have e2 := y vs (SqL.of h3)
    rw [hv] at e2
    cases e2
    exact ⟨.refl, w2, rv⟩
theorem it_own {a : Addr} {vs : List V} {ds : List D} (hz : Z a) (h : H a = some (.lst vs)) (r : RepL T K ρ (Fz ρ Z H) ds vs) : ItOk T K ρ Z H (Itl K a) ds .hid := by
  intro ρ2 S2 Z2 H2 hc hs hh w2 _ i
  have h2 : SqL K H2 a vs := SqL.of ((hh rfl a hz).trans h)
  have r2 := RepL.mono hc hs _ _ r
  refine ⟨fun d hd => ?_, fun hl => ⟨vs, h2, by rw [← r.len]; exact hl⟩⟩
  obtain ⟨v, hv, rv⟩ := r2.get hd
  refine ⟨⟨vs, v, h2, hv⟩, fun x H3 y => ?_⟩
  obtain ⟨e, y⟩ := y
  subst e
  have e2 := y vs h2
  rw [hv] at e2
  cases e2
  exact ⟨.refl, w2, rv⟩
theorem it_range {lo : Int} {n : Nat} : ItOk T K ρ Z H (Itr lo n) ((List.range n).map fun i => D.int (lo + (i : Nat))) .fz := by
  intro ρ2 S2 Z2 H2 hc hs _ w2 _ i
  refine ⟨fun d hd => ?_, fun hl => by show n ≤ i; simpa using hl⟩
  have hi : i < n := by
    have := (List.getElem?_eq_some_iff.mp hd).1
    simpa using this
  rw [List.getElem?_map, List.getElem?_range hi] at hd
  cases hd
  exact ⟨hi, fun x H3 y => by
    obtain ⟨e, y⟩ := y
    subst e
    subst y
    exact ⟨.refl, w2, rfl⟩⟩
theorem it_str {z : Str} : ItOk T K ρ Z H (Its z) (z.cps.toList.map fun c => D.str ⟨#[c]⟩) .fz := by
  intro ρ2 S2 Z2 H2 hc hs _ w2 _ i
  have tl : z.cps.toList[i]? = z.cps[i]? := Array.getElem?_toList
  refine ⟨fun d hd => ?_, fun hl => by show z.cps.size ≤ i; simpa using hl⟩
  rw [List.getElem?_map, tl] at hd
  cases e : z.cps[i]? with
  | none =>
    rw [e] at hd
    cases hd
  | some c =>
    rw [e] at hd
    cases hd
    have hi : i < z.cps.size := (Array.getElem?_eq_some_iff.mp e).1
    exact ⟨hi, fun x H3 y => by
      obtain ⟨e1, c', e2, e3⟩ := y
      subst e1
      rw [e] at e2
      cases e2
      subst e3
      exact ⟨.refl, w2, rfl⟩⟩
end

/-! ### sources -/
def iSeq (F : FE) : Env → Cm (List D × Src) := fun env S => (F env S).bnd fun d S' => match d with
  | .str z => .ok (z.cps.toList.map (fun c => D.str ⟨#[c]⟩), .fz) S'
  | d => match walkD S' d with
    | some p => .ok p S'
    | none => .stuck
def iOwn (i : Nat) : Env → Cm (List D × Src) := fun env S => match env[i]? with
  | some (.own (.lst ds)) => .ok (ds, .hid) S
  | some (.val d) => (match walkD S d with
    | some p => .ok p S
    | none => .stuck)
  | _ => .stuck
section
variable {T : Str → Addr} {X : Cx} {W : WX} {tg e : Expr} {F : FE} {pos : Pos}
theorem lift_bndI {β α : Type} {rel : Rl α β} {K : PySem.W.Frag} {σ : St} {ρ : Nat → Option Addr} {S : Sto} {Z : Hid} {H : Hp} {env : Env} {Q : It → Hp → Prop} {F : Env → Cm α} {k : α → Cm (List D × Src)} (w : Wd T K ρ S Z H) (e : ER T K ρ Z H σ env) (g : GoodI T K W σ Q ρ Z H ((F env S).bnd k)) :
    lift T K rel W F σ H fun v H' => ∃ ρ' S' d, Ext ρ Z H ρ' H' ∧ Wd T K ρ' S' Z H' ∧ ER T K ρ' Z H' σ env ∧ rel ρ' (Fz ρ' Z H') d v ∧ GoodI T K W σ Q ρ' Z H' (k d S') := by
  refine ⟨ρ, S, Z, env, w, e, ?_⟩
  cases h : F env S with
  | ok d S' =>
    rw [h] at g
    refine fun v H' ρ' x w' q => ⟨ρ', S', d, x, w', e.ext x, q, ?_⟩
    have g' : GoodI T K W σ Q ρ Z H (k d S') := g
    cases hk : k d S' with
    | ok c S2 =>
      rw [hk] at g'
      exact fun J H2 ρ2 x2 => g' J H2 ρ2 (x.trans x2)
    | exc C fs S2 =>
      rw [hk] at g'
      exact fun dx vs H2 ρ2 x2 => g' dx vs H2 ρ2 (x.trans x2)
    | stuck =>
      rw [hk] at g'
      exact g'
  | exc C fs S' =>
    rw [h] at g
    exact g
  | stuck =>
    rw [h] at g
    exact g
theorem if_seq (h : PF T X W e F) : IF T X W tg e (iSeq F) := by
  refine pi_imp (pi_or (pi_list h) (pi_or (pi_tup h) (pi_str h))) fun σ H Qi q => ?_
  obtain ⟨ρ, S, Z, env, w, er, g⟩ := q
  unfold iSeq at g
  cases hF : F env S with
  | stuck =>
    rw [hF] at g
    exact g.elim
  | exc C fs S' =>
    rw [hF] at g
    exact .inl ⟨ρ, S, Z, env, w, er, by rw [hF]; exact g⟩
  | ok d S' =>
    rw [hF] at g
    cases d with
    | str z =>
      refine .inr (.inr ⟨ρ, S, Z, env, w, er, ?_⟩)
      rw [hF]
      intro v H' ρ' x w' r
      exact ⟨z, r, g _ H' ρ' x w' it_str⟩
    | lst ds =>
      refine .inl ⟨ρ, S, Z, env, w, er, ?_⟩
      rw [hF]
      intro v H' ρ' x w' r
      obtain ⟨a, vs, rfl, q, q2⟩ := r
      exact ⟨a, rfl, ⟨vs, SqL.of (Fz_sub _ _ q)⟩, g _ H' ρ' x w' (it_seqL (SqL.of q) q2)⟩
    | klst ds =>
      refine .inl ⟨ρ, S, Z, env, w, er, ?_⟩
      rw [hF]
      intro v H' ρ' x w' r
      obtain ⟨a, vs, rfl, q, q2⟩ := r
      exact ⟨a, rfl, ⟨vs, Fz_sub.seqL q⟩, g _ H' ρ' x w' (it_seqL q q2)⟩
    | tup ds =>
      refine .inr (.inl ⟨ρ, S, Z, env, w, er, ?_⟩)
      rw [hF]
      intro v H' ρ' x w' r
      obtain ⟨a, vs, rfl, q, q2⟩ := r
      exact ⟨a, rfl, ⟨vs, Fz_sub.seqT q⟩, g _ H' ρ' x w' (it_seqT q q2)⟩
    | cell k =>
      cases e : S'[k]? with
      | none =>
        have hw : walkD S' (D.cell k) = none := by simp only [walkD, e]
        change GoodI _ _ _ _ _ _ _ _ (match walkD S' (D.cell k) with | some p => R.ok p S' | none => R.stuck) at g
        rw [hw] at g
        exact g.elim
      | some c =>
        cases c with
        | lst ds =>
          have hw : walkD S' (D.cell k) = some (ds, Src.cl k (.lst ds)) := by simp only [walkD, e]
          change GoodI _ _ _ _ _ _ _ _ (match walkD S' (D.cell k) with | some p => R.ok p S' | none => R.stuck) at g
          rw [hw] at g
          refine .inl ⟨ρ, S, Z, env, w, er, ?_⟩
          rw [hF]
          intro v H' ρ' x w' r
          obtain ⟨a, rfl, q⟩ := r
          obtain ⟨b, o, h1, h2, h3, h4⟩ := w'.cells k _ e
          rw [q] at h1
          cases h1
          obtain ⟨vs, rfl, r2⟩ := h4
          exact ⟨a, rfl, ⟨vs, SqL.of h3⟩, g _ H' ρ' x w' (it_cell q)⟩
        | _ =>
          have hw : walkD S' (D.cell k) = none := by simp only [walkD, e]
          change GoodI _ _ _ _ _ _ _ _ (match walkD S' (D.cell k) with | some p => R.ok p S' | none => R.stuck) at g
          rw [hw] at g
          exact g.elim
    | _ => exact g.elim
theorem if_own {i : Nat} {x : Str} (h : PE X (.Name x pos) (tVar i)) : IF T X W tg (.Name x pos) (iOwn i) := by
  refine pi_imp (pi_or (pi_list h) (pi_tup h)) fun σ H Qi q => ?_
  obtain ⟨ρ, S, Z, env, w, er, g⟩ := q
  unfold iOwn at g
  cases hd : env[i]? with
  | none =>
    rw [hd] at g
    exact g.elim
  | some sl =>
    rw [hd] at g
    cases sl with
    | un => exact g.elim
    | slf c => exact g.elim
    | own c =>
      cases c with
      | lst ds =>
        obtain ⟨a, o, h1, h2, h3, h4⟩ := er.own i _ hd
        obtain ⟨vs, rfl, r2⟩ := h4
        exact .inl ⟨_, h1, a, rfl, ⟨vs, SqL.of h3⟩, g _ H ρ .refl w (it_own h2 h3 r2)⟩
      | _ => exact g.elim
    | val d =>
      obtain ⟨v, h1, r⟩ := er.val i d hd
      cases d with
      | lst ds =>
        obtain ⟨a, vs, rfl, q, q2⟩ := r
        exact .inl ⟨_, h1, a, rfl, ⟨vs, SqL.of (Fz_sub _ _ q)⟩, g _ H ρ .refl w (it_seqL (SqL.of q) q2)⟩
      | klst ds =>
        obtain ⟨a, vs, rfl, q, q2⟩ := r
        exact .inl ⟨_, h1, a, rfl, ⟨vs, Fz_sub.seqL q⟩, g _ H ρ .refl w (it_seqL q q2)⟩
      | tup ds =>
        obtain ⟨a, vs, rfl, q, q2⟩ := r
        exact .inr ⟨_, h1, a, rfl, ⟨vs, Fz_sub.seqT q⟩, g _ H ρ .refl w (it_seqT q q2)⟩
      | cell k =>
        obtain ⟨a, rfl, q⟩ := r
        cases e : S[k]? with
        | none =>
          have hw : walkD S (D.cell k) = none := by simp only [walkD, e]
          change GoodI _ _ _ _ _ _ _ _ (match walkD S (D.cell k) with | some p => R.ok p S | none => R.stuck) at g
          rw [hw] at g
          exact g.elim
        | some c =>
          cases c with
          | lst ds =>
            have hw : walkD S (D.cell k) = some (ds, Src.cl k (.lst ds)) := by simp only [walkD, e]
            change GoodI _ _ _ _ _ _ _ _ (match walkD S (D.cell k) with | some p => R.ok p S | none => R.stuck) at g
            rw [hw] at g
            obtain ⟨b, o, g1, g2, g3, g4⟩ := w.cells k _ e
            rw [q] at g1
            cases g1
            obtain ⟨vs, rfl, r2⟩ := g4
            exact .inl ⟨_, h1, a, rfl, ⟨vs, SqL.of g3⟩, g _ H ρ .refl w (it_cell q)⟩
          | _ =>
            have hw : walkD S (D.cell k) = none := by simp only [walkD, e]
            change GoodI _ _ _ _ _ _ _ _ (match walkD S (D.cell k) with | some p => R.ok p S | none => R.stuck) at g
            rw [hw] at g
            exact g.elim
      | _ => exact g.elim
/-- range -/
def rngD (lo hi : Int) : List D := (List.range (hi - lo).toNat).map fun i => D.int (lo + (i : Nat))
def InRg (j : Int) : Prop := -(2 ^ 62) ≤ j ∧ j < 2 ^ 62
instance (j : Int) : Decidable (InRg j) := by unfold InRg; exact inferInstance
def kRg1 : List D → Cm (List D × Src)
  | [.int j] => if InRg j then pure (rngD 0 j, .fz) else stk
  | _ => stk
def kRg2 : List D → Cm (List D × Src)
  | [.int i, .int j] => if InRg i ∧ InRg j then pure (rngD i j, .fz) else stk
  | _ => stk
def iRg1 (F : Env → Cm (List D)) : Env → Cm (List D × Src) := fun env S => (F env S).bnd kRg1
def iRg2 (F : Env → Cm (List D)) : Env → Cm (List D × Src) := fun env S => (F env S).bnd kRg2
theorem kRg1_ok {K : PySem.W.Frag} {σ : St} {ρ : Nat → Option Addr} {S : Sto} {Z : Hid} {H : Hp} {Qi : It → Hp → Prop} {ds : List D} {vs : List V} (w : Wd T K ρ S Z H) (r : RepL T K ρ (Fz ρ Z H) ds vs) (g : GoodI T K W σ Qi ρ Z H (kRg1 ds S)) :
    ∃ j : Int, vs = [.int j] ∧ InRg j ∧ Qi (Itr 0 j.toNat) H := by
  unfold kRg1 at g
  split at g
  · rename_i j
    split at g
    · rename_i hj
      obtain ⟨v, us, rfl, r1, r2⟩ := r
      have e : us = [] := r2
      subst e
      have e1 : v = .int j := r1
      subst e1
      refine ⟨j, rfl, hj, g _ H ρ .refl w ?_⟩
      have h := it_range (T := T) (K := K) (ρ := ρ) (Z := Z) (H := H) (lo := 0) (n := j.toNat)
      unfold rngD
      rw [Int.sub_zero]
      exact h
    · exact g.elim
  · exact g.elim
theorem kRg2_ok {K : PySem.W.Frag} {σ : St} {ρ : Nat → Option Addr} {S : Sto} {Z : Hid} {H : Hp} {Qi : It → Hp → Prop} {ds : List D} {vs : List V} (w : Wd T K ρ S Z H) (r : RepL T K ρ (Fz ρ Z H) ds vs) (g : GoodI T K W σ Qi ρ Z H (kRg2 ds S)) :
    ∃ i j : Int, vs = [.int i, .int j] ∧ (InRg i ∧ InRg j) ∧ Qi (Itr i (j - i).toNat) H := by
  unfold kRg2 at g
  split at g
  · rename_i i j
    split at g
    · rename_i hj
      obtain ⟨v, us, rfl, r1, v2, us2, rfl, r2, r3⟩ := r
      have e : us2 = [] := r3
      subst e
      have e1 : v = .int i := r1
      subst e1
      have e2 : v2 = .int j := r2
      subst e2
      exact ⟨i, j, rfl, hj, g _ H ρ .refl w it_range⟩
    · exact g.elim
  · exact g.elim
theorem if_range1 {a : Expr} {p : Pos} {Fa : Env → Cm (List D)} (hg : Gl X "range") (hm : X.mg "range" = none) (ha : AF T X W [a] Fa) (hs : starEach [a] X.env = [(false, eval a X.env)] := by rfl) : IF T X W tg (.Call (.Name "range" p) [a] [] pos) (iRg1 Fa) := by
  refine pi_imp (pi_range1 hg hm ha hs) fun σ H Qi q => ?_
  obtain ⟨ρ, S, Z, env, w, er, g⟩ := q
  refine lift_imp (lift_bndI w er g) fun v H1 ⟨ρ1, S1, d1, x1, w1, e1, r1, g1⟩ => ?_
  obtain ⟨j, e, h, q⟩ := kRg1_ok w1 r1 g1
  exact ⟨j, e, h.1, h.2, q⟩
theorem if_range2 {a b : Expr} {p : Pos} {Fa : Env → Cm (List D)} (hg : Gl X "range") (hm : X.mg "range" = none) (ha : AF T X W [a, b] Fa) (hs : starEach [a, b] X.env = [(false, eval a X.env), (false, eval b X.env)] := by rfl) (hs2 : starEach [b] X.env = [(false, eval b X.env)] := by rfl) : IF T X W tg (.Call (.Name "range" p) [a, b] [] pos) (iRg2 Fa) := by
  refine pi_imp (pi_range2 hg hm ha hs hs2) fun σ H Qi q => ?_
  obtain ⟨ρ, S, Z, env, w, er, g⟩ := q
  refine lift_imp (lift_bndI w er g) fun v H1 ⟨ρ1, S1, d1, x1, w1, e1, r1, g1⟩ => ?_
  obtain ⟨i, j, e, h, q⟩ := kRg2_ok w1 r1 g1
  exact ⟨i, j, e, ⟨h.1.1, h.1.2, h.2.1, h.2.2⟩, q⟩
end
end HT
set_option maxRecDepth 100000
set_option maxHeartbeats 400000
namespace HT
open PySem PySem.Spec L2

/-! ### for -/
def loopD (b : Bd) (src : Src) (body : FS) : List D → Env → Sto → R Fl
  | [], env, S => if chk src S = true then .ok (.nx env) S else .stuck
  | d :: ds, env, S => if chk src S = true then (match bindE b d env with
    | none => .stuck
    | some env1 => match body env1 S with
      | .ok (.nx e) S' => loopD b src body ds e S'
      | .ok (.ct e) S' => loopD b src body ds e S'
      | .ok (.bk e) S' => .ok (.nx e) S'
      | r => r) else .stuck
def sFor (b : Bd) (G : Env → Cm (List D × Src)) (body : FS) : FS := fun env S => sB env (G env S) fun p S' => if p.2.isHid = true then .stuck else loopD b p.2 body p.1 env S'
theorem drop_cons {α : Type} {l : List α} {i : Nat} (h : i < l.length) : l.drop i = l[i] :: l.drop (i + 1) := List.drop_eq_getElem_cons h
section
variable {T : Str → Addr} {X : Cx} {W : WX} {tg iter : Expr} {G : Env → Cm (List D × Src)} {body : List Stmt} {F : FS} {b : Bd} {pos : Pos}
/-- what holds ahead of the i-th turn -/
def LoopAt (T : Str → Addr) (K : PySem.W.Frag) (W : WX) (B : Ends) (b : Bd) (src : Src) (F : FS) (ρ : Nat → Option Addr) (Z0 Z : Hid) (H : Hp) (ds : List D) (σ' : St) (H' : Hp) : Prop :=
  ∃ ρ2 S2 Z2 env2, ExtS ρ Z0 Z H ρ2 Z2 H' ∧ At T K ρ2 S2 Z0 Z2 H' σ' env2 ∧ GoodS T K W B ρ2 Z0 Z2 H' (loopD b src F ds env2 S2)
theorem sf_for (hp : PassesOwn (model X.prog X.w) X.A X.env X.xe) (hc : X.calm = true) (hi : IF T X W tg iter G) (hg : PG X tg (gBd X.K b)) (hb : SFs T X W body F)
    (hs : ∀ x, foldedSetIterable iter X.env x = pure x := by intro _; rfl) : SF T X W (.For tg iter body [] pos) (sFor b G F) := ps_imp (ps_for hp hc hi hg hb hs) fun B σ H q => by
  obtain ⟨ρ, S, Z0, Z, env, a, g⟩ := q
  refine ⟨ρ, S, Z, env, a.w, a.e, ?_⟩
  unfold sFor at g
  cases hG : G env S with
  | stuck =>
    rw [hG] at g
    exact g
  | exc C fs S' =>
    rw [hG] at g
    exact fun dx vs H' ρ' x w' q1 q2 => (show GoodF T X.K W B ρ Z0 Z H S' (.xc env C fs) from g) σ dx vs H' ρ' Z (x.s a.o.sub) (a.ext x w') q1 q2
  | ok p S' =>
    rw [hG] at g
    obtain ⟨items, src⟩ := p
    intro J H' ρ' x w' it
    have g' : GoodS T X.K W B ρ Z0 Z H (if src.isHid = true then .stuck else loopD b src F items env S') := g
    cases hh : src.isHid with
    | true =>
      rw [hh, if_pos rfl] at g'
      exact g'.elim
    | false =>
      rw [hh, if_neg Bool.false_ne_true] at g'
      refine ⟨fun i m σ' H2 => m = items.length - i ∧ i ≤ items.length ∧ LoopAt T X.K W B b src F ρ' Z0 Z H' (items.drop i) σ' H2,
        ⟨items.length, by simp, Nat.zero_le _, ρ', S', Z, env, .refl, a.ext x w', g'.later (x.s a.o.sub)⟩, ?_⟩
      rintro i m σ' H2 ⟨rfl, hi, ρ2, S2, Z2, env2, x2, a2, g2⟩
      have step := it ρ2 S2 Z2 H2 x2.cells x2.frz (fun z => by rw [hh] at z; cases z) a2.w
      by_cases hlt : i < items.length
      · rw [drop_cons hlt] at g2
        unfold loopD at g2
        split at g2
        · rename_i hch
          obtain ⟨go, yl⟩ := (step hch i).1 _ (List.getElem?_eq_getElem hlt)
          cases hb2 : bindE b items[i] env2 with
          | none =>
            rw [hb2] at g2
            exact g2.elim
          | some env1 =>
            rw [hb2] at g2
            dsimp only at g2
            refine .inr ⟨go, LoopAt T X.K W B b src F ρ' Z0 Z H' (items.drop (i + 1)), fun σ3 H3 n3 => ⟨items.length - (i + 1), by omega, rfl, hlt, n3⟩, fun v H3 y => ?_⟩
            obtain ⟨x3, w3, r3⟩ := yl v H3 y
            refine bd_runA r3 (a2.ext x3 w3) hb2 fun σ3 a3 => ⟨ρ2, S2, Z0, Z2, env1, a3, ?_⟩
            have x23 : ExtS ρ' Z0 Z H' ρ2 Z2 H3 := x2.trans (x3.s a2.o.sub)
            cases hF : F env1 S2 with
            | stuck =>
              rw [hF] at g2
              exact g2
            | exc C fs S3 =>
              rw [hF] at g2
              exact g2
            | ok f S3 =>
              rw [hF] at g2
              cases f with
              | nx e => exact fun σ4 H4 ρ4 Z4 x4 a4 => ⟨ρ4, S3, Z4, e, x23.trans x4, a4, GoodS.later (show GoodS T X.K W B ρ2 Z0 Z2 H2 (loopD b src F (items.drop (i + 1)) e S3) from g2) ((x3.s a2.o.sub).trans x4)⟩
              | ct e => exact fun σ4 H4 ρ4 Z4 x4 a4 => ⟨ρ4, S3, Z4, e, x23.trans x4, a4, GoodS.later (show GoodS T X.K W B ρ2 Z0 Z2 H2 (loopD b src F (items.drop (i + 1)) e S3) from g2) ((x3.s a2.o.sub).trans x4)⟩
              | bk e => exact fun σ4 H4 ρ4 Z4 x4 a4 => (show GoodF T X.K W B ρ2 Z0 Z2 H2 S3 (.nx e) from g2) σ4 H4 ρ4 Z4 ((x3.s a2.o.sub).trans x4) a4
              | rt d => exact fun v H4 ρ4 Z4 x4 => (show GoodF T X.K W B ρ2 Z0 Z2 H2 S3 (.rt d) from g2) v H4 ρ4 Z4 ((x3.s a2.o.sub).trans x4)
              | xc e C fs => exact fun σ4 dx vs H4 ρ4 Z4 x4 => (show GoodF T X.K W B ρ2 Z0 Z2 H2 S3 (.xc e C fs) from g2) σ4 dx vs H4 ρ4 Z4 ((x3.s a2.o.sub).trans x4)
        · exact g2.elim
      · have ei : i = items.length := by omega
        subst ei
        rw [List.drop_length] at g2
        unfold loopD at g2
        split at g2
        · rename_i hch
          exact .inl ⟨(step hch _).2 (Nat.le_refl _), (show GoodF T X.K W B ρ2 Z0 Z2 H2 S2 (.nx env2) from g2) σ' H2 ρ2 Z2 .refl a2⟩
        · exact g2.elim
end

/-! ### comprehensions -/
abbrev WF : WX := fun _ _ _ _ => False
def nox {α : Type} (r : R α) : Option (α × Sto) := match r with
  | .ok a S => some (a, S)
  | _ => none
def wipeE (env : Env) : List Nat → Env
  | [] => env
  | v :: vs => (wipeE env vs).set v .un
def compL (b : Bd) (src : Src) (Ft : Env → Cm Bool) (Fe : FE) (env0 : Env) : List D → Sto → Option (List D × Sto)
  | [], S => if chk src S = true then some ([], S) else none
  | d :: ds, S => if chk src S = true then (match bindE b d env0 with
    | none => none
    | some env1 => match nox (Ft env1 S) with
      | none => none
      | some (true, S1) => (match nox (Fe env1 S1) with
        | none => none
        | some (y, S2) => match compL b src Ft Fe env0 ds S2 with
          | none => none
          | some (ys, S3) => some (y :: ys, S3))
      | some (false, S1) => compL b src Ft Fe env0 ds S1) else none
def oFin (acc : List D) : Option (List D × Sto) → R CO
  | none => .stuck
  | some (ys, S) => if (acc ++ ys).length ≤ sizeLine then .ok (.lst (acc ++ ys)) S else .stuck
def oLc (vs : List Nat) (b : Bd) (G : Env → Cm (List D × Src)) (Ft : Env → Cm Bool) (Fe : FE) : Env → Cm CO := fun env S => (G env S).bnd fun p S' => oFin [] (compL b p.2 Ft Fe (wipeE env vs) p.1 S')
abbrev TsF (T : Str → Addr) (X : Cx) (W : WX) (ifs : List Expr) (F : Env → Cm Bool) : Prop := PTs X ifs (lift T X.K rB W F)
section
variable {T : Str → Addr} {X : Cx} {W : WX}
theorem tsf_nil : TsF T X W [] (fun _ => pure true) := ⟨fun pins s σ H Q I h => pts_nil.run pins s σ H Q I (by
  obtain ⟨ρ, S, Z, env, w, er, g⟩ := h
  exact g true H ρ .refl w rfl)⟩
theorem tsf_one {c : Expr} {F : Env → Cm Bool} (h : TF T X W c F) : TsF T X W [c] F := pts_one h
end
section
variable {T : Str → Addr} {K : PySem.W.Frag} {ρ ρ1 ρ2 : Nat → Option Addr} {S S1 S2 : Sto} {Z : Hid} {H H1 H2 : Hp} {σ : St} {env : Env} {p : Addr} {c c' : CO} {o : HO}
theorem fz_hid (hz : Z p) : Fz ρ Z (upd H p o) = Fz ρ Z H := by
  funext a
  unfold Fz
  by_cases hq : Z a ∨ ∃ k, ρ k = some a
  · rw [if_pos hq, if_pos hq]
  · have ne : a ≠ p := fun e => hq (.inl (by rw [e]; exact hz))
    rw [if_neg hq, if_neg hq, upd_ne ne]
theorem Wd.hid (w : Wd T K ρ S Z H) (hz : Z p) : Wd T K ρ S Z (upd H p o) := by
  refine ⟨w.dom, fun k c hc => ?_, w.inj, fun a z => ?_⟩
  · obtain ⟨a, u, h1, h2, h3, h4⟩ := w.cells k c hc
    have ne : a ≠ p := fun e => h2 (by rw [e]; exact hz)
    exact ⟨a, u, h1, h2, by rw [upd_ne ne]; exact h3, by rw [fz_hid hz]; exact h4⟩
  · by_cases e : a = p
    · exact ⟨o, by rw [e]; exact upd_same⟩
    · obtain ⟨u, q⟩ := w.there a z
      exact ⟨u, by rw [upd_ne e]; exact q⟩
theorem Neu.put (n : Neu T K ρ Z H ρ1 S1 H1 p c) (x : Ext ρ1 (plusZ Z p) H1 ρ2 H2) (w : Wd T K ρ2 S2 (plusZ Z p) H2) (h : HObj T K ρ2 (Fz ρ2 (plusZ Z p) H2) c' o) : Neu T K ρ Z H ρ2 S2 (upd H2 p o) p c' := by
  have hp : plusZ Z p p := .inr rfl
  refine ⟨fun k a e => x.cells k a (n.cells k a e), fun a u e => by rw [fz_hid hp]; exact x.frz a u (n.frz a u e), fun a z => ?_, w.hid hp, n.nz, ⟨o, upd_same, by rw [fz_hid hp]; exact h⟩⟩
  have ne : a ≠ p := fun e => n.nz (by rw [← e]; exact z)
  rw [upd_ne ne, x.hid a (.inl z)]
  exact n.hid a z
theorem wipeE_len : ∀ (vs : List Nat), (wipeE env vs).length = env.length
  | [] => rfl
  | v :: vs => by
    unfold wipeE
    rw [List.length_set, wipeE_len vs]
theorem wipeE_get : ∀ {vs : List Nat} {i : Nat} {s : Sl}, (wipeE env vs)[i]? = some s → s = .un ∨ (env[i]? = some s ∧ i ∉ vs)
  | [], i, s, h => .inr ⟨h, by simp⟩
  | v :: vs, i, s, h => by
    unfold wipeE at h
    by_cases hv : v = i
    · subst hv
      have hl : v < (wipeE env vs).length := by
        have := (List.getElem?_eq_some_iff.mp h).1
        rw [List.length_set] at this
        exact this
      rw [List.getElem?_set_self hl] at h
      exact .inl (Option.some.inj h).symm
    · rw [List.getElem?_set_ne hv] at h
      rcases wipeE_get h with q | ⟨q1, q2⟩
      · exact .inl q
      · exact .inr ⟨q1, fun z => by
          rcases List.mem_cons.mp z with e | e
          · exact hv e.symm
          · exact q2 e⟩
theorem wipe_keep : ∀ {vs : List Nat} {i : Nat}, i ∉ vs → (L2.wipe σ vs)[i]? = σ[i]?
  | [], i, _ => rfl
  | v :: vs, i, h => by
    show ((L2.wipe σ vs).set v none)[i]? = σ[i]?
    rw [List.getElem?_set_ne fun e => h (by rw [e]; exact List.mem_cons_self), wipe_keep fun z => h (List.mem_cons_of_mem _ z)]
theorem ER.wiped (e : ER T K ρ Z H σ env) (vs : List Nat) : ER T K ρ Z H (L2.wipe σ vs) (wipeE env vs) := by
  refine ⟨fun i d h => ?_, fun i c h => ?_, fun i c h => ?_, by rw [wipeE_len, wipe_length]; exact e.len⟩
  · rcases wipeE_get h with q | ⟨q1, q2⟩
    · cases q
    · obtain ⟨v, h1, h2⟩ := e.val i d q1
      exact ⟨v, by rw [wipe_keep q2]; exact h1, h2⟩
  · rcases wipeE_get h with q | ⟨q1, q2⟩
    · cases q
    · obtain ⟨a, o, h1, h2⟩ := e.own i c q1
      exact ⟨a, o, by rw [wipe_keep q2]; exact h1, h2⟩
  · rcases wipeE_get h with q | ⟨q1, q2⟩
    · cases q
    · obtain ⟨o, h1, h2⟩ := e.slf i c q1
      exact ⟨o, by rw [wipe_keep q2]; exact h1, h2⟩
theorem wipe_wipe (vs : List Nat) : L2.wipe (L2.wipe σ vs) vs = L2.wipe σ vs := by
  have a : Agree vs σ (L2.wipe σ vs) := ⟨wipe_length σ vs, fun j h => wipe_keep h⟩
  exact a.wipe fun i h => h
theorem ER.neu (e : ER T K ρ Z H σ env) (n : Neu T K ρ Z H ρ1 S1 H1 p c) : ER T K ρ1 (plusZ Z p) H1 σ env := by
  refine ⟨fun i d h => ?_, fun i c h => ?_, fun i c h => ?_, e.len⟩
  · obtain ⟨v, h1, h2⟩ := e.val i d h
    exact ⟨v, h1, Rep.mono n.cells n.frz _ _ h2⟩
  · obtain ⟨a, o, h1, h2, h3, h4⟩ := e.own i c h
    exact ⟨a, o, h1, .inl h2, (n.hid a h2).trans h3, h4.mono n.cells n.frz⟩
  · obtain ⟨o, h1, h2, h3, h4⟩ := e.slf i c h
    exact ⟨o, h1, .inl h2, (n.hid _ h2).trans h3, h4.mono n.cells n.frz⟩
theorem GoodO.later {W : WX} {Q : VK} {r : R CO} (g : GoodO T K W σ Q ρ Z H r) (x : Ext ρ Z H ρ1 H1) : GoodO T K W σ Q ρ1 Z H1 r := by
  cases r with
  | ok d S' => exact fun p H' ρ' n => g p H' ρ' (n.after x)
  | exc C fs S' => exact fun dx vs H' ρ' e w q q2 => g dx vs H' ρ' (x.trans e) w q q2
  | stuck => exact g
end
section
variable {T : Str → Addr} {X : Cx} {W : WX} {elt tg iter : Expr} {ifs : List Expr} {scope : Scope} {own : List (Str × Nat)} {G : Env → Cm (List D × Src)} {Ft : Env → Cm Bool} {Fe : FE} {b : Bd} {pos : Pos}
/-- ahead of the i-th turn of a comprehension: the list stands at p -/
def CompAt (T : Str → Addr) (K : PySem.W.Frag) (W : WX) (σ : St) (Q : VK) (b : Bd) (src : Src) (Ft : Env → Cm Bool) (Fe : FE) (env0 : Env) (ρ : Nat → Option Addr) (Z : Hid) (H : Hp) (p : Addr) (ds : List D) (H' : Hp) : Prop :=
  ∃ ρ2 S2 acc, Neu T K ρ Z H ρ2 S2 H' p (.lst acc) ∧ GoodO T K W σ Q ρ Z H (oFin acc (compL b src Ft Fe env0 ds S2))
theorem oFin_more {acc ys : List D} {y : D} {S : Sto} : oFin acc (some (y :: ys, S)) = oFin (acc ++ [y]) (some (ys, S)) := by
  unfold oFin
  dsimp only
  rw [List.append_assoc]
  rfl
theorem comp_run {J : It} {items : List D} {src : Src} {ρ : Nat → Option Addr} {S : Sto} {Z : Hid} {H : Hp} {σ : St} {env : Env} {Q : VK} {vs : List Nat} (w : Wd T X.K ρ S Z H) (er : ER T X.K ρ Z H σ env) (it : ItOk T X.K ρ Z H J items src)
    (hv : ∀ i ∈ b.slots, i ∈ vs) (g : GoodO T X.K W σ Q ρ Z H (oFin [] (compL b src Ft Fe (wipeE env vs) items S))) (p : Addr) (hp : H p = none) :
    ∃ V : Nat → Nat → Hp → Prop, (∃ m, V 0 m (upd H p (.lst []))) ∧ ∀ i m H, V i m H → (J.stop i H ∧ Q (.ref p) H) ∨ (J.go i H ∧ ∃ Nx : Hp → Prop, (∀ H', Nx H' → ∃ m', m' < m ∧ V (i + 1) m' H') ∧ ∀ x H', J.yld i H x H' →
      gBd X.K b x (L2.wipe σ vs) H' fun σ2 H2 => L2.wipe σ2 vs = L2.wipe σ vs ∧ lift T X.K rB WF Ft σ2 H2 fun c H3 =>
        if c = true then lift T X.K (rD T X.K) WF Fe σ2 H3 fun y H4 => ∃ acc, H4 p = some (.lst acc) ∧ acc.length < sizeLine ∧ Nx (upd H4 p (.lst (acc ++ [y]))) else Nx H3) := by
  refine ⟨fun i m H2 => m = items.length - i ∧ i ≤ items.length ∧ CompAt T X.K W σ Q b src Ft Fe (wipeE env vs) ρ Z H p (items.drop i) H2,
    ⟨items.length, by simp, Nat.zero_le _, ρ, S, [], new_neu w hp ⟨[], rfl, rfl⟩, g⟩, ?_⟩
  rintro i m H2 ⟨rfl, hi, ρ2, S2, acc, n, g2⟩
  have step := it ρ2 S2 (plusZ Z p) H2 n.cells n.frz (fun _ => n.hid) n.w
  by_cases hlt : i < items.length
  · rw [drop_cons hlt] at g2
    unfold compL at g2
    split at g2
    · rename_i hch
      obtain ⟨go, yl⟩ := (step hch i).1 _ (List.getElem?_eq_getElem hlt)
      cases hb2 : bindE b items[i] (wipeE env vs) with
      | none =>
        rw [hb2] at g2
        exact g2.elim
      | some env1 =>
        rw [hb2] at g2
        dsimp only at g2
        refine .inr ⟨go, CompAt T X.K W σ Q b src Ft Fe (wipeE env vs) ρ Z H p (items.drop (i + 1)), fun H3 n3 => ⟨items.length - (i + 1), by omega, rfl, hlt, n3⟩, fun v H3 y => ?_⟩
        obtain ⟨x3, w3, r3⟩ := yl v H3 y
        have er3 : ER T X.K ρ2 (plusZ Z p) H3 (L2.wipe σ vs) (wipeE env vs) := ((er.neu n).ext x3).wiped vs
        refine bd_run r3 er3 hb2 fun σ3 a3 ag => ⟨by rw [ag.wipe hv, wipe_wipe], ρ2, S2, plusZ Z p, env1, w3, a3, ?_⟩
        cases hF : Ft env1 S2 with
        | stuck =>
          rw [hF] at g2
          exact g2.elim
        | exc C fs S3 =>
          rw [hF] at g2
          exact g2.elim
        | ok c S3 =>
          rw [hF] at g2
          intro c' H4 ρ4 x4 w4 ec
          have ec' : c = c' := ec
          subst ec'
          have x34 := x3.trans x4
          cases c with
          | false =>
            refine iteF ⟨ρ4, S3, acc, ?_, g2⟩
            obtain ⟨o, h1, h2⟩ := n.obj
            have q : H4 p = H2 p := x34.hid p (.inr rfl)
            refine ⟨fun k a e => x34.cells k a (n.cells k a e), fun a u e => x34.frz a u (n.frz a u e), fun a z => (x34.hid a (.inl z)).trans (n.hid a z), w4, n.nz, ⟨o, q.trans h1, h2.mono x34.cells x34.frz⟩⟩
          | true =>
            refine iteT ⟨ρ4, S3, plusZ Z p, env1, w4, a3.ext x4, ?_⟩
            change GoodO _ _ _ _ _ _ _ _ (oFin acc (match nox (Fe env1 S3) with | none => none | some (y, S2) => match compL b src Ft Fe (wipeE env vs) (items.drop (i + 1)) S2 with | none => none | some (ys, S3) => some (y :: ys, S3))) at g2
            cases hE : Fe env1 S3 with
            | stuck =>
              rw [hE] at g2
              exact g2.elim
            | exc C fs S4 =>
              rw [hE] at g2
              exact g2.elim
            | ok d S4 =>
              rw [hE] at g2
              intro u H5 ρ5 x5 w5 ru
              have x35 := x34.trans x5
              obtain ⟨o, h1, h2⟩ := n.obj
              obtain ⟨av, rfl, r2⟩ := h2
              have q : H5 p = some (.lst av) := (x35.hid p (.inr rfl)).trans h1
              change GoodO _ _ _ _ _ _ _ _ (oFin acc (match compL b src Ft Fe (wipeE env vs) (items.drop (i + 1)) S4 with | none => none | some (ys, S3) => some (d :: ys, S3))) at g2
              have r5 : RepL T X.K ρ5 (Fz ρ5 (plusZ Z p) H5) acc av := RepL.mono x35.cells x35.frz _ _ r2
              cases hR : compL b src Ft Fe (wipeE env vs) (items.drop (i + 1)) S4 with
              | none =>
                rw [hR] at g2
                exact g2.elim
              | some pr =>
                obtain ⟨ys, S5⟩ := pr
                rw [hR] at g2
                dsimp only at g2
                have hlen : acc.length < sizeLine := by
                  unfold oFin at g2
                  dsimp only at g2
                  split at g2
                  · rename_i hl
                    rw [List.length_append, List.length_cons] at hl
                    omega
                  · exact g2.elim
                rw [oFin_more] at g2
                refine ⟨av, q, by rw [← r5.len]; exact hlen, ρ5, S4, acc ++ [d], n.put x35 w5 ⟨av ++ [u], rfl, r5.app (RepL.one ru)⟩, ?_⟩
                rw [hR]
                exact g2
    · exact g2.elim
  · have ei : i = items.length := by omega
    subst ei
    rw [List.drop_length] at g2
    unfold compL at g2
    split at g2
    · rename_i hch
      refine .inl ⟨(step hch _).2 (Nat.le_refl _), ?_⟩
      unfold oFin at g2
      dsimp only at g2
      rw [List.append_nil] at g2
      split at g2
      · exact g2 p H2 ρ2 n
      · exact g2.elim
    · exact g2.elim
theorem of_lc (hc : X.calm = true) (hN : X.N.Nodup) (hi : IF T X W tg iter G) (ok : BlkOk X.N X.env.scope scope own) (hv : ∀ i ∈ b.slots, i ∈ own.map (·.2))
    (hg : ∀ (s : Shared) (H : Hp) (C : Addr) (cl : List (Str × Addr)) (fp : List Addr), PG (X.blk s H scope (compEnvC scope cl C X.env) fp) tg (gBd X.K b))
    (ht : ∀ (s : Shared) (H : Hp) (C : Addr) (cl : List (Str × Addr)) (fp : List Addr), TsF T (X.blk s H scope (compEnvC scope cl C X.env) fp) WF ifs Ft)
    (he : ∀ (s : Shared) (H : Hp) (C : Addr) (cl : List (Str × Addr)) (fp : List Addr), PF T (X.blk s H scope (compEnvC scope cl C X.env) fp) WF elt Fe) (hs : ∀ x, foldedSetIterable iter X.env x = pure x := by intro _; rfl) :
    OF T X W (.ListComp elt [⟨tg, iter, ifs, 0⟩] scope pos) (oLc (own.map (·.2)) b G Ft Fe) := pe_imp (pe_lc hc hN hi ok hg ht he hs) fun σ H Q q => by
  obtain ⟨ρ, S, Z, env, w, er, g⟩ := q
  refine ⟨ρ, S, Z, env, w, er, ?_⟩
  unfold oLc at g
  cases hG : G env S with
  | stuck =>
    rw [hG] at g
    exact g
  | exc C fs S' =>
    rw [hG] at g
    exact g
  | ok p S' =>
    rw [hG] at g
    obtain ⟨items, src⟩ := p
    exact fun J H' ρ' x w' it D hD => comp_run w' (er.ext x) it hv (GoodO.later (show GoodO T X.K W σ Q ρ Z H (oFin [] (compL b src Ft Fe (wipeE env (own.map (·.2))) items S')) from g) x) D hD
end
end HT
set_option maxRecDepth 100000
set_option maxHeartbeats 400000
namespace HT
open PySem PySem.Spec L2
open PyProof.Rows hiding St

/-! ### defs -/
/-- room, and no repr under way -/
structure Lv (k : Nat) (A : Around) : Prop where
  room : Room k A
  gd : A.guards = some []
theorem Lv.mono {j k : Nat} {A : Around} (r : Lv k A) (h : j ≤ k) : Lv j A := ⟨r.room.mono h, r.gd⟩
/-- a def's promise: its trees' function -/
def spT (T : Str → Addr) (K : PySem.W.Frag) (M : List D → Cm D) (vs : List V) (H : Hp) (Q : VK) (E : XK) : Prop := ∃ ρ S Z ds, Wd T K ρ S Z H ∧ RepL T K ρ (Fz ρ Z H) ds vs ∧ Good T K (rD T K) (fun c d _ H' => E c d H') [] Q ρ Z H (M ds S)
/-- the def at f computes M -/
structure FT (P : Program) (w : World) (K : PySem.W.Frag) (mg : Str → Option Value) (base : Heap) (T : Str → Addr) (k : Nat) (f : Addr) (fd : FuncData) (ps : List Str) (M : List D → Cm D) : Prop where
  len : ∀ ds S, ds.length ≠ ps.length → M ds S = .stuck
  run : ∀ (A : Around) (outer : List PySem.Env) (s : Shared) (H : Hp) (args : Args) (us : List Value) (vs : List V) (Q : VK) (E : XK), Lv k A → Env0 P w K mg base A outer s H → BindsTo s fd args (ps.zip us) → Vals vs us → vs.length = ps.length → spT T K M vs H Q E →
    codeAny (model P w) A (.call (.ref f) args) (CR (L2.CX P w) outer P w H s Q E) s
/-- what a body makes of the arguments: np of them, n names in all -/
def mkM (np n : Nat) (F : FS) (ds : List D) : Cm D := fun S => if ds.length = np then (match F (ds.map .val ++ List.replicate (n - ds.length) .un) S with
  | .ok (.rt d) S' => .ok d S'
  | .ok (.nx _) S' => .ok .non S'
  | .ok (.xc _ C fs) S' => .exc C fs S'
  | _ => .stuck) else .stuck
theorem fz_big {ρ : Nat → Option Addr} {Z Z' : Hid} {H : Hp} (h : ∀ a, Z a → Z' a) : Sub (Fz ρ Z' H) (Fz ρ Z H) := fun a o q => by
  obtain ⟨h1, h2, h3⟩ := Fz_at q
  exact Fz_mk h1 (fun z => h2 (h a z)) h3
theorem Wd.big {T : Str → Addr} {K : PySem.W.Frag} {ρ : Nat → Option Addr} {S : Sto} {Z Z' : Hid} {H : Hp} (w : Wd T K ρ S Z' H) (h : ∀ a, Z a → Z' a) : Wd T K ρ S Z H :=
  ⟨w.dom, fun k c hc => by
    obtain ⟨a, o, h1, h2, h3, h4⟩ := w.cells k c hc
    exact ⟨a, o, h1, fun z => h2 (h a z), h3, h4.mono (fun _ _ h => h) (fz_big h)⟩, w.inj, fun a z => w.there a (h a z)⟩
theorem ExtS.big {ρ ρ' : Nat → Option Addr} {Z Z1 Z' : Hid} {H H' : Hp} (x : ExtS ρ Z Z1 H ρ' Z' H') (h : ∀ a, Z a → Z' a) (h1 : ∀ a, Z1 a → Z a) : Ext ρ Z H ρ' H' := ⟨x.cells, fun a o q => fz_big h a o (x.frz a o (fz_big h1 a o q)), x.hid⟩
theorem no_mapped {ds : List D} {n i : Nat} {s : Sl} (h : (ds.map Sl.val ++ List.replicate n .un)[i]? = some s) : s = .un ∨ ∃ d, s = .val d := by
  have m := List.mem_of_getElem? h
  rcases List.mem_append.mp m with m | m
  · obtain ⟨d, _, e⟩ := List.mem_map.mp m
    exact .inr ⟨d, e.symm⟩
  · exact .inl (List.eq_of_mem_replicate m)
theorem start_er {T : Str → Addr} {K : PySem.W.Frag} {ρ : Nat → Option Addr} {Z : Hid} {H : Hp} {ds : List D} {vs : List V} {N : List Str} (r : RepL T K ρ (Fz ρ Z H) ds vs) (hl : ds.length ≤ N.length) : ER T K ρ Z H (L2.start N vs) (ds.map .val ++ List.replicate (N.length - ds.length) .un) := by
  have hv := r.len
  have pick : ∀ {i : Nat} {s : Sl}, (ds.map Sl.val ++ List.replicate (N.length - ds.length) .un)[i]? = some s → s = .un ∨ ∃ d, s = .val d ∧ ds[i]? = some d := fun {i s} h => by
    by_cases hi : i < ds.length
    · rw [List.getElem?_append_left (by simpa using hi), List.getElem?_map] at h
      cases e : ds[i]? with
      | none =>
        rw [e] at h
        cases h
      | some d =>
        rw [e] at h
        exact .inr ⟨d, (Option.some.inj h).symm, rfl⟩
    · rw [List.getElem?_append_right (by simpa using hi), List.getElem?_replicate] at h
      split at h
      · exact .inl (Option.some.inj h).symm
      · cases h
  refine ⟨fun i d h => ?_, fun i c h => ?_, fun i c h => ?_, ?_⟩
  · rcases pick h with e | ⟨d', e, hd⟩
    · cases e
    · cases e
      obtain ⟨v, h1, h2⟩ := r.get hd
      refine ⟨v, ?_, h2⟩
      unfold L2.start
      have hi : i < vs.length := (List.getElem?_eq_some_iff.mp h1).1
      rw [List.getElem?_append_left (by simpa using hi), List.getElem?_map, h1]
      rfl
  · rcases pick h with e | ⟨d', e, hd⟩ <;> cases e
  · rcases pick h with e | ⟨d', e, hd⟩ <;> cases e
  · unfold L2.start
    rw [List.length_append, List.length_append, List.length_map, List.length_map, List.length_replicate, List.length_replicate, hv]
section
variable {P : Program} {w : World} {K : PySem.W.Frag} {mg : Str → Option Value} {base : Heap} {T : Str → Addr} {x qual : Str} {params : Arguments} {body : List Stmt} {scope : Scope} {dvs : List V} {kws : List (Str × V)} {f : Addr} {fd : FuncData} {N ps : List Str} {k : Nat}
/-- the context of a body -/
abbrev ctx (P : Program) (w : World) (K : PySem.W.Frag) (mg : Str → Option Value) (base : Heap) (N : List Str) (qual : Str) (scope : Scope) (f : Addr) (cdv : Value) (A : Around) (outer : List PySem.Env) (s : Shared) (H : Hp) (E : XK) : Cx := cxOf (L2.CX P w) P w K mg base N qual scope f cdv A outer s H E
/-- a def by its body, from a reading of the body -/
theorem ft_core {sp : List V → Hp → VK → XK → Prop} (F : FunD K x qual params body scope dvs kws f fd) (C : FnScope N ps scope)
    (hbody : ∀ (cdv : Value) (A : Around) (outer : List PySem.Env) (s : Shared) (H : Hp) (vs : List V) (Q : VK) (E : XK), Lv k (A.deeper (envOfC qual scope s.heap.objs.size f cdv)) → sp vs H Q E →
      ∃ t, PSs (ctx P w K mg base N qual scope f cdv A outer s H E) body t ∧ t { nx := fun _ H' => Q .non H', rt := Q } (L2.start N vs) H) :
    ∀ (A : Around) (outer : List PySem.Env) (s : Shared) (H : Hp) (args : Args) (us : List Value) (vs : List V) (Q : VK) (E : XK), Lv (k + 1) A → Env0 P w K mg base A outer s H → BindsTo s fd args (ps.zip us) → Vals vs us → vs.length = ps.length → sp vs H Q E →
    codeAny (model P w) A (.call (.ref f) args) (CR (L2.CX P w) outer P w H s Q E) s := by
  intro A outer s H args us vs Q E lv ev bd rv hl hq
  obtain ⟨oc, od, dV, kV, doc, pm, an, cdv, ct, osl, rfl, look, code, _, _⟩ := F.ex
  have kin : K.In s.heap := ev.mod.kin.keeps fun b o e => (ev.bs b o e).1
  have nol : s.heap.NoLimit := ev.mod.nolimit.keeps fun b o e => (ev.bs b o e).1
  have kinds : ∀ y ∈ ps.zip us, scope.names.lookup y.1 = some .local ∨ (scope.names.lookup y.1 = some .cell ∧ ((cellsFrom (s.heap.objs.size + 1) scope.names []).lookup y.1).isSome = true) := by
    rintro ⟨n, v⟩ hy
    rcases C.par n (List.of_mem_zip hy).1 with q | q
    · exact Or.inl q
    · exact Or.inr ⟨q, PySem.W.cellsFrom_some _ _ _ (Or.inl q)⟩
  refine codeAny_call_function lv.room.depth (kin _ _ look) rfl C.co C.gen rfl (PySem.W.codeRec_of kin code) (bd _ _ _ _ ?_)
  refine wpAny_newFunctionEnv_cells C.kind kinds fun env he s1 st => ?_
  subst he
  refine ⟨nol.keeps st.toInCall.keep, codeAny_func ?_⟩
  obtain ⟨t, ht, hr⟩ := hbody cdv A outer s H vs Q E ⟨lv.room.deeper _, lv.gd⟩ hq
  have I := inv_start (CX := L2.CX P w) (E := E) C lv.room.hd ev hl rv st
  refine wpAny_mono (ht.run [] s1 (L2.start N vs) H _ I hr) (fun fl s' q => ?_) fun e s' q => q
  cases fl with
  | ret u =>
    obtain ⟨v, τ, H', J, r, q⟩ := q
    exact ⟨v, H', J.os, J.bare, J.base, J.hok, r, q⟩
  | next =>
    obtain ⟨τ, H', J, q⟩ := q
    exact ⟨.non, H', J.os, J.bare, J.base, J.hok, rfl, q⟩
  | brk =>
    obtain ⟨_, _, _, q⟩ := q
    exact q.elim
  | cont =>
    obtain ⟨_, _, _, q⟩ := q
    exact q.elim
theorem ft_of {F : FS} (D : FunD K x qual params body scope dvs kws f fd) (C : FnScope N ps scope) {np n : Nat} (hnp : np = ps.length) (hn : n = N.length)
    (h : ∀ (cdv : Value) (A : Around) (outer : List PySem.Env) (s : Shared) (H : Hp) (E : XK), Lv k (A.deeper (envOfC qual scope s.heap.objs.size f cdv)) → SFs T (ctx P w K mg base N qual scope f cdv A outer s H E) (fun c d _ H' => E c d H') body F) :
    FT P w K mg base T (k + 1) f fd ps (mkM np n F) := by
  subst hnp hn
  refine ⟨fun ds S hne => by unfold mkM; rw [if_neg hne], ft_core D C fun cdv A outer s H vs Q E lv hq => ⟨_, h cdv A outer s H E lv, ?_⟩⟩
  obtain ⟨ρ, S, Z, ds, w', r, g⟩ := hq
  unfold mkM at g
  split at g
  · rename_i hd
    have hle : ds.length ≤ N.length := by
      have := congrArg List.length C.pre
      rw [List.length_take] at this
      omega
    have er := start_er (N := N) r hle
    have noO : ∀ {i : Nat} {c : CO}, ¬ (ds.map Sl.val ++ List.replicate (N.length - ds.length) .un)[i]? = some (.own c) := fun {i c} h => by
      rcases no_mapped h with e | ⟨d, e⟩ <;> cases e
    have noS : ∀ {i : Nat} {c : CO}, ¬ (ds.map Sl.val ++ List.replicate (N.length - ds.length) .un)[i]? = some (.slf c) := fun {i c} h => by
      rcases no_mapped h with e | ⟨d, e⟩ <;> cases e
    refine ⟨ρ, S, Z, Z, _, ⟨w', er, ⟨fun _ z => z, fun i c a h1 h2 => (noO h1).elim, fun i j c c' a h1 _ _ _ => (noO h1).elim, rfl, fun i c h1 => (noS h1).elim, fun i j c c' a h1 _ _ => (noO h1).elim, fun i j c c' h1 _ => (noS h1).elim⟩⟩, ?_⟩
    cases hF : F (ds.map Sl.val ++ List.replicate (N.length - ds.length) .un) S with
    | stuck =>
      rw [hF] at g
      exact g.elim
    | exc C' fs S' =>
      rw [hF] at g
      exact g.elim
    | ok fl S' =>
      rw [hF] at g
      cases fl with
      | nx e => exact fun σ' H' ρ' Z' x a => g .non H' ρ' (x.big a.o.sub fun _ z => z) (a.w.big a.o.sub) rfl
      | rt d => exact fun v H' ρ' Z' x hz w2 r2 => g v H' ρ' (x.big hz fun _ z => z) (w2.big hz) (Rep.mono (fun _ _ h => h) (fz_big hz) _ _ r2)
      | bk e => exact g.elim
      | ct e => exact g.elim
      | xc e C' fs => exact fun σ' dx us H' ρ' Z' x a q1 q2 => g dx us H' ρ' (x.big a.o.sub fun _ z => z) (a.w.big a.o.sub) (q1.map fun b z => fz_big a.o.sub b _ z) (RepF.mono (fun _ _ h => h) (fz_big a.o.sub) _ _ q2)
  · exact g.elim
end
end HT
set_option maxRecDepth 100000
set_option maxHeartbeats 400000
namespace HT
open PySem PySem.Spec L2
open PyProof.Rows hiding St

/-! ### calls -/
theorem takesF {X : Cx} : Takes X WF := fun _ _ x => by
  obtain ⟨_, _, _, _, _, _, _, _, _, _, _, _, _, _, _, _, z⟩ := x
  exact z.elim
/-- the values of what is written, then the defaults -/
def fCall (M : List D → Cm D) (ds : List D) (Fa : Env → Cm (List D)) : FE := fun env S => (Fa env S).bnd fun xs => M (xs ++ ds)
theorem RepL.cons {T : Str → Addr} {K : PySem.W.Frag} {ρ : Nat → Option Addr} {F : Hp} {d : D} {v : V} {ds : List D} {vs : List V} (h : Rep T K ρ F d v) (r : RepL T K ρ F ds vs) : RepL T K ρ F (d :: ds) (v :: vs) := ⟨v, vs, rfl, h, r⟩
/-- constants -/
def CsD (T : Str → Addr) (K : PySem.W.Frag) (dds : List D) (dvs : List V) : Prop := ∀ ρ F, RepL T K ρ F dds dvs
theorem CsD.nil {T : Str → Addr} {K : PySem.W.Frag} : CsD T K [] [] := fun _ _ => rfl
section
variable {T : Str → Addr} {X : Cx} {W : WX} {k : Nat} {f : Addr} {fd : FuncData} {ps : List Str} {M : List D → Cm D} {dvs : List V} {dsv : List Value} {dds : List D} {x : Str} {p pos : Pos} {e : Expr} {es : List Expr} {Fa : Env → Cm (List D)}
theorem run_ft {pins : List (Addr × Obj)} {σ : St} {H : Hp} {s : Shared} {Q : VK} {us : List Value} {vs : List V} {ρ : Nat → Option Addr} {S : Sto} {Z : Hid} {ds : List D} (F : FT X.prog X.w X.K X.mg X.base T k f fd ps M) (lv : Lv k X.A) (hb : Binds X.K fd ps dsv) (hd : Vals dvs dsv) (tk : Takes X W)
    (I : Inv X pins σ H s) (r : Vals vs us) (w : Wd T X.K ρ S Z H) (r2 : RepL T X.K ρ (Fz ρ Z H) ds (vs ++ dvs)) (g : Good T X.K (rD T X.K) W σ Q ρ Z H (M ds S)) : wpAny (model X.prog X.w) X.A (call (.ref f) us) (EP X pins σ Q) X.xe s := by
  have hl : ds.length = ps.length := Classical.byContradiction fun hne => by
    rw [F.len ds S hne] at g
    exact g
  have r3 : Vals (vs ++ dvs) (us ++ dsv) := r.append hd
  have hl2 : (us ++ dsv).length = ps.length := by rw [← r3.length, ← r2.len]; exact hl
  refine wpAny_call (codeAny_mono (F.run X.A X.stack s H ⟨us, []⟩ (us ++ dsv) (vs ++ dvs) Q (WE W σ) lv I.env0 (hb s us I.kIn hl2) r3 (by rw [← r2.len]; exact hl) ⟨ρ, S, Z, ds, w, r2, ?_⟩) fun r s' hq => ?_)
  · cases hM : M ds S with
    | ok d S' =>
      rw [hM] at g
      exact g
    | exc C fs S' =>
      rw [hM] at g
      exact g
    | stuck =>
      rw [hM] at g
      exact g
  · cases r with
    | error e => exact passAt tk σ pins H s e s' I hq
    | ok fl =>
      cases fl with
      | ret u => exact I.after hq
      | next => exact False.elim hq
      | brk => exact False.elim hq
      | cont => exact False.elim hq
theorem pf_call (F : FT X.prog X.w X.K X.mg X.base T k f fd ps M) (lv : Lv k X.A) (hg : Gl X x) (hm : X.mg x = some (.ref f)) (hk : PySem.W.keepIn X.K (.ref f) = true) (hb : Binds X.K fd ps dsv) (hd : Vals dvs dsv) (hD : CsD T X.K dds dvs) (tk : Takes X W)
    (ha : AF T X W (e :: es) Fa) (hdb : (x == ("__debug__" : Str)) = false := by decide) (he : starEach (e :: es) X.env = (false, eval e X.env) :: starEach es X.env := by rfl) (hpl : (backTo pos (starEach es X.env)).any (·.1) = false := by rfl) :
    PF T X W (.Call (.Name x p) (e :: es) [] pos) (fCall M dds Fa) := by
  refine ⟨fun pins s σ H Q I h => ?_⟩
  obtain ⟨ρ, S, Z, env, w, er, g⟩ := h
  refine wpAny_Call_Name_kw (ld_glob I hg hm ?_ hdb)
  refine PySem.W.callWith_K (h₀ := X.base) I.ok.mod.kin hk (thn (ha.run pos pins s σ H _ I (lift_bnd w er g)) fun us s1 ⟨vs, H1, I1, r, ρ1, S1, ds, x1, w1, e1, r1, g1⟩ => ⟨I1.kIn, ?_⟩) he hpl
  exact run_ft F lv hb hd tk I1 r w1 (r1.app (hD _ _)) g1
theorem pf_call0 (F : FT X.prog X.w X.K X.mg X.base T k f fd ps M) (lv : Lv k X.A) (hg : Gl X x) (hm : X.mg x = some (.ref f)) (hk : PySem.W.keepIn X.K (.ref f) = true) (hb : Binds X.K fd ps dsv) (hd : Vals dvs dsv) (hD : CsD T X.K dds dvs) (tk : Takes X W)
    (hdb : (x == ("__debug__" : Str)) = false := by decide) : PF T X W (.Call (.Name x p) [] [] pos) (fun _ => M dds) := by
  refine ⟨fun pins s σ H Q I h => ?_⟩
  obtain ⟨ρ, S, Z, env, w, er, g⟩ := h
  refine wpAny_Call_Name_kw (ld_glob I hg hm ?_ hdb)
  exact PySem.W.callWith_K0 I.kIn hk (run_ft (us := []) F lv hb hd tk I .nil w (hD _ _) g)
end

/-! ### methods -/
/-- a call of a method goes the plain way -/
abbrev EvM (env : PySem.Env) (o : Expr) (m : Str) (apos : Pos) (es : List Expr) (pos : Pos) (pl : Sem Bool) : Prop :=
  eval (.Call (.Attribute o m apos) es [] pos) env = (eval o env >>= fun ov => standAt apos.atName >>= fun _ => holding [ov] (getMethod ov m pl) >>= fun fx => callWith pos fx.1 fx.2 (backTo pos (starEach es env)) (backToKw pos (keywordEach [] env)))
/-- o.m(..) of an instance of class C; the object is told as a tree -/
def fMeth (C m : Str) (M : List D → Cm D) (ds : List D) (Fo : FE) (Fa : Env → Cm (List D)) : FE := fun env S => (Fo env S).bnd fun o S1 => match asCO S1 o with
  | some (.ins C' fs) => if C' = C ∧ fs.lookup m = none then (Fa env S1).bnd fun xs => M (o :: (xs ++ ds)) else .stuck
  | _ => .stuck
section
variable {T : Str → Addr} {X : Cx} {W : WX} {k : Nat} {f : Addr} {fd : FuncData} {ps : List Str} {M : List D → Cm D} {dvs : List V} {dsv : List Value} {dds : List D} {C m : Str} {p pos apos : Pos} {o e : Expr} {es : List Expr} {Fo : FE} {Fa : Env → Cm (List D)}
theorem pf_meth {pl : Sem Bool} (ho : PF T X W o Fo) (c : Cls X.K (T C)) (hm : Meth X.K (T C) m f) (F : FT X.prog X.w X.K X.mg X.base T k f fd ps M) (lv : Lv k X.A) (hb : Binds X.K fd ps dsv) (hd : Vals dvs dsv) (hD : CsD T X.K dds dvs) (tk : Takes X W) (ha : AF T X W (e :: es) Fa)
    (hst : starEach (e :: es) X.env = (false, eval e X.env) :: starEach es X.env := by rfl) (hpl : (backTo pos (starEach es X.env)).any (·.1) = false := by rfl)
    (ht : EvM X.env o m apos (e :: es) pos pl := by rfl) :
    PF T X W (.Call (.Attribute o m apos) (e :: es) [] pos) (fMeth C m M dds Fo Fa) := by
  refine ⟨fun pins s σ H Q I h => ?_⟩
  obtain ⟨ρ, S, Z, env, w, er, g⟩ := h
  refine PySem.W.methodCall_KW (pl := pl) (thn (ho.run pins s σ H _ I (lift_bnd w er g)) fun u s1 ⟨v, H1, I1, rx, ρ1, S1, d1, x1, w1, e1, r1, g1⟩ => ?_) ht
  dsimp only at g1
  cases hc : asCO S1 d1 with
  | none =>
    rw [hc] at g1
    exact g1.elim
  | some c1 =>
    rw [hc] at g1
    obtain ⟨a, ob, rfl, h1, h2⟩ := asCO_ok w1 r1 hc
    cases c1 with
    | ins C' fs =>
      dsimp only at g1
      split at g1
      · rename_i hCm
        obtain ⟨rfl, hn⟩ := hCm
        obtain ⟨dx, vf, rfl, rf⟩ := h2
        obtain rfl : u = Value.ref a := rx
        refine getmeth_ok I1 h1 c hm (rf.nolook hn) ?_
        refine PySem.W.callWith_K (first := [.ref a]) (h₀ := X.base) I.ok.mod.kin hm.kp (thn (ha.run pos pins s1 σ H1 _ I1 (lift_bnd w1 e1 g1)) fun us s2 ⟨vs, H2, I2, r, ρ2, S2, ds, x2, w2, e2, r2, g2⟩ => ⟨I2.kIn, ?_⟩) hst hpl
        exact run_ft (us := .ref a :: us) (vs := .ref a :: vs) F lv hb hd tk I2 (.cons rfl r) w2 (RepL.cons (x2.rep r1) (r2.app (hD _ _))) g2
      · exact g1.elim
    | _ => exact g1.elim
theorem pf_meth0 {pl : Sem Bool} (ho : PF T X W o Fo) (c : Cls X.K (T C)) (hm : Meth X.K (T C) m f) (F : FT X.prog X.w X.K X.mg X.base T k f fd ps M) (lv : Lv k X.A) (hb : Binds X.K fd ps dsv) (hd : Vals dvs dsv) (hD : CsD T X.K dds dvs) (tk : Takes X W)
    (ht : EvM X.env o m apos [] pos pl := by rfl) :
    PF T X W (.Call (.Attribute o m apos) [] [] pos) (fMeth C m M dds Fo (fun _ => pure [])) := by
  refine ⟨fun pins s σ H Q I h => ?_⟩
  obtain ⟨ρ, S, Z, env, w, er, g⟩ := h
  refine PySem.W.methodCall_KW (pl := pl) (thn (ho.run pins s σ H _ I (lift_bnd w er g)) fun u s1 ⟨v, H1, I1, rx, ρ1, S1, d1, x1, w1, e1, r1, g1⟩ => ?_) ht
  dsimp only at g1
  cases hc : asCO S1 d1 with
  | none =>
    rw [hc] at g1
    exact g1.elim
  | some c1 =>
    rw [hc] at g1
    obtain ⟨a, ob, rfl, h1, h2⟩ := asCO_ok w1 r1 hc
    cases c1 with
    | ins C' fs =>
      dsimp only at g1
      split at g1
      · rename_i hCm
        obtain ⟨rfl, hn⟩ := hCm
        obtain ⟨dx, vf, rfl, rf⟩ := h2
        obtain rfl : u = Value.ref a := rx
        refine getmeth_ok I1 h1 c hm (rf.nolook hn) ?_
        exact PySem.W.callWith_K0 (first := [.ref a]) I1.kIn hm.kp (run_ft (us := [.ref a]) (vs := [.ref a]) F lv hb hd tk I1 (.cons rfl .nil) w1 (RepL.cons r1 (hD _ _)) g1)
      · exact g1.elim
    | _ => exact g1.elim
end
end HT
set_option maxRecDepth 100000
set_option maxHeartbeats 400000
namespace HT
open PySem PySem.Spec L2
open PyProof.Rows hiding St

/-! ### and, or, not -/
def fNotT (F : Env → Cm Bool) : Env → Cm Bool := fun env S => (F env S).bnd fun b => pure (!b)
def fAndT (F G : Env → Cm Bool) : Env → Cm Bool := fun env S => (F env S).bnd fun b S1 => if b = true then G env S1 else .ok false S1
def fOrT (F G : Env → Cm Bool) : Env → Cm Bool := fun env S => (F env S).bnd fun b S1 => if b = true then .ok true S1 else G env S1
def fIfT {α : Type} (C : Env → Cm Bool) (F G : Env → Cm α) : Env → Cm α := fun env S => (C env S).bnd fun b S1 => if b = true then F env S1 else G env S1
def fAndV (F G : FE) : FE := fun env S => (F env S).bnd fun x S1 => match x with
  | .bl b => if b = true then G env S1 else .ok (.bl false) S1
  | _ => .stuck
def fOrV (F G : FE) : FE := fun env S => (F env S).bnd fun x S1 => match x with
  | .bl b => if b = true then .ok (.bl true) S1 else G env S1
  | _ => .stuck
def gNot : D → Cm D
  | .bl b => pure (.bl (!b))
  | _ => stk
section
variable {T : Str → Addr} {X : Cx} {W : WX} {a b c : Expr} {rest : List Expr} {F G : Env → Cm Bool} {Fa Fb : FE} {pos : Pos}
/-- behind the first part -/
theorem lift_then {α β γ δ : Type} {K : PySem.W.Frag} {rel : Rl α β} {rel2 : Rl γ δ} {F : Env → Cm α} {k : Env → α → Cm γ} {σ : St} {H : Hp} {Q : δ → Hp → Prop} {r : β → Hp → Prop} (h : lift T K rel2 W (fun env S => (F env S).bnd (k env)) σ H Q)
    (i : ∀ ρ S Z env H v d, Wd T K ρ S Z H → ER T K ρ Z H σ env → rel ρ (Fz ρ Z H) d v → Good T K rel2 W σ Q ρ Z H (k env d S) → r v H) : lift T K rel W F σ H r := by
  obtain ⟨ρ, S, Z, env, w, e, g⟩ := h
  exact lift_imp (lift_bnd w e g) fun v H1 ⟨ρ1, S1, d1, x1, w1, e1, r1, g1⟩ => i ρ1 S1 Z env H1 v d1 w1 e1 r1 g1
theorem tf_not (h : TF T X W a F) : TF T X W (.UnaryOp .Not a pos) (fNotT F) := pt_imp (pt_not h) fun σ H Q q =>
  lift_then (rel := rB) (k := fun _ b => pure (!b)) q fun ρ S Z env H v d w e r g => by
    have r' : d = v := r
    subst r'
    exact g _ H ρ .refl w rfl
theorem twf_and1 (h : TF T X W a F) : TWF T X W (.BoolOp .And [a] pos) F := pw_and1 h
theorem twf_or1 (h : TF T X W a F) : TWF T X W (.BoolOp .Or [a] pos) F := pw_or1 h
theorem twf_and (h : TF T X W a F) (h2 : TWF T X W (.BoolOp .And (b :: rest) pos) G) : TWF T X W (.BoolOp .And (a :: b :: rest) pos) (fAndT F G) := pw_imp (pw_and h h2) fun σ H Q q =>
  lift_then (rel := rB) (k := fun env b S1 => if b = true then G env S1 else .ok false S1) q fun ρ S Z env H v d w e r g => by
    have r' : d = v := r
    subst r'
    cases d with
    | true => exact iteT ⟨ρ, S, Z, env, w, e, g⟩
    | false => exact iteF (g _ H ρ .refl w rfl)
theorem twf_or (h : TF T X W a F) (h2 : TWF T X W (.BoolOp .Or (b :: rest) pos) G) : TWF T X W (.BoolOp .Or (a :: b :: rest) pos) (fOrT F G) := pw_imp (pw_or h h2) fun σ H Q q =>
  lift_then (rel := rB) (k := fun env b S1 => if b = true then .ok true S1 else G env S1) q fun ρ S Z env H v d w e r g => by
    have r' : d = v := r
    subst r'
    cases d with
    | true => exact iteT (g _ H ρ .refl w rfl)
    | false => exact iteF ⟨ρ, S, Z, env, w, e, g⟩
theorem tf_pw {e : Expr} (h : TWF T X W e F) : TF T X W e F := h.pt
theorem pf_one {op} (h : PF T X W a Fa) : PF T X W (.BoolOp op [a] pos) Fa := pe_one h
theorem pf_and (h : PF T X W a Fa) (h2 : PF T X W (.BoolOp .And (b :: rest) pos) Fb) : PF T X W (.BoolOp .And (a :: b :: rest) pos) (fAndV Fa Fb) := pe_imp (pe_and h h2) fun σ H Q q =>
  lift_then (rel := rD T X.K) (k := fun env x S1 => match x with | .bl b => if b = true then Fb env S1 else .ok (.bl false) S1 | _ => .stuck) q fun ρ S Z env H v d w e r g => by
    cases d with
    | bl b =>
      have r' : v = .bl b := r
      refine ⟨b, r', ?_⟩
      cases b with
      | true => exact iteT ⟨ρ, S, Z, env, w, e, g⟩
      | false => exact iteF (g _ H ρ .refl w rfl)
    | _ => exact g.elim
theorem pf_or (h : PF T X W a Fa) (h2 : PF T X W (.BoolOp .Or (b :: rest) pos) Fb) : PF T X W (.BoolOp .Or (a :: b :: rest) pos) (fOrV Fa Fb) := pe_imp (pe_or h h2) fun σ H Q q =>
  lift_then (rel := rD T X.K) (k := fun env x S1 => match x with | .bl b => if b = true then .ok (.bl true) S1 else Fb env S1 | _ => .stuck) q fun ρ S Z env H v d w e r g => by
    cases d with
    | bl b =>
      have r' : v = .bl b := r
      refine ⟨b, r', ?_⟩
      cases b with
      | true => exact iteT (g _ H ρ .refl w rfl)
      | false => exact iteF ⟨ρ, S, Z, env, w, e, g⟩
    | _ => exact g.elim
theorem pf_not (h : PF T X W a Fa) : PF T X W (.UnaryOp .Not a pos) (f1 gNot Fa) := pe_imp (pe_not h) fun σ H Q q =>
  lift1 (r := fun x H1 => ∃ c, x = .bl c ∧ Q (.bl (!c)) H1) q fun ρ S Z H x v w r g => by
    cases x with
    | bl b => exact ⟨b, r, g _ H ρ .refl w rfl⟩
    | _ => exact g.elim
theorem pf_if (hc : TF T X W c F) (h : PF T X W a Fa) (h2 : PF T X W b Fb) : PF T X W (.IfExp c a b pos) (fIfT F Fa Fb) := pe_imp (pe_ifExp hc h h2) fun σ H Q q =>
  lift_then (rel := rB) (k := fun env b S1 => if b = true then Fa env S1 else Fb env S1) q fun ρ S Z env H v d w e r g => by
    have r' : d = v := r
    subst r'
    cases d with
    | true => exact iteT ⟨ρ, S, Z, env, w, e, g⟩
    | false => exact iteF ⟨ρ, S, Z, env, w, e, g⟩
end

/-! ### calls of builtins with one value, two -/
def a1 (g : D → Cm D) (xs : List D) : Cm D := match xs with
  | [x] => g x
  | _ => stk
def a2 (g : D → D → Cm D) (xs : List D) : Cm D := match xs with
  | [x, y] => g x y
  | _ => stk
def OpN (T : Str → Addr) (X : Cx) (r : List V → Hp → VK → Prop) (g : List D → Cm D) : Prop := ∀ (W : WX) (σ : St) (ρ : Nat → Option Addr) (S : Sto) (Z : Hid) (H : Hp) (xs : List D) (vs : List V) (Q : VK), Wd T X.K ρ S Z H → RepL T X.K ρ (Fz ρ Z H) xs vs →
  Good T X.K (rD T X.K) W σ Q ρ Z H (g xs S) → r vs H Q
def fArgs (g : List D → Cm D) (Fa : Env → Cm (List D)) : FE := fun env S => (Fa env S).bnd fun xs => g xs
section
variable {T : Str → Addr} {X : Cx} {W : WX} {x : Str} {p pos : Pos} {e : Expr} {es : List Expr} {Fa : Env → Cm (List D)} {id : String} {r : List V → Hp → VK → Prop} {g : List D → Cm D}
theorem lift_args {K : PySem.W.Frag} {σ : St} {H : Hp} {Q : VK} {r : List V → Hp → Prop} (h : lift T K (rD T K) W (fArgs g Fa) σ H Q)
    (k : ∀ ρ S Z H xs vs, Wd T K ρ S Z H → RepL T K ρ (Fz ρ Z H) xs vs → Good T K (rD T K) W σ Q ρ Z H (g xs S) → r vs H) : lift T K (rL T K) W Fa σ H r :=
  lift_then (rel := rL T K) (k := fun _ xs => g xs) h fun ρ S Z env H v d w e r g => k ρ S Z H d v w r g
theorem pf_callB (hc : CallR X (.builtin id) r) (hr : OpN T X r g) (hg : Gl X x) (hm : X.mg x = none) (hv : bootBuiltins x = some (.builtin id)) (ha : AF T X W (e :: es) Fa) (hn : x ≠ "__name__" := by decide) (hdb : (x == ("__debug__" : Str)) = false := by decide)
    (he : starEach (e :: es) X.env = (false, eval e X.env) :: starEach es X.env := by rfl) (hpl : (backTo pos (starEach es X.env)).any (·.1) = false := by rfl) : PF T X W (.Call (.Name x p) (e :: es) [] pos) (fArgs g Fa) :=
  pe_imp (pe_callB hc hg hm hv ha hn hdb he hpl) fun σ H Q q => lift_args (r := fun vs H1 => r vs H1 Q) q fun ρ S Z H xs vs w rr g => hr W σ ρ S Z H xs vs Q w rr g
theorem pf_callTy (hc : CallR X (.type id) r) (hr : OpN T X r g) (hg : Gl X x) (hm : X.mg x = none) (hv : bootBuiltins x = some (.type id)) (ha : AF T X W (e :: es) Fa) (hn : x ≠ "__name__" := by decide) (hdb : (x == ("__debug__" : Str)) = false := by decide)
    (he : starEach (e :: es) X.env = (false, eval e X.env) :: starEach es X.env := by rfl) (hpl : (backTo pos (starEach es X.env)).any (·.1) = false := by rfl) : PF T X W (.Call (.Name x p) (e :: es) [] pos) (fArgs g Fa) :=
  pe_imp (pe_callTy hc hg hm hv ha hn hdb he hpl) fun σ H Q q => lift_args (r := fun vs H1 => r vs H1 Q) q fun ρ S Z H xs vs w rr g => hr W σ ρ S Z H xs vs Q w rr g
end
theorem RepL.one_inv {T : Str → Addr} {K : PySem.W.Frag} {ρ : Nat → Option Addr} {F : Hp} {d : D} {vs : List V} (r : RepL T K ρ F [d] vs) : ∃ v, vs = [v] ∧ Rep T K ρ F d v := by
  obtain ⟨v, u, rfl, h, r2⟩ := r
  have e : u = [] := r2
  subst e
  exact ⟨v, rfl, h⟩
theorem RepL.two_inv {T : Str → Addr} {K : PySem.W.Frag} {ρ : Nat → Option Addr} {F : Hp} {d c : D} {vs : List V} (r : RepL T K ρ F [d, c] vs) : ∃ v u, vs = [v, u] ∧ Rep T K ρ F d v ∧ Rep T K ρ F c u := by
  obtain ⟨v, u, rfl, h, r2⟩ := r
  obtain ⟨u', rfl, h2⟩ := r2.one_inv
  exact ⟨v, u', rfl, h, h2⟩
section
variable {T : Str → Addr} {X : Cx}
theorem opN1 {r : List V → Hp → VK → Prop} {g : D → Cm D} (h : ∀ (W : WX) (σ : St) (ρ : Nat → Option Addr) (S : Sto) (Z : Hid) (H : Hp) (x : D) (v : V) (Q : VK), Wd T X.K ρ S Z H → Rep T X.K ρ (Fz ρ Z H) x v → Good T X.K (rD T X.K) W σ Q ρ Z H (g x S) → r [v] H Q) : OpN T X r (a1 g) := by
  intro W σ ρ S Z H xs vs Q w rr g0
  match xs, rr, g0 with
  | [], _, g0 => exact g0.elim
  | [x], rr, g0 =>
    obtain ⟨v, rfl, h1⟩ := rr.one_inv
    exact h W σ ρ S Z H x v Q w h1 g0
  | _ :: _ :: _, _, g0 => exact g0.elim
theorem opN2 {r : List V → Hp → VK → Prop} {g : D → D → Cm D} (h : ∀ (W : WX) (σ : St) (ρ : Nat → Option Addr) (S : Sto) (Z : Hid) (H : Hp) (x y : D) (v u : V) (Q : VK), Wd T X.K ρ S Z H → Rep T X.K ρ (Fz ρ Z H) x v → Rep T X.K ρ (Fz ρ Z H) y u → Good T X.K (rD T X.K) W σ Q ρ Z H (g x y S) → r [v, u] H Q) : OpN T X r (a2 g) := by
  intro W σ ρ S Z H xs vs Q w rr g0
  match xs, rr, g0 with
  | [], _, g0 => exact g0.elim
  | [x], _, g0 => exact g0.elim
  | [x, y], rr, g0 =>
    obtain ⟨v, u, rfl, h1, h2⟩ := rr.two_inv
    exact h W σ ρ S Z H x y v u Q w h1 h2 g0
  | _ :: _ :: _ :: _, _, g0 => exact g0.elim
/-- the items of a list or a tuple -/
def asQ2 (S : Sto) : D → Option (List D)
  | .tup ds => some ds
  | d => asL S d
theorem asQ2_ok {K : PySem.W.Frag} {ρ : Nat → Option Addr} {Z : Hid} {H : Hp} {S : Sto} (w : Wd T K ρ S Z H) {d : D} {v : V} {ds : List D} (r : Rep T K ρ (Fz ρ Z H) d v) (h : asQ2 S d = some ds) : ∃ a vs, v = .ref a ∧ (SqL K H a vs ∨ SqT K H a vs) ∧ RepL T K ρ (Fz ρ Z H) ds vs := by
  cases d with
  | tup es =>
    cases h
    obtain ⟨a, vs, e, q, q2⟩ := r
    exact ⟨a, vs, e, .inr (Fz_sub.seqT q), q2⟩
  | klst es =>
    obtain ⟨a, vs, e, q, q2⟩ := asL_ok w r (show asL S (.klst es) = some ds from h)
    exact ⟨a, vs, e, .inl q, q2⟩
  | lst es =>
    obtain ⟨a, vs, e, q, q2⟩ := asL_ok w r (show asL S (.lst es) = some ds from h)
    exact ⟨a, vs, e, .inl q, q2⟩
  | cell k =>
    obtain ⟨a, vs, e, q, q2⟩ := asL_ok w r (show asL S (.cell k) = some ds from h)
    exact ⟨a, vs, e, .inl q, q2⟩
  | _ => cases h
/-- len -/
def gLen (x : D) : Cm D := fun S => match x with
  | .str y => if y.length ≤ sizeLine then .ok (.int y.length) S else .stuck
  | x => match asQ2 S x with
    | some ds => .ok (.int ds.length) S
    | none => .stuck
theorem ok_gLen : OpN T X (fun xs H Q => ∃ x n, xs = [x] ∧ LenV X.K x H n ∧ Q (.int n) H) (a1 gLen) := opN1 fun W σ ρ S Z H x v Q w r g => by
  unfold gLen at g
  split at g
  · have e : v = .str _ := r
    subst e
    split at g
    · exact ⟨_, _, rfl, ⟨by assumption, rfl⟩, g _ H ρ .refl w rfl⟩
    · exact g.elim
  · split at g
    · rename_i ds hds
      obtain ⟨a, vs, rfl, q, q2⟩ := asQ2_ok w r hds
      refine ⟨_, vs.length, rfl, ?_, g _ H ρ .refl w (by rw [← q2.len]; exact (rfl : V.int _ = .int _))⟩
      rcases q with q | q
      · exact .inl ⟨vs, q, rfl⟩
      · exact .inr ⟨vs, q, rfl⟩
    · exact g.elim
/-- xs[i] -/
def gIx (x y : D) : Cm D := fun S => match y with
  | .int i => (match x with
    | .str z => (match atI z.cps.toList i with
      | some c => if z.length ≤ sizeLine then .ok (.str ⟨#[c]⟩) S else .stuck
      | none => .stuck)
    | x => match asQ2 S x with
      | some ds => (match atI ds i with
        | some d => .ok d S
        | none => .stuck)
      | none => .stuck)
  | _ => .stuck
def rIx3 (K : PySem.W.Frag) : R2 := fun x y H Q => (rIxL K x y H Q ∨ rIxT K x y H Q) ∨ rIxS x y H Q
theorem ix_3 : IxR X (rIx3 X.K) := IxR.or (IxR.or ix_list ix_tup) ix_str
theorem atI_rep {K : PySem.W.Frag} {ρ : Nat → Option Addr} {F : Hp} {ds : List D} {vs : List V} {i : Int} {d : D} (r : RepL T K ρ F ds vs) (h : atI ds i = some d) : ∃ v, atI vs i = some v ∧ Rep T K ρ F d v := by
  unfold atI at h ⊢
  rw [← r.len]
  cases e : ixN ds.length i with
  | none =>
    rw [e] at h
    cases h
  | some j =>
    rw [e] at h
    exact r.get h
theorem ok_gIx : Op2 T X (rIx3 X.K) gIx := by
  intro W σ ρ S Z H x y v u Q w r1 r2 g
  unfold gIx at g
  split at g
  · rename_i i
    have e : u = .int i := r2
    subst e
    split at g
    · rename_i z
      have e : v = .str z := r1
      subst e
      split at g
      · rename_i c hc
        split at g
        · exact .inr ⟨z, i, c, rfl, rfl, by assumption, hc, g _ H ρ .refl w rfl⟩
        · exact g.elim
      · exact g.elim
    · split at g
      · rename_i ds hds
        obtain ⟨a, vs, rfl, q, q2⟩ := asQ2_ok w r1 hds
        split at g
        · rename_i d hd
          obtain ⟨v', h1, h2⟩ := atI_rep q2 hd
          have fin : Q v' H := g v' H ρ .refl w h2
          rcases q with q | q
          · exact .inl (.inl ⟨a, vs, i, v', rfl, rfl, q, h1, fin⟩)
          · exact .inl (.inr ⟨a, vs, i, v', rfl, rfl, q, h1, fin⟩)
        · exact g.elim
      · exact g.elim
  · exact g.elim
theorem pf_ix {W : WX} {a b : Expr} {Fa Fb : FE} {pos : Pos} (ha : PF T X W a Fa) (hb : PF T X W b Fb) (hs : PlainIx b) : PF T X W (.Subscript a b pos) (f2 gIx Fa Fb) :=
  pe_imp (pe_ix ix_3 ha hb hs) fun σ H Q q => lift2 (r := fun v u H2 => rIx3 X.K v u H2 Q) q fun ρ S Z H x y v u w r1 r2 g => ok_gIx W σ ρ S Z H x y v u Q w r1 r2 g
end
end HT
set_option maxRecDepth 100000
set_option maxHeartbeats 800000
namespace HT
open PySem PySem.Spec L2
open PyProof.Rows hiding St
open PySem.SeqAt AutoSeq1 MeetsSeq MeetsSeq2 MeetsSeq3 SeqRoads2

/-! ### a tuple once, no time -/
theorem tup_once (l : Addr) (items : Array Value) (n : Nat) (sl : Array (Option Value)) (dd : Option Addr) (u : Tok) :
    Meets (Builtin.«tuple.__mul__» ⟨[.ref l, .int 1 u], []⟩) (fun _ R s => s.heap.get? l = some { cls := .type "tuple", dict := dd, data := .seq items n, slots := sl } ∧ R (.ok (.ret (Value.ref l))) s) :=
  .of_wp fun prog w A R s h => by
    obtain ⟨hp, g, d, tk, os⟩ := s
    obtain ⟨hl, h⟩ := h
    have f1 := AutoSeq1.idx_int
    wp_walk using wpAny_loadPart' hl
    exact ⟨_, rfl, h⟩
theorem tup_never (l : Addr) (x : Value) (items : List Value) (n : Nat) (sl : Array (Option Value)) (dd : Option Addr) (u : Tok) :
    Meets (Builtin.«tuple.__mul__» ⟨[.ref l, .int 0 u], []⟩) (fun _ R s => s.heap.get? l = some { cls := .type "tuple", dict := dd, data := .seq (x :: items).toArray n, slots := sl } ∧
      R (.ok (.ret (Value.ref s.heap.objs.size))) { s with heap := s.heap.push { cls := Value.type "tuple", data := Data.seq #[] }, toks := s.toks }) :=
  .of_wp fun prog w A R s h => by
    obtain ⟨hp, g, d, tk, os⟩ := s
    obtain ⟨hl, h⟩ := h
    have f1 := AutoSeq1.idx_int
    have c1 : ((x :: items).toArray.isEmpty || (0 : Int) == 1) = false := rfl
    wp_walk using wpAny_loadPart' hl
    repeat (first
      | (refine wpAny_ite_false (decide_eq_false (by rw [c1]; exact Bool.false_ne_true)) ?_; wp_walk using wpAny_loadPart' hl))
    exact ⟨_, rfl, h⟩
/-- t * 1, t * 0 (t not empty) -/
def rRepT01 (K : PySem.W.Frag) : R2 := fun x y H Q => ∃ l k xs, x = .ref l ∧ y = .int k ∧ SqT K H l xs ∧ xs ≠ [] ∧ ((k = 1 ∧ Q (.ref l) H) ∨ (k = 0 ∧ ∀ p, H p = none → Q (.ref p) (upd H p (.tup []))))
theorem op_repT01 {X : Cx} : OpR X (binaryOp .Mult) (rRepT01 X.K) := by
  intro pins s σ H x y v u Q I rx ry h
  obtain ⟨l, k, xs, rfl, rfl, hT, hne, q⟩ := h
  cases rx
  obtain ⟨t, rfl⟩ := ry
  obtain ⟨its, r, ⟨⟨cls, dd, data, sl⟩, ho, hc, n, hd⟩, hs⟩ := I.tuple hT
  simp only at hc hd
  subst hc hd
  refine wpAny_binaryOp_repeat_ref (T := "tuple") (U := "int") (by decide) ⟨_, ho, rfl⟩ (fun s' => typeIs_int s' k t) noFill_tuple_mul F.fills_int_mul F.slot_int_rmul repeat_tuple F.slot_int_index.lookup
    (call_meets F.slot_int_rmul (typeIs_int s k t) F.entry_int_rmul (F.args_int_rmul_2 _ _) (int_rmul_tuple k t l its.toArray n dd sl) ⟨ho, rfl, ⟨_, ho, rfl⟩, ?_⟩)
  rcases q with ⟨rfl, q⟩ | ⟨rfl, q⟩
  · exact call_meets F.slot_tuple_mul ⟨_, ho, rfl⟩ F.entry_tuple_mul (F.args_tuple_mul_2 _ _) (tup_once l its.toArray n sl dd t) ⟨ho, .ref l, H, I, rfl, q⟩
  · cases its with
    | nil =>
      have e := r.length
      exact absurd (List.eq_nil_of_length_eq_zero e) hne
    | cons a b =>
      refine call_meets F.slot_tuple_mul ⟨_, ho, rfl⟩ F.entry_tuple_mul (F.args_tuple_mul_2 _ _) (tup_never l a b n sl dd t) ⟨ho, ?_⟩
      refine ⟨.ref s.heap.objs.size, _, I.laid (t' := s.toks) (o := .tup []) (fun b ob q => Heap.get?_push_of_some _ q) (Nat.le_refl _) ?_, rfl, q _ (I.hok.fresh (Nat.le_refl _))⟩
      exact ⟨Nat.zero_le _, [], .nil, IsTup.new _ _⟩
def gMul2 (x y : D) : Cm D := fun S => match x, y with
  | .tup a, .int k => if a ≠ [] ∧ k = 1 then .ok (.tup a) S else if a ≠ [] ∧ k = 0 then .ok (.tup []) S else gMul (.tup a) (.int k) S
  | x, y => gMul x y S
abbrev rMul4 (X : Cx) : R2 := fun x y H Q => rMul3 X x y H Q ∨ rRepT01 X.K x y H Q
theorem op_mul4 {X : Cx} : OpR X (binaryOp .Mult) (rMul4 X) := OpR.or op_mul3 op_repT01
theorem ok_gMul2 {T : Str → Addr} {X : Cx} : Op2 T X (rMul4 X) gMul2 := by
  intro W σ ρ S Z H x y v u Q w rx ry g
  unfold gMul2 at g
  split at g
  · rename_i a k
    have eu : u = .int k := ry
    split at g
    · rename_i hc
      obtain ⟨h1, rfl⟩ := hc
      obtain ⟨p, vs, rfl, h2, h3⟩ := id rx
      exact .inr ⟨p, 1, vs, rfl, eu, Fz_sub.seqT h2, fun e => h1 ((repL_nil h3).mp e), .inl ⟨rfl, g.now w rx⟩⟩
    · split at g
      · rename_i hc
        obtain ⟨h1, rfl⟩ := hc
        obtain ⟨p, vs, rfl, h2, h3⟩ := rx
        refine .inr ⟨p, 0, vs, rfl, eu, Fz_sub.seqT h2, fun e => h1 ((repL_nil h3).mp e), .inr ⟨rfl, fun l hl => ?_⟩⟩
        obtain ⟨e, w', f⟩ := new_frz (o := .tup []) w hl
        exact g _ _ ρ e w' ⟨l, [], rfl, SqT.of f, rfl⟩
      · exact .inl (ok_gMul W σ ρ S Z H _ _ _ _ Q w rx ry g)
  · exact .inl (ok_gMul W σ ρ S Z H _ _ _ _ Q w rx ry g)

/-! ### slices; list(..), tuple(..) -/
def fPart (F : Option FE) : Env → Cm (Option Int) := fun env S => match F with
  | none => .ok none S
  | some F => (F env S).bnd fun d S1 => match d with
    | .int i => .ok (some i) S1
    | _ => .stuck
def cutD (xs : List D) (lo hi : Option Int) : List D := (xs.drop (HT.sIx xs.length 0 lo)).take (HT.sIx xs.length xs.length hi - HT.sIx xs.length 0 lo)
abbrev rP : Rl (Option Int) (Option Int) := fun _ _ a b => a = b
abbrev POF (T : Str → Addr) (X : Cx) (W : WX) (e : Option Expr) (F : Env → Cm (Option Int)) : Prop := PO X e (lift T X.K rP W F)
def pNone : Env → Cm (Option Int) := fun _ => pure none
def toP : D → Cm (Option Int)
  | .int i => pure (some i)
  | _ => stk
def pSome (F : FE) : Env → Cm (Option Int) := fun env S => (F env S).bnd toP
theorem po_imp {X : Cx} {e : Option Expr} {t t' : TO} (h : PO X e t) (i : ∀ σ H Q, t' σ H Q → t σ H Q) : PO X e t' := ⟨fun pins s σ H Q I q => h.run pins s σ H Q I (i σ H Q q)⟩
theorem cutD_rep {T : Str → Addr} {K : PySem.W.Frag} {ρ : Nat → Option Addr} {F : Hp} {ds : List D} {vs : List V} {lo hi : Option Int} (r : RepL T K ρ F ds vs) : RepL T K ρ F (cutD ds lo hi) (cutV vs lo hi) := by
  unfold cutD cutV
  rw [r.len]
  exact (r.drop _).take _
def gSlT (d : D) (l h : Option Int) : Cm D := fun S => match d with
  | .tup ds => if ¬ (HT.sIx ds.length 0 l = 0 ∧ HT.sIx ds.length ds.length h = ds.length) then .ok (.tup (cutD ds l h)) S else .stuck
  | _ => .stuck
def gSlL (d : D) (l h : Option Int) : Cm CO := fun S => match asL S d with
  | some ds => .ok (.lst (cutD ds l h)) S
  | none => .stuck
def f3 {α : Type} (g : D → Option Int → Option Int → Cm α) (Fe : FE) (Fl Fh : Env → Cm (Option Int)) : Env → Cm α := fun env S => (Fe env S).bnd fun d S1 => (Fl env S1).bnd fun l S2 => (Fh env S2).bnd fun h => g d l h
section
variable {T : Str → Addr} {X : Cx} {W : WX} {e : Expr} {lo hi : Option Expr} {Fe : FE} {Fl Fh : Env → Cm (Option Int)} {pos p2 : Pos}
theorem pof_none : POF T X W none pNone := po_imp po_none fun σ H Q q => by
  obtain ⟨ρ, S, Z, env, w, er, g⟩ := q
  exact g none H ρ .refl w rfl
theorem pof_some (h : PF T X W e Fe) : POF T X W (some e) (pSome Fe) := po_imp (po_some h) fun σ H Q q =>
  lift_then (rel := rD T X.K) (k := fun _ d => toP d) q fun ρ S Z env H v d w er r g => by
    cases d with
    | int i => exact ⟨i, r, g _ H ρ .refl w rfl⟩
    | _ => exact g.elim
theorem pf_slT (he : PF T X W e Fe) (hl : POF T X W lo Fl) (hh : POF T X W hi Fh) : PF T X W (.Subscript e (.Slice lo hi none p2) pos) (f3 gSlT Fe Fl Fh) := pe_imp (pe_slice sl_tup he hl hh) fun σ H Q q => by
  obtain ⟨ρ, S, Z, env, w, er, g⟩ := q
  refine lift_imp (lift_bnd w er g) fun v H1 ⟨ρ1, S1, d1, x1, w1, e1, r1, g1⟩ => ?_
  refine lift_imp (lift_bnd w1 e1 g1) fun l H2 ⟨ρ2, S2, d2, x2, w2, e2, r2, g2⟩ => ?_
  refine lift_imp (lift_bnd w2 e2 g2) fun u H3 ⟨ρ3, S3, d3, x3, w3, e3, r3, g3⟩ => ?_
  have r2' : d2 = l := r2
  have r3' : d3 = u := r3
  subst r2' r3'
  have rv := (x2.trans x3).rep r1
  unfold gSlT at g3
  try dsimp only at g3
  split at g3
  · split at g3
    · rename_i hw
      obtain ⟨a, vs, rfl, h1, h2⟩ := rv
      refine ⟨a, vs, rfl, Fz_sub.seqT h1, by rw [← h2.len]; exact hw, fun p hp => ?_⟩
      obtain ⟨x4, w4, f⟩ := new_frz (o := .tup (cutV vs d2 d3)) w3 hp
      exact g3 _ _ ρ3 x4 w4 ⟨p, _, rfl, SqT.of f, x4.repL (cutD_rep h2)⟩
    · exact g3.elim
  · exact g3.elim
theorem of_slL (he : PF T X W e Fe) (hl : POF T X W lo Fl) (hh : POF T X W hi Fh) : OF T X W (.Subscript e (.Slice lo hi none p2) pos) (f3 gSlL Fe Fl Fh) := pe_imp (pe_slice sl_list he hl hh) fun σ H Q q => by
  obtain ⟨ρ, S, Z, env, w, er, g⟩ := q
  refine lift_imp (lift_bndO w er g) fun v H1 ⟨ρ1, S1, d1, x1, w1, e1, r1, g1⟩ => ?_
  refine lift_imp (lift_bndO w1 e1 g1) fun l H2 ⟨ρ2, S2, d2, x2, w2, e2, r2, g2⟩ => ?_
  refine lift_imp (lift_bndO w2 e2 g2) fun u H3 ⟨ρ3, S3, d3, x3, w3, e3, r3, g3⟩ => ?_
  have r2' : d2 = l := r2
  have r3' : d3 = u := r3
  subst r2' r3'
  have rv := (x2.trans x3).rep r1
  unfold gSlL at g3
  try dsimp only at g3
  split at g3
  · rename_i ds hds
    obtain ⟨a, vs, rfl, h1, h2⟩ := asL_ok w3 rv hds
    exact ⟨a, vs, rfl, h1, fun p hp => g3 p _ ρ3 (new_neu w3 hp ⟨_, rfl, cutD_rep h2⟩)⟩
  · exact g3.elim
end
/-- list(x) of a list, a tuple -/
def oOne (g : D → Cm CO) (Fa : Env → Cm (List D)) : Env → Cm CO := fun env S => (Fa env S).bnd fun xs => match xs with
  | [x] => g x
  | _ => fun _ => .stuck
def gList (x : D) : Cm CO := fun S => match asQ2 S x with
  | some ds => .ok (.lst ds) S
  | none => .stuck
def gTuple (x : D) : Cm D := fun S => match x with
  | .tup ds => .ok (.tup ds) S
  | x => match asL S x with
    | some ds => .ok (.tup ds) S
    | none => .stuck
section
variable {T : Str → Addr} {X : Cx} {W : WX} {e : Expr} {Fa : Env → Cm (List D)} {p pos : Pos}
theorem of_list (hg : Gl X "list") (hm : X.mg "list" = none) (ha : AF T X W [e] Fa) (he : starEach [e] X.env = (false, eval e X.env) :: starEach [] X.env := by rfl) (hpl : (backTo pos (starEach [] X.env)).any (·.1) = false := by rfl) :
    OF T X W (.Call (.Name "list" p) [e] [] pos) (oOne gList Fa) := pe_imp (pe_callTy call_list_of hg hm (by rfl) ha (by decide) (by decide) he hpl) fun σ H Q q => by
  obtain ⟨ρ, S, Z, env, w, er, g⟩ := q
  refine lift_imp (lift_bndO w er g) fun vs H1 ⟨ρ1, S1, d1, x1, w1, e1, r1, g1⟩ => ?_
  match d1, r1, g1 with
  | [], _, g1 => exact g1.elim
  | [d], r1, g1 =>
    obtain ⟨v, rfl, rv⟩ := r1.one_inv
    dsimp only at g1
    unfold gList at g1
    split at g1
    · rename_i ds hds
      obtain ⟨a, us, rfl, h1, h2⟩ := asQ2_ok w1 rv hds
      exact ⟨a, us, rfl, h1, fun l hl => g1 l _ ρ1 (new_neu w1 hl ⟨us, rfl, h2⟩)⟩
    · exact g1.elim
  | _ :: _ :: _, _, g1 => exact g1.elim
theorem ok_gTuple : OpN T X (fun xs H Q => ∃ p ys, xs = [.ref p] ∧ ((SqL X.K H p ys ∧ ∀ l, H l = none → Q (.ref l) (upd H l (.tup ys))) ∨ (SqT X.K H p ys ∧ Q (.ref p) H))) (a1 gTuple) := opN1 fun W σ ρ S Z H x v Q w r g => by
  unfold gTuple at g
  split at g
  · obtain ⟨a, vs, rfl, h1, h2⟩ := id r
    exact ⟨a, vs, rfl, .inr ⟨Fz_sub.seqT h1, g.now w r⟩⟩
  · split at g
    · rename_i ds hds
      obtain ⟨a, vs, rfl, h1, h2⟩ := asL_ok w r hds
      refine ⟨a, vs, rfl, .inl ⟨h1, fun l hl => ?_⟩⟩
      obtain ⟨e, w', f⟩ := new_frz (o := .tup vs) w hl
      exact g _ _ ρ e w' ⟨l, _, rfl, SqT.of f, e.repL h2⟩
    · exact g.elim
end
end HT
set_option maxRecDepth 100000
set_option maxHeartbeats 800000
namespace HT
open PySem PySem.Spec L2
open PyProof.Rows hiding St
open PySem.W (ksFn ksEnv ks_superObj kxs_mw KxsAt)

/-! ### an __init__ of an own error: super().__init__(v), self.f = v -/
def exBody (f : Str) (p0 p1 p2 p3 p4 p5 p6 p7 p8 p9 : Pos) : List Stmt :=
  [.Expr (.Call (.Attribute (.Call (.Name "super" p0) [] [] p1) "__init__" p2) [.Name f p3] [] p4) p5,
   .Assign [.Attribute (.Name "self" p6) f p7] (.Name f p8) p9]
/-- its first row goes the plain way -/
def SupEv (f : Str) (p0 p1 p2 p3 p4 : Pos) : Prop := ∃ pl : PySem.Env → Sem Bool, ∀ env : PySem.Env, eval (.Call (.Attribute (.Call (.Name "super" p0) [] [] p1) "__init__" p2) [.Name f p3] [] p4) env =
  (attributeBase (.Call (.Name "super" p0) [] [] p1) "__init__" env (eval (.Call (.Name "super" p0) [] [] p1) env) >>= fun ov => standAt p2.atName >>= fun _ => holding [ov] (getMethod ov "__init__" (pl env)) >>= fun fx => callWith p4 fx.1 fx.2 (backTo p4 (starEach [.Name f p3] env)) [])
/-- what the written part says of such a class -/
structure ExI (P : Program) (K : PySem.W.Frag) (C : Addr) (f : Str) (fI : Addr) (fd : FuncData) : Prop where
  ox : OexC K C
  no : PySem.W.findIn K (.ref C) f = some none
  vb : PySem.W.subIn K (.ref C) (.type "ValueError") = some true
  su : PySem.W.ks_superIn K C C "__init__" = some (some (.builtin "ValueError.__init__"))
  mm : PySem.W.mroIn K C (.ref C) = some true
  op : PySem.W.nsIn K cStatics "thirdparty.any" = some none
  tp : (P.main.scope.names.lookup ("super" : Str)).isSome = false
  iC : PySem.W.findIn K (.ref C) "__init__" = some (some (.ref fI))
  tI : PySem.W.typeIn K (.ref fI) = some (.type "function")
  df : ∃ (oc : Value) (od : Option Addr) (osl : Array (Option Value)) (qual : Str) (params : Arguments) (p0 p1 p2 p3 p4 p5 p6 p7 p8 p9 : Pos) (scope : Scope) (dV kV doc pm ct : Value) (an : Option Addr) (cda cc : Addr),
    fd = ksFn "__init__" qual params (exBody f p0 p1 p2 p3 p4 p5 p6 p7 p8 p9) scope dV kV doc pm an (.ref cda) ct cc ∧ K.lookup fI = some ⟨oc, od, .func fd, osl⟩ ∧ PySem.W.codeIn K (.ref cda) qual = true ∧
    (∃ (ccl : Value) (cdd : Option Addr) (vs : Array Value) (ccs : Array (Option Value)) (file : Str) (tf : Tok), K.lookup cda = some ⟨ccl, cdd, .fields vs, ccs⟩ ∧ vs[2]? = some (.str file tf) ∧ ((P.main.file : Str) == file) = true) ∧
    (∃ (cl : Value) (cld : Option Addr) (csl : Array (Option Value)), K.lookup cc = some ⟨cl, cld, .cell (some (.ref C)), csl⟩) ∧
    (∃ ar, (params.posonlyargs ++ params.args).head? = some ar ∧ ar.arg = "self") ∧
    scope.names.lookup ("super" : Str) = some .globalImplicit ∧ scope.names.lookup ("__class__" : Str) = some .free ∧ scope.names.lookup ("self" : Str) = some .local ∧ scope.names.lookup f = some .local ∧ scope.kind = .function ∧
    (∀ x ∈ scope.names, x.2 ≠ .cell) ∧ scope.isCoroutine = false ∧ scope.isGenerator = false ∧ SupEv f p0 p1 p2 p3 p4
section
variable {prog : Program} {w : World} {A : Around} {E : Value → Shared → Prop} {h : Heap} {g : Array GenState} {d : Drawn} {t : Nat} {os : OsState}
variable {nm q : Str} {C N : Addr} {bs bm : List Value} {hdct : Bool} {sn : List Str} {sub : List Value} {ab : Bool} {col : Option Bool} {dd : Option Addr} {k0 k1 k2 k3 k5 : Option Value}
/-- the bound ValueError.__init__ is called -/
theorem call_mw {u e t0 : Addr} {rest : List Value} {Q : Value → Shared → Prop}
    (hC : h.get? C = some (excClassObj nm q C N bs bm hdct sn sub ab col dd k0 k1 k2 k3 k5 "ValueError.__new__")) (he : h.get? e = some (PySem.HandSPX.excO C t0)) (hu : h.get? u = some (kxs_mw "ValueError.__init__" e)) (hr : rest.length ≤ sizeLine)
    (hq : ∀ h2 t1, (∀ b o, b ≠ e → h.get? b = some o → h2.get? b = some o) → h2.get? e = some (PySem.HandSPX.excO C t1) → Q .none ⟨h2, g, d, t, os⟩) :
    wpAny (model prog w) A (call (.ref u) rest) Q E ⟨h, g, d, t, os⟩ := by
  have c1 : (Value.type "method-wrapper" == Value.type "method" || Value.type "method-wrapper" == Value.type "builtin_function_or_method" || Value.type "method-wrapper" == Value.type "method-wrapper") = true := by decide
  refine wpAny_call (codeAny_of_tree ?_)
  change wpAny _ A.in1 (callAny (.ref u) ⟨rest, []⟩) _ _ _
  simp only [callAny]
  refine wpAny_bind (wpAny_load hu ?_)
  simp only [kxs_mw, c1, if_true]
  refine PySem.W.KFB.if_so (by decide) (wpAny_bind (PySem.ESX.check_bound F.excBase_ValueError hC he rfl (wpAny_bind (wpAny_pure (wpAny_pure ⟨Code.quiet_builtin _ (by decide +kernel), codeAny_builtin F.excBase_ValueError.initEntry ?_⟩)))))
  rw [Around.under_plainId F.excBase_ValueError.init.plain _]
  wp_walk
  refine hq _ h.objs.size (fun b o hb ho => ?_) ?_
  · exact (Heap.get?_update_other _ _ (Ne.symm hb)).trans (Heap.get?_push_of_some _ ho)
  · rw [Heap.get?_update_self _ (Heap.get?_push_of_some _ he) rfl]
    rfl
end
end HT
set_option maxRecDepth 100000
set_option maxHeartbeats 800000
namespace HT
open PySem PySem.Spec L2
open PyProof.Rows hiding St
open PySem.W (ksFn ksEnv ks_superObj kxs_mw KxsAt ks_newsPush)

section
variable {prog : Program} {w : World} {A : Around} {R : Result → Shared → Prop} {hp : Heap} {g : Array GenState} {d : Drawn} {t : Nat} {os : OsState} {K : PySem.W.Frag} {mg mb : Str → Option Value} {C fI x t0 : Addr} {f : Str} {fd : FuncData} {v : Value} {args : Args}
theorem excO_inst {h : Heap} (hx : h.get? x = some (PySem.HandSPX.excO C t0)) : PySem.W.InstAt h x (PySem.HandSPX.excO C t0) C none := ⟨hx, rfl, rfl, trivial⟩
theorem ex_run (G : ExI prog K C f fI fd) (hself : (f == ("self" : Str)) = false) (hdb : (f == ("__debug__" : Str)) = false) (room : A.depth < recursionLimit) (X : K.In hp) (lim : hp.NoLimit) (gl : hp.Ns mainGlobals mg) (bl : hp.Ns builtinsNs mb) (hbl : ∀ y : Str, y ≠ "__name__" → mb y = bootBuiltins y) (msup : mg "super" = none)
    (hx : hp.get? x = some (PySem.HandSPX.excO C t0)) (hxK : K.lookup x = none) (bd : BindsTo ⟨hp, g, d, t, os⟩ fd args [("self", .ref x), (f, v)])
    (hq : ∀ h2 t2 t1 dx, (∀ b o, b ≠ x → hp.get? b = some o → h2.get? b = some o) → hp.objs.size ≤ dx → dx ≠ x → h2.get? x = some ({ cls := .ref C, dict := some dx, data := .fields #[.ref t1, .none, .none, .none, .bool false, .none] } : Obj) →
      h2.Ns1 dx (fun y => if y = f then some v else none) → R (.ok (.ret .none)) ⟨h2, g, d, t2, os⟩) :
    codeAny (model prog w) A (.call (.ref fI) args) R ⟨hp, g, d, t, os⟩ := by
  obtain ⟨oc, od, osl, qual, params, p0, p1, p2, p3, p4, p5, p6, p7, p8, p9, scope, dV, kV, doc, pm, ct, an, cda, cc, rfl, look, code, ⟨ccl, cdd, vs, ccs, file, tf, lcode, hvs, hfile⟩, ⟨cl, cld, csl, lcell⟩, ⟨ar, har, harg⟩, ssup, scls, sself, sf, skind, snc, sco, sge, pl, hev⟩ := G.df
  obtain ⟨nm, q, N, bs, bm, sn, sub, ab, col, dd, k0, k1, k2, k3, k5, hC, hbm⟩ := G.ox.cls
  have hcl : PySem.W.clsIn K C = some { name := nm, bases := bs, mro := .ref C :: bm, ns := N, qualname := q, hasDict := true, slotNames := sn, subclasses := sub, abstract := ab, collection := col, hasDel := false } := by unfold PySem.W.clsIn; rw [hC] <;> rfl
  refine ks_codeAny_call_defAt (body := exBody f p0 p1 p2 p3 p4 p5 p6 p7 p8 p9) room (X _ _ look) rfl lim (PySem.W.codeRec_of X code) rfl bd snc (fun y hy => ?_) (fun h1 ns1 k1' => ?_) sco sge skind
  · rcases List.mem_cons.mp hy with rfl | hy
    · exact sself
    · rcases List.mem_cons.mp hy with rfl | hy
      · exact sf
      · cases hy
  have F1 : Fr hp hp.objs.size h1 (fun y => ([("self", Value.ref x), (f, v)] : List (Str × Value)).reverse.lookup y) := ⟨ns1, k1', Nat.le_refl _⟩
  have nself : (("self" : Str) == f) = false := by
    cases e : (("self" : Str) == f) with
    | false => rfl
    | true =>
      rw [show ("self" : Str) = f from eq_of_beq e] at hself
      exact absurd hself (by rw [show (f == f) = true from beq_self_eq_true _]; decide)
  have ms : List.lookup ("self" : Str) ([(("self" : Str), Value.ref x), (f, v)] : List (Str × Value)).reverse = some (.ref x) := by
    show List.lookup ("self" : Str) [(f, v), (("self" : Str), Value.ref x)] = _
    rw [List.lookup_cons, nself, List.lookup_cons, show (("self" : Str) == ("self" : Str)) = true from beq_self_eq_true _]
  have mf : List.lookup f ([(("self" : Str), Value.ref x), (f, v)] : List (Str × Value)).reverse = some v := by
    show List.lookup f [(f, v), (("self" : Str), Value.ref x)] = _
    rw [List.lookup_cons, show (f == f) = true from beq_self_eq_true _]
  have xL : x ≠ hp.objs.size := Nat.ne_of_lt (Heap.lt_size hx)
  refine ks_wpAt_execs_cons ?_
  refine ks_wpAt_Expr_any ?_ (by show (scope.kind == ScopeKind.module && _) = false; rw [skind]; rfl)
  refine ks_wpAt_MethodCall ?_ (hev _)
  have X1 : K.In h1 := X.keeps k1'
  have hD1 : h1.get? C = some (excClassObj nm q C N bs bm true sn sub ab col dd k0 k1 k2 k3 k5 "ValueError.__new__") := X1 _ _ hC
  refine ks_wpAt_super_base (file := file) (tf := tf) ssup scls (by decide) rfl (X1 _ _ look) rfl har rfl (X1 _ _ lcode) rfl hvs hfile G.tp ?_
  refine PySem.W.ks_loadName_global skind ssup (PySem.Calls.loadGlobal_builtin (gl.keeps k1') msup (bl.keeps k1') ((hbl _ (by decide +kernel)).trans PyProof.Rows.Boot.«super») ⟨rfl, ?_⟩)
  obtain ⟨ob, es, ep, hob, hrest⟩ := id ns1
  refine wpAny_loadName_free skind scls rfl ⟨_, X1 _ _ lcell, rfl⟩ ?_
  rw [harg]
  refine wpAny_loadName_local skind sself ns1 ms ?_
  refine ks_wpAny_isType_cls hD1 rfl ⟨rfl, ?_⟩
  have hx1 : h1.get? x = some (PySem.HandSPX.excO C t0) := k1' _ _ hx
  refine ks_wpAny_call_super hD1 rfl hx1 rfl (fun c e => by cases e) (PySem.W.looks_mroIn X1 G.mm) (fun h2 e2 k2 => ?_)
  obtain ⟨F2, N2, _⟩ := ks_newsPush (s := ⟨h1, g, d, t + 2, os⟩) (news := []) F1 News.nil rfl e2 k2
  have I2 : PySem.W.InstAt h2 x (PySem.HandSPX.excO C t0) C none := excO_inst (k2 _ _ hx1)
  refine PySem.W.kxs_method PySem.W.kxs_ValueError F2 X N2 List.mem_cons_self I2 G.op G.su G.vb (by decide) (fun qq h3 F3 N3 _ => ?_)
  refine PySem.W.kxs_callWith1 N3 List.mem_cons_self ?_
  show wpAny _ _ (spliced ((false, eval (.Name f p3) _) :: [])) _ _ _
  refine PySem.Calls.spliced_cons (wpAny_Name (wpAny_loadName_local skind sf F3.ns mf ?_) hdb)
  refine PySem.Calls.spliced_nil ⟨PySem.W.kxs_at N3 List.mem_cons_self, ?_⟩
  have hx3 : h3.get? x = some (PySem.HandSPX.excO C t0) := F3.keep _ _ hx
  have X3 : K.In h3 := X.keeps F3.keep
  refine call_mw (X3 _ _ hC) hx3 (PySem.W.kxs_at N3 List.mem_cons_self) (by show 1 ≤ sizeLine; rw [sizeLine_eq]; omega) (fun h4 t1 k4 hx4 => ?_)
  have ns4 : h4.Ns hp.objs.size (fun y => List.lookup y ([(("self" : Str), Value.ref x), (f, v)] : List (Str × Value)).reverse) := by
    obtain ⟨o3, es3, ep3, a3, r3⟩ := F3.ns
    exact ⟨o3, es3, ep3, k4 _ _ (Ne.symm xL) a3, r3⟩
  refine ks_wpAt_execs_cons (wpAt_of_wpAny (plainObj_wpAny_Assign_Attribute ?_))
  refine wpAny_Name (wpAny_loadName_local skind sf ns4 mf ?_) hdb
  refine wpAny_Name (wpAny_loadName_local skind sself ns4 ms ?_)
  have X4 : K.In h4 := fun b o e => by
    have hb : b ≠ x := fun z => by
      rw [z, hxK] at e
      cases e
    exact k4 b o hb (X3 b o e)
  refine PySem.W.set_plain X4 (ox := PySem.HandSPX.excO C t1) (od := none) (excO_inst hx4) G.ox.sa ?_
  refine PySem.HandSPX.exc_osa X4 hx4 hcl (show PySem.HandSPX.refsVE (.ref C :: bm) = true from hbm) rfl G.no (fun h5 tk5 dx k5 dn dne hx5 hn5 => ?_)
  refine wpAt_of_wpAny (wpAny_execs_nil ?_)
  have le4 : hp.objs.size ≤ h4.objs.size := Nat.le_of_lt ns4.lt
  refine hq h5 _ t1 dx (fun b o hb e => k5 b o hb (k4 b o hb (F3.keep b o e))) (Nat.le_trans le4 dn) dne hx5 hn5
end
end HT
set_option maxRecDepth 100000
set_option maxHeartbeats 800000
namespace HT
open PySem PySem.Spec L2
open PyProof.Rows hiding St

section
variable {X : Cx} {pins : List (Addr × Obj)} {σ : St} {H1 : Hp} {s1 : Shared} {C fI : Addr} {f : Str} {fd : FuncData} {dvs : List V} {dsv : List Value} {us : List Value} {vs : List V} {v : V} {Q : XK} {k : Nat}
/-- C(..) is called: a new error with its field -/
theorem xmk_run (G : ExI X.prog X.K C f fI fd) (hself : (f == ("self" : Str)) = false) (hdb : (f == ("__debug__" : Str)) = false) (msup : X.mg "super" = none) (lv : Lv (k + 1) X.A) (hb : Binds X.K fd ["self", f] dsv) (hd : Vals dvs dsv)
    (I1 : Inv X pins σ H1 s1) (r1 : Vals vs us) (hv : vs ++ dvs = [v]) (q : ∀ d, H1 d = none → Q (.ref C) (some d) (upd H1 d (.xd [(f, v)]))) : wpAny (model X.prog X.w) X.A (call (.ref C) us) (MkP X pins σ Q) X.xe s1 := by
  obtain ⟨nm, qn, N, bs, bm, sn, sub, ab, col, dd, k0, k1, k2, k3, k5, hC, hbm⟩ := G.ox.cls
  obtain ⟨mb, hbl, hbb⟩ := I1.ok.mod.blt
  obtain ⟨hp, g, dr, tk, os⟩ := s1
  have hsz : hp.objs.size ≤ hp.objs.size + 1 := Nat.le_succ _
  have hn : H1 (hp.objs.size + 1) = none := I1.hok.fresh hsz
  have kk : ∀ b o, hp.get? b = some o → ((hp.push (PySem.W.kdv_tup us)).push (PySem.HandSPX.excO C hp.objs.size)).get? b = some o := fun b o e => Heap.get?_push_of_some _ (Heap.get?_push_of_some _ e)
  have hget : ((hp.push (PySem.W.kdv_tup us)).push (PySem.HandSPX.excO C hp.objs.size)).get? (hp.objs.size + 1) = some (PySem.HandSPX.excO C hp.objs.size) := by heap_get
  have I2 : Inv X pins σ (upd H1 (hp.objs.size + 1) (exo (hp.objs.size + 1) C none)) ⟨(hp.push (PySem.W.kdv_tup us)).push (PySem.HandSPX.excO C hp.objs.size), g, dr, tk, os⟩ :=
    I1.laid (t' := tk) (a := hp.objs.size + 1) (o := exo (hp.objs.size + 1) C none) (h' := (hp.push (PySem.W.kdv_tup us)).push (PySem.HandSPX.excO C hp.objs.size)) kk hsz (exo_ok hget)
  have rr := r1.append hd
  rw [hv] at rr
  obtain ⟨u, eu, ru⟩ : ∃ u, us ++ dsv = [u] ∧ RelV v u := by
    cases hh : us ++ dsv with
    | nil =>
      rw [hh] at rr
      cases rr
    | cons u r =>
      rw [hh] at rr
      cases rr with
      | cons a b =>
        cases b
        exact ⟨u, rfl, a⟩
  have hus : us.length ≤ sizeLine := by
    have : us.length ≤ (us ++ dsv).length := by rw [List.length_append]; omega
    rw [eu] at this
    rw [sizeLine_eq]
    simp at this
    omega
  have hxK : X.K.lookup (hp.objs.size + 1) = none := by
    cases e : X.K.lookup (hp.objs.size + 1) with
    | none => rfl
    | some o =>
      have z := Heap.lt_size (I1.kIn _ _ e)
      exact absurd (show hp.objs.size + 1 < hp.objs.size from z) (by omega)
  have bd : BindsTo ⟨(hp.push (PySem.W.kdv_tup us)).push (PySem.HandSPX.excO C hp.objs.size), g, dr, tk, os⟩ fd ⟨Value.ref (hp.objs.size + 1) :: us, []⟩ [(("self" : Str), Value.ref (hp.objs.size + 1)), (f, u)] := by
    have b := hb ⟨(hp.push (PySem.W.kdv_tup us)).push (PySem.HandSPX.excO C hp.objs.size), g, dr, tk, os⟩ (Value.ref (hp.objs.size + 1) :: us) I2.kIn (by rw [List.cons_append, eu]; rfl)
    rw [List.cons_append, eu] at b
    exact b
  refine wpAny_call (PySem.HandSPX.call_own F.excBase_ValueError (fun Y => PySem.HandSPX.refsVE_contains Y bm hbm) (I1.kIn _ _ hC) (PySem.W.looks_findIn I1.kIn G.iC) (fun self => PySem.W.bind_fn I1.kIn self G.tI) hus
    (ex_run G hself hdb (lv.room.make C us []).depth I2.kIn I2.nolimit (I2.ok.mod.glob.keeps I2.bk) (hbl.keeps I2.bk) hbb msup hget hxK bd fun h2 t2 t1 dx k2 dn dne hx2 hn2 => ?_))
  refine ⟨rfl, ?_⟩
  have hsz2 : hp.objs.size ≤ ((hp.push (PySem.W.kdv_tup us)).push (PySem.HandSPX.excO C hp.objs.size)).objs.size := by
    rw [Heap.size_push, Heap.size_push]
    omega
  have hnd : H1 dx = none := I1.hok.fresh (Nat.le_trans hsz2 dn)
  have hnd2 : upd H1 (hp.objs.size + 1) (exo (hp.objs.size + 1) C none) dx = none := by
    rw [upd_ne dne]
    exact hnd
  have ea : upd H1 (hp.objs.size + 1) (exo (hp.objs.size + 1) C none) (hp.objs.size + 1) = some (exo (hp.objs.size + 1) C none) := upd_same
  have na : ∀ {b : Addr}, upd H1 (hp.objs.size + 1) (exo (hp.objs.size + 1) C none) b = none → b ≠ hp.objs.size + 1 := fun {b} n z => by
    rw [z, upd_same] at n
    cases n
  have nd : ∀ {b : Addr} {o : Obj}, ((hp.push (PySem.W.kdv_tup us)).push (PySem.HandSPX.excO C hp.objs.size)).get? b = some o → b ≠ dx := fun {b o} z => Nat.ne_of_lt (Nat.lt_of_lt_of_le (Heap.lt_size z) dn)
  have un : Un (frs X.stack) [] (upd H1 (hp.objs.size + 1) (exo (hp.objs.size + 1) C none)) (upd (upd (upd H1 (hp.objs.size + 1) (exo (hp.objs.size + 1) C none)) dx (exd dx [(f, v)])) (hp.objs.size + 1) (exo (hp.objs.size + 1) C (some dx)))
      ((hp.push (PySem.W.kdv_tup us)).push (PySem.HandSPX.excO C hp.objs.size)) h2 := {
    keep := fun b o z n _ _ => k2 b o (na n) z
    slot := fun b o z n _ _ => ⟨o.slots, k2 b o (na n) z⟩
    free := fun b o z n _ => by rw [upd_ne (na n), upd_ne (nd z)]; exact n
    there := fun b o z _ => by
      by_cases hb : b = hp.objs.size + 1
      · exact ⟨_, by rw [hb]; exact hx2⟩
      · exact ⟨o, k2 b o hb z⟩
    tups := fun b xs z => by rw [upd_ne (at_ne ea z exo_tup), upd_ne (ne_of_none z hnd2)]; exact z
    frzs := fun b o w z => by rw [upd_ne (at_ne ea z exo_frz), upd_ne (ne_of_none z hnd2)]; exact z
    tbls := fun b ps z => ⟨#[], by rw [upd_ne (at_ne ea z exo_tbl), upd_ne (ne_of_none z hnd2), z]; simp⟩ }
  have hok : HOk X.prog X.w (upd (upd (upd H1 (hp.objs.size + 1) (exo (hp.objs.size + 1) C none)) dx (exd dx [(f, v)])) (hp.objs.size + 1) (exo (hp.objs.size + 1) C (some dx))) h2 := fun b o z => by
    by_cases hb : b = hp.objs.size + 1
    · subst hb
      rw [upd_same] at z
      cases z
      exact exo_ok hx2
    · rw [upd_ne hb] at z
      by_cases hdx : b = dx
      · subst hdx
        rw [upd_same] at z
        cases z
        exact exd_ok hn2 (relO_put (fs := []) ru fun g => True.intro)
      · rw [upd_ne hdx] at z
        exact (I2.hok b o z).stay (fun c w hc y => k2 c w (by
            rcases hc with hc | hc
            · rw [hc]
              exact hb
            · exact at_ne ea hc exo_own) y)
          (fun c hc => by rw [upd_ne (at_ne ea hc exo_own), upd_ne (ne_of_none hc hnd2)]; exact hc) (fun c xs hc => by rw [upd_ne (at_ne ea hc exo_tup), upd_ne (ne_of_none hc hnd2)]; exact hc)
  have e2 : del (upd (upd (upd H1 (hp.objs.size + 1) (exo (hp.objs.size + 1) C none)) dx (exd dx [(f, v)])) (hp.objs.size + 1) (exo (hp.objs.size + 1) C (some dx))) (hp.objs.size + 1) = upd H1 dx (exd dx [(f, v)]) := by
    funext b
    by_cases hb : b = hp.objs.size + 1
    · rw [hb, del_same, upd_ne (Ne.symm dne)]
      exact hn.symm
    · rw [del_ne hb, upd_ne hb]
      by_cases hdx : b = dx
      · rw [hdx, upd_same, upd_same]
      · rw [upd_ne hdx, upd_ne hdx, upd_ne hb]
  refine mk_end (raises_own G.ox.exC G.ox.tyC) I1 hsz kk un hok rfl I2.bare upd_same (by rw [upd_ne dne, upd_same]) hnd ?_
  rw [e2, show upd (upd H1 dx (exd dx [(f, v)])) dx (.xd [(f, v)]) = upd H1 dx (.xd [(f, v)]) from by
    funext b
    by_cases hdx : b = dx
    · rw [hdx, upd_same, upd_same]
    · rw [upd_ne hdx, upd_ne hdx, upd_ne hdx]]
  exact q dx hnd
end
end HT
set_option maxRecDepth 100000
set_option maxHeartbeats 800000
namespace HT
open PySem PySem.Spec L2
open PyProof.Rows hiding St

/-! ### expressions that make an error -/
section
variable (T : Str → Addr) (K : PySem.W.Frag)
def GoodM (W : WX) (σ : St) (Q : XK) (ρ : Nat → Option Addr) (Z : Hid) (H : Hp) : R (Str × List (Str × D)) → Prop
  | .ok p S' => ∀ dx vs H' ρ', Ext ρ Z H ρ' H' → Wd T K ρ' S' Z H' → XAt (Fz ρ' Z H') dx vs → RepF T K ρ' (Fz ρ' Z H') p.2 vs → Q (.ref (T p.1)) dx H'
  | .exc C fs S' => ∀ dx vs H' ρ', Ext ρ Z H ρ' H' → Wd T K ρ' S' Z H' → XAt (Fz ρ' Z H') dx vs → RepF T K ρ' (Fz ρ' Z H') fs vs → W (.ref (T C)) dx σ H'
  | .stuck => False
def liftM (W : WX) (F : Env → Cm (Str × List (Str × D))) : St → Hp → XK → Prop := fun σ H Q => ∃ ρ S Z env, Wd T K ρ S Z H ∧ ER T K ρ Z H σ env ∧ GoodM T K W σ Q ρ Z H (F env S)
end
abbrev MF (T : Str → Addr) (X : Cx) (W : WX) (e : Expr) (F : Env → Cm (Str × List (Str × D))) : Prop := PMk X e (liftM T X.K W F)
section
variable {T : Str → Addr} {X : Cx} {W : WX} {C f x : Str} {fI : Addr} {fd : FuncData} {k : Nat} {dvs : List V} {dsv : List Value} {dds : List D} {e : Expr} {es : List Expr} {Fa : Env → Cm (List D)} {F : Env → Cm (Str × List (Str × D))} {p pos : Pos}
theorem lift_bndM {α β : Type} {rel : Rl α β} {K : PySem.W.Frag} {σ : St} {ρ : Nat → Option Addr} {S : Sto} {Z : Hid} {H : Hp} {env : Env} {Q : XK} {F : Env → Cm α} {k : α → Cm (Str × List (Str × D))} (w : Wd T K ρ S Z H) (e : ER T K ρ Z H σ env) (g : GoodM T K W σ Q ρ Z H ((F env S).bnd k)) :
    lift T K rel W F σ H fun v H' => ∃ ρ' S' d, Ext ρ Z H ρ' H' ∧ Wd T K ρ' S' Z H' ∧ ER T K ρ' Z H' σ env ∧ rel ρ' (Fz ρ' Z H') d v ∧ GoodM T K W σ Q ρ' Z H' (k d S') := by
  refine ⟨ρ, S, Z, env, w, e, ?_⟩
  cases h : F env S with
  | ok d S' =>
    rw [h] at g
    refine fun v H' ρ' x w' q => ⟨ρ', S', d, x, w', e.ext x, q, ?_⟩
    cases hk : k d S' with
    | ok c S2 =>
      rw [show ((R.ok d S').bnd k) = k d S' from rfl, hk] at g
      exact fun dx vs H2 ρ2 x2 => g dx vs H2 ρ2 (x.trans x2)
    | exc C fs S2 =>
      rw [show ((R.ok d S').bnd k) = k d S' from rfl, hk] at g
      exact fun dx vs H2 ρ2 x2 => g dx vs H2 ρ2 (x.trans x2)
    | stuck =>
      rw [show ((R.ok d S').bnd k) = k d S' from rfl, hk] at g
      exact g
  | exc C fs S' =>
    rw [h] at g
    exact g
  | stuck =>
    rw [h] at g
    exact g
/-- C(..), the field's value and the defaults -/
def mArg (C f : Str) (dds : List D) (xs : List D) : Cm (Str × List (Str × D)) := fun S => match xs ++ dds with
  | [d] => .ok (C, [(f, d)]) S
  | _ => .stuck
def fMk (C f : Str) (dds : List D) (Fa : Env → Cm (List D)) : Env → Cm (Str × List (Str × D)) := fun env S => (Fa env S).bnd (mArg C f dds)
theorem mk_good {σ : St} {Q : XK} {ρ : Nat → Option Addr} {S : Sto} {Z : Hid} {H : Hp} {xs : List D} {vs : List V} (w : Wd T X.K ρ S Z H) (r : RepL T X.K ρ (Fz ρ Z H) xs vs) (hD : CsD T X.K dds dvs) (g : GoodM T X.K W σ Q ρ Z H (mArg C f dds xs S)) :
    ∃ v, vs ++ dvs = [v] ∧ ∀ d, H d = none → Q (.ref (T C)) (some d) (upd H d (.xd [(f, v)])) := by
  have rr := r.app (hD ρ (Fz ρ Z H))
  unfold mArg at g
  split at g
  · rename_i d hd
    rw [hd] at rr
    obtain ⟨v, hv, rv⟩ := rr.one_inv
    refine ⟨v, hv, fun a ha => ?_⟩
    obtain ⟨x, w', fz⟩ := new_frz (o := .xd [(f, v)]) w ha
    exact g (some a) _ _ ρ x w' fz ⟨v, [], rfl, x.rep rv, rfl⟩
  · exact g.elim
theorem mf_mk (G : ExI X.prog X.K (T C) f fI fd) (hself : (f == ("self" : Str)) = false) (hdf : (f == ("__debug__" : Str)) = false) (msup : X.mg "super" = none) (lv : Lv (k + 1) X.A) (hb : Binds X.K fd ["self", f] dsv) (hd : Vals dvs dsv) (hD : CsD T X.K dds dvs)
    (hg : Gl X x) (hm : X.mg x = some (.ref (T C))) (ha : AF T X W (e :: es) Fa) (hdb : (x == ("__debug__" : Str)) = false := by decide) (he : starEach (e :: es) X.env = (false, eval e X.env) :: starEach es X.env := by rfl) (hpl : (backTo pos (starEach es X.env)).any (·.1) = false := by rfl) :
    MF T X W (.Call (.Name x p) (e :: es) [] pos) (fMk C f dds Fa) := by
  intro pins s σ H Q I h
  obtain ⟨ρ, S, Z, env, w, er, g⟩ := h
  refine wpAny_Call_Name_kw (ld_glob I hg hm ?_ hdb)
  refine PySem.W.callWith_K (h₀ := X.base) I.ok.mod.kin G.ox.kC (thn (ha.run pos pins s σ H _ I (lift_bndM w er g)) fun us s1 ⟨vs, H1, I1, r, ρ1, S1, ds, x1, w1, e1, r1, g1⟩ => ⟨I1.kIn, ?_⟩) he hpl
  obtain ⟨v, hv, q⟩ := mk_good w1 r1 hD g1
  exact xmk_run G hself hdf msup lv hb hd I1 r hv q
theorem mf_mk0 (G : ExI X.prog X.K (T C) f fI fd) (hself : (f == ("self" : Str)) = false) (hdf : (f == ("__debug__" : Str)) = false) (msup : X.mg "super" = none) (lv : Lv (k + 1) X.A) (hb : Binds X.K fd ["self", f] dsv) (hd : Vals dvs dsv) (hD : CsD T X.K dds dvs)
    (hg : Gl X x) (hm : X.mg x = some (.ref (T C))) (hdb : (x == ("__debug__" : Str)) = false := by decide) : MF T X W (.Call (.Name x p) [] [] pos) (fMk C f dds aNil) := by
  intro pins s σ H Q I h
  obtain ⟨ρ, S, Z, env, w, er, g⟩ := h
  refine wpAny_Call_Name_kw (ld_glob I hg hm ?_ hdb)
  obtain ⟨v, hv, q⟩ := mk_good (xs := []) (vs := []) w rfl hD g
  exact PySem.W.callWith_K0 I.kIn G.ox.kC (xmk_run G hself hdf msup lv hb hd I .nil hv q)
/-- an error as a value -/
def fExn (F : Env → Cm (Str × List (Str × D))) : FE := fun env S => (F env S).bnd fun p S' => .ok (.exn p.1 p.2) S'
theorem exo2_ok {P : Program} {w : World} {H : Hp} {h : Heap} {a C : Addr} {d : Option Addr} {oe : Obj} {vs : Array Value} (e : h.get? a = some oe) (z : Zc (.ref C) d oe) (dd : oe.data = .fields vs) : ObjOk P w H h a (EXO C d a) :=
  ⟨⟨oe, vs, e, z, dd⟩, ⟨oe, e⟩, fun _ _ ⟨o, v, q, r⟩ k => ⟨o, v, k o q, r⟩⟩
theorem land_val {pins : List (Addr × Obj)} {σ : St} {H' : Hp} {sI s' : Shared} {a C : Addr} {d : Option Addr} {oe : Obj} {vs : Array Value} (I : Inv X pins σ H' sI) (k : ∀ b o, sI.heap.get? b = some o → s'.heap.get? b = some o) (hn : sI.heap.get? a = none) (he : s'.heap.get? a = some oe)
    (hz : Zc (.ref C) d oe) (hd : oe.data = .fields vs) (na : H' a = none) (os : s'.os = sI.os) (ag : AllBare s'.gens) : Inv X pins σ (upd H' a (EXO C d a)) s' :=
  I.call' (ch := []) os (Un.laidN k hn na) (I.hok.laidN k na (exo2_ok he hz hd)) ag (fun _ z => nomatch z)
theorem pf_exn (h : MF T X W e F) : PF T X W e (fExn F) := by
  refine ⟨fun pins s σ H Q I q => ?_⟩
  obtain ⟨ρ, S, Z, env, w, er, g⟩ := q
  unfold fExn at g
  refine wpAny_mono (h pins s σ H (fun cls d H' => ∃ C dx, cls = .ref C ∧ d = dx ∧ ∀ a, H' a = none → Q (.ref a) (upd H' a (EXO C dx a))) I ⟨ρ, S, Z, env, w, er, ?_⟩) (fun u s1 hu => ?_) fun _ _ x => x
  · cases hF : F env S with
    | ok pr S' =>
      rw [hF] at g
      intro dx vs H' ρ' x w' hx hr
      refine ⟨_, dx, rfl, rfl, fun a ha => ?_⟩
      obtain ⟨x2, w2, fz⟩ := new_frz (o := EXO (T pr.1) dx a) w' ha
      exact g _ _ ρ' (x.trans x2) w2 ⟨a, dx, vs, rfl, fz, hx.map fun b z => x2.frz b _ z, RepF.mono x2.cells x2.frz _ _ hr⟩
    | exc C fs S' =>
      rw [hF] at g
      exact g
    | stuck =>
      rw [hF] at g
      exact g
  · obtain ⟨a, oe, vs, sI, H', cls, d, rfl, J, k, hne, ha, hz, hd, h1, na, os, ag, r, C, dx, rfl, rfl, q⟩ := hu
    exact ⟨.ref a, _, land_val J k hne ha hz hd na os ag, rfl, q a na⟩
/-- raise -/
def sRaise (F : Env → Cm (Str × List (Str × D))) : FS := fun env S => sB env (F env S) fun p S' => .ok (.xc env p.1 p.2) S'
theorem sf_raise (hc : X.calm = true) (tk : Takes X W) (h : MF T X W e F) : SF T X W (.Raise (some e) none pos) (sRaise F) := ps_imp (ps_raise hc tk h) fun B σ H q => by
  obtain ⟨ρ, S, Z0, Z, env, a, g⟩ := q
  refine ⟨ρ, S, Z, env, a.w, a.e, ?_⟩
  unfold sRaise at g
  cases hF : F env S with
  | ok pr S' =>
    rw [hF] at g
    exact fun dx vs H' ρ' x w' hx hr => (show GoodF T X.K W B ρ Z0 Z H S' (.xc env pr.1 pr.2) from g) σ dx vs H' ρ' Z (x.s a.o.sub) (a.ext x w') hx hr
  | exc C fs S' =>
    rw [hF] at g
    exact fun dx vs H' ρ' x w' hx hr => (show GoodF T X.K W B ρ Z0 Z H S' (.xc env C fs) from g) σ dx vs H' ρ' Z (x.s a.o.sub) (a.ext x w') hx hr
  | stuck =>
    rw [hF] at g
    exact g
end
end HT
set_option maxRecDepth 100000
set_option maxHeartbeats 800000
namespace HT
open PySem PySem.Spec L2
open PyProof.Rows hiding St

/-! ### try: .. except x as n: .., the error is an object in the suite and behind it -/
/-- the ends of a suite, seen past its name's going -/
def dropN (i : Nat) (D : Ends) : Ends := { nx := fun σ H => D.nx (σ.set i none) H, rt := D.rt, bk := fun σ H => D.bk (σ.set i none) H, ct := fun σ H => D.ct (σ.set i none) H }
def wEx (K : PySem.W.Frag) (c : Value) (i : Nat) (ts : TS) (Wout : WX) (D : Ends) : WX := fun cls d σ H => ∃ b, PySem.W.exmOne K cls c = some b ∧
  (b = true → ∃ C dx, cls = .ref C ∧ dx = d ∧ ∀ a, H a = none → ts (dropN i D) (σ.set i (some (.ref a))) (upd H a (EXO C dx a))) ∧ (b = false → Wout cls d σ H)
section
variable {X : Cx} {pins : List (Addr × Obj)} {σ : St} {H : Hp} {s : Shared}
theorem Inv.suite0 (I : Inv X pins σ H s) (a : Addr) : Inv (X.suite a (X.pn ++ pins)) [] σ H s :=
  ⟨I.ok.suite _ _, I.os, I.bare, I.base, I.loc, I.cell, I.free, I.freeC, fun p hp => I.pin p (by rw [List.append_nil] at hp; exact hp), I.hok, I.len⟩
theorem Inv.unsuite0 {a : Addr} {pn' : List (Addr × Obj)} (I : Inv (X.suite a (X.pn ++ pins)) pn' σ H s) (ok : X.Ok) : Inv X pins σ H s :=
  ⟨ok, I.os, I.bare, I.base, I.loc, I.cell, I.free, I.freeC, fun p hp => I.pin p (List.mem_append_left _ hp), I.hok, I.len⟩
/-- an object that stands in the heap, untracked, new behind the entry, is tracked -/
theorem Inv.track {a : Addr} {o : HO} (I : Inv X pins σ H s) (na : H a = none) (n0 : X.s_0.heap.get? a = none) (nL : a ≠ X.env.locals) (nC : ∀ x c, X.env.cells.lookup x = some c → c ≠ a) (nP : ∀ p ∈ X.pn ++ pins, p.1 ≠ a) (new : ObjOk X.prog X.w (upd H a o) s.heap a o) : Inv X pins σ (upd H a o) s := by
  refine ⟨I.ok, I.os, I.bare, ⟨I.base.keep, I.base.slot, fun b u e n hx => ?_, I.base.there, fun b xs e => ?_, fun b u w e => ?_, fun b ps e => ?_⟩, I.loc, I.cell, ?_, fun x c e => ?_, fun p hp => ?_, fun b u e => ?_, I.len⟩
  · rw [upd_ne (fun z => by rw [z, n0] at e; cases e)]
    exact I.base.free b u e n hx
  · have q := I.base.tups b xs e
    rw [upd_ne (ne_of_none q na)]
    exact q
  · have q := I.base.frzs b u w e
    rw [upd_ne (ne_of_none q na)]
    exact q
  · obtain ⟨m, q⟩ := I.base.tbls b ps e
    exact ⟨m, by rw [upd_ne (ne_of_none q na)]; exact q⟩
  · rw [upd_ne (Ne.symm nL)]
    exact I.free
  · rw [upd_ne (nC x c e)]
    exact I.freeC x c e
  · obtain ⟨e, n, ne, nf, d⟩ := I.pin p hp
    exact ⟨e, by rw [upd_ne (nP p hp)]; exact n, ne, nf, d⟩
  · by_cases hb : b = a
    · subst hb
      rw [upd_same] at e
      cases e
      exact new
    · rw [upd_ne hb] at e
      exact (I.hok b u e).stay (fun c w _ q => q) (fun c q => by rw [upd_ne (ne_of_none q na)]; exact q) fun c xs q => by rw [upd_ne (ne_of_none q na)]; exact q
end
section
variable {X : Cx} {x n : Str} {c : Value} {i : Nat} {body suite : List Stmt} {b0 : Stmt} {np pos pos' : Pos} {tb : WX → TS} {ts : TS} {Wout : WX}
theorem ps_try_ex (hs : X.stack = X.env :: X.outer) (hf : X.env.frame = some X.env.locals) (hex : X.ex = []) (hN : X.N.Nodup) (hi : X.N[i]? = some n) (hln : X.env.kindOf n = some .local) (hc : Names X x c) (tk : Takes X Wout)
    (hb : ∀ (W : WX) (pn : List (Addr × Obj)) (xe : Value → Shared → Prop), Takes (X.tr pn xe) W → PassesOwn (model X.prog X.w) X.A X.env xe → PSs (X.tr pn xe) body (tb W))
    (hsu : ∀ (a : Addr) (pn : List (Addr × Obj)), PSs (X.suite a pn) (b0 :: suite) ts) :
    PS X (.Try body [.ExceptHandler (some (.Name x np)) (some n) (b0 :: suite) pos'] [] [] pos) (fun D σ H => tb (wEx X.K c i ts Wout D) D σ H) := by
  refine ⟨fun pins s σ H D I h => ?_⟩
  have ok := I.ok
  have hfr : X.A.frames = some (X.env :: X.outer) := ok.frames.trans (congrArg some hs)
  refine wpAny_Try_except (wpAny_mono ((hb (wEx X.K c i ts Wout D) (X.pn ++ pins) (fun e s₁ => wpAny (model X.prog X.w) X.A (noteFrame e X.env) (fun _ s₂ => wpAny (model X.prog X.w) X.A (setFlight e none) (fun _ s₃ =>
    wpAny (model X.prog X.w) X.A (handleBy e X.env [.ExceptHandler (some (.Name x np)) (some n) (b0 :: suite) pos']) (SP X pins D) X.xe s₃) X.xe s₂) X.xe s₁) (fun u s' xx => ?_) PassesOwn.looking).run [] s σ H D (I.toTry _) h) (fun fl s1 hsp => ?_) (fun e s1 he => he))
  · obtain ⟨a, B, sI, pins', τ, G, cls, d, rfl, J', nb, up, sky, na, os, ag, b, hb1, hyes, hno⟩ := xx
    have J : Inv X pins τ G sI := J'.ofTry ok
    rw [hs] at sky
    change wpAny (model X.prog X.w) X.A (noteFrame (.ref a) X.env) _ _ _
    refine Sky.land Zc.steady hfr hf sky fun h3 fl3 up3 => ?_
    have J3 : Inv X pins τ G { s' with heap := h3 } := J.landed nb fl3.1 (up.trans up3) os ag
    obtain ⟨oe3, vs3, he3, hz3, hd3⟩ := fl3.there
    have nfr : a ∉ frs (X.env :: X.outer) := fun hm => by
      obtain ⟨_, o', e', hnf⟩ := fl3.2.2.1.mem hm
      rw [he3] at e'
      cases e'
      exact hnf _ hd3
    have nL : a ≠ X.env.locals := fun z => nfr (List.mem_filterMap.mpr ⟨X.env, List.mem_cons_self, by rw [hf, z]⟩)
    have nI : sI.heap.get? a = none := by
      cases e : sI.heap.get? a with
      | none => rfl
      | some o =>
        have z := nb a o e (by rw [hs]; exact nfr)
        rw [fl3.2.1] at z
        cases z
    have LT : PySem.W.Looks (model X.prog X.w) h3 (typeOf (.ref a)) cls := fun A Q E s k q => wpAny_typeOf_ref (k _ _ he3) (by rw [hz3.1]; exact q)
    have LM := PySem.W.exm_one (M := model X.prog X.w) (J3.kIn) LT hb1
    have S3 := Inv.suite0 J3 a
    have test : ∀ {Q : Value → Shared → Prop} {E : Value → Shared → Prop}, Q c { s' with heap := h3 } → wpAny (model X.prog X.w) (X.A.mark (some (.ref a))) (eval (.Name x np) X.env) Q E { s' with heap := h3 } := fun {Q E} q => by
      obtain ⟨hg, hdbg, hm | ⟨hm, hv, hnn⟩⟩ := hc
      · exact ld_glob (X := X.suite a (X.pn ++ pins)) S3 hg hm q hdbg
      · exact ld_blt (X := X.suite a (X.pn ++ pins)) S3 hg hm hv q hnn hdbg
    refine wpAny_handleBy_cons (codeAny_handlers_test (test (LM.here ?_))) (by intro q; cases q)
    cases b with
    | true =>
      refine codeAny_handlers_suite_as (HandSPX.lands_againZ fl3 fun h4 fl4 up4 => ?_)
      have J4 : Inv X pins τ G { s' with heap := h4 } := J.landed nb fl4.1 ((up.trans up3).trans up4) os ag
      obtain ⟨oe4, vs4, he4, hz4, hd4⟩ := fl4.there
      obtain ⟨C, dx, rfl, rfl, hgo⟩ := hyes rfl
      have n0 : X.s_0.heap.get? a = none := by
        cases e : X.s_0.heap.get? a with
        | none => rfl
        | some o =>
          obtain ⟨o', z⟩ := J.base.there a o e (by rw [hex]; exact fun y => nomatch y)
          rw [nI] at z
          cases z
      have T4 : Inv X pins τ (upd G a (EXO C dx a)) { s' with heap := h4 } := Inv.track J4 na n0 nL (fun y k e z => by
          obtain ⟨v, o, q1, q2⟩ := J4.cell y k e
          rw [z] at q1
          have q3 := he4.symm.trans q1
          cases q3
          rw [hd4] at q2
          cases q2) (fun p hp z => by
          have q1 := (J.pin p hp).1
          rw [z, nI] at q1
          cases q1) (exo2_ok he4 hz4 hd4)
      refine store_ok (X := X.suite a (X.pn ++ pins)) (v := .ref a) (Inv.suite0 T4 a) hN hi (.inl hln) rfl (fun s5 S5 => ?_) (.inr hln)
      refine wpAny_mono ((hsu a (X.pn ++ pins)).run [] s5 _ _ _ S5 (hgo a na)) (fun fl s6 hsp => ?_) (fun _ _ z => False.elim z)
      have last : ∀ {τ6 : St} {H6 : Hp} {Q : Shared → Prop}, Inv (X.suite a (X.pn ++ pins)) [] τ6 H6 s6 → (∀ s7, Inv X pins (τ6.set i none) H6 s7 → Q s7) →
          wpAny (model X.prog X.w) X.A (do bindName X.env n .none; unbindBehindTheSuite X.env n pos') (fun _ s7 => Q s7) X.xe s6 := fun {τ6 H6 Q} S6 hq => gone_ok (Inv.unsuite0 S6 ok) hN hi hln hq
      cases fl with
      | ret u =>
        obtain ⟨v6, τ6, H6, S6, r6, q6⟩ := hsp
        exact last S6 fun s7 J7 => ⟨_, _, _, J7, r6, q6⟩
      | next =>
        obtain ⟨τ6, H6, S6, q6⟩ := hsp
        exact last S6 fun s7 J7 => ⟨_, _, J7, q6⟩
      | brk =>
        obtain ⟨τ6, H6, S6, q6⟩ := hsp
        exact last S6 fun s7 J7 => ⟨_, _, J7, q6⟩
      | cont =>
        obtain ⟨τ6, H6, S6, q6⟩ := hsp
        exact last S6 fun s7 J7 => ⟨_, _, J7, q6⟩
    | false =>
      show wpAny _ X.A (handleBy (.ref a) X.env []) _ _ _
      refine wpAny_handleBy_nil ?_
      obtain ⟨y1, y2, y3, oe, vs, tb0, oT, ts', he, hz, hd, h1, hr⟩ := id fl3
      have fin : wpAny (model X.prog X.w) X.A (setFlight (.ref a) X.env.frame) (fun _ s4 => wpAny (model X.prog X.w) X.A (throw (.ref a) : Sem Flow) (SP X pins D) X.xe s4) X.xe { s' with heap := h3 } := by
        rw [hf]
        exact HandSPX.setFlight_upZ fl3 fun h4 hh4 up4 => wpAny_throw (tk _ _ ⟨a, B, sI, pins, τ, G, cls, d, rfl, J, nb, (up.trans up3).trans up4, .inr (.inr (by rw [hs]; exact hh4)), na, os, ag, hno rfl⟩)
      unfold PySem.passOn
      refine wpAny_bind (wpAny_field he hd h1 ?_)
      rw [if_neg (show ¬ ((Value.ref tb0 == Value.none) = true) from by simp)]
      first
        | exact wpAny_bind (wpAny_pure (wpAny_bind fin))
        | exact wpAny_bind fin
  · cases fl with
    | ret u =>
      obtain ⟨v, τ, G, J', r, q⟩ := hsp
      exact ⟨v, τ, G, J'.ofTry ok, r, q⟩
    | next =>
      obtain ⟨τ, G, J', q⟩ := hsp
      exact wpAny_execs_nil ⟨τ, G, J'.ofTry ok, q⟩
    | brk =>
      obtain ⟨τ, G, J', q⟩ := hsp
      exact ⟨τ, G, J'.ofTry ok, q⟩
    | cont =>
      obtain ⟨τ, G, J', q⟩ := hsp
      exact ⟨τ, G, J'.ofTry ok, q⟩
end
end HT
set_option maxRecDepth 100000
set_option maxHeartbeats 800000
namespace HT
open PySem PySem.Spec L2
open PyProof.Rows hiding St

section
variable {T : Str → Addr} {K : PySem.W.Frag} {ρ : Nat → Option Addr} {S : Sto} {Z0 Z : Hid} {H : Hp} {σ : St} {env : Env} {i : Nat}
/-- a slot is let go -/
theorem At.unset (a : At T K ρ S Z0 Z H σ env) (i : Nat) : At T K ρ S Z0 Z H (σ.set i none) (env.set i .un) := by
  have old : ∀ {j : Nat} {s : Sl}, s ≠ .un → (env.set i .un)[j]? = some s → env[j]? = some s ∧ i ≠ j := fun {j s} hs h => by
    by_cases hj : i = j
    · subst hj
      have hi : i < env.length := by
        have := (List.getElem?_eq_some_iff.mp h).1
        rw [List.length_set] at this
        exact this
      rw [List.getElem?_set_self hi] at h
      exact absurd (Option.some.inj h).symm hs
    · rw [List.getElem?_set_ne hj] at h
      exact ⟨h, hj⟩
  refine ⟨a.w, a.e.wiped [i], a.o.sub, fun j c b h1 h2 => ?_, fun j k c c' b h1 h2 h3 h4 => ?_, a.o.me, fun j c h1 => ?_, fun j k c c' b h1 h2 h3 => ?_, fun j k c c' h1 h2 => ?_⟩
  · obtain ⟨q, hj⟩ := old (by intro z; cases z) h1
    rw [List.getElem?_set_ne hj] at h2
    exact a.o.own j c b q h2
  · obtain ⟨q, hj⟩ := old (by intro z; cases z) h1
    obtain ⟨q2, hk⟩ := old (by intro z; cases z) h2
    rw [List.getElem?_set_ne hj] at h3
    rw [List.getElem?_set_ne hk] at h4
    exact a.o.apart j k c c' b q q2 h3 h4
  · exact a.o.slf j c (old (by intro z; cases z) h1).1
  · obtain ⟨q, hj⟩ := old (by intro z; cases z) h1
    rw [List.getElem?_set_ne hj] at h3
    exact a.o.apart2 j k c c' b q (old (by intro z; cases z) h2).1 h3
  · exact a.o.one j k c c' (old (by intro z; cases z) h1).1 (old (by intro z; cases z) h2).1
end
/-- which errors an except clause takes -/
abbrev ExTb := Str → Option Bool
def sDrop (i : Nat) (r : R Fl) : R Fl := match r with
  | .ok (.nx e) S => .ok (.nx (e.set i .un)) S
  | .ok (.bk e) S => .ok (.bk (e.set i .un)) S
  | .ok (.ct e) S => .ok (.ct (e.set i .un)) S
  | .ok (.rt d) S => .ok (.rt d) S
  | _ => .stuck
def sTry (i : Nat) (tb : ExTb) (F G : FS) : FS := fun env S => match F env S with
  | .ok (.xc env' C fs) S' => (match tb C with
    | some true => sDrop i (G (env'.set i (.val (.exn C fs))) S')
    | some false => .ok (.xc env' C fs) S'
    | none => .stuck)
  | r => r
section
variable {T : Str → Addr} {X : Cx} {W : WX} {x n : Str} {c : Value} {i : Nat} {body suite : List Stmt} {b0 : Stmt} {np pos pos' : Pos} {F G : FS} {tb : ExTb}
theorem sf_try (hs : X.stack = X.env :: X.outer) (hf : X.env.frame = some X.env.locals) (hex : X.ex = []) (hN : X.N.Nodup) (hi : X.N[i]? = some n) (hln : X.env.kindOf n = some .local) (hc : Names X x c) (tk : Takes X W)
    (ht : ∀ C b, tb C = some b → PySem.W.exmOne X.K (.ref (T C)) c = some b)
    (hb : ∀ (W : WX) (pn : List (Addr × Obj)) (xe : Value → Shared → Prop), Takes (X.tr pn xe) W → SFs T (X.tr pn xe) W body F)
    (hsu : ∀ (a : Addr) (pn : List (Addr × Obj)), SFs T (X.suite a pn) WF (b0 :: suite) G) :
    SF T X W (.Try body [.ExceptHandler (some (.Name x np)) (some n) (b0 :: suite) pos'] [] [] pos) (sTry i tb F G) :=
  ps_imp (ps_try_ex (tb := fun W => liftS T X.K W F) (ts := liftS T X.K WF G) hs hf hex hN hi hln hc tk (fun W pn xe tk _ => hb W pn xe tk) hsu) fun B σ H q => by
    obtain ⟨ρ, S, Z0, Z, env, a, g⟩ := q
    refine ⟨ρ, S, Z0, Z, env, a, ?_⟩
    unfold sTry at g
    cases hF : F env S with
    | stuck =>
      rw [hF] at g
      exact g
    | exc C fs S' =>
      rw [hF] at g
      exact g
    | ok fl S' =>
      rw [hF] at g
      cases fl with
      | nx e => exact (show GoodF T X.K W B ρ Z0 Z H S' (.nx e) from g)
      | bk e => exact (show GoodF T X.K W B ρ Z0 Z H S' (.bk e) from g)
      | ct e => exact (show GoodF T X.K W B ρ Z0 Z H S' (.ct e) from g)
      | rt d => exact (show GoodF T X.K W B ρ Z0 Z H S' (.rt d) from g)
      | xc e C fs =>
        intro σ' dx vs H' ρ' Z' xs a' hx hr
        dsimp only at g
        cases ht' : tb C with
        | none =>
          rw [ht'] at g
          exact g.elim
        | some b =>
          rw [ht'] at g
          refine ⟨b, ht C b ht', fun e1 => ?_, fun e1 => ?_⟩
          · subst e1
            refine ⟨_, dx, rfl, rfl, fun p hp => ?_⟩
            obtain ⟨x2, w2, fz⟩ := new_frz (o := EXO (T C) dx p) a'.w hp
            have a2 := (a'.ext x2 w2).set (i := i) (d := .exn C fs) (v := .ref p) ⟨p, dx, vs, rfl, fz, hx.map fun b z => x2.frz b _ z, RepF.mono x2.cells x2.frz _ _ hr⟩
            refine ⟨ρ', S', Z0, Z', _, a2, ?_⟩
            have xe : ExtS ρ Z0 Z H ρ' Z' (upd H' p (EXO (T C) dx p)) := xs.trans (x2.s a'.o.sub)
            change GoodS T X.K W B ρ Z0 Z H (sDrop i (G (e.set i (.val (.exn C fs))) S')) at g
            cases hG : G (e.set i (.val (.exn C fs))) S' with
            | stuck =>
              rw [hG] at g
              exact g
            | exc C' fs' S2 =>
              rw [hG] at g
              exact g
            | ok fl2 S2 =>
              rw [hG] at g
              cases fl2 with
              | nx e2 => exact fun σ3 H3 ρ3 Z3 x3 a3 => (show GoodF T X.K W B ρ Z0 Z H S2 (.nx (e2.set i .un)) from g) _ H3 ρ3 Z3 (xe.trans x3) (a3.unset i)
              | bk e2 => exact fun σ3 H3 ρ3 Z3 x3 a3 => (show GoodF T X.K W B ρ Z0 Z H S2 (.bk (e2.set i .un)) from g) _ H3 ρ3 Z3 (xe.trans x3) (a3.unset i)
              | ct e2 => exact fun σ3 H3 ρ3 Z3 x3 a3 => (show GoodF T X.K W B ρ Z0 Z H S2 (.ct (e2.set i .un)) from g) _ H3 ρ3 Z3 (xe.trans x3) (a3.unset i)
              | rt d => exact fun v H3 ρ3 Z3 x3 => (show GoodF T X.K W B ρ Z0 Z H S2 (.rt d) from g) v H3 ρ3 Z3 (xe.trans x3)
              | xc e2 C' fs' => exact g.elim
          · subst e1
            exact (show GoodF T X.K W B ρ Z0 Z H S' (.xc e C fs) from g) σ' dx vs H' ρ' Z' xs a' hx hr
end
end HT
set_option maxRecDepth 100000
set_option maxHeartbeats 800000
namespace HT
open PySem PySem.Spec L2
open PyProof.Rows hiding St

/-! ### isinstance -/
inductive Ty where
  | b (n : String) | own (C : Str) | exc (C : Str)
def tyD (S : Sto) : D → Option Ty
  | .non => some (.b "NoneType")
  | .bl _ => some (.b "bool")
  | .int _ => some (.b "int")
  | .str _ => some (.b "str")
  | .lst _ => some (.b "list")
  | .klst _ => some (.b "list")
  | .tup _ => some (.b "tuple")
  | .dK _ => some (.b "dict")
  | .dT _ => some (.b "dict")
  | .obj C _ => some (.own C)
  | .exn C _ => some (.exc C)
  | .cell k => (match S[k]? with
    | some (.lst _) => some (.b "list")
    | some (.dK _) => some (.b "dict")
    | some (.dT _) => some (.b "dict")
    | some (.ins C _) => some (.own C)
    | none => none)
  | _ => none
/-- what an own class must say -/
structure ObC (K : PySem.W.Frag) (C : Addr) : Prop where
  cl : Cls K C
  ha : PySem.W.findIn K (.ref C) "__class__" = some (some (.builtin "object.__class__"))
  hn : PySem.W.specialIn K (.builtin "object.__class__") "__get__" = some (some (.builtin "getset_descriptor.__get__"))
  ht : PySem.W.takesIn K (.builtin "object.__class__") = some true
  hm : PySem.W.mroIn K C (.type "object") = some true
/-- the answers for a class, by the value's type -/
structure IsTb (T : Str → Addr) (K : PySem.W.Frag) (cv : Value) (tb : Ty → Option Bool) : Prop where
  b : ∀ n r, tb (.b n) = some r → PySem.W.kitOne K (.type n) cv = some r
  own : ∀ C r, tb (.own C) = some r → ObC K (T C) ∧ PySem.W.kitOne K (.ref (T C)) cv = some r
  exc : ∀ C r, tb (.exc C) = some r → ExcC K (T C) ∧ PySem.W.kitOne K (.ref (T C)) cv = some r
inductive ClsD where
  | ty (n : String) | own (C : Str)
def ClsD.is (c : ClsD) (d : D) : Bool := match c, d with
  | .ty n, .ty m => n == m
  | .own C, .glob x => C == x
  | _, _ => false
def ClsD.val (T : Str → Addr) : ClsD → Value
  | .ty n => .type n
  | .own C => .ref (T C)
def gIsi (tb : Ty → Option Bool) (c : ClsD) (x y : D) : Cm D := fun S => if c.is y = true then (match tyD S x with
  | some t => (match tb t with
    | some r => .ok (.bl r) S
    | none => .stuck)
  | none => .stuck) else .stuck
section
variable {T : Str → Addr} {X : Cx}
/-- isinstance of an error -/
def rIsx (K : PySem.W.Frag) : List V → Hp → VK → Prop := fun xs H Q => ∃ (a : Addr) (dx : Option Addr) (C : Addr) (fs : List (Str × V)) (c : V) (u : Value) (b : Bool), xs = [.ref a, c] ∧ H a = some (EXO C dx a) ∧ XAt H dx fs ∧ ExcC K C ∧ ClsV c u ∧ PySem.W.kitOne K (.ref C) u = some b ∧ Q (.bl b) H
theorem exo_get {pins : List (Addr × Obj)} {σ : St} {H : Hp} {s : Shared} {a C dx : Addr} {fs : List (Str × V)} (I : Inv X pins σ H s) (ha : H a = some (EXO C (some dx) a)) (hx : H dx = some (.xd fs)) :
    ∃ (oe od : Obj) (mA : Str → Option Value), PySem.W.InstAt s.heap a oe C (some od) ∧ (∀ f, PySem.W.lookIn f od = some (mA f)) ∧ ∀ f, RelO (fs.lookup f) (mA f) := by
  obtain ⟨⟨oe, vs, h1, h2, h3⟩, _, _⟩ := (show ObjOk X.prog X.w H s.heap a (EXO C (some dx) a) from I.hok a _ ha)
  have hx2 : ObjOk X.prog X.w H s.heap dx (.xd fs) := I.hok dx _ hx
  obtain ⟨mA, hns, hr⟩ := hx2
  obtain ⟨od, ho, hl⟩ := lookIn_ns hns
  exact ⟨oe, od, mA, ⟨h1, h2.1, by unfold PySem.W.notCls; rw [h3] <;> rfl, by rw [h2.2]; exact ho⟩, hl, hr⟩
theorem exo_inst {pins : List (Addr × Obj)} {σ : St} {H : Hp} {s : Shared} {a C : Addr} {dx : Option Addr} {fs : List (Str × V)} (I : Inv X pins σ H s) (ha : H a = some (EXO C dx a)) (hx : XAt H dx fs) :
    ∃ (oe : Obj) (od : Option Obj), PySem.W.InstAt s.heap a oe C od := by
  cases dx with
  | some dx =>
    obtain ⟨oe, od, _, h, _⟩ := exo_get I ha hx
    exact ⟨oe, some od, h⟩
  | none =>
    obtain ⟨⟨oe, vs, h1, h2, h3⟩, _, _⟩ := (show ObjOk X.prog X.w H s.heap a (EXO C none a) from I.hok a _ ha)
    exact ⟨oe, none, ⟨h1, h2.1, by unfold PySem.W.notCls; rw [h3] <;> rfl, by rw [h2.2]; trivial⟩⟩
theorem call_isx : CallR X (.builtin "isinstance") (rIsx X.K) := by
  intro pins s σ H xs us Q I r h
  obtain ⟨a, dx, C, fs, c, u, b, rfl, ha, hx, hc, k, e, q⟩ := h
  obtain ⟨u1, u2, rfl, r1, r2⟩ := vals2 r
  have e2 := k.eq r2
  subst e2
  cases r1
  obtain ⟨oe, od, J⟩ := exo_inst I ha hx
  obtain ⟨cd, hcd, _⟩ := PySem.W.any_some hc.hd
  exact PySem.W.kia_one (PySem.W.kitx_exc (by rw [hcd]; rfl) hc.hg hc.hk hc.hs hc.ha hc.hn hc.ht hc.hm) I.kIn J e (fun z => nomatch z) fun tk => ⟨.bl b, H, I.tok tk, rfl, q⟩
theorem call_isi2 : CallR X (.builtin "isinstance") (fun xs H Q => rIsi X.K xs H Q ∨ rIsx X.K xs H Q) := by
  intro pins s σ H xs us Q I r h
  rcases h with h | h
  · exact call_isi pins s σ H xs us Q I r h
  · exact call_isx pins s σ H xs us Q I r h
theorem seqL_ty {K : PySem.W.Frag} {H : Hp} {a : Addr} {xs : List V} (h : SqL K H a xs) : TyX K H (.ref a) (.type "list") := by
  rcases h with (h | ⟨o, h⟩) | ⟨o, its, n, h1, h2, _⟩
  · exact .base (.lst h)
  · exact .base (.frz h)
  · exact .kList h1 h2
theorem seqT_ty {K : PySem.W.Frag} {H : Hp} {a : Addr} {xs : List V} (h : SqT K H a xs) : TyX K H (.ref a) (.type "tuple") := by
  rcases h with (h | ⟨o, h⟩) | ⟨o, its, n, h1, h2, _⟩
  · exact .base (.tup h)
  · exact .fTuple h
  · exact .kTuple h1 h2
theorem ok_gIsi {tb : Ty → Option Bool} {c : ClsD} (tbl : IsTb T X.K (c.val T) tb) : OpN T X (fun xs H Q => rIsi X.K xs H Q ∨ rIsx X.K xs H Q) (a2 (gIsi tb c)) := opN2 fun W σ ρ S Z H x y v u Q w r1 r2 g => by
  unfold gIsi at g
  split at g
  · rename_i hc
    have hcv : ClsV u (c.val T) := by
      cases c with
      | ty n =>
        cases y with
        | ty m =>
          have e : n = m := eq_of_beq (show (n == m) = true from hc)
          subst e
          have e2 : u = .ty n := r2
          subst e2
          exact .ty n
        | _ => cases hc
      | own C =>
        cases y with
        | glob m =>
          have e : C = m := eq_of_beq (show (C == m) = true from hc)
          subst e
          have e2 : u = .ref (T C) := r2
          subst e2
          exact .own (T C)
        | _ => cases hc
    cases ht : tyD S x with
    | none =>
      rw [ht] at g
      exact g.elim
    | some t =>
      rw [ht] at g
      dsimp only at g
      cases hb : tb t with
      | none =>
        rw [hb] at g
        exact g.elim
      | some b =>
        rw [hb] at g
        have fin : Q (.bl b) H := g _ H ρ .refl w rfl
        have plain : ∀ (n : String), t = .b n → TyX X.K H v (.type n) → rIsi X.K [v, u] H Q := fun n e ty => by
          subst e
          exact ⟨v, u, _, _, b, rfl, hcv, ty, tbl.b n b hb, fin⟩
        have owned : ∀ (C : Str) (a dx : Addr) (fs : List (Str × V)), t = .own C → v = .ref a → H a = some (.ins (T C) dx fs) → rIsi X.K [v, u] H Q := fun C a dx fs e ev ha => by
          subst e ev
          obtain ⟨o1, o2⟩ := tbl.own C b hb
          exact ⟨_, u, _, _, b, rfl, hcv, .base (.ins ha o1.cl o1.ha o1.hn o1.ht o1.hm), o2, fin⟩
        cases x with
        | non =>
          cases ht
          have e : v = .non := r1
          subst e
          exact .inl (plain _ rfl (.base .non))
        | bl k =>
          cases ht
          have e : v = .bl k := r1
          subst e
          exact .inl (plain _ rfl (.base (.bl k)))
        | int k =>
          cases ht
          have e : v = .int k := r1
          subst e
          exact .inl (plain _ rfl (.base (.int k)))
        | str k =>
          cases ht
          have e : v = .str k := r1
          subst e
          exact .inl (plain _ rfl (.base (.str k)))
        | lst ds =>
          cases ht
          obtain ⟨a, vs, rfl, q, _⟩ := r1
          exact .inl (plain _ rfl (.base (.lst (Fz_sub _ _ q))))
        | klst ds =>
          cases ht
          obtain ⟨a, vs, rfl, q, _⟩ := r1
          exact .inl (plain _ rfl (seqL_ty (Fz_sub.seqL q)))
        | tup ds =>
          cases ht
          obtain ⟨a, vs, rfl, q, _⟩ := r1
          exact .inl (plain _ rfl (seqT_ty (Fz_sub.seqT q)))
        | dK kvs =>
          cases ht
          obtain ⟨a, vs, rfl, q, _⟩ := r1
          exact .inl (plain _ rfl (.base (.dK (Fz_sub _ _ q))))
        | dT kvs =>
          cases ht
          obtain ⟨a, vs, rfl, q, _⟩ := r1
          exact .inl (plain _ rfl (.base (.dT (Fz_sub _ _ q))))
        | obj C fs =>
          cases ht
          obtain ⟨a, dx, vs, rfl, q, _⟩ := r1
          exact .inl (owned C a dx vs rfl rfl (Fz_sub _ _ q))
        | exn C fs =>
          cases ht
          obtain ⟨a, dx, vs, rfl, q, q2, _⟩ := r1
          obtain ⟨o1, o2⟩ := tbl.exc C b hb
          exact .inr ⟨a, dx, T C, vs, u, _, b, rfl, Fz_sub _ _ q, q2.map fun b z => Fz_sub b _ z, o1, hcv, o2, fin⟩
        | cell k =>
          obtain ⟨a, rfl, q⟩ := r1
          cases hk : S[k]? with
          | none =>
            have ht2 : (match S[k]? with | some (.lst _) => some (Ty.b "list") | some (.dK _) => some (.b "dict") | some (.dT _) => some (.b "dict") | some (.ins C _) => some (.own C) | none => none) = some t := ht
            rw [hk] at ht2
            cases ht2
          | some co =>
            have ht2 : (match S[k]? with | some (.lst _) => some (Ty.b "list") | some (.dK _) => some (.b "dict") | some (.dT _) => some (.b "dict") | some (.ins C _) => some (.own C) | none => none) = some t := ht
            rw [hk] at ht2
            obtain ⟨a', o, h1, h2, h3, h4⟩ := w.cells k co hk
            rw [q] at h1
            cases h1
            cases co with
            | lst ds =>
              cases ht2
              obtain ⟨vs, rfl, _⟩ := h4
              exact .inl (plain _ rfl (.base (.lst h3)))
            | dK ds =>
              cases ht2
              obtain ⟨vs, rfl, _⟩ := h4
              exact .inl (plain _ rfl (.base (.dK h3)))
            | dT ds =>
              cases ht2
              obtain ⟨vs, rfl, _⟩ := h4
              exact .inl (plain _ rfl (.base (.dT h3)))
            | ins C fs =>
              cases ht2
              obtain ⟨dx, vs, rfl, _⟩ := h4
              exact .inl (owned C a dx vs rfl rfl h3)
        | glob x => cases ht
        | ty n => cases ht
  · exact g.elim
/-- names of classes -/
theorem pf_tyName {W : WX} {x : Str} {n : String} {pos : Pos} (hg : Gl X x) (hm : X.mg x = none) (hv : bootBuiltins x = some (.type n)) (hn : x ≠ "__name__" := by decide) (hd : (x == ("__debug__" : Str)) = false := by decide) : PF T X W (.Name x pos) (fun _ => pure (.ty n)) :=
  pf_const (pe_bltn hg hm hv (show RelV (.ty n) (.type n) from rfl) hn hd) fun _ _ => rfl
theorem pf_clsName {W : WX} {x : Str} {pos : Pos} (hg : Gl X x) (hm : X.mg x = some (.ref (T x))) (hd : (x == ("__debug__" : Str)) = false := by decide) : PF T X W (.Name x pos) (fun _ => pure (.glob x)) :=
  pf_const (pe_glob hg hm (show RelV (.ref (T x)) (.ref (T x)) from rfl) hd) fun _ _ => rfl

/-! ### fields -/
/-- o.f of an object of one of the classes cs -/
def fldOf (cs : List Str) (f : Str) (c : CO) : Cm D := fun S' => match c with
  | .ins C fs => if C ∈ cs then (match fs.lookup f with
    | some d => .ok d S'
    | none => .stuck) else .stuck
  | _ => .stuck
def fFld (cs : List Str) (f : Str) (Fo : Env → Cm CO) : FE := fun env S => (Fo env S).bnd (fldOf cs f)
theorem pf_fld {W : WX} {e : Expr} {f : Str} {Fo : Env → Cm CO} {cs : List Str} {pos : Pos} (he : VF T X W e Fo) (hc : ∀ C ∈ cs, Cls X.K (T C) ∧ NoAttr X.K (T C) f) (hb : attributeBase e f X.env (eval e X.env) = eval e X.env := by rfl) : PF T X W (.Attribute e f pos) (fFld cs f Fo) :=
  pe_imp (pe_fld he hb) fun σ H Q q => by
    obtain ⟨ρ, S, Z, env, w, er, g⟩ := q
    refine ⟨ρ, S, Z, env, w, er, ?_⟩
    unfold fFld at g
    cases hF : Fo env S with
    | stuck =>
      rw [hF] at g
      exact g
    | exc C fs S' =>
      rw [hF] at g
      exact g
    | ok c S' =>
      rw [hF] at g
      change Good T X.K (rD T X.K) W σ Q ρ Z H (fldOf cs f c S') at g
      unfold fldOf at g
      intro a o H' ρ' x w' ha hO
      cases c with
      | ins C fs =>
        dsimp only at g
        split at g
        · rename_i hm
          cases hl : fs.lookup f with
          | none =>
            rw [hl] at g
            exact g.elim
          | some d =>
            rw [hl] at g
            obtain ⟨dx, vs, rfl, rf⟩ := hO
            obtain ⟨v, h1, h2⟩ := rf.look hl
            exact ⟨a, T C, dx, vs, v, rfl, ha, (hc C hm).1, (hc C hm).2, h1, g v H' ρ' x w' h2⟩
        · exact g.elim
      | _ => exact g.elim
/-- e.f of an error -/
def fXf (cs : List Str) (f : Str) (Fo : FE) : FE := fun env S => (Fo env S).bnd fun d S' => match d with
  | .exn C fs => if C ∈ cs then (match fs.lookup f with
    | some d => .ok d S'
    | none => .stuck) else .stuck
  | _ => .stuck
theorem pf_xf {W : WX} {e : Expr} {f : Str} {Fo : FE} {cs : List Str} {pos : Pos} (he : PF T X W e Fo) (hc : ∀ C ∈ cs, XfC X.K (T C) ∧ PySem.W.findIn X.K (.ref (T C)) f = some none) (hb : attributeBase e f X.env (eval e X.env) = eval e X.env := by rfl) : PF T X W (.Attribute e f pos) (fXf cs f Fo) := by
  refine ⟨fun pins s σ H Q I h => ?_⟩
  obtain ⟨ρ, S, Z, env, w, er, g⟩ := h
  refine attr_of hb (thn (he.run pins s σ H _ I (lift_bnd w er g)) fun u s1 ⟨v, H1, I1, rx, ρ1, S1, d1, x1, w1, e1, r1, g1⟩ => ?_)
  cases d1 with
  | exn C fs =>
    dsimp only at g1
    split at g1
    · rename_i hm
      cases hl : fs.lookup f with
      | none =>
        rw [hl] at g1
        exact g1.elim
      | some d =>
        rw [hl] at g1
        obtain ⟨a, dx, vs, rfl, q1, q2, rf⟩ := r1
        obtain rfl : u = Value.ref a := rx
        obtain ⟨y, h1, h2⟩ := rf.look hl
        obtain ⟨dx, rfl⟩ : ∃ d, dx = some d := by
          cases dx with
          | some d => exact ⟨d, rfl⟩
          | none =>
            obtain rfl : vs = [] := q2
            cases h1
        obtain ⟨oe, od, mA, J, hlk, hr⟩ := exo_get I1 (Fz_sub _ _ q1) (Fz_sub _ _ q2)
        obtain ⟨t, hno⟩ := hc C hm
        obtain ⟨u2, hu, ru⟩ := RelO.some_of (v := y) (o := mA f) (by rw [← h1]; exact hr f)
        exact HandSPX.exc_get I1.kIn J t.ga t.gg t.exC (PySem.W.findObj_own t.hdC hno rfl (by rw [hlk, hu])) (handed_of ru) ⟨y, H1, I1.tok _, ru, g1 y H1 ρ1 .refl w1 h2⟩
    · exact g1.elim
  | _ => exact g1.elim
end
end HT
set_option maxRecDepth 100000
set_option maxHeartbeats 800000
namespace HT
open PySem PySem.Spec L2
open PyProof.Rows hiding St

/-! ### own objects are changed -/
section
variable {T : Str → Addr} {K : PySem.W.Frag} {ρ : Nat → Option Addr} {S : Sto} {Z0 Z : Hid} {H : Hp} {σ : St} {env : Env} {i : Nat} {c0 c : CO} {o : HO}
/-- a hidden object is changed: the env's slots but the i-th stand as they stood -/
theorem ER.hid1 {p : Addr} (e : ER T K ρ Z H σ env) (hp : Z p) (hi : i < env.length) {s : Sl} (h1 : ∀ c', s = .own c' → σ[i]? = some (some (V.ref p)) ∧ HObj T K ρ (Fz ρ Z H) c' o) (h2 : ∀ c', s = .slf c' → p = Z.me ∧ σ[i]? = some (some (V.ref p)) ∧ HObj T K ρ (Fz ρ Z H) c' o) (h3 : ∀ d, s ≠ .val d)
    (n1 : ∀ j c', j ≠ i → env[j]? = some (.own c') → σ[j]? ≠ some (some (V.ref p))) (n2 : ∀ j c', j ≠ i → env[j]? = some (.slf c') → p ≠ Z.me) : ER T K ρ Z (upd H p o) σ (env.set i s) := by
  have hF : Fz ρ Z (upd H p o) = Fz ρ Z H := fz_hid hp
  have at_ : ∀ {j : Nat} {x : Sl}, (env.set i s)[j]? = some x → (j = i ∧ x = s) ∨ (j ≠ i ∧ env[j]? = some x) := fun {j x} h => by
    by_cases hj : i = j
    · subst hj
      rw [List.getElem?_set_self hi] at h
      exact .inl ⟨rfl, (Option.some.inj h).symm⟩
    · rw [List.getElem?_set_ne hj] at h
      exact .inr ⟨Ne.symm hj, h⟩
  refine ⟨fun j d h => ?_, fun j c' h => ?_, fun j c' h => ?_, by rw [List.length_set]; exact e.len⟩
  · rcases at_ h with ⟨_, q⟩ | ⟨_, q⟩
    · exact absurd q.symm (h3 d)
    · rw [hF]
      exact e.val j d q
  · rcases at_ h with ⟨rfl, q⟩ | ⟨hj, q⟩
    · obtain ⟨q1, q2⟩ := h1 c' q.symm
      exact ⟨p, o, q1, hp, upd_same, by rw [hF]; exact q2⟩
    · obtain ⟨a, u, q1, q2, q3, q4⟩ := e.own j c' q
      have na : a ≠ p := fun z => n1 j c' hj q (by rw [q1, z])
      exact ⟨a, u, q1, q2, by rw [upd_ne na]; exact q3, by rw [hF]; exact q4⟩
  · rcases at_ h with ⟨rfl, q⟩ | ⟨hj, q⟩
    · obtain ⟨q0, q1, q2⟩ := h2 c' q.symm
      subst q0
      exact ⟨o, q1, hp, upd_same, by rw [hF]; exact q2⟩
    · obtain ⟨u, q1, q2, q3, q4⟩ := e.slf j c' q
      exact ⟨u, q1, q2, by rw [upd_ne (Ne.symm (n2 j c' hj q))]; exact q3, by rw [hF]; exact q4⟩
theorem set_old {s : Sl} {j : Nat} {x : Sl} (h : (env.set i s)[j]? = some x) : (j = i ∧ x = s ∧ i < env.length) ∨ (j ≠ i ∧ env[j]? = some x) := by
  by_cases hj : i = j
  · subst hj
    have hi : i < env.length := by
      have := (List.getElem?_eq_some_iff.mp h).1
      rw [List.length_set] at this
      exact this
    rw [List.getElem?_set_self hi] at h
    exact .inl ⟨rfl, (Option.some.inj h).symm, hi⟩
  · rw [List.getElem?_set_ne hj] at h
    exact .inr ⟨Ne.symm hj, h⟩
/-- the object under __init__ is changed -/
theorem At.putSlf (a : At T K ρ S Z0 Z H σ env) (h0 : env[i]? = some (.slf c0)) (h : HObj T K ρ (Fz ρ Z H) c o) : ExtS ρ Z0 Z H ρ Z (upd H Z.me o) ∧ At T K ρ S Z0 Z (upd H Z.me o) σ (env.set i (.slf c)) := by
  obtain ⟨o0, e1, e2, e3, e4⟩ := a.e.slf i c0 h0
  have hi : i < env.length := (List.getElem?_eq_some_iff.mp h0).1
  refine ⟨⟨fun _ _ q => q, fun b u q => by rw [fz_hid e2]; exact q, fun b z => upd_ne fun q => a.o.slf i c0 h0 (q ▸ z)⟩, a.w.hid e2, ?_, a.o.sub, fun j c' b q1 q2 => ?_, fun j k c1 c2 b q1 q2 q3 q4 => ?_, a.o.me, fun j c' q1 => ?_, fun j k c1 c2 b q1 q2 q3 => ?_, fun j k c1 c2 q1 q2 => ?_⟩
  · refine a.e.hid1 e2 hi (fun c' z => nomatch z) (fun c' z => ?_) (fun d z => nomatch z) (fun j c' hj q z => ?_) (fun j c' hj q => ?_)
    · cases z
      exact ⟨rfl, e1, h⟩
    · exact a.o.apart2 j i c' c0 _ q h0 z rfl
    · exact absurd (a.o.one j i c' c0 q h0) hj
  · rcases set_old q1 with ⟨_, q, _⟩ | ⟨_, q⟩
    · cases q
    · exact a.o.own j c' b q q2
  · rcases set_old q1 with ⟨_, q, _⟩ | ⟨_, q⟩
    · cases q
    · rcases set_old q2 with ⟨_, q', _⟩ | ⟨_, q'⟩
      · cases q'
      · exact a.o.apart j k c1 c2 b q q' q3 q4
  · exact a.o.slf i c0 h0
  · rcases set_old q1 with ⟨_, q, _⟩ | ⟨_, q⟩
    · cases q
    · exact a.o.apart2 j i c1 c0 b q h0 q3
  · rcases set_old q1 with ⟨q, _, _⟩ | ⟨q, q'⟩
    · rcases set_old q2 with ⟨r, _, _⟩ | ⟨r, r'⟩
      · rw [q, r]
      · exact absurd (a.o.one k i c2 c0 r' h0) r
    · exact absurd (a.o.one j i c1 c0 q' h0) q
/-- an own object is changed -/
theorem At.putOwn {p : Addr} (a : At T K ρ S Z0 Z H σ env) (h0 : env[i]? = some (.own c0)) (hp : σ[i]? = some (some (V.ref p))) (h : HObj T K ρ (Fz ρ Z H) c o) : ExtS ρ Z0 Z H ρ Z (upd H p o) ∧ At T K ρ S Z0 Z (upd H p o) σ (env.set i (.own c)) := by
  obtain ⟨zp, nz⟩ := a.o.own i c0 p h0 hp
  have hi : i < env.length := (List.getElem?_eq_some_iff.mp h0).1
  have hold : ∀ {j : Nat} {c' : CO}, (env.set i (.own c))[j]? = some (.own c') → ∃ c1, env[j]? = some (.own c1) := fun {j c'} q => by
    rcases set_old q with ⟨rfl, _, _⟩ | ⟨_, q'⟩
    · exact ⟨c0, h0⟩
    · exact ⟨c', q'⟩
  have holdS : ∀ {j : Nat} {c' : CO}, (env.set i (.own c))[j]? = some (.slf c') → env[j]? = some (.slf c') := fun {j c'} q => by
    rcases set_old q with ⟨_, q', _⟩ | ⟨_, q'⟩
    · cases q'
    · exact q'
  refine ⟨⟨fun _ _ q => q, fun b u q => by rw [fz_hid zp]; exact q, fun b z => upd_ne fun q => nz (q ▸ z)⟩, a.w.hid zp, ?_, a.o.sub, fun j c' b q1 q2 => ?_, fun j k c1 c2 b q1 q2 q3 q4 => ?_, a.o.me, fun j c' q1 => a.o.slf j c' (holdS q1), fun j k c1 c2 b q1 q2 q3 => ?_, fun j k c1 c2 q1 q2 => a.o.one j k c1 c2 (holdS q1) (holdS q2)⟩
  · refine a.e.hid1 zp hi (fun c' z => ?_) (fun c' z => nomatch z) (fun d z => nomatch z) (fun j c' hj q z => ?_) (fun j c' hj q => ?_)
    · cases z
      exact ⟨hp, h⟩
    · exact hj (a.o.apart j i c' c0 p q h0 z hp)
    · exact a.o.apart2 i j c0 c' p h0 q hp
  · obtain ⟨c1, q⟩ := hold q1
    exact a.o.own j c1 b q q2
  · obtain ⟨x1, q⟩ := hold q1
    obtain ⟨x2, q'⟩ := hold q2
    exact a.o.apart j k x1 x2 b q q' q3 q4
  · obtain ⟨x1, q⟩ := hold q1
    exact a.o.apart2 j k x1 c2 b q (holdS q2) q3
end

/-! ### self.f = e within __init__ -/
def sFldS (i : Nat) (cs : List Str) (f : Str) (F : FE) : FS := fun env S => sB env (F env S) fun d S' => match env[i]? with
  | some (.slf (.ins C fs)) => if C ∈ cs ∧ fs.length < 1000 then .ok (.nx (env.set i (.slf (.ins C (putD f d fs))))) S' else .stuck
  | _ => .stuck
section
variable {T : Str → Addr} {X : Cx} {W : WX} {x f : Str} {i : Nat} {cs : List Str} {value : Expr} {F : FE} {p pos pos' : Pos}
theorem sf_fldS (hx : PE X (.Name x p) (tVar i)) (hv : PF T X W value F) (hc : ∀ C ∈ cs, Cls X.K (T C) ∧ NoAttr X.K (T C) f) (hs : swapsWith value (some (.Attribute (.Name x p) f pos')) pos.line X.env = pure false := by rfl) :
    SF T X W (.Assign [.Attribute (.Name x p) f pos'] value pos) (sFldS i cs f F) := ps_imp (ps_fld hx hv hs) fun B σ H q => by
  obtain ⟨ρ, S, Z0, Z, env, a, g⟩ := q
  refine lift_imp (lift_sB a g) fun v H1 ⟨ρ1, S1, d, x1, a1, r1, g1⟩ => ?_
  split at g1
  · rename_i C fs h0
    split at g1
    · rename_i hm
      obtain ⟨o, e1, e2, e3, e4⟩ := a1.e.slf i _ h0
      obtain ⟨dx, vs, rfl, rf⟩ := e4
      obtain ⟨xs, as⟩ := a1.putSlf (c := .ins C (putD f d fs)) (o := .ins (T C) dx (putF f v vs)) h0 ⟨dx, _, rfl, rf.put r1⟩
      exact ⟨_, e1, Z.me, T C, dx, vs, rfl, e3, (hc C hm.1).1, (hc C hm.1).2, by rw [← rf.len]; exact hm.2, (show GoodF T X.K W B ρ1 Z0 Z H1 S1 (.nx _) from g1) σ _ ρ1 Z xs as⟩
    · exact g1.elim
  · exact g1.elim
end

/-! ### C(..), its __init__ -/
/-- an __init__'s promise -/
def spI (T : Str → Addr) (K : PySem.W.Frag) (C : Str) (M : List D → Cm CO) (vs : List V) (H : Hp) (Q : VK) (E : XK) : Prop := ∃ ρ S Z H0 x dx rest ds, ∃ Qo : VK, vs = .ref x :: rest ∧ H0 x = none ∧ H0 dx = none ∧ dx ≠ x ∧
  H = upd (upd H0 dx (.own x)) x (.ins (T C) dx []) ∧ Wd T K ρ S Z H0 ∧ RepL T K ρ (Fz ρ Z H0) ds rest ∧ GoodO T K (fun c d _ H' => E c d H') [] Qo ρ Z H0 (M ds S) ∧ ∀ H2, Qo (.ref x) H2 → Q .non H2
structure FI (P : Program) (w : World) (K : PySem.W.Frag) (mg : Str → Option Value) (base : Heap) (T : Str → Addr) (k : Nat) (f : Addr) (fd : FuncData) (ps : List Str) (C : Str) (M : List D → Cm CO) : Prop where
  len : ∀ ds S, ds.length + 1 ≠ ps.length → M ds S = .stuck
  run : ∀ (A : Around) (outer : List PySem.Env) (s : Shared) (H : Hp) (args : Args) (us : List Value) (vs : List V) (Q : VK) (E : XK), Lv k A → Env0 P w K mg base A outer s H → BindsTo s fd args (ps.zip us) → Vals vs us → vs.length = ps.length → spI T K C M vs H Q E →
    codeAny (model P w) A (.call (.ref f) args) (CR (L2.CX P w) outer P w H s Q E) s
/-- what is left of the object: slot 0 -/
def selfOf : Env → Option CO
  | .slf c :: _ => some c
  | _ => none
def mkI (np n : Nat) (C : Str) (F : FS) (ds : List D) : Cm CO := fun S => if ds.length + 1 = np then (match F (.slf (.ins C []) :: (ds.map .val ++ List.replicate (n - np) .un)) S with
  | .ok (.nx e) S' => (match selfOf e with
    | some c => .ok c S'
    | none => .stuck)
  | .ok (.xc _ C' fs) S' => .exc C' fs S'
  | _ => .stuck) else .stuck
def Hid.at (Z : Hid) (x : Addr) : Hid := ⟨fun a => Z a ∨ a = x, x⟩
theorem fi_start {T : Str → Addr} {K : PySem.W.Frag} {ρ : Nat → Option Addr} {S : Sto} {Z : Hid} {H0 H : Hp} {x dx : Addr} {C : Str} {ds : List D} {rest : List V} {N : List Str} (w : Wd T K ρ S Z H0) (hx : H0 x = none) (hd : H0 dx = none) (ne : dx ≠ x)
    (eH : H = upd (upd H0 dx (.own x)) x (.ins (T C) dx [])) (r : RepL T K ρ (Fz ρ Z H0) ds rest) (hl : rest.length + 1 ≤ N.length) :
    ExtS ρ Z Z H0 ρ (Z.at x) H ∧ At T K ρ S ⟨Z.set, x⟩ (Z.at x) H (L2.start N (.ref x :: rest)) (.slf (.ins C []) :: (ds.map .val ++ List.replicate (N.length - (ds.length + 1)) .un)) := by
  obtain ⟨x1, w1, f1⟩ := new_frz (o := .own x) w hd
  have hx1 : upd H0 dx (.own x) x = none := by rw [upd_ne (Ne.symm ne)]; exact hx
  have n := new_neu (c := .ins C []) (o := .ins (T C) dx []) w1 hx1 ⟨dx, [], rfl, rfl⟩
  rw [← eH] at n
  have w2 : Wd T K ρ S (Z.at x) H := ⟨n.w.dom, n.w.cells, n.w.inj, n.w.there⟩
  have fz : Fz ρ (Z.at x) H = Fz ρ (plusZ Z x) H := rfl
  have sub : Sub (Fz ρ Z H0) (Fz ρ (Z.at x) H) := fun a o h => n.frz a o (x1.frz a o h)
  have r2 : RepL T K ρ (Fz ρ (Z.at x) H) ds rest := RepL.mono (fun _ _ h => h) sub _ _ r
  have hv := r.len
  obtain ⟨o, ho, hO⟩ := n.obj
  refine ⟨⟨fun _ _ h => h, sub, fun a z => (n.hid a z).trans (x1.hid a z)⟩, w2, ⟨fun i d h => ?_, fun i c h => ?_, fun i c h => ?_, ?_⟩, fun a z => .inl z, fun i c a h => ?_, fun i j c c' a h => ?_, rfl, fun i c h => n.nz, fun i j c c' a h => ?_, fun i j c c' h1 h2 => ?_⟩
  · cases i with
    | zero => cases h
    | succ i =>
      rw [List.getElem?_cons_succ] at h
      by_cases hi : i < ds.length
      · rw [List.getElem?_append_left (by simpa using hi), List.getElem?_map] at h
        cases e : ds[i]? with
        | none =>
          rw [e] at h
          cases h
        | some d' =>
          rw [e] at h
          cases h
          obtain ⟨v, h1, h2⟩ := r2.get e
          refine ⟨v, ?_, h2⟩
          unfold L2.start
          have hi2 : i < rest.length := (List.getElem?_eq_some_iff.mp h1).1
          rw [List.getElem?_append_left (by simp; omega), List.getElem?_map, List.getElem?_cons_succ, h1]
          rfl
      · rw [List.getElem?_append_right (by simpa using hi), List.getElem?_replicate] at h
        split at h
        · cases h
        · cases h
  · cases i with
    | zero => cases h
    | succ i =>
      rw [List.getElem?_cons_succ] at h
      rcases no_mapped h with e | ⟨d, e⟩ <;> cases e
  · cases i with
    | zero =>
      cases h
      refine ⟨o, ?_, .inr rfl, ho, hO⟩
      unfold L2.start
      rfl
    | succ i =>
      rw [List.getElem?_cons_succ] at h
      rcases no_mapped h with e | ⟨d, e⟩ <;> cases e
  · unfold L2.start
    rw [List.length_cons, List.length_append, List.length_append, List.length_map, List.length_map, List.length_replicate, List.length_replicate, List.length_cons, hv]
    omega
  · cases i with
    | zero => cases h
    | succ i =>
      rw [List.getElem?_cons_succ] at h
      rcases no_mapped h with e | ⟨d, e⟩ <;> cases e
  · cases i with
    | zero => cases h
    | succ i =>
      rw [List.getElem?_cons_succ] at h
      rcases no_mapped h with e | ⟨d, e⟩ <;> cases e
  · cases i with
    | zero => cases h
    | succ i =>
      rw [List.getElem?_cons_succ] at h
      rcases no_mapped h with e | ⟨d, e⟩ <;> cases e
  · have z : ∀ {i : Nat} {c : CO}, (Sl.slf (.ins C []) :: (ds.map Sl.val ++ List.replicate (N.length - (ds.length + 1)) .un))[i]? = some (.slf c) → i = 0 := fun {i c} h => by
      cases i with
      | zero => rfl
      | succ i =>
        rw [List.getElem?_cons_succ] at h
        rcases no_mapped h with e | ⟨d, e⟩ <;> cases e
    rw [z h1, z h2]
section
variable {P : Program} {w : World} {K : PySem.W.Frag} {mg : Str → Option Value} {base : Heap} {T : Str → Addr} {x qual : Str} {params : Arguments} {body : List Stmt} {scope : Scope} {dvs : List V} {kws : List (Str × V)} {f : Addr} {fd : FuncData} {N ps : List Str} {k : Nat}
theorem fi_of {F : FS} {C : Str} (D : FunD K x qual params body scope dvs kws f fd) (Sc : FnScope N ps scope) {np n : Nat} (hnp : np = ps.length) (hn : n = N.length)
    (h : ∀ (cdv : Value) (A : Around) (outer : List PySem.Env) (s : Shared) (H : Hp) (E : XK), Lv k (A.deeper (envOfC qual scope s.heap.objs.size f cdv)) → SFs T (ctx P w K mg base N qual scope f cdv A outer s H E) (fun c d _ H' => E c d H') body F) :
    FI P w K mg base T (k + 1) f fd ps C (mkI np n C F) := by
  subst hnp hn
  refine ⟨fun ds S hne => by unfold mkI; rw [if_neg hne], ?_⟩
  intro A outer s H args us vs Q E lv ev bd rv hlen hq
  refine ft_core D Sc (sp := fun vs H Q E => vs.length = ps.length ∧ spI T K C (mkI ps.length N.length C F) vs H Q E) (fun cdv A outer s H vs Q E lv hq => ⟨_, h cdv A outer s H E lv, ?_⟩) A outer s H args us vs Q E lv ev bd rv hlen ⟨hlen, hq⟩
  obtain ⟨hlen, ρ, S, Z, H0, y, dx, rest, ds, Qo, rfl, hx, hd, ne, eH, w', r, g, fin⟩ := hq
  have hds : ds.length + 1 = ps.length := by
    rw [← hlen, List.length_cons, r.len]
  have hle : rest.length + 1 ≤ N.length := by
    have := congrArg List.length Sc.pre
    rw [List.length_take] at this
    rw [← r.len]
    omega
  obtain ⟨xs, a⟩ := fi_start (N := N) w' hx hd ne eH r hle
  rw [hds] at a
  refine ⟨ρ, S, ⟨Z.set, y⟩, Z.at y, _, a, ?_⟩
  unfold mkI at g
  rw [if_pos hds] at g
  cases hF : F (.slf (.ins C []) :: (ds.map Sl.val ++ List.replicate (N.length - ps.length) .un)) S with
  | stuck =>
    rw [hF] at g
    exact g
  | exc C' fs S' =>
    rw [hF] at g
    exact g
  | ok fl S' =>
    rw [hF] at g
    cases fl with
    | nx e =>
      intro σ' H' ρ' Z' x2 a2
      cases e with
      | nil => exact g.elim
      | cons sl er =>
        cases sl with
        | slf c =>
          refine fin H' (g y H' ρ' ?_)
          obtain ⟨o, e1, e2, e3, e4⟩ := a2.e.slf 0 c rfl
          have me : Z'.me = y := a2.o.me
          have big : ∀ b, plusZ Z y b → Z' b := fun b z => by
            rcases z with z | z
            · exact a2.o.sub b z
            · rw [z, ← me]
              exact e2
          rw [me] at e3
          refine ⟨x2.cells, fun b u q => ?_, fun b z => ?_, a2.w.big big, ?_, o, e3, e4.mono (fun _ _ q => q) (fz_big big)⟩
          · exact fz_big big b u (x2.frz b u (xs.frz b u q))
          · exact (x2.hid b z).trans (xs.hid b z)
          · intro z
            obtain ⟨u, q⟩ := w'.there y z
            rw [hx] at q
            cases q
        | _ => exact g.elim
    | rt d => exact g.elim
    | bk e => exact g.elim
    | ct e => exact g.elim
    | xc e C' fs =>
      intro σ' dx' us' H' ρ' Z' x2 a2 q1 q2
      have big : ∀ b, Z b → Z' b := a2.o.sub
      exact g dx' us' H' ρ' ⟨x2.cells, fun b u q => fz_big big b u (x2.frz b u (xs.frz b u q)), fun b z => (x2.hid b z).trans (xs.hid b z)⟩ (a2.w.big big) (q1.map fun b z => fz_big big b _ z) (RepF.mono (fun _ _ q => q) (fz_big big) _ _ q2)
end
end HT
set_option maxRecDepth 100000
set_option maxHeartbeats 800000
namespace HT
open PySem PySem.Spec L2
open PyProof.Rows hiding St

/-! ### C(..) -/
def oMake (M : List D → Cm CO) (dds : List D) (Fa : Env → Cm (List D)) : Env → Cm CO := fun env S => (Fa env S).bnd fun xs => M (xs ++ dds)
section
variable {T : Str → Addr} {X : Cx} {W : WX} {k : Nat} {f : Addr} {fd : FuncData} {ps : List Str} {C : Str} {M : List D → Cm CO} {dvs : List V} {dsv : List Value} {dds : List D} {x : Str} {p pos : Pos} {e : Expr} {es : List Expr} {Fa : Env → Cm (List D)}
theorem Lv.make {k : Nat} {A : Around} (r : Lv (k + 1) A) (C : Addr) (us : List Value) (kw : List (Str × Value)) : Lv k (A.under (.builtin "type.__call__" ⟨.ref C :: us, kw⟩)) :=
  ⟨r.room.make C us kw, by
    have h := r.gd
    first
      | exact h
      | (simpa [Around.under] using h)⟩
theorem run_fi {pins : List (Addr × Obj)} {σ : St} {H : Hp} {s : Shared} {Q : VK} {us : List Value} {vs : List V} {ρ : Nat → Option Addr} {S : Sto} {Z : Hid} {ds : List D} (Mm : Mk X.K (T C) f) (F : FI X.prog X.w X.K X.mg X.base T k f fd ps C M) (lv : Lv (k + 1) X.A) (hb : Binds X.K fd ps dsv) (hd : Vals dvs dsv) (tk : Takes X W)
    (I : Inv X pins σ H s) (r : Vals vs us) (w : Wd T X.K ρ S Z H) (r2 : RepL T X.K ρ (Fz ρ Z H) ds (vs ++ dvs)) (g : GoodO T X.K W σ Q ρ Z H (M ds S)) : wpAny (model X.prog X.w) X.A (call (.ref (T C)) us) (EP X pins σ Q) X.xe s := by
  have hl : ds.length + 1 = ps.length := Classical.byContradiction fun hne => by
    rw [F.len ds S hne] at g
    exact g
  have I2 := Inv.made (C := T C) I
  have r3 : Vals (V.ref (s.heap.objs.size + 1) :: (vs ++ dvs)) (Value.ref (s.heap.objs.size + 1) :: (us ++ dsv)) := .cons rfl (r.append hd)
  have hlv : (V.ref (s.heap.objs.size + 1) :: (vs ++ dvs)).length = ps.length := by rw [List.length_cons, ← r2.len]; exact hl
  have hl2 : (Value.ref (s.heap.objs.size + 1) :: us ++ dsv).length = ps.length := by
    rw [← hlv]
    exact r3.length.symm
  refine wpAny_call (make_map (f := f) I.kIn Mm.makes Mm.init (beq_iff_eq.mp Mm.fn) (codeAny_mono (F.run _ X.stack _ _ ⟨Value.ref (s.heap.objs.size + 1) :: us, []⟩ (Value.ref (s.heap.objs.size + 1) :: (us ++ dsv)) (V.ref (s.heap.objs.size + 1) :: (vs ++ dvs)) (fun v H2 => v = .non ∧ Q (.ref (s.heap.objs.size + 1)) H2) (WE W σ) (lv.make (T C) us [])
    (I2.env0.make (T C) us []) (hb _ (Value.ref (s.heap.objs.size + 1) :: us) I2.kIn hl2) r3 hlv
    ⟨ρ, S, Z, H, s.heap.objs.size + 1, s.heap.objs.size, _, ds, Q, rfl, I.hok.fresh (Nat.le_succ _), I.hok.fresh (Nat.le_refl _), Nat.ne_of_lt (Nat.lt_succ_self _), rfl, w, r2, ?_, fun H2 q => ⟨rfl, q⟩⟩) fun r s' hq' => ?_))
  · cases hM : M ds S with
    | ok d S' =>
      rw [hM] at g
      exact g
    | exc C fs S' =>
      rw [hM] at g
      exact g
    | stuck =>
      rw [hM] at g
      exact g
  · cases r with
    | error e => exact passAt tk σ pins _ _ e s' I2 hq'
    | ok fl =>
      cases fl with
      | ret u =>
        obtain ⟨v, H', I3, rv, ev, q3⟩ := I2.after hq'
        subst ev
        exact ⟨rv, ⟨V.ref (s.heap.objs.size + 1), H', I3, rfl, q3⟩⟩
      | next => exact False.elim hq'
      | brk => exact False.elim hq'
      | cont => exact False.elim hq'
theorem of_make (Mm : Mk X.K (T C) f) (F : FI X.prog X.w X.K X.mg X.base T k f fd ps C M) (lv : Lv (k + 1) X.A) (hg : Gl X x) (hm : X.mg x = some (.ref (T C))) (hb : Binds X.K fd ps dsv) (hd : Vals dvs dsv) (hD : CsD T X.K dds dvs) (tk : Takes X W)
    (ha : AF T X W (e :: es) Fa) (hdb : (x == ("__debug__" : Str)) = false := by decide) (he : starEach (e :: es) X.env = (false, eval e X.env) :: starEach es X.env := by rfl) (hpl : (backTo pos (starEach es X.env)).any (·.1) = false := by rfl) :
    OF T X W (.Call (.Name x p) (e :: es) [] pos) (oMake M dds Fa) := by
  refine ⟨fun pins s σ H Q I h => ?_⟩
  obtain ⟨ρ, S, Z, env, w, er, g⟩ := h
  refine wpAny_Call_Name_kw (ld_glob I hg hm ?_ hdb)
  refine PySem.W.callWith_K (h₀ := X.base) I.ok.mod.kin Mm.kp (thn (ha.run pos pins s σ H _ I (lift_bndO w er g)) fun us s1 ⟨vs, H1, I1, r, ρ1, S1, ds, x1, w1, e1, r1, g1⟩ => ⟨I1.kIn, ?_⟩) he hpl
  exact run_fi Mm F lv hb hd tk I1 r w1 (r1.app (hD _ _)) g1
end

/-! ### lists are changed -/
/-- cell k is a list -/
def lstAt (S : Sto) (k : Nat) : Option (List D) := match S[k]? with
  | some (.lst ds) => some ds
  | _ => none
def appC (env : Env) (k : Nat) (d : D) (S : Sto) : R Fl := match lstAt S k with
  | some ds => if ds.length < sizeLine then .ok (.nx env) (S.set k (.lst (ds ++ [d]))) else .stuck
  | none => .stuck
/-- xs.append(e), xs a slot -/
def sApp (i : Nat) (F : FE) : FS := fun env S => match env[i]? with
  | some (.own (.lst ds)) => sB env (F env S) fun d S' => if ds.length < sizeLine then .ok (.nx (env.set i (.own (.lst (ds ++ [d]))))) S' else .stuck
  | some (.val (.cell k)) => if (lstAt S k).isSome = true then sB env (F env S) fun d S' => appC env k d S' else .stuck
  | _ => .stuck
/-- e.append(..), e a cell -/
def sAppC (Fo F : FE) : FS := fun env S => sB env (Fo env S) fun o S1 => match o with
  | .cell k => if (lstAt S1 k).isSome = true then sB env (F env S1) fun d S2 => appC env k d S2 else .stuck
  | _ => .stuck
/-- xs[i] = e, xs a cell -/
def putC (env : Env) (d o i : D) : Sto → R Fl := fun S => match o, i with
  | .cell k, .int j => (match lstAt S k with
    | some ds => (match ixN ds.length j with
      | some n => .ok (.nx env) (S.set k (.lst (ds.set n d)))
      | none => .stuck)
    | none => .stuck)
  | _, _ => .stuck
def sPutC (Fe Fo Fi : FE) : FS := fun env S => sB env (Fe env S) fun d S1 => sB env (Fo env S1) fun o S2 => sB env (Fi env S2) fun i S3 => putC env d o i S3
section
variable {T : Str → Addr} {K : PySem.W.Frag} {ρ : Nat → Option Addr} {S : Sto} {Z0 Z : Hid} {H : Hp} {σ : St} {env : Env} {W : WX} {B : Ends}
theorem lstAt_ok (w : Wd T K ρ S Z H) {k : Nat} {ds : List D} (h : lstAt S k = some ds) : S[k]? = some (.lst ds) ∧ ∃ a vs, ρ k = some a ∧ H a = some (.lst vs) ∧ RepL T K ρ (Fz ρ Z H) ds vs := by
  unfold lstAt at h
  cases hk : S[k]? with
  | none =>
    rw [hk] at h
    cases h
  | some c =>
    rw [hk] at h
    cases c with
    | lst es =>
      cases h
      obtain ⟨a, o, h1, h2, h3, h4⟩ := w.cells k _ hk
      obtain ⟨vs, rfl, r⟩ := h4
      exact ⟨rfl, a, vs, h1, h3, r⟩
    | _ => cases h
theorem At.putCell (a : At T K ρ S Z0 Z H σ env) {k : Nat} {p : Addr} {c0 c : CO} {o : HO} (hk : S[k]? = some c0) (hp : ρ k = some p) (h : HObj T K ρ (Fz ρ Z H) c o) : ExtS ρ Z0 Z H ρ Z (upd H p o) ∧ At T K ρ (S.set k c) Z0 Z (upd H p o) σ env := by
  obtain ⟨x, w⟩ := put_cell a.w hk hp h
  exact ⟨x.s a.o.sub, a.ext x w⟩
theorem appC_ok {k : Nat} {d : D} {v : V} {p : Addr} {σ : St} (a : At T K ρ S Z0 Z H σ env) (hp : ρ k = some p) (r : Rep T K ρ (Fz ρ Z H) d v) (g : GoodS T K W B ρ Z0 Z H (appC env k d S)) : rAppend (.ref p) [v] H (fun _ H' => B.nx σ H') := by
  unfold appC at g
  split at g
  · rename_i ds hds
    split at g
    · rename_i hl
      obtain ⟨hk, q, vs, h1, h2, h3⟩ := lstAt_ok a.w hds
      rw [hp] at h1
      cases h1
      obtain ⟨x, a2⟩ := a.putCell (c := .lst (ds ++ [d])) (o := .lst (vs ++ [v])) hk hp ⟨_, rfl, h3.app (RepL.one r)⟩
      exact ⟨p, vs, v, rfl, rfl, h2, by rw [← h3.len]; exact hl, (show GoodF T K W B ρ Z0 Z H _ (.nx env) from g) σ _ ρ Z x a2⟩
    · exact g.elim
  · exact g.elim
end
section
variable {T : Str → Addr} {X : Cx} {W : WX} {x : Str} {i : Nat} {o e : Expr} {Fe Fo Fi : FE} {p apos cpos pos : Pos}
theorem ty_append : typeOf (.builtin "list.append") = pure (.type "method_descriptor") := by
  show builtinType _ = _
  rw [builtinType_eq_fast]
  kernel_rfl
abbrev AppEv (X : Cx) (o e : Expr) (apos cpos pos : Pos) : Prop := attributeBase o "append" X.env (eval o X.env) = eval o X.env ∧
  ((backTo cpos (starEach [e] X.env)).all (fun x => !x.1) && (backToKw cpos (keywordEach [] X.env)).all (fun x => x.1.isSome) && decide ([e].length + ([] : List Keyword).length + (if ([] : List Keyword).isEmpty then 0 else 1) < 30)) = true ∧
  (apos.endLine == cpos.line) = true ∧ starEach [e] X.env = (false, eval e X.env) :: starEach [] X.env ∧ (backTo cpos (starEach [] X.env)).any (·.1) = false ∧
  swapsWith (.Call (.Attribute o "append" apos) [e] [] cpos) none pos.line X.env = pure false
/-- xs.append(e), xs a slot -/
theorem sf_app (hx : PE X (.Name x p) (tVar i)) (he : PF T X W e Fe) (hv : AppEv X (.Name x p) e apos cpos pos := by exact ⟨rfl, rfl, rfl, rfl, rfl, rfl⟩) :
    SF T X W (.Expr (.Call (.Attribute (.Name x p) "append" apos) [e] [] cpos) pos) (sApp i Fe) :=
  ps_imp (ps_expr (pe_bm PySem.F.plainAttrs_list PySem.F.slot_list_append ty_append mt_append hx (pa_cons he pa_nil hv.2.2.2.1) hv.1 hv.2.1 hv.2.2.1 hv.2.2.2.1 hv.2.2.2.2.1) hv.2.2.2.2.2) fun B σ H q => by
    obtain ⟨ρ, S, Z0, Z, env, a, g⟩ := q
    unfold sApp at g
    split at g
    · rename_i ds h0
      obtain ⟨q, ob, h1, h2, h3, vs, rfl, h4⟩ := a.e.own i _ h0
      refine ⟨_, h1, .inl ⟨rfl, vs, SqL.of h3⟩, lift_imp (lift_sB a g) fun v H1 ⟨ρ1, S1, d, x1, a1, r1, g1⟩ => ?_⟩
      split at g1
      · rename_i hl
        obtain ⟨q', ob', h1', h2', h3', vs', rfl, h4'⟩ := a1.e.own i _ h0
        rw [h1] at h1'
        cases h1'
        obtain ⟨xs, as⟩ := a1.putOwn (c := .lst (ds ++ [d])) (o := .lst (vs' ++ [v])) h0 h1 ⟨_, rfl, h4'.app (RepL.one r1)⟩
        exact ⟨q, vs', v, rfl, rfl, h3', by rw [← h4'.len]; exact hl, (show GoodF T X.K W B ρ1 Z0 Z H1 S1 (.nx _) from g1) σ _ ρ1 Z xs as⟩
      · exact g1.elim
    · rename_i k h0
      split at g
      · rename_i hs
        obtain ⟨v0, h1, q, rfl, hq⟩ := a.e.val i _ h0
        obtain ⟨ds, hds⟩ := Option.isSome_iff_exists.mp hs
        obtain ⟨hk, q', vs, e1, e2, e3⟩ := lstAt_ok a.w hds
        rw [hq] at e1
        cases e1
        refine ⟨_, h1, .inl ⟨rfl, vs, SqL.of e2⟩, lift_imp (lift_sB a g) fun v H1 ⟨ρ1, S1, d, x1, a1, r1, g1⟩ => ?_⟩
        exact appC_ok a1 (x1.cells _ _ hq) r1 g1
      · exact g.elim
    · exact g.elim
/-- o.append(e), o a cell -/
theorem sf_appC (ho : PF T X W o Fo) (he : PF T X W e Fe) (hv : AppEv X o e apos cpos pos := by exact ⟨rfl, rfl, rfl, rfl, rfl, rfl⟩) :
    SF T X W (.Expr (.Call (.Attribute o "append" apos) [e] [] cpos) pos) (sAppC Fo Fe) :=
  ps_imp (ps_expr (pe_bm PySem.F.plainAttrs_list PySem.F.slot_list_append ty_append mt_append ho (pa_cons he pa_nil hv.2.2.2.1) hv.1 hv.2.1 hv.2.2.1 hv.2.2.2.1 hv.2.2.2.2.1) hv.2.2.2.2.2) fun B σ H q => by
    obtain ⟨ρ, S, Z0, Z, env, a, g⟩ := q
    unfold sAppC at g
    refine lift_imp (lift_sB a g) fun u H1 ⟨ρ1, S1, d1, x1, a1, r1, g1⟩ => ?_
    split at g1
    · rename_i k
      split at g1
      · rename_i hs
        obtain ⟨q, rfl, hq⟩ := r1
        obtain ⟨ds, hds⟩ := Option.isSome_iff_exists.mp hs
        obtain ⟨hk, q', vs, e1, e2, e3⟩ := lstAt_ok a1.w hds
        rw [hq] at e1
        cases e1
        refine ⟨.inl ⟨rfl, vs, SqL.of e2⟩, lift_imp (lift_sB a1 g1) fun v H2 ⟨ρ2, S2, d2, x2, a2, r2, g2⟩ => ?_⟩
        exact appC_ok a2 (x2.cells _ _ hq) r2 g2
      · exact g1.elim
    · exact g1.elim
/-- o[i] = e, o a cell -/
theorem sf_putC (he : PF T X W e Fe) (ho : PF T X W o Fo) {ie : Expr} (hi : PF T X W ie Fi) {tpos : Pos}
    (ha : ∀ v, assign (.Subscript o ie tpos) X.env v = (holding [v] (eval o X.env) >>= fun ov => holding [v, ov] (eval ie X.env) >>= fun iv => standAt tpos >>= fun _ => holding [v, ov, iv] (setItem ov iv v) >>= fun _ => release [v, ov, iv] []) := by intro _; rfl)
    (hs : swapsWithSole [.Subscript o ie tpos] e pos.line X.env = pure false := by rfl) (hw : swappedStores [.Subscript o ie tpos] e X.env = pure none := by rfl) (h1 : (assignEach [.Subscript o ie tpos] X.env).map (·.2) = [assign (.Subscript o ie tpos) X.env] := by rfl) :
    SF T X W (.Assign [.Subscript o ie tpos] e pos) (sPutC Fe Fo Fi) := ps_imp (ps_asg he (pg_sub ho hi set_list ha) hs hw h1) fun B σ H q => by
  obtain ⟨ρ, S, Z0, Z, env, a, g⟩ := q
  unfold sPutC at g
  refine lift_imp (lift_sB a g) fun v H1 ⟨ρ1, S1, d1, x1, a1, r1, g1⟩ => ?_
  refine lift_imp (lift_sB a1 g1) fun u H2 ⟨ρ2, S2, d2, x2, a2, r2, g2⟩ => ?_
  refine lift_imp (lift_sB a2 g2) fun y H3 ⟨ρ3, S3, d3, x3, a3, r3, g3⟩ => ?_
  have rv := (x2.trans x3).rep r1
  have ru := x3.rep r2
  cases d2 with
  | cell k =>
    cases d3 with
    | int j =>
      unfold putC at g3
      dsimp only at g3
      obtain ⟨p, rfl, hp⟩ := ru
      have ey : y = .int j := r3
      subst ey
      split at g3
      · rename_i ds hds
        split at g3
        · rename_i n hn
          obtain ⟨hk, q', vs, e1, e2, e3⟩ := lstAt_ok a3.w hds
          rw [hp] at e1
          cases e1
          obtain ⟨x4, a4⟩ := a3.putCell (c := .lst (ds.set n d1)) (o := .lst (vs.set n v)) hk hp ⟨_, rfl, e3.set n rv⟩
          exact ⟨p, vs, j, n, rfl, rfl, e2, by rw [← e3.len]; exact hn, (show GoodF T X.K W B ρ3 Z0 Z H3 _ (.nx env) from g3) σ _ ρ3 Z x4 a4⟩
        · exact g3.elim
      · exact g3.elim
    | _ => exact g3.elim
  | _ => exact g3.elim
end
end HT
set_option maxRecDepth 100000
set_option maxHeartbeats 800000
namespace HT
open PySem PySem.Spec L2
open PyProof.Rows hiding St

/-! ### the law's call -/
section
variable {P : Program} {w : World} {K : PySem.W.Frag} {mg mb : Str → Option Value} {T : Str → Addr} {k : Nat} {fa a : Addr} {fd : FuncData} {x : Str} {M : List D → Cm D} {s1 : Shared} {vs : List Value} {ns : List Int}
/-- from one abstract heap that tracks the script alone, or nothing -/
theorem law_core (H : Hp) (KX : K.In s1.heap) (hns : s1.heap.Ns mainGlobals mg) (hb : s1.heap.Ns builtinsNs mb) (hbb : ∀ y : Str, y ≠ "__name__" → mb y = bootBuiltins y) (hlim : s1.heap.NoLimit) (hg : s1.gens = #[])
    (ha : s1.heap.get? a = some { cls := .type "list", data := .seq vs.toArray }) (lv : Lv k callerA) (F : ∀ base : Heap, K.In base → base.Ns mainGlobals mg → FT P w K mg base T k fa fd [x] M) (hbind : ∀ (s : Shared) (u : Value), BindsTo s fd ⟨[u], []⟩ [(x, u)])
    (hO : Only H) (hS : SqL K H a (ns.map V.int)) (hok : HOk P w H s1.heap) (hA : ∀ b, H b ≠ none → b = a) (hK : H a ≠ none → K.lookup a = none) (hM : ∃ S', M [.klst (ns.map .int)] [] = .ok (.bl true) S') :
    codeAny (model P w) callerA (.call (.ref fa) ⟨[.ref a], []⟩) (fun r s' => r = .ok (.ret (.bool true)) ∧ OldK s1.heap s'.heap ∧ s'.os = s1.os ∧ AllBare s'.gens) s1 := by
  have at_a : ∀ {b : Addr} {u : HO}, H b = some u → b = a := fun {b u} q => hA b (by rw [q]; exact fun z => nomatch z)
  have noA : ∀ {b : Addr} {o : Obj} {es : Array DictEntry} {ep : Nat}, s1.heap.get? b = some o → o.data = .dict es ep → H b = none := fun {b o es ep} e d => by
    cases q : H b with
    | none => rfl
    | some u =>
      rw [at_a q, ha] at e
      have e2 := Option.some.inj e
      rw [← e2] at d
      cases d
  have nsK : ∀ {b : Addr} {m : Str → Option Value}, s1.heap.Ns b m → (hidT s1.heap H).Ns b m := fun {b m} z => by
    obtain ⟨o, es, ep, e, d, r⟩ := z
    exact ⟨o, es, ep, hidT_get e (noA e d), d, r⟩
  have hKb : K.In (hidT s1.heap H) := fun b o e => hidT_get (KX b o e) (by
    cases q : H b with
    | none => rfl
    | some u =>
      have e2 := at_a q
      rw [e2] at q e
      rw [hK (by rw [q]; exact fun z => nomatch z)] at e
      cases e)
  obtain ⟨mc, l1, l2⟩ := hlim
  have e0 : Env0 P w K mg (hidT s1.heap H) callerA [] s1 H := ⟨rfl, ⟨hKb, nsK hns, ⟨mb, nsK hb, hbb⟩, ⟨mc, nsK l1, l2⟩⟩, fun b o e => of_hidT e, Nat.le_of_eq (hidT_size _ _), trivial, fun b z => absurd (show b ∈ ([] : List Addr) from z) (by simp), hok, .of_eq hg⟩
  obtain ⟨S', hM⟩ := hM
  have rep : ∀ ρ Z, (∀ b, ¬ Z b) → (∀ j, ρ j = none) → RepL T K ρ (Fz ρ Z H) [.klst (ns.map .int)] [.ref a] := fun ρ Z z r => by
    refine RepL.one ⟨a, ns.map V.int, rfl, ?_, ?_⟩
    · have e : Fz ρ Z H = H := by
        funext b
        unfold Fz
        rw [if_neg]
        rintro (q | ⟨j, q⟩)
        · exact z b q
        · rw [r j] at q
          cases q
      rw [e]
      exact hS
    · refine RepL.of_all (by simp) fun i d v h1 h2 => ?_
      rw [List.getElem?_map] at h1 h2
      cases e : ns[i]? with
      | none =>
        rw [e] at h1
        cases h1
      | some n =>
        rw [e] at h1 h2
        cases h1
        cases h2
        exact rfl
  have w0 : Wd T K (fun _ => none) [] ⟨fun _ => False, 0⟩ H := by
    refine ⟨?_, ?_, ?_, ?_⟩
    · intro j b q
      cases q
    · intro j c q
      cases q
    · intro i j b q _
      cases q
    · intro b z
      exact False.elim z
  have sp : spT T K M [.ref a] H (fun v _ => v = .bl true) (fun _ _ _ => False) := by
    refine ⟨fun _ => none, [], ⟨fun _ => False, 0⟩, [.klst (ns.map .int)], w0, rep _ _ (fun b z => z) (fun j => rfl), ?_⟩
    rw [hM]
    exact fun v H' ρ' _ _ q => q
  refine codeAny_mono ((F _ hKb (nsK hns)).run callerA [] s1 H ⟨[.ref a], []⟩ [.ref a] [.ref a] (fun v _ => v = .bl true) (fun _ _ _ => False) lv e0 (hbind s1 (.ref a)) (.cons rfl .nil) rfl sp) fun r s' h => ?_
  cases r with
  | error e =>
    obtain ⟨_, _, _, _, _, _, _, _, _, _, _, _, z⟩ := h
    exact z.elim
  | ok fl =>
    cases fl with
    | next => exact False.elim h
    | brk => exact False.elim h
    | cont => exact False.elim h
    | ret u =>
      obtain ⟨v, H', os, bare, un, hok', r', q⟩ := h
      have q' : v = .bl true := q
      subst q'
      have eu : u = Value.bool true := r'
      subst eu
      refine ⟨rfl, OldK.of_keep fun b o e => ?_, os, bare⟩
      cases q : H b with
      | none => exact un.keep b o e q (by intro z; exact absurd (show b ∈ ([] : List Addr) from z) (by simp)) (by simp)
      | some u =>
        rcases hO b with z | ⟨ob, xs, z⟩
        · rw [q] at z
          cases z
        · obtain ⟨e1, _⟩ := hok b _ z
          obtain ⟨e2, _⟩ := hok' b _ (un.frzs b ob _ z)
          rw [e] at e1
          rw [Option.some.inj e1]
          exact e2
theorem law_callT (KX : K.In s1.heap) (hns : s1.heap.Ns mainGlobals mg) (hb : s1.heap.Ns builtinsNs mb) (hbb : ∀ y : Str, y ≠ "__name__" → mb y = bootBuiltins y) (hlim : s1.heap.NoLimit) (hg : s1.gens = #[])
    (ha : s1.heap.get? a = some { cls := .type "list", data := .seq vs.toArray }) (hi : IntsAre vs ns) (hl : ns.length ≤ sizeLine) (lv : Lv k callerA) (F : ∀ base : Heap, K.In base → base.Ns mainGlobals mg → FT P w K mg base T k fa fd [x] M)
    (hbind : ∀ (s : Shared) (u : Value), BindsTo s fd ⟨[u], []⟩ [(x, u)]) (hM : ∃ S', M [.klst (ns.map .int)] [] = .ok (.bl true) S') :
    codeAny (model P w) callerA (.call (.ref fa) ⟨[.ref a], []⟩) (fun r s' => r = .ok (.ret (.bool true)) ∧ OldK s1.heap s'.heap ∧ s'.os = s1.os ∧ AllBare s'.gens) s1 := by
  have rv := vals_ints hi
  cases hk : K.lookup a with
  | some o =>
    have e := KX a o hk
    rw [ha] at e
    have e2 := Option.some.inj e
    subst e2
    exact law_core (ns := ns) (fun _ => none) KX hns hb hbb hlim hg ha lv F hbind (fun _ => .inl rfl) (.inr ⟨_, vs.toArray, _, hk, rfl, rfl, rfl, by rw [List.size_toArray, hi.length]; exact hl, by simpa using rv⟩) (fun b u z => nomatch z) (fun b z => absurd rfl z) (fun z => absurd rfl z) hM
  | none =>
    have at1 : ∀ b u, (if b = a then some (HO.frz { cls := .type "list", data := .seq vs.toArray } (.lst (ns.map V.int))) else none) = some u → b = a ∧ u = HO.frz { cls := .type "list", data := .seq vs.toArray } (.lst (ns.map V.int)) := fun b u z => by
      split at z
      · exact ⟨by assumption, (Option.some.inj z).symm⟩
      · cases z
    refine law_core (ns := ns) (fun b => if b = a then some (.frz { cls := .type "list", data := .seq vs.toArray } (.lst (ns.map V.int))) else none) KX hns hb hbb hlim hg ha lv F hbind (fun b => ?_) (.inl (.inr ⟨{ cls := .type "list", data := .seq vs.toArray }, if_pos rfl⟩)) (fun b u z => ?_) (fun b z => ?_) (fun _ => hk) hM
    · by_cases hb : b = a
      · exact .inr ⟨_, _, if_pos hb⟩
      · exact .inl (if_neg hb)
    · obtain ⟨rfl, rfl⟩ := at1 b u z
      exact ⟨ha, by rw [List.length_map]; exact hl, vs, _, rv, ha⟩
    · by_cases hb : b = a
      · exact hb
      · exact absurd (if_neg hb) z
end
/-- a law: the goal that a head leaves -/
theorem walk_T {l : PySem.W.OpenLaw} {n k : Nat} {q : Program} {loose : List Str} {XP : (Str → Option Value) → Heap → Prop} {YP : World → Heap → Prop} {d : DefRec} {x : Str} (hn : l.most = some n) (hn2 : n ≤ sizeLine) (hdf : d.params.defaults = []) (lv : Lv k callerA)
    (F : ∀ (w : World) (mg : Str → Option Value) (fa : Addr) (h : Heap), YP w h → h.Ns mainGlobals mg → mg d.name = some (.ref fa) →
      ∃ (K : PySem.W.Frag) (fd : FuncData) (T : Str → Addr) (M : List D → Cm D), K.In h ∧ (∀ (s : Shared) (u : Value), BindsTo s fd ⟨[u], []⟩ [(x, u)]) ∧ (∀ ns : List Int, ns.length ≤ n → ∃ S', M [.klst (ns.map .int)] [] = .ok (.bl true) S') ∧
        ∀ base : Heap, K.In base → base.Ns mainGlobals mg → FT l.prog w K mg base T k fa fd [x] M) : PySem.W.WalkO q loose XP YP l.row.toRowW d [] (fun f vs => PySem.call f vs) :=
  Att.attach_call hn hdf fun w s0 s1 mg mb fa o pm cd doc a vs ns G Y ho hd hcd hmg hobj hints hlen hg => by
    obtain ⟨K, fd, T, M, KX, hb, hM, hF⟩ := F w mg fa _ Y G.T.g hmg
    exact law_callT KX G.T.g G.T.b G.T.builtins G.T.nolimit hg hobj hints (Nat.le_trans hlen hn2) lv hF hb (hM ns hlen)
end HT
set_option maxRecDepth 100000
set_option maxHeartbeats 800000
namespace HT
open PySem PySem.Spec L2
open PyProof.Rows hiding St
open PySem.SeqAt AutoSeq1 MeetsSeq MeetsSeq2 MeetsSeq3 SeqRoads2

/-! ### own == -/
/-- a builtin's == declines an own object -/
def Declines (prog : Program) (w : World) (s : Shared) (a : Value) (y : Addr) (Tn id : String) : Prop :=
  ∀ (A : Around) (E : Value → Shared → Prop) (Q : Value → Shared → Prop), A.units < cLine → Q .notImplemented s → wpAny (model prog w) A (call (.builtin id) [a, .ref y]) Q E s
section
variable {prog : Program} {w : World} {A : Around} {E : Value → Shared → Prop} {s : Shared} {K : PySem.W.Frag} {y C : Addr} {oy : Obj} {od : Option Obj} {Q : Value → Shared → Prop}
theorem own_isn (X : K.In s.heap) (I : PySem.W.InstAt s.heap y oy C od) {Tn : String} (h : PySem.W.subIn K (.ref C) (.type Tn) = some false) : PySem.W.Looks (model prog w) s.heap (isInstance (.ref y) (.type Tn)) false := I.type.andThen (PySem.W.looks_subIn X h)
abbrev DecQ (s : Shared) : Fin → Shared → Prop := fun f s' => f = .done (.ret .notImplemented) ∧ s' = s
theorem dec_none : wpAny (model prog w) A (Builtin.«NoneType.__eq__» ⟨[.none, .ref y], []⟩) (DecQ s) E s := by
  obtain ⟨hp, g, d, tk, os⟩ := s
  wp_walk
  exact ⟨rfl, rfl⟩
theorem dec_int {i : Int} {t : Tok} {dx : Addr} (hy : s.heap.get? y = some (PySem.W.instObj C dx)) : wpAny (model prog w) A (Builtin.«int.__eq__» ⟨[.int i t, .ref y], []⟩) (DecQ s) E s := by
  obtain ⟨hp, g, d, tk, os⟩ := s
  wp_walk using wpAny_load hy
  exact ⟨rfl, rfl⟩
theorem dec_bool {b : Bool} {dx : Addr} (hy : s.heap.get? y = some (PySem.W.instObj C dx)) : wpAny (model prog w) A (Builtin.«int.__eq__» ⟨[.bool b, .ref y], []⟩) (DecQ s) E s := by
  obtain ⟨hp, g, d, tk, os⟩ := s
  wp_walk using wpAny_load hy
  exact ⟨rfl, rfl⟩
theorem dec_str {x : Str} {t : Tok} {dx : Addr} (hy : s.heap.get? y = some (PySem.W.instObj C dx)) : wpAny (model prog w) A (Builtin.«str.__eq__» ⟨[.str x t, .ref y], []⟩) (DecQ s) E s := by
  obtain ⟨hp, g, d, tk, os⟩ := s
  wp_walk using wpAny_load hy
  exact ⟨rfl, rfl⟩
theorem dec_list {l : Addr} (hin : PySem.W.Looks (model prog w) s.heap (isInstance (.ref y) (.type "list")) false) : wpAny (model prog w) A (Builtin.«list.__eq__» ⟨[.ref l, .ref y], []⟩) (DecQ s) E s := by
  obtain ⟨hp, g, d, tk, os⟩ := s
  wp_walk using hin.at
  exact ⟨rfl, rfl⟩
theorem dec_tuple {l : Addr} (hin : PySem.W.Looks (model prog w) s.heap (isInstance (.ref y) (.type "tuple")) false) : wpAny (model prog w) A (Builtin.«tuple.__eq__» ⟨[.ref l, .ref y], []⟩) (DecQ s) E s := by
  obtain ⟨hp, g, d, tk, os⟩ := s
  wp_walk using hin.at
  exact ⟨rfl, rfl⟩
theorem dec_dict {l : Addr} (hin : PySem.W.Looks (model prog w) s.heap (isInstance (.ref y) (.type "dict")) false) : wpAny (model prog w) A (Builtin.«dict.__eq__» ⟨[.ref l, .ref y], []⟩) (DecQ s) E s := by
  obtain ⟨hp, g, d, tk, os⟩ := s
  wp_walk using hin.at
  exact ⟨rfl, rfl⟩
end
section
variable {prog : Program} {w : World} {A : Around} {E : Value → Shared → Prop} {s : Shared} {K : PySem.W.Frag} {y x C f : Addr} {oy ox : Obj} {od odx : Option Obj} {Q : Value → Shared → Prop}
/-- y's own == is asked -/
theorem try_own (X : K.In s.heap) (I : PySem.W.InstAt s.heap y oy C od) (hs : PySem.W.findIn K (.ref C) "__eq__" = some (some (.ref f))) (hf : PySem.W.isFn K (.ref f) = true) {b : Value} {Q : Option Value → Shared → Prop}
    (h : wpAny (model prog w) A (call (.ref f) [.ref y, b]) (fun v s' => ∃ r, v = .bool r ∧ Q (some (.bool r)) s') E s) : wpAny (model prog w) A (tryCompare (.ref y) "__eq__" b) Q E s := by
  unfold tryCompare
  refine wpAny_bind (PySem.W.ifBound_K X I hs hf (wpAny_mono h (fun v s' hv => ?_) fun _ _ e => e))
  obtain ⟨r, rfl, q⟩ := hv
  exact wpAny_pure q
theorem rc_refl {a : Value} {Ta ida : String} {B : Builtin} (hu : A.units < cLine) (X : K.In s.heap) (I : PySem.W.InstAt s.heap y oy C od) (ha : s.TypeIs a Ta) (hsub : PySem.W.subIn K (.ref C) (.type Ta) = some false) (h1 : Slot Ta (cmpInfo .Eq).2.1 ida) (entry : entryFor table ida = some B) (args : argsOk ida ⟨[a, .ref y], []⟩)
    (hdec : wpAny (model prog w) A.in1 (B ⟨[a, .ref y], []⟩) (DecQ s) (fun e s' => E e s') s) (hs : PySem.W.findIn K (.ref C) "__eq__" = some (some (.ref f))) (hf : PySem.W.isFn K (.ref f) = true)
    (h : wpAny (model prog w) A (call (.ref f) [.ref y, a]) (fun v s' => ∃ r, v = .bool r ∧ Q (.bool r) s') E s) : wpAny (model prog w) A (richCompare .Eq a (.ref y)) Q E s := by
  rcases hi : cmpInfo CmpOp.Eq with ⟨sym, fn, rn⟩
  have e1 : fn = "__eq__" := by
    have := congrArg (fun z => z.2.1) hi
    exact this.symm
  have e2 : rn = "__eq__" := by
    have := congrArg (fun z => z.2.2) hi
    exact this.symm
  rw [hi] at h1
  simp only [richCompare, hi, ha.oneThing_none]
  refine wpAny_holding (wpAny_bind (wpAny_cRoomFor hu ?_))
  refine wpAny_bind (wpAny_typeOf ha (wpAny_bind (I.type.here ?_)))
  have hne : (Value.type Ta != Value.ref C) = true := rfl
  simp only [hne, if_true]
  refine wpAny_bind ((PySem.W.looks_subIn X hsub).here ?_)
  simp only [Bool.false_eq_true, if_false, Bool.not_false, if_true]
  refine wpAny_bind (m := tryCompare a _ (.ref y)) (wpAny_tryCompare_declines ha h1 (GQ.call_here h1 ha entry args (wpAny_mono hdec (fun fl s' q => ?_) fun _ _ e => e)))
  obtain ⟨rfl, rfl⟩ := q
  refine ⟨rfl, ?_⟩
  subst e2
  refine wpAny_bind (m := tryCompare (.ref y) _ a) (try_own X I hs hf (wpAny_mono h (fun v s' q => ?_) fun _ _ e => e))
  obtain ⟨r, rfl, q⟩ := q
  exact ⟨r, rfl, wpAny_pure q⟩
/-- != of two own objects, by == -/
theorem rc_ne (hu : A.units + 1 < cLine) (X : K.In s.heap) (I : PySem.W.InstAt s.heap x ox C odx) {b tb : Value} (hb : PySem.W.Looks (model prog w) s.heap (typeOf b) tb) (hn : PySem.W.notFirst K C tb = true) (hne : PySem.W.findIn K (.ref C) "__ne__" = some (some (.builtin "object.__ne__"))) (hob : PySem.W.mroIn K C (.type "object") = some true)
    (hs : PySem.W.findIn K (.ref C) "__eq__" = some (some (.ref f))) (hf : PySem.W.isFn K (.ref f) = true) (h : wpAny (model prog w) A.in1 (call (.ref f) [.ref x, b]) (fun v s' => ∃ r, v = .bool r ∧ Q (.bool (!r)) s') E s) : wpAny (model prog w) A (richCompare .NotEq (.ref x) b) Q E s := by
  have one : wpAny (model prog w) A (tryCompare (.ref x) "__ne__" b) (fun r s' => ∃ v, r = some v ∧ Q v s') E s := by
    have SF := F.cmp_object.ne
    have sub : PySem.W.Looks (model prog w) s.heap (isInstance (.ref x) (.type "object")) true := I.type.andThen (PySem.W.looks_mroIn X hob)
    have run : wpAny (model prog w) A (call (.builtin "object.__ne__") [.ref x, b]) (fun v s' => ∃ r, v = .bool r ∧ Q (.bool r) s') E s := by
      refine wpAny_call (codeAny_call_builtin SF.plain F.cmpEntry_ne (PySem.W.check_slot F.cmpKind_ne F.cmpSplit_ne sub (F.cmpArgs_ne _ _) ?_))
      unfold Builtin.«object.__ne__»
      repeat (first
        | with_reducible refine wpAny_cRoomFor (show A.in1.units < cLine from hu) ?_
        | (refine wpAny_bind (m := callSpecialIfBound? (.ref x) (Str.ofString "__eq__") [b]) (PySem.W.ifBound_K X I hs hf (wpAny_mono h (fun v s' hv => ?_) fun _ _ e => e)))
        | wp_step)
      obtain ⟨r, rfl, q⟩ := hv
      repeat (first | exact ⟨_, rfl, q⟩ | exact wpAny_truthy_bool q | (refine wpAny_bind (m := truthy (.bool _)) (wpAny_truthy_bool ?_)) | wp_step)
    unfold tryCompare
    refine wpAny_bind ?_
    simp only [callSpecialIfBound?, bindSpecialIfBound?]
    refine wpAny_holding (wpAny_bind (wpAny_bind (wpAny_bind (I.type.here ((PySem.W.looks_findIn X hne).here ?_)))))
    refine wpAny_bind (wpAny_askSetting (wpAny_ite ?_))
    have fin : wpAny (model prog w) A (call (.builtin "object.__ne__") ([.ref x] ++ [b]) >>= fun v => pure (some v)) (fun a s' => wpAny (model prog w) A (match a with | some .notImplemented | none => pure none | some v => pure (some v)) (fun r s' => ∃ v, r = some v ∧ Q v s') E s') E s := wpAny_bind (wpAny_mono run (fun v s' h' => wpAny_pure (by
      obtain ⟨r, rfl, q⟩ := h'
      exact wpAny_pure ⟨_, rfl, q⟩)) fun _ _ h' => h')
    split
    · exact wpAny_bind (wpAny_of_eq (SF.bind (.ref x)) (wpAny_pure (by exact fin)))
    · exact wpAny_tryCatch (wpAny_bind (wpAny_of_eq (SF.bind (.ref x)) (wpAny_pure (by exact fin))))
  unfold richCompare
  simp only [oneThing_ref]
  refine wpAny_holding (wpAny_bind (wpAny_cRoomFor (Nat.lt_of_succ_lt hu) ?_))
  refine wpAny_bind (I.type.here (wpAny_bind (hb.here ?_)))
  split
  · rename_i q
    have e : PySem.W.subIn K tb (.ref C) = some false := by
      rcases Bool.or_eq_true_iff.mp hn with e | e
      · rw [beq_iff_eq.mp e] at q
        simp at q
      · exact beq_iff_eq.mp e
    refine wpAny_bind ((PySem.W.looks_subIn X e).here ?_)
    simp only [Bool.false_eq_true, if_false]
    refine wpAny_bind (wpAny_mono one (fun r s' z => ?_) fun _ _ e => e)
    obtain ⟨v, rfl, hq⟩ := z
    exact wpAny_pure hq
  · refine wpAny_bind (wpAny_pure ?_)
    simp only [Bool.false_eq_true, if_false]
    refine wpAny_bind (wpAny_mono one (fun r s' z => ?_) fun _ _ e => e)
    obtain ⟨v, rfl, hq⟩ := z
    exact wpAny_pure hq
end
end HT
set_option maxRecDepth 100000
set_option maxHeartbeats 800000
namespace HT
open PySem PySem.Spec L2
open PyProof.Rows hiding St

/-! ### == of own objects, as an operation -/
/-- what a class with an own == must say -/
structure EqC (K : PySem.W.Frag) (C f : Addr) : Prop where
  hs : PySem.W.findIn K (.ref C) "__eq__" = some (some (.ref f))
  hf : PySem.W.isFn K (.ref f) = true
  ne : PySem.W.findIn K (.ref C) "__ne__" = some (some (.builtin "object.__ne__"))
  ob : PySem.W.mroIn K C (.type "object") = some true
  sub : ∀ n ∈ ["NoneType", "bool", "int", "str", "list", "tuple", "dict"], PySem.W.subIn K (.ref C) (.type n) = some false
  nf : ∀ n ∈ ["NoneType", "bool", "int", "str", "list", "tuple", "dict"], PySem.W.notFirst K C (.type n) = true
def Rn (T : Str → Addr) (K : PySem.W.Frag) (M : List D → Cm D) (vs : List V) (H : Hp) (Q : VK) : Prop := spT T K M vs H Q (fun _ _ _ => False)
/-- what stands beside an own object in ==: a builtin's value, another one of the class -/
inductive Side (K : PySem.W.Frag) (H : Hp) (C : Addr) : V → Prop where
  | b {x : V} {n : String} (h : TyX K H x (.type n)) (hn : n ∈ ["NoneType", "bool", "int", "str", "list", "tuple", "dict"]) : Side K H C x
  | own {a dx : Addr} {fs : List (Str × V)} (h : H a = some (.ins C dx fs)) : Side K H C (.ref a)
def rEqO (T : Str → Addr) (K : PySem.W.Frag) (C : Addr) (M : List D → Cm D) : R2 := fun x y H Q => ∃ a dx fs, x = .ref a ∧ H a = some (.ins C dx fs) ∧ Side K H C y ∧ Rn T K M [x, y] H (fun v H' => ∃ b, v = .bl b ∧ Q (.bl b) H')
def rNeO (T : Str → Addr) (K : PySem.W.Frag) (C : Addr) (M : List D → Cm D) : R2 := fun x y H Q => ∃ a dx fs, x = .ref a ∧ H a = some (.ins C dx fs) ∧ Side K H C y ∧ Rn T K M [x, y] H (fun v H' => ∃ b, v = .bl b ∧ Q (.bl (!b)) H')
def rEqR (T : Str → Addr) (K : PySem.W.Frag) (C : Addr) (M : List D → Cm D) : R2 := fun x y H Q => ∃ a dx fs n, y = .ref a ∧ H a = some (.ins C dx fs) ∧ TyX K H x (.type n) ∧ n ∈ ["NoneType", "bool", "int", "str", "list", "tuple", "dict"] ∧ Rn T K M [y, x] H (fun v H' => ∃ b, v = .bl b ∧ Q (.bl b) H')
section
variable {T : Str → Addr} {X : Cx} {C f : Addr} {fd : FuncData} {ps : List Str} {M : List D → Cm D} {k : Nat} {pins : List (Addr × Obj)} {σ : St} {H : Hp} {s : Shared}
theorem Lv.in1 {k : Nat} {A : Around} (r : Lv (k + 1) A) : Lv k A.in1 := ⟨r.room.in1, r.gd⟩
theorem run_eq {A : Around} {Q : VK} {us : List Value} {vs : List V} {R : Value → Shared → Prop} (F : FT X.prog X.w X.K X.mg X.base T k f fd ps M) (lv : Lv k A) (hb : Binds X.K fd ps []) (I : Inv X pins σ H s) (e0 : Env0 X.prog X.w X.K X.mg X.base A X.stack s H) (r : Vals vs us) (sp : Rn T X.K M vs H Q)
    (hR : ∀ u s', EP X pins σ Q u s' → R u s') : wpAny (model X.prog X.w) A (call (.ref f) us) R X.xe s := by
  have hl : vs.length = ps.length := Classical.byContradiction fun hne => by
    obtain ⟨ρ, S, Z, ds, w, r2, g⟩ := sp
    rw [F.len ds S (by rw [r2.len]; exact hne)] at g
    exact g
  have hb2 := hb s us I.kIn (by rw [List.append_nil, ← r.length]; exact hl)
  rw [List.append_nil] at hb2
  refine wpAny_call (codeAny_mono (F.run A X.stack s H ⟨us, []⟩ us vs Q (fun _ _ _ => False) lv e0 hb2 r hl sp) fun rr s' hq => ?_)
  cases rr with
  | error e =>
    obtain ⟨_, _, _, _, _, _, _, _, _, _, _, _, z⟩ := hq
    exact z.elim
  | ok fl =>
    cases fl with
    | ret u => exact hR u s' (I.after hq)
    | next => exact False.elim hq
    | brk => exact False.elim hq
    | cont => exact False.elim hq
theorem side_ty (ec : EqC X.K C f) (I : Inv X pins σ H s) {x : V} {u : Value} (r : RelV x u) (h : Side X.K H C x) : ∃ t, PySem.W.Looks (model X.prog X.w) s.heap (typeOf u) t ∧ PySem.W.notFirst X.K C t = true := by
  cases h with
  | b ty hn =>
    obtain ⟨P, Z, p, _⟩ := kit_of I r ty
    exact ⟨_, Z.ty _ _ I.kIn p, ec.nf _ hn⟩
  | own h =>
    obtain ⟨mA, O, _⟩ := ins_get I.hok h
    obtain ⟨od, J, _⟩ := O.look
    cases r
    exact ⟨_, J.type, by simp [PySem.W.notFirst]⟩
theorem op_eqO (ec : EqC X.K C f) (F : FT X.prog X.w X.K X.mg X.base T k f fd ps M) (lv : Lv k X.A) (hb : Binds X.K fd ps []) : OpR X (compareOp .Eq) (rEqO T X.K C M) := by
  intro pins s σ H x y v u Q I rx ry h
  obtain ⟨a, dx, fs, rfl, ha, sd, sp⟩ := h
  cases rx
  obtain ⟨mA, O, _⟩ := ins_get I.hok ha
  obtain ⟨od, J, _⟩ := O.look
  obtain ⟨m, hF⟩ := I.fr
  obtain ⟨t, Lt, nf⟩ := side_ty ec I ry sd
  refine PySem.W.cmp_K (op := .Eq) lv.room.units0 hF I.ok.mod.kin J Lt nf ec.hs ec.hf ?_
  refine run_eq F lv hb I I.env0 (.cons (show RelV (.ref a) (.ref a) from rfl) (.cons ry .nil)) sp fun w s' hw => ?_
  obtain ⟨z, H', I', rz, b, rfl, q⟩ := hw
  cases rz
  exact ⟨.bl b, H', I', rfl, q⟩
theorem op_neO (ec : EqC X.K C f) (F : FT X.prog X.w X.K X.mg X.base T k f fd ps M) (lv : Lv (k + 1) X.A) (hb : Binds X.K fd ps []) : OpR X (compareOp .NotEq) (rNeO T X.K C M) := by
  intro pins s σ H x y v u Q I rx ry h
  obtain ⟨a, dx, fs, rfl, ha, sd, sp⟩ := h
  cases rx
  obtain ⟨mA, O, _⟩ := ins_get I.hok ha
  obtain ⟨od, J, _⟩ := O.look
  obtain ⟨t, Lt, nf⟩ := side_ty ec I ry sd
  refine rc_ne (by have := lv.room.un; omega) I.kIn J Lt nf ec.ne ec.ob ec.hs ec.hf ?_
  refine run_eq F lv.in1 hb I I.env0.in1 (.cons (show RelV (.ref a) (.ref a) from rfl) (.cons ry .nil)) sp fun w s' hw => ?_
  obtain ⟨z, H', I', rz, b, rfl, q⟩ := hw
  cases rz
  exact ⟨b, rfl, .bl (!b), H', I', rfl, q⟩
/-- a value's builtin type, in the heap -/
theorem ty_is (I : Inv X pins σ H s) {x : V} {u : Value} {n : String} (r : RelV x u) (ty : TyX X.K H x (.type n)) : s.TypeIs u n := by
  obtain ⟨P, Z, p, _⟩ := kit_of I r ty
  generalize ht : Value.type n = t at ty
  cases ty with
  | base b =>
    cases b with
    | non =>
      cases ht
      have e : u = .none := r
      subst e
      exact (rfl : typeOf _ = _)
    | bl y =>
      cases ht
      have e : u = .bool y := r
      subst e
      exact (rfl : typeOf _ = _)
    | int i =>
      cases ht
      obtain ⟨t, rfl⟩ := r
      exact typeIs_int s i t
    | str i =>
      cases ht
      obtain ⟨t, rfl⟩ := r
      exact typeIs_str s i t
    | flt i =>
      cases ht
      obtain ⟨t, rfl⟩ := r
      exact (rfl : typeOf _ = _)
    | @lst a xs e =>
      cases ht
      cases r
      obtain ⟨_, _, n, _, h1⟩ := (show ObjOk X.prog X.w H s.heap a (.lst xs) from I.hok a _ e)
      exact ⟨_, h1, rfl⟩
    | @frz a ob xs e =>
      cases ht
      cases r
      obtain ⟨_, _, _, n, _, h1⟩ := (show ObjOk X.prog X.w H s.heap a (.frz ob (.lst xs)) from I.hok a _ e)
      exact ⟨_, h1, rfl⟩
    | @tup a xs e =>
      cases ht
      cases r
      obtain ⟨_, _, _, o, h1, h2, _⟩ := (show ObjOk X.prog X.w H s.heap a (.tup xs) from I.hok a _ e)
      exact ⟨o, h1, h2⟩
    | @dK a kvs e =>
      cases ht
      cases r
      obtain ⟨_, _, vs, _, o, es, ep, h1, h2, _⟩ := (show ObjOk X.prog X.w H s.heap a (.dK kvs) from I.hok a _ e)
      exact ⟨o, h1, h2.1⟩
    | @dT a kvs e =>
      cases ht
      cases r
      obtain ⟨_, _, xs, _, o, es, ep, h1, h2, _⟩ := (show ObjOk X.prog X.w H s.heap a (.dT kvs) from I.hok a _ e)
      exact ⟨o, h1, h2.1⟩
    | ins e cl ha hn htk hm => cases ht
  | byt b =>
    cases ht
    obtain ⟨t, rfl⟩ := r
    exact (rfl : typeOf _ = _)
  | @set a S m e =>
    cases ht
    cases r
    obtain ⟨o, _, _, _, h1, ex, _⟩ := I.hok a _ e
    exact ⟨o, h1, ex.1⟩
  | @kList a o e c =>
    cases ht
    cases r
    exact ⟨o, I.kIn a o e, c⟩
  | @kTuple a o e c =>
    cases ht
    cases r
    exact ⟨o, I.kIn a o e, c⟩
  | @kDict a o e c =>
    cases ht
    cases r
    exact ⟨o, I.kIn a o e, c⟩
  | @fTuple a ob xs e =>
    cases ht
    cases r
    obtain ⟨_, _, _, _, o, h1, h2, _⟩ := (show ObjOk X.prog X.w H s.heap a (.frz ob (.tup xs)) from I.hok a _ e)
    exact ⟨o, h1, h2⟩
  | @fDict a ob kvs e =>
    cases ht
    cases r
    obtain ⟨_, _, _, vs, _, o, es, ep, h1, h2, _⟩ := (show ObjOk X.prog X.w H s.heap a (.frz ob (.dK kvs)) from I.hok a _ e)
    exact ⟨o, h1, h2.1⟩
end
end HT
set_option maxRecDepth 100000
set_option maxHeartbeats 800000
namespace HT
open PySem PySem.Spec L2
open PyProof.Rows hiding St

section
variable {T : Str → Addr} {X : Cx} {C f : Addr} {fd : FuncData} {ps : List Str} {M : List D → Cm D} {k : Nat}
theorem tyRef {K : PySem.W.Frag} {H : Hp} {a : Addr} {n : String} (h : TyX K H (.ref a) (.type n)) (hn : n ∈ ["NoneType", "bool", "int", "str", "list", "tuple", "dict"]) : n = "list" ∨ n = "tuple" ∨ n = "dict" := by
  generalize ht : Value.type n = t at h
  generalize hv : V.ref a = v at h
  cases h with
  | base b =>
    cases b with
    | non => cases hv
    | bl y => cases hv
    | int i => cases hv
    | str i => cases hv
    | flt i => cases hv
    | lst e =>
      cases ht
      exact .inl rfl
    | frz e =>
      cases ht
      exact .inl rfl
    | tup e =>
      cases ht
      exact .inr (.inl rfl)
    | dK e =>
      cases ht
      exact .inr (.inr rfl)
    | dT e =>
      cases ht
      exact .inr (.inr rfl)
    | ins e cl ha hn htk hm => cases ht
  | byt b => cases hv
  | set e =>
    cases ht
    simp at hn
  | kList e c =>
    cases ht
    exact .inl rfl
  | kTuple e c =>
    cases ht
    exact .inr (.inl rfl)
  | kDict e c =>
    cases ht
    exact .inr (.inr rfl)
  | fTuple e =>
    cases ht
    exact .inr (.inl rfl)
  | fDict e =>
    cases ht
    exact .inr (.inr rfl)
theorem op_eqR (ec : EqC X.K C f) (G0 : FT X.prog X.w X.K X.mg X.base T k f fd ps M) (lv : Lv k X.A) (hb : Binds X.K fd ps []) : OpR X (compareOp .Eq) (rEqR T X.K C M) := by
  intro pins s σ H x y v u Q I rx ry h
  obtain ⟨a, dx, fs, n, rfl, ha, ty, hn, sp⟩ := h
  cases ry
  obtain ⟨mA, O, _⟩ := ins_get I.hok ha
  obtain ⟨od, J, _⟩ := O.look
  have hu := lv.room.units0
  have X0 := I.kIn
  have hget : s.heap.get? a = some (PySem.W.instObj C dx) := J.at_
  have go : wpAny (model X.prog X.w) X.A (call (.ref f) [.ref a, v]) (fun w s' => ∃ r, w = .bool r ∧ EP X pins σ Q (.bool r) s') X.xe s := by
    refine run_eq G0 lv hb I I.env0 (.cons (show RelV (.ref a) (.ref a) from rfl) (.cons rx .nil)) sp fun w s' hw => ?_
    obtain ⟨z, H', I', rz, b, rfl, q⟩ := hw
    cases rz
    exact ⟨b, rfl, .bl b, H', I', rfl, q⟩
  have hT := ty_is I rx ty
  have sub := ec.sub n hn
  have isn : PySem.W.Looks (model X.prog X.w) s.heap (isInstance (.ref a) (.type n)) false := own_isn X0 J sub
  cases x with
  | non =>
    cases ty with
    | base b =>
      cases b
      have e : v = .none := rx
      subst e
      exact rc_refl hu X0 J hT sub F.slot_NoneType_eq F.entry_NoneType_eq (F.args_NoneType_eq_2 _ _) dec_none ec.hs ec.hf go
  | bl y =>
    cases ty with
    | base b =>
      cases b
      have e : v = .bool y := rx
      subst e
      exact rc_refl hu X0 J hT sub F.slot_bool_eq F.entry_int_eq (F.args_int_eq_2 _ _) (dec_bool hget) ec.hs ec.hf go
  | int i =>
    cases ty with
    | base b =>
      cases b
      obtain ⟨t, rfl⟩ := rx
      exact rc_refl hu X0 J hT sub F.slot_int_eq F.entry_int_eq (F.args_int_eq_2 _ _) (dec_int hget) ec.hs ec.hf go
  | str i =>
    cases ty with
    | base b =>
      cases b
      obtain ⟨t, rfl⟩ := rx
      exact rc_refl hu X0 J hT sub F.slot_str_eq F.entry_str_eq (F.args_str_eq_2 _ _) (dec_str hget) ec.hs ec.hf go
  | ref p =>
    cases rx
    rcases tyRef ty hn with rfl | rfl | rfl
    · exact rc_refl hu X0 J hT sub F.slot_list_eq F.entry_list_eq (F.args_list_eq_2 _ _) (dec_list isn) ec.hs ec.hf go
    · exact rc_refl hu X0 J hT sub F.slot_tuple_eq F.entry_tuple_eq (F.args_tuple_eq_2 _ _) (dec_tuple isn) ec.hs ec.hf go
    · exact rc_refl hu X0 J hT sub F.slot_dict_eq F.entry_dict_eq (F.args_dict_eq_2 _ _) (dec_dict isn) ec.hs ec.hf go
  | byt b =>
    cases ty with
    | base b => cases b
    | byt b => simp at hn
  | flt b =>
    cases ty with
    | base b =>
      cases b
      simp at hn
  | ty m =>
    cases ty with
    | base b => cases b
/-- the builtin type's name of a tree -/
def bTy (S : Sto) (d : D) : Option String := match tyD S d with
  | some (.b n) => some n
  | _ => none
theorem bTy_ok {K : PySem.W.Frag} {ρ : Nat → Option Addr} {Z : Hid} {H : Hp} {S : Sto} (w : Wd T K ρ S Z H) {d : D} {v : V} {n : String} (r : Rep T K ρ (Fz ρ Z H) d v) (h : bTy S d = some n) : TyX K H v (.type n) ∧ n ∈ ["NoneType", "bool", "int", "str", "list", "tuple", "dict"] := by
  unfold bTy at h
  cases d with
  | non =>
    cases h
    cases r
    exact ⟨.base .non, by decide⟩
  | bl b =>
    cases h
    cases r
    exact ⟨.base (.bl _), by decide⟩
  | int i =>
    cases h
    cases r
    exact ⟨.base (.int _), by decide⟩
  | str x =>
    cases h
    cases r
    exact ⟨.base (.str _), by decide⟩
  | lst ds =>
    cases h
    obtain ⟨a, vs, rfl, q, _⟩ := r
    exact ⟨.base (.lst (Fz_sub _ _ q)), by decide⟩
  | klst ds =>
    cases h
    obtain ⟨a, vs, rfl, q, _⟩ := r
    exact ⟨seqL_ty (Fz_sub.seqL q), by decide⟩
  | tup ds =>
    cases h
    obtain ⟨a, vs, rfl, q, _⟩ := r
    exact ⟨seqT_ty (Fz_sub.seqT q), by decide⟩
  | dK ds =>
    cases h
    obtain ⟨a, vs, rfl, q, _⟩ := r
    exact ⟨.base (.dK (Fz_sub _ _ q)), by decide⟩
  | dT ds =>
    cases h
    obtain ⟨a, vs, rfl, q, _⟩ := r
    exact ⟨.base (.dT (Fz_sub _ _ q)), by decide⟩
  | obj C fs => cases h
  | exn C fs => cases h
  | glob x => cases h
  | ty n => cases h
  | cell k =>
    obtain ⟨a, rfl, q⟩ := r
    cases hk : S[k]? with
    | none =>
      have h2 : (match (match S[k]? with | some (.lst _) => some (Ty.b "list") | some (.dK _) => some (.b "dict") | some (.dT _) => some (.b "dict") | some (.ins C _) => some (.own C) | none => none) with | some (.b n) => some n | _ => none) = some n := h
      rw [hk] at h2
      cases h2
    | some co =>
      have h2 : (match (match S[k]? with | some (.lst _) => some (Ty.b "list") | some (.dK _) => some (.b "dict") | some (.dT _) => some (.b "dict") | some (.ins C _) => some (.own C) | none => none) with | some (.b n) => some n | _ => none) = some n := h
      rw [hk] at h2
      obtain ⟨a', o, h1, _, h3, h4⟩ := w.cells k co hk
      rw [q] at h1
      cases h1
      cases co with
      | lst ds =>
        cases h2
        obtain ⟨vs, rfl, _⟩ := h4
        exact ⟨.base (.lst h3), by decide⟩
      | dK ds =>
        cases h2
        obtain ⟨vs, rfl, _⟩ := h4
        exact ⟨.base (.dK h3), by decide⟩
      | dT ds =>
        cases h2
        obtain ⟨vs, rfl, _⟩ := h4
        exact ⟨.base (.dT h3), by decide⟩
      | ins C fs => cases h2
/-- an object of the class -/
def isOb (C : Str) (S : Sto) (d : D) : Bool := match asCO S d with
  | some (.ins C' _) => C' == C
  | _ => false
theorem isOb_ok {K : PySem.W.Frag} {ρ : Nat → Option Addr} {Z : Hid} {H : Hp} {S : Sto} {Cn : Str} (w : Wd T K ρ S Z H) {d : D} {v : V} (r : Rep T K ρ (Fz ρ Z H) d v) (h : isOb Cn S d = true) : ∃ a dx fs, v = .ref a ∧ H a = some (.ins (T Cn) dx fs) := by
  unfold isOb at h
  cases hc : asCO S d with
  | none =>
    rw [hc] at h
    cases h
  | some c =>
    rw [hc] at h
    obtain ⟨a, o, rfl, h1, h2⟩ := asCO_ok w r hc
    cases c with
    | ins C' fs =>
      have e : C' = Cn := eq_of_beq h
      subst e
      obtain ⟨dx, vs, rfl, _⟩ := h2
      exact ⟨a, dx, vs, rfl, h1⟩
    | _ => cases h
def boolR (neg : Bool) (r : R D) : R D := match r with
  | .ok (.bl b) S => .ok (.bl (neg ^^ b)) S
  | _ => .stuck
/-- x == y, x != y -/
def gEqO (neg : Bool) (C : Str) (M : List D → Cm D) (x y : D) : Cm D := fun S =>
  if isOb C S x = true then (if isOb C S y = true ∨ (bTy S y).isSome = true then boolR neg (M [x, y] S) else .stuck)
  else if isOb C S y = true then (if neg = false ∧ (bTy S x).isSome = true then boolR neg (M [y, x] S) else .stuck)
  else gEq neg x y S
theorem rn_of {W : WX} {σ : St} {ρ : Nat → Option Addr} {S : Sto} {Z : Hid} {H : Hp} {x y : D} {v u : V} {Q : VK} {neg : Bool} (w : Wd T X.K ρ S Z H) (r1 : Rep T X.K ρ (Fz ρ Z H) x v) (r2 : Rep T X.K ρ (Fz ρ Z H) y u) (g : Good T X.K (rD T X.K) W σ Q ρ Z H (boolR neg (M [x, y] S))) :
    Rn T X.K M [v, u] H (fun z H' => ∃ b, z = .bl b ∧ Q (.bl (neg ^^ b)) H') := by
  refine ⟨ρ, S, Z, [x, y], w, RepL.cons r1 (RepL.one r2), ?_⟩
  cases hM : M [x, y] S with
  | stuck =>
    rw [hM] at g
    exact g
  | exc C fs S' =>
    rw [hM] at g
    exact g.elim
  | ok d S' =>
    rw [hM] at g
    cases d with
    | bl b => exact fun z H' ρ' e w' q => ⟨b, q, g _ H' ρ' e w' rfl⟩
    | _ => exact g.elim
theorem op2_eqO {Cn : Str} (hu : X.A.units + 64 < cLine) (ec : EqC X.K (T Cn) f) (G0 : FT X.prog X.w X.K X.mg X.base T k f fd ps M) (lv : Lv k X.A) (hb : Binds X.K fd ps []) :
    OpR X (compareOp .Eq) (fun x y H Q => rEqO T X.K (T Cn) M x y H Q ∨ (fun x y H Q => rEqR T X.K (T Cn) M x y H Q ∨ rEqD X.K x y H Q) x y H Q) := OpR.or (op_eqO ec G0 lv hb) (OpR.or (op_eqR ec G0 lv hb) (op_eqD hu))
theorem ok_gEqO {Cn : Str} : Op2 T X (fun x y H Q => rEqO T X.K (T Cn) M x y H Q ∨ (fun x y H Q => rEqR T X.K (T Cn) M x y H Q ∨ rEqD X.K x y H Q) x y H Q) (gEqO false Cn M) := by
  intro W σ ρ S Z H x y v u Q w r1 r2 g
  unfold gEqO at g
  split at g
  · rename_i hx
    split at g
    · rename_i hy
      obtain ⟨a, dx, fs, rfl, ha⟩ := isOb_ok w r1 hx
      have rn := rn_of (neg := false) w r1 r2 g
      simp only [Bool.false_xor] at rn
      refine .inl ⟨a, dx, fs, rfl, ha, ?_, rn⟩
      rcases hy with hy | hy
      · obtain ⟨b, dy, gs, rfl, hb⟩ := isOb_ok w r2 hy
        exact .own hb
      · obtain ⟨n, hn⟩ := Option.isSome_iff_exists.mp hy
        obtain ⟨q1, q2⟩ := bTy_ok w r2 hn
        exact .b q1 q2
    · exact g.elim
  · split at g
    · rename_i hy
      split at g
      · rename_i hc
        obtain ⟨a, dx, fs, rfl, ha⟩ := isOb_ok w r2 hy
        have rn := rn_of (neg := false) w r2 r1 g
        simp only [Bool.false_xor] at rn
        obtain ⟨n, hn⟩ := Option.isSome_iff_exists.mp hc.2
        obtain ⟨q1, q2⟩ := bTy_ok w r1 hn
        exact .inr (.inl ⟨a, dx, fs, n, rfl, ha, q1, q2, rn⟩)
      · exact g.elim
    · exact .inr (.inr (ok_gEq W σ ρ S Z H x y v u Q w r1 r2 g))
theorem op2_neO {Cn : Str} (hu : X.A.units + 64 < cLine) (ec : EqC X.K (T Cn) f) (G0 : FT X.prog X.w X.K X.mg X.base T k f fd ps M) (lv : Lv (k + 1) X.A) (hb : Binds X.K fd ps []) :
    OpR X (compareOp .NotEq) (fun x y H Q => rNeO T X.K (T Cn) M x y H Q ∨ rNeD X.K x y H Q) := OpR.or (op_neO ec G0 lv hb) (op_neD hu)
theorem ok_gNeO {Cn : Str} : Op2 T X (fun x y H Q => rNeO T X.K (T Cn) M x y H Q ∨ rNeD X.K x y H Q) (gEqO true Cn M) := by
  intro W σ ρ S Z H x y v u Q w r1 r2 g
  unfold gEqO at g
  split at g
  · rename_i hx
    split at g
    · rename_i hy
      obtain ⟨a, dx, fs, rfl, ha⟩ := isOb_ok w r1 hx
      have rn := rn_of (neg := true) w r1 r2 g
      simp only [Bool.true_xor] at rn
      refine .inl ⟨a, dx, fs, rfl, ha, ?_, rn⟩
      rcases hy with hy | hy
      · obtain ⟨b, dy, gs, rfl, hb⟩ := isOb_ok w r2 hy
        exact .own hb
      · obtain ⟨n, hn⟩ := Option.isSome_iff_exists.mp hy
        obtain ⟨q1, q2⟩ := bTy_ok w r2 hn
        exact .b q1 q2
    · exact g.elim
  · split at g
    · rename_i hy
      split at g
      · rename_i hc
        cases hc.1
      · exact g.elim
    · exact .inr (ok_gNe W σ ρ S Z H x y v u Q w r1 r2 g)
end
end HT
set_option maxRecDepth 100000
set_option maxHeartbeats 800000
namespace HT
open PySem PySem.Spec L2
open PyProof.Rows hiding St

/-! ### repr -/
/-- an empty dict -/
def noKv (S : Sto) (d : D) : Bool := match asCO S d with
  | some (.dK []) => true
  | _ => false
def gRepr (x : D) : Cm D := fun S => match deep S x with
  | some p => if p.showable = true ∧ p.hasDict = false ∧ p.depth ≤ 50 ∧ p.shown.length ≤ sizeLine then .ok (.str p.shown) S else .stuck
  | none => if noKv S x = true then .ok (.str (PyData.dict []).shown) S else .stuck
def rRepr (K : PySem.W.Frag) : List V → Hp → VK → Prop := fun xs H Q => ∃ x, xs = [x] ∧ ((∃ p, Dp K H x p ∧ (p.showable = true ∧ p.hasDict = false ∧ p.depth ≤ 50 ∧ p.shown.length ≤ sizeLine) ∧ Q (.str p.shown) H) ∨ ∃ a, x = .ref a ∧ H a = some (.dK []) ∧ Q (.str (PyData.dict []).shown) H)
section
variable {T : Str → Addr} {X : Cx} {k : Nat}
theorem call_reprD (lv : Lv k X.A) : CallR X (.builtin "repr") (rRepr X.K) := by
  intro pins s σ H xs us Q I r h
  obtain ⟨x, rfl, h⟩ := h
  obtain ⟨u, rfl, ru⟩ := vals1 r
  have hu := lv.room.un
  have fin : ∀ (z : Str) (h' : Heap) (tu tk : Tok), (∀ b o, s.heap.get? b = some o → h'.get? b = some o) → Q (.str z) H → EP X pins σ Q (.str z tu) { s with heap := h', toks := tk } := fun z h' tu tk k q => ⟨.str z, H, I.kept (t' := tk) k, ⟨_, rfl⟩, q⟩
  rcases h with ⟨p, hp, ⟨h1, h2, h3, h4⟩, q⟩ | ⟨a, rfl, ha, q⟩
  · obtain ⟨as, rd⟩ := Dp.reads I p x u hp ru
    cases rd with
    | none => exact PySem.P.repr_of_none (fin _ _ _ _ (fun _ _ e => e) q)
    | bool b => exact PySem.P.repr_of_bool (fin _ _ _ _ (fun _ _ e => e) q)
    | int i t => exact PySem.P.repr_of_int (of_decide_eq_true h1) (fin _ _ _ _ (fun _ _ e => e) q)
    | str y t => exact PySem.P.repr_of_str (fin _ _ _ _ (fun _ _ e => e) q) h4
    | list e1 e2 e3 e4 => exact repr_of_reads' (.list e1 e2 e3 e4) h1 (fun z => by rw [h2] at z; cases z) lv.gd (by omega) (fun b o e => e) (fun h' tu tk k => fin _ h' tu tk k q) h4
    | tuple e1 e2 e3 e4 => exact repr_of_reads' (.tuple e1 e2 e3 e4) h1 (fun z => by rw [h2] at z; cases z) lv.gd (by omega) (fun b o e => e) (fun h' tu tk k => fin _ h' tu tk k q) h4
    | dict e1 e2 e3 e4 e5 => cases h2
  · cases ru
    obtain ⟨_, hS, vs, kv, o, es, ep, e1, e2, e3, e4, e5, e6⟩ := (show ObjOk X.prog X.w H s.heap a (.dK []) from I.hok a _ ha)
    cases kv
    have ee : es.toList = [] := by
      cases hh : es.toList with
      | nil => rfl
      | cons y r =>
        rw [hh] at e5
        cases e5
    have rd : Reads s.heap (.ref a) (.dict []) ([a] ++ []) := .dict (as := []) (bs := []) e1 e2.1 e3 (by rw [ee]; exact .nil) (by rw [ee]; exact .nil)
    have hdp : (PyData.dict []).depth ≤ 50 := by decide
    refine repr_of_reads' rd rfl (fun _ z => ?_) lv.gd (by omega) (fun b o e => e) (fun h' tu tk k => fin _ h' tu tk k q) (by rw [sizeLine_eq]; decide +kernel)
    have z2 : sysModules = a := by simpa using z
    rw [z2] at hS
    simp at hS
theorem ok_gRepr : OpN T X (rRepr X.K) (a1 gRepr) := opN1 fun W σ ρ S Z H x v Q w r g => by
  unfold gRepr at g
  refine ⟨v, rfl, ?_⟩
  split at g
  · rename_i p hp
    split at g
    · rename_i hc
      exact .inl ⟨p, deep_dp w hp r, hc, g.now w rfl⟩
    · exact g.elim
  · split at g
    · rename_i hc
      unfold noKv at hc
      cases ha : asCO S x with
      | none =>
        rw [ha] at hc
        cases hc
      | some c =>
        rw [ha] at hc
        obtain ⟨a, o, rfl, h1, h2⟩ := asCO_ok w r ha
        cases c with
        | dK kvs =>
          cases kvs with
          | nil =>
            obtain ⟨vs, rfl, rv⟩ := h2
            have ev : vs = [] := rv
            subst ev
            exact .inr ⟨a, rfl, h1, g.now w rfl⟩
          | cons _ _ => cases hc
        | _ => cases hc
    · exact g.elim
/-- {} -/
theorem of_dict0 {W : WX} {pos : Pos} : OF T X W (.Dict [] [] pos) (fun _ S => .ok (.dK []) S) := pe_imp pe_dnewK fun σ H Q q => by
  obtain ⟨ρ, S, Z, env, w, er, g⟩ := q
  exact fun p hp => g p _ ρ (new_neu w hp ⟨[], rfl, rfl⟩)
/-- int -/
def gInt : D → Cm D
  | .int i => pure (.int i)
  | .bl b => pure (.int (if b then 1 else 0))
  | _ => stk
theorem ok_gInt : OpN T X (fun xs H Q => (∃ i, xs = [.int i] ∧ Q (.int i) H) ∨ ∃ k, xs = [.bl k] ∧ Q (.int (if k then 1 else 0)) H) (a1 gInt) := opN1 fun W σ ρ S Z H x v Q w r g => by
  cases x with
  | int i =>
    cases r
    exact .inl ⟨i, rfl, g.now w rfl⟩
  | bl b =>
    cases r
    exact .inr ⟨_, rfl, g.now w rfl⟩
  | _ => exact g.elim
def gMax (x y : D) : Cm D := match x, y with
  | .int i, .int j => pure (.int (if j > i then j else i))
  | _, _ => stk
theorem ok_gMax : OpN T X (fun xs H Q => ∃ i j, xs = [.int i, .int j] ∧ Q (.int (if j > i then j else i)) H) (a2 gMax) := opN2 fun W σ ρ S Z H x y v u Q w r1 r2 g => by
  cases x with
  | int i =>
    cases y with
    | int j =>
      cases r1
      cases r2
      exact ⟨i, j, rfl, g.now w rfl⟩
    | _ => exact g.elim
  | _ => exact g.elim
def gBits : D → Cm D
  | .int i => pure (.int (Builtin.Int.intBits i : Nat))
  | _ => stk
theorem pf_bits {W : WX} {o : Expr} {Fo : FE} {apos pos : Pos} (ho : PF T X W o Fo) (hbase : attributeBase o "bit_length" X.env (eval o X.env) = eval o X.env := by rfl) (hline : (apos.endLine == pos.line) = true := by rfl) : PF T X W (.Call (.Attribute o "bit_length" apos) [] [] pos) (f1 gBits Fo) :=
  pe_imp (pe_bits ho hbase hline) fun σ H Q q => lift1 (r := fun x H1 => ∃ i, x = .int i ∧ Q (.int (Builtin.Int.intBits i : Nat)) H1) q fun ρ S Z H x v w r g => by
    cases x with
    | int i => exact ⟨i, r, g _ H ρ .refl w rfl⟩
    | _ => exact g.elim
/-- a list of the module, of constants -/
theorem pf_klst {W : WX} {x : Str} {a : Addr} {ds : List D} {vs : List V} {pos : Pos} (hg : Gl X x) (hm : X.mg x = some (.ref a)) (hs : ∀ H, SqL X.K H a vs) (hr : CsD T X.K ds vs) (hd : (x == ("__debug__" : Str)) = false := by decide) : PF T X W (.Name x pos) (fun _ => pure (.klst ds)) :=
  pf_const (pe_glob hg hm (show RelV (.ref a) (.ref a) from rfl) hd) fun ρ H => ⟨a, vs, rfl, hs H, hr ρ H⟩
end
end HT
set_option maxRecDepth 100000
set_option maxHeartbeats 800000
namespace HT
open PySem PySem.Spec L2
open PyProof.Rows hiding St
section
variable {P : Program} {w : World} {K : PySem.W.Frag} {mg : Str → Option Value} {base : Heap} {N : List Str} {qual : Str} {scope : Scope} {f : Addr} {cdv : Value} {A : Around} {outer : List PySem.Env} {s : Shared} {H : Hp} {E : XK}
theorem ctx_takes : Takes (ctx P w K mg base N qual scope f cdv A outer s H E) (fun c d _ H' => E c d H') := takes_of rfl rfl rfl rfl
theorem ctx_po : PassesOwn (model P w) (ctx P w K mg base N qual scope f cdv A outer s H E).A (ctx P w K mg base N qual scope f cdv A outer s H E).env (ctx P w K mg base N qual scope f cdv A outer s H E).xe := passes_of (X := ctx P w K mg base N qual scope f cdv A outer s H E) rfl
end
theorem Lv.u65 {k : Nat} {A : Around} (lv : Lv k A) : A.units + 65 < cLine := by
  have := lv.room.un
  omega
end HT
set_option maxRecDepth 100000
set_option maxHeartbeats 800000
namespace HT
open PySem PySem.Spec L2
open PyProof.Rows hiding St
open He (ga ma fAd eqO eqO_ok ba)

/-! ### facts of the written part, as questions with yes or no -/
section
variable {K : PySem.W.Frag} {C : Addr}
def ty7 : List String := ["NoneType", "bool", "int", "str", "list", "tuple", "dict"]
def eqB (K : PySem.W.Frag) (C : Addr) : Bool := eqO (PySem.W.findIn K (.ref C) "__eq__") (some (some (.ref (ma K C "__eq__")))) && (PySem.W.isFn K (.ref (ma K C "__eq__")) && (eqO (PySem.W.findIn K (.ref C) "__ne__") (some (some (.builtin "object.__ne__"))) &&
  (decide (PySem.W.mroIn K C (.type "object") = some true) && (ty7.all (fun n => decide (PySem.W.subIn K (.ref C) (.type n) = some false)) && ty7.all fun n => PySem.W.notFirst K C (.type n)))))
theorem eqB_ok (h : eqB K C = true) : EqC K C (ma K C "__eq__") := by
  obtain ⟨h1, h⟩ := ba h
  obtain ⟨h2, h⟩ := ba h
  obtain ⟨h3, h⟩ := ba h
  obtain ⟨h4, h⟩ := ba h
  obtain ⟨h5, h6⟩ := ba h
  exact ⟨eqO_ok h1, h2, eqO_ok h3, of_decide_eq_true h4, fun n hn => of_decide_eq_true (List.all_eq_true.mp h5 n hn), fun n hn => List.all_eq_true.mp h6 n hn⟩
def clsB (K : PySem.W.Frag) (C : Addr) : Bool := PySem.W.plainGet K C Str.empty && (PySem.W.hasDictIn K C && (PySem.W.plainOver K C && eqO (PySem.W.findIn K (.ref C) "__setattr__") (some (some (.builtin "object.__setattr__")))))
theorem clsB_ok (h : clsB K C = true) : Cls K C := by
  obtain ⟨h1, h⟩ := ba h
  obtain ⟨h2, h⟩ := ba h
  obtain ⟨h3, h4⟩ := ba h
  exact ⟨h1, h2, h3, eqO_ok h4⟩
def clB (K : PySem.W.Frag) (C : Addr) : Bool := eqO (PySem.W.findIn K (.ref C) "__class__") (some (some (.builtin "object.__class__"))) && (decide (PySem.W.specialIn K (.builtin "object.__class__") "__get__" = some (some (.builtin "getset_descriptor.__get__"))) &&
  (decide (PySem.W.takesIn K (.builtin "object.__class__") = some true) && decide (PySem.W.mroIn K C (.type "object") = some true)))
def obB (K : PySem.W.Frag) (C : Addr) : Bool := clsB K C && clB K C
theorem obB_ok (h : obB K C = true) : ObC K C := by
  obtain ⟨h0, h⟩ := ba h
  obtain ⟨h1, h⟩ := ba h
  obtain ⟨h2, h⟩ := ba h
  obtain ⟨h3, h4⟩ := ba h
  exact ⟨clsB_ok h0, eqO_ok h1, of_decide_eq_true h2, of_decide_eq_true h3, of_decide_eq_true h4⟩
def excB (K : PySem.W.Frag) (C : Addr) : Bool := xfB K C && clB K C
theorem excB_ok (h : excB K C = true) : ExcC K C := by
  obtain ⟨h0, h⟩ := ba h
  obtain ⟨h1, h⟩ := ba h
  obtain ⟨h2, h⟩ := ba h
  obtain ⟨h3, h4⟩ := ba h
  have x := xfB_ok h0
  exact ⟨x.ga, x.gg, x.exC, x.hdC, eqO_ok h1, of_decide_eq_true h2, of_decide_eq_true h3, of_decide_eq_true h4⟩
/-- a class over ValueError -/
def oexB (K : PySem.W.Frag) (C : Addr) : Bool := match K.lookup C with
  | some ⟨.type "type", _, .cls cd, sl⟩ => (match cd.mro, sl.toList with
    | .ref C' :: bm, [_, _, _, _, some (.builtin n), _] => C' == C && (n == "ValueError.__new__" && (!cd.hasDel && (cd.hasDict && PySem.HandSPX.refsVE bm)))
    | _, _ => false)
  | _ => false
theorem oexB_ok (h : oexB K C = true) : ∃ nm q N bs bm sn sub ab col dd k0 k1 k2 k3 k5, K.lookup C = some (excClassObj nm q C N bs bm true sn sub ab col dd k0 k1 k2 k3 k5 "ValueError.__new__") ∧ PySem.HandSPX.refsVE bm = true := by
  unfold oexB at h
  split at h
  · rename_i dd cd sl ho
    split at h
    · rename_i C' bm k0 k1 k2 k3 n k5 hm hs
      obtain ⟨h1, h⟩ := ba h
      obtain ⟨h2, h⟩ := ba h
      obtain ⟨h3, h⟩ := ba h
      obtain ⟨h4, h5⟩ := ba h
      have e1 : C' = C := eq_of_beq h1
      have e2 : n = "ValueError.__new__" := eq_of_beq h2
      subst e1 e2
      obtain ⟨nm, bs, mro, ns, qn, hd, sn, sub, ab, col, hdel⟩ := cd
      dsimp only at hm h3 h4
      subst hm h4
      have e3 : hdel = false := by simpa using h3
      subst e3
      have hsl : sl = #[k0, k1, k2, k3, some (.builtin "ValueError.__new__"), k5] := by
        obtain ⟨l⟩ := sl
        simp only at hs
        rw [hs]
      subst hsl
      exact ⟨nm, qn, ns, bs, bm, sn, sub, ab, col, dd, k0, k1, k2, k3, k5, ho, h5⟩
    · cases h
  · cases h
abbrev ExW : Type := Option (Str × Str × Arguments × FuncBody × Scope × Addr × Addr)
def exW (K : PySem.W.Frag) (c : Str) : ExW := match K.lookup (ma K (ga K c) "__init__") with
  | some ⟨_, _, .func fd, _⟩ => some (fd.name, fd.qualname, fd.params, fd.body, fd.scope, fd.globals, fd.builtins)
  | _ => none
def exCl (P : Program) (K : PySem.W.Frag) (C : Addr) : Bool := match K.lookup (ma K C "__init__") with
  | some ⟨_, _, .func fd, _⟩ => (match fd.closure, fd.code with
    | [(n, cc)], .ref cda => n == ("__class__" : Str) && (He.dflB K fd.defaults [V.non] && (PySem.W.codeIn K (.ref cda) fd.qualname && ((match K.lookup cc with
        | some ⟨_, _, .cell (some (.ref D)), _⟩ => D == C
        | _ => false) && (match K.lookup cda with
        | some ⟨_, _, .fields vs, _⟩ => (match vs[2]? with
          | some (Value.str file _) => ((P.main.file : Str) == file)
          | _ => false)
        | _ => false))))
    | _, _ => false)
  | _ => false
def exB (P : Program) (K : PySem.W.Frag) (c f : Str) : Bool := oexB K (ga K c) && (eqO (PySem.W.findIn K (.ref (ga K c)) "__setattr__") (some (some (.builtin "object.__setattr__"))) && (decide (PySem.W.subIn K (.ref (ga K c)) (.type "BaseException") = some true) &&
  (decide (PySem.W.typeIn K (.ref (ga K c)) = some (.type "type")) && (PySem.W.keepIn K (.ref (ga K c)) && (eqO (PySem.W.findIn K (.ref (ga K c)) f) (some none) && (decide (PySem.W.subIn K (.ref (ga K c)) (.type "ValueError") = some true) &&
  (eqO (PySem.W.ks_superIn K (ga K c) (ga K c) "__init__") (some (some (.builtin "ValueError.__init__"))) && (decide (PySem.W.mroIn K (ga K c) (.ref (ga K c)) = some true) && (eqO (PySem.W.nsIn K cStatics "thirdparty.any") (some none) &&
  (eqO (PySem.W.findIn K (.ref (ga K c)) "__init__") (some (some (.ref (ma K (ga K c) "__init__")))) && (decide (PySem.W.typeIn K (.ref (ma K (ga K c) "__init__")) = some (.type "function")) && exCl P K (ga K c))))))))))))
theorem exB_ok {P : Program} {c f qual : Str} {params : Arguments} {p0 p1 p2 p3 p4 p5 p6 p7 p8 p9 : Pos} {scope : Scope} (h : exB P K c f = true) (hw : exW K c = some (("__init__" : Str), qual, params, FuncBody.stmts (exBody f p0 p1 p2 p3 p4 p5 p6 p7 p8 p9), scope, mainGlobals, builtinsNs))
    (tp : (P.main.scope.names.lookup ("super" : Str)).isSome = false) (har : ∃ ar, (params.posonlyargs ++ params.args).head? = some ar ∧ ar.arg = "self")
    (s1 : scope.names.lookup ("super" : Str) = some .globalImplicit) (s2 : scope.names.lookup ("__class__" : Str) = some .free) (s3 : scope.names.lookup ("self" : Str) = some .local) (s4 : scope.names.lookup f = some .local) (s5 : scope.kind = .function)
    (s6 : ∀ x ∈ scope.names, x.2 ≠ .cell) (s7 : scope.isCoroutine = false) (s8 : scope.isGenerator = false) (hev : SupEv f p0 p1 p2 p3 p4) : ∃ fd, ExI P K (ga K c) f (fAd K (c, some "__init__")) fd ∧
      ∃ (dV kV doc pm ct : Value) (an : Option Addr) (cda cc : Addr), DflV K dV [V.non] ∧ fd = PySem.W.ksFn "__init__" qual params (exBody f p0 p1 p2 p3 p4 p5 p6 p7 p8 p9) scope dV kV doc pm an (.ref cda) ct cc := by
  obtain ⟨a1, h⟩ := ba h
  obtain ⟨a2, h⟩ := ba h
  obtain ⟨a3, h⟩ := ba h
  obtain ⟨a4, h⟩ := ba h
  obtain ⟨a5, h⟩ := ba h
  obtain ⟨a6, h⟩ := ba h
  obtain ⟨a7, h⟩ := ba h
  obtain ⟨a8, h⟩ := ba h
  obtain ⟨a9, h⟩ := ba h
  obtain ⟨a10, h⟩ := ba h
  obtain ⟨a11, h⟩ := ba h
  obtain ⟨a12, h⟩ := ba h
  unfold exCl at h
  unfold exW at hw
  cases q : K.lookup (ma K (ga K c) "__init__") with
  | none =>
    rw [q] at h
    cases h
  | some o =>
    obtain ⟨oc, od, dt, osl⟩ := o
    rw [q] at h hw
    cases dt with
    | func fd =>
      obtain ⟨n1, n2, n3, n4, n5, n6, n7, n8, n9, n10, n11, n12, n13, n14, n15⟩ := fd
      have e2 : (some (n1, n2, n3, n4, n5, n6, n15) : ExW) = some (("__init__" : Str), qual, params, FuncBody.stmts (exBody f p0 p1 p2 p3 p4 p5 p6 p7 p8 p9), scope, mainGlobals, builtinsNs) := hw
      simp only [Option.some.injEq, Prod.mk.injEq] at e2
      obtain ⟨g1, g2, g3, g4, g5, g6, g7⟩ := e2
      subst g1 g2 g3 g4 g5 g6 g7
      dsimp only at h
      split at h
      · rename_i n cc cda
        obtain ⟨b1, h⟩ := ba h
        obtain ⟨b0, h⟩ := ba h
        obtain ⟨b2, h⟩ := ba h
        obtain ⟨b3, b4⟩ := ba h
        have en : n = ("__class__" : Str) := eq_of_beq b1
        subst en
        refine ⟨_, ⟨⟨oexB_ok a1, eqO_ok a2, of_decide_eq_true a3, of_decide_eq_true a4, a5⟩, eqO_ok a6, of_decide_eq_true a7, eqO_ok a8, of_decide_eq_true a9, eqO_ok a10, tp, eqO_ok a11, of_decide_eq_true a12,
          oc, od, osl, _, _, p0, p1, p2, p3, p4, p5, p6, p7, p8, p9, _, n8, n9, n10, n11, n14, n12, cda, cc, rfl, q, b2, ?_, ?_, har, s1, s2, s3, s4, s5, s6, s7, s8, hev⟩, n8, n9, n10, n11, n14, n12, cda, cc, He.dflB_ok b0, rfl⟩
        · split at b4
          · rename_i ccl cdd vs ccs hl
            split at b4
            · rename_i file tf hf
              exact ⟨ccl, cdd, vs, ccs, file, tf, hl, hf, b4⟩
            · cases b4
          · cases b4
        · split at b3
          · rename_i cl cld D csl hl
            have eD : D = ga K c := eq_of_beq b3
            subst eD
            exact ⟨cl, cld, csl, hl⟩
          · cases b3
      · cases h
    | _ => cases h
end
end HT
namespace HT
open PySem PySem.Spec L2
theorem nthB {l : List Bool} (h : l.all id = true) (i : Nat) {b : Bool} (hi : l[i]? = some b) : b = true := List.all_eq_true.mp h b (List.mem_of_getElem? hi)
theorem isTb_own {T : Str → Addr} {K : PySem.W.Frag} {c : Str} (h1 : obB K (T c) = true) (h2 : (ty7.all fun n => decide (PySem.W.kitOne K (.type n) (.ref (T c)) = some false)) = true) (h3 : decide (PySem.W.kitOne K (.ref (T c)) (.ref (T c)) = some true) = true) :
    IsTb T K (.ref (T c)) (fun t => match t with | .b n => if n ∈ ty7 then some false else none | .own C => if C = c then some true else none | _ => none) := by
  refine ⟨fun n r h => ?_, fun C r h => ?_, (fun C r h => nomatch h)⟩
  · dsimp only at h
    split at h
    · rename_i hn
      cases h
      exact of_decide_eq_true (List.all_eq_true.mp h2 n hn)
    · cases h
  · dsimp only at h
    split at h
    · rename_i e
      subst e
      cases h
      exact ⟨obB_ok h1, of_decide_eq_true h3⟩
    · cases h
theorem isTb_exc {T : Str → Addr} {K : PySem.W.Frag} {c : Str} {cs : List Str} (h : ∀ C ∈ cs, (excB K (T C) && decide (PySem.W.kitOne K (.ref (T C)) (.ref (T c)) = some (C == c))) = true) :
    IsTb T K (.ref (T c)) (fun t => match t with | .exc C => if C ∈ cs then some (C == c) else none | _ => none) := by
  refine ⟨(fun n r h => nomatch h), (fun C r h => nomatch h), fun C r h2 => ?_⟩
  dsimp only at h2
  split at h2
  · rename_i hm
    cases h2
    obtain ⟨q1, q2⟩ := He.ba (h C hm)
    exact ⟨excB_ok q1, of_decide_eq_true q2⟩
  · cases h2
end HT

namespace HT
open PySem PySem.Spec L2
/-- every parameter is given, though the last one has a default -/
theorem bx_all {K : PySem.W.Frag} {fd : FuncData} {ps : List Str} {dV : Value} (hD : DflV K dV [V.non]) (h : ∀ (t : Addr) (us its : List Value), dV = .ref t → us.length = ps.length → its.length = 1 → ∃ k, bindArgs fd ⟨us, []⟩ = seqItems? (.ref t) >>= k ∧ k (some its.toArray) = pure (ps.zip us)) : Binds K fd ps [] := by
  rcases hD with ⟨e, _⟩ | ⟨_, t, o, its, m, e, lT, oT, rT⟩
  · cases e
  · intro s us X hlen
    rw [List.append_nil] at hlen ⊢
    obtain ⟨k, e1, e2⟩ := h t us its e hlen rT.length.symm
    refine BindsTo.of_looks fun M => ?_
    rw [e1]
    exact looks_items X lT oT (.of_pure e2)
end HT
set_option maxRecDepth 100000
set_option maxHeartbeats 800000
namespace HT
open PySem PySem.Spec L2
open PyProof.Rows hiding St

/-! ### a, b = x, y -/
def sPar (i j : Nat) (Fa : Env → Cm (List D)) : FS := fun env S => sB env (Fa env S) fun ds S' => match ds with
  | [d, e] => .ok (.nx ((env.set i (.val d)).set j (.val e))) S'
  | _ => .stuck
def sPar3 (i j l : Nat) (Fa : Env → Cm (List D)) : FS := fun env S => sB env (Fa env S) fun ds S' => match ds with
  | [d, e, f] => .ok (.nx (((env.set i (.val d)).set j (.val e)).set l (.val f))) S'
  | _ => .stuck
section
variable {T : Str → Addr} {X : Cx} {W : WX} {Fa : Env → Cm (List D)} {a b c : Expr} {pos : Pos}
theorem sf_par {i j : Nat} {x y : Str} {px py pt : Pos} {kt k2 pt2} (hc : X.calm = true) (hN : X.N.Nodup) (hi : X.N[i]? = some x) (hj : X.N[j]? = some y) (hij : i ≠ j)
    (hx : X.env.scope.names.lookup x = some .local) (hy : X.env.scope.names.lookup y = some .local) (ha : AF T X W [a, b] Fa)
    (hw : swappedStores [.Tuple [.Name x px, .Name y py] kt pt] (.Tuple [a, b] k2 pt2) X.env = pure (some [x, y]))
    (hs : swapsWithSole [.Tuple [.Name x px, .Name y py] kt pt] (.Tuple [a, b] k2 pt2) pos.line X.env = pure false := by rfl) :
    SF T X W (.Assign [.Tuple [.Name x px, .Name y py] kt pt] (.Tuple [a, b] k2 pt2) pos) (sPar i j Fa) := ps_imp (ps_par hc hN hi hj hij hx hy ha hw hs) fun B σ H q => by
  obtain ⟨ρ, S, Z0, Z, env, a, g⟩ := q
  refine lift_imp (lift_sB a g) fun vs H1 ⟨ρ1, S1, ds, x1, a1, r1, g1⟩ => ?_
  match ds, r1, g1 with
  | [d, e], ⟨v, us, e1, r2, w, us2, e2, r3, e3⟩, g1 =>
    subst e3 e2 e1
    exact ⟨v, w, rfl, (show GoodF T X.K W B ρ1 Z0 Z H1 S1 (.nx ((env.set i (.val d)).set j (.val e))) from g1) _ H1 ρ1 Z .refl ((a1.set r2).set r3)⟩
  | [], _, g1 => exact g1.elim
  | [_], _, g1 => exact g1.elim
  | _ :: _ :: _ :: _, _, g1 => exact g1.elim
theorem sf_par3 {i j l : Nat} {x y z : Str} {px py pz pt : Pos} {kt k2 pt2} (hc : X.calm = true) (hN : X.N.Nodup) (hi : X.N[i]? = some x) (hj : X.N[j]? = some y) (hl : X.N[l]? = some z) (hij : i ≠ j) (hil : i ≠ l) (hjl : j ≠ l)
    (hx : X.env.scope.names.lookup x = some .local) (hy : X.env.scope.names.lookup y = some .local) (hz : X.env.scope.names.lookup z = some .local) (ha : AF T X W [a, b, c] Fa)
    (hw : swappedStores [.Tuple [.Name x px, .Name y py, .Name z pz] kt pt] (.Tuple [a, b, c] k2 pt2) X.env = pure (some [x, y, z]))
    (hs : swapsWithSole [.Tuple [.Name x px, .Name y py, .Name z pz] kt pt] (.Tuple [a, b, c] k2 pt2) pos.line X.env = pure false := by rfl) :
    SF T X W (.Assign [.Tuple [.Name x px, .Name y py, .Name z pz] kt pt] (.Tuple [a, b, c] k2 pt2) pos) (sPar3 i j l Fa) := ps_imp (ps_par3 hc hN hi hj hl hij hil hjl hx hy hz ha hw hs) fun B σ H q => by
  obtain ⟨ρ, S, Z0, Z, env, a, g⟩ := q
  refine lift_imp (lift_sB a g) fun vs H1 ⟨ρ1, S1, ds, x1, a1, r1, g1⟩ => ?_
  match ds, r1, g1 with
  | [d, e, f], ⟨v, us, e1, r2, w, us2, e2, r3, u, us3, e3, r4, e4⟩, g1 =>
    subst e4 e3 e2 e1
    exact ⟨v, w, u, rfl, (show GoodF T X.K W B ρ1 Z0 Z H1 S1 (.nx (((env.set i (.val d)).set j (.val e)).set l (.val f))) from g1) _ H1 ρ1 Z .refl (((a1.set r2).set r3).set r4)⟩
  | [], _, g1 => exact g1.elim
  | [_], _, g1 => exact g1.elim
  | [_, _], _, g1 => exact g1.elim
  | _ :: _ :: _ :: _ :: _, _, g1 => exact g1.elim
end
end HT
set_option maxRecDepth 100000
set_option maxHeartbeats 800000
namespace HT
open PySem PySem.Spec L2
open PyProof.Rows hiding St

/-! ### a op b op' c -/
def fChain (g g' : D → D → Cm D) (Fa Fb Fc : FE) : FE := fun env S => (Fa env S).bnd fun x S1 => (Fb env S1).bnd fun y S2 => (g x y S2).bnd fun z S3 => match z with
  | .bl true => (Fc env S3).bnd fun w S4 => g' y w S4
  | .bl false => .ok (.bl false) S3
  | _ => .stuck
section
variable {T : Str → Addr} {X : Cx} {W : WX} {a b c : Expr} {Fa Fb Fc : FE} {pos : Pos} {op op' : CmpOp} {r r' : R2} {g g' : D → D → Cm D}
theorem chain_lift {σ : St} {H : Hp} {Q : VK} (h2 : Op2 T X r g) (h2' : Op2 T X r' g') (q : lift T X.K (rD T X.K) W (fChain g g' Fa Fb Fc) σ H Q) :
    tChain r r' (lift T X.K (rD T X.K) W Fa) (lift T X.K (rD T X.K) W Fb) (lift T X.K (rD T X.K) W Fc) σ H Q := by
  obtain ⟨ρ, S, Z, env, w, er, q⟩ := q
  refine lift_imp (lift_bnd w er q) fun v H1 ⟨ρ1, S1, d1, x1, w1, e1, r1, g1⟩ => ?_
  refine lift_imp (lift_bnd w1 e1 g1) fun u H2 ⟨ρ2, S2, d2, x2, w2, e2, r2, g2⟩ => ?_
  refine h2 W σ ρ2 S2 Z H2 d1 d2 v u _ w2 (x2.rep r1) r2 ?_
  change Good T X.K (rD T X.K) W σ Q ρ2 Z H2 ((g d1 d2 S2).bnd fun z S3 => _) at g2
  cases hg : g d1 d2 S2 with
  | exc C fs S' =>
    rw [hg] at g2
    exact g2
  | stuck =>
    rw [hg] at g2
    exact g2
  | ok z S3 =>
    rw [hg] at g2
    intro zv H3 ρ3 x3 w3 r3
    cases z with
    | bl k =>
      refine ⟨k, r3, ?_⟩
      cases k with
      | false => exact (show Good T X.K (rD T X.K) W σ Q ρ2 Z H2 (.ok (.bl false) S3) from g2) _ H3 ρ3 x3 w3 rfl
      | true =>
        have g3 : Good T X.K (rD T X.K) W σ Q ρ3 Z H3 ((Fc env S3).bnd fun w S4 => g' d2 w S4) := Good.later (show Good T X.K (rD T X.K) W σ Q ρ2 Z H2 ((Fc env S3).bnd fun w S4 => g' d2 w S4) from g2) x3
        exact lift_imp (lift_bnd w3 (e2.ext x3) g3) fun y H4 ⟨ρ4, S4, d4, x4, w4, e4, r4, g4⟩ => h2' W σ ρ4 S4 Z H4 d2 d4 u y Q w4 (x4.rep (x3.rep r2)) r4 g4
    | _ => exact g2.elim
theorem pf_chain (ho : OpR X (compareOp op) r) (h2 : Op2 T X r g) (ho' : OpR X (compareOp op') r') (h2' : Op2 T X r' g') (ha : PF T X W a Fa) (hb : PF T X W b Fb) (hc : PF T X W c Fc)
    (hm : lastMarks [op, op'] [b, c] = false := by with_unfolding_all rfl) : PF T X W (.Compare a [op, op'] [b, c] pos) (fChain g g' Fa Fb Fc) :=
  pe_imp (pe_chain ho ho' ha hb hc hm) fun σ H Q q => chain_lift h2 h2' q
theorem tf_chain (ho : OpR X (compareOp op) r) (h2 : Op2 T X r g) (ho' : OpR X (compareOp op') r') (h2' : Op2 T X r' g') (ha : PF T X W a Fa) (hb : PF T X W b Fb) (hc : PF T X W c Fc)
    (hm : lastMarks [op, op'] [b, c] = false := by with_unfolding_all rfl) : TF T X W (.Compare a [op, op'] [b, c] pos) (fB (fChain g g' Fa Fb Fc)) :=
  pt_imp (pt_chain ho ho' ha hb hc hm) fun σ H Q q => chain_lift h2 h2' (lift_test q)
end
end HT
set_option maxRecDepth 100000
set_option maxHeartbeats 800000
namespace HT
open PySem PySem.Spec L2
open PyProof.Rows hiding St

/-! ### -a, and (a, b, ..) = a value -/
def gNeg : D → Cm D
  | .int i => pure (.int (-i))
  | _ => stk
def sAsg (b : Bd) (F : FE) : FS := fun env S => sB env (F env S) fun d S' => match bindE b d env with
  | some e => .ok (.nx e) S'
  | none => .stuck
section
variable {T : Str → Addr} {X : Cx} {W : WX} {a e tg : Expr} {Fa Fe : FE} {pos : Pos} {b : Bd}
theorem pf_neg (ha : PF T X W a Fa) : PF T X W (.UnaryOp .USub a pos) (f1 gNeg Fa) :=
  pe_imp (pe_un un_neg ha) fun σ H Q q => lift1 (r := fun x H1 => rU (fun i => .int (-i)) x H1 Q) q fun ρ S Z H x v w r g => by
    cases x with
    | int i => exact ⟨i, r, g _ H ρ .refl w rfl⟩
    | _ => exact g.elim
theorem sf_asg (he : PF T X W e Fe) (hg : PG X tg (gBd X.K b)) (hs : swapsWithSole [tg] e pos.line X.env = pure false := by rfl) (hw : swappedStores [tg] e X.env = pure none := by rfl)
    (h1 : (assignEach [tg] X.env).map (·.2) = [assign tg X.env] := by rfl) : SF T X W (.Assign [tg] e pos) (sAsg b Fe) := ps_imp (ps_asg he hg hs hw h1) fun B σ H q => by
  obtain ⟨ρ, S, Z0, Z, env, a, g⟩ := q
  refine lift_imp (lift_sB a g) fun v H1 ⟨ρ1, S1, d1, x1, a1, r1, g1⟩ => ?_
  cases hb : bindE b d1 env with
  | none =>
    rw [hb] at g1
    exact g1.elim
  | some e2 =>
    rw [hb] at g1
    exact bd_runA r1 a1 hb fun σ' a2 => (show GoodF T X.K W B ρ1 Z0 Z H1 S1 (.nx e2) from g1) _ H1 ρ1 Z .refl a2
end
end HT
set_option maxRecDepth 100000
set_option maxHeartbeats 800000
namespace HT
open PySem PySem.Spec L2
open PyProof.Rows hiding St

/-! ### enumerate(a list) -/
def enumD (ds : List D) : List D := ds.mapIdx fun i d => .tup [.int (i : Nat), d]
/-- the list at a holds ds, now and at each later turn -/
def LsOk (T : Str → Addr) (K : PySem.W.Frag) (ρ : Nat → Option Addr) (Z : Hid) (H : Hp) (a : Addr) (ds : List D) (src : Src) : Prop :=
  ∀ ρ2 S2 (Z2 : Hid) H2, (∀ k a, ρ k = some a → ρ2 k = some a) → Sub (Fz ρ Z H) (Fz ρ2 Z2 H2) → (src.isHid = true → ∀ a, Z a → H2 a = H a) → Wd T K ρ2 S2 Z2 H2 → chk src S2 = true →
    ∃ vs, SqL K H2 a vs ∧ RepL T K ρ2 (Fz ρ2 Z2 H2) ds vs
section
variable {T : Str → Addr} {K : PySem.W.Frag} {ρ : Nat → Option Addr} {S : Sto} {Z : Hid} {H : Hp}
theorem ls_seq {a : Addr} {vs : List V} {ds : List D} (h : SqL K (Fz ρ Z H) a vs) (r : RepL T K ρ (Fz ρ Z H) ds vs) : LsOk T K ρ Z H a ds .fz := by
  intro ρ2 S2 Z2 H2 hc hs _ w2 _
  exact ⟨vs, Fz_sub.seqL (hs.seqL h), RepL.mono hc hs _ _ r⟩
theorem ls_own {a : Addr} {vs : List V} {ds : List D} (hz : Z a) (h : H a = some (.lst vs)) (r : RepL T K ρ (Fz ρ Z H) ds vs) : LsOk T K ρ Z H a ds .hid := by
  intro ρ2 S2 Z2 H2 hc hs hh w2 _
  exact ⟨vs, SqL.of ((hh rfl a hz).trans h), RepL.mono hc hs _ _ r⟩
theorem ls_cell {k : Nat} {a : Addr} {ds : List D} (hk : ρ k = some a) : LsOk T K ρ Z H a ds (.cl k (.lst ds)) := by
  intro ρ2 S2 Z2 H2 hc hs _ w2 hch
  have hch' : (match S2[k]? with
    | some c' => eqCO (.lst ds) c'
    | none => false) = true := hch
  cases e : S2[k]? with
  | none =>
    rw [e] at hch'
    cases hch'
  | some c' =>
    rw [e] at hch'
    have ec := eqCO_eq hch'
    subst ec
    obtain ⟨b, o, h1, h2, h3, h4⟩ := w2.cells k _ e
    rw [hc k a hk] at h1
    cases h1
    obtain ⟨vs, rfl, r2⟩ := h4
    exact ⟨vs, SqL.of h3, r2⟩
theorem it_enum {a : Addr} {ds : List D} {src : Src} (h : LsOk T K ρ Z H a ds src) : ItOk T K ρ Z H (Ite K a) (enumD ds) src := by
  intro ρ2 S2 Z2 H2 hc hs hh w2 hch i
  obtain ⟨vs, h2, r2⟩ := h ρ2 S2 Z2 H2 hc hs hh w2 hch
  refine ⟨fun d hd => ?_, fun hl => ⟨vs, h2, by rw [← r2.len]; simpa [enumD] using hl⟩⟩
  unfold enumD at hd
  rw [List.getElem?_mapIdx] at hd
  cases e : ds[i]? with
  | none =>
    rw [e] at hd
    cases hd
  | some d0 =>
    rw [e] at hd
    cases hd
    obtain ⟨v, hv, rv⟩ := r2.get e
    refine ⟨⟨vs, v, h2, hv⟩, fun x H3 y => ?_⟩
    obtain ⟨p, v', rfl, hp, rfl, hy⟩ := y
    have e2 := hy vs h2
    rw [hv] at e2
    cases e2
    obtain ⟨x3, w3, f⟩ := new_frz (o := .tup [.int (i : Nat), v]) w2 hp
    exact ⟨x3, w3, ⟨p, _, rfl, SqT.of f, RepL.cons rfl (RepL.one (x3.rep rv))⟩⟩
end
def kEnum : List D → Cm (List D × Src)
  | [d] => fun S => match walkD S d with
    | some p => (match d with
      | .tup _ => .stuck
      | _ => .ok (enumD p.1, p.2) S)
    | none => .stuck
  | _ => stk
def iEnumF (F : Env → Cm (List D)) : Env → Cm (List D × Src) := fun env S => (F env S).bnd kEnum
section
variable {T : Str → Addr} {X : Cx} {W : WX} {e : Expr} {pos tpos : Pos} {elts : List Expr} {kk : Nat}
theorem walk_ls {K : PySem.W.Frag} {ρ : Nat → Option Addr} {S : Sto} {Z : Hid} {H : Hp} {d : D} {v : V} {p : List D × Src} (w : Wd T K ρ S Z H) (r : Rep T K ρ (Fz ρ Z H) d v) (hw : walkD S d = some p) (nt : ∀ ds, d ≠ .tup ds) :
    ∃ a vs, v = .ref a ∧ SqL K H a vs ∧ LsOk T K ρ Z H a p.1 p.2 := by
  cases d with
  | lst ds =>
    cases hw
    obtain ⟨a, vs, rfl, q, q2⟩ := r
    exact ⟨a, vs, rfl, SqL.of (Fz_sub _ _ q), ls_seq (SqL.of q) q2⟩
  | klst ds =>
    cases hw
    obtain ⟨a, vs, rfl, q, q2⟩ := r
    exact ⟨a, vs, rfl, Fz_sub.seqL q, ls_seq q q2⟩
  | tup ds => exact absurd rfl (nt ds)
  | cell k =>
    cases e : S[k]? with
    | none =>
      have : walkD S (D.cell k) = none := by simp only [walkD, e]
      rw [this] at hw
      cases hw
    | some c =>
      cases c with
      | lst ds =>
        have h2 : walkD S (D.cell k) = some (ds, Src.cl k (.lst ds)) := by simp only [walkD, e]
        rw [h2] at hw
        cases hw
        obtain ⟨a, rfl, q⟩ := r
        obtain ⟨b, o, h1, h2, h3, h4⟩ := w.cells k _ e
        rw [q] at h1
        cases h1
        obtain ⟨vs, rfl, r2⟩ := h4
        exact ⟨a, vs, rfl, SqL.of h3, ls_cell q⟩
      | _ =>
        have : walkD S (D.cell k) = none := by simp only [walkD, e]
        rw [this] at hw
        cases hw
  | _ => cases hw
theorem if_enum {p : Pos} {Fa : Env → Cm (List D)} (hg : Gl X "enumerate") (hm : X.mg "enumerate" = none) (ha : AF T X W [e] Fa) (hs : starEach [e] X.env = [(false, eval e X.env)] := by rfl) :
    IF T X W (.Tuple elts kk tpos) (.Call (.Name "enumerate" p) [e] [] pos) (iEnumF Fa) := by
  refine pi_imp (pi_enum hg hm ha hs) fun σ H Qi q => ?_
  obtain ⟨ρ, S, Z, env, w, er, g⟩ := q
  refine lift_imp (lift_bndI w er g) fun v H1 ⟨ρ1, S1, ds, x1, w1, e1, r1, g1⟩ => ?_
  match ds, r1, g1 with
  | [d], ⟨v, us, e1, r2, r3⟩, g1 =>
    subst r3 e1
    cases hw : walkD S1 d with
    | none =>
      have : kEnum [d] S1 = .stuck := by simp only [kEnum, hw]
      rw [this] at g1
      exact g1.elim
    | some p =>
      have nt : ∀ ds, d ≠ .tup ds := by
        rintro ds rfl
        have : kEnum [.tup ds] S1 = .stuck := by simp only [kEnum, hw]
        rw [this] at g1
        exact g1.elim
      have e2 : kEnum [d] S1 = .ok (enumD p.1, p.2) S1 := by
        cases d with
        | tup ds => exact absurd rfl (nt ds)
        | _ => simp only [kEnum, hw]
      rw [e2] at g1
      obtain ⟨a, vs, rfl, q1, q2⟩ := walk_ls w1 r2 hw nt
      exact ⟨a, vs, rfl, q1, g1 _ H1 ρ1 .refl w1 (it_enum q2)⟩
  | [], _, g1 => exact g1.elim
  | _ :: _ :: _, _, g1 => exact g1.elim
end
end HT
set_option maxRecDepth 100000
set_option maxHeartbeats 800000
namespace HT
open PySem PySem.Spec L2
open PyProof.Rows hiding St

/-! ### names of the module that stand for an int, a text -/
section
variable {T : Str → Addr} {X : Cx} {W : WX} {pos : Pos}
theorem pf_kint {x : Str} {i : Int} {u : Value} (hg : Gl X x) (hm : X.mg x = some u) (hu : RelV (.int i) u) (hd : (x == ("__debug__" : Str)) = false := by decide) : PF T X W (.Name x pos) (fun _ => pure (.int i)) :=
  pf_const (pe_glob hg hm hu hd) fun ρ H => rfl
theorem pf_kstr {x : Str} {z : Str} {u : Value} (hg : Gl X x) (hm : X.mg x = some u) (hu : RelV (.str z) u) (hd : (x == ("__debug__" : Str)) = false := by decide) : PF T X W (.Name x pos) (fun _ => pure (.str z)) :=
  pf_const (pe_glob hg hm hu hd) fun ρ H => rfl
end
end HT
set_option maxRecDepth 100000
set_option maxHeartbeats 800000
namespace HT
open PySem PySem.Spec L2
open PyProof.Rows hiding St

/-! ### set(texts): each text once, in the order in which it was met -/
def addT (l : List Str) (z : Str) : List Str := if l.any (· == z) then l else l ++ [z]
def metT (l : List Str) : List Str := l.foldl addT []
theorem addT_any (l : List Str) (z k : Str) : (addT l z).any (· == k) = (l.any (· == k) || decide (k = z)) := by
  unfold addT
  split
  · rename_i h
    by_cases e : k = z
    · subst e; simp only [h, decide_true, Bool.or_true]
    · simp only [e, decide_false, Bool.or_false]
  · rw [List.any_append]
    by_cases e : k = z
    · subst e; simp
    · have q : (z == k) = false := by simpa using fun h : z = k => e h.symm
      simp [e, q]
theorem addT_len (l : List Str) (z : Str) : (addT l z).length = if l.any (· == z) = true then l.length else l.length + 1 := by
  unfold addT
  split <;> simp
theorem metT_take {l : List Str} {i : Nat} (h : i < l.length) : metT (l.take (i + 1)) = addT (metT (l.take i)) (l.getD i Str.empty) := by
  have e : l.getD i Str.empty = l[i] := by simp [List.getD, h]
  unfold metT
  rw [e, List.take_add_one, List.getElem?_eq_getElem h, Option.toList_some, List.foldl_append]
  rfl
theorem metT_len : ∀ (l a : List Str), (l.foldl addT a).length ≤ a.length + l.length
  | [], a => Nat.le_refl _
  | z :: l, a => by
    have h := metT_len l (addT a z)
    have h2 := addT_len a z
    simp only [List.foldl_cons, List.length_cons]
    split at h2 <;> omega
section
variable {prog : Program} {w : World} {A : Around} {R : Result → Shared → Prop} {I : Addr} {fp wr : List Addr} {G : Array GenState → Array GenState → Prop} {n : Nat} {P : Nat → Value → Prop} {St : Nat → Shared → Prop}
theorem loopT (wk : WalksS prog w A.in1 I fp wr G n P St) (B : Addr) (hB : B ∉ fp) (zs : List Str) (hz : zs.length = n) (hb : n + 1 < scanBound) (hv : ∀ i v, P i v → ∃ t, v = .str (zs.getD i Str.empty) t) :
    ∀ (k i : Nat) (s : Shared), n - i = k → i ≤ n → St i s → s.heap.SetOf (PySem.strKind prog w) B (fun x => (metT (zs.take i)).any (· == x)) (metT (zs.take i)).length →
      (∀ s', Moved (B :: wr) G s s' → s'.heap.SetOf (PySem.strKind prog w) B (fun x => (metT (zs.take n)).any (· == x)) (metT (zs.take n)).length → R (.ok (.ret .none)) s') →
      codeAny (model prog w) A (.builtin "set.update.loop" ⟨[.ref B, .ref I], []⟩) R s := by
  have nB : B ∉ wr := fun h => hB (wk.sub _ h)
  have up : ∀ b ∈ wr, b ∈ B :: wr := fun b q => List.mem_cons_of_mem _ q
  intro k
  induction k with
  | zero =>
    intro i s e0 e1 h0 h1 fin
    obtain rfl : i = n := by omega
    refine codeAny_builtin PyProof.Rows.F.entry_set_update_loop ((Around.under_plainId PyProof.Rows.F.plain_set_update_loop _).symm ▸ ?_)
    refine wpAny_bind (wk.done s _ _ h0 fun s1 mv => wpAny_pure (fin s1 (mv.mono up) ?_))
    obtain ⟨o, es, ep, t, ho, rest⟩ := h1
    exact ⟨o, es, ep, t, mv.heap B _ nB ho, rest⟩
  | succ k ih =>
    intro i s e0 e1 h0 h1 fin
    have lt : i < n := by omega
    refine codeAny_builtin PyProof.Rows.F.entry_set_update_loop ((Around.under_plainId PyProof.Rows.F.plain_set_update_loop _).symm ▸ ?_)
    refine wpAny_bind (wk.item i s _ _ lt h0 fun v s1 hp h2 mv => ?_)
    obtain ⟨t, rfl⟩ := hv i v hp
    have h3 : s1.heap.SetOf (PySem.strKind prog w) B (fun x => (metT (zs.take i)).any (· == x)) (metT (zs.take i)).length := by
      obtain ⟨o, es, ep, tb, ho, rest⟩ := h1
      exact ⟨o, es, ep, tb, mv.heap B _ nB ho, rest⟩
    refine wpAny_bind (wpAny_holding ?_)
    unfold setAdd
    refine wpAny_holding (wpAny_bind ((PySem.strKind prog w).pyHash (k := zs.getD i Str.empty) (strKind_is _ _ _ _) ?_))
    have room : (metT (zs.take i)).length + 1 < scanBound := by
      have q := metT_len (zs.take i) []
      rw [List.length_take] at q
      have q2 : (metT (zs.take i)).length ≤ 0 + min i zs.length := q
      omega
    refine wpAny_setAddHashed_of (knd := PySem.strKind prog w) (s := { s1 with toks := s1.toks + 1 }) (strKind_is _ _ _ _) rfl h3 room fun h' sb h4 => ?_
    have h5 : h'.SetOf (PySem.strKind prog w) B (fun x => (metT (zs.take (i + 1))).any (· == x)) (metT (zs.take (i + 1))).length :=
      SetOf_congr h4 (fun x => by rw [metT_take (by omega), addT_any]) (by rw [metT_take (by omega), addT_len])
    refine wpAny_pure ⟨plainId_quiet PyProof.Rows.F.plain_set_update_loop _, ih (i + 1) _ (by omega) lt (wk.frame _ s1 _ _ h2 (Nat.le_succ _) fun b q o e => ?_) h5 fun s2 mv2 h6 => fin s2 (Moved.trans wk.gtrans ((mv.mono up).then_heap (Nat.le_succ _) fun b o q e => ?_) mv2) h6⟩
    · exact (sb.2 b (fun h : b = B => hB (h ▸ q))).trans e
    · exact (sb.2 b (fun h : b = B => q (h ▸ List.mem_cons_self))).trans e
end
end HT
set_option maxRecDepth 100000
set_option maxHeartbeats 3200000
namespace HT
open PySem PySem.Spec L2
open PyProof.Rows hiding St

section
variable {prog : Program} {w : World} {A : Around} {E : Value → Shared → Prop} {s : Shared}
/-- a new set, empty -/
abbrev newSet (led : Bool) : Obj := { cls := .type "set", dict := none, data := .set #[] 0 (.fresh 0 0 led) }
/-- what set(zs) leaves behind -/
abbrev SetLeft (prog : Program) (w : World) (s : Shared) (zs : List Str) (h' : Heap) : Prop :=
  h'.SetOf (PySem.strKind prog w) s.heap.objs.size (fun x => (metT zs).any (· == x)) (metT zs).length ∧ ∀ b o, b < s.heap.objs.size → s.heap.get? b = some o → h'.get? b = some o
theorem call_setT {l : Addr} {its : Array Value} {zs : List Str} {Q : Value → Shared → Prop} (hh : A.handled = none) (hl : s.heap.IsList l its) (hi : PyProof.Rows.StrsAre its.toList zs) (hb : zs.length + 1 < scanBound)
    (k : ∀ (h' : Heap) (tk : Nat), SetLeft prog w s zs h' → Q (.ref s.heap.objs.size) { s with heap := h', toks := tk }) : wpAny (model prog w) A (call (.type "set") [.ref l]) Q E s := by
  obtain ⟨c, tl, mro⟩ := PySem.F.called_set.mro
  have made := PySem.F.called_set.made; have sub := PySem.F.called_set.sub
  refine wpAny_call (codeAny_of_tree (show wpAny _ _ (callAny (.type "set") _) _ _ _ from ?_))
  refine wpAny_pure ⟨Code.quiet_builtin _ (by decide +kernel), codeAny_builtin PySem.F.entry_type_call ((Around.under_plain (weight_type_call_type "set" [.ref l] []) rfl).symm ▸ ?_)⟩
  have a1 := PySem.F.called_set.notType; have a2 := PySem.F.called_set.canCreate; have a3 := PySem.F.typeCall_set_1 (.ref l)
  repeat (any_goals (first | assumption | wp_step))
  refine codeAny_mono (code_set_new_1 (.ref l) (E := E) (Q₁ := fun v s1 => ∃ led, v = .ref s.heap.objs.size ∧ s1 = { s with heap := s.heap.push (newSet led) }) fun led => ⟨led, rfl, rfl⟩) fun r s1 hr => ?_
  match r, hr with
  | .ok (.ret v), hr =>
    obtain ⟨led, rfl, rfl⟩ := hr
    have g0 : (s.heap.push (newSet led)).get? s.heap.objs.size = some (newSet led) := Heap.get?_push_size _ rfl
    have ty : Shared.TypeIs { s with heap := s.heap.push (newSet led) } (.ref s.heap.objs.size) "set" := ⟨_, g0, rfl⟩
    have b1 := PySem.F.called_set.init.lookup; have b2 := PySem.F.called_set.init.bind (.ref s.heap.objs.size)
    repeat (any_goals (first | assumption | wp_step))
    refine codeAny_mono (codeAny_call_builtin (R := wants (fun r s2 => r = .none ∧ ∃ h' tk, s2 = { s with heap := h', toks := tk } ∧ SetLeft prog w s zs h') E) PySem.F.called_set.init.plain PySem.F.entry_set_init (check_set_init_1 ty ?_)) fun r2 s2 hr2 => ?_
    · obtain ⟨⟨_, od, _, os⟩, ho, rfl, nl, rfl⟩ := hl
      have lt : l < s.heap.objs.size := Heap.lt_size ho
      have ho2 : (s.heap.push (newSet led)).get? l = some { cls := .type "list", dict := od, data := .seq its nl, slots := os } := Heap.get?_push_of_some _ ho
      have c1 := PySem.F.sub_list_set; have c2 := PySem.F.sub_list_frozenset
      have c3 : (Value.type "list" == Value.type "dict") = false := by decide
      have hl1 : (s.heap.push (newSet led)).IsList l its := ⟨_, ho2, rfl, nl, rfl⟩
      unfold Builtin.«set.__init__» noKeywords Builtin.Frozenset.updateFrom
      generalize hP : pyIter = PI
      wp_walk
      subst hP
      refine wpAny_pyIter_list hl1 (wpAny_bind (wpAny_runValue ?_))
      have hd3 : A.in1.in1.in1.handled = none := by simp [hh]
      have sz : (s.heap.push (newSet led)).objs.size = s.heap.objs.size + 1 := Heap.size_push ..
      have ne1 : l ≠ (s.heap.push (newSet led)).objs.size := sz.symm ▸ Nat.ne_of_lt (Nat.lt_succ_of_lt lt)
      have ne2 : s.heap.objs.size ∉ [(s.heap.push (newSet led)).objs.size, l] := fun q => by
        rcases List.mem_cons.mp q with e | q
        · exact absurd (e.trans sz) (Nat.ne_of_lt (Nat.lt_succ_self _))
        · exact absurd (List.mem_singleton.mp q) (Nat.ne_of_gt lt)
      have len : zs.length = its.size := by rw [← StrsAre.len_eq hi, Array.length_toList]
      have tk1 : zs.take its.size = zs := by rw [← len, List.take_length]
      refine loopT ((Walks.list hd3 _ l ne1 its).toS) s.heap.objs.size ne2 zs len (by omega) (fun i v hv => SS.strs_at hi i v ((Array.getElem?_toList).trans hv)) (its.size - 0) 0 _ (by omega) (Nat.zero_le _) ⟨⟨_, Heap.get?_push_size _ rfl, rfl, rfl⟩, hl1.push _⟩ ?start ?fin
      case start =>
        exact SetOf_congr ((PyProof.Rows.setObjOf_fresh (knd := PySem.strKind prog w) led).setOf (Heap.get?_push_of_some _ g0) (by unfold scanBound; omega)) (fun _ => rfl) rfl
      case fin =>
        intro s3 mv h3
        rw [tk1] at h3
        obtain ⟨h', g', d', tk', os'⟩ := s3
        obtain rfl : g' = s.gens := mv.gens
        obtain rfl : d' = s.drawn := mv.drawn
        obtain rfl : os' = s.os := mv.os
        refine wpAny_pure (show wpAny _ _ (ret Value.none) _ _ _ from wpAny_pure ⟨rfl, h', tk', rfl, h3, fun b o q e => ?_⟩)
        exact mv.heap b o (fun m => by
          rcases List.mem_cons.mp m with e | m
          · exact absurd e (Nat.ne_of_lt q)
          · exact absurd ((List.mem_singleton.mp m).trans sz) (Nat.ne_of_lt (Nat.lt_succ_of_lt q))) (Heap.get?_push_of_some _ (Heap.get?_push_of_some _ e))
    · match r2, hr2 with
      | .ok (.ret r), hr2 =>
        obtain ⟨rfl, h', tk, rfl, left⟩ := hr2
        repeat (any_goals (first | assumption | wp_step))
        exact k _ _ left
      | .error e, hr2 => exact hr2
  | .error e, hr => exact hr
end
end HT
set_option maxRecDepth 100000
set_option maxHeartbeats 800000
namespace HT
open PySem PySem.Spec L2
open PyProof.Rows hiding St

/-! ### len(set(texts)) -/
def tLenT (K : PySem.W.Frag) (ta : TE) : TE := fun σ H Q => ta σ H fun x H1 => ∃ l, ∃ zs : List Str, x = .ref l ∧ SqL K H1 l (zs.map V.str) ∧ zs.length < 4000 ∧ Q (.int (metT zs).length) H1
section
variable {X : Cx} {a : Expr} {ta : TE} {p p2 q pos : Pos}
theorem pe_lenT (hc : X.calm = true) (hg : Gl X "len") (hm : X.mg "len" = none) (hg2 : Gl X "set") (hm2 : X.mg "set" = none) (ha : PE X a ta)
    (na : starEach [a] X.env = (false, eval a X.env) :: starEach [] X.env := by rfl) : PE X (.Call (.Name "len" p) [.Call (.Name "set" p2) [a] [] q] [] pos) (tLenT X.K ta) := ⟨fun pins s σ H Q I h => by
  refine Call_ (ld_blt I hg hm boot_len (PyProof.Rows.callWith_builtin1 (PyProof.Rows.args_cons ?_ rfl) rfl rfl))
  refine Call_ (ld_blt I hg2 hm2 boot_set (PyProof.Rows.callWith_type1 (PyProof.Rows.args_cons (thn (ha.run pins s σ H _ I h) fun v s1 ⟨x, H1, I1, r1, q1⟩ => PyProof.Rows.args_nil ?_) na) na rfl))
  obtain ⟨l, zs, rfl, hq, hn, q1⟩ := q1
  cases r1
  obtain ⟨its, r, pl, _⟩ := I1.list hq
  have b0 : zs.length + 1 < scanBound := by unfold scanBound; omega
  have b1 : (metT zs).length ≤ 0 + zs.length := metT_len zs []
  refine call_setT (I1.ok.hd hc) pl.isList (by simpa using L2.strsAre_of r) b0 fun h' tk left => PyProof.Rows.args_nil ?_
  obtain ⟨⟨o, es, ep, t, ho, hex, hd, _, _, _, hf, hn2⟩, keep⟩ := left
  have I2 : Inv X pins σ H1 { s1 with heap := h', toks := tk } := I1.kept fun b o e => keep b o (Heap.lt_size e) e
  exact call_len_set ho hex hd hf (by rw [hn2]; unfold scanBound at b0; omega) ⟨.int (metT zs).length, H1, I2.tok _, ⟨_, by rw [hn2]⟩, q1⟩⟩
end
end HT
set_option maxRecDepth 100000
set_option maxHeartbeats 800000
namespace HT
open PySem PySem.Spec L2
open PyProof.Rows hiding St

/-! ### len(set(texts)) over trees -/
def strsD : List D → Option (List Str)
  | [] => some []
  | .str z :: r => (strsD r).map (z :: ·)
  | _ => none
def lstD (S : Sto) : D → Option (List D)
  | .lst ds => some ds
  | .klst ds => some ds
  | .cell k => (match S[k]? with
    | some (.lst ds) => some ds
    | _ => none)
  | _ => none
def gLenSet (x : D) : Cm D := fun S => match (lstD S x).bind strsD with
  | some zs => if zs.length < 4000 then .ok (.int (metT zs).length) S else .stuck
  | none => .stuck
section
variable {T : Str → Addr} {K : PySem.W.Frag} {ρ : Nat → Option Addr} {S : Sto} {Z : Hid} {H : Hp}
theorem strsD_ok : ∀ {ds : List D} {zs : List Str} {vs : List V}, RepL T K ρ (Fz ρ Z H) ds vs → strsD ds = some zs → vs = zs.map V.str
  | [], zs, vs, r, h => by
    cases h
    exact r
  | d :: ds, zs, vs, r, h => by
    obtain ⟨v, us, rfl, r1, r2⟩ := r
    cases d with
    | str z =>
      unfold strsD at h
      cases e : strsD ds with
      | none =>
        rw [e] at h
        cases h
      | some ys =>
        rw [e] at h
        cases h
        rw [strsD_ok r2 e, show v = V.str z from r1]
        rfl
    | _ => cases h
theorem lstD_ok {d : D} {v : V} {ds : List D} (w : Wd T K ρ S Z H) (r : Rep T K ρ (Fz ρ Z H) d v) (hw : lstD S d = some ds) : ∃ a vs, v = .ref a ∧ SqL K H a vs ∧ RepL T K ρ (Fz ρ Z H) ds vs := by
  cases d with
  | lst ds =>
    cases hw
    obtain ⟨a, vs, rfl, q, q2⟩ := r
    exact ⟨a, vs, rfl, SqL.of (Fz_sub _ _ q), q2⟩
  | klst ds =>
    cases hw
    obtain ⟨a, vs, rfl, q, q2⟩ := r
    exact ⟨a, vs, rfl, Fz_sub.seqL q, q2⟩
  | cell k =>
    cases e : S[k]? with
    | none =>
      have : lstD S (D.cell k) = none := by simp only [lstD, e]
      rw [this] at hw
      cases hw
    | some c =>
      cases c with
      | lst es =>
        have h2 : lstD S (D.cell k) = some es := by simp only [lstD, e]
        rw [h2] at hw
        cases hw
        obtain ⟨a, rfl, q⟩ := r
        obtain ⟨b, o, h1, h2, h3, h4⟩ := w.cells k _ e
        rw [q] at h1
        cases h1
        obtain ⟨vs, rfl, r2⟩ := h4
        exact ⟨a, vs, rfl, SqL.of h3, r2⟩
      | _ =>
        have : lstD S (D.cell k) = none := by simp only [lstD, e]
        rw [this] at hw
        cases hw
  | _ => cases hw
end
section
variable {T : Str → Addr} {X : Cx} {W : WX} {a : Expr} {Fa : FE} {p p2 q pos : Pos}
theorem pf_lenSet (hc : X.calm = true) (hg : Gl X "len") (hm : X.mg "len" = none) (hg2 : Gl X "set") (hm2 : X.mg "set" = none) (ha : PF T X W a Fa)
    (na : starEach [a] X.env = (false, eval a X.env) :: starEach [] X.env := by rfl) : PF T X W (.Call (.Name "len" p) [.Call (.Name "set" p2) [a] [] q] [] pos) (f1 gLenSet Fa) :=
  pe_imp (pe_lenT hc hg hm hg2 hm2 ha na) fun σ H Q q => lift1 (r := fun x H1 => ∃ l, ∃ zs : List Str, x = .ref l ∧ SqL X.K H1 l (zs.map V.str) ∧ zs.length < 4000 ∧ Q (.int (metT zs).length) H1) q fun ρ S Z H x v w r g => by
    unfold gLenSet at g
    cases e : lstD S x with
    | none =>
      rw [e] at g
      exact g.elim
    | some ds =>
      rw [e] at g
      cases e2 : strsD ds with
      | none =>
        simp only [Option.bind_some, e2] at g
        exact g.elim
      | some zs =>
        simp only [Option.bind_some, e2] at g
        obtain ⟨l, vs, rfl, q1, q2⟩ := lstD_ok w r e
        rw [strsD_ok q2 e2] at q1
        split at g
        · rename_i hn
          exact ⟨l, zs, rfl, q1, hn, g _ H ρ .refl w rfl⟩
        · exact g.elim
end
end HT
set_option maxRecDepth 100000
set_option maxHeartbeats 800000
namespace HT
open PySem PySem.Spec L2

/-! ### new cells become trees where a part ends -/
mutual
def melt0 (f : Nat → Option D) : D → Option D
  | .non => some .non
  | .bl b => some (.bl b)
  | .int i => some (.int i)
  | .str x => some (.str x)
  | .lst ds => (meltL f ds).map .lst
  | .klst ds => (meltL f ds).map .klst
  | .tup ds => (meltL f ds).map .tup
  | .obj C fs => (meltF f fs).map (.obj C)
  | .exn C fs => (meltF f fs).map (.exn C)
  | .dK kvs => (meltK f kvs).map .dK
  | .dT kvs => (meltT f kvs).map .dT
  | .cell k => f k
  | .glob x => some (.glob x)
  | .ty n => some (.ty n)
def meltL (f : Nat → Option D) : List D → Option (List D)
  | [] => some []
  | d :: ds => match melt0 f d, meltL f ds with
    | some a, some b => some (a :: b)
    | _, _ => none
def meltF (f : Nat → Option D) : List (Str × D) → Option (List (Str × D))
  | [] => some []
  | p :: ds => match melt0 f p.2, meltF f ds with
    | some a, some b => some ((p.1, a) :: b)
    | _, _ => none
def meltK (f : Nat → Option D) : List (Key × D) → Option (List (Key × D))
  | [] => some []
  | p :: ds => match melt0 f p.2, meltK f ds with
    | some a, some b => some ((p.1, a) :: b)
    | _, _ => none
def meltT (f : Nat → Option D) : List (List Key × D) → Option (List (List Key × D))
  | [] => some []
  | p :: ds => match melt0 f p.2, meltT f ds with
    | some a, some b => some ((p.1, a) :: b)
    | _, _ => none
end
def meltCO (f : Nat → Option D) : CO → Option CO
  | .lst ds => (meltL f ds).map .lst
  | .dK kvs => (meltK f kvs).map .dK
  | .dT kvs => (meltT f kvs).map .dT
  | .ins C fs => (meltF f fs).map (.ins C)
/-- a cell: below n it stays, else it is the tree of what it holds -/
def meltC (S : Sto) (n : Nat) : Nat → Nat → Option D
  | 0, _ => none
  | m + 1, k => if k < n then some (.cell k) else match S[k]? with
    | some c => (meltCO (meltC S n m) c).map frzD
    | none => none
/-- the elder cells: as they were, or with what is new in them molten -/
def mkeep (f : Nat → Option D) : List CO → List CO → Option (List CO)
  | [], _ => some []
  | c :: r, c' :: r' => match (if eqCO c c' = true then some c else meltCO f c'), mkeep f r r' with
    | some a, some b => some (a :: b)
    | _, _ => none
  | _ :: _, [] => none
/- no cell of n and above -/
mutual
def lowD (n : Nat) : D → Prop
  | .lst ds => lowL n ds
  | .klst ds => lowL n ds
  | .tup ds => lowL n ds
  | .obj _ fs => lowF n fs
  | .exn _ fs => lowF n fs
  | .dK kvs => lowK n kvs
  | .dT kvs => lowT n kvs
  | .cell k => k < n
  | .non => True
  | .bl _ => True
  | .int _ => True
  | .str _ => True
  | .glob _ => True
  | .ty _ => True
def lowL (n : Nat) : List D → Prop
  | [] => True
  | d :: ds => lowD n d ∧ lowL n ds
def lowF (n : Nat) : List (Str × D) → Prop
  | [] => True
  | p :: ds => lowD n p.2 ∧ lowF n ds
def lowK (n : Nat) : List (Key × D) → Prop
  | [] => True
  | p :: ds => lowD n p.2 ∧ lowK n ds
def lowT (n : Nat) : List (List Key × D) → Prop
  | [] => True
  | p :: ds => lowD n p.2 ∧ lowT n ds
end
def lowCO (n : Nat) : CO → Prop
  | .lst ds => lowL n ds
  | .dK kvs => lowK n kvs
  | .dT kvs => lowT n kvs
  | .ins _ fs => lowF n fs
def cutR (ρ : Nat → Option Addr) (n : Nat) : Nat → Option Addr := fun k => if k < n then ρ k else none
section
variable {T : Str → Addr} {K : PySem.W.Frag} {ρ ρ' : Nat → Option Addr} {F F' : Hp} {n : Nat} {f : Nat → Option D}
mutual
theorem Rep.low (hd : ∀ k a, ρ k = some a → k < n) : ∀ (d : D) (v : V), Rep T K ρ F d v → lowD n d
  | .lst ds, v, h => by obtain ⟨_, vs, _, _, r⟩ := h; exact RepL.low hd ds vs r
  | .klst ds, v, h => by obtain ⟨_, vs, _, _, r⟩ := h; exact RepL.low hd ds vs r
  | .tup ds, v, h => by obtain ⟨_, vs, _, _, r⟩ := h; exact RepL.low hd ds vs r
  | .obj C fs, v, h => by obtain ⟨_, _, vs, _, _, r⟩ := h; exact RepF.low hd fs vs r
  | .exn C fs, v, h => by obtain ⟨_, _, vs, _, _, _, r⟩ := h; exact RepF.low hd fs vs r
  | .dK kvs, v, h => by obtain ⟨_, vs, _, _, r⟩ := h; exact RepK.low hd kvs vs r
  | .dT kvs, v, h => by obtain ⟨_, vs, _, _, r⟩ := h; exact RepT.low hd kvs vs r
  | .cell k, v, h => by obtain ⟨a, _, q⟩ := h; exact hd k a q
  | .non, _, _ => trivial
  | .bl _, _, _ => trivial
  | .int _, _, _ => trivial
  | .str _, _, _ => trivial
  | .glob _, _, _ => trivial
  | .ty _, _, _ => trivial
theorem RepL.low (hd : ∀ k a, ρ k = some a → k < n) : ∀ (ds : List D) (vs : List V), RepL T K ρ F ds vs → lowL n ds
  | [], _, _ => trivial
  | d :: ds, vs, h => by obtain ⟨v, r, _, q, q2⟩ := h; exact ⟨Rep.low hd d v q, RepL.low hd ds r q2⟩
theorem RepF.low (hd : ∀ k a, ρ k = some a → k < n) : ∀ (ds : List (Str × D)) (vs : List (Str × V)), RepF T K ρ F ds vs → lowF n ds
  | [], _, _ => trivial
  | (x, d) :: ds, vs, h => by obtain ⟨v, r, _, q, q2⟩ := h; exact ⟨Rep.low hd d v q, RepF.low hd ds r q2⟩
theorem RepK.low (hd : ∀ k a, ρ k = some a → k < n) : ∀ (ds : List (Key × D)) (vs : List (Key × V)), RepK T K ρ F ds vs → lowK n ds
  | [], _, _ => trivial
  | (x, d) :: ds, vs, h => by obtain ⟨v, r, _, q, q2⟩ := h; exact ⟨Rep.low hd d v q, RepK.low hd ds r q2⟩
theorem RepT.low (hd : ∀ k a, ρ k = some a → k < n) : ∀ (ds : List (List Key × D)) (vs : List (List Key × V)), RepT T K ρ F ds vs → lowT n ds
  | [], _, _ => trivial
  | (x, d) :: ds, vs, h => by obtain ⟨v, r, _, q, q2⟩ := h; exact ⟨Rep.low hd d v q, RepT.low hd ds r q2⟩
end
theorem HObj.low (hd : ∀ k a, ρ k = some a → k < n) {c : CO} {o : HO} (h : HObj T K ρ F c o) : lowCO n c := by
  cases c with
  | lst ds => obtain ⟨vs, _, r⟩ := h; exact RepL.low hd _ _ r
  | dK kvs => obtain ⟨vs, _, r⟩ := h; exact RepK.low hd _ _ r
  | dT kvs => obtain ⟨vs, _, r⟩ := h; exact RepT.low hd _ _ r
  | ins C fs => obtain ⟨_, vs, _, r⟩ := h; exact RepF.low hd _ _ r
/- low things do without the new cells -/
mutual
theorem Rep.cut (hs : Sub F F') : ∀ (d : D) (v : V), lowD n d → Rep T K ρ F d v → Rep T K (cutR ρ n) F' d v
  | .lst ds, v, l, h => by obtain ⟨a, vs, e, q, r⟩ := h; exact ⟨a, vs, e, hs _ _ q, RepL.cut hs ds vs l r⟩
  | .klst ds, v, l, h => by obtain ⟨a, vs, e, q, r⟩ := h; exact ⟨a, vs, e, hs.seqL q, RepL.cut hs ds vs l r⟩
  | .tup ds, v, l, h => by obtain ⟨a, vs, e, q, r⟩ := h; exact ⟨a, vs, e, hs.seqT q, RepL.cut hs ds vs l r⟩
  | .obj C fs, v, l, h => by obtain ⟨a, dx, vs, e, q, r⟩ := h; exact ⟨a, dx, vs, e, hs _ _ q, RepF.cut hs fs vs l r⟩
  | .exn C fs, v, l, h => by obtain ⟨a, d, vs, e, q, q2, r⟩ := h; exact ⟨a, d, vs, e, hs _ _ q, q2.map fun b z => hs b _ z, RepF.cut hs fs vs l r⟩
  | .dK kvs, v, l, h => by obtain ⟨a, vs, e, q, r⟩ := h; exact ⟨a, vs, e, hs _ _ q, RepK.cut hs kvs vs l r⟩
  | .dT kvs, v, l, h => by obtain ⟨a, vs, e, q, r⟩ := h; exact ⟨a, vs, e, hs _ _ q, RepT.cut hs kvs vs l r⟩
  | .cell k, v, l, h => by
    obtain ⟨a, e, q⟩ := h
    exact ⟨a, e, by show (if k < n then ρ k else none) = _; rw [if_pos (show k < n from l)]; exact q⟩
  | .non, _, _, h => h
  | .bl _, _, _, h => h
  | .int _, _, _, h => h
  | .str _, _, _, h => h
  | .glob _, _, _, h => h
  | .ty _, _, _, h => h
theorem RepL.cut (hs : Sub F F') : ∀ (ds : List D) (vs : List V), lowL n ds → RepL T K ρ F ds vs → RepL T K (cutR ρ n) F' ds vs
  | [], _, _, h => h
  | d :: ds, vs, l, h => by obtain ⟨v, r, e, q, q2⟩ := h; exact ⟨v, r, e, Rep.cut hs d v l.1 q, RepL.cut hs ds r l.2 q2⟩
theorem RepF.cut (hs : Sub F F') : ∀ (ds : List (Str × D)) (vs : List (Str × V)), lowF n ds → RepF T K ρ F ds vs → RepF T K (cutR ρ n) F' ds vs
  | [], _, _, h => h
  | (x, d) :: ds, vs, l, h => by obtain ⟨v, r, e, q, q2⟩ := h; exact ⟨v, r, e, Rep.cut hs d v l.1 q, RepF.cut hs ds r l.2 q2⟩
theorem RepK.cut (hs : Sub F F') : ∀ (ds : List (Key × D)) (vs : List (Key × V)), lowK n ds → RepK T K ρ F ds vs → RepK T K (cutR ρ n) F' ds vs
  | [], _, _, h => h
  | (x, d) :: ds, vs, l, h => by obtain ⟨v, r, e, q, q2⟩ := h; exact ⟨v, r, e, Rep.cut hs d v l.1 q, RepK.cut hs ds r l.2 q2⟩
theorem RepT.cut (hs : Sub F F') : ∀ (ds : List (List Key × D)) (vs : List (List Key × V)), lowT n ds → RepT T K ρ F ds vs → RepT T K (cutR ρ n) F' ds vs
  | [], _, _, h => h
  | (x, d) :: ds, vs, l, h => by obtain ⟨v, r, e, q, q2⟩ := h; exact ⟨v, r, e, Rep.cut hs d v l.1 q, RepT.cut hs ds r l.2 q2⟩
end
theorem HObj.cut (hs : Sub F F') {c : CO} {o : HO} (l : lowCO n c) (h : HObj T K ρ F c o) : HObj T K (cutR ρ n) F' c o := by
  cases c with
  | lst ds => obtain ⟨vs, e, r⟩ := h; exact ⟨vs, e, RepL.cut hs _ _ l r⟩
  | dK kvs => obtain ⟨vs, e, r⟩ := h; exact ⟨vs, e, RepK.cut hs _ _ l r⟩
  | dT kvs => obtain ⟨vs, e, r⟩ := h; exact ⟨vs, e, RepT.cut hs _ _ l r⟩
  | ins C fs => obtain ⟨dx, vs, e, r⟩ := h; exact ⟨dx, vs, e, RepF.cut hs _ _ l r⟩
/- what is molten stands for the same -/
mutual
theorem Rep.melt (hs : Sub F F') (hf : ∀ k d a, f k = some d → ρ k = some a → Rep T K ρ' F' d (.ref a)) : ∀ (d : D) (v : V) (d' : D), melt0 f d = some d' → Rep T K ρ F d v → Rep T K ρ' F' d' v
  | .lst ds, v, d', m, h => by
    obtain ⟨a, vs, e, q, r⟩ := h
    obtain ⟨es, m1, rfl⟩ := Option.map_eq_some_iff.mp m
    exact ⟨a, vs, e, hs _ _ q, RepL.melt hs hf ds vs es m1 r⟩
  | .klst ds, v, d', m, h => by
    obtain ⟨a, vs, e, q, r⟩ := h
    obtain ⟨es, m1, rfl⟩ := Option.map_eq_some_iff.mp m
    exact ⟨a, vs, e, hs.seqL q, RepL.melt hs hf ds vs es m1 r⟩
  | .tup ds, v, d', m, h => by
    obtain ⟨a, vs, e, q, r⟩ := h
    obtain ⟨es, m1, rfl⟩ := Option.map_eq_some_iff.mp m
    exact ⟨a, vs, e, hs.seqT q, RepL.melt hs hf ds vs es m1 r⟩
  | .obj C fs, v, d', m, h => by
    obtain ⟨a, dx, vs, e, q, r⟩ := h
    obtain ⟨es, m1, rfl⟩ := Option.map_eq_some_iff.mp m
    exact ⟨a, dx, vs, e, hs _ _ q, RepF.melt hs hf fs vs es m1 r⟩
  | .exn C fs, v, d', m, h => by
    obtain ⟨a, d, vs, e, q, q2, r⟩ := h
    obtain ⟨es, m1, rfl⟩ := Option.map_eq_some_iff.mp m
    exact ⟨a, d, vs, e, hs _ _ q, q2.map fun b z => hs b _ z, RepF.melt hs hf fs vs es m1 r⟩
  | .dK kvs, v, d', m, h => by
    obtain ⟨a, vs, e, q, r⟩ := h
    obtain ⟨es, m1, rfl⟩ := Option.map_eq_some_iff.mp m
    exact ⟨a, vs, e, hs _ _ q, RepK.melt hs hf kvs vs es m1 r⟩
  | .dT kvs, v, d', m, h => by
    obtain ⟨a, vs, e, q, r⟩ := h
    obtain ⟨es, m1, rfl⟩ := Option.map_eq_some_iff.mp m
    exact ⟨a, vs, e, hs _ _ q, RepT.melt hs hf kvs vs es m1 r⟩
  | .cell k, v, d', m, h => by
    obtain ⟨a, e, q⟩ := h
    rw [e]
    exact hf k d' a m q
  | .non, v, d', m, h => by cases m; exact h
  | .bl _, v, d', m, h => by cases m; exact h
  | .int _, v, d', m, h => by cases m; exact h
  | .str _, v, d', m, h => by cases m; exact h
  | .glob _, v, d', m, h => by cases m; exact h
  | .ty _, v, d', m, h => by cases m; exact h
theorem RepL.melt (hs : Sub F F') (hf : ∀ k d a, f k = some d → ρ k = some a → Rep T K ρ' F' d (.ref a)) : ∀ (ds : List D) (vs : List V) (es : List D), meltL f ds = some es → RepL T K ρ F ds vs → RepL T K ρ' F' es vs
  | [], vs, es, m, h => by cases m; exact h
  | d :: ds, vs, es, m, h => by
    obtain ⟨v, r, e, q, q2⟩ := h
    unfold meltL at m
    cases h1 : melt0 f d with
    | none => rw [h1] at m; cases m
    | some a =>
      cases h2 : meltL f ds with
      | none => rw [h1, h2] at m; cases m
      | some b =>
        rw [h1, h2] at m
        cases m
        exact ⟨v, r, e, Rep.melt hs hf d v a h1 q, RepL.melt hs hf ds r b h2 q2⟩
theorem RepF.melt (hs : Sub F F') (hf : ∀ k d a, f k = some d → ρ k = some a → Rep T K ρ' F' d (.ref a)) : ∀ (ds : List (Str × D)) (vs : List (Str × V)) (es : List (Str × D)), meltF f ds = some es → RepF T K ρ F ds vs → RepF T K ρ' F' es vs
  | [], vs, es, m, h => by cases m; exact h
  | (x, d) :: ds, vs, es, m, h => by
    obtain ⟨v, r, e, q, q2⟩ := h
    unfold meltF at m
    dsimp only at m
    cases h1 : melt0 f d with
    | none => rw [h1] at m; cases m
    | some a =>
      cases h2 : meltF f ds with
      | none => rw [h1, h2] at m; cases m
      | some b =>
        rw [h1, h2] at m
        cases m
        exact ⟨v, r, e, Rep.melt hs hf d v a h1 q, RepF.melt hs hf ds r b h2 q2⟩
theorem RepK.melt (hs : Sub F F') (hf : ∀ k d a, f k = some d → ρ k = some a → Rep T K ρ' F' d (.ref a)) : ∀ (ds : List (Key × D)) (vs : List (Key × V)) (es : List (Key × D)), meltK f ds = some es → RepK T K ρ F ds vs → RepK T K ρ' F' es vs
  | [], vs, es, m, h => by cases m; exact h
  | (x, d) :: ds, vs, es, m, h => by
    obtain ⟨v, r, e, q, q2⟩ := h
    unfold meltK at m
    dsimp only at m
    cases h1 : melt0 f d with
    | none => rw [h1] at m; cases m
    | some a =>
      cases h2 : meltK f ds with
      | none => rw [h1, h2] at m; cases m
      | some b =>
        rw [h1, h2] at m
        cases m
        exact ⟨v, r, e, Rep.melt hs hf d v a h1 q, RepK.melt hs hf ds r b h2 q2⟩
theorem RepT.melt (hs : Sub F F') (hf : ∀ k d a, f k = some d → ρ k = some a → Rep T K ρ' F' d (.ref a)) : ∀ (ds : List (List Key × D)) (vs : List (List Key × V)) (es : List (List Key × D)), meltT f ds = some es → RepT T K ρ F ds vs → RepT T K ρ' F' es vs
  | [], vs, es, m, h => by cases m; exact h
  | (x, d) :: ds, vs, es, m, h => by
    obtain ⟨v, r, e, q, q2⟩ := h
    unfold meltT at m
    dsimp only at m
    cases h1 : melt0 f d with
    | none => rw [h1] at m; cases m
    | some a =>
      cases h2 : meltT f ds with
      | none => rw [h1, h2] at m; cases m
      | some b =>
        rw [h1, h2] at m
        cases m
        exact ⟨v, r, e, Rep.melt hs hf d v a h1 q, RepT.melt hs hf ds r b h2 q2⟩
end
theorem HObj.melt (hs : Sub F F') (hf : ∀ k d a, f k = some d → ρ k = some a → Rep T K ρ' F' d (.ref a)) {c c' : CO} {o : HO} (m : meltCO f c = some c') (h : HObj T K ρ F c o) : HObj T K ρ' F' c' o := by
  cases c with
  | lst ds =>
    obtain ⟨vs, e, r⟩ := h
    obtain ⟨es, m1, rfl⟩ := Option.map_eq_some_iff.mp m
    exact ⟨vs, e, RepL.melt hs hf _ _ _ m1 r⟩
  | dK kvs =>
    obtain ⟨vs, e, r⟩ := h
    obtain ⟨es, m1, rfl⟩ := Option.map_eq_some_iff.mp m
    exact ⟨vs, e, RepK.melt hs hf _ _ _ m1 r⟩
  | dT kvs =>
    obtain ⟨vs, e, r⟩ := h
    obtain ⟨es, m1, rfl⟩ := Option.map_eq_some_iff.mp m
    exact ⟨vs, e, RepT.melt hs hf _ _ _ m1 r⟩
  | ins C fs =>
    obtain ⟨dx, vs, e, r⟩ := h
    obtain ⟨es, m1, rfl⟩ := Option.map_eq_some_iff.mp m
    exact ⟨dx, vs, e, RepF.melt hs hf _ _ _ m1 r⟩
end
section
variable {T : Str → Addr} {K : PySem.W.Frag} {ρ ρ' : Nat → Option Addr} {Z : Hid} {H' : Hp} {n : Nat} {S S' S'' : Sto}
theorem fz_cut : Sub (Fz ρ' Z H') (Fz (cutR ρ' n) Z H') := fun a o h => by
  obtain ⟨h1, h2, h3⟩ := Fz_at h
  refine Fz_mk h1 h2 fun k e => ?_
  unfold cutR at e
  split at e
  · exact h3 k e
  · cases e
theorem meltC_ok (w : Wd T K ρ' S' Z H') : ∀ (m : Nat) (k : Nat) (d : D) (a : Addr), meltC S' n m k = some d → ρ' k = some a → Rep T K (cutR ρ' n) (Fz (cutR ρ' n) Z H') d (.ref a)
  | 0, k, d, a, h, _ => by cases h
  | m + 1, k, d, a, h, e => by
    unfold meltC at h
    split at h
    · rename_i hk
      cases h
      exact ⟨a, rfl, by unfold cutR; rw [if_pos hk]; exact e⟩
    · rename_i hk
      cases hc : S'[k]? with
      | none => rw [hc] at h; cases h
      | some c =>
        rw [hc] at h
        obtain ⟨c', m1, rfl⟩ := Option.map_eq_some_iff.mp h
        obtain ⟨b, o, h1, h2, h3, h4⟩ := w.cells k c hc
        rw [e] at h1
        cases h1
        have h5 := HObj.melt fz_cut (fun k d a => meltC_ok w m k d a) m1 h4
        refine h5.frzD (fun _ _ h => h) (Fz_mk h3 h2 fun j q => ?_)
        unfold cutR at q
        split at q
        · rename_i hj
          have := w.inj j k a q e
          omega
        · cases q
theorem mkeep_len {f : Nat → Option D} : ∀ {A B C : List CO}, mkeep f A B = some C → C.length = A.length
  | [], _, C, h => by cases h; rfl
  | c :: r, c' :: r', C, h => by
    unfold mkeep at h
    split at h
    · rename_i a b h1 h2
      cases h
      rw [List.length_cons, List.length_cons, mkeep_len h2]
    · cases h
  | _ :: _, [], C, h => by cases h
theorem mkeep_get {f : Nat → Option D} : ∀ {A B C : List CO} {k : Nat} {c : CO}, mkeep f A B = some C → C[k]? = some c → (A[k]? = some c ∧ B[k]? = some c) ∨ ∃ b, B[k]? = some b ∧ meltCO f b = some c
  | [], _, C, k, c, h, g => by cases h; cases g
  | c0 :: r, c' :: r', C, k, c, h, g => by
    unfold mkeep at h
    split at h
    · rename_i a b h1 h2
      cases h
      cases k with
      | zero =>
        simp at g
        subst g
        split at h1
        · rename_i he
          cases h1
          have := eqCO_eq he
          subst this
          exact .inl ⟨rfl, rfl⟩
        · exact .inr ⟨c', rfl, h1⟩
      | succ k =>
        have := mkeep_get (k := k) (c := c) h2 (by simpa using g)
        simpa using this
    · cases h
  | _ :: _, [], C, _, _, h, _ => by cases h
/-- the world with the new cells molten -/
theorem world_melt (hd : ∀ k a, ρ k = some a → k < S.length) (h0 : ∀ (k : Nat) (c : CO), S[k]? = some c → ∃ F o, HObj T K ρ F c o) (w : Wd T K ρ' S' Z H') {m : Nat} (hm : mkeep (meltC S' S.length m) S S' = some S'') :
    Wd T K (cutR ρ' S.length) S'' Z H' := by
  have hl := mkeep_len hm
  refine ⟨fun k a h => ?_, fun k c h => ?_, fun j k a h1 h2 => ?_, w.there⟩
  · unfold cutR at h
    split at h
    · omega
    · cases h
  · have hk : k < S.length := by
      have := (List.getElem?_eq_some_iff.mp h).1
      omega
    have hc : cutR ρ' S.length k = ρ' k := by unfold cutR; rw [if_pos hk]
    rcases mkeep_get hm h with ⟨h1, h2⟩ | ⟨b, h1, h2⟩
    · obtain ⟨a, o, g1, g2, g3, g4⟩ := w.cells k c h2
      obtain ⟨F, o0, g5⟩ := h0 k c h1
      exact ⟨a, o, hc.trans g1, g2, g3, g4.cut fz_cut (g5.low hd)⟩
    · obtain ⟨a, o, g1, g2, g3, g4⟩ := w.cells k b h1
      exact ⟨a, o, hc.trans g1, g2, g3, HObj.melt fz_cut (fun k d a => meltC_ok w m k d a) h2 g4⟩
  · unfold cutR at h1 h2
    split at h1
    · split at h2
      · exact w.inj j k a h1 h2
      · cases h2
    · cases h1
end
/-- the elder world's claims -/
theorem Wd.objs {T : Str → Addr} {K : PySem.W.Frag} {ρ : Nat → Option Addr} {S : Sto} {Z : Hid} {H : Hp} (w : Wd T K ρ S Z H) : ∀ (k : Nat) (c : CO), S[k]? = some c → ∃ F o, HObj T K ρ F c o := fun k c h => by
  obtain ⟨_, o, _, _, _, q⟩ := w.cells k c h
  exact ⟨_, o, q⟩
theorem cut_keep {ρ ρ' : Nat → Option Addr} {n : Nat} (hd : ∀ k a, ρ k = some a → k < n) (hc : ∀ k a, ρ k = some a → ρ' k = some a) : ∀ k a, ρ k = some a → cutR ρ' n k = some a := fun k a h => by
  unfold cutR
  rw [if_pos (hd k a h)]
  exact hc k a h

/-! ### answers molten -/
def mltR (S : Sto) : R D → R D
  | .ok d S' => if S'.length = S.length then .ok d S' else match melt0 (meltC S' S.length 6) d, mkeep (meltC S' S.length 6) S S' with
    | some d', some S'' => .ok d' S''
    | _, _ => .stuck
  | .exc C fs S' => if S'.length = S.length then .exc C fs S' else match meltF (meltC S' S.length 6) fs, mkeep (meltC S' S.length 6) S S' with
    | some fs', some S'' => .exc C fs' S''
    | _, _ => .stuck
  | .stuck => .stuck
/-- a def's function, its new cells molten -/
def mlt (M : List D → Cm D) : List D → Cm D := fun ds S => mltR S (M ds S)
/-- an expression's -/
def fMelt (F : FE) : FE := fun env S => mltR S (F env S)
section
variable {T : Str → Addr} {K : PySem.W.Frag} {W : WX} {σ : St} {ρ : Nat → Option Addr} {Z : Hid} {H : Hp} {S : Sto} {Q : VK}
theorem Good.melt (w : Wd T K ρ S Z H) {r : R D} (g : Good T K (rD T K) W σ Q ρ Z H (mltR S r)) : Good T K (rD T K) W σ Q ρ Z H r := by
  cases r with
  | ok d S' =>
    by_cases hl : S'.length = S.length
    · have e : mltR S (.ok d S') = .ok d S' := if_pos hl
      rw [e] at g
      exact g
    · have e : mltR S (.ok d S') = (match melt0 (meltC S' S.length 6) d, mkeep (meltC S' S.length 6) S S' with
        | some d', some S'' => .ok d' S''
        | _, _ => .stuck) := if_neg hl
      rw [e] at g
      cases h1 : melt0 (meltC S' S.length 6) d with
      | none =>
        rw [h1] at g
        exact g.elim
      | some d' =>
        cases h2 : mkeep (meltC S' S.length 6) S S' with
        | none =>
          rw [h1, h2] at g
          exact g.elim
        | some S'' =>
          rw [h1, h2] at g
          intro v H' ρ' x w' q
          refine g v H' (cutR ρ' S.length) ⟨cut_keep w.dom x.cells, fun a o h => fz_cut a o (x.frz a o h), x.hid⟩ (world_melt w.dom w.objs w' h2) ?_
          exact Rep.melt fz_cut (fun k d a => meltC_ok w' 6 k d a) d v d' h1 q
  | exc C fs S' =>
    by_cases hl : S'.length = S.length
    · have e : mltR S (.exc C fs S') = .exc C fs S' := if_pos hl
      rw [e] at g
      exact g
    · have e : mltR S (.exc C fs S') = (match meltF (meltC S' S.length 6) fs, mkeep (meltC S' S.length 6) S S' with
        | some fs', some S'' => .exc C fs' S''
        | _, _ => .stuck) := if_neg hl
      rw [e] at g
      cases h1 : meltF (meltC S' S.length 6) fs with
      | none =>
        rw [h1] at g
        exact g.elim
      | some fs' =>
        cases h2 : mkeep (meltC S' S.length 6) S S' with
        | none =>
          rw [h1, h2] at g
          exact g.elim
        | some S'' =>
          rw [h1, h2] at g
          intro dx vs H' ρ' x w' q1 q2
          refine g dx vs H' (cutR ρ' S.length) ⟨cut_keep w.dom x.cells, fun a o h => fz_cut a o (x.frz a o h), x.hid⟩ (world_melt w.dom w.objs w' h2) (q1.map fun b z => fz_cut b _ z) ?_
          exact RepF.melt fz_cut (fun k d a => meltC_ok w' 6 k d a) fs vs fs' h1 q2
  | stuck => exact g
end
theorem ft_melt {P : Program} {w : World} {K : PySem.W.Frag} {mg : Str → Option Value} {base : Heap} {T : Str → Addr} {k : Nat} {f : Addr} {fd : FuncData} {ps : List Str} {M : List D → Cm D} (F : FT P w K mg base T k f fd ps M) : FT P w K mg base T k f fd ps (mlt M) := by
  refine ⟨fun ds S h => ?_, fun A outer s H args us vs Q E lv e0 b r hl sp => ?_⟩
  · show mltR S (M ds S) = .stuck
    rw [F.len ds S h]
    rfl
  · obtain ⟨ρ, S, Z, ds, w, r2, g⟩ := sp
    exact F.run A outer s H args us vs Q E lv e0 b r hl ⟨ρ, S, Z, ds, w, r2, Good.melt w g⟩
theorem pf_melt {T : Str → Addr} {X : Cx} {W : WX} {e : Expr} {F : FE} (h : PF T X W e F) : PF T X W e (fMelt F) := pe_imp h fun σ H Q q => by
  obtain ⟨ρ, S, Z, env, w, er, g⟩ := q
  exact ⟨ρ, S, Z, env, w, er, Good.melt w g⟩
end HT
set_option maxRecDepth 100000
set_option maxHeartbeats 800000
namespace HT
open PySem PySem.Spec L2

/-! ### new objects, statements: their new cells molten -/
def mltO (S : Sto) : R CO → R CO
  | .ok c S' => if S'.length = S.length then .ok c S' else match meltCO (meltC S' S.length 6) c, mkeep (meltC S' S.length 6) S S' with
    | some c', some S'' => .ok c' S''
    | _, _ => .stuck
  | .exc C fs S' => if S'.length = S.length then .exc C fs S' else match meltF (meltC S' S.length 6) fs, mkeep (meltC S' S.length 6) S S' with
    | some fs', some S'' => .exc C fs' S''
    | _, _ => .stuck
  | .stuck => .stuck
def mltI (M : List D → Cm CO) : List D → Cm CO := fun ds S => mltO S (M ds S)
def oMelt (F : Env → Cm CO) : Env → Cm CO := fun env S => mltO S (F env S)
section
variable {T : Str → Addr} {K : PySem.W.Frag} {W : WX} {σ : St} {ρ : Nat → Option Addr} {Z : Hid} {H : Hp} {S : Sto} {Q : VK}
theorem GoodO.melt (w : Wd T K ρ S Z H) {r : R CO} (g : GoodO T K W σ Q ρ Z H (mltO S r)) : GoodO T K W σ Q ρ Z H r := by
  cases r with
  | ok c S' =>
    by_cases hl : S'.length = S.length
    · have e : mltO S (.ok c S') = .ok c S' := if_pos hl
      rw [e] at g
      exact g
    · have e : mltO S (.ok c S') = (match meltCO (meltC S' S.length 6) c, mkeep (meltC S' S.length 6) S S' with
        | some d', some S'' => .ok d' S''
        | _, _ => .stuck) := if_neg hl
      rw [e] at g
      cases h1 : meltCO (meltC S' S.length 6) c with
      | none =>
        rw [h1] at g
        exact g.elim
      | some d' =>
        cases h2 : mkeep (meltC S' S.length 6) S S' with
        | none =>
          rw [h1, h2] at g
          exact g.elim
        | some S'' =>
          rw [h1, h2] at g
          intro p H' ρ' n
          refine g p H' (cutR ρ' S.length) ⟨cut_keep w.dom n.cells, fun a o h => fz_cut a o (n.frz a o h), n.hid, world_melt w.dom w.objs n.w h2, n.nz, ?_⟩
          obtain ⟨o, q1, q2⟩ := n.obj
          exact ⟨o, q1, HObj.melt fz_cut (fun k d a => meltC_ok n.w 6 k d a) h1 q2⟩
  | exc C fs S' =>
    by_cases hl : S'.length = S.length
    · have e : mltO S (.exc C fs S') = .exc C fs S' := if_pos hl
      rw [e] at g
      exact g
    · have e : mltO S (.exc C fs S') = (match meltF (meltC S' S.length 6) fs, mkeep (meltC S' S.length 6) S S' with
        | some fs', some S'' => .exc C fs' S''
        | _, _ => .stuck) := if_neg hl
      rw [e] at g
      cases h1 : meltF (meltC S' S.length 6) fs with
      | none =>
        rw [h1] at g
        exact g.elim
      | some fs' =>
        cases h2 : mkeep (meltC S' S.length 6) S S' with
        | none =>
          rw [h1, h2] at g
          exact g.elim
        | some S'' =>
          rw [h1, h2] at g
          intro dx vs H' ρ' x w' q1 q2
          refine g dx vs H' (cutR ρ' S.length) ⟨cut_keep w.dom x.cells, fun a o h => fz_cut a o (x.frz a o h), x.hid⟩ (world_melt w.dom w.objs w' h2) (q1.map fun b z => fz_cut b _ z) ?_
          exact RepF.melt fz_cut (fun k d a => meltC_ok w' 6 k d a) fs vs fs' h1 q2
  | stuck => exact g
end
theorem fi_melt {P : Program} {w : World} {K : PySem.W.Frag} {mg : Str → Option Value} {base : Heap} {T : Str → Addr} {k : Nat} {f : Addr} {fd : FuncData} {ps : List Str} {C : Str} {M : List D → Cm CO} (F : FI P w K mg base T k f fd ps C M) : FI P w K mg base T k f fd ps C (mltI M) := by
  refine ⟨fun ds S h => ?_, fun A outer s H args us vs Q E lv e0 b r hl sp => ?_⟩
  · show mltO S (M ds S) = .stuck
    rw [F.len ds S h]
    rfl
  · obtain ⟨ρ, S, Z, H0, x, dx, rest, ds, Qo, q1, q2, q3, q4, q5, w, r2, g, q6⟩ := sp
    exact F.run A outer s H args us vs Q E lv e0 b r hl ⟨ρ, S, Z, H0, x, dx, rest, ds, Qo, q1, q2, q3, q4, q5, w, r2, GoodO.melt w g, q6⟩
theorem of_melt {T : Str → Addr} {X : Cx} {W : WX} {e : Expr} {F : Env → Cm CO} (h : OF T X W e F) : OF T X W e (oMelt F) := pe_imp h fun σ H Q q => by
  obtain ⟨ρ, S, Z, env, w, er, g⟩ := q
  exact ⟨ρ, S, Z, env, w, er, GoodO.melt w g⟩

def meltSl (f : Nat → Option D) : Sl → Option Sl
  | .un => some .un
  | .val d => (melt0 f d).map .val
  | .own c => (meltCO f c).map .own
  | .slf c => (meltCO f c).map .slf
def meltE (f : Nat → Option D) : Env → Option Env
  | [] => some []
  | s :: r => match meltSl f s, meltE f r with
    | some a, some b => some (a :: b)
    | _, _ => none
def meltFl (f : Nat → Option D) : Fl → Option Fl
  | .nx e => (meltE f e).map .nx
  | .bk e => (meltE f e).map .bk
  | .ct e => (meltE f e).map .ct
  | .rt d => (melt0 f d).map .rt
  | .xc e C fs => match meltE f e, meltF f fs with
    | some e', some fs' => some (.xc e' C fs')
    | _, _ => none
def mltF (S : Sto) : R Fl → R Fl
  | .ok d S' => if S'.length = S.length then .ok d S' else match meltFl (meltC S' S.length 6) d, mkeep (meltC S' S.length 6) S S' with
    | some d', some S'' => .ok d' S''
    | _, _ => .stuck
  | .exc C fs S' => .exc C fs S'
  | .stuck => .stuck
/-- a statement, its new cells molten -/
def sMelt (F : FS) : FS := fun env S => mltF S (F env S)
section
variable {T : Str → Addr} {K : PySem.W.Frag} {W : WX} {B : Ends} {σ : St} {ρ ρ' : Nat → Option Addr} {Z0 Z Z' : Hid} {H H' : Hp} {S S' S'' : Sto} {env env' : Env} {f : Nat → Option D}
theorem meltE_len : ∀ {e e' : Env}, meltE f e = some e' → e'.length = e.length
  | [], e', h => by cases h; rfl
  | s :: r, e', h => by
    unfold meltE at h
    split at h
    · rename_i a b h1 h2
      cases h
      rw [List.length_cons, List.length_cons, meltE_len h2]
    · cases h
theorem meltE_get : ∀ {e e' : Env} {i : Nat} {s : Sl}, meltE f e = some e' → e'[i]? = some s → ∃ s0, e[i]? = some s0 ∧ meltSl f s0 = some s
  | [], e', i, s, h, g => by cases h; cases g
  | s0 :: r, e', i, s, h, g => by
    unfold meltE at h
    split at h
    · rename_i a b h1 h2
      cases h
      cases i with
      | zero =>
        simp at g
        subst g
        exact ⟨s0, rfl, h1⟩
      | succ i =>
        obtain ⟨s1, q1, q2⟩ := meltE_get (i := i) h2 (by simpa using g)
        exact ⟨s1, by simpa using q1, q2⟩
    · cases h
theorem sl_val {s0 : Sl} {d : D} (h : meltSl f s0 = some (.val d)) : ∃ d0, s0 = .val d0 ∧ melt0 f d0 = some d := by
  cases s0 with
  | un => cases h
  | val d0 =>
    obtain ⟨a, h1, h2⟩ := Option.map_eq_some_iff.mp h
    cases h2
    exact ⟨d0, rfl, h1⟩
  | own c => obtain ⟨a, h1, h2⟩ := Option.map_eq_some_iff.mp h; cases h2
  | slf c => obtain ⟨a, h1, h2⟩ := Option.map_eq_some_iff.mp h; cases h2
theorem sl_own {s0 : Sl} {c : CO} (h : meltSl f s0 = some (.own c)) : ∃ c0, s0 = .own c0 ∧ meltCO f c0 = some c := by
  cases s0 with
  | un => cases h
  | val d0 => obtain ⟨a, h1, h2⟩ := Option.map_eq_some_iff.mp h; cases h2
  | own c0 =>
    obtain ⟨a, h1, h2⟩ := Option.map_eq_some_iff.mp h
    cases h2
    exact ⟨c0, rfl, h1⟩
  | slf c => obtain ⟨a, h1, h2⟩ := Option.map_eq_some_iff.mp h; cases h2
theorem sl_slf {s0 : Sl} {c : CO} (h : meltSl f s0 = some (.slf c)) : ∃ c0, s0 = .slf c0 ∧ meltCO f c0 = some c := by
  cases s0 with
  | un => cases h
  | val d0 => obtain ⟨a, h1, h2⟩ := Option.map_eq_some_iff.mp h; cases h2
  | own c => obtain ⟨a, h1, h2⟩ := Option.map_eq_some_iff.mp h; cases h2
  | slf c0 =>
    obtain ⟨a, h1, h2⟩ := Option.map_eq_some_iff.mp h
    cases h2
    exact ⟨c0, rfl, h1⟩
theorem At.melt (a : At T K ρ' S' Z0 Z' H' σ env) (hm : mkeep (meltC S' S.length 6) S S' = some S'') (he : meltE (meltC S' S.length 6) env = some env') (w0 : Wd T K ρ S Z H) : At T K (cutR ρ' S.length) S'' Z0 Z' H' σ env' := by
  refine ⟨world_melt w0.dom w0.objs a.w hm, ⟨fun i d h => ?_, fun i c h => ?_, fun i c h => ?_, by rw [meltE_len he]; exact a.e.len⟩, ⟨a.o.sub, fun i c b h1 h2 => ?_, fun i j c c' b h1 h2 h3 h4 => ?_, a.o.me, fun i c h => ?_, fun i j c c' b h1 h2 h3 => ?_, fun i j c c' h1 h2 => ?_⟩⟩
  · obtain ⟨s0, q1, q2⟩ := meltE_get he h
    obtain ⟨d0, rfl, q3⟩ := sl_val q2
    obtain ⟨v, q4, q5⟩ := a.e.val i d0 q1
    exact ⟨v, q4, Rep.melt fz_cut (fun k d b => meltC_ok a.w 6 k d b) d0 v d q3 q5⟩
  · obtain ⟨s0, q1, q2⟩ := meltE_get he h
    obtain ⟨c0, rfl, q3⟩ := sl_own q2
    obtain ⟨b, o, q4, q5, q6, q7⟩ := a.e.own i c0 q1
    exact ⟨b, o, q4, q5, q6, HObj.melt fz_cut (fun k d b => meltC_ok a.w 6 k d b) q3 q7⟩
  · obtain ⟨s0, q1, q2⟩ := meltE_get he h
    obtain ⟨c0, rfl, q3⟩ := sl_slf q2
    obtain ⟨o, q4, q5, q6, q7⟩ := a.e.slf i c0 q1
    exact ⟨o, q4, q5, q6, HObj.melt fz_cut (fun k d b => meltC_ok a.w 6 k d b) q3 q7⟩
  · obtain ⟨s0, q1, q2⟩ := meltE_get he h1
    obtain ⟨c0, rfl, q3⟩ := sl_own q2
    exact a.o.own i c0 b q1 h2
  · obtain ⟨s0, q1, q2⟩ := meltE_get he h1
    obtain ⟨c0, rfl, q3⟩ := sl_own q2
    obtain ⟨s1, p1, p2⟩ := meltE_get he h2
    obtain ⟨c1, rfl, p3⟩ := sl_own p2
    exact a.o.apart i j c0 c1 b q1 p1 h3 h4
  · obtain ⟨s0, q1, q2⟩ := meltE_get he h
    obtain ⟨c0, rfl, q3⟩ := sl_slf q2
    exact a.o.slf i c0 q1
  · obtain ⟨s0, q1, q2⟩ := meltE_get he h1
    obtain ⟨c0, rfl, q3⟩ := sl_own q2
    obtain ⟨s1, p1, p2⟩ := meltE_get he h2
    obtain ⟨c1, rfl, p3⟩ := sl_slf p2
    exact a.o.apart2 i j c0 c1 b q1 p1 h3
  · obtain ⟨s0, q1, q2⟩ := meltE_get he h1
    obtain ⟨c0, rfl, q3⟩ := sl_slf q2
    obtain ⟨s1, p1, p2⟩ := meltE_get he h2
    obtain ⟨c1, rfl, p3⟩ := sl_slf p2
    exact a.o.one i j c0 c1 q1 p1
theorem ExtS.cut (w0 : Wd T K ρ S Z H) (x : ExtS ρ Z0 Z H ρ' Z' H') : ExtS ρ Z0 Z H (cutR ρ' S.length) Z' H' := ⟨cut_keep w0.dom x.cells, fun a o h => fz_cut a o (x.frz a o h), x.hid⟩
theorem GoodS.melt (w0 : Wd T K ρ S Z H) {r : R Fl} (g : GoodS T K W B ρ Z0 Z H (mltF S r)) : GoodS T K W B ρ Z0 Z H r := by
  cases r with
  | ok d S' =>
    by_cases hl : S'.length = S.length
    · have e : mltF S (.ok d S') = .ok d S' := if_pos hl
      rw [e] at g
      exact g
    · have e : mltF S (.ok d S') = (match meltFl (meltC S' S.length 6) d, mkeep (meltC S' S.length 6) S S' with
        | some d', some S'' => .ok d' S''
        | _, _ => .stuck) := if_neg hl
      rw [e] at g
      cases h1 : meltFl (meltC S' S.length 6) d with
      | none =>
        rw [h1] at g
        exact g.elim
      | some d' =>
        cases h2 : mkeep (meltC S' S.length 6) S S' with
        | none =>
          rw [h1, h2] at g
          exact g.elim
        | some S'' =>
          rw [h1, h2] at g
          cases d with
          | nx e =>
            obtain ⟨e', m, rfl⟩ := Option.map_eq_some_iff.mp h1
            exact fun σ' H' ρ' Z' x a => g σ' H' _ Z' (x.cut w0) (At.melt a h2 m w0)
          | bk e =>
            obtain ⟨e', m, rfl⟩ := Option.map_eq_some_iff.mp h1
            exact fun σ' H' ρ' Z' x a => g σ' H' _ Z' (x.cut w0) (At.melt a h2 m w0)
          | ct e =>
            obtain ⟨e', m, rfl⟩ := Option.map_eq_some_iff.mp h1
            exact fun σ' H' ρ' Z' x a => g σ' H' _ Z' (x.cut w0) (At.melt a h2 m w0)
          | rt d =>
            obtain ⟨e', m, rfl⟩ := Option.map_eq_some_iff.mp h1
            exact fun v H' ρ' Z' x z w q => g v H' _ Z' (x.cut w0) z (world_melt w0.dom w0.objs w h2) (Rep.melt fz_cut (fun k d b => meltC_ok w 6 k d b) d v e' m q)
          | xc en C fs =>
            cases m1 : meltE (meltC S' S.length 6) en with
            | none =>
              have : meltFl (meltC S' S.length 6) (.xc en C fs) = none := by simp only [meltFl, m1]
              rw [this] at h1
              cases h1
            | some e' =>
              cases m2 : meltF (meltC S' S.length 6) fs with
              | none =>
                have : meltFl (meltC S' S.length 6) (.xc en C fs) = none := by simp only [meltFl, m1, m2]
                rw [this] at h1
                cases h1
              | some fs' =>
                have : meltFl (meltC S' S.length 6) (.xc en C fs) = some (.xc e' C fs') := by simp only [meltFl, m1, m2]
                rw [this] at h1
                cases h1
                exact fun σ' dx vs H' ρ' Z' x a q1 q2 => g σ' dx vs H' _ Z' (x.cut w0) (At.melt a h2 m1 w0) (q1.map fun b z => fz_cut b _ z) (RepF.melt fz_cut (fun k d b => meltC_ok a.w 6 k d b) fs vs fs' m2 q2)
  | exc C fs S' => exact g
  | stuck => exact g
end
theorem sf_melt {T : Str → Addr} {X : Cx} {W : WX} {st : Stmt} {F : FS} (h : SF T X W st F) : SF T X W st (sMelt F) := ps_imp h fun B σ H q => by
  obtain ⟨ρ, S, Z0, Z, env, a, g⟩ := q
  exact ⟨ρ, S, Z0, Z, env, a, GoodS.melt a.w g⟩
theorem sfs_melt {T : Str → Addr} {X : Cx} {W : WX} {st : List Stmt} {F : FS} (h : SFs T X W st F) : SFs T X W st (sMelt F) := pss_imp h fun B σ H q => by
  obtain ⟨ρ, S, Z0, Z, env, a, g⟩ := q
  exact ⟨ρ, S, Z0, Z, env, a, GoodS.melt a.w g⟩
end HT
set_option maxRecDepth 100000
set_option maxHeartbeats 800000
namespace HT
open PySem PySem.Spec L2
open PyProof.Rows hiding St

/-! ### list + list, list * int as new objects -/
def gAddL (x y : D) : Cm CO := fun S => match asLT S x, asLT S y with
  | some a, some b => if a.length + b.length ≤ sizeLine then .ok (.lst (a ++ b)) S else .stuck
  | _, _ => .stuck
def gMulL (x y : D) : Cm CO := fun S => match asLT S x, y with
  | some a, .int k => if -(2 ^ 63) ≤ k ∧ k < 2 ^ 63 ∧ a.length * k.toNat ≤ sizeLine then .ok (.lst (List.replicate k.toNat a).flatten) S else .stuck
  | _, _ => .stuck
def f2O (g : D → D → Cm CO) (Fa Fb : FE) : Env → Cm CO := fun env S => (Fa env S).bnd fun x S1 => (Fb env S1).bnd fun y => g x y
section
variable {T : Str → Addr} {X : Cx} {W : WX} {a b : Expr} {Fa Fb : FE} {pos : Pos}
theorem of_add (ha : PF T X W a Fa) (hb : PF T X W b Fb) : OF T X W (.BinOp a .Add b pos) (f2O gAddL Fa Fb) := pe_imp (pe_op op_cat ha hb) fun σ H Q q => by
  obtain ⟨ρ, S, Z, env, w, er, g⟩ := q
  refine lift_imp (lift_bndO w er g) fun v H1 ⟨ρ1, S1, d1, x1, w1, e1, r1, g1⟩ => ?_
  refine lift_imp (lift_bndO w1 e1 g1) fun u H2 ⟨ρ2, S2, d2, x2, w2, e2, r2, g2⟩ => ?_
  unfold gAddL at g2
  split at g2
  · rename_i xs ys hx hy
    split at g2
    · rename_i hl
      obtain ⟨p, vs, rfl, h1, h2⟩ := asLT_ok w2 (x2.rep r1) hx
      obtain ⟨q, us, rfl, h3, h4⟩ := asLT_ok w2 r2 hy
      exact ⟨p, q, vs, us, rfl, rfl, h1, h3, by rw [← h2.len, ← h4.len]; exact hl, fun l hl => g2 l _ ρ2 (new_neu w2 hl ⟨_, rfl, h2.app h4⟩)⟩
    · exact g2.elim
  · exact g2.elim
theorem of_mul (ha : PF T X W a Fa) (hb : PF T X W b Fb) : OF T X W (.BinOp a .Mult b pos) (f2O gMulL Fa Fb) := pe_imp (pe_op op_rep ha hb) fun σ H Q q => by
  obtain ⟨ρ, S, Z, env, w, er, g⟩ := q
  refine lift_imp (lift_bndO w er g) fun v H1 ⟨ρ1, S1, d1, x1, w1, e1, r1, g1⟩ => ?_
  refine lift_imp (lift_bndO w1 e1 g1) fun u H2 ⟨ρ2, S2, d2, x2, w2, e2, r2, g2⟩ => ?_
  unfold gMulL at g2
  split at g2
  · rename_i xs k hx
    split at g2
    · rename_i hl
      obtain ⟨c1, c2, c3⟩ := hl
      obtain ⟨p, vs, rfl, h1, h2⟩ := asLT_ok w2 (x2.rep r1) hx
      exact ⟨p, k, vs, rfl, r2, h1, c1, c2, by rw [← h2.len]; exact c3, fun l hl => g2 l _ ρ2 (new_neu w2 hl ⟨_, rfl, h2.flat _⟩)⟩
    · exact g2.elim
  · exact g2.elim
end
end HT
set_option maxRecDepth 100000
set_option maxHeartbeats 800000
namespace HT
open PySem PySem.Spec L2
open PyProof.Rows hiding St

/-! ### slices of anything; xs[::-1] -/
def gSl (d : D) (l h : Option Int) : Cm D := fun S => match d with
  | .tup ds => if HT.sIx ds.length 0 l = 0 ∧ HT.sIx ds.length ds.length h = ds.length then .ok (.tup ds) S else .ok (.tup (cutD ds l h)) S
  | .str z => if z.length ≤ sizeLine then .ok (.str (cutS z l h)) S else .stuck
  | d => match asL S d with
    | some ds => .ok (.lst (cutD ds l h)) S
    | none => .stuck
def gRev (d : D) : Cm CO := fun S => match asL S d with
  | some ds => .ok (.lst ds.reverse) S
  | none => .stuck
def f1O (g : D → Cm CO) (Fa : FE) : Env → Cm CO := fun env S => (Fa env S).bnd fun x => g x
section
variable {T : Str → Addr} {X : Cx} {W : WX} {e : Expr} {lo hi : Option Expr} {Fe : FE} {Fl Fh : Env → Cm (Option Int)} {pos p2 : Pos}
theorem pf_sl (he : PF T X W e Fe) (hl : POF T X W lo Fl) (hh : POF T X W hi Fh) : PF T X W (.Subscript e (.Slice lo hi none p2) pos) (f3 gSl Fe Fl Fh) := pe_imp (pe_slice (SlR.or sl_list (SlR.or sl_tupA sl_str)) he hl hh) fun σ H Q q => by
  obtain ⟨ρ, S, Z, env, w, er, g⟩ := q
  refine lift_imp (lift_bnd w er g) fun v H1 ⟨ρ1, S1, d1, x1, w1, e1, r1, g1⟩ => ?_
  refine lift_imp (lift_bnd w1 e1 g1) fun l H2 ⟨ρ2, S2, d2, x2, w2, e2, r2, g2⟩ => ?_
  refine lift_imp (lift_bnd w2 e2 g2) fun u H3 ⟨ρ3, S3, d3, x3, w3, e3, r3, g3⟩ => ?_
  have r2' : d2 = l := r2
  have r3' : d3 = u := r3
  subst r2' r3'
  have rv := (x2.trans x3).rep r1
  unfold gSl at g3
  dsimp only at g3
  split at g3
  · rename_i ds
    obtain ⟨a, vs, rfl, h1, h2⟩ := id rv
    refine .inr (.inl ⟨a, vs, rfl, Fz_sub.seqT h1, fun hc => ?_, fun hc p hp => ?_⟩)
    · rw [← h2.len] at hc
      rw [if_pos hc] at g3
      exact g3.now w3 rv
    · rw [← h2.len] at hc
      rw [if_neg hc] at g3
      obtain ⟨x4, w4, f⟩ := new_frz (o := .tup (cutV vs d2 d3)) w3 hp
      exact g3 _ _ ρ3 x4 w4 ⟨p, _, rfl, SqT.of f, x4.repL (cutD_rep h2)⟩
  · split at g3
    · rename_i hz
      cases rv
      exact .inr (.inr ⟨_, rfl, hz, g3.now w3 rfl⟩)
    · exact g3.elim
  · split at g3
    · rename_i ds hds
      obtain ⟨a, vs, rfl, h1, h2⟩ := asL_ok w3 rv hds
      refine .inl ⟨a, vs, rfl, h1, fun p hp => ?_⟩
      obtain ⟨x4, w4, f⟩ := new_frz (o := .lst (cutV vs d2 d3)) w3 hp
      exact g3 _ _ ρ3 x4 w4 ⟨p, _, rfl, f, x4.repL (cutD_rep h2)⟩
    · exact g3.elim
theorem of_rev {k : Nat} {p1 p3 : Pos} (he : PF T X W e Fe) : OF T X W (.Subscript e (.Slice none none (some (.UnaryOp .USub (.Constant (.int 1) k p1) p2)) p3) pos) (f1O gRev Fe) := pe_imp (pe_revL he) fun σ H Q q => by
  obtain ⟨ρ, S, Z, env, w, er, g⟩ := q
  refine lift_imp (lift_bndO w er g) fun v H1 ⟨ρ1, S1, d1, x1, w1, e1, r1, g1⟩ => ?_
  unfold gRev at g1
  try dsimp only at g1
  split at g1
  · rename_i ds hds
    obtain ⟨a, vs, rfl, h1, h2⟩ := asL_ok w1 r1 hds
    exact ⟨a, vs, rfl, h1, fun p hp => g1 p _ ρ1 (new_neu w1 hp ⟨_, rfl, h2.rev⟩)⟩
  · exact g1.elim
end
end HT
set_option maxRecDepth 100000
set_option maxHeartbeats 800000
namespace HT
open PySem PySem.Spec L2
open PyProof.Rows hiding St

/-! ### data with dicts -/
def keyPD : Key → PyData
  | .inl i => .int i
  | .inr x => .str x
mutual
def dq0 (f : Nat → Option PyData) : D → Option PyData
  | .non => some .none
  | .bl b => some (.bool b)
  | .int i => some (.int i)
  | .str x => some (.str x)
  | .lst ds => (dqL f ds).map .list
  | .klst ds => (dqL f ds).map .list
  | .tup ds => (dqL f ds).map .tuple
  | .dK kvs => (dqK f kvs).map .dict
  | .cell k => f k
  | .obj _ _ => none
  | .exn _ _ => none
  | .dT _ => none
  | .glob _ => none
  | .ty _ => none
def dqL (f : Nat → Option PyData) : List D → Option (List PyData)
  | [] => some []
  | d :: ds => match dq0 f d, dqL f ds with
    | some a, some b => some (a :: b)
    | _, _ => none
def dqK (f : Nat → Option PyData) : List (Key × D) → Option (List (PyData × PyData))
  | [] => some []
  | p :: ds => match dq0 f p.2, dqK f ds with
    | some a, some b => some ((keyPD p.1, a) :: b)
    | _, _ => none
end
def dqC (S : Sto) : Nat → Nat → Option PyData
  | 0, _ => none
  | n + 1, k => match S[k]? with
    | some (.lst ds) => (dqL (dqC S n) ds).map .list
    | some (.dK kvs) => (dqK (dqC S n) kvs).map .dict
    | _ => none
def deepq (S : Sto) (d : D) : Option PyData := dq0 (dqC S 4) d
mutual
def Dq (K : PySem.W.Frag) (H : Hp) : PyData → V → Prop
  | .none, v => v = .non
  | .bool b, v => v = .bl b
  | .int i, v => v = .int i
  | .str x, v => v = .str x
  | .list ds, v => ∃ a xs, v = .ref a ∧ SqL K H a xs ∧ DqL K H ds xs
  | .tuple ds, v => ∃ a xs, v = .ref a ∧ SqT K H a xs ∧ DqL K H ds xs
  | .dict ks, v => ∃ a xs, v = .ref a ∧ H a = some (.dK xs) ∧ DqK K H ks xs
def DqL (K : PySem.W.Frag) (H : Hp) : List PyData → List V → Prop
  | [], vs => vs = []
  | d :: ds, vs => ∃ v r, vs = v :: r ∧ Dq K H d v ∧ DqL K H ds r
def DqK (K : PySem.W.Frag) (H : Hp) : List (PyData × PyData) → List (Key × V) → Prop
  | [], vs => vs = []
  | p :: ds, vs => ∃ k v r, vs = (k, v) :: r ∧ p.1 = keyPD k ∧ Dq K H p.2 v ∧ DqK K H ds r
end
section
variable {T : Str → Addr} {K : PySem.W.Frag} {ρ : Nat → Option Addr} {S : Sto} {Z : Hid} {H F : Hp}
mutual
theorem dq0_ok {f : Nat → Option PyData} (hs : Sub F H) (hf : ∀ k pd a, f k = some pd → ρ k = some a → Dq K H pd (.ref a)) : ∀ (d : D) (v : V) (pd : PyData), dq0 f d = some pd → Rep T K ρ F d v → Dq K H pd v
  | .non, v, pd, h, r => by cases h; exact r
  | .bl b, v, pd, h, r => by cases h; exact r
  | .int i, v, pd, h, r => by cases h; exact r
  | .str x, v, pd, h, r => by cases h; exact r
  | .lst ds, v, pd, h, r => by
    obtain ⟨a, vs, e, q, r⟩ := r
    obtain ⟨l, m, rfl⟩ := Option.map_eq_some_iff.mp h
    exact ⟨a, vs, e, SqL.of (hs _ _ q), dqL_ok hs hf ds vs l m r⟩
  | .klst ds, v, pd, h, r => by
    obtain ⟨a, vs, e, q, r⟩ := r
    obtain ⟨l, m, rfl⟩ := Option.map_eq_some_iff.mp h
    exact ⟨a, vs, e, hs.seqL q, dqL_ok hs hf ds vs l m r⟩
  | .tup ds, v, pd, h, r => by
    obtain ⟨a, vs, e, q, r⟩ := r
    obtain ⟨l, m, rfl⟩ := Option.map_eq_some_iff.mp h
    exact ⟨a, vs, e, hs.seqT q, dqL_ok hs hf ds vs l m r⟩
  | .dK kvs, v, pd, h, r => by
    obtain ⟨a, vs, e, q, r⟩ := r
    obtain ⟨l, m, rfl⟩ := Option.map_eq_some_iff.mp h
    exact ⟨a, vs, e, hs _ _ q, dqK_ok hs hf kvs vs l m r⟩
  | .cell k, v, pd, h, r => by
    obtain ⟨a, e, q⟩ := r
    rw [e]
    exact hf k pd a h q
  | .obj _ _, _, _, h, _ => by cases h
  | .exn _ _, _, _, h, _ => by cases h
  | .dT _, _, _, h, _ => by cases h
  | .glob _, _, _, h, _ => by cases h
  | .ty _, _, _, h, _ => by cases h
theorem dqL_ok {f : Nat → Option PyData} (hs : Sub F H) (hf : ∀ k pd a, f k = some pd → ρ k = some a → Dq K H pd (.ref a)) : ∀ (ds : List D) (vs : List V) (l : List PyData), dqL f ds = some l → RepL T K ρ F ds vs → DqL K H l vs
  | [], vs, l, h, r => by cases h; exact r
  | d :: ds, vs, l, h, r => by
    obtain ⟨v, u, e, q, q2⟩ := r
    unfold dqL at h
    cases h1 : dq0 f d with
    | none => rw [h1] at h; cases h
    | some a =>
      cases h2 : dqL f ds with
      | none => rw [h1, h2] at h; cases h
      | some b =>
        rw [h1, h2] at h
        cases h
        exact ⟨v, u, e, dq0_ok hs hf d v a h1 q, dqL_ok hs hf ds u b h2 q2⟩
theorem dqK_ok {f : Nat → Option PyData} (hs : Sub F H) (hf : ∀ k pd a, f k = some pd → ρ k = some a → Dq K H pd (.ref a)) : ∀ (ds : List (Key × D)) (vs : List (Key × V)) (l : List (PyData × PyData)), dqK f ds = some l → RepK T K ρ F ds vs → DqK K H l vs
  | [], vs, l, h, r => by cases h; exact r
  | (k, d) :: ds, vs, l, h, r => by
    obtain ⟨v, u, e, q, q2⟩ := r
    unfold dqK at h
    dsimp only at h
    cases h1 : dq0 f d with
    | none => rw [h1] at h; cases h
    | some a =>
      cases h2 : dqK f ds with
      | none => rw [h1, h2] at h; cases h
      | some b =>
        rw [h1, h2] at h
        cases h
        exact ⟨k, v, u, e, rfl, dq0_ok hs hf d v a h1 q, dqK_ok hs hf ds u b h2 q2⟩
end
theorem dqC_ok (w : Wd T K ρ S Z H) : ∀ (n k : Nat) (pd : PyData) (a : Addr), dqC S n k = some pd → ρ k = some a → Dq K H pd (.ref a)
  | 0, k, pd, a, h, _ => by cases h
  | n + 1, k, pd, a, h, e => by
    unfold dqC at h
    cases hc : S[k]? with
    | none => rw [hc] at h; cases h
    | some c =>
      rw [hc] at h
      obtain ⟨b, o, h1, h2, h3, h4⟩ := w.cells k c hc
      rw [e] at h1
      cases h1
      cases c with
      | lst ds =>
        obtain ⟨vs, rfl, r⟩ := h4
        obtain ⟨l, m, rfl⟩ := Option.map_eq_some_iff.mp h
        exact ⟨a, vs, rfl, SqL.of h3, dqL_ok Fz_sub (fun k pd a => dqC_ok w n k pd a) ds vs l m r⟩
      | dK kvs =>
        obtain ⟨vs, rfl, r⟩ := h4
        obtain ⟨l, m, rfl⟩ := Option.map_eq_some_iff.mp h
        exact ⟨a, vs, rfl, h3, dqK_ok Fz_sub (fun k pd a => dqC_ok w n k pd a) kvs vs l m r⟩
      | dT kvs => cases h
      | ins C fs => cases h
theorem deepq_ok (w : Wd T K ρ S Z H) {d : D} {v : V} {pd : PyData} (h : deepq S d = some pd) (r : Rep T K ρ (Fz ρ Z H) d v) : Dq K H pd v :=
  dq0_ok Fz_sub (fun k pd a => dqC_ok w 4 k pd a) d v pd h r
end
/- what stands in the heap -/
mutual
def Dr (h : Heap) : PyData → Value → Prop
  | .none, v => v = .none
  | .bool b, v => v = .bool b
  | .int i, v => ∃ t, v = .int i t
  | .str x, v => ∃ t, v = .str x t
  | .list ds, v => ∃ a o vs n, v = .ref a ∧ h.get? a = some o ∧ o.cls = .type "list" ∧ o.data = .seq vs n ∧ DrL h ds vs.toList
  | .tuple ds, v => ∃ a o vs n, v = .ref a ∧ h.get? a = some o ∧ o.cls = .type "tuple" ∧ o.data = .seq vs n ∧ DrL h ds vs.toList
  | .dict ks, v => ∃ a o es n, v = .ref a ∧ h.get? a = some o ∧ o.cls = .type "dict" ∧ o.data = .dict es n ∧ (a == sysModules) = false ∧ DrK h ks es.toList
def DrL (h : Heap) : List PyData → List Value → Prop
  | [], vs => vs = []
  | d :: ds, vs => ∃ v r, vs = v :: r ∧ Dr h d v ∧ DrL h ds r
def DrK (h : Heap) : List (PyData × PyData) → List DictEntry → Prop
  | [], es => es = []
  | p :: ds, es => ∃ e r, es = e :: r ∧ Dr h p.1 e.key ∧ Dr h p.2 e.val ∧ DrK h ds r
end
section
variable {X : Cx} {pins : List (Addr × Obj)} {σ : St} {H : Hp} {s : Shared}
theorem dr_key {k : Key} {v : Value} {h : Heap} (e : keyIs k v = true) : Dr h (keyPD k) v := by
  rcases keyIs_shape e with ⟨i, t, rfl, rfl⟩ | ⟨x, t, rfl, rfl⟩
  · exact ⟨t, rfl⟩
  · exact ⟨t, rfl⟩
mutual
theorem Dq.dr (I : Inv X pins σ H s) : ∀ (d : PyData) (v : V) (u : Value), Dq X.K H d v → RelV v u → Dr s.heap d u
  | .none, v, u, h, r => by cases h; exact r
  | .bool b, v, u, h, r => by cases h; exact r
  | .int i, v, u, h, r => by cases h; exact r
  | .str x, v, u, h, r => by cases h; exact r
  | .list ds, v, u, h, r => by
    obtain ⟨a, xs, rfl, hs, ha⟩ := h
    cases r
    obtain ⟨its, rv, ⟨o, n, ho, hc, _, hd⟩, _⟩ := I.list hs
    exact ⟨a, o, _, _, rfl, ho, hc, hd, DqL.dr I ds xs its ha rv⟩
  | .tuple ds, v, u, h, r => by
    obtain ⟨a, xs, rfl, hs, ha⟩ := h
    cases r
    obtain ⟨its, rv, ⟨o, ho, hc, n, hd⟩, _⟩ := I.tuple hs
    exact ⟨a, o, _, n, rfl, ho, hc, hd, DqL.dr I ds xs its ha rv⟩
  | .dict ks, v, u, h, r => by
    obtain ⟨a, xs, rfl, hs, ha⟩ := h
    cases r
    obtain ⟨_, hS, vs, kv, o, es, ep, e1, e2, e3, e4, e5, e6⟩ := dk_of I.hok hs
    exact ⟨a, o, es, ep, rfl, e1, e2.1, e3, hS, DqK.dr I ks xs vs es.toList ha kv e5⟩
theorem DqL.dr (I : Inv X pins σ H s) : ∀ (ds : List PyData) (vs : List V) (us : List Value), DqL X.K H ds vs → Vals vs us → DrL s.heap ds us
  | [], vs, us, h, r => by
    have e : vs = [] := h
    subst e
    cases r
    exact rfl
  | d :: ds, vs, us, h, r => by
    obtain ⟨v, rest, rfl, q1, q2⟩ := h
    cases r with
    | cons r1 r2 => exact ⟨_, _, rfl, Dq.dr I d v _ q1 r1, DqL.dr I ds rest _ q2 r2⟩
theorem DqK.dr (I : Inv X pins σ H s) : ∀ (ds : List (PyData × PyData)) (vs : List (Key × V)) (ws : List (Key × Value)) (es : List DictEntry), DqK X.K H ds vs → KV vs ws → Pairs (mixKind X.prog X.w) es ws → DrK s.heap ds es
  | [], vs, ws, es, h, r, p => by
    have e : vs = [] := h
    subst e
    cases r
    cases p
    exact rfl
  | d :: ds, vs, ws, es, h, r, p => by
    obtain ⟨k, v, rest, rfl, q0, q1, q2⟩ := h
    cases r with
    | cons r1 r2 =>
      cases p with
      | cons p1 p2 p3 =>
        refine ⟨_, _, rfl, ?_, ?_, DqK.dr I ds rest _ _ q2 r2 p3⟩
        · rw [q0]
          refine dr_key ?_
          have e : k = _ := r1.1
          rw [e]
          exact p1
        · rw [p2]
          exact Dq.dr I d.2 v _ q1 r1.2
end
end
end HT
set_option maxRecDepth 100000
set_option maxHeartbeats 1600000
namespace HT
open PySem PySem.Spec L2
open PyProof.Rows hiding St

/-! ### repr of data with dicts -/
section
variable {h : Heap}
mutual
theorem Dr.reads : ∀ (d : PyData) (v : Value), Dr h d v → ∃ as, Reads h v d as
  | .none, v, r => by cases r; exact ⟨_, .none⟩
  | .bool b, v, r => by cases r; exact ⟨_, .bool b⟩
  | .int i, v, r => by obtain ⟨t, rfl⟩ := r; exact ⟨_, .int i t⟩
  | .str x, v, r => by obtain ⟨t, rfl⟩ := r; exact ⟨_, .str x t⟩
  | .list ds, v, r => by
    obtain ⟨a, o, vs, n, rfl, h1, h2, h3, h4⟩ := r
    obtain ⟨as, q⟩ := DrL.reads ds vs.toList h4
    exact ⟨_, .list h1 h2 h3 q⟩
  | .tuple ds, v, r => by
    obtain ⟨a, o, vs, n, rfl, h1, h2, h3, h4⟩ := r
    obtain ⟨as, q⟩ := DrL.reads ds vs.toList h4
    exact ⟨_, .tuple h1 h2 h3 q⟩
  | .dict ks, v, r => by
    obtain ⟨a, o, es, n, rfl, h1, h2, h3, _, h4⟩ := r
    obtain ⟨as, bs, q1, q2⟩ := DrK.reads ks es.toList h4
    exact ⟨_, .dict h1 h2 h3 q1 q2⟩
theorem DrL.reads : ∀ (ds : List PyData) (vs : List Value), DrL h ds vs → ∃ as, ReadsAll h vs ds as
  | [], vs, r => by
    have e : vs = [] := r
    subst e
    exact ⟨_, .nil⟩
  | d :: ds, vs, r => by
    obtain ⟨v, rest, rfl, q1, q2⟩ := r
    obtain ⟨as, r1⟩ := Dr.reads d v q1
    obtain ⟨bs, r2⟩ := DrL.reads ds rest q2
    exact ⟨_, .cons r1 r2⟩
theorem DrK.reads : ∀ (ds : List (PyData × PyData)) (es : List DictEntry), DrK h ds es → ∃ as bs, ReadsAll h (es.map (·.key)) (ds.map (·.1)) as ∧ ReadsAll h (es.map (·.val)) (ds.map (·.2)) bs
  | [], es, r => by
    have e : es = [] := r
    subst e
    exact ⟨_, _, .nil, .nil⟩
  | (k, d) :: ds, es, r => by
    obtain ⟨e, rest, rfl, q0, q1, q2⟩ := r
    obtain ⟨as, r1⟩ := Dr.reads k e.key q0
    obtain ⟨bs, r2⟩ := Dr.reads d e.val q1
    obtain ⟨cs, es, r3, r4⟩ := DrK.reads ds rest q2
    exact ⟨_, _, .cons r1 r3, .cons r2 r4⟩
end
variable {prog : Program} {w : World}
theorem rm_two {x y : Nat} {b1 b2 : List Addr} (hb1 : ReadAtMost h x b1) (hb2 : ReadAtMost h y b2) : ReadAtMost h (max x y) (b1 ++ b2) := by
  intro b hm
  rcases List.mem_append.mp hm with hm | hm
  · obtain ⟨d', as', r', hd'⟩ := hb1 b hm
    exact ⟨d', as', r', Nat.le_trans hd' (Nat.le_max_left _ _)⟩
  · obtain ⟨d', as', r', hd'⟩ := hb2 b hm
    exact ⟨d', as', r', Nat.le_trans hd' (Nat.le_max_right _ _)⟩
mutual
theorem rk_dr : ∀ (d : PyData) (v : Value), Dr h d v → d.showable = true → d.shown.length ≤ sizeLine → ∃ bs, ReadAtMost h d.depth bs ∧ ReprK prog w bs h d.depth v d.shown
  | .none, v, r, _, _ => by cases r; exact ⟨[], (fun _ h => nomatch h), by simp only [PyData.shown]; exact .of_is ReprIs.none _ _ _⟩
  | .bool b, v, r, _, _ => by cases r; exact ⟨[], (fun _ h => nomatch h), by simp only [PyData.shown]; exact .of_is (ReprIs.bool b) _ _ _⟩
  | .int i, v, r, hs, _ => by obtain ⟨t, rfl⟩ := r; exact ⟨[], (fun _ h => nomatch h), by simp only [PyData.shown]; exact .of_is (ReprIs.int t (by simpa [PyData.showable] using hs)) _ _ _⟩
  | .str x, v, r, _, hz => by obtain ⟨t, rfl⟩ := r; exact ⟨[], (fun _ h => nomatch h), by simp only [PyData.shown]; exact .of_is (ReprIs.str x t (by simpa only [PyData.shown] using hz)) _ _ _⟩
  | .list xs, v, rr, hs, hz => by
    have r0 := Dr.reads (.list xs) v rr
    obtain ⟨a, o, vs, n, rfl, h1, h2, h3, h4⟩ := rr
    have hz' : (listText (PyData.shownAll xs)).length ≤ sizeLine := by simpa only [PyData.shown] using hz
    obtain ⟨bs, hb, hk⟩ := rkL_dr xs vs.toList h4 (by simpa [PyData.showable] using hs) (fun t ht => Nat.le_trans (listText_mem_le ht) hz')
    obtain ⟨as, r⟩ := r0
    have hna : a ∉ bs := not_mem_of_deeper r (by simp only [PyData.depth]; omega) hb
    refine ⟨a :: bs, ReadAtMost.cons r (by simp only [PyData.depth]; omega) hb, ?_⟩
    simp only [PyData.depth, PyData.shown]
    obtain ⟨l⟩ := vs
    cases l with
    | nil =>
      have e : xs = [] := by
        cases xs with
        | nil => rfl
        | cons x r =>
          obtain ⟨_, _, e, _⟩ := h4
          cases e
      subst e
      simp only [PyData.shownAll, listText_nil]
      exact ReprK.listEmpty h1 h2 h3
    | cons x l => exact ReprK.list h1 h2 h3 hna (by simpa using hk.length_eq) (fun i y e => hk.item i y (by simpa using e))
  | .tuple xs, v, rr, hs, hz => by
    have r0 := Dr.reads (.tuple xs) v rr
    obtain ⟨a, o, vs, n, rfl, h1, h2, h3, h4⟩ := rr
    have hz' : (tupleText (PyData.shownAll xs)).length ≤ sizeLine := by simpa only [PyData.shown] using hz
    obtain ⟨bs, hb, hk⟩ := rkL_dr xs vs.toList h4 (by simpa [PyData.showable] using hs) (fun t ht => Nat.le_trans (tupleText_mem_le ht) hz')
    obtain ⟨as, r⟩ := r0
    have hna : a ∉ bs := not_mem_of_deeper r (by simp only [PyData.depth]; omega) hb
    refine ⟨a :: bs, ReadAtMost.cons r (by simp only [PyData.depth]; omega) hb, ?_⟩
    simp only [PyData.depth, PyData.shown]
    exact ReprK.tuple h1 h2 h3 hna hk
  | .dict kvs, v, rr, hs, hz => by
    have r0 := Dr.reads (.dict kvs) v rr
    obtain ⟨a, o, es, n, rfl, h1, h2, h3, hsys, h4⟩ := rr
    have hz' : (dictText (PyData.shownKv kvs)).length ≤ sizeLine := by simpa only [PyData.shown] using hz
    obtain ⟨hs1, hs2⟩ := PyData.showableKv_split kvs (by simpa [PyData.showable] using hs)
    obtain ⟨⟨b1, hb1, k1⟩, ⟨b2, hb2, k2⟩⟩ := rkK_dr kvs es.toList h4 hs1 hs2 (fun t ht => let ⟨p, hp, hl⟩ := PyData.shownKv_key_le kvs t ht; Nat.le_trans hl (Nat.le_trans (dictText_mem_le hp) hz')) (fun t ht => let ⟨p, hp, hl⟩ := PyData.shownKv_val_le kvs t ht; Nat.le_trans hl (Nat.le_trans (dictText_mem_le hp) hz'))
    obtain ⟨as, r⟩ := r0
    have hb : ReadAtMost h (PyData.depthKv kvs) (b1 ++ b2) := (hb1.mono (PyData.depthAll_keys_le kvs)).append (hb2.mono (PyData.depthAll_vals_le kvs))
    have hna : a ∉ b1 ++ b2 := not_mem_of_deeper r (by simp only [PyData.depth]; omega) hb
    refine ⟨a :: (b1 ++ b2), ReadAtMost.cons r (by simp only [PyData.depth]; omega) hb, ?_⟩
    simp only [PyData.depth, PyData.shown, PyData.shownKv_eq]
    exact ReprK.dict h1 h2 h3 hsys hna (ReprEntriesK.of_two es.toList _ _
      (k1.more_le (fun b hb => List.mem_append_left _ hb) (PyData.depthAll_keys_le kvs)) (k2.more_le (fun b hb => List.mem_append_right _ hb) (PyData.depthAll_vals_le kvs)))
theorem rkL_dr : ∀ (ds : List PyData) (vs : List Value), DrL h ds vs → PyData.showableAll ds = true → (∀ t ∈ PyData.shownAll ds, t.length ≤ sizeLine) →
    ∃ bs, ReadAtMost h (PyData.depthAll ds) bs ∧ ReprAllK prog w bs h (PyData.depthAll ds) vs (PyData.shownAll ds)
  | [], vs, r, _, _ => by
    have e : vs = [] := r
    subst e
    exact ⟨[], (fun _ h => nomatch h), by simp only [PyData.shownAll]; exact .nil⟩
  | d :: ds, vs, r, hs, hz => by
    obtain ⟨v, rest, rfl, q1, q2⟩ := r
    have hs' : d.showable = true ∧ PyData.showableAll ds = true := by simpa [PyData.showableAll] using hs
    obtain ⟨b1, hb1, k1⟩ := rk_dr d v q1 hs'.1 (hz _ (by simp only [PyData.shownAll]; exact List.mem_cons_self ..))
    obtain ⟨b2, hb2, k2⟩ := rkL_dr ds rest q2 hs'.2 (fun t ht => hz t (by simp only [PyData.shownAll]; exact List.mem_cons_of_mem _ ht))
    refine ⟨b1 ++ b2, ?_, ?_⟩
    · simp only [PyData.depthAll]
      exact rm_two hb1 hb2
    · simp only [PyData.depthAll, PyData.shownAll]
      exact .cons ((k1.more fun b hb => List.mem_append_left _ hb).level_le (Nat.le_max_left _ _)) (k2.more_le (fun b hb => List.mem_append_right _ hb) (Nat.le_max_right _ _))
theorem rkK_dr : ∀ (ds : List (PyData × PyData)) (es : List DictEntry), DrK h ds es → PyData.showableAll (ds.map (·.1)) = true → PyData.showableAll (ds.map (·.2)) = true → (∀ t ∈ PyData.shownAll (ds.map (·.1)), t.length ≤ sizeLine) → (∀ t ∈ PyData.shownAll (ds.map (·.2)), t.length ≤ sizeLine) →
    (∃ bs, ReadAtMost h (PyData.depthAll (ds.map (·.1))) bs ∧ ReprAllK prog w bs h (PyData.depthAll (ds.map (·.1))) (es.map (·.key)) (PyData.shownAll (ds.map (·.1)))) ∧
    (∃ bs, ReadAtMost h (PyData.depthAll (ds.map (·.2))) bs ∧ ReprAllK prog w bs h (PyData.depthAll (ds.map (·.2))) (es.map (·.val)) (PyData.shownAll (ds.map (·.2))))
  | [], es, r, _, _, _, _ => by
    have e : es = [] := r
    subst e
    exact ⟨⟨[], (fun _ h => nomatch h), by simp only [List.map_nil, PyData.shownAll]; exact .nil⟩, ⟨[], (fun _ h => nomatch h), by simp only [List.map_nil, PyData.shownAll]; exact .nil⟩⟩
  | (k, d) :: ds, es, r, hs1, hs2, hz1, hz2 => by
    obtain ⟨e, rest, rfl, q0, q1, q2⟩ := r
    have hs1' : k.showable = true ∧ PyData.showableAll (ds.map (·.1)) = true := by simpa [PyData.showableAll] using hs1
    have hs2' : d.showable = true ∧ PyData.showableAll (ds.map (·.2)) = true := by simpa [PyData.showableAll] using hs2
    simp only [List.map_cons, PyData.shownAll] at hz1 hz2
    obtain ⟨b1, hb1, k1⟩ := rk_dr k e.key q0 hs1'.1 (hz1 _ (List.mem_cons_self ..))
    obtain ⟨b2, hb2, k2⟩ := rk_dr d e.val q1 hs2'.1 (hz2 _ (List.mem_cons_self ..))
    obtain ⟨⟨b3, hb3, k3⟩, ⟨b4, hb4, k4⟩⟩ := rkK_dr ds rest q2 hs1'.2 hs2'.2 (fun t ht => hz1 t (List.mem_cons_of_mem _ ht)) (fun t ht => hz2 t (List.mem_cons_of_mem _ ht))
    refine ⟨⟨b1 ++ b3, ?_, ?_⟩, ⟨b2 ++ b4, ?_, ?_⟩⟩
    · simp only [List.map_cons, PyData.depthAll]
      exact rm_two hb1 hb3
    · simp only [List.map_cons, PyData.depthAll, PyData.shownAll]
      exact .cons ((k1.more fun b hb => List.mem_append_left _ hb).level_le (Nat.le_max_left _ _)) (k3.more_le (fun b hb => List.mem_append_right _ hb) (Nat.le_max_right _ _))
    · simp only [List.map_cons, PyData.depthAll]
      exact rm_two hb2 hb4
    · simp only [List.map_cons, PyData.depthAll, PyData.shownAll]
      exact .cons ((k2.more fun b hb => List.mem_append_left _ hb).level_le (Nat.le_max_left _ _)) (k4.more_le (fun b hb => List.mem_append_right _ hb) (Nat.le_max_right _ _))
end
theorem shows_dr (d : PyData) (a : Addr) (rr : Dr h d (.ref a)) (hs : d.showable = true) (hsz : d.shown.length ≤ sizeLine) : ∃ T idr, ShowsBy prog w h a d T idr := by
  have r0 := Dr.reads d (.ref a) rr
  cases d with
  | none => cases rr
  | bool b => cases rr
  | int i => obtain ⟨t, e⟩ := rr; cases e
  | str x => obtain ⟨t, e⟩ := rr; cases e
  | list xs =>
    obtain ⟨a', o, vs, n, ea, h1, h2, h3, h4⟩ := rr
    cases ea
    have hz' : (listText (PyData.shownAll xs)).length ≤ sizeLine := by simpa only [PyData.shown] using hsz
    obtain ⟨bs, hb, hk⟩ := rkL_dr (prog := prog) (w := w) xs vs.toList h4 (by simpa [PyData.showable] using hs) (fun t ht => Nat.le_trans (listText_mem_le ht) hz')
    obtain ⟨as, r⟩ := r0
    have hna : a ∉ bs := not_mem_of_deeper r (by simp only [PyData.depth]; omega) hb
    refine ⟨"list", "list.__repr__", F.slot_list_repr.toG, F.slot_list_str, F.slot_list_format, fun s hk0 => ⟨o, hk0 _ _ h1, h2⟩, fun A E s Q hg hu hk0 hQ => ?_⟩
    simp only [PyData.depth] at hu
    simp only [PyData.shown] at hQ
    obtain ⟨l⟩ := vs
    cases l with
    | nil =>
      have e : xs = [] := by
        cases xs with
        | nil => rfl
        | cons x r =>
          obtain ⟨_, _, e, _⟩ := h4
          cases e
      subst e
      simp only [PyData.shownAll, listText_nil] at hQ
      exact call_list_repr_empty ⟨o, hk0 _ _ h1, h2⟩ (hk0 _ _ h1) h3 (hQ s.heap _ _ fun _ _ e => e)
    | cons x l =>
      exact call_list_reprK h1 h2 h3 hna (by simpa using hk.length_eq) (fun i y e => hk.item i y (by simpa using e)) hg (fun b _ => Clear.nil b) hu hk0 hQ hz'
  | tuple xs =>
    obtain ⟨a', o, vs, n, ea, h1, h2, h3, h4⟩ := rr
    cases ea
    have hz' : (tupleText (PyData.shownAll xs)).length ≤ sizeLine := by simpa only [PyData.shown] using hsz
    obtain ⟨bs, hb, hk⟩ := rkL_dr (prog := prog) (w := w) xs vs.toList h4 (by simpa [PyData.showable] using hs) (fun t ht => Nat.le_trans (tupleText_mem_le ht) hz')
    obtain ⟨as, r⟩ := r0
    have hna : a ∉ bs := not_mem_of_deeper r (by simp only [PyData.depth]; omega) hb
    refine ⟨"tuple", "tuple.__repr__", F.slot_tuple_repr, F.slot_tuple_str, F.slot_tuple_format, fun s hk0 => ⟨o, hk0 _ _ h1, h2⟩, fun A E s Q hg hu hk0 hQ => ?_⟩
    simp only [PyData.depth] at hu
    simp only [PyData.shown] at hQ
    exact call_tuple_reprK h1 h2 h3 hna hk hg (fun b _ => Clear.nil b) hu hk0 hQ hz'
  | dict kvs =>
    obtain ⟨a', o, es, n, ea, h1, h2, h3, hsys, h4⟩ := rr
    cases ea
    have hz' : (dictText (PyData.shownKv kvs)).length ≤ sizeLine := by simpa only [PyData.shown] using hsz
    obtain ⟨hs1, hs2⟩ := PyData.showableKv_split kvs (by simpa [PyData.showable] using hs)
    obtain ⟨⟨b1, hb1, k1⟩, ⟨b2, hb2, k2⟩⟩ := rkK_dr (prog := prog) (w := w) kvs es.toList h4 hs1 hs2 (fun t ht => let ⟨p, hp, hl⟩ := PyData.shownKv_key_le kvs t ht; Nat.le_trans hl (Nat.le_trans (dictText_mem_le hp) hz')) (fun t ht => let ⟨p, hp, hl⟩ := PyData.shownKv_val_le kvs t ht; Nat.le_trans hl (Nat.le_trans (dictText_mem_le hp) hz'))
    obtain ⟨as, r⟩ := r0
    have hb : ReadAtMost h (PyData.depthKv kvs) (b1 ++ b2) := (hb1.mono (PyData.depthAll_keys_le kvs)).append (hb2.mono (PyData.depthAll_vals_le kvs))
    have hna : a ∉ b1 ++ b2 := not_mem_of_deeper r (by simp only [PyData.depth]; omega) hb
    refine ⟨"dict", "dict.__repr__", F.slot_dict_repr, F.slot_dict_str, F.slot_dict_format, fun s hk0 => ⟨o, hk0 _ _ h1, h2⟩, fun A E s Q hg hu hk0 hQ => ?_⟩
    simp only [PyData.depth] at hu
    simp only [PyData.shown, PyData.shownKv_eq] at hQ
    exact call_dict_reprK h1 h2 h3 hsys hna (ReprEntriesK.of_two es.toList _ _
      (k1.more_le (fun b hb => List.mem_append_left _ hb) (PyData.depthAll_keys_le kvs)) (k2.more_le (fun b hb => List.mem_append_right _ hb) (PyData.depthAll_vals_le kvs))) hg (fun b _ => Clear.nil b) hu hk0 hQ (by rw [← PyData.shownKv_eq]; exact hz')
end
def gReprQ (x : D) : Cm D := fun S => match deepq S x with
  | some p => if p.showable = true ∧ p.depth ≤ 50 ∧ p.shown.length ≤ sizeLine then .ok (.str p.shown) S else .stuck
  | none => .stuck
def rReprQ (K : PySem.W.Frag) : List V → Hp → VK → Prop := fun xs H Q => ∃ x p, xs = [x] ∧ Dq K H p x ∧ (p.showable = true ∧ p.depth ≤ 50 ∧ p.shown.length ≤ sizeLine) ∧ Q (.str p.shown) H
section
variable {T : Str → Addr} {X : Cx} {k : Nat}
theorem call_reprQ (lv : Lv k X.A) : CallR X (.builtin "repr") (rReprQ X.K) := by
  intro pins s σ H xs us Q I r h
  obtain ⟨x, p, rfl, hp, ⟨h1, h3, h4⟩, q⟩ := h
  obtain ⟨u, rfl, ru⟩ := vals1 r
  have hu := lv.room.un
  have fin : ∀ (z : Str) (h' : Heap) (tu tk : Tok), (∀ b o, s.heap.get? b = some o → h'.get? b = some o) → Q (.str z) H → EP X pins σ Q (.str z tu) { s with heap := h', toks := tk } := fun z h' tu tk k q => ⟨.str z, H, I.kept (t' := tk) k, ⟨_, rfl⟩, q⟩
  have rd := Dq.dr I p x u hp ru
  have big : ∀ a, u = .ref a → wpAny (model X.prog X.w) X.A (call (.builtin "repr") [u]) (EP X pins σ Q) X.xe s := fun a e => by
    subst e
    obtain ⟨Tn, idr, S⟩ := shows_dr (prog := X.prog) (w := X.w) p a rd h1 h4
    exact call_repr_slot (by omega) (S.typeIs s fun b o e => e) S.slotRepr (S.call X.A.in1 _ s _ lv.gd (by show X.A.units + 1 + p.depth < cLine; omega) (fun b o e => e) fun h' u tk hk => ⟨_, _, rfl, fin _ h' u tk hk q⟩)
  cases p with
  | none => cases rd; exact PySem.P.repr_of_none (fin _ _ _ _ (fun _ _ e => e) q)
  | bool b => cases rd; exact PySem.P.repr_of_bool (fin _ _ _ _ (fun _ _ e => e) q)
  | int i => obtain ⟨t, rfl⟩ := rd; exact PySem.P.repr_of_int (of_decide_eq_true h1) (fin _ _ _ _ (fun _ _ e => e) q)
  | str y => obtain ⟨t, rfl⟩ := rd; exact PySem.P.repr_of_str (fin _ _ _ _ (fun _ _ e => e) q) h4
  | list ds => exact big _ rd.choose_spec.choose_spec.choose_spec.choose_spec.1
  | tuple ds => exact big _ rd.choose_spec.choose_spec.choose_spec.choose_spec.1
  | dict ks => exact big _ rd.choose_spec.choose_spec.choose_spec.choose_spec.1
theorem ok_gReprQ : OpN T X (rReprQ X.K) (a1 gReprQ) := opN1 fun W σ ρ S Z H x v Q w r g => by
  unfold gReprQ at g
  split at g
  · rename_i p hp
    split at g
    · rename_i hc
      exact ⟨v, p, rfl, deepq_ok w hp r, hc, g.now w rfl⟩
    · exact g.elim
  · exact g.elim
end
end HT
set_option maxRecDepth 100000
set_option maxHeartbeats 800000
namespace HT
open PySem PySem.Spec L2
open PyProof.Rows hiding St
open PySem.SeqAt AutoSeq1 MeetsSeq MeetsSeq2 MeetsSeq3 SeqRoads2

/-! ### a dict in a list of texts: never -/
section
variable {prog : Program} {w : World} {A : Around} {E : Value → Shared → Prop} {s : Shared} {y : Addr} {oy : Obj}
theorem dec_strD {x : Str} {t : Tok} (hy : s.heap.get? y = some oy) (hc : oy.cls = .type "dict") {es : Array DictEntry} {n : Nat} (hd : oy.data = .dict es n) : wpAny (model prog w) A (Builtin.«str.__eq__» ⟨[.str x t, .ref y], []⟩) (DecQ s) E s := by
  obtain ⟨hp, g, d, tk, os⟩ := s
  obtain ⟨cls, dd, data, sl⟩ := oy
  simp only at hc hd
  subst hc hd
  wp_walk using wpAny_load hy
  exact ⟨rfl, rfl⟩
theorem dec_dictS {x : Str} {t : Tok} (hy : s.heap.get? y = some oy) (hc : oy.cls = .type "dict") {es : Array DictEntry} {n : Nat} (hd : oy.data = .dict es n) : wpAny (model prog w) A (Builtin.«dict.__eq__» ⟨[.ref y, .str x t], []⟩) (DecQ s) E s := by
  have f1 := PySem.F.sub_str_dict
  obtain ⟨hp, g, d, tk, os⟩ := s
  obtain ⟨cls, dd, data, sl⟩ := oy
  simp only at hc hd
  subst hc hd
  wp_walk using wpAny_load hy
  exact ⟨rfl, rfl⟩
end
theorem rc_strD {A : Around} {s : Shared} {y : Addr} {oy : Obj} {x : Str} {t : Tok} (hy : s.heap.get? y = some oy) (hc : oy.cls = .type "dict") {es : Array DictEntry} {n : Nat} (hd : oy.data = .dict es n) (hu : A.units < cLine) : RcAt A s (.str x t) (.ref y) false := fun prog w E Q h => by
  refine rc_eq_decline_or (k := false) (typeIs_str s x t) ⟨_, hy, hc⟩ (by decide) F.sub_dict_str F.slot_str_eq F.slot_dict_eq_refl
    (fun _ hq => GQ.call_here F.slot_str_eq (typeIs_str s x t) F.entry_str_eq (F.args_str_eq_2 _ _) (wpAny_mono (dec_strD hy hc hd) (fun fl s' q => ?_) fun _ _ e => e))
    (fun _ hq => GQ.call_here F.slot_dict_eq_refl ⟨_, hy, hc⟩ F.entry_dict_eq (F.args_dict_eq_2 _ _) (wpAny_mono (dec_dictS hy hc hd) (fun fl s' q => ?_) fun _ _ e => e))
    (fun _ hq => wpAny_of_eq (rfl : isSame (.str x t) (.ref y) = pure false) hq) (.inr hu) h
  · obtain ⟨rfl, rfl⟩ := q
    exact hq
  · obtain ⟨rfl, rfl⟩ := q
    exact hq
theorem eq_strD {A : Around} {s : Shared} {y : Addr} {oy : Obj} {x : Str} {t : Tok} (hy : s.heap.get? y = some oy) (hc : oy.cls = .type "dict") {es : Array DictEntry} {n : Nat} (hd : oy.data = .dict es n) (hu : A.units < cLine) : EqAt A s (.str x t) (.ref y) false := fun prog w E Q h => by
  unfold eqBool
  refine wpAny_holding ?_
  refine wpAny_ite_split (fun hab => absurd (eq_of_beq hab) nofun) (fun _ => ?_)
  exact wpAny_bind (rc_strD hy hc hd hu prog w E _ (wpAny_truthy_bool h))
def rInDk (K : PySem.W.Frag) (neg : Bool) : R2 := fun x y H Q => ∃ a kvs l, ∃ zs : List Str, x = .ref a ∧ H a = some (.dK kvs) ∧ y = .ref l ∧ SqL K H l (zs.map V.str) ∧ Q (.bl neg) H
theorem strs_items {zs : List Str} {us : List Value} (r : Vals (zs.map V.str) us) : ∀ u ∈ us, ∃ x t, u = .str x t := by
  induction zs generalizing us with
  | nil => cases r; intro u h; cases h
  | cons z zs ih =>
    cases r with
    | cons r1 r2 =>
      intro u h
      rcases List.mem_cons.mp h with rfl | h
      · exact ⟨_, r1⟩
      · exact ih r2 u h
section
variable {X : Cx}
theorem dk_items {pins : List (Addr × Obj)} {σ : St} {H : Hp} {s : Shared} {a l : Addr} {kvs : List (Key × V)} {zs : List Str} (hu : X.A.units + 65 < cLine) (I : Inv X pins σ H s) (ha : H a = some (.dK kvs)) (hl : SqL X.K H l (zs.map V.str)) :
    ∃ its : Array Value, s.heap.IsList l its ∧ (∀ y, y ∈ its → EqAt X.A.in1 s y (.ref a) false) := by
  obtain ⟨its, rv, ⟨o, n, ho, hc, hn, hd⟩, _⟩ := I.list hl
  obtain ⟨_, hS, vs, kv, o2, es, ep, e1, e2, e3, e4, e5, e6⟩ := dk_of I.hok ha
  refine ⟨_, ⟨o, ho, hc, _, hd⟩, fun y hy => ?_⟩
  obtain ⟨x, t, rfl⟩ := strs_items rv y (by simpa using hy)
  exact eq_strD e1 e2.1 e3 (by show X.A.units + 1 < cLine; omega)
theorem op_inDk (hu : X.A.units + 65 < cLine) : OpR X (compareOp .In) (rInDk X.K false) := by
  intro pins s σ H x y v u Q I rx ry h
  obtain ⟨a, kvs, l, zs, rfl, ha, rfl, hl, q⟩ := h
  cases rx
  cases ry
  obtain ⟨its, h1, h2⟩ := dk_items hu I ha hl
  refine in_listAt (fun _ => false) h1 h2 ?_
  have e : (its.any fun _ => false) = false := by simp
  rw [e]
  exact ⟨.bl false, H, I, rfl, q⟩
theorem op_notInDk (hu : X.A.units + 65 < cLine) : OpR X (compareOp .NotIn) (rInDk X.K true) := by
  intro pins s σ H x y v u Q I rx ry h
  obtain ⟨a, kvs, l, zs, rfl, ha, rfl, hl, q⟩ := h
  cases rx
  cases ry
  obtain ⟨its, h1, h2⟩ := dk_items hu I ha hl
  refine notIn_listAt (fun _ => false) h1 h2 ?_
  have e : (its.any fun _ => false) = false := by simp
  rw [e]
  exact ⟨.bl true, H, I, rfl, q⟩
end
/-- in a list: data among data, a dict among texts -/
def isDk (S : Sto) (d : D) : Bool := match asCO S d with
  | some (.dK _) => true
  | _ => false
def gInX (neg : Bool) (x y : D) : Cm D := fun S => if isDk S x = true then (match (lstD S y).bind strsD with
    | some _ => .ok (.bl neg) S
    | none => .stuck)
  else gInL neg x y S
section
variable {T : Str → Addr} {X : Cx}
theorem isDk_ok {ρ : Nat → Option Addr} {S : Sto} {Z : Hid} {H : Hp} {x : D} {v : V} (w : Wd T X.K ρ S Z H) (rx : Rep T X.K ρ (Fz ρ Z H) x v) (h : isDk S x = true) : ∃ a kvs, v = .ref a ∧ H a = some (.dK kvs) := by
  unfold isDk at h
  cases hc : asCO S x with
  | none => rw [hc] at h; cases h
  | some c =>
    rw [hc] at h
    obtain ⟨a, o, rfl, h1, h2⟩ := asCO_ok w rx hc
    cases c with
    | dK kvs =>
      obtain ⟨vs, rfl, _⟩ := h2
      exact ⟨a, vs, rfl, h1⟩
    | _ => cases h
theorem inX_dict {W : WX} {σ : St} {ρ : Nat → Option Addr} {S : Sto} {Z : Hid} {H : Hp} {x y : D} {v u : V} {Q : VK} {neg : Bool} (w : Wd T X.K ρ S Z H) (rx : Rep T X.K ρ (Fz ρ Z H) x v) (ry : Rep T X.K ρ (Fz ρ Z H) y u) (hx : isDk S x = true)
    (g : Good T X.K (rD T X.K) W σ Q ρ Z H (gInX neg x y S)) : rInDk X.K neg v u H Q := by
  unfold gInX at g
  rw [if_pos hx] at g
  obtain ⟨a, kvs, rfl, ha⟩ := isDk_ok w rx hx
  cases hl : lstD S y with
  | none => rw [hl] at g; exact g.elim
  | some ds =>
    cases hz : strsD ds with
    | none =>
      rw [hl] at g
      simp only [Option.bind, hz] at g
      exact g.elim
    | some zs =>
      rw [hl] at g
      simp only [Option.bind, hz] at g
      obtain ⟨l, vs, rfl, h1, h2⟩ := lstD_ok w ry hl
      have e : vs = zs.map V.str := strsD_ok h2 hz
      subst e
      exact ⟨a, kvs, l, zs, rfl, ha, rfl, h1, g.now w rfl⟩
theorem ok_gInX : Op2 T X (fun x y H Q => rInD X.K x y H Q ∨ rInDk X.K false x y H Q) (gInX false) := by
  intro W σ ρ S Z H x y v u Q w rx ry g
  cases hx : isDk S x with
  | true => exact .inr (inX_dict w rx ry hx g)
  | false =>
    have e : gInX false x y S = gInL false x y S := if_neg (by rw [hx]; exact Bool.false_ne_true)
    rw [e] at g
    exact .inl (ok_gInL W σ ρ S Z H x y v u Q w rx ry g)
theorem ok_gNotInX : Op2 T X (fun x y H Q => rNotInD X.K x y H Q ∨ rInDk X.K true x y H Q) (gInX true) := by
  intro W σ ρ S Z H x y v u Q w rx ry g
  cases hx : isDk S x with
  | true => exact .inr (inX_dict w rx ry hx g)
  | false =>
    have e : gInX true x y S = gInL true x y S := if_neg (by rw [hx]; exact Bool.false_ne_true)
    rw [e] at g
    exact .inl (ok_gNotInL W σ ρ S Z H x y v u Q w rx ry g)
theorem op_inX (hu : X.A.units + 65 < cLine) : OpR X (compareOp .In) (fun x y H Q => rInD X.K x y H Q ∨ rInDk X.K false x y H Q) := OpR.or (op_inD hu) (op_inDk hu)
theorem op_notInX (hu : X.A.units + 65 < cLine) : OpR X (compareOp .NotIn) (fun x y H Q => rNotInD X.K x y H Q ∨ rInDk X.K true x y H Q) := OpR.or (op_notInD hu) (op_notInDk hu)
end
end HT
set_option maxRecDepth 100000
set_option maxHeartbeats 1600000
namespace HT
open PySem PySem.Spec L2
open PyProof.Rows hiding St

/-! ### enumerate of a tuple -/
theorem new_enumB {v : Value} {o : Obj} {H : Heap → Prop} (B : Begins v o H) : Meets (Builtin.«enumerate.__new__» ⟨[.type "enumerate", v], []⟩) (fun _ R s => H s.heap ∧
      R (.ok (.ret (.ref (s.heap.push o).objs.size))) { s with heap := (s.heap.push o).push { cls := .type "enumerate", data := .fields #[.none, .bool false, .ref s.heap.objs.size, rawInt 0, .none, .none] } }) :=
  .of_wp fun prog w A R s hh => by
    obtain ⟨hp, g, d, tk, os⟩ := s
    obtain ⟨h1, hh⟩ := hh
    have hsub := sub_enumerate
    have q1 : ∀ {A' : Around} {E : Value → Shared → Prop} {Q : Value → Shared → Prop}, Q (.ref hp.objs.size) ⟨hp.push o, g, d, tk, os⟩ → wpAny (model prog w) A' (pyIter v) Q E ⟨hp, g, d, tk, os⟩ :=
      fun q => B.iter prog w _ _ ⟨hp, g, d, tk, os⟩ _ h1 q
    wp_walk using q1
    refine wpAny_stack_any fun stk => (wpAny_pure ?_)
    split
    · rename_i cc _ _ _ _ _
      cases (cc == Value.type "enumerate") <;> (wp_walk using q1; exact ⟨_, rfl, hh⟩)
    · wp_walk using q1
      exact ⟨_, rfl, hh⟩
theorem call_enumB {prog : Program} {w : World} {A : Around} {E : Value → Shared → Prop} {s : Shared} {v : Value} {o : Obj} {H : Heap → Prop} {Q : Value → Shared → Prop} (B : Begins v o H) (h1 : H s.heap)
    (hq : ∀ h', IsEnum h' (s.heap.objs.size + 1) s.heap.objs.size 0 .none → h'.get? s.heap.objs.size = some o → h'.objs.size = s.heap.objs.size + 2 →
      (∀ b u, s.heap.get? b = some u → h'.get? b = some u) → Q (.ref (s.heap.objs.size + 1)) { s with heap := h' }) :
    wpAny (model prog w) A (call (.type "enumerate") [v]) Q E s := by
  refine callType_new F.called_enumerate (by decide) (F.typeCall_enumerate_1 _) (F.newCall_enumerate_1 _) (fun obj => F.args_object_init_2 obj _) F.entry_enumerate_new (new_enumB B) ⟨h1, ?_⟩
  have hz : (s.heap.push o).objs.size = s.heap.objs.size + 1 := Heap.size_push ..
  show _ ∧ _
  rw [hz]
  have he : IsEnum ((s.heap.push o).push { cls := .type "enumerate", data := .fields #[.none, .bool false, .ref s.heap.objs.size, rawInt 0, .none, .none] }) (s.heap.objs.size + 1) s.heap.objs.size 0 .none := by
    have q := Heap.get?_push_size (s.heap.push o) (o := { cls := .type "enumerate", data := .fields #[.none, .bool false, .ref s.heap.objs.size, rawInt 0, .none, .none] }) rfl
    rw [hz] at q
    exact q
  exact ⟨⟨_, he, rfl⟩, hq _ he (Heap.get?_push_of_some _ (Heap.get?_push_size _ B.free)) (by rw [Heap.size_push, hz]) fun b u x => Heap.get?_push_of_some _ (Heap.get?_push_of_some _ x)⟩
/-- a tuple's iterator behind its last item -/
theorem Draws.past {prog : Program} {w : World} {A : Around} (hh : A.handled = none) (it t : Addr) (items : Array Value) (i : Nat) (hi : items.size ≤ i) :
    Draws prog w A it [it, t] i (fun _ _ => False) (fun j h => j = i ∧ h.IsTupleIter it t j ∧ h.IsTuple t items) where
  live := fun _ _ st => let ⟨o, ho, _⟩ := st.2.1; ⟨o, ho⟩
  frame := fun _ _ _ st hk => ⟨st.1, st.2.1.at fun o e => hk it (by simp) o e, st.2.2.at fun o e => hk t (by simp) o e⟩
  item := fun j s Q E hj st hQ => absurd st.1 (Nat.ne_of_lt hj)
  done := fun s Q E st hE => wpAny_nextOf_tuple_end hh st.2.1 st.2.2 (by simp; omega) hE
/-- the tuple at a, its items in new pairs -/
def IteT (K : PySem.W.Frag) (a : Addr) : It :=
  ⟨fun i H => ∃ (xs : List V) (x : V), SqT K H a xs ∧ xs[i]? = some x, fun i H v H' => ∃ T x, v = .ref T ∧ H T = none ∧ H' = upd H T (.tup [.int (i : Nat), x]) ∧ ∀ xs, SqT K H a xs → xs[i]? = some x, fun i H => ∃ xs : List V, SqT K H a xs ∧ xs.length ≤ i⟩
theorem enum_out {h h1 h2 : Heap} {e it : Addr} {c : Int} {x : Value} {T : Addr} (ne : it ≠ e) (a : h1.get? it = h.get? it) (b : h2.get? it = h1.get? it) : h2.get? it = h.get? it := b.trans a
theorem turn_enumT {P : Program} {w : World} {K : PySem.W.Frag} {elts : List Expr} {kk : Nat} {tpos : Pos} (a e it : Addr) (hai : a ≠ it) :
    Turn P w K (.Tuple elts kk tpos) (IteT K a) [e, it] e (fun i h => (∃ old, IsEnum h e it ((i : Nat) : Int) old) ∧ h.IsTupleIter it a i ∧ e ≠ it ∧ e ≠ a) where
  mem := by simp
  obj := fun i h st b hb => by
    obtain ⟨⟨old, he⟩, ⟨o, ho, hc, hd⟩, _, _⟩ := st
    have e' : b = e ∨ b = it := by simpa using hb
    rcases e' with z | z
    · rw [z]; exact ⟨_, he, fun v q => nomatch q⟩
    · rw [z]; exact ⟨o, ho, fun v q => by rw [hd] at q; cases q⟩
  keep := fun i h h' st k => let ⟨⟨old, he⟩, hi, hne, hna⟩ := st; ⟨⟨old, k e (by simp) _ he⟩, hi.at fun o q => k it (by simp) o q, hne, hna⟩
  item := by
    intro X hP hw hK hc i pins s σ H E I hf st hg
    subst hP hw hK
    obtain ⟨⟨old, he⟩, hit, hne, hna⟩ := st
    obtain ⟨xs, x, hq, hx⟩ := hg
    obtain ⟨its, rv, p, hz⟩ := I.tuple hq
    obtain ⟨u, hu, ru⟩ := rv.get hx
    have hel : e < s.heap.objs.size := Heap.lt_size he
    have hil : it < s.heap.objs.size := by obtain ⟨_, q, _⟩ := hit; exact Heap.lt_size q
    have hl := rv.length
    have hxl := (List.getElem?_eq_some_iff.mp hx).1
    refine wpAny_pyNext_enum_itemC (Draws.tuple (A := X.A.in1) (show X.A.in1.handled = none from I.ok.hd hc) it a hai its.toArray) he (i := i) ⟨hit, p⟩ (by simp; omega) hne (by simp [hne, hna]) fun u2 h' tk hu2 ho ⟨hit', _⟩ hT hsz hk => ?_
    have eu : u2 = u := by
      have q : its[i]? = some u2 := by simpa using hu2
      rw [hu] at q
      exact (Option.some.inj q).symm
    subst eu
    refine ⟨_, rfl, wpAny_letOwnedTupleGo_enum (s := { s with heap := h', toks := tk + 1 }) ho fun h'' he' sb => ?_⟩
    have hT2 : h''.get? s.heap.objs.size = some { cls := .type "tuple", data := .seq #[.int i tk, u2] } := (sb.2 _ (Nat.ne_of_gt hel)).trans hT
    have new : ObjOk X.prog X.w (upd H s.heap.objs.size (.tup [.int (i : Nat), x])) h'' s.heap.objs.size (.tup [.int (i : Nat), x]) :=
      ⟨by show 2 ≤ sizeLine; decide, [.int i tk, u2], .cons ⟨_, rfl⟩ (.cons ru .nil), ⟨_, hT2, rfl, _, rfl⟩⟩
    have I1 : Inv X pins σ (upd H s.heap.objs.size (.tup [.int (i : Nat), x])) { s with heap := h'', toks := tk + 1 } :=
      I.turnedNew (ch := [e, it]) (fun b ob hb q => (sb.2 b (fun z => hb (by simp [z]))).trans (hk b ob (fun z => hb (by simp [z])) (fun z => hb (by simp [z])) q)) hf (Nat.le_refl _) new
    refine ⟨.ref s.heap.objs.size, _, I1, rfl, ⟨_, x, rfl, I.hok.fresh (Nat.le_refl _), rfl, fun ys hy => by rw [I.tuple_inj hy hq]; exact hx⟩, ⟨⟨u2, ?_⟩, hit'.at fun o q => (sb.2 it (Ne.symm hne)).trans q, hne, hna⟩, fun b hb => ?_⟩
    · have e1 : ((i + 1 : Nat) : Int) = (i : Int) + 1 := by omega
      rw [e1]; exact he'
    · have hb' : b < s.heap.objs.size := by
        have e' : b = e ∨ b = it := by simpa using hb
        rcases e' with z | z
        · rw [z]; exact hel
        · rw [z]; exact hil
      rw [upd_ne (Nat.ne_of_lt hb')]
      exact (hf b hb).1
  done := by
    intro X hP hw hK hc i pins s σ H E I hf st hg
    subst hP hw hK
    obtain ⟨⟨old, he⟩, hit, hne, hna⟩ := st
    obtain ⟨xs, hq, hx⟩ := hg
    obtain ⟨its, rv, p, hz⟩ := I.tuple hq
    obtain ⟨f0, f1, f2, f3, f4, f5⟩ := hf it (by simp)
    have hl := rv.length
    exact wpAny_pyNext_enum_endD (Draws.past (A := X.A.in1) (show X.A.in1.handled = none from I.ok.hd hc) it a its.toArray i (by simp; omega)) he ⟨rfl, hit, p⟩ fun h' eb => ⟨rfl, I.turned (t' := s.toks) (fun b o hb q => eb b o hb q) f0 f1 f3 f4 f5⟩
  self := fun A i s Q E st h => let ⟨⟨_, he⟩, _⟩ := st; wpAny_pyIter_enum he h
def iEnumT (K : PySem.W.Frag) (ta : TA) : TI := fun σ H R => ta σ H fun vs H1 => ∃ a xs, vs = [.ref a] ∧ SqT K H1 a xs ∧ R (IteT K a) H1
theorem pi_enumT {X : Cx} {e : Expr} {ta : TA} {p pos tpos : Pos} {elts : List Expr} {kk : Nat} (hg : Gl X "enumerate") (hm : X.mg "enumerate" = none) (ha : PA X [e] ta) (hs : starEach [e] X.env = [(false, eval e X.env)] := by rfl) :
    PI X (.Tuple elts kk tpos) (.Call (.Name "enumerate" p) [e] [] pos) (iEnumT X.K ta) := by
  refine ⟨fun pins s σ H R I hh => ?_⟩
  refine Call_ (ld_blt I hg hm boot_enumerate (PyProof.Rows.callWith_type1 (thn (ha.run pos pins s σ H _ I hh) fun us s1 ⟨vs, H1, I1, r1, q1⟩ => ?_) hs rfl))
  obtain ⟨a, xs, rfl, hq, q⟩ := q1
  cases r1 with
  | cons r rr =>
    cases rr
    cases r
    obtain ⟨its, rv, p', hz⟩ := I1.tuple hq
    have ha1 : a < s1.heap.objs.size := by obtain ⟨o, ho, _⟩ := id p'; exact Heap.lt_size ho
    refine call_enumB (begins_tuple a its.toArray) p' fun h' he hit hsz hk => wpAny_pyIter_enum he ?_
    have I2 : Inv X pins σ H1 { s1 with heap := h' } := I1.kept (t' := s1.toks) hk
    refine ⟨s1.heap.objs.size + 1, [s1.heap.objs.size + 1, s1.heap.objs.size], _, _, H1, rfl, I2, turn_enumT a (s1.heap.objs.size + 1) s1.heap.objs.size (Nat.ne_of_lt ha1), ⟨⟨.none, he⟩, ⟨_, hit, rfl, rfl⟩, Nat.succ_ne_self _, fun z => ?_⟩, fun b hb => ?_, q⟩
    · have z' : s1.heap.objs.size + 1 = a := z
      have ha2 : a < s1.heap.objs.size := ha1
      exact absurd z' (Nat.ne_of_gt (Nat.lt_succ_of_lt ha2))
    · have e' : b = s1.heap.objs.size + 1 ∨ b = s1.heap.objs.size := by simpa using hb
      have hle : s1.heap.objs.size ≤ b := by
        rcases e' with z | z
        · rw [z]; exact Nat.le_add_right _ _
        · rw [z]; exact Nat.le_refl _
      exact I1.fpOk hle (I1.hok.fresh hle)
section
variable {T : Str → Addr} {K : PySem.W.Frag} {ρ : Nat → Option Addr} {S : Sto} {Z : Hid} {H : Hp}
theorem it_enumT {a : Addr} {vs : List V} {ds : List D} (h : SqT K (Fz ρ Z H) a vs) (r : RepL T K ρ (Fz ρ Z H) ds vs) : ItOk T K ρ Z H (IteT K a) (enumD ds) .fz := by
  intro ρ2 S2 Z2 H2 hc hs hh w2 hch i
  have h2 : SqT K H2 a vs := Fz_sub.seqT (hs.seqT h)
  have r2 : RepL T K ρ2 (Fz ρ2 Z2 H2) ds vs := RepL.mono hc hs _ _ r
  refine ⟨fun d hd => ?_, fun hl => ⟨vs, h2, by rw [← r2.len]; simpa [enumD] using hl⟩⟩
  unfold enumD at hd
  rw [List.getElem?_mapIdx] at hd
  cases e : ds[i]? with
  | none => rw [e] at hd; cases hd
  | some d0 =>
    rw [e] at hd
    cases hd
    obtain ⟨v, hv, rv⟩ := r2.get e
    refine ⟨⟨vs, v, h2, hv⟩, fun x H3 y => ?_⟩
    obtain ⟨p, v', rfl, hp, rfl, hy⟩ := y
    have e2 := hy vs h2
    rw [hv] at e2
    cases e2
    obtain ⟨x3, w3, f⟩ := new_frz (o := .tup [.int (i : Nat), v]) w2 hp
    exact ⟨x3, w3, ⟨p, _, rfl, SqT.of f, RepL.cons rfl (RepL.one (x3.rep rv))⟩⟩
end
/-- .. of a list, a tuple -/
def kEnumA : List D → Cm (List D × Src)
  | [d] => fun S => match walkD S d with
    | some p => .ok (enumD p.1, p.2) S
    | none => .stuck
  | _ => stk
def iEnumA (F : Env → Cm (List D)) : Env → Cm (List D × Src) := fun env S => (F env S).bnd kEnumA
theorem if_enumA {T : Str → Addr} {X : Cx} {W : WX} {e : Expr} {pos tpos : Pos} {elts : List Expr} {kk : Nat} {p : Pos} {Fa : Env → Cm (List D)} (hg : Gl X "enumerate") (hm : X.mg "enumerate" = none) (ha : AF T X W [e] Fa) (hs : starEach [e] X.env = [(false, eval e X.env)] := by rfl) :
    IF T X W (.Tuple elts kk tpos) (.Call (.Name "enumerate" p) [e] [] pos) (iEnumA Fa) := by
  refine pi_imp (pi_or (pi_enum hg hm ha hs) (pi_enumT hg hm ha hs)) fun σ H Qi q => ?_
  obtain ⟨ρ, S, Z, env, w, er, g⟩ := q
  cases hF : Fa env S with
  | stuck =>
    unfold iEnumA at g
    rw [hF] at g
    exact g.elim
  | exc C fs S' =>
    unfold iEnumA at g
    rw [hF] at g
    exact .inl ⟨ρ, S, Z, env, w, er, by rw [hF]; exact g⟩
  | ok ds S' =>
    unfold iEnumA at g
    rw [hF] at g
    match ds, g with
    | [d], g =>
      cases hw : walkD S' d with
      | none =>
        have z : (R.ok [d] S').bnd kEnumA = .stuck := by show kEnumA [d] S' = .stuck; simp only [kEnumA, hw]
        rw [z] at g
        exact g.elim
      | some pr =>
        have z : (R.ok [d] S').bnd kEnumA = .ok (enumD pr.1, pr.2) S' := by show kEnumA [d] S' = _; simp only [kEnumA, hw]
        rw [z] at g
        by_cases ht : ∃ ts, d = .tup ts
        · obtain ⟨ts, rfl⟩ := ht
          cases hw
          refine .inr ⟨ρ, S, Z, env, w, er, ?_⟩
          rw [hF]
          intro vs H' ρ' x w' r
          obtain ⟨v, us, rfl, r2, r3⟩ := r
          subst r3
          obtain ⟨a, vs, rfl, q1, q2⟩ := r2
          exact ⟨a, vs, rfl, Fz_sub.seqT q1, g _ H' ρ' x w' (it_enumT q1 q2)⟩
        · refine .inl ⟨ρ, S, Z, env, w, er, ?_⟩
          rw [hF]
          intro vs H' ρ' x w' r
          obtain ⟨v, us, rfl, r2, r3⟩ := r
          subst r3
          obtain ⟨a, vs, rfl, q1, q2⟩ := walk_ls w' r2 hw fun ts e => ht ⟨ts, e⟩
          exact ⟨a, vs, rfl, q1, g _ H' ρ' x w' (it_enum q2)⟩
    | [], g => exact g.elim
    | _ :: _ :: _, g => exact g.elim
end HT
set_option maxRecDepth 100000
set_option maxHeartbeats 1600000
namespace HT
open PySem PySem.Spec L2
open PyProof.Rows hiding St

/-! ### a call that sees nothing of the store: it is run in the empty store -/
mutual
def clD : D → Bool
  | .lst ds => clL ds
  | .klst ds => clL ds
  | .tup ds => clL ds
  | .obj _ fs => clF fs
  | .exn _ fs => clF fs
  | .dK kvs => clK kvs
  | .dT kvs => clT kvs
  | .cell _ => false
  | .non => true
  | .bl _ => true
  | .int _ => true
  | .str _ => true
  | .glob _ => true
  | .ty _ => true
def clL : List D → Bool
  | [] => true
  | d :: ds => clD d && clL ds
def clF : List (Str × D) → Bool
  | [] => true
  | p :: ds => clD p.2 && clF ds
def clK : List (Key × D) → Bool
  | [] => true
  | p :: ds => clD p.2 && clK ds
def clT : List (List Key × D) → Bool
  | [] => true
  | p :: ds => clD p.2 && clT ds
end
-- nothing in it that could be changed
mutual
def lfD : D → Bool
  | .tup ds => lfL ds
  | .non => true
  | .bl _ => true
  | .int _ => true
  | .str _ => true
  | .glob _ => true
  | .ty _ => true
  | .lst _ => false
  | .klst _ => false
  | .obj _ _ => false
  | .exn _ _ => false
  | .dK _ => false
  | .dT _ => false
  | .cell _ => false
def lfL : List D → Bool
  | [] => true
  | d :: ds => lfD d && lfL ds
end
def lfF : List (Str × D) → Bool
  | [] => true
  | p :: ds => lfD p.2 && lfF ds
def lfCO : CO → Bool
  | .ins _ fs => lfF fs
  | _ => false
def noRho : Nat → Option Addr := fun _ => none
section
variable {T : Str → Addr} {K : PySem.W.Frag} {ρ : Nat → Option Addr} {F F' : Hp}
mutual
theorem clD_low : ∀ d : D, clD d = true → lowD 0 d
  | .lst ds, h => clL_low ds h
  | .klst ds, h => clL_low ds h
  | .tup ds, h => clL_low ds h
  | .obj _ fs, h => clF_low fs h
  | .exn _ fs, h => clF_low fs h
  | .dK kvs, h => clK_low kvs h
  | .dT kvs, h => clT_low kvs h
  | .cell _, h => by cases h
  | .non, _ => trivial
  | .bl _, _ => trivial
  | .int _, _ => trivial
  | .str _, _ => trivial
  | .glob _, _ => trivial
  | .ty _, _ => trivial
theorem clL_low : ∀ d : List D, clL d = true → lowL 0 d
  | [], _ => trivial
  | d :: ds, h => ⟨clD_low d (bAnd h).1, clL_low ds (bAnd h).2⟩
theorem clF_low : ∀ d : List (Str × D), clF d = true → lowF 0 d
  | [], _ => trivial
  | (x, d) :: ds, h => ⟨clD_low d (bAnd h).1, clF_low ds (bAnd h).2⟩
theorem clK_low : ∀ d : List (Key × D), clK d = true → lowK 0 d
  | [], _ => trivial
  | (x, d) :: ds, h => ⟨clD_low d (bAnd h).1, clK_low ds (bAnd h).2⟩
theorem clT_low : ∀ d : List (List Key × D), clT d = true → lowT 0 d
  | [], _ => trivial
  | (x, d) :: ds, h => ⟨clD_low d (bAnd h).1, clT_low ds (bAnd h).2⟩
end
theorem cut0 : cutR ρ 0 = noRho := funext fun k => if_neg (Nat.not_lt_zero k)
theorem hobj_is {c : CO} {o : HO} (h : HObj T K ρ F c o) : (∃ vs, o = .lst vs) ∨ (∃ vs, o = .dK vs) ∨ (∃ vs, o = .dT vs) ∨ ∃ C dx vs, o = .ins C dx vs := by
  cases c with
  | lst ds => obtain ⟨vs, e, _⟩ := h; exact .inl ⟨vs, e⟩
  | dK ds => obtain ⟨vs, e, _⟩ := h; exact .inr (.inl ⟨vs, e⟩)
  | dT ds => obtain ⟨vs, e, _⟩ := h; exact .inr (.inr (.inl ⟨vs, e⟩))
  | ins C fs => obtain ⟨dx, vs, e, _⟩ := h; exact .inr (.inr (.inr ⟨_, dx, vs, e⟩))
theorem tup_no {c : CO} {vs : List V} (h : HObj T K ρ F c (.tup vs)) : False := by
  rcases hobj_is h with ⟨_, e⟩ | ⟨_, e⟩ | ⟨_, e⟩ | ⟨_, _, _, e⟩ <;> cases e
theorem frz_no {c : CO} {ob : Obj} {u : HO} (h : HObj T K ρ F c (.frz ob u)) : False := by
  rcases hobj_is h with ⟨_, e⟩ | ⟨_, e⟩ | ⟨_, e⟩ | ⟨_, _, _, e⟩ <;> cases e
theorem xd_not {c : CO} {vs : List (Str × V)} (h : HObj T K ρ F c (.xd vs)) : False := by
  rcases hobj_is h with ⟨_, e⟩ | ⟨_, e⟩ | ⟨_, e⟩ | ⟨_, _, _, e⟩ <;> cases e
/-- an address of a tuple, of data of an error, is none of the cells -/
theorem tup_not {Z : Hid} {H : Hp} {S : Sto} (w : Wd T K ρ S Z H) {a : Addr} {o : HO} (h : Fz noRho Z H a = some o) (hn : ∀ c F, ¬ HObj T K ρ F c o) : Fz ρ Z H a = some o := by
  obtain ⟨h1, h2, _⟩ := Fz_at h
  refine Fz_mk h1 h2 fun k e => ?_
  have hk := w.dom k a e
  obtain ⟨b, u, g1, g2, g3, g4⟩ := w.cells k S[k] (List.getElem?_eq_getElem hk)
  rw [e] at g1
  cases g1
  rw [h1] at g3
  cases g3
  exact hn _ _ g4
mutual
theorem Rep.lf {Z : Hid} {H : Hp} {S : Sto} (w : Wd T K ρ S Z H) : ∀ (d : D) (v : V), lfD d = true → Rep T K noRho (Fz noRho Z H) d v → Rep T K ρ (Fz ρ Z H) d v
  | .tup ds, v, l, h => by
    obtain ⟨a, vs, e, q, r⟩ := h
    refine ⟨a, vs, e, ?_, RepL.lf w ds vs l r⟩
    rcases q with (q | ⟨o, q⟩) | q
    · exact .inl (.inl (tup_not w q fun c F z => tup_no z))
    · exact .inl (.inr ⟨o, tup_not w q fun c F z => frz_no z⟩)
    · exact .inr q
  | .non, _, _, h => h
  | .bl _, _, _, h => h
  | .int _, _, _, h => h
  | .str _, _, _, h => h
  | .glob _, _, _, h => h
  | .ty _, _, _, h => h
  | .lst _, _, l, _ => by cases l
  | .klst _, _, l, _ => by cases l
  | .obj _ _, _, l, _ => by cases l
  | .exn _ _, _, l, _ => by cases l
  | .dK _, _, l, _ => by cases l
  | .dT _, _, l, _ => by cases l
  | .cell _, _, l, _ => by cases l
theorem RepL.lf {Z : Hid} {H : Hp} {S : Sto} (w : Wd T K ρ S Z H) : ∀ (ds : List D) (vs : List V), lfL ds = true → RepL T K noRho (Fz noRho Z H) ds vs → RepL T K ρ (Fz ρ Z H) ds vs
  | [], _, _, h => h
  | d :: ds, vs, l, h => by
    obtain ⟨v, r, e, q, q2⟩ := h
    exact ⟨v, r, e, Rep.lf w d v (bAnd l).1 q, RepL.lf w ds r (bAnd l).2 q2⟩
end
theorem RepF.lf {Z : Hid} {H : Hp} {S : Sto} (w : Wd T K ρ S Z H) : ∀ (ds : List (Str × D)) (vs : List (Str × V)), lfF ds = true → RepF T K noRho (Fz noRho Z H) ds vs → RepF T K ρ (Fz ρ Z H) ds vs
  | [], _, _, h => h
  | (x, d) :: ds, vs, l, h => by
    obtain ⟨v, r, e, q, q2⟩ := h
    exact ⟨v, r, e, Rep.lf w d v (bAnd l).1 q, RepF.lf w ds r (bAnd l).2 q2⟩
end
/-- hidden, and all cells -/
def allZ (ρ : Nat → Option Addr) (Z : Hid) : Hid := ⟨fun a => Z a ∨ ∃ k, ρ k = some a, Z.me⟩
section
variable {T : Str → Addr} {K : PySem.W.Frag} {W : WX} {σ : St} {ρ ρ' : Nat → Option Addr} {Z : Hid} {H H' : Hp} {S : Sto} {Q : VK}
theorem fz_all : Fz noRho (allZ ρ Z) H = Fz ρ Z H := by
  funext a
  unfold Fz
  by_cases h : Z a ∨ ∃ k, ρ k = some a
  · rw [if_pos h, if_pos (show (allZ ρ Z) a ∨ ∃ k, noRho k = some a from .inl h)]
  · rw [if_neg h, if_neg]
    rintro (z | ⟨k, z⟩)
    · exact h z
    · cases z
theorem no_rho {ρ' : Nat → Option Addr} {Z : Hid} {H : Hp} (w : Wd T K ρ' [] Z H) : ρ' = noRho := funext fun k => by
  cases e : ρ' k with
  | none => rfl
  | some a => exact absurd (w.dom k a e) (Nat.not_lt_zero k)
theorem wd_all (w : Wd T K ρ S Z H) : Wd T K noRho [] (allZ ρ Z) H := ⟨fun k a h => (by cases h), fun k c h => (by cases h), fun j k a h _ => (by cases h), fun a h => by
  rcases h with h | ⟨k, h⟩
  · exact w.there a h
  · have hk := w.dom k a h
    obtain ⟨b, o, g1, _, g3, _⟩ := w.cells k S[k] (List.getElem?_eq_getElem hk)
    rw [h] at g1
    cases g1
    exact ⟨o, g3⟩⟩
theorem wd_non (w : Wd T K ρ S Z H) : Wd T K noRho [] Z H := ⟨fun k a h => (by cases h), fun k c h => (by cases h), fun j k a h _ => (by cases h), w.there⟩
/-- back from it -/
theorem back_all (w : Wd T K ρ S Z H) (x : Ext noRho (allZ ρ Z) H noRho H') : Ext ρ Z H ρ H' ∧ Wd T K ρ S Z H' := by
  have hf : Sub (Fz ρ Z H) (Fz ρ Z H') := fun a o h => by
    have := x.frz a o (by rw [fz_all]; exact h)
    rw [fz_all] at this
    exact this
  refine ⟨⟨fun _ _ h => h, hf, fun a z => x.hid a (.inl z)⟩, ⟨w.dom, fun k c hc => ?_, w.inj, fun a z => ?_⟩⟩
  · obtain ⟨a, o, g1, g2, g3, g4⟩ := w.cells k c hc
    exact ⟨a, o, g1, g2, (x.hid a (.inr ⟨k, g1⟩)).trans g3, g4.mono (fun _ _ h => h) hf⟩
  · obtain ⟨o, ho⟩ := w.there a z
    exact ⟨o, (x.hid a (.inl z)).trans ho⟩
theorem back_non (w : Wd T K ρ S Z H) (x : Ext noRho Z H noRho H') : Ext ρ Z H ρ H' ∧ Wd T K ρ S Z H' := by
  have keep : ∀ a o, ¬ Z a → H a = some o → H' a = some o := fun a o z h => (Fz_at (x.frz a o (Fz_mk h z fun k e => by cases e))).1
  have hf : Sub (Fz ρ Z H) (Fz ρ Z H') := fun a o h => by
    obtain ⟨h1, h2, h3⟩ := Fz_at h
    exact Fz_mk (keep a o h2 h1) h2 h3
  refine ⟨⟨fun _ _ h => h, hf, x.hid⟩, ⟨w.dom, fun k c hc => ?_, w.inj, fun a z => ?_⟩⟩
  · obtain ⟨a, o, g1, g2, g3, g4⟩ := w.cells k c hc
    exact ⟨a, o, g1, g2, keep a o g2 g3, g4.mono (fun _ _ h => h) hf⟩
  · obtain ⟨o, ho⟩ := w.there a z
    exact ⟨o, (x.hid a z).trans ho⟩
end
def R.inS {α : Type} (S : Sto) : R α → R α
  | .ok d _ => .ok d S
  | .exc C fs _ => .exc C fs S
  | .stuck => .stuck
def R.inSl (S : Sto) : R D → R D
  | .ok d _ => if lfD d = true then .ok d S else .stuck
  | .exc C fs _ => if lfF fs = true then .exc C fs S else .stuck
  | .stuck => .stuck
def R.inSo (S : Sto) : R CO → R CO
  | .ok d _ => if lfCO d = true then .ok d S else .stuck
  | .exc C fs _ => if lfF fs = true then .exc C fs S else .stuck
  | .stuck => .stuck
/-- a def's function, run in the empty store -/
def frm (M : List D → Cm D) : List D → Cm D := fun ds S => if clL ds = true then R.inS S (mltR [] (M ds [])) else match meltL (meltC S 0 6) ds with
  | some es => R.inSl S (mltR [] (M es []))
  | none => .stuck
def frmI (M : List D → Cm CO) : List D → Cm CO := fun ds S => if clL ds = true then R.inS S (mltO [] (M ds [])) else match meltL (meltC S 0 6) ds with
  | some es => R.inSo S (mltO [] (M es []))
  | none => .stuck
section
variable {T : Str → Addr} {K : PySem.W.Frag} {W : WX} {σ : St} {ρ : Nat → Option Addr} {Z : Hid} {H : Hp} {S : Sto} {Q : VK}
theorem sto_nil {r : R D} {d : D} {S1 : Sto} (h : mltR [] r = .ok d S1) : S1 = [] := by
  cases r with
  | ok d0 S' =>
    by_cases hl : S'.length = ([] : Sto).length
    · have e : mltR [] (.ok d0 S') = .ok d0 S' := if_pos hl
      rw [e] at h
      cases h
      exact List.eq_nil_of_length_eq_zero hl
    · have e : mltR [] (.ok d0 S') = (match melt0 (meltC S' 0 6) d0, mkeep (meltC S' 0 6) [] S' with
        | some d', some S'' => .ok d' S''
        | _, _ => .stuck) := if_neg hl
      rw [e] at h
      cases h1 : melt0 (meltC S' 0 6) d0 with
      | none => rw [h1] at h; cases h
      | some d' =>
        rw [h1, show mkeep (meltC S' 0 6) [] S' = some [] from rfl] at h
        cases h
        rfl
  | exc C fs S' =>
    by_cases hl : S'.length = ([] : Sto).length
    · have e : mltR [] (.exc C fs S') = .exc C fs S' := if_pos hl
      rw [e] at h
      cases h
    · have e : mltR [] (.exc C fs S') = (match meltF (meltC S' 0 6) fs, mkeep (meltC S' 0 6) [] S' with
        | some d', some S'' => .exc C d' S''
        | _, _ => .stuck) := if_neg hl
      rw [e] at h
      cases h1 : meltF (meltC S' 0 6) fs with
      | none => rw [h1] at h; cases h
      | some d' =>
        rw [h1, show mkeep (meltC S' 0 6) [] S' = some [] from rfl] at h
        cases h
  | stuck => cases h
theorem sto_nilX {r : R D} {C : Str} {fs : List (Str × D)} {S1 : Sto} (h : mltR [] r = .exc C fs S1) : S1 = [] := by
  cases r with
  | exc C0 d0 S' =>
    by_cases hl : S'.length = ([] : Sto).length
    · have e : mltR [] (.exc C0 d0 S') = .exc C0 d0 S' := if_pos hl
      rw [e] at h
      cases h
      exact List.eq_nil_of_length_eq_zero hl
    · have e : mltR [] (.exc C0 d0 S') = (match meltF (meltC S' 0 6) d0, mkeep (meltC S' 0 6) [] S' with
        | some d', some S'' => .exc C0 d' S''
        | _, _ => .stuck) := if_neg hl
      rw [e] at h
      cases h1 : meltF (meltC S' 0 6) d0 with
      | none => rw [h1] at h; cases h
      | some d' =>
        rw [h1, show mkeep (meltC S' 0 6) [] S' = some [] from rfl] at h
        cases h
        rfl
  | ok d0 S' =>
    by_cases hl : S'.length = ([] : Sto).length
    · have e : mltR [] (.ok d0 S') = .ok d0 S' := if_pos hl
      rw [e] at h
      cases h
    · have e : mltR [] (.ok d0 S') = (match melt0 (meltC S' 0 6) d0, mkeep (meltC S' 0 6) [] S' with
        | some d', some S'' => .ok d' S''
        | _, _ => .stuck) := if_neg hl
      rw [e] at h
      cases h1 : melt0 (meltC S' 0 6) d0 with
      | none => rw [h1] at h; cases h
      | some d' =>
        rw [h1, show mkeep (meltC S' 0 6) [] S' = some [] from rfl] at h
        cases h
  | stuck => cases h
theorem Good.all (w : Wd T K ρ S Z H) {r : R D} (g : Good T K (rD T K) W σ Q ρ Z H (R.inS S (mltR [] r))) : Good T K (rD T K) W σ Q noRho (allZ ρ Z) H r := by
  refine Good.melt (wd_all w) ?_
  cases h : mltR [] r with
  | ok d S1 =>
    rw [h] at g
    have e := sto_nil h
    subst e
    intro v H' ρ' x w' q
    have e := no_rho w'
    subst e
    obtain ⟨x2, w2⟩ := back_all w x
    refine g v H' ρ x2 w2 ?_
    have q' : Rep T K noRho (Fz noRho (allZ ρ Z) H') d v := q
    rw [fz_all] at q'
    exact Rep.mono (fun k a h => by cases h) (fun _ _ h => h) d v q'
  | exc C fs S1 =>
    rw [h] at g
    have e := sto_nilX h
    subst e
    intro dx vs H' ρ' x w' q q2
    have e := no_rho w'
    subst e
    obtain ⟨x2, w2⟩ := back_all w x
    rw [fz_all] at q q2
    exact g dx vs H' ρ x2 w2 q (RepF.mono (fun k a h => by cases h) (fun _ _ h => h) fs vs q2)
  | stuck =>
    rw [h] at g
    exact g
theorem Good.non (w : Wd T K ρ S Z H) {r : R D} (g : Good T K (rD T K) W σ Q ρ Z H (R.inSl S (mltR [] r))) : Good T K (rD T K) W σ Q noRho Z H r := by
  refine Good.melt (wd_non w) ?_
  cases h : mltR [] r with
  | ok d S1 =>
    rw [h] at g
    have e := sto_nil h
    subst e
    by_cases hl : lfD d = true
    · have e2 : R.inSl S (.ok d []) = .ok d S := if_pos hl
      rw [e2] at g
      intro v H' ρ' x w' q
      have e := no_rho w'
      subst e
      obtain ⟨x2, w2⟩ := back_non w x
      exact g v H' ρ x2 w2 (Rep.lf w2 d v hl q)
    · have e2 : R.inSl S (.ok d []) = .stuck := if_neg hl
      rw [e2] at g
      exact g.elim
  | exc C fs S1 =>
    rw [h] at g
    have e := sto_nilX h
    subst e
    by_cases hl : lfF fs = true
    · have e2 : R.inSl S (.exc C fs []) = .exc C fs S := if_pos hl
      rw [e2] at g
      intro dx vs H' ρ' x w' q q2
      have e := no_rho w'
      subst e
      obtain ⟨x2, w2⟩ := back_non w x
      exact g dx vs H' ρ x2 w2 (q.map fun b z => tup_not w2 z fun c F y => xd_not y) (RepF.lf w2 fs vs hl q2)
    · have e2 : R.inSl S (.exc C fs []) = .stuck := if_neg hl
      rw [e2] at g
      exact g.elim
  | stuck =>
    rw [h] at g
    exact g
theorem rep_all (w : Wd T K ρ S Z H) {ds : List D} {vs : List V} (hc : clL ds = true) (r : RepL T K ρ (Fz ρ Z H) ds vs) : RepL T K noRho (Fz noRho (allZ ρ Z) H) ds vs := by
  rw [fz_all]
  have q := RepL.cut (n := 0) (F' := Fz ρ Z H) (fun _ _ h => h) ds vs (clL_low ds hc) r
  rw [cut0] at q
  exact q
theorem rep_non (w : Wd T K ρ S Z H) {ds es : List D} {vs : List V} (hm : meltL (meltC S 0 6) ds = some es) (r : RepL T K ρ (Fz ρ Z H) ds vs) : RepL T K noRho (Fz noRho Z H) es vs := by
  have q := RepL.melt (F' := Fz (cutR ρ 0) Z H) (ρ' := cutR ρ 0) fz_cut (fun k d a => meltC_ok w 6 k d a) ds vs es hm r
  rw [cut0] at q
  exact q
end
theorem ft_frm {P : Program} {w : World} {K : PySem.W.Frag} {mg : Str → Option Value} {base : Heap} {T : Str → Addr} {k : Nat} {f : Addr} {fd : FuncData} {ps : List Str} {M : List D → Cm D} (F : FT P w K mg base T k f fd ps M) : FT P w K mg base T k f fd ps (frm M) := by
  have ml : ∀ {f : Nat → Option D} {ds es : List D}, meltL f ds = some es → es.length = ds.length := fun {f ds} => by
    induction ds with
    | nil => intro es h; cases h; rfl
    | cons d ds ih =>
      intro es h
      unfold meltL at h
      cases h1 : melt0 f d with
      | none => rw [h1] at h; cases h
      | some a =>
        cases h2 : meltL f ds with
        | none => rw [h1, h2] at h; cases h
        | some b =>
          rw [h1, h2] at h
          cases h
          rw [List.length_cons, List.length_cons, ih h2]
  refine ⟨fun ds S h => ?_, fun A outer s H args us vs Q E lv e0 b r hl sp => ?_⟩
  · by_cases hc : clL ds = true
    · show (if clL ds = true then _ else _) = _
      rw [if_pos hc, F.len ds [] h]
      rfl
    · show (if clL ds = true then _ else _) = _
      rw [if_neg hc]
      cases hm : meltL (meltC S 0 6) ds with
      | none => rfl
      | some es =>
        dsimp only
        rw [F.len es [] (by rw [ml hm]; exact h)]
        rfl
  · obtain ⟨ρ, S, Z, ds, w, r2, g⟩ := sp
    by_cases hc : clL ds = true
    · have e : frm M ds S = R.inS S (mltR [] (M ds [])) := if_pos hc
      rw [e] at g
      exact F.run A outer s H args us vs Q E lv e0 b r hl ⟨noRho, [], allZ ρ Z, ds, wd_all w, rep_all w hc r2, Good.all w g⟩
    · have e : frm M ds S = (match meltL (meltC S 0 6) ds with
        | some es => R.inSl S (mltR [] (M es []))
        | none => .stuck) := if_neg hc
      rw [e] at g
      cases hm : meltL (meltC S 0 6) ds with
      | none => rw [hm] at g; exact g.elim
      | some es =>
        rw [hm] at g
        exact F.run A outer s H args us vs Q E lv e0 b r hl ⟨noRho, [], Z, es, wd_non w, rep_non w hm r2, Good.non w g⟩
end HT
set_option maxRecDepth 100000
set_option maxHeartbeats 1600000
namespace HT
open PySem PySem.Spec L2
open PyProof.Rows hiding St

/-! ### the same for what makes an object -/
section
variable {T : Str → Addr} {K : PySem.W.Frag} {W : WX} {σ : St} {ρ ρ' : Nat → Option Addr} {Z : Hid} {H H' : Hp} {S : Sto} {Q : VK} {p : Addr} {c : CO}
theorem fz_allP : Fz noRho (plusZ (allZ ρ Z) p) H = Fz ρ (plusZ Z p) H := by
  funext a
  unfold Fz
  by_cases h : (plusZ Z p) a ∨ ∃ k, ρ k = some a
  · rw [if_pos h, if_pos]
    rcases h with (h | h) | h
    · exact .inl (.inl (.inl h))
    · exact .inl (.inr h)
    · exact .inl (.inl (.inr h))
  · rw [if_neg h, if_neg]
    rintro (((z | z) | z) | ⟨k, z⟩)
    · exact h (.inl (.inl z))
    · exact h (.inr z)
    · exact h (.inl (.inr z))
    · cases z
theorem neu_all (w : Wd T K ρ S Z H) (n : Neu T K noRho (allZ ρ Z) H noRho [] H' p c) : Neu T K ρ Z H ρ S H' p c := by
  have hf : Sub (Fz ρ Z H) (Fz ρ (plusZ Z p) H') := fun a o h => by
    have q := n.frz a o (by rw [fz_all]; exact h)
    rw [fz_allP] at q
    exact q
  refine ⟨fun _ _ h => h, hf, fun a z => n.hid a (.inl z), ⟨w.dom, fun k c0 hc => ?_, w.inj, fun a z => ?_⟩, fun z => n.nz (.inl z), ?_⟩
  · obtain ⟨a, o, g1, g2, g3, g4⟩ := w.cells k c0 hc
    refine ⟨a, o, g1, fun z => ?_, (n.hid a (.inr ⟨k, g1⟩)).trans g3, g4.mono (fun _ _ h => h) hf⟩
    rcases z with z | z
    · exact g2 z
    · rw [z] at g1
      exact n.nz (.inr ⟨k, g1⟩)
  · rcases z with z | z
    · obtain ⟨o, ho⟩ := w.there a z
      exact ⟨o, (n.hid a (.inl z)).trans ho⟩
    · obtain ⟨o, ho, _⟩ := n.obj
      exact ⟨o, by rw [z]; exact ho⟩
  · obtain ⟨o, h1, h2⟩ := n.obj
    rw [fz_allP] at h2
    exact ⟨o, h1, h2.mono (fun k a h => by cases h) (fun _ _ h => h)⟩
theorem neu_non (w : Wd T K ρ S Z H) (n : Neu T K noRho Z H noRho [] H' p c) (hl : lfCO c = true) : Neu T K ρ Z H ρ S H' p c := by
  have keep : ∀ a o, ¬ Z a → H a = some o → ¬ (plusZ Z p) a ∧ H' a = some o := fun a o z h => by
    obtain ⟨q1, q2, _⟩ := Fz_at (n.frz a o (Fz_mk h z fun k e => by cases e))
    exact ⟨q2, q1⟩
  have hf : Sub (Fz ρ Z H) (Fz ρ (plusZ Z p) H') := fun a o h => by
    obtain ⟨h1, h2, h3⟩ := Fz_at h
    exact Fz_mk (keep a o h2 h1).2 (keep a o h2 h1).1 h3
  have w' : Wd T K ρ S (plusZ Z p) H' := ⟨w.dom, fun k c0 hc => by
    obtain ⟨a, o, g1, g2, g3, g4⟩ := w.cells k c0 hc
    exact ⟨a, o, g1, (keep a o g2 g3).1, (keep a o g2 g3).2, g4.mono (fun _ _ h => h) hf⟩, w.inj, fun a z => by
    rcases z with z | z
    · obtain ⟨o, ho⟩ := w.there a z
      exact ⟨o, (n.hid a z).trans ho⟩
    · obtain ⟨o, ho, _⟩ := n.obj
      exact ⟨o, by rw [z]; exact ho⟩⟩
  refine ⟨fun _ _ h => h, hf, n.hid, w', n.nz, ?_⟩
  obtain ⟨o, h1, h2⟩ := n.obj
  refine ⟨o, h1, ?_⟩
  cases c with
  | ins C fs =>
    obtain ⟨dx, vs, e, r⟩ := h2
    exact ⟨dx, vs, e, RepF.lf w' fs vs hl r⟩
  | lst _ => cases hl
  | dK _ => cases hl
  | dT _ => cases hl
theorem stoO_nil {r : R CO} {d : CO} {S1 : Sto} (h : mltO [] r = .ok d S1) : S1 = [] := by
  cases r with
  | ok d0 S' =>
    by_cases hl : S'.length = ([] : Sto).length
    · have e : mltO [] (.ok d0 S') = .ok d0 S' := if_pos hl
      rw [e] at h
      cases h
      exact List.eq_nil_of_length_eq_zero hl
    · have e : mltO [] (.ok d0 S') = (match meltCO (meltC S' 0 6) d0, mkeep (meltC S' 0 6) [] S' with
        | some d', some S'' => .ok d' S''
        | _, _ => .stuck) := if_neg hl
      rw [e] at h
      cases h1 : meltCO (meltC S' 0 6) d0 with
      | none => rw [h1] at h; cases h
      | some d' =>
        rw [h1, show mkeep (meltC S' 0 6) [] S' = some [] from rfl] at h
        cases h
        rfl
  | exc C fs S' =>
    by_cases hl : S'.length = ([] : Sto).length
    · have e : mltO [] (.exc C fs S') = .exc C fs S' := if_pos hl
      rw [e] at h
      cases h
    · have e : mltO [] (.exc C fs S') = (match meltF (meltC S' 0 6) fs, mkeep (meltC S' 0 6) [] S' with
        | some d', some S'' => .exc C d' S''
        | _, _ => .stuck) := if_neg hl
      rw [e] at h
      cases h1 : meltF (meltC S' 0 6) fs with
      | none => rw [h1] at h; cases h
      | some d' =>
        rw [h1, show mkeep (meltC S' 0 6) [] S' = some [] from rfl] at h
        cases h
  | stuck => cases h
theorem stoO_nilX {r : R CO} {C : Str} {fs : List (Str × D)} {S1 : Sto} (h : mltO [] r = .exc C fs S1) : S1 = [] := by
  cases r with
  | exc C0 d0 S' =>
    by_cases hl : S'.length = ([] : Sto).length
    · have e : mltO [] (.exc C0 d0 S') = .exc C0 d0 S' := if_pos hl
      rw [e] at h
      cases h
      exact List.eq_nil_of_length_eq_zero hl
    · have e : mltO [] (.exc C0 d0 S') = (match meltF (meltC S' 0 6) d0, mkeep (meltC S' 0 6) [] S' with
        | some d', some S'' => .exc C0 d' S''
        | _, _ => .stuck) := if_neg hl
      rw [e] at h
      cases h1 : meltF (meltC S' 0 6) d0 with
      | none => rw [h1] at h; cases h
      | some d' =>
        rw [h1, show mkeep (meltC S' 0 6) [] S' = some [] from rfl] at h
        cases h
        rfl
  | ok d0 S' =>
    by_cases hl : S'.length = ([] : Sto).length
    · have e : mltO [] (.ok d0 S') = .ok d0 S' := if_pos hl
      rw [e] at h
      cases h
    · have e : mltO [] (.ok d0 S') = (match meltCO (meltC S' 0 6) d0, mkeep (meltC S' 0 6) [] S' with
        | some d', some S'' => .ok d' S''
        | _, _ => .stuck) := if_neg hl
      rw [e] at h
      cases h1 : meltCO (meltC S' 0 6) d0 with
      | none => rw [h1] at h; cases h
      | some d' =>
        rw [h1, show mkeep (meltC S' 0 6) [] S' = some [] from rfl] at h
        cases h
  | stuck => cases h
theorem GoodO.all (w : Wd T K ρ S Z H) {r : R CO} (g : GoodO T K W σ Q ρ Z H (R.inS S (mltO [] r))) : GoodO T K W σ Q noRho (allZ ρ Z) H r := by
  refine GoodO.melt (wd_all w) ?_
  cases h : mltO [] r with
  | ok d S1 =>
    rw [h] at g
    have e := stoO_nil h
    subst e
    intro p H' ρ' n
    have e := no_rho n.w
    subst e
    exact g p H' ρ (neu_all w n)
  | exc C fs S1 =>
    rw [h] at g
    have e := stoO_nilX h
    subst e
    intro dx vs H' ρ' x w' q q2
    have e := no_rho w'
    subst e
    obtain ⟨x2, w2⟩ := back_all w x
    rw [fz_all] at q q2
    exact g dx vs H' ρ x2 w2 q (RepF.mono (fun k a h => by cases h) (fun _ _ h => h) fs vs q2)
  | stuck =>
    rw [h] at g
    exact g
theorem GoodO.non (w : Wd T K ρ S Z H) {r : R CO} (g : GoodO T K W σ Q ρ Z H (R.inSo S (mltO [] r))) : GoodO T K W σ Q noRho Z H r := by
  refine GoodO.melt (wd_non w) ?_
  cases h : mltO [] r with
  | ok d S1 =>
    rw [h] at g
    have e := stoO_nil h
    subst e
    by_cases hl : lfCO d = true
    · have e2 : R.inSo S (.ok d []) = .ok d S := if_pos hl
      rw [e2] at g
      intro p H' ρ' n
      have e := no_rho n.w
      subst e
      exact g p H' ρ (neu_non w n hl)
    · have e2 : R.inSo S (.ok d []) = .stuck := if_neg hl
      rw [e2] at g
      exact g.elim
  | exc C fs S1 =>
    rw [h] at g
    have e := stoO_nilX h
    subst e
    by_cases hl : lfF fs = true
    · have e2 : R.inSo S (.exc C fs []) = .exc C fs S := if_pos hl
      rw [e2] at g
      intro dx vs H' ρ' x w' q q2
      have e := no_rho w'
      subst e
      obtain ⟨x2, w2⟩ := back_non w x
      exact g dx vs H' ρ x2 w2 (q.map fun b z => tup_not w2 z fun c F y => xd_not y) (RepF.lf w2 fs vs hl q2)
    · have e2 : R.inSo S (.exc C fs []) = .stuck := if_neg hl
      rw [e2] at g
      exact g.elim
  | stuck =>
    rw [h] at g
    exact g
end
theorem meltL_len {f : Nat → Option D} : ∀ {ds es : List D}, meltL f ds = some es → es.length = ds.length
  | [], es, h => by cases h; rfl
  | d :: ds, es, h => by
    unfold meltL at h
    cases h1 : melt0 f d with
    | none => rw [h1] at h; cases h
    | some a =>
      cases h2 : meltL f ds with
      | none => rw [h1, h2] at h; cases h
      | some b =>
        rw [h1, h2] at h
        cases h
        rw [List.length_cons, List.length_cons, meltL_len h2]
theorem fi_frm {P : Program} {w : World} {K : PySem.W.Frag} {mg : Str → Option Value} {base : Heap} {T : Str → Addr} {k : Nat} {f : Addr} {fd : FuncData} {ps : List Str} {C : Str} {M : List D → Cm CO} (F : FI P w K mg base T k f fd ps C M) : FI P w K mg base T k f fd ps C (frmI M) := by
  refine ⟨fun ds S h => ?_, fun A outer s H args us vs Q E lv e0 b r hl sp => ?_⟩
  · by_cases hc : clL ds = true
    · show (if clL ds = true then _ else _) = _
      rw [if_pos hc, F.len ds [] h]
      rfl
    · show (if clL ds = true then _ else _) = _
      rw [if_neg hc]
      cases hm : meltL (meltC S 0 6) ds with
      | none => rfl
      | some es =>
        dsimp only
        rw [F.len es [] (by rw [meltL_len hm]; exact h)]
        rfl
  · obtain ⟨ρ, S, Z, H0, x, dx, rest, ds, Qo, q1, q2, q3, q4, q5, w, r2, g, q6⟩ := sp
    by_cases hc : clL ds = true
    · have e : frmI M ds S = R.inS S (mltO [] (M ds [])) := if_pos hc
      rw [e] at g
      exact F.run A outer s H args us vs Q E lv e0 b r hl ⟨noRho, [], allZ ρ Z, H0, x, dx, rest, ds, Qo, q1, q2, q3, q4, q5, wd_all w, rep_all w hc r2, GoodO.all w g, q6⟩
    · have e : frmI M ds S = (match meltL (meltC S 0 6) ds with
        | some es => R.inSo S (mltO [] (M es []))
        | none => .stuck) := if_neg hc
      rw [e] at g
      cases hm : meltL (meltC S 0 6) ds with
      | none => rw [hm] at g; exact g.elim
      | some es =>
        rw [hm] at g
        exact F.run A outer s H args us vs Q E lv e0 b r hl ⟨noRho, [], Z, H0, x, dx, rest, es, Qo, q1, q2, q3, q4, q5, wd_non w, rep_non w hm r2, GoodO.non w g, q6⟩
end HT
set_option maxRecDepth 100000
set_option maxHeartbeats 1600000
namespace HT
open PySem PySem.Spec L2
open PyProof.Rows hiding St

/-! ### zip(.., strict=True) of lists and tuples (printed by zipgen.py) -/
abbrev IsZipS (h : Heap) (zp ti ow : Addr) (f0 : Value) : Prop :=
  h.get? zp = some { cls := .type "zip", dict := none, data := .fields #[f0, .bool false, .bool true, .ref ti, .ref ow], slots := #[] }
abbrev Tup (h : Heap) (T : Addr) (vs : Array Value) : Prop := h.get? T = some { cls := .type "tuple", data := .seq vs }
/-- the iterator over a tuple (t) or a list -/
def ItAt (t : Bool) (h : Heap) (it a : Addr) (i : Nat) : Prop := match t with
  | true => h.IsTupleIter it a i
  | false => h.IsListIter it a i
def SqAt (t : Bool) (h : Heap) (a : Addr) (items : Array Value) : Prop := match t with
  | true => h.IsTuple a items
  | false => h.IsList a items
theorem ItAt.ext {t : Bool} {h h' : Heap} {it a x : Addr} {i : Nat} (p : ItAt t h it a i) (e : Heap.ExtBut x h h') (n : it ≠ x) : ItAt t h' it a i := by
  cases t with
  | true => exact Heap.IsTupleIter.extBut p e n
  | false => exact Heap.IsListIter.extBut p e n
theorem SqAt.ext {t : Bool} {h h' : Heap} {a x : Addr} {items : Array Value} (p : SqAt t h a items) (e : Heap.ExtBut x h h') (n : a ≠ x) : SqAt t h' a items := by
  cases t with
  | true => exact Heap.IsTuple.extBut p e n
  | false => exact Heap.IsList.extBut p e n
theorem ItAt.at' {t : Bool} {h h' : Heap} {it a : Addr} {i : Nat} (p : ItAt t h it a i) (e : ∀ o, h.get? it = some o → h'.get? it = some o) : ItAt t h' it a i := by
  cases t with
  | true => exact Heap.IsTupleIter.at p e
  | false => exact Heap.IsListIter.at p e
section
variable {prog : Program} {w : World} {A : Around} {E : Value → Shared → Prop} {s : Shared}
theorem nextA_item {t : Bool} {it a : Addr} {i : Nat} {items : Array Value} {x : Value} {Q : Value → Shared → Prop} (p : ItAt t s.heap it a i) (q : SqAt t s.heap a items) (hx : items[i]? = some x)
    (hQ : ∀ h', ItAt t h' it a (i + 1) → Heap.SameBut it s.heap h' → Q x { s with heap := h' }) : wpAny (model prog w) A (Builtin.SmallTypes.nextOf (.ref it)) Q E s := by
  cases t with
  | true => exact wpAny_nextOf_tuple_item p q hx hQ
  | false => exact wpAny_nextOf_list_item p q hx hQ
theorem nextA_end {t : Bool} {it a : Addr} {i : Nat} {items : Array Value} {Q : Value → Shared → Prop} (hh : A.handled = none) (p : ItAt t s.heap it a i) (q : SqAt t s.heap a items) (hx : items[i]? = none)
    (hE : ∀ h' e, Heap.ExtBut it s.heap h' → (∃ o, h'.get? e = some o ∧ o.cls = .type "StopIteration") → E (.ref e) { s with heap := h' }) : wpAny (model prog w) A (Builtin.SmallTypes.nextOf (.ref it)) Q E s := by
  cases t with
  | true => exact wpAny_nextOf_tuple_end hh p q hx hE
  | false => exact wpAny_nextOf_list_end hh p q hx hE
theorem orEnd_item {t : Bool} {it a : Addr} {i : Nat} {items : Array Value} {x : Value} {Q : Option Value → Shared → Prop} (p : ItAt t s.heap it a i) (q : SqAt t s.heap a items) (hx : items[i]? = some x)
    (hQ : ∀ h', ItAt t h' it a (i + 1) → Heap.SameBut it s.heap h' → Q (some x) { s with heap := h' }) : wpAny (model prog w) A (Builtin.SmallTypes.nextOrEnd (.ref it)) Q E s := by
  unfold Builtin.SmallTypes.nextOrEnd
  exact wpAny_bind (wpAny_attempt (nextA_item p q hx fun h' y b => wpAny_pure (hQ h' y b)))
theorem orEnd_end {t : Bool} {it a : Addr} {i : Nat} {items : Array Value} {Q : Option Value → Shared → Prop} (hh : A.handled = none) (p : ItAt t s.heap it a i) (q : SqAt t s.heap a items) (hx : items[i]? = none)
    (hQ : ∀ h', Heap.ExtBut it s.heap h' → Q none { s with heap := h' }) : wpAny (model prog w) A (Builtin.SmallTypes.nextOrEnd (.ref it)) Q E s := by
  unfold Builtin.SmallTypes.nextOrEnd
  refine wpAny_bind (wpAny_attempt (nextA_end hh p q hx fun h' e b he => ?_))
  obtain ⟨o, ho, hc⟩ := he
  exact wpAny_bind (wpAny_isInstance (T := "StopIteration") (b := true) ⟨o, ho, hc⟩ isSubtype_stop (wpAny_pure (hQ h' b)))
theorem stop_it {α : Type} {Q : α → Shared → Prop} (hh : A.handled = none) (hE : ∀ h' e, (∀ c o, s.heap.get? c = some o → h'.get? c = some o) → (∃ o, h'.get? e = some o ∧ o.cls = .type "StopIteration") → E (.ref e) { s with heap := h' }) :
    wpAny (model prog w) A (Builtin.SmallTypes.stopIteration : Sem α) Q E s := by
  unfold Builtin.SmallTypes.stopIteration
  refine wpAny_bind ?_
  simp only [newTuple, newExc]
  refine wpAny_bind (wpAny_newObj_type ?_ (by size_fits))
  refine wpAny_bind (m := firstArgMember _ _) (wpAny_of_eq (a := Value.none) (by first | (simp only [firstArgMember]; rfl) | rfl) ?_)
  refine wpAny_newObj_type ?_ (by size_fits)
  simp only [raiseNew]
  refine wpAny_bind (wpAny_handled ?_)
  rw [hh]
  refine wpAny_bind (wpAny_pure (wpAny_throw ?_))
  exact hE _ _ (fun c o x => Heap.get?_push_of_some _ (Heap.get?_push_of_some _ x)) ⟨_, Heap.get?_push_size _ rfl, rfl⟩
theorem upd_tup {T : Addr} {vs : Array Value} {x : Value} {k : Nat} {Q : Unit → Shared → Prop} (hT : Tup s.heap T vs) (hz : vs.size ≤ 100) (h : ∀ h', Tup h' T (vs.setIfInBounds k x) → Heap.SameBut T s.heap h' → Q () { s with heap := h' }) : wpAny (model prog w) A (updateSeq T (·.setIfInBounds k x)) Q E s := by
  refine wpAny_updateSeq hT rfl (h _ ?_ (Heap.SameBut.update ..)) (by rw [sizeLine_eq]; omega) (by rw [Array.size_setIfInBounds, sizeLine_eq]; omega)
  show (s.heap.update T _).get? T = _
  rw [Heap.get?_update_self _ hT rfl]
  simp [Obj.mapSeq]
end
/-- the cells of a strict zip over 2 lie apart -/
structure ZAp2 (zp ti ow j1 j2 a1 a2 : Addr) : Prop where
  d_zp_ti : zp ≠ ti
  d_zp_ow : zp ≠ ow
  d_zp_j1 : zp ≠ j1
  d_zp_j2 : zp ≠ j2
  d_ti_zp : ti ≠ zp
  d_ti_ow : ti ≠ ow
  d_ti_j1 : ti ≠ j1
  d_ti_j2 : ti ≠ j2
  d_ow_zp : ow ≠ zp
  d_ow_ti : ow ≠ ti
  d_ow_j1 : ow ≠ j1
  d_ow_j2 : ow ≠ j2
  d_j1_zp : j1 ≠ zp
  d_j1_ti : j1 ≠ ti
  d_j1_ow : j1 ≠ ow
  d_j1_j2 : j1 ≠ j2
  d_j2_zp : j2 ≠ zp
  d_j2_ti : j2 ≠ ti
  d_j2_ow : j2 ≠ ow
  d_j2_j1 : j2 ≠ j1
  d_a1_zp : a1 ≠ zp
  d_a1_ti : a1 ≠ ti
  d_a1_ow : a1 ≠ ow
  d_a1_j1 : a1 ≠ j1
  d_a1_j2 : a1 ≠ j2
  d_a2_zp : a2 ≠ zp
  d_a2_ti : a2 ≠ ti
  d_a2_ow : a2 ≠ ow
  d_a2_j1 : a2 ≠ j1
  d_a2_j2 : a2 ≠ j2
section
variable {prog : Program} {w : World} {A : Around} {E : Value → Shared → Prop} {s : Shared} {zp ti ow j1 j2 a1 a2 : Addr} {t1 t2 : Bool} {k : Nat} {xs1 xs2 : Array Value} {x1 y1 x2 y2 : Value}
theorem zipS2_item {Q : Value → Shared → Prop} (D : ZAp2 zp ti ow j1 j2 a1 a2) (hz : IsZipS s.heap zp ti ow .none) (hI : Tup s.heap ti #[.ref j1, .ref j2]) (hO : Tup s.heap ow #[y1, y2]) (g1 : ItAt t1 s.heap j1 a1 k) (q1 : SqAt t1 s.heap a1 xs1) (g2 : ItAt t2 s.heap j2 a2 k) (q2 : SqAt t2 s.heap a2 xs2) (hx1 : xs1[k]? = some x1) (hx2 : xs2[k]? = some x2)
    (hQ : ∀ h', IsZipS h' zp ti ow (rawInt s.heap.objs.size) → Tup h' ow #[x1, x2] → ItAt t1 h' j1 a1 (k + 1) → ItAt t2 h' j2 a2 (k + 1) → Tup h' s.heap.objs.size #[x1, x2] → h'.objs.size = s.heap.objs.size + 1 → (∀ c o, c ≠ zp → c ≠ ow → c ≠ j1 → c ≠ j2 → s.heap.get? c = some o → h'.get? c = some o) → Q (.ref s.heap.objs.size) { s with heap := h' }) :
    wpAny (model prog w) A (Builtin.«zip.__next__» ⟨[.ref zp], []⟩) (fun fin s' => ∃ v, fin = .done (.ret v) ∧ Q v s') E s := by
  obtain ⟨hp, gl, dd, tk, os⟩ := s
  show wpAny _ _ (field (.ref zp) 2 >>= _) _ _ _
  refine wpAny_bind (wpAny_field hz rfl (x := .bool true) rfl ?_)
  show wpAny _ _ (field (.ref zp) 3 >>= _) _ _ _
  refine wpAny_bind (wpAny_field hz rfl (x := .ref ti) rfl ?_)
  refine wpAny_bind (wpAny_seqItems hI rfl ?_)
  show wpAny _ _ (Builtin.SmallTypes.ownedTupleIsFree (.ref zp) >>= _) _ _ _
  refine wpAny_bind ?_
  unfold Builtin.SmallTypes.ownedTupleIsFree
  refine wpAny_bind (wpAny_field (x := .none) hz rfl rfl (wpAny_pure ?_))
  simp only [if_true]
  refine wpAny_bind (wpAny_rule ?_)
  refine wpAny_bind (wpAny_field (x := .ref ow) hz rfl rfl ?_)
  refine wpAny_bind (wpAny_setField_rec hz (by simp) fun g0 w0 b0 => ?_)
  replace w0 : IsZipS g0 zp ti ow .ellipsis := w0
  replace b0 : Heap.SameBut zp hp g0 := b0
  refine wpAny_bind ?_
  simp only [List.zipIdx_cons, List.zipIdx_nil, List.forIn_nil, List.forIn_cons]
  refine wpAny_bind (wpAny_bind (wpAny_onRaise ?_))
  show wpAny _ _ (Builtin.SmallTypes.nextOrEnd (.ref j1)) _ _ ⟨g0, gl, dd, tk, os⟩
  refine orEnd_item (s := ⟨g0, gl, dd, tk, os⟩) (g1.ext b0.extBut D.d_j1_zp) (q1.ext b0.extBut D.d_a1_zp) hx1 fun e1 r1 c1 => ?_
  replace c1 : Heap.SameBut j1 g0 e1 := c1
  have p1 : Tup e1 ow #[y1, y2] := (c1.extBut _ _ D.d_ow_j1 (b0.extBut _ _ D.d_ow_zp hO))
  refine wpAny_bind (wpAny_seqItems (s := ⟨e1, gl, dd, tk, os⟩) p1 rfl ?_)
  refine wpAny_bind (upd_tup (s := ⟨e1, gl, dd, tk, os⟩) p1 (by simp) fun m1 o1 d1 => ?_)
  replace o1 : Tup m1 ow #[x1, y2] := o1
  replace d1 : Heap.SameBut ow e1 m1 := d1
  refine wpAny_bind (wpAny_letGo (wpAny_pure ?_))
  refine wpAny_bind (wpAny_bind (wpAny_onRaise ?_))
  show wpAny _ _ (Builtin.SmallTypes.nextOrEnd (.ref j2)) _ _ ⟨m1, gl, dd, tk, os⟩
  refine orEnd_item (s := ⟨m1, gl, dd, tk, os⟩) (((g2.ext b0.extBut D.d_j2_zp).ext c1.extBut D.d_j2_j1).ext d1.extBut D.d_j2_ow) (((q2.ext b0.extBut D.d_a2_zp).ext c1.extBut D.d_a2_j1).ext d1.extBut D.d_a2_ow) hx2 fun e2 r2 c2 => ?_
  replace c2 : Heap.SameBut j2 m1 e2 := c2
  have p2 : Tup e2 ow #[x1, y2] := (c2.extBut _ _ D.d_ow_j2 o1)
  refine wpAny_bind (wpAny_seqItems (s := ⟨e2, gl, dd, tk, os⟩) p2 rfl ?_)
  refine wpAny_bind (upd_tup (s := ⟨e2, gl, dd, tk, os⟩) p2 (by simp) fun m2 o2 d2 => ?_)
  replace o2 : Tup m2 ow #[x1, x2] := o2
  replace d2 : Heap.SameBut ow e2 m2 := d2
  refine wpAny_bind (wpAny_letGo (wpAny_pure (wpAny_pure ?_)))
  refine wpAny_bind (wpAny_seqItems (s := ⟨m2, gl, dd, tk, os⟩) o2 rfl ?_)
  refine wpAny_bind (wpAny_newTuple ?_)
  have hsz : m2.objs.size = hp.objs.size := by rw [d2.1, c2.1, d1.1, c1.1, b0.1]
  have wz : IsZipS m2 zp ti ow .ellipsis := (d2.extBut _ _ D.d_zp_ow (c2.extBut _ _ D.d_zp_j2 (d1.extBut _ _ D.d_zp_ow (c1.extBut _ _ D.d_zp_j1 w0))))
  have kk : ∀ c o, c ≠ zp → c ≠ ow → c ≠ j1 → c ≠ j2 → hp.get? c = some o → m2.get? c = some o := fun c o n0 n1 n2 n3 e => (d2.extBut _ _ n1 (c2.extBut _ _ n3 (d1.extBut _ _ n1 (c1.extBut _ _ n2 (b0.extBut _ _ n0 e)))))
  have u1 : ItAt t1 m2 j1 a1 (k + 1) := (((r1.ext d1.extBut D.d_j1_ow).ext c2.extBut D.d_j1_j2).ext d2.extBut D.d_j1_ow)
  have u2 : ItAt t2 m2 j2 a2 (k + 1) := (r2.ext d2.extBut D.d_j2_ow)
  have zl : zp < m2.objs.size := Heap.lt_size wz
  show wpAny _ _ (Builtin.SmallTypes.ownedTupleHandOut (.ref zp) (.ref m2.objs.size) >>= _) _ _ ⟨m2.push { cls := .type "tuple", data := .seq #[x1, x2] }, gl, dd, tk, os⟩
  refine wpAny_bind ?_
  unfold Builtin.SmallTypes.ownedTupleHandOut
  have w6 : IsZipS (m2.push { cls := .type "tuple", data := .seq #[x1, x2] }) zp ti ow .ellipsis := Heap.get?_push_of_some _ wz
  refine wpAny_bind (wpAny_setField_rec w6 (by simp) fun h7 w7 b7 => ?_)
  replace w7 : IsZipS h7 zp ti ow (rawInt m2.objs.size) := w7
  refine wpAny_setField_rec w7 (by simp) fun h8 w8 b8 => ?_
  replace w8 : IsZipS h8 zp ti ow (rawInt m2.objs.size) := w8
  replace b7 : Heap.SameBut zp (m2.push { cls := .type "tuple", data := .seq #[x1, x2] }) h7 := b7
  replace b8 : Heap.SameBut zp h7 h8 := b8
  have up : ∀ c o, c ≠ zp → m2.get? c = some o → h8.get? c = some o := fun c o c1 e => b8.extBut _ _ c1 (b7.extBut _ _ c1 (Heap.get?_push_of_some _ e))
  have x8 : Tup h8 m2.objs.size #[x1, x2] := b8.extBut _ _ (Nat.ne_of_gt zl) (b7.extBut _ _ (Nat.ne_of_gt zl) (Heap.get?_push_size _ rfl))
  have z8 : h8.objs.size = m2.objs.size + 1 := by rw [b8.1, b7.1, Heap.size_push]
  rw [hsz] at w8 x8 z8
  refine wpAny_pure ⟨_, rfl, ?_⟩
  show Q (.ref m2.objs.size) ⟨h8, gl, dd, tk, os⟩
  rw [hsz]
  exact hQ h8 w8 (up _ _ D.d_ow_zp o2) (u1.at' fun o e => up _ o D.d_j1_zp e) (u2.at' fun o e => up _ o D.d_j2_zp e) x8 z8 fun c o n0 n1 n2 n3 e => up c o n0 (kk c o n0 n1 n2 n3 e)
theorem zipS2_end {Q : Fin → Shared → Prop} (hh : A.handled = none) (D : ZAp2 zp ti ow j1 j2 a1 a2) (hz : IsZipS s.heap zp ti ow .none) (hI : Tup s.heap ti #[.ref j1, .ref j2]) (hO : Tup s.heap ow #[y1, y2]) (g1 : ItAt t1 s.heap j1 a1 k) (q1 : SqAt t1 s.heap a1 xs1) (g2 : ItAt t2 s.heap j2 a2 k) (q2 : SqAt t2 s.heap a2 xs2) (hx1 : xs1[k]? = none) (hx2 : xs2[k]? = none)
    (hE : ∀ h' e, (∀ c o, c ≠ zp → c ≠ ow → c ≠ j1 → c ≠ j2 → s.heap.get? c = some o → h'.get? c = some o) → (∃ o, h'.get? e = some o ∧ o.cls = .type "StopIteration") → E (.ref e) { s with heap := h' }) :
    wpAny (model prog w) A (Builtin.«zip.__next__» ⟨[.ref zp], []⟩) Q E s := by
  obtain ⟨hp, gl, dd, tk, os⟩ := s
  show wpAny _ _ (field (.ref zp) 2 >>= _) _ _ _
  refine wpAny_bind (wpAny_field hz rfl (x := .bool true) rfl ?_)
  show wpAny _ _ (field (.ref zp) 3 >>= _) _ _ _
  refine wpAny_bind (wpAny_field hz rfl (x := .ref ti) rfl ?_)
  refine wpAny_bind (wpAny_seqItems hI rfl ?_)
  show wpAny _ _ (Builtin.SmallTypes.ownedTupleIsFree (.ref zp) >>= _) _ _ _
  refine wpAny_bind ?_
  unfold Builtin.SmallTypes.ownedTupleIsFree
  refine wpAny_bind (wpAny_field (x := .none) hz rfl rfl (wpAny_pure ?_))
  simp only [if_true]
  refine wpAny_bind (wpAny_rule ?_)
  refine wpAny_bind (wpAny_field (x := .ref ow) hz rfl rfl ?_)
  refine wpAny_bind (wpAny_setField_rec hz (by simp) fun g0 w0 b0 => ?_)
  replace w0 : IsZipS g0 zp ti ow .ellipsis := w0
  replace b0 : Heap.SameBut zp hp g0 := b0
  refine wpAny_bind ?_
  simp only [List.zipIdx_cons, List.zipIdx_nil, List.forIn_nil, List.forIn_cons]
  refine wpAny_bind (wpAny_bind (wpAny_onRaise ?_))
  show wpAny _ _ (Builtin.SmallTypes.nextOrEnd (.ref j1)) _ _ ⟨g0, gl, dd, tk, os⟩
  refine orEnd_end (s := ⟨g0, gl, dd, tk, os⟩) hh (g1.ext b0.extBut D.d_j1_zp) (q1.ext b0.extBut D.d_a1_zp) hx1 fun v1 c1 => ?_
  replace c1 : Heap.ExtBut j1 g0 v1 := c1
  have w1 : IsZipS v1 zp ti ow .ellipsis := c1 _ _ D.d_zp_j1 w0
  refine wpAny_bind (wpAny_setField_rec (s := ⟨v1, gl, dd, tk, os⟩) w1 (by simp) fun f1 w2 b1 => ?_)
  replace b1 : Heap.SameBut zp v1 f1 := b1
  refine wpAny_bind ?_
  show wpAny _ _ (forIn (m := Sem) (([.ref j2] : List Value).zipIdx 1) PUnit.unit _ >>= _) _ _ _
  simp only [List.zipIdx_cons, List.zipIdx_nil, List.forIn_nil, List.forIn_cons]
  refine wpAny_bind (wpAny_bind (wpAny_bind (orEnd_end (s := ⟨f1, gl, dd, tk, os⟩) hh (((g2.ext b0.extBut D.d_j2_zp).ext c1 D.d_j2_j1).ext b1.extBut D.d_j2_zp) (((q2.ext b0.extBut D.d_a2_zp).ext c1 D.d_a2_j1).ext b1.extBut D.d_a2_zp) hx2 fun v2 c2 => ?_)))
  replace c2 : Heap.ExtBut j2 f1 v2 := c2
  show wpAny _ _ (pure (ForInStep.yield PUnit.unit)) _ _ _
  refine wpAny_pure ?_
  refine wpAny_pure ?_
  refine wpAny_bind (wpAny_rule ?_)
  refine stop_it (s := ⟨v2, gl, dd, tk, os⟩) hh fun h' e k he => ?_
  exact hE h' e (fun c o n0 n1 n2 n3 x => k _ _ (c2 _ _ n3 (b1.extBut _ _ n0 (c1 _ _ n2 (b0.extBut _ _ n0 x))))) he
end
/-- the cells of a strict zip over 3 lie apart -/
structure ZAp3 (zp ti ow j1 j2 j3 a1 a2 a3 : Addr) : Prop where
  d_zp_ti : zp ≠ ti
  d_zp_ow : zp ≠ ow
  d_zp_j1 : zp ≠ j1
  d_zp_j2 : zp ≠ j2
  d_zp_j3 : zp ≠ j3
  d_ti_zp : ti ≠ zp
  d_ti_ow : ti ≠ ow
  d_ti_j1 : ti ≠ j1
  d_ti_j2 : ti ≠ j2
  d_ti_j3 : ti ≠ j3
  d_ow_zp : ow ≠ zp
  d_ow_ti : ow ≠ ti
  d_ow_j1 : ow ≠ j1
  d_ow_j2 : ow ≠ j2
  d_ow_j3 : ow ≠ j3
  d_j1_zp : j1 ≠ zp
  d_j1_ti : j1 ≠ ti
  d_j1_ow : j1 ≠ ow
  d_j1_j2 : j1 ≠ j2
  d_j1_j3 : j1 ≠ j3
  d_j2_zp : j2 ≠ zp
  d_j2_ti : j2 ≠ ti
  d_j2_ow : j2 ≠ ow
  d_j2_j1 : j2 ≠ j1
  d_j2_j3 : j2 ≠ j3
  d_j3_zp : j3 ≠ zp
  d_j3_ti : j3 ≠ ti
  d_j3_ow : j3 ≠ ow
  d_j3_j1 : j3 ≠ j1
  d_j3_j2 : j3 ≠ j2
  d_a1_zp : a1 ≠ zp
  d_a1_ti : a1 ≠ ti
  d_a1_ow : a1 ≠ ow
  d_a1_j1 : a1 ≠ j1
  d_a1_j2 : a1 ≠ j2
  d_a1_j3 : a1 ≠ j3
  d_a2_zp : a2 ≠ zp
  d_a2_ti : a2 ≠ ti
  d_a2_ow : a2 ≠ ow
  d_a2_j1 : a2 ≠ j1
  d_a2_j2 : a2 ≠ j2
  d_a2_j3 : a2 ≠ j3
  d_a3_zp : a3 ≠ zp
  d_a3_ti : a3 ≠ ti
  d_a3_ow : a3 ≠ ow
  d_a3_j1 : a3 ≠ j1
  d_a3_j2 : a3 ≠ j2
  d_a3_j3 : a3 ≠ j3
section
variable {prog : Program} {w : World} {A : Around} {E : Value → Shared → Prop} {s : Shared} {zp ti ow j1 j2 j3 a1 a2 a3 : Addr} {t1 t2 t3 : Bool} {k : Nat} {xs1 xs2 xs3 : Array Value} {x1 y1 x2 y2 x3 y3 : Value}
theorem zipS3_item {Q : Value → Shared → Prop} (D : ZAp3 zp ti ow j1 j2 j3 a1 a2 a3) (hz : IsZipS s.heap zp ti ow .none) (hI : Tup s.heap ti #[.ref j1, .ref j2, .ref j3]) (hO : Tup s.heap ow #[y1, y2, y3]) (g1 : ItAt t1 s.heap j1 a1 k) (q1 : SqAt t1 s.heap a1 xs1) (g2 : ItAt t2 s.heap j2 a2 k) (q2 : SqAt t2 s.heap a2 xs2) (g3 : ItAt t3 s.heap j3 a3 k) (q3 : SqAt t3 s.heap a3 xs3) (hx1 : xs1[k]? = some x1) (hx2 : xs2[k]? = some x2) (hx3 : xs3[k]? = some x3)
    (hQ : ∀ h', IsZipS h' zp ti ow (rawInt s.heap.objs.size) → Tup h' ow #[x1, x2, x3] → ItAt t1 h' j1 a1 (k + 1) → ItAt t2 h' j2 a2 (k + 1) → ItAt t3 h' j3 a3 (k + 1) → Tup h' s.heap.objs.size #[x1, x2, x3] → h'.objs.size = s.heap.objs.size + 1 → (∀ c o, c ≠ zp → c ≠ ow → c ≠ j1 → c ≠ j2 → c ≠ j3 → s.heap.get? c = some o → h'.get? c = some o) → Q (.ref s.heap.objs.size) { s with heap := h' }) :
    wpAny (model prog w) A (Builtin.«zip.__next__» ⟨[.ref zp], []⟩) (fun fin s' => ∃ v, fin = .done (.ret v) ∧ Q v s') E s := by
  obtain ⟨hp, gl, dd, tk, os⟩ := s
  show wpAny _ _ (field (.ref zp) 2 >>= _) _ _ _
  refine wpAny_bind (wpAny_field hz rfl (x := .bool true) rfl ?_)
  show wpAny _ _ (field (.ref zp) 3 >>= _) _ _ _
  refine wpAny_bind (wpAny_field hz rfl (x := .ref ti) rfl ?_)
  refine wpAny_bind (wpAny_seqItems hI rfl ?_)
  show wpAny _ _ (Builtin.SmallTypes.ownedTupleIsFree (.ref zp) >>= _) _ _ _
  refine wpAny_bind ?_
  unfold Builtin.SmallTypes.ownedTupleIsFree
  refine wpAny_bind (wpAny_field (x := .none) hz rfl rfl (wpAny_pure ?_))
  simp only [if_true]
  refine wpAny_bind (wpAny_rule ?_)
  refine wpAny_bind (wpAny_field (x := .ref ow) hz rfl rfl ?_)
  refine wpAny_bind (wpAny_setField_rec hz (by simp) fun g0 w0 b0 => ?_)
  replace w0 : IsZipS g0 zp ti ow .ellipsis := w0
  replace b0 : Heap.SameBut zp hp g0 := b0
  refine wpAny_bind ?_
  simp only [List.zipIdx_cons, List.zipIdx_nil, List.forIn_nil, List.forIn_cons]
  refine wpAny_bind (wpAny_bind (wpAny_onRaise ?_))
  show wpAny _ _ (Builtin.SmallTypes.nextOrEnd (.ref j1)) _ _ ⟨g0, gl, dd, tk, os⟩
  refine orEnd_item (s := ⟨g0, gl, dd, tk, os⟩) (g1.ext b0.extBut D.d_j1_zp) (q1.ext b0.extBut D.d_a1_zp) hx1 fun e1 r1 c1 => ?_
  replace c1 : Heap.SameBut j1 g0 e1 := c1
  have p1 : Tup e1 ow #[y1, y2, y3] := (c1.extBut _ _ D.d_ow_j1 (b0.extBut _ _ D.d_ow_zp hO))
  refine wpAny_bind (wpAny_seqItems (s := ⟨e1, gl, dd, tk, os⟩) p1 rfl ?_)
  refine wpAny_bind (upd_tup (s := ⟨e1, gl, dd, tk, os⟩) p1 (by simp) fun m1 o1 d1 => ?_)
  replace o1 : Tup m1 ow #[x1, y2, y3] := o1
  replace d1 : Heap.SameBut ow e1 m1 := d1
  refine wpAny_bind (wpAny_letGo (wpAny_pure ?_))
  refine wpAny_bind (wpAny_bind (wpAny_onRaise ?_))
  show wpAny _ _ (Builtin.SmallTypes.nextOrEnd (.ref j2)) _ _ ⟨m1, gl, dd, tk, os⟩
  refine orEnd_item (s := ⟨m1, gl, dd, tk, os⟩) (((g2.ext b0.extBut D.d_j2_zp).ext c1.extBut D.d_j2_j1).ext d1.extBut D.d_j2_ow) (((q2.ext b0.extBut D.d_a2_zp).ext c1.extBut D.d_a2_j1).ext d1.extBut D.d_a2_ow) hx2 fun e2 r2 c2 => ?_
  replace c2 : Heap.SameBut j2 m1 e2 := c2
  have p2 : Tup e2 ow #[x1, y2, y3] := (c2.extBut _ _ D.d_ow_j2 o1)
  refine wpAny_bind (wpAny_seqItems (s := ⟨e2, gl, dd, tk, os⟩) p2 rfl ?_)
  refine wpAny_bind (upd_tup (s := ⟨e2, gl, dd, tk, os⟩) p2 (by simp) fun m2 o2 d2 => ?_)
  replace o2 : Tup m2 ow #[x1, x2, y3] := o2
  replace d2 : Heap.SameBut ow e2 m2 := d2
  refine wpAny_bind (wpAny_letGo (wpAny_pure ?_))
  refine wpAny_bind (wpAny_bind (wpAny_onRaise ?_))
  show wpAny _ _ (Builtin.SmallTypes.nextOrEnd (.ref j3)) _ _ ⟨m2, gl, dd, tk, os⟩
  refine orEnd_item (s := ⟨m2, gl, dd, tk, os⟩) (((((g3.ext b0.extBut D.d_j3_zp).ext c1.extBut D.d_j3_j1).ext d1.extBut D.d_j3_ow).ext c2.extBut D.d_j3_j2).ext d2.extBut D.d_j3_ow) (((((q3.ext b0.extBut D.d_a3_zp).ext c1.extBut D.d_a3_j1).ext d1.extBut D.d_a3_ow).ext c2.extBut D.d_a3_j2).ext d2.extBut D.d_a3_ow) hx3 fun e3 r3 c3 => ?_
  replace c3 : Heap.SameBut j3 m2 e3 := c3
  have p3 : Tup e3 ow #[x1, x2, y3] := (c3.extBut _ _ D.d_ow_j3 o2)
  refine wpAny_bind (wpAny_seqItems (s := ⟨e3, gl, dd, tk, os⟩) p3 rfl ?_)
  refine wpAny_bind (upd_tup (s := ⟨e3, gl, dd, tk, os⟩) p3 (by simp) fun m3 o3 d3 => ?_)
  replace o3 : Tup m3 ow #[x1, x2, x3] := o3
  replace d3 : Heap.SameBut ow e3 m3 := d3
  refine wpAny_bind (wpAny_letGo (wpAny_pure (wpAny_pure ?_)))
  refine wpAny_bind (wpAny_seqItems (s := ⟨m3, gl, dd, tk, os⟩) o3 rfl ?_)
  refine wpAny_bind (wpAny_newTuple ?_)
  have hsz : m3.objs.size = hp.objs.size := by rw [d3.1, c3.1, d2.1, c2.1, d1.1, c1.1, b0.1]
  have wz : IsZipS m3 zp ti ow .ellipsis := (d3.extBut _ _ D.d_zp_ow (c3.extBut _ _ D.d_zp_j3 (d2.extBut _ _ D.d_zp_ow (c2.extBut _ _ D.d_zp_j2 (d1.extBut _ _ D.d_zp_ow (c1.extBut _ _ D.d_zp_j1 w0))))))
  have kk : ∀ c o, c ≠ zp → c ≠ ow → c ≠ j1 → c ≠ j2 → c ≠ j3 → hp.get? c = some o → m3.get? c = some o := fun c o n0 n1 n2 n3 n4 e => (d3.extBut _ _ n1 (c3.extBut _ _ n4 (d2.extBut _ _ n1 (c2.extBut _ _ n3 (d1.extBut _ _ n1 (c1.extBut _ _ n2 (b0.extBut _ _ n0 e)))))))
  have u1 : ItAt t1 m3 j1 a1 (k + 1) := (((((r1.ext d1.extBut D.d_j1_ow).ext c2.extBut D.d_j1_j2).ext d2.extBut D.d_j1_ow).ext c3.extBut D.d_j1_j3).ext d3.extBut D.d_j1_ow)
  have u2 : ItAt t2 m3 j2 a2 (k + 1) := (((r2.ext d2.extBut D.d_j2_ow).ext c3.extBut D.d_j2_j3).ext d3.extBut D.d_j2_ow)
  have u3 : ItAt t3 m3 j3 a3 (k + 1) := (r3.ext d3.extBut D.d_j3_ow)
  have zl : zp < m3.objs.size := Heap.lt_size wz
  show wpAny _ _ (Builtin.SmallTypes.ownedTupleHandOut (.ref zp) (.ref m3.objs.size) >>= _) _ _ ⟨m3.push { cls := .type "tuple", data := .seq #[x1, x2, x3] }, gl, dd, tk, os⟩
  refine wpAny_bind ?_
  unfold Builtin.SmallTypes.ownedTupleHandOut
  have w6 : IsZipS (m3.push { cls := .type "tuple", data := .seq #[x1, x2, x3] }) zp ti ow .ellipsis := Heap.get?_push_of_some _ wz
  refine wpAny_bind (wpAny_setField_rec w6 (by simp) fun h7 w7 b7 => ?_)
  replace w7 : IsZipS h7 zp ti ow (rawInt m3.objs.size) := w7
  refine wpAny_setField_rec w7 (by simp) fun h8 w8 b8 => ?_
  replace w8 : IsZipS h8 zp ti ow (rawInt m3.objs.size) := w8
  replace b7 : Heap.SameBut zp (m3.push { cls := .type "tuple", data := .seq #[x1, x2, x3] }) h7 := b7
  replace b8 : Heap.SameBut zp h7 h8 := b8
  have up : ∀ c o, c ≠ zp → m3.get? c = some o → h8.get? c = some o := fun c o c1 e => b8.extBut _ _ c1 (b7.extBut _ _ c1 (Heap.get?_push_of_some _ e))
  have x8 : Tup h8 m3.objs.size #[x1, x2, x3] := b8.extBut _ _ (Nat.ne_of_gt zl) (b7.extBut _ _ (Nat.ne_of_gt zl) (Heap.get?_push_size _ rfl))
  have z8 : h8.objs.size = m3.objs.size + 1 := by rw [b8.1, b7.1, Heap.size_push]
  rw [hsz] at w8 x8 z8
  refine wpAny_pure ⟨_, rfl, ?_⟩
  show Q (.ref m3.objs.size) ⟨h8, gl, dd, tk, os⟩
  rw [hsz]
  exact hQ h8 w8 (up _ _ D.d_ow_zp o3) (u1.at' fun o e => up _ o D.d_j1_zp e) (u2.at' fun o e => up _ o D.d_j2_zp e) (u3.at' fun o e => up _ o D.d_j3_zp e) x8 z8 fun c o n0 n1 n2 n3 n4 e => up c o n0 (kk c o n0 n1 n2 n3 n4 e)
theorem zipS3_end {Q : Fin → Shared → Prop} (hh : A.handled = none) (D : ZAp3 zp ti ow j1 j2 j3 a1 a2 a3) (hz : IsZipS s.heap zp ti ow .none) (hI : Tup s.heap ti #[.ref j1, .ref j2, .ref j3]) (hO : Tup s.heap ow #[y1, y2, y3]) (g1 : ItAt t1 s.heap j1 a1 k) (q1 : SqAt t1 s.heap a1 xs1) (g2 : ItAt t2 s.heap j2 a2 k) (q2 : SqAt t2 s.heap a2 xs2) (g3 : ItAt t3 s.heap j3 a3 k) (q3 : SqAt t3 s.heap a3 xs3) (hx1 : xs1[k]? = none) (hx2 : xs2[k]? = none) (hx3 : xs3[k]? = none)
    (hE : ∀ h' e, (∀ c o, c ≠ zp → c ≠ ow → c ≠ j1 → c ≠ j2 → c ≠ j3 → s.heap.get? c = some o → h'.get? c = some o) → (∃ o, h'.get? e = some o ∧ o.cls = .type "StopIteration") → E (.ref e) { s with heap := h' }) :
    wpAny (model prog w) A (Builtin.«zip.__next__» ⟨[.ref zp], []⟩) Q E s := by
  obtain ⟨hp, gl, dd, tk, os⟩ := s
  show wpAny _ _ (field (.ref zp) 2 >>= _) _ _ _
  refine wpAny_bind (wpAny_field hz rfl (x := .bool true) rfl ?_)
  show wpAny _ _ (field (.ref zp) 3 >>= _) _ _ _
  refine wpAny_bind (wpAny_field hz rfl (x := .ref ti) rfl ?_)
  refine wpAny_bind (wpAny_seqItems hI rfl ?_)
  show wpAny _ _ (Builtin.SmallTypes.ownedTupleIsFree (.ref zp) >>= _) _ _ _
  refine wpAny_bind ?_
  unfold Builtin.SmallTypes.ownedTupleIsFree
  refine wpAny_bind (wpAny_field (x := .none) hz rfl rfl (wpAny_pure ?_))
  simp only [if_true]
  refine wpAny_bind (wpAny_rule ?_)
  refine wpAny_bind (wpAny_field (x := .ref ow) hz rfl rfl ?_)
  refine wpAny_bind (wpAny_setField_rec hz (by simp) fun g0 w0 b0 => ?_)
  replace w0 : IsZipS g0 zp ti ow .ellipsis := w0
  replace b0 : Heap.SameBut zp hp g0 := b0
  refine wpAny_bind ?_
  simp only [List.zipIdx_cons, List.zipIdx_nil, List.forIn_nil, List.forIn_cons]
  refine wpAny_bind (wpAny_bind (wpAny_onRaise ?_))
  show wpAny _ _ (Builtin.SmallTypes.nextOrEnd (.ref j1)) _ _ ⟨g0, gl, dd, tk, os⟩
  refine orEnd_end (s := ⟨g0, gl, dd, tk, os⟩) hh (g1.ext b0.extBut D.d_j1_zp) (q1.ext b0.extBut D.d_a1_zp) hx1 fun v1 c1 => ?_
  replace c1 : Heap.ExtBut j1 g0 v1 := c1
  have w1 : IsZipS v1 zp ti ow .ellipsis := c1 _ _ D.d_zp_j1 w0
  refine wpAny_bind (wpAny_setField_rec (s := ⟨v1, gl, dd, tk, os⟩) w1 (by simp) fun f1 w2 b1 => ?_)
  replace b1 : Heap.SameBut zp v1 f1 := b1
  refine wpAny_bind ?_
  show wpAny _ _ (forIn (m := Sem) (([.ref j2, .ref j3] : List Value).zipIdx 1) PUnit.unit _ >>= _) _ _ _
  simp only [List.zipIdx_cons, List.zipIdx_nil, List.forIn_nil, List.forIn_cons]
  refine wpAny_bind (wpAny_bind (wpAny_bind (orEnd_end (s := ⟨f1, gl, dd, tk, os⟩) hh (((g2.ext b0.extBut D.d_j2_zp).ext c1 D.d_j2_j1).ext b1.extBut D.d_j2_zp) (((q2.ext b0.extBut D.d_a2_zp).ext c1 D.d_a2_j1).ext b1.extBut D.d_a2_zp) hx2 fun v2 c2 => ?_)))
  replace c2 : Heap.ExtBut j2 f1 v2 := c2
  show wpAny _ _ (pure (ForInStep.yield PUnit.unit)) _ _ _
  refine wpAny_pure ?_
  refine wpAny_bind (wpAny_bind (orEnd_end (s := ⟨v2, gl, dd, tk, os⟩) hh ((((g3.ext b0.extBut D.d_j3_zp).ext c1 D.d_j3_j1).ext b1.extBut D.d_j3_zp).ext c2 D.d_j3_j2) ((((q3.ext b0.extBut D.d_a3_zp).ext c1 D.d_a3_j1).ext b1.extBut D.d_a3_zp).ext c2 D.d_a3_j2) hx3 fun v3 c3 => ?_))
  replace c3 : Heap.ExtBut j3 v2 v3 := c3
  show wpAny _ _ (pure (ForInStep.yield PUnit.unit)) _ _ _
  refine wpAny_pure ?_
  refine wpAny_pure ?_
  refine wpAny_bind (wpAny_rule ?_)
  refine stop_it (s := ⟨v3, gl, dd, tk, os⟩) hh fun h' e k he => ?_
  exact hE h' e (fun c o n0 n1 n2 n3 n4 x => k _ _ (c3 _ _ n4 (c2 _ _ n3 (b1.extBut _ _ n0 (c1 _ _ n2 (b0.extBut _ _ n0 x)))))) he
end
end HT
set_option maxRecDepth 100000
set_option maxHeartbeats 1600000
namespace HT
open PySem PySem.Spec L2
open PyProof.Rows hiding St

/-! ### a strict zip is made (printed by zipnew.py) -/
section
variable {M : Model} {A : Around} {E : Value → Shared → Prop} {s : Shared}
theorem callWith_typeK {pos : Pos} {T : String} {args : List (Bool × Sem Value)} {kws : List (Option Str × Sem Value)} {Q : Value → Shared → Prop} (h1 : args.any (·.1) = false) (h2 : kws.any (·.1.isNone) = false)
    (h : wpAny M A (evalArgs (.type T) true args kws) (fun a s1 => wpAny M A (call (.type T) a.pos a.kw) Q E s1) E s) : wpAny M A (callWith pos (.type T) [] args kws) Q E s := by
  unfold callWith
  refine wpAny_bind (wpAny_holding (wpAny_mono h (fun a s1 r1 => wpAny_bind (wpAny_standAt ?_)) fun _ _ e => e))
  simp only [h1, h2, Bool.or_false]
  refine wpAny_bind (wpAny_pure ?_)
  exact wpAny_bind (wpAny_mono r1 (fun r s2 hr => wpAny_bind (wpAny_holding (wpAny_point (wpAny_pure hr)))) fun _ _ e => e)
end
theorem typeCall_zipS2 (v1 v2 c : Value) : checkTypeCall "zip" ⟨[v1, v2], [(Str.ofString "strict", c)]⟩ = pure () := by kernel_rfl
theorem newCall_zipS2 (v1 v2 c : Value) : checkBuiltinCall "zip.__new__" ⟨[.type "zip", v1, v2], [(Str.ofString "strict", c)]⟩ = pure () := by kernel_rfl
theorem initArgs_zipS2 (obj v1 v2 c : Value) : argsOk "object.__init__" ⟨[obj, v1, v2], [(Str.ofString "strict", c)]⟩ := by unfold argsOk; kernel_rfl
abbrev zS2H1 (h : Heap) (o1 o2 : Obj) : Heap := (h).push o1
abbrev zS2H2 (h : Heap) (o1 o2 : Obj) : Heap := (zS2H1 h o1 o2).push o2
abbrev zS2T (h : Heap) (o1 o2 : Obj) : Heap := (zS2H2 h o1 o2).push { cls := .type "tuple", data := .seq #[.ref h.objs.size, .ref (zS2H1 h o1 o2).objs.size] }
abbrev zS2O (h : Heap) (o1 o2 : Obj) : Heap := (zS2T h o1 o2).push { cls := .type "tuple", data := .seq #[.none, .none] }
abbrev zS2Z (h : Heap) (o1 o2 : Obj) : Heap := (zS2O h o1 o2).push { cls := .type "zip", data := .fields #[.none, .bool false, .bool true, .ref (zS2H2 h o1 o2).objs.size, .ref (zS2T h o1 o2).objs.size] }
theorem meets_zipS2 {v1 v2 : Value} {o1 o2 : Obj} {Hp1 Hp2 : Heap → Prop} (B1 : Begins v1 o1 Hp1) (B2 : Begins v2 o2 Hp2) :
    Meets (Builtin.«zip.__new__» ⟨[.type "zip", v1, v2], [(Str.ofString "strict", .bool true)]⟩) (fun _ R s => Hp1 s.heap ∧ Hp2 (zS2H1 s.heap o1 o2) ∧ R (.ok (.ret (.ref (zS2O s.heap o1 o2).objs.size))) { s with heap := zS2Z s.heap o1 o2 }) :=
  .of_wp fun prog w A R s hh => by
    obtain ⟨hp, gl, dd, tk, os⟩ := s
    obtain ⟨k1, k2, hh⟩ := hh
    have hsub := sub_zip
    have m1 : ∀ {A' : Around} {E : Value → Shared → Prop} {Q : Value → Shared → Prop}, Q (.ref (hp).objs.size) ⟨(hp).push o1, gl, dd, tk, os⟩ → wpAny (model prog w) A' (pyIter v1) Q E ⟨hp, gl, dd, tk, os⟩ :=
      fun q => B1.iter prog w _ _ ⟨hp, gl, dd, tk, os⟩ _ k1 q
    have m2 : ∀ {A' : Around} {E : Value → Shared → Prop} {Q : Value → Shared → Prop}, Q (.ref ((zS2H1 hp o1 o2)).objs.size) ⟨((zS2H1 hp o1 o2)).push o2, gl, dd, tk, os⟩ → wpAny (model prog w) A' (pyIter v2) Q E ⟨(zS2H1 hp o1 o2), gl, dd, tk, os⟩ :=
      fun q => B2.iter prog w _ _ ⟨(zS2H1 hp o1 o2), gl, dd, tk, os⟩ _ k2 q
    have e1 : (Str.ofString "strict" == ("strict" : Str)) = true := by decide +kernel
    have e2 : (Str.ofString "strict" != ("strict" : Str)) = false := by decide +kernel
    wp_walk using m1, m2
    exact ⟨_, rfl, hh⟩
section
variable {prog : Program} {w : World} {A : Around} {E : Value → Shared → Prop} {s : Shared}
theorem call_zipS2 {v1 v2 : Value} {o1 o2 : Obj} {Hp1 Hp2 : Heap → Prop} {Q : Value → Shared → Prop} (B1 : Begins v1 o1 Hp1) (k1 : Hp1 s.heap) (B2 : Begins v2 o2 Hp2) (k2 : Hp2 s.heap)
    (hq : ∀ h', IsZipS h' (s.heap.objs.size + 4) (s.heap.objs.size + 2) (s.heap.objs.size + 3) .none → Tup h' (s.heap.objs.size + 2) #[.ref (s.heap.objs.size), .ref (s.heap.objs.size + 1)] → Tup h' (s.heap.objs.size + 3) #[.none, .none] → h'.get? (s.heap.objs.size) = some o1 → h'.get? (s.heap.objs.size + 1) = some o2 → h'.objs.size = s.heap.objs.size + 5 →
      (∀ c o, s.heap.get? c = some o → h'.get? c = some o) → Q (.ref (s.heap.objs.size + 4)) { s with heap := h' }) :
    wpAny (model prog w) A (call (.type "zip") [v1, v2] [(Str.ofString "strict", .bool true)]) Q E s := by
  refine callType_newKw F.called_zip (by decide) (typeCall_zipS2 _ _ _) (newCall_zipS2 _ _ _) (fun obj => initArgs_zipS2 obj _ _ _) F.entry_zip_new (meets_zipS2 B1 B2) ⟨k1, B2.keeps _ _ k2 fun b o x => (Heap.get?_push_of_some _ x), ?_⟩
  have z1 : (zS2H1 s.heap o1 o2).objs.size = s.heap.objs.size + 1 := by rw [Heap.size_push]
  have z2 : (zS2H2 s.heap o1 o2).objs.size = s.heap.objs.size + 2 := by rw [Heap.size_push, z1]
  have z3 : (zS2T s.heap o1 o2).objs.size = s.heap.objs.size + 3 := by rw [Heap.size_push, z2]
  have z4 : (zS2O s.heap o1 o2).objs.size = s.heap.objs.size + 4 := by rw [Heap.size_push, z3]
  have z5 : (zS2Z s.heap o1 o2).objs.size = s.heap.objs.size + 5 := by rw [Heap.size_push, z4]
  have y1 : (zS2Z s.heap o1 o2).get? s.heap.objs.size = some o1 := (Heap.get?_push_of_some _ (Heap.get?_push_of_some _ (Heap.get?_push_of_some _ (Heap.get?_push_of_some _ (Heap.get?_push_size _ B1.free)))))
  have y2 : (zS2Z s.heap o1 o2).get? (zS2H1 s.heap o1 o2).objs.size = some o2 := (Heap.get?_push_of_some _ (Heap.get?_push_of_some _ (Heap.get?_push_of_some _ (Heap.get?_push_size _ B2.free))))
  have y3 : (zS2Z s.heap o1 o2).get? (zS2H2 s.heap o1 o2).objs.size = some _ := (Heap.get?_push_of_some _ (Heap.get?_push_of_some _ (Heap.get?_push_size _ rfl)))
  have y4 : (zS2Z s.heap o1 o2).get? (zS2T s.heap o1 o2).objs.size = some _ := (Heap.get?_push_of_some _ (Heap.get?_push_size _ rfl))
  have y5 : (zS2Z s.heap o1 o2).get? (zS2O s.heap o1 o2).objs.size = some _ := Heap.get?_push_size _ rfl
  show _ ∧ _
  rw [z1] at y2
  rw [z2] at y3
  simp only [z1, z2, z3, z4] at y3 y4 y5 ⊢
  exact ⟨⟨_, y5, rfl⟩, hq _ y5 y3 y4 y1 y2 z5 fun c o x => (Heap.get?_push_of_some _ (Heap.get?_push_of_some _ (Heap.get?_push_of_some _ (Heap.get?_push_of_some _ (Heap.get?_push_of_some _ x)))))⟩
end
theorem typeCall_zipS3 (v1 v2 v3 c : Value) : checkTypeCall "zip" ⟨[v1, v2, v3], [(Str.ofString "strict", c)]⟩ = pure () := by kernel_rfl
theorem newCall_zipS3 (v1 v2 v3 c : Value) : checkBuiltinCall "zip.__new__" ⟨[.type "zip", v1, v2, v3], [(Str.ofString "strict", c)]⟩ = pure () := by kernel_rfl
theorem initArgs_zipS3 (obj v1 v2 v3 c : Value) : argsOk "object.__init__" ⟨[obj, v1, v2, v3], [(Str.ofString "strict", c)]⟩ := by unfold argsOk; kernel_rfl
abbrev zS3H1 (h : Heap) (o1 o2 o3 : Obj) : Heap := (h).push o1
abbrev zS3H2 (h : Heap) (o1 o2 o3 : Obj) : Heap := (zS3H1 h o1 o2 o3).push o2
abbrev zS3H3 (h : Heap) (o1 o2 o3 : Obj) : Heap := (zS3H2 h o1 o2 o3).push o3
abbrev zS3T (h : Heap) (o1 o2 o3 : Obj) : Heap := (zS3H3 h o1 o2 o3).push { cls := .type "tuple", data := .seq #[.ref h.objs.size, .ref (zS3H1 h o1 o2 o3).objs.size, .ref (zS3H2 h o1 o2 o3).objs.size] }
abbrev zS3O (h : Heap) (o1 o2 o3 : Obj) : Heap := (zS3T h o1 o2 o3).push { cls := .type "tuple", data := .seq #[.none, .none, .none] }
abbrev zS3Z (h : Heap) (o1 o2 o3 : Obj) : Heap := (zS3O h o1 o2 o3).push { cls := .type "zip", data := .fields #[.none, .bool false, .bool true, .ref (zS3H3 h o1 o2 o3).objs.size, .ref (zS3T h o1 o2 o3).objs.size] }
theorem meets_zipS3 {v1 v2 v3 : Value} {o1 o2 o3 : Obj} {Hp1 Hp2 Hp3 : Heap → Prop} (B1 : Begins v1 o1 Hp1) (B2 : Begins v2 o2 Hp2) (B3 : Begins v3 o3 Hp3) :
    Meets (Builtin.«zip.__new__» ⟨[.type "zip", v1, v2, v3], [(Str.ofString "strict", .bool true)]⟩) (fun _ R s => Hp1 s.heap ∧ Hp2 (zS3H1 s.heap o1 o2 o3) ∧ Hp3 (zS3H2 s.heap o1 o2 o3) ∧ R (.ok (.ret (.ref (zS3O s.heap o1 o2 o3).objs.size))) { s with heap := zS3Z s.heap o1 o2 o3 }) :=
  .of_wp fun prog w A R s hh => by
    obtain ⟨hp, gl, dd, tk, os⟩ := s
    obtain ⟨k1, k2, k3, hh⟩ := hh
    have hsub := sub_zip
    have m1 : ∀ {A' : Around} {E : Value → Shared → Prop} {Q : Value → Shared → Prop}, Q (.ref (hp).objs.size) ⟨(hp).push o1, gl, dd, tk, os⟩ → wpAny (model prog w) A' (pyIter v1) Q E ⟨hp, gl, dd, tk, os⟩ :=
      fun q => B1.iter prog w _ _ ⟨hp, gl, dd, tk, os⟩ _ k1 q
    have m2 : ∀ {A' : Around} {E : Value → Shared → Prop} {Q : Value → Shared → Prop}, Q (.ref ((zS3H1 hp o1 o2 o3)).objs.size) ⟨((zS3H1 hp o1 o2 o3)).push o2, gl, dd, tk, os⟩ → wpAny (model prog w) A' (pyIter v2) Q E ⟨(zS3H1 hp o1 o2 o3), gl, dd, tk, os⟩ :=
      fun q => B2.iter prog w _ _ ⟨(zS3H1 hp o1 o2 o3), gl, dd, tk, os⟩ _ k2 q
    have m3 : ∀ {A' : Around} {E : Value → Shared → Prop} {Q : Value → Shared → Prop}, Q (.ref ((zS3H2 hp o1 o2 o3)).objs.size) ⟨((zS3H2 hp o1 o2 o3)).push o3, gl, dd, tk, os⟩ → wpAny (model prog w) A' (pyIter v3) Q E ⟨(zS3H2 hp o1 o2 o3), gl, dd, tk, os⟩ :=
      fun q => B3.iter prog w _ _ ⟨(zS3H2 hp o1 o2 o3), gl, dd, tk, os⟩ _ k3 q
    have e1 : (Str.ofString "strict" == ("strict" : Str)) = true := by decide +kernel
    have e2 : (Str.ofString "strict" != ("strict" : Str)) = false := by decide +kernel
    wp_walk using m1, m2, m3
    exact ⟨_, rfl, hh⟩
section
variable {prog : Program} {w : World} {A : Around} {E : Value → Shared → Prop} {s : Shared}
theorem call_zipS3 {v1 v2 v3 : Value} {o1 o2 o3 : Obj} {Hp1 Hp2 Hp3 : Heap → Prop} {Q : Value → Shared → Prop} (B1 : Begins v1 o1 Hp1) (k1 : Hp1 s.heap) (B2 : Begins v2 o2 Hp2) (k2 : Hp2 s.heap) (B3 : Begins v3 o3 Hp3) (k3 : Hp3 s.heap)
    (hq : ∀ h', IsZipS h' (s.heap.objs.size + 5) (s.heap.objs.size + 3) (s.heap.objs.size + 4) .none → Tup h' (s.heap.objs.size + 3) #[.ref (s.heap.objs.size), .ref (s.heap.objs.size + 1), .ref (s.heap.objs.size + 2)] → Tup h' (s.heap.objs.size + 4) #[.none, .none, .none] → h'.get? (s.heap.objs.size) = some o1 → h'.get? (s.heap.objs.size + 1) = some o2 → h'.get? (s.heap.objs.size + 2) = some o3 → h'.objs.size = s.heap.objs.size + 6 →
      (∀ c o, s.heap.get? c = some o → h'.get? c = some o) → Q (.ref (s.heap.objs.size + 5)) { s with heap := h' }) :
    wpAny (model prog w) A (call (.type "zip") [v1, v2, v3] [(Str.ofString "strict", .bool true)]) Q E s := by
  refine callType_newKw F.called_zip (by decide) (typeCall_zipS3 _ _ _ _) (newCall_zipS3 _ _ _ _) (fun obj => initArgs_zipS3 obj _ _ _ _) F.entry_zip_new (meets_zipS3 B1 B2 B3) ⟨k1, B2.keeps _ _ k2 fun b o x => (Heap.get?_push_of_some _ x), B3.keeps _ _ k3 fun b o x => (Heap.get?_push_of_some _ (Heap.get?_push_of_some _ x)), ?_⟩
  have z1 : (zS3H1 s.heap o1 o2 o3).objs.size = s.heap.objs.size + 1 := by rw [Heap.size_push]
  have z2 : (zS3H2 s.heap o1 o2 o3).objs.size = s.heap.objs.size + 2 := by rw [Heap.size_push, z1]
  have z3 : (zS3H3 s.heap o1 o2 o3).objs.size = s.heap.objs.size + 3 := by rw [Heap.size_push, z2]
  have z4 : (zS3T s.heap o1 o2 o3).objs.size = s.heap.objs.size + 4 := by rw [Heap.size_push, z3]
  have z5 : (zS3O s.heap o1 o2 o3).objs.size = s.heap.objs.size + 5 := by rw [Heap.size_push, z4]
  have z6 : (zS3Z s.heap o1 o2 o3).objs.size = s.heap.objs.size + 6 := by rw [Heap.size_push, z5]
  have y1 : (zS3Z s.heap o1 o2 o3).get? s.heap.objs.size = some o1 := (Heap.get?_push_of_some _ (Heap.get?_push_of_some _ (Heap.get?_push_of_some _ (Heap.get?_push_of_some _ (Heap.get?_push_of_some _ (Heap.get?_push_size _ B1.free))))))
  have y2 : (zS3Z s.heap o1 o2 o3).get? (zS3H1 s.heap o1 o2 o3).objs.size = some o2 := (Heap.get?_push_of_some _ (Heap.get?_push_of_some _ (Heap.get?_push_of_some _ (Heap.get?_push_of_some _ (Heap.get?_push_size _ B2.free)))))
  have y3 : (zS3Z s.heap o1 o2 o3).get? (zS3H2 s.heap o1 o2 o3).objs.size = some o3 := (Heap.get?_push_of_some _ (Heap.get?_push_of_some _ (Heap.get?_push_of_some _ (Heap.get?_push_size _ B3.free))))
  have y4 : (zS3Z s.heap o1 o2 o3).get? (zS3H3 s.heap o1 o2 o3).objs.size = some _ := (Heap.get?_push_of_some _ (Heap.get?_push_of_some _ (Heap.get?_push_size _ rfl)))
  have y5 : (zS3Z s.heap o1 o2 o3).get? (zS3T s.heap o1 o2 o3).objs.size = some _ := (Heap.get?_push_of_some _ (Heap.get?_push_size _ rfl))
  have y6 : (zS3Z s.heap o1 o2 o3).get? (zS3O s.heap o1 o2 o3).objs.size = some _ := Heap.get?_push_size _ rfl
  show _ ∧ _
  rw [z1] at y2
  rw [z2] at y3
  rw [z3] at y4
  simp only [z1, z2, z3, z4, z5] at y4 y5 y6 ⊢
  exact ⟨⟨_, y6, rfl⟩, hq _ y6 y4 y5 y1 y2 y3 z6 fun c o x => (Heap.get?_push_of_some _ (Heap.get?_push_of_some _ (Heap.get?_push_of_some _ (Heap.get?_push_of_some _ (Heap.get?_push_of_some _ (Heap.get?_push_of_some _ x))))))⟩
end
end HT
set_option maxRecDepth 100000
set_option maxHeartbeats 1600000
namespace HT
open PySem PySem.Spec L2
open PyProof.Rows hiding St

/-! ### a strict zip's turns (printed by zipturn.py) -/
theorem ItAt.obj {t : Bool} {h : Heap} {it a : Addr} {i : Nat} (p : ItAt t h it a i) : ∃ o, h.get? it = some o ∧ ∀ v, o.data ≠ .cell v := by
  cases t with
  | true => obtain ⟨o, e, _, d⟩ := p; exact ⟨o, e, fun v q => by rw [d] at q; cases q⟩
  | false => obtain ⟨o, e, _, d⟩ := p; exact ⟨o, e, fun v q => by rw [d] at q; cases q⟩
theorem ItAt.lt {t : Bool} {h : Heap} {it a : Addr} {i : Nat} (p : ItAt t h it a i) : it < h.objs.size := by
  obtain ⟨o, e, _⟩ := p.obj
  exact Heap.lt_size e
def SqA (t : Bool) (K : PySem.W.Frag) (H : Hp) (a : Addr) (us : List V) : Prop := match t with
  | true => SqT K H a us
  | false => SqL K H a us
theorem sqA_at {X : Cx} {pins : List (Addr × Obj)} {σ : St} {H : Hp} {s : Shared} {t : Bool} {a : Addr} {us : List V} (I : Inv X pins σ H s) (h : SqA t X.K H a us) : ∃ its : List Value, Vals us its ∧ SqAt t s.heap a its.toArray := by
  cases t with
  | true => obtain ⟨its, r, p, _⟩ := I.tuple h; exact ⟨its, r, p⟩
  | false => obtain ⟨its, r, p, _⟩ := I.list h; exact ⟨its, r, p.isList⟩
theorem sqA_inj {X : Cx} {pins : List (Addr × Obj)} {σ : St} {H : Hp} {s : Shared} {t : Bool} {a : Addr} {us vs : List V} (I : Inv X pins σ H s) (h : SqA t X.K H a us) (h' : SqA t X.K H a vs) : us = vs := by
  cases t with
  | true => exact I.tuple_inj h h'
  | false => exact I.list_inj h h'
/-- the iterator as it is made -/
def itO (t : Bool) (a : Addr) : Obj := match t with
  | true => { cls := .type "tuple_iterator", data := .fields #[.ref a, .int 0 0] }
  | false => { cls := .type "list_iterator", data := .fields #[.ref a, .int 0 0] }
theorem begA (t : Bool) (a : Addr) (its : Array Value) : Begins (.ref a) (itO t a) fun h => SqAt t h a its := by
  cases t with
  | true => exact begins_tuple a its
  | false => exact begins_list a its
theorem itO_at {t : Bool} {h : Heap} {it a : Addr} (e : h.get? it = some (itO t a)) : ItAt t h it a 0 := by
  cases t with
  | true => exact ⟨_, e, rfl, rfl⟩
  | false => exact ⟨_, e, rfl, rfl⟩
theorem SqAt.lt {t : Bool} {h : Heap} {a : Addr} {its : Array Value} (p : SqAt t h a its) : a < h.objs.size := by
  cases t with
  | true => obtain ⟨o, e, _⟩ := p; exact Heap.lt_size e
  | false => obtain ⟨o, e, _⟩ := p; exact Heap.lt_size e
section
variable {prog : Program} {w : World} {A : Around} {E : Value → Shared → Prop} {s : Shared}
theorem goS {elts : List Expr} {kk : Nat} {pos : Pos} {zp ti ow T : Addr} {Q : Unit → Shared → Prop} (hz : IsZipS s.heap zp ti ow (rawInt T)) (hQ : ∀ h', IsZipS h' zp ti ow .none → Heap.SameBut zp s.heap h' → Q () { s with heap := h' }) :
    wpAny (model prog w) A (letOwnedTupleGo (.Tuple elts kk pos) (.ref zp) (.ref T)) Q E s := by
  unfold letOwnedTupleGo
  refine wpAny_bind (wpAny_load hz ?_)
  show wpAny _ _ (if _ = true then _ else _) Q E s
  rw [if_pos (by simp)]
  refine wpAny_bind (wpAny_rule ?_)
  exact wpAny_setField_rec hz (by simp) fun h' a b => hQ h' a b
theorem iterS {zp ti ow : Addr} {f0 : Value} {Q : Value → Shared → Prop} (hz : IsZipS s.heap zp ti ow f0) (h : Q (.ref zp) s) : wpAny (model prog w) A (pyIter (.ref zp)) Q E s := by
  have hT : s.TypeIs (.ref zp) "zip" := ⟨_, hz, rfl⟩
  refine wpAny_pyIter_slot hT F.slot_zip_iter (wpAny_call_entry F.slot_zip_iter hT F.entry_zip_iter ?_ (F.args_zip_iter_1 _))
  exact wpAny_pure ⟨_, rfl, "zip", _, hT, F.slot_zip_next.lookup, h⟩
theorem callWith_typeKw {M : Model} {env : PySem.Env} {pos : Pos} {T : String} {e : Expr} {rest : List Expr} {kws : List Keyword} {Q : Value → Shared → Prop}
    (h : wpAny M A (spliced (backTo pos (starEach (e :: rest) env))) (fun vs s1 => wpAny M A (evalAll ((backToKw pos (keywordEach kws env)).map (·.2))) (fun ks s2 => wpAny M A (call (.type T) vs (((backToKw pos (keywordEach kws env)).filterMap (·.1)).zip ks)) Q E s2) E s1) E s)
    (he : backTo pos (starEach (e :: rest) env) = (false, eval e env) :: backTo pos (starEach rest env)) (hpl : (backTo pos (starEach (e :: rest) env)).any (·.1) = false)
    (hall : (backToKw pos (keywordEach kws env)).all (·.1.isSome) = true) (hkw : (backToKw pos (keywordEach kws env)).any (·.1.isNone) = false) :
    wpAny M A (callWith pos (.type T) [] (backTo pos (starEach (e :: rest) env)) (backToKw pos (keywordEach kws env))) Q E s := by
  refine callWith_typeK hpl hkw ?_
  rw [he] at h ⊢
  exact PyProof.Rows.evalArgs_kwB hall h
end
section
variable {prog : Program} {w : World} {A : Around} {E : Value → Shared → Prop} {s : Shared} {zp ti ow j1 j2 a1 a2 : Addr} {t1 t2 : Bool} {k : Nat} {xs1 xs2 : Array Value} {x1 y1 x2 y2 : Value}
theorem nextS2_item {Q : Option Value → Shared → Prop} (D : ZAp2 zp ti ow j1 j2 a1 a2) (hz : IsZipS s.heap zp ti ow .none) (hI : Tup s.heap ti #[.ref j1, .ref j2]) (hO : Tup s.heap ow #[y1, y2]) (g1 : ItAt t1 s.heap j1 a1 k) (q1 : SqAt t1 s.heap a1 xs1) (g2 : ItAt t2 s.heap j2 a2 k) (q2 : SqAt t2 s.heap a2 xs2) (hx1 : xs1[k]? = some x1) (hx2 : xs2[k]? = some x2)
    (hQ : ∀ h', IsZipS h' zp ti ow (rawInt s.heap.objs.size) → Tup h' ow #[x1, x2] → ItAt t1 h' j1 a1 (k + 1) → ItAt t2 h' j2 a2 (k + 1) → Tup h' s.heap.objs.size #[x1, x2] → h'.objs.size = s.heap.objs.size + 1 → (∀ c o, c ≠ zp → c ≠ ow → c ≠ j1 → c ≠ j2 → s.heap.get? c = some o → h'.get? c = some o) → Q (some (.ref s.heap.objs.size)) { s with heap := h' }) :
    wpAny (model prog w) A (pyNext (.ref zp)) Q E s := by
  have hT : s.TypeIs (.ref zp) "zip" := ⟨_, hz, rfl⟩
  unfold pyNext
  exact wpAny_bind (wpAny_attempt (wpAny_callSpecial?_slot (name := Str.ofString "__next__") hT F.slot_zip_next
    (wpAny_call_entry F.slot_zip_next hT F.entry_zip_next (zipS2_item D hz hI hO g1 q1 g2 q2 hx1 hx2 fun h' p0 p1 p2 p3 p4 p5 p6 => wpAny_pure (hQ h' p0 p1 p2 p3 p4 p5 p6)) (F.args_zip_next_1 _))))
theorem nextS2_end {Q : Option Value → Shared → Prop} (hh : A.handled = none) (D : ZAp2 zp ti ow j1 j2 a1 a2) (hz : IsZipS s.heap zp ti ow .none) (hI : Tup s.heap ti #[.ref j1, .ref j2]) (hO : Tup s.heap ow #[y1, y2]) (g1 : ItAt t1 s.heap j1 a1 k) (q1 : SqAt t1 s.heap a1 xs1) (g2 : ItAt t2 s.heap j2 a2 k) (q2 : SqAt t2 s.heap a2 xs2) (hx1 : xs1[k]? = none) (hx2 : xs2[k]? = none)
    (hQ : ∀ h', (∀ c o, c ≠ zp → c ≠ ow → c ≠ j1 → c ≠ j2 → s.heap.get? c = some o → h'.get? c = some o) → Q none { s with heap := h' }) :
    wpAny (model prog w) A (pyNext (.ref zp)) Q E s := by
  have hT : s.TypeIs (.ref zp) "zip" := ⟨_, hz, rfl⟩
  unfold pyNext
  refine wpAny_bind (wpAny_attempt (wpAny_callSpecial?_slot (name := Str.ofString "__next__") hT F.slot_zip_next
    (wpAny_call_entry F.slot_zip_next hT F.entry_zip_next (zipS2_end (show A.in1.handled = none from hh) D hz hI hO g1 q1 g2 q2 hx1 hx2 fun h' e kp he => ?_) (F.args_zip_next_1 _))))
  obtain ⟨o, ho, hc⟩ := he
  exact wpAny_bind (wpAny_isInstance (T := "StopIteration") (b := true) ⟨o, ho, hc⟩ isSubtype_stop (wpAny_pure (hQ h' kp)))
end
/-- 2 lists or tuples as they stand at each turn, the items in new tuples; they end together -/
def ItzS2 (K : PySem.W.Frag) (t1 t2 : Bool) (a1 a2 : Addr) : It :=
  ⟨fun i H => ∃ (us1 us2 : List V) (u1 u2 : V), SqA t1 K H a1 us1 ∧ SqA t2 K H a2 us2 ∧ us1[i]? = some u1 ∧ us2[i]? = some u2,
    fun i H v H' => ∃ T u1 u2, v = .ref T ∧ H T = none ∧ H' = upd H T (.tup [u1, u2]) ∧ (∀ us, SqA t1 K H a1 us → us[i]? = some u1) ∧ (∀ us, SqA t2 K H a2 us → us[i]? = some u2),
    fun i H => ∃ us1 us2 : List V, SqA t1 K H a1 us1 ∧ SqA t2 K H a2 us2 ∧ us1.length ≤ i ∧ us2.length ≤ i⟩
theorem turn_zipS2 {P : Program} {w : World} {K : PySem.W.Frag} {elts : List Expr} {kk : Nat} {tpos : Pos} {zp ti ow j1 j2 a1 a2 : Addr} {t1 t2 : Bool} (D : ZAp2 zp ti ow j1 j2 a1 a2) :
    Turn P w K (.Tuple elts kk tpos) (ItzS2 K t1 t2 a1 a2) [zp, ti, ow, j1, j2] zp (fun i h => IsZipS h zp ti ow .none ∧ Tup h ti #[.ref j1, .ref j2] ∧ (∃ y1 y2, Tup h ow #[y1, y2]) ∧ ItAt t1 h j1 a1 i ∧ ItAt t2 h j2 a2 i) where
  mem := by simp
  obj := fun i h st c hc => by
    obtain ⟨hz, hI, ⟨y1, y2, hO⟩, g1, g2⟩ := st
    have e' : c = zp ∨ c = ti ∨ c = ow ∨ c = j1 ∨ c = j2 := by simpa using hc
    rcases e' with e | e | e | e | e
    · rw [e]; exact ⟨_, hz, fun v q => nomatch q⟩
    · rw [e]; exact ⟨_, hI, fun v q => nomatch q⟩
    · rw [e]; exact ⟨_, hO, fun v q => nomatch q⟩
    · rw [e]; exact g1.obj
    · rw [e]; exact g2.obj
  keep := fun i h h' st kp => by
    obtain ⟨hz, hI, ⟨y1, y2, hO⟩, g1, g2⟩ := st
    exact ⟨kp zp (by simp) _ hz, kp ti (by simp) _ hI, ⟨y1, y2, kp ow (by simp) _ hO⟩, g1.at' fun o e => kp j1 (by simp) o e, g2.at' fun o e => kp j2 (by simp) o e⟩
  item := by
    intro X hP hw hK hc i pins s σ H E I hf st hg
    subst hP hw hK
    obtain ⟨hz, hI, ⟨y1, y2, hO⟩, g1, g2⟩ := st
    obtain ⟨us1, us2, u1, u2, h1, h2, e1, e2⟩ := hg
    obtain ⟨its1, rv1, p1⟩ := sqA_at I h1
    obtain ⟨v1, hv1, ru1⟩ := rv1.get e1
    obtain ⟨its2, rv2, p2⟩ := sqA_at I h2
    obtain ⟨v2, hv2, ru2⟩ := rv2.get e2
    have zl : zp < s.heap.objs.size := Heap.lt_size hz
    refine nextS2_item D hz hI hO g1 p1 g2 p2 (x1 := v1) (x2 := v2) (by simpa using hv1) (by simpa using hv2) fun h' w1 o1 r1 r2 hT hsz kp => ?_
    refine ⟨_, rfl, goS (s := { s with heap := h' }) w1 fun h'' w2 sb => ?_⟩
    have hT2 : h''.get? s.heap.objs.size = some { cls := .type "tuple", data := .seq #[v1, v2] } := (sb.2 _ (Nat.ne_of_gt zl)).trans hT
    have new : ObjOk X.prog X.w (upd H s.heap.objs.size (.tup [u1, u2])) h'' s.heap.objs.size (.tup [u1, u2]) :=
      ⟨by show 2 ≤ sizeLine; decide, [v1, v2], .cons ru1 (.cons ru2 .nil), ⟨_, hT2, rfl, _, rfl⟩⟩
    have I1 : Inv X pins σ (upd H s.heap.objs.size (.tup [u1, u2])) { s with heap := h'' } :=
      I.turnedNew (t' := s.toks) (ch := [zp, ti, ow, j1, j2]) (fun c o hb q => (sb.2 c (fun q' => hb (by simp [q']))).trans (kp c o (fun q' => hb (by simp [q'])) (fun q' => hb (by simp [q'])) (fun q' => hb (by simp [q'])) (fun q' => hb (by simp [q'])) q)) hf (Nat.le_refl _) new
    refine ⟨.ref s.heap.objs.size, _, I1, rfl, ⟨_, u1, u2, rfl, I.hok.fresh (Nat.le_refl _), rfl, fun l hl => by rw [sqA_inj I hl h1]; exact e1, fun l hl => by rw [sqA_inj I hl h2]; exact e2⟩, ⟨w2, ?_, ⟨v1, v2, ?_⟩, ?_, ?_⟩, fun c hcm => ?_⟩
    · exact (sb.2 _ D.d_ti_zp).trans (kp _ _ D.d_ti_zp D.d_ti_ow D.d_ti_j1 D.d_ti_j2 hI)
    · exact (sb.2 _ D.d_ow_zp).trans o1
    · exact r1.at' fun o e => (sb.2 _ D.d_j1_zp).trans e
    · exact r2.at' fun o e => (sb.2 _ D.d_j2_zp).trans e
    · have hlt : c < s.heap.objs.size := by
        have e' : c = zp ∨ c = ti ∨ c = ow ∨ c = j1 ∨ c = j2 := by simpa using hcm
        rcases e' with e | e | e | e | e
        · rw [e]; exact zl
        · rw [e]; exact Heap.lt_size hI
        · rw [e]; exact Heap.lt_size hO
        · rw [e]; exact g1.lt
        · rw [e]; exact g2.lt
      rw [upd_ne (Nat.ne_of_lt hlt)]
      exact (hf c hcm).1
  done := by
    intro X hP hw hK hc i pins s σ H E I hf st hg
    subst hP hw hK
    obtain ⟨hz, hI, ⟨y1, y2, hO⟩, g1, g2⟩ := st
    obtain ⟨us1, us2, h1, h2, e1, e2⟩ := hg
    obtain ⟨its1, rv1, p1⟩ := sqA_at I h1
    have l1 := rv1.length
    obtain ⟨its2, rv2, p2⟩ := sqA_at I h2
    have l2 := rv2.length
    exact nextS2_end (I.ok.hd hc) D hz hI hO g1 p1 g2 p2 (by simp; omega) (by simp; omega) fun h' kp => ⟨rfl, I.turnedL (t' := s.toks) (ch := [zp, ti, ow, j1, j2]) (fun c o hb q => kp c o (fun q' => hb (by simp [q'])) (fun q' => hb (by simp [q'])) (fun q' => hb (by simp [q'])) (fun q' => hb (by simp [q'])) q) hf⟩
  self := fun A i s Q E st h => iterS st.1 h
theorem zap2 (m a1 a2 : Nat) (l1 : a1 < m) (l2 : a2 < m) : ZAp2 (m + 4) (m + 2) (m + 3) (m) (m + 1) a1 a2 := by constructor <;> (refine PySem.W.neN ?_; omega)
def iZipS2 (K : PySem.W.Frag) (ta : TA) : TI := fun σ H R => ta σ H fun vs H1 => ∃ a1 a2 t1 t2 us1 us2, vs = [.ref a1, .ref a2] ∧ SqA t1 K H1 a1 us1 ∧ SqA t2 K H1 a2 us2 ∧ R (ItzS2 K t1 t2 a1 a2) H1
theorem pi_zipS2 {X : Cx} {e1 e2 : Expr} {ta : TA} {p pos tpos cp kp : Pos} {elts : List Expr} {kk : Nat} {j} (hg : Gl X "zip") (hm : X.mg "zip" = none) (ha : PA X [e1, e2] ta)
    (he : backTo pos (starEach [e1, e2] X.env) = (false, eval e1 X.env) :: backTo pos (starEach [e2] X.env) := by rfl) (hpl : (backTo pos (starEach [e1, e2] X.env)).any (·.1) = false := by rfl) :
    PI X (.Tuple elts kk tpos) (.Call (.Name "zip" p) [e1, e2] [⟨some "strict", .Constant (.bool true) j cp, kp⟩] pos) (iZipS2 X.K ta) := by
  refine ⟨fun pins s σ H R I h => ?_⟩
  refine wpAny_Call_Name_kw (ld_blt I hg hm PyProof.Rows.boot_zip ?_)
  refine callWith_typeKw (thn (ha.run pos pins s σ H _ I h) fun us s1 ⟨vs, H1, I1, r1, q1⟩ => PyProof.Rows.kws_cons (PyProof.Rows.Constant_bool (PyProof.Rows.kws_nil ?_))) he hpl rfl rfl
  obtain ⟨a1, a2, t1, t2, us1, us2, rfl, h1, h2, q⟩ := q1
  rcases r1 with _ | ⟨c1, _ | ⟨c2, _ | _⟩⟩
  cases c1
  cases c2
  obtain ⟨its1, rv1, p1⟩ := sqA_at I1 h1
  have l1 := p1.lt
  obtain ⟨its2, rv2, p2⟩ := sqA_at I1 h2
  have l2 := p2.lt
  refine call_zipS2 (begA t1 a1 its1.toArray) p1 (begA t2 a2 its2.toArray) p2 fun h' hz hI hO z1 z2 hsz hk => iterS hz ?_
  have I2 : Inv X pins σ H1 { s1 with heap := h' } := I1.kept (t' := s1.toks) hk
  have D : ZAp2 (s1.heap.objs.size + 4) (s1.heap.objs.size + 2) (s1.heap.objs.size + 3) (s1.heap.objs.size) (s1.heap.objs.size + 1) a1 a2 := zap2 s1.heap.objs.size a1 a2 l1 l2
  refine ⟨s1.heap.objs.size + 4, [s1.heap.objs.size + 4, s1.heap.objs.size + 2, s1.heap.objs.size + 3, s1.heap.objs.size, s1.heap.objs.size + 1], _, _, H1, rfl, I2, turn_zipS2 D, ⟨hz, hI, ⟨_, _, hO⟩, itO_at z1, itO_at z2⟩, fun c hcm => ?_, q⟩
  have e' : c = s1.heap.objs.size + 4 ∨ c = s1.heap.objs.size + 2 ∨ c = s1.heap.objs.size + 3 ∨ c = s1.heap.objs.size ∨ c = s1.heap.objs.size + 1 := by simpa using hcm
  have hle : s1.heap.objs.size ≤ c := by
    rcases e' with e | e | e | e | e <;> (rw [e]; first | exact Nat.le_refl _ | exact Nat.le_add_right _ _)
  exact I1.fpOk hle (I1.hok.fresh hle)
section
variable {prog : Program} {w : World} {A : Around} {E : Value → Shared → Prop} {s : Shared} {zp ti ow j1 j2 j3 a1 a2 a3 : Addr} {t1 t2 t3 : Bool} {k : Nat} {xs1 xs2 xs3 : Array Value} {x1 y1 x2 y2 x3 y3 : Value}
theorem nextS3_item {Q : Option Value → Shared → Prop} (D : ZAp3 zp ti ow j1 j2 j3 a1 a2 a3) (hz : IsZipS s.heap zp ti ow .none) (hI : Tup s.heap ti #[.ref j1, .ref j2, .ref j3]) (hO : Tup s.heap ow #[y1, y2, y3]) (g1 : ItAt t1 s.heap j1 a1 k) (q1 : SqAt t1 s.heap a1 xs1) (g2 : ItAt t2 s.heap j2 a2 k) (q2 : SqAt t2 s.heap a2 xs2) (g3 : ItAt t3 s.heap j3 a3 k) (q3 : SqAt t3 s.heap a3 xs3) (hx1 : xs1[k]? = some x1) (hx2 : xs2[k]? = some x2) (hx3 : xs3[k]? = some x3)
    (hQ : ∀ h', IsZipS h' zp ti ow (rawInt s.heap.objs.size) → Tup h' ow #[x1, x2, x3] → ItAt t1 h' j1 a1 (k + 1) → ItAt t2 h' j2 a2 (k + 1) → ItAt t3 h' j3 a3 (k + 1) → Tup h' s.heap.objs.size #[x1, x2, x3] → h'.objs.size = s.heap.objs.size + 1 → (∀ c o, c ≠ zp → c ≠ ow → c ≠ j1 → c ≠ j2 → c ≠ j3 → s.heap.get? c = some o → h'.get? c = some o) → Q (some (.ref s.heap.objs.size)) { s with heap := h' }) :
    wpAny (model prog w) A (pyNext (.ref zp)) Q E s := by
  have hT : s.TypeIs (.ref zp) "zip" := ⟨_, hz, rfl⟩
  unfold pyNext
  exact wpAny_bind (wpAny_attempt (wpAny_callSpecial?_slot (name := Str.ofString "__next__") hT F.slot_zip_next
    (wpAny_call_entry F.slot_zip_next hT F.entry_zip_next (zipS3_item D hz hI hO g1 q1 g2 q2 g3 q3 hx1 hx2 hx3 fun h' p0 p1 p2 p3 p4 p5 p6 p7 => wpAny_pure (hQ h' p0 p1 p2 p3 p4 p5 p6 p7)) (F.args_zip_next_1 _))))
theorem nextS3_end {Q : Option Value → Shared → Prop} (hh : A.handled = none) (D : ZAp3 zp ti ow j1 j2 j3 a1 a2 a3) (hz : IsZipS s.heap zp ti ow .none) (hI : Tup s.heap ti #[.ref j1, .ref j2, .ref j3]) (hO : Tup s.heap ow #[y1, y2, y3]) (g1 : ItAt t1 s.heap j1 a1 k) (q1 : SqAt t1 s.heap a1 xs1) (g2 : ItAt t2 s.heap j2 a2 k) (q2 : SqAt t2 s.heap a2 xs2) (g3 : ItAt t3 s.heap j3 a3 k) (q3 : SqAt t3 s.heap a3 xs3) (hx1 : xs1[k]? = none) (hx2 : xs2[k]? = none) (hx3 : xs3[k]? = none)
    (hQ : ∀ h', (∀ c o, c ≠ zp → c ≠ ow → c ≠ j1 → c ≠ j2 → c ≠ j3 → s.heap.get? c = some o → h'.get? c = some o) → Q none { s with heap := h' }) :
    wpAny (model prog w) A (pyNext (.ref zp)) Q E s := by
  have hT : s.TypeIs (.ref zp) "zip" := ⟨_, hz, rfl⟩
  unfold pyNext
  refine wpAny_bind (wpAny_attempt (wpAny_callSpecial?_slot (name := Str.ofString "__next__") hT F.slot_zip_next
    (wpAny_call_entry F.slot_zip_next hT F.entry_zip_next (zipS3_end (show A.in1.handled = none from hh) D hz hI hO g1 q1 g2 q2 g3 q3 hx1 hx2 hx3 fun h' e kp he => ?_) (F.args_zip_next_1 _))))
  obtain ⟨o, ho, hc⟩ := he
  exact wpAny_bind (wpAny_isInstance (T := "StopIteration") (b := true) ⟨o, ho, hc⟩ isSubtype_stop (wpAny_pure (hQ h' kp)))
end
/-- 3 lists or tuples as they stand at each turn, the items in new tuples; they end together -/
def ItzS3 (K : PySem.W.Frag) (t1 t2 t3 : Bool) (a1 a2 a3 : Addr) : It :=
  ⟨fun i H => ∃ (us1 us2 us3 : List V) (u1 u2 u3 : V), SqA t1 K H a1 us1 ∧ SqA t2 K H a2 us2 ∧ SqA t3 K H a3 us3 ∧ us1[i]? = some u1 ∧ us2[i]? = some u2 ∧ us3[i]? = some u3,
    fun i H v H' => ∃ T u1 u2 u3, v = .ref T ∧ H T = none ∧ H' = upd H T (.tup [u1, u2, u3]) ∧ (∀ us, SqA t1 K H a1 us → us[i]? = some u1) ∧ (∀ us, SqA t2 K H a2 us → us[i]? = some u2) ∧ (∀ us, SqA t3 K H a3 us → us[i]? = some u3),
    fun i H => ∃ us1 us2 us3 : List V, SqA t1 K H a1 us1 ∧ SqA t2 K H a2 us2 ∧ SqA t3 K H a3 us3 ∧ us1.length ≤ i ∧ us2.length ≤ i ∧ us3.length ≤ i⟩
theorem turn_zipS3 {P : Program} {w : World} {K : PySem.W.Frag} {elts : List Expr} {kk : Nat} {tpos : Pos} {zp ti ow j1 j2 j3 a1 a2 a3 : Addr} {t1 t2 t3 : Bool} (D : ZAp3 zp ti ow j1 j2 j3 a1 a2 a3) :
    Turn P w K (.Tuple elts kk tpos) (ItzS3 K t1 t2 t3 a1 a2 a3) [zp, ti, ow, j1, j2, j3] zp (fun i h => IsZipS h zp ti ow .none ∧ Tup h ti #[.ref j1, .ref j2, .ref j3] ∧ (∃ y1 y2 y3, Tup h ow #[y1, y2, y3]) ∧ ItAt t1 h j1 a1 i ∧ ItAt t2 h j2 a2 i ∧ ItAt t3 h j3 a3 i) where
  mem := by simp
  obj := fun i h st c hc => by
    obtain ⟨hz, hI, ⟨y1, y2, y3, hO⟩, g1, g2, g3⟩ := st
    have e' : c = zp ∨ c = ti ∨ c = ow ∨ c = j1 ∨ c = j2 ∨ c = j3 := by simpa using hc
    rcases e' with e | e | e | e | e | e
    · rw [e]; exact ⟨_, hz, fun v q => nomatch q⟩
    · rw [e]; exact ⟨_, hI, fun v q => nomatch q⟩
    · rw [e]; exact ⟨_, hO, fun v q => nomatch q⟩
    · rw [e]; exact g1.obj
    · rw [e]; exact g2.obj
    · rw [e]; exact g3.obj
  keep := fun i h h' st kp => by
    obtain ⟨hz, hI, ⟨y1, y2, y3, hO⟩, g1, g2, g3⟩ := st
    exact ⟨kp zp (by simp) _ hz, kp ti (by simp) _ hI, ⟨y1, y2, y3, kp ow (by simp) _ hO⟩, g1.at' fun o e => kp j1 (by simp) o e, g2.at' fun o e => kp j2 (by simp) o e, g3.at' fun o e => kp j3 (by simp) o e⟩
  item := by
    intro X hP hw hK hc i pins s σ H E I hf st hg
    subst hP hw hK
    obtain ⟨hz, hI, ⟨y1, y2, y3, hO⟩, g1, g2, g3⟩ := st
    obtain ⟨us1, us2, us3, u1, u2, u3, h1, h2, h3, e1, e2, e3⟩ := hg
    obtain ⟨its1, rv1, p1⟩ := sqA_at I h1
    obtain ⟨v1, hv1, ru1⟩ := rv1.get e1
    obtain ⟨its2, rv2, p2⟩ := sqA_at I h2
    obtain ⟨v2, hv2, ru2⟩ := rv2.get e2
    obtain ⟨its3, rv3, p3⟩ := sqA_at I h3
    obtain ⟨v3, hv3, ru3⟩ := rv3.get e3
    have zl : zp < s.heap.objs.size := Heap.lt_size hz
    refine nextS3_item D hz hI hO g1 p1 g2 p2 g3 p3 (x1 := v1) (x2 := v2) (x3 := v3) (by simpa using hv1) (by simpa using hv2) (by simpa using hv3) fun h' w1 o1 r1 r2 r3 hT hsz kp => ?_
    refine ⟨_, rfl, goS (s := { s with heap := h' }) w1 fun h'' w2 sb => ?_⟩
    have hT2 : h''.get? s.heap.objs.size = some { cls := .type "tuple", data := .seq #[v1, v2, v3] } := (sb.2 _ (Nat.ne_of_gt zl)).trans hT
    have new : ObjOk X.prog X.w (upd H s.heap.objs.size (.tup [u1, u2, u3])) h'' s.heap.objs.size (.tup [u1, u2, u3]) :=
      ⟨by show 3 ≤ sizeLine; decide, [v1, v2, v3], .cons ru1 (.cons ru2 (.cons ru3 .nil)), ⟨_, hT2, rfl, _, rfl⟩⟩
    have I1 : Inv X pins σ (upd H s.heap.objs.size (.tup [u1, u2, u3])) { s with heap := h'' } :=
      I.turnedNew (t' := s.toks) (ch := [zp, ti, ow, j1, j2, j3]) (fun c o hb q => (sb.2 c (fun q' => hb (by simp [q']))).trans (kp c o (fun q' => hb (by simp [q'])) (fun q' => hb (by simp [q'])) (fun q' => hb (by simp [q'])) (fun q' => hb (by simp [q'])) (fun q' => hb (by simp [q'])) q)) hf (Nat.le_refl _) new
    refine ⟨.ref s.heap.objs.size, _, I1, rfl, ⟨_, u1, u2, u3, rfl, I.hok.fresh (Nat.le_refl _), rfl, fun l hl => by rw [sqA_inj I hl h1]; exact e1, fun l hl => by rw [sqA_inj I hl h2]; exact e2, fun l hl => by rw [sqA_inj I hl h3]; exact e3⟩, ⟨w2, ?_, ⟨v1, v2, v3, ?_⟩, ?_, ?_, ?_⟩, fun c hcm => ?_⟩
    · exact (sb.2 _ D.d_ti_zp).trans (kp _ _ D.d_ti_zp D.d_ti_ow D.d_ti_j1 D.d_ti_j2 D.d_ti_j3 hI)
    · exact (sb.2 _ D.d_ow_zp).trans o1
    · exact r1.at' fun o e => (sb.2 _ D.d_j1_zp).trans e
    · exact r2.at' fun o e => (sb.2 _ D.d_j2_zp).trans e
    · exact r3.at' fun o e => (sb.2 _ D.d_j3_zp).trans e
    · have hlt : c < s.heap.objs.size := by
        have e' : c = zp ∨ c = ti ∨ c = ow ∨ c = j1 ∨ c = j2 ∨ c = j3 := by simpa using hcm
        rcases e' with e | e | e | e | e | e
        · rw [e]; exact zl
        · rw [e]; exact Heap.lt_size hI
        · rw [e]; exact Heap.lt_size hO
        · rw [e]; exact g1.lt
        · rw [e]; exact g2.lt
        · rw [e]; exact g3.lt
      rw [upd_ne (Nat.ne_of_lt hlt)]
      exact (hf c hcm).1
  done := by
    intro X hP hw hK hc i pins s σ H E I hf st hg
    subst hP hw hK
    obtain ⟨hz, hI, ⟨y1, y2, y3, hO⟩, g1, g2, g3⟩ := st
    obtain ⟨us1, us2, us3, h1, h2, h3, e1, e2, e3⟩ := hg
    obtain ⟨its1, rv1, p1⟩ := sqA_at I h1
    have l1 := rv1.length
    obtain ⟨its2, rv2, p2⟩ := sqA_at I h2
    have l2 := rv2.length
    obtain ⟨its3, rv3, p3⟩ := sqA_at I h3
    have l3 := rv3.length
    exact nextS3_end (I.ok.hd hc) D hz hI hO g1 p1 g2 p2 g3 p3 (by simp; omega) (by simp; omega) (by simp; omega) fun h' kp => ⟨rfl, I.turnedL (t' := s.toks) (ch := [zp, ti, ow, j1, j2, j3]) (fun c o hb q => kp c o (fun q' => hb (by simp [q'])) (fun q' => hb (by simp [q'])) (fun q' => hb (by simp [q'])) (fun q' => hb (by simp [q'])) (fun q' => hb (by simp [q'])) q) hf⟩
  self := fun A i s Q E st h => iterS st.1 h
theorem zap3 (m a1 a2 a3 : Nat) (l1 : a1 < m) (l2 : a2 < m) (l3 : a3 < m) : ZAp3 (m + 5) (m + 3) (m + 4) (m) (m + 1) (m + 2) a1 a2 a3 := by constructor <;> (refine PySem.W.neN ?_; omega)
def iZipS3 (K : PySem.W.Frag) (ta : TA) : TI := fun σ H R => ta σ H fun vs H1 => ∃ a1 a2 a3 t1 t2 t3 us1 us2 us3, vs = [.ref a1, .ref a2, .ref a3] ∧ SqA t1 K H1 a1 us1 ∧ SqA t2 K H1 a2 us2 ∧ SqA t3 K H1 a3 us3 ∧ R (ItzS3 K t1 t2 t3 a1 a2 a3) H1
theorem pi_zipS3 {X : Cx} {e1 e2 e3 : Expr} {ta : TA} {p pos tpos cp kp : Pos} {elts : List Expr} {kk : Nat} {j} (hg : Gl X "zip") (hm : X.mg "zip" = none) (ha : PA X [e1, e2, e3] ta)
    (he : backTo pos (starEach [e1, e2, e3] X.env) = (false, eval e1 X.env) :: backTo pos (starEach [e2, e3] X.env) := by rfl) (hpl : (backTo pos (starEach [e1, e2, e3] X.env)).any (·.1) = false := by rfl) :
    PI X (.Tuple elts kk tpos) (.Call (.Name "zip" p) [e1, e2, e3] [⟨some "strict", .Constant (.bool true) j cp, kp⟩] pos) (iZipS3 X.K ta) := by
  refine ⟨fun pins s σ H R I h => ?_⟩
  refine wpAny_Call_Name_kw (ld_blt I hg hm PyProof.Rows.boot_zip ?_)
  refine callWith_typeKw (thn (ha.run pos pins s σ H _ I h) fun us s1 ⟨vs, H1, I1, r1, q1⟩ => PyProof.Rows.kws_cons (PyProof.Rows.Constant_bool (PyProof.Rows.kws_nil ?_))) he hpl rfl rfl
  obtain ⟨a1, a2, a3, t1, t2, t3, us1, us2, us3, rfl, h1, h2, h3, q⟩ := q1
  rcases r1 with _ | ⟨c1, _ | ⟨c2, _ | ⟨c3, _ | _⟩⟩⟩
  cases c1
  cases c2
  cases c3
  obtain ⟨its1, rv1, p1⟩ := sqA_at I1 h1
  have l1 := p1.lt
  obtain ⟨its2, rv2, p2⟩ := sqA_at I1 h2
  have l2 := p2.lt
  obtain ⟨its3, rv3, p3⟩ := sqA_at I1 h3
  have l3 := p3.lt
  refine call_zipS3 (begA t1 a1 its1.toArray) p1 (begA t2 a2 its2.toArray) p2 (begA t3 a3 its3.toArray) p3 fun h' hz hI hO z1 z2 z3 hsz hk => iterS hz ?_
  have I2 : Inv X pins σ H1 { s1 with heap := h' } := I1.kept (t' := s1.toks) hk
  have D : ZAp3 (s1.heap.objs.size + 5) (s1.heap.objs.size + 3) (s1.heap.objs.size + 4) (s1.heap.objs.size) (s1.heap.objs.size + 1) (s1.heap.objs.size + 2) a1 a2 a3 := zap3 s1.heap.objs.size a1 a2 a3 l1 l2 l3
  refine ⟨s1.heap.objs.size + 5, [s1.heap.objs.size + 5, s1.heap.objs.size + 3, s1.heap.objs.size + 4, s1.heap.objs.size, s1.heap.objs.size + 1, s1.heap.objs.size + 2], _, _, H1, rfl, I2, turn_zipS3 D, ⟨hz, hI, ⟨_, _, _, hO⟩, itO_at z1, itO_at z2, itO_at z3⟩, fun c hcm => ?_, q⟩
  have e' : c = s1.heap.objs.size + 5 ∨ c = s1.heap.objs.size + 3 ∨ c = s1.heap.objs.size + 4 ∨ c = s1.heap.objs.size ∨ c = s1.heap.objs.size + 1 ∨ c = s1.heap.objs.size + 2 := by simpa using hcm
  have hle : s1.heap.objs.size ≤ c := by
    rcases e' with e | e | e | e | e | e <;> (rw [e]; first | exact Nat.le_refl _ | exact Nat.le_add_right _ _)
  exact I1.fpOk hle (I1.hok.fresh hle)
end HT
set_option maxRecDepth 100000
set_option maxHeartbeats 1600000
namespace HT
open PySem PySem.Spec L2
open PyProof.Rows hiding St

/-! ### zip(.., strict=True) over trees (printed by zipif.py) -/
section
variable {T : Str → Addr} {K : PySem.W.Frag} {ρ : Nat → Option Addr} {S : Sto} {Z : Hid} {H : Hp}
/-- a list or tuple at a holds ds, now and at each later turn -/
def SqOk (T : Str → Addr) (K : PySem.W.Frag) (ρ : Nat → Option Addr) (Z : Hid) (H : Hp) (t : Bool) (a : Addr) (ds : List D) (src : Src) : Prop :=
  ∀ ρ2 S2 (Z2 : Hid) H2, (∀ k a, ρ k = some a → ρ2 k = some a) → Sub (Fz ρ Z H) (Fz ρ2 Z2 H2) → (src.isHid = true → ∀ a, Z a → H2 a = H a) → Wd T K ρ2 S2 Z2 H2 → chk src S2 = true →
    ∃ vs, SqA t K H2 a vs ∧ RepL T K ρ2 (Fz ρ2 Z2 H2) ds vs
theorem walk_sq {d : D} {v : V} {p : List D × Src} (w : Wd T K ρ S Z H) (r : Rep T K ρ (Fz ρ Z H) d v) (hw : walkD S d = some p) : ∃ t a vs, v = .ref a ∧ SqA t K H a vs ∧ SqOk T K ρ Z H t a p.1 p.2 := by
  by_cases ht : ∃ ts, d = .tup ts
  · obtain ⟨ts, rfl⟩ := ht
    cases hw
    obtain ⟨a, vs, rfl, q1, q2⟩ := r
    exact ⟨true, a, vs, rfl, Fz_sub.seqT q1, fun ρ2 S2 Z2 H2 hc hs _ w2 _ => ⟨vs, Fz_sub.seqT (hs.seqT q1), RepL.mono hc hs _ _ q2⟩⟩
  · obtain ⟨a, vs, rfl, q1, q2⟩ := walk_ls w r hw fun ts e => ht ⟨ts, e⟩
    exact ⟨false, a, vs, rfl, q1, q2⟩
end
def zipD2 (ds1 ds2 : List D) : List D := (ds1.zip ds2).map fun p => .tup [p.1, p.2]
theorem zipD2_get {ds1 ds2 : List D} {i : Nat} {d : D} (h : (zipD2 ds1 ds2)[i]? = some d) : ∃ x1 x2, ds1[i]? = some x1 ∧ ds2[i]? = some x2 ∧ d = .tup [x1, x2] := by
  unfold zipD2 at h
  rw [List.getElem?_map] at h
  cases e : (ds1.zip ds2)[i]? with
  | none => rw [e] at h; cases h
  | some p =>
    rw [e] at h
    cases h
    obtain ⟨h1, h2⟩ := List.getElem?_zip_eq_some.mp e
    exact ⟨p.1, p.2, h1, h2, rfl⟩
theorem zipD2_len {ds1 ds2 : List D} (l2 : ds2.length = ds1.length) : (zipD2 ds1 ds2).length = ds1.length := by
  unfold zipD2
  simp only [List.length_map, List.length_zip]
  omega
section
variable {T : Str → Addr} {K : PySem.W.Frag} {ρ : Nat → Option Addr} {S : Sto} {Z : Hid} {H : Hp}
theorem it_zipS2 {t1 t2 : Bool} {a1 a2 : Addr} {ds1 ds2 : List D} (o1 : SqOk T K ρ Z H t1 a1 ds1 .fz) (o2 : SqOk T K ρ Z H t2 a2 ds2 .fz) (l2 : ds2.length = ds1.length) : ItOk T K ρ Z H (ItzS2 K t1 t2 a1 a2) (zipD2 ds1 ds2) .fz := by
  intro ρ2 S2 Z2 H2 hc hs hh w2 hch i
  obtain ⟨vs1, h1, r1⟩ := o1 ρ2 S2 Z2 H2 hc hs (fun z => by cases z) w2 rfl
  obtain ⟨vs2, h2, r2⟩ := o2 ρ2 S2 Z2 H2 hc hs (fun z => by cases z) w2 rfl
  refine ⟨fun d hd => ?_, fun hl => ⟨vs1, vs2, h1, h2, ?_, ?_⟩⟩
  · obtain ⟨x1, x2, e1, e2, rfl⟩ := zipD2_get hd
    obtain ⟨v1, hv1, rv1⟩ := r1.get e1
    obtain ⟨v2, hv2, rv2⟩ := r2.get e2
    refine ⟨⟨vs1, vs2, v1, v2, h1, h2, hv1, hv2⟩, fun x H3 y => ?_⟩
    obtain ⟨p, u1, u2, rfl, hp, rfl, y1, y2⟩ := y
    have z1 := y1 vs1 h1
    rw [hv1] at z1
    cases z1
    have z2 := y2 vs2 h2
    rw [hv2] at z2
    cases z2
    obtain ⟨x3', w3, f⟩ := new_frz (o := .tup [v1, v2]) w2 hp
    exact ⟨x3', w3, ⟨p, _, rfl, SqT.of f, RepL.cons (x3'.rep rv1) (RepL.one (x3'.rep rv2))⟩⟩
  · rw [zipD2_len l2] at hl
    rw [← r1.len]
    omega
  · rw [zipD2_len l2] at hl
    rw [← r2.len]
    omega
end
/-- zip of 2, strict=True; of lists and tuples that nothing changes meanwhile -/
def kZipS2 : List D → Cm (List D × Src)
  | [d1, d2] => fun S => match walkD S d1, walkD S d2 with
    | some (ds1, .fz), some (ds2, .fz) => if ds2.length = ds1.length then .ok (zipD2 ds1 ds2, .fz) S else .stuck
    | _, _ => .stuck
  | _ => stk
def iZipS2F (F : Env → Cm (List D)) : Env → Cm (List D × Src) := fun env S => (F env S).bnd kZipS2
theorem if_zipS2 {T : Str → Addr} {X : Cx} {W : WX} {e1 e2 : Expr} {p pos tpos cp kp : Pos} {elts : List Expr} {kk : Nat} {j} {Fa : Env → Cm (List D)} (hg : Gl X "zip") (hm : X.mg "zip" = none) (ha : AF T X W [e1, e2] Fa)
    (he : backTo pos (starEach [e1, e2] X.env) = (false, eval e1 X.env) :: backTo pos (starEach [e2] X.env) := by rfl) (hpl : (backTo pos (starEach [e1, e2] X.env)).any (·.1) = false := by rfl) :
    IF T X W (.Tuple elts kk tpos) (.Call (.Name "zip" p) [e1, e2] [⟨some "strict", .Constant (.bool true) j cp, kp⟩] pos) (iZipS2F Fa) := by
  refine pi_imp (pi_zipS2 hg hm ha he hpl) fun σ H Qi q => ?_
  obtain ⟨ρ, S, Z, env, w, er, g⟩ := q
  refine lift_imp (lift_bndI w er g) fun v H1 ⟨ρ1, S1, ds, x1, w1, er1, r1, g1⟩ => ?_
  unfold kZipS2 at g1
  split at g1
  · rename_i d1 d2
    obtain ⟨v1, us1, ev1, q1, r1⟩ := r1
    obtain ⟨v2, us2, ev2, q2, r1⟩ := r1
    split at g1
    · rename_i ds1 ds2 hw1 hw2
      split at g1
      · rename_i hl
        obtain ⟨t1, a1, vs1, ea1, s1, o1⟩ := walk_sq w1 q1 hw1
        obtain ⟨t2, a2, vs2, ea2, s2, o2⟩ := walk_sq w1 q2 hw2
        subst ea1 ea2
        subst r1
        subst ev2
        subst ev1
        exact ⟨a1, a2, t1, t2, vs1, vs2, rfl, s1, s2, g1 _ H1 ρ1 .refl w1 (it_zipS2 o1 o2 hl)⟩
      · exact g1.elim
    · exact g1.elim
  · exact g1.elim
def zipD3 (ds1 ds2 ds3 : List D) : List D := (ds1.zip (ds2.zip ds3)).map fun p => .tup [p.1, p.2.1, p.2.2]
theorem zipD3_get {ds1 ds2 ds3 : List D} {i : Nat} {d : D} (h : (zipD3 ds1 ds2 ds3)[i]? = some d) : ∃ x1 x2 x3, ds1[i]? = some x1 ∧ ds2[i]? = some x2 ∧ ds3[i]? = some x3 ∧ d = .tup [x1, x2, x3] := by
  unfold zipD3 at h
  rw [List.getElem?_map] at h
  cases e : (ds1.zip (ds2.zip ds3))[i]? with
  | none => rw [e] at h; cases h
  | some p =>
    rw [e] at h
    cases h
    obtain ⟨h1, h2⟩ := List.getElem?_zip_eq_some.mp e
    obtain ⟨h2, h3⟩ := List.getElem?_zip_eq_some.mp h2
    exact ⟨p.1, p.2.1, p.2.2, h1, h2, h3, rfl⟩
theorem zipD3_len {ds1 ds2 ds3 : List D} (l2 : ds2.length = ds1.length) (l3 : ds3.length = ds1.length) : (zipD3 ds1 ds2 ds3).length = ds1.length := by
  unfold zipD3
  simp only [List.length_map, List.length_zip]
  omega
section
variable {T : Str → Addr} {K : PySem.W.Frag} {ρ : Nat → Option Addr} {S : Sto} {Z : Hid} {H : Hp}
theorem it_zipS3 {t1 t2 t3 : Bool} {a1 a2 a3 : Addr} {ds1 ds2 ds3 : List D} (o1 : SqOk T K ρ Z H t1 a1 ds1 .fz) (o2 : SqOk T K ρ Z H t2 a2 ds2 .fz) (o3 : SqOk T K ρ Z H t3 a3 ds3 .fz) (l2 : ds2.length = ds1.length) (l3 : ds3.length = ds1.length) : ItOk T K ρ Z H (ItzS3 K t1 t2 t3 a1 a2 a3) (zipD3 ds1 ds2 ds3) .fz := by
  intro ρ2 S2 Z2 H2 hc hs hh w2 hch i
  obtain ⟨vs1, h1, r1⟩ := o1 ρ2 S2 Z2 H2 hc hs (fun z => by cases z) w2 rfl
  obtain ⟨vs2, h2, r2⟩ := o2 ρ2 S2 Z2 H2 hc hs (fun z => by cases z) w2 rfl
  obtain ⟨vs3, h3, r3⟩ := o3 ρ2 S2 Z2 H2 hc hs (fun z => by cases z) w2 rfl
  refine ⟨fun d hd => ?_, fun hl => ⟨vs1, vs2, vs3, h1, h2, h3, ?_, ?_, ?_⟩⟩
  · obtain ⟨x1, x2, x3, e1, e2, e3, rfl⟩ := zipD3_get hd
    obtain ⟨v1, hv1, rv1⟩ := r1.get e1
    obtain ⟨v2, hv2, rv2⟩ := r2.get e2
    obtain ⟨v3, hv3, rv3⟩ := r3.get e3
    refine ⟨⟨vs1, vs2, vs3, v1, v2, v3, h1, h2, h3, hv1, hv2, hv3⟩, fun x H3 y => ?_⟩
    obtain ⟨p, u1, u2, u3, rfl, hp, rfl, y1, y2, y3⟩ := y
    have z1 := y1 vs1 h1
    rw [hv1] at z1
    cases z1
    have z2 := y2 vs2 h2
    rw [hv2] at z2
    cases z2
    have z3 := y3 vs3 h3
    rw [hv3] at z3
    cases z3
    obtain ⟨x3', w3, f⟩ := new_frz (o := .tup [v1, v2, v3]) w2 hp
    exact ⟨x3', w3, ⟨p, _, rfl, SqT.of f, RepL.cons (x3'.rep rv1) (RepL.cons (x3'.rep rv2) (RepL.one (x3'.rep rv3)))⟩⟩
  · rw [zipD3_len l2 l3] at hl
    rw [← r1.len]
    omega
  · rw [zipD3_len l2 l3] at hl
    rw [← r2.len]
    omega
  · rw [zipD3_len l2 l3] at hl
    rw [← r3.len]
    omega
end
/-- zip of 3, strict=True; of lists and tuples that nothing changes meanwhile -/
def kZipS3 : List D → Cm (List D × Src)
  | [d1, d2, d3] => fun S => match walkD S d1, walkD S d2, walkD S d3 with
    | some (ds1, .fz), some (ds2, .fz), some (ds3, .fz) => if ds2.length = ds1.length ∧ ds3.length = ds1.length then .ok (zipD3 ds1 ds2 ds3, .fz) S else .stuck
    | _, _, _ => .stuck
  | _ => stk
def iZipS3F (F : Env → Cm (List D)) : Env → Cm (List D × Src) := fun env S => (F env S).bnd kZipS3
theorem if_zipS3 {T : Str → Addr} {X : Cx} {W : WX} {e1 e2 e3 : Expr} {p pos tpos cp kp : Pos} {elts : List Expr} {kk : Nat} {j} {Fa : Env → Cm (List D)} (hg : Gl X "zip") (hm : X.mg "zip" = none) (ha : AF T X W [e1, e2, e3] Fa)
    (he : backTo pos (starEach [e1, e2, e3] X.env) = (false, eval e1 X.env) :: backTo pos (starEach [e2, e3] X.env) := by rfl) (hpl : (backTo pos (starEach [e1, e2, e3] X.env)).any (·.1) = false := by rfl) :
    IF T X W (.Tuple elts kk tpos) (.Call (.Name "zip" p) [e1, e2, e3] [⟨some "strict", .Constant (.bool true) j cp, kp⟩] pos) (iZipS3F Fa) := by
  refine pi_imp (pi_zipS3 hg hm ha he hpl) fun σ H Qi q => ?_
  obtain ⟨ρ, S, Z, env, w, er, g⟩ := q
  refine lift_imp (lift_bndI w er g) fun v H1 ⟨ρ1, S1, ds, x1, w1, er1, r1, g1⟩ => ?_
  unfold kZipS3 at g1
  split at g1
  · rename_i d1 d2 d3
    obtain ⟨v1, us1, ev1, q1, r1⟩ := r1
    obtain ⟨v2, us2, ev2, q2, r1⟩ := r1
    obtain ⟨v3, us3, ev3, q3, r1⟩ := r1
    split at g1
    · rename_i ds1 ds2 ds3 hw1 hw2 hw3
      split at g1
      · rename_i hl
        obtain ⟨t1, a1, vs1, ea1, s1, o1⟩ := walk_sq w1 q1 hw1
        obtain ⟨t2, a2, vs2, ea2, s2, o2⟩ := walk_sq w1 q2 hw2
        obtain ⟨t3, a3, vs3, ea3, s3, o3⟩ := walk_sq w1 q3 hw3
        subst ea1 ea2 ea3
        subst r1
        subst ev3
        subst ev2
        subst ev1
        exact ⟨a1, a2, a3, t1, t2, t3, vs1, vs2, vs3, rfl, s1, s2, s3, g1 _ H1 ρ1 .refl w1 (it_zipS3 o1 o2 o3 hl.1 hl.2)⟩
      · exact g1.elim
    · exact g1.elim
  · exact g1.elim
end HT
set_option maxRecDepth 100000
set_option maxHeartbeats 1600000
namespace HT
open PySem PySem.Spec L2
open PyProof.Rows hiding St

/-! ### xs.index(y) -/
def gIdx (x y : D) : Cm D := fun S => match deep S x, deep S y with
  | some (.list ds), some d => if SeqAt.shaped (.list ds) = true ∧ SeqAt.shaped d = true then (match ds.findIdx? fun z => PyData.eqv z d with
    | some j => .ok (.int (j : Nat)) S
    | none => .stuck) else .stuck
  | _, _ => .stuck
def fIndex (Fo Fe : FE) : FE := fun env S => (Fo env S).bnd fun x S1 => if (asL S1 x).isSome = true then (Fe env S1).bnd fun y => gIdx x y else .stuck
theorem ty_index : typeOf (.builtin "list.index") = pure (.type "method_descriptor") := by
  show builtinType _ = _
  rw [builtinType_eq_fast]
  kernel_rfl
section
variable {T : Str → Addr} {X : Cx} {W : WX} {o e : Expr} {Fo Fe : FE} {apos cpos : Pos}
theorem pf_index (hu : X.A.units + 65 < cLine) (ho : PF T X W o Fo) (he : PF T X W e Fe) (hv : attributeBase o "index" X.env (eval o X.env) = eval o X.env ∧
  ((backTo cpos (starEach [e] X.env)).all (fun x => !x.1) && (backToKw cpos (keywordEach [] X.env)).all (fun x => x.1.isSome) && decide ([e].length + ([] : List Keyword).length + (if ([] : List Keyword).isEmpty then 0 else 1) < 30)) = true ∧
  (apos.endLine == cpos.line) = true ∧ starEach [e] X.env = (false, eval e X.env) :: starEach [] X.env ∧ (backTo cpos (starEach [] X.env)).any (·.1) = false := by exact ⟨rfl, rfl, rfl, rfl, rfl⟩) :
    PF T X W (.Call (.Attribute o "index" apos) [e] [] cpos) (fIndex Fo Fe) :=
  pe_imp (pe_bm PySem.F.plainAttrs_list PySem.F.slot_list_index ty_index (mt_indexD hu) ho (pa_cons he pa_nil hv.2.2.2.1) hv.1 hv.2.1 hv.2.2.1 hv.2.2.2.1 hv.2.2.2.2) fun σ H Q q => by
    obtain ⟨ρ, S, Z, env, w, er, g⟩ := q
    refine lift_imp (lift_bnd w er g) fun v H1 ⟨ρ1, S1, x, x1, w1, e1, r1, g1⟩ => ?_
    dsimp only at g1
    split at g1
    · rename_i hs
      cases ha : asL S1 x with
      | none => rw [ha] at hs; cases hs
      | some ds =>
        obtain ⟨a, vs, rfl, h1, _⟩ := asL_ok w1 r1 ha
        refine ⟨.inl ⟨rfl, vs, h1⟩, lift_imp (lift_bnd w1 e1 g1) fun u H2 ⟨ρ2, S2, y, x2, w2, e2, r2, g2⟩ => ?_⟩
        have r1' := x2.rep r1
        show rIndexD X.K (.ref a) [u] H2 Q
        have g3 : Good T X.K (rD T X.K) W σ Q ρ2 Z H2 (gIdx x y S2) := g2
        clear g2
        unfold gIdx at g3
        split at g3
        · rename_i dd d h3 h4
          split at g3
          · rename_i hsh
            split at g3
            · rename_i j hj
              obtain ⟨hlt, hz, hn⟩ := List.findIdx?_eq_some_iff_getElem.mp hj
              exact ⟨a, u, d, dd, j, dd[j], rfl, rfl, deep_dp w2 h3 r1', deep_dp w2 h4 r2, hsh.1, hsh.2, List.getElem?_eq_getElem hlt, hz, fun m z' hm hz' => by
                obtain ⟨hl2, e5⟩ := List.getElem?_eq_some_iff.mp hz'
                rw [← e5]
                simpa using hn m hm, g3.now w2 rfl⟩
            · exact g3.elim
          · exact g3.elim
        · exact g3.elim
    · exact g1.elim
end
end HT
set_option maxRecDepth 100000
set_option maxHeartbeats 1600000
namespace HT
open PySem PySem.Spec L2
open PyProof.Rows hiding St

/-! ### name = [.. for ..] on one line -/
section
variable {T : Str → Addr} {X : Cx} {W : WX} {σ : St} {H : Hp} {Q : VK}
theorem frz_te {F : Env → Cm CO} (q : lift T X.K (rD T X.K) W (fFrz F) σ H Q) : liftO T X.K W F σ H Q := by
  obtain ⟨ρ, S, Z, env, w, er, g⟩ := q
  refine ⟨ρ, S, Z, env, w, er, ?_⟩
  unfold fFrz at g
  cases hF : F env S with
  | ok c S' =>
    rw [hF] at g
    intro p H' ρ' n
    obtain ⟨x, w', r⟩ := n.freeze
    exact g _ H' ρ' x w' r
  | exc C fs S' => rw [hF] at g; exact g
  | stuck => rw [hF] at g; exact g
variable {b : Bd} {G : Env → Cm (List D × Src)} {Ft : Env → Cm Bool} {Fe : FE} {vs : List Nat} {iter elt tg : Expr} {ifs : List Expr} {scope : Scope} {own : List (Str × Nat)} {pos spos py : Pos} {y : Str} {i : Nat}
theorem lc_te (hv : ∀ i ∈ b.slots, i ∈ vs) (q : liftO T X.K W (oLc vs b G Ft Fe) σ H Q) : tLc (liftI T X.K W G) (gBd X.K b) (lift T X.K rB WF Ft) (lift T X.K (rD T X.K) WF Fe) vs σ H Q := by
  obtain ⟨ρ, S, Z, env, w, er, g⟩ := q
  refine ⟨ρ, S, Z, env, w, er, ?_⟩
  unfold oLc at g
  cases hG : G env S with
  | stuck => rw [hG] at g; exact g
  | exc C fs S' => rw [hG] at g; exact g
  | ok p S' =>
    rw [hG] at g
    obtain ⟨items, src⟩ := p
    exact fun J H' ρ' x w' it D hD => comp_run w' (er.ext x) it hv (GoodO.later (show GoodO T X.K W σ Q ρ Z H (oFin [] (compL b src Ft Fe (wipeE env vs) items S')) from g) x) D hD
theorem sf_setLc (hc : X.calm = true) (hN : X.N.Nodup) (hy : X.N[i]? = some y) (hyl : X.env.scope.names.lookup y = some .local)
    (hsw : swapsWith (.ListComp elt [⟨tg, iter, ifs, 0⟩] scope pos) (some (.Name y py)) spos.line X.env = pure true) (hi : IF T X W tg iter G) (ok : BlkOk X.N X.env.scope scope own) (hv : ∀ i ∈ b.slots, i ∈ own.map (·.2))
    (hg : ∀ (s : Shared) (H : Hp) (C : Addr) (cl : List (Str × Addr)) (fp : List Addr), PG (X.blk s H scope (compEnvC scope cl C X.env) fp) tg (gBd X.K b))
    (ht : ∀ (s : Shared) (H : Hp) (C : Addr) (cl : List (Str × Addr)) (fp : List Addr), TsF T (X.blk s H scope (compEnvC scope cl C X.env) fp) WF ifs Ft)
    (he : ∀ (s : Shared) (H : Hp) (C : Addr) (cl : List (Str × Addr)) (fp : List Addr), PF T (X.blk s H scope (compEnvC scope cl C X.env) fp) WF elt Fe) (hs : ∀ x, foldedSetIterable iter X.env x = pure x := by intro _; rfl) :
    SF T X W (.Assign [.Name y py] (.ListComp elt [⟨tg, iter, ifs, 0⟩] scope pos) spos) (sSet i (fFrz (oLc (own.map (·.2)) b G Ft Fe))) :=
  ps_imp (ps_setLc hc hN hy hyl hsw hi ok hg ht he hs) fun B σ H q => by
    obtain ⟨ρ, S, Z0, Z, env, a, g⟩ := q
    show tLc _ _ _ _ _ σ H (fun x H1 => gName i x σ H1 B.nx)
    refine lc_te hv (frz_te (lift_imp (lift_sB a g) fun v H1 ⟨ρ1, S1, d1, x1, a1, r1, g1⟩ => ?_))
    exact (show GoodF T X.K W B ρ1 Z0 Z H1 S1 (.nx (env.set i (.val d1))) from g1) _ H1 ρ1 Z .refl (a1.set r1)
end
end HT
set_option maxRecDepth 100000
set_option maxHeartbeats 1600000
namespace HT
open PySem PySem.Spec L2
open PyProof.Rows hiding St

/-! ### name = [.. for ..] on one line, the list a cell -/
section
variable {T : Str → Addr} {X : Cx} {W : WX} {σ : St} {H : Hp} {Q : VK}
theorem cell_te {F : Env → Cm CO} (q : lift T X.K (rD T X.K) W (fCell F) σ H Q) : liftO T X.K W F σ H Q := by
  obtain ⟨ρ, S, Z, env, w, er, g⟩ := q
  refine ⟨ρ, S, Z, env, w, er, ?_⟩
  unfold fCell at g
  cases hF : F env S with
  | ok c S' =>
    rw [hF] at g
    intro p H' ρ' n
    obtain ⟨x, w', r⟩ := n.cell
    exact g _ H' _ x w' ⟨p, rfl, r⟩
  | exc C fs S' => rw [hF] at g; exact g
  | stuck => rw [hF] at g; exact g
variable {b : Bd} {G : Env → Cm (List D × Src)} {Ft : Env → Cm Bool} {Fe : FE} {vs : List Nat} {iter elt tg : Expr} {ifs : List Expr} {scope : Scope} {own : List (Str × Nat)} {pos spos py : Pos} {y : Str} {i : Nat}
theorem sf_setLcC (hc : X.calm = true) (hN : X.N.Nodup) (hy : X.N[i]? = some y) (hyl : X.env.scope.names.lookup y = some .local)
    (hsw : swapsWith (.ListComp elt [⟨tg, iter, ifs, 0⟩] scope pos) (some (.Name y py)) spos.line X.env = pure true) (hi : IF T X W tg iter G) (ok : BlkOk X.N X.env.scope scope own) (hv : ∀ i ∈ b.slots, i ∈ own.map (·.2))
    (hg : ∀ (s : Shared) (H : Hp) (C : Addr) (cl : List (Str × Addr)) (fp : List Addr), PG (X.blk s H scope (compEnvC scope cl C X.env) fp) tg (gBd X.K b))
    (ht : ∀ (s : Shared) (H : Hp) (C : Addr) (cl : List (Str × Addr)) (fp : List Addr), TsF T (X.blk s H scope (compEnvC scope cl C X.env) fp) WF ifs Ft)
    (he : ∀ (s : Shared) (H : Hp) (C : Addr) (cl : List (Str × Addr)) (fp : List Addr), PF T (X.blk s H scope (compEnvC scope cl C X.env) fp) WF elt Fe) (hs : ∀ x, foldedSetIterable iter X.env x = pure x := by intro _; rfl) :
    SF T X W (.Assign [.Name y py] (.ListComp elt [⟨tg, iter, ifs, 0⟩] scope pos) spos) (sSet i (fCell (oLc (own.map (·.2)) b G Ft Fe))) :=
  ps_imp (ps_setLc hc hN hy hyl hsw hi ok hg ht he hs) fun B σ H q => by
    obtain ⟨ρ, S, Z0, Z, env, a, g⟩ := q
    show tLc _ _ _ _ _ σ H (fun x H1 => gName i x σ H1 B.nx)
    refine lc_te hv (cell_te (lift_imp (lift_sB a g) fun v H1 ⟨ρ1, S1, d1, x1, a1, r1, g1⟩ => ?_))
    exact (show GoodF T X.K W B ρ1 Z0 Z H1 S1 (.nx (env.set i (.val d1))) from g1) _ H1 ρ1 Z .refl (a1.set r1)
end
end HT
set_option maxRecDepth 100000
set_option maxHeartbeats 3200000
namespace HT
open PySem PySem.Spec L2
open PyProof.Rows hiding St

/-! ### a set of texts, as its sorting needs it -/
def zOf (e : Int × Value) : Str := strOf e.2
def TxE (P : Program) (w : World) (e : Int × Value) : Prop := ∃ z t, e.2 = Value.str z t ∧ e.1 = (PySem.strKind P w).hash z
def TxSet (P : Program) (w : World) (h : Heap) (a : Addr) (L : List Str) : Prop :=
  ∃ o es ep t, h.get? a = some o ∧ (o.ExactSet ∧ o.data = .set es ep t) ∧ (∀ e ∈ es.toList, TxE P w e) ∧ ((es.toList.map zOf).Perm L ∧ L.Nodup) ∧ (es.size < scanBound ∧ t.fits es.size = true) ∧ Ris t.place.toList ∧ (w.params.followText "set-order" = true ∨ t.led = true)
section
variable {P : Program} {w : World} {A : Around} {E : Value → Shared → Prop} {s : Shared} {a : Addr} {L : List Str}
theorem TxSet.kept {h h' : Heap} (R : TxSet P w h a L) (k : ∀ o, h.get? a = some o → h'.get? a = some o) : TxSet P w h' a L := by
  obtain ⟨o, es, ep, t, q, r⟩ := R
  exact ⟨o, es, ep, t, k o q, r⟩
theorem tx_elems {l : List (Int × Value)} (g : ∀ e ∈ l, TxE P w e) : ElemsOf (PySem.strKind P w) l := fun e he => by
  obtain ⟨z, t, q1, q2⟩ := g e he
  exact ⟨⟨z, by rw [q1]; exact strKind_is _ _ _ _, q2⟩, by rw [q1]; rfl⟩
theorem tx_is {e : Int × Value} (g : TxE P w e) (k : Str) : (PySem.strKind P w).is k e.2 = true ↔ zOf e = k := by
  obtain ⟨z, t, q1, _⟩ := g
  unfold zOf
  rw [q1]
  constructor
  · intro q
    exact (PySem.strKind P w).inj _ _ _ (strKind_is _ _ _ _) q
  · intro q
    rw [← q]
    exact strKind_is _ _ _ _
/-- the table is stored, and laid anew where it grows -/
theorem tx_laid {gv : Bool → Sem Unit} (hg : ∀ (b : Bool) (s1 : Shared) (Q : Unit → Shared → Prop), Q () s1 → wpAny (model P w) A (gv b) Q E s1) {o : Obj} {es : Array (Int × Value)} {ep : Nat} {t : SetTable} (ho : s.heap.get? a = some o) (hx : o.ExactSet) (hd : o.data = .set es ep t)
    {es1 : Array (Int × Value)} {t2 : SetTable} (g1 : ∀ e ∈ es1.toList, TxE P w e) (pL : (es1.toList.map zOf).Perm L) (nd : L.Nodup) (hb : es1.size < scanBound) (hf : t2.fits es1.size = true) (hr : Ris t2.place.toList) (hl : w.params.followText "set-order" = true ∨ t2.led = true)
    {dm : Bool} {R : Option Bool → Shared → Prop} (hR : ∀ h', Heap.SameBut a s.heap h' → TxSet P w h' a L → R (some true) { s with heap := h' }) :
    wpAny (model P w) A (do { storeSet a es1 t2; if (!dm && t2.tooFull) = true then do { gv (relayAll t2 es1 (SetTable.grown es1.size)).2.2; storeSet a (relayAll t2 es1 (SetTable.grown es1.size)).1 (relayAll t2 es1 (SetTable.grown es1.size)).2.1; pure (some true) } else pure (some true) }) R E s := by
  refine wpAny_bind (wpAny_storeSet_of ho hd ?_ (fits_of_scanBound hb))
  have q1 := L2.store_at (es' := es1) (t' := t2) ho hd
  have sb := Heap.SameBut.update s.heap a (Obj.putSet es1 t2)
  by_cases c : (!dm && t2.tooFull) = true
  · rw [if_pos c]
    have pm := relayAll_perm t2 es1 (SetTable.grown es1.size)
    have f3 := relayAll_fits t2 es1 (SetTable.grown es1.size)
    have r3 := L2.relayAll_ris t2 es1 (SetTable.grown es1.size)
    have l3 := L2.relayAll_led t2 es1 (SetTable.grown es1.size)
    generalize relayAll t2 es1 (SetTable.grown es1.size) = laid at pm f3 r3 l3 ⊢
    obtain ⟨es2, t3, gave⟩ := laid
    dsimp only at pm f3 r3 l3 ⊢
    have sz : es2.size = es1.size := by rw [← Array.length_toList, pm.length_eq, Array.length_toList]
    refine wpAny_bind (hg _ _ _ (wpAny_bind (wpAny_storeSet_of q1 rfl ?_ (fits_of_scanBound (by rw [sz]; exact hb)))))
    have q2 := L2.store_at (es' := es2) (t' := t3) q1 rfl
    refine wpAny_pure (hR _ (sb.trans (Heap.SameBut.update _ a _)) ⟨_, es2, _, t3, q2, ⟨hx, rfl⟩, fun e he => g1 e (pm.mem_iff.mp he), ⟨(pm.map zOf).trans pL, nd⟩, ⟨by rw [sz]; exact hb, f3⟩, r3, ?_⟩)
    rcases hl with z | z
    · exact .inl z
    · exact .inr (by rw [l3]; exact z)
  · rw [if_neg c]
    exact wpAny_pure (hR _ sb ⟨_, es1, _, t2, q1, ⟨hx, rfl⟩, g1, ⟨pL, nd⟩, ⟨hb, hf⟩, hr, hl⟩)
/-- one text more -/
theorem tx_add {z : Str} {tk : Tok} {Q : Bool → Shared → Prop} (R : TxSet P w s.heap a L) (room : L.length + 1 < scanBound) (hQ : ∀ b h', Heap.SameBut a s.heap h' → TxSet P w h' a (addT L z) → Q b { s with heap := h' }) :
    wpAny (model P w) A (setAddHashed a (.str z tk) ((PySem.strKind P w).hash z)) Q E s := by
  obtain ⟨o, es, ep, t, ho, ⟨hx, hd⟩, g, ⟨pL, nd⟩, ⟨hb, hf⟩, hr, hl⟩ := R
  have kk : (PySem.strKind P w).is z (.str z tk) = true := strKind_is _ _ _ _
  have sc : (Value.str z tk).scannable = true := rfl
  have el : ElemsOf (PySem.strKind P w) es.toList := tx_elems g
  have ln : es.size = L.length := by rw [← pL.length_eq, List.length_map, Array.length_toList]
  unfold setAddHashed setAddHashedIn
  refine wpAny_holding (wpAny_bind (wpAny_setState_of ho hd hf ?_))
  dsimp only
  rw [byScan_of sc hb el]
  simp only [↓reduceIte]
  unfold setAddByScan
  refine wpAny_bind (wpAny_bind (wpAny_rule (wpAny_bind (wpAny_setScan_of kk ho hd hf el ?_))))
  cases hi : List.findIdx? (fun e => (PySem.strKind P w).is z e.2) es.toList with
  | some j =>
    dsimp only
    obtain ⟨hj, pj, _⟩ := List.findIdx?_eq_some_iff_getElem.mp hi
    have hz : z ∈ L := pL.mem_iff.mp (List.mem_map.mpr ⟨_, List.getElem_mem hj, (tx_is (g _ (List.getElem_mem hj)) z).mp pj⟩)
    have e : addT L z = L := by
      unfold addT
      exact if_pos (show (L.any fun x => x == z) = true from List.any_eq_true.mpr ⟨z, hz, beq_self_eq_true z⟩)
    refine wpAny_pure (wpAny_pure (hQ _ s.heap (Heap.SameBut.refl a s.heap) ?_))
    rw [e]
    exact ⟨o, es, ep, t, ho, ⟨hx, hd⟩, g, ⟨pL, nd⟩, ⟨hb, hf⟩, hr, hl⟩
  | none =>
    dsimp only
    have hz : z ∉ L := fun q => by
      obtain ⟨e, he, q⟩ := List.mem_map.mp (pL.mem_iff.mpr q)
      have c := List.findIdx?_eq_none_iff.mp hi e he
      rw [(tx_is (g e he) z).mpr q] at c
      cases c
    have e : addT L z = L ++ [z] := by
      unfold addT
      rw [if_neg]
      intro q
      obtain ⟨y, hy, q⟩ := List.any_eq_true.mp q
      exact hz ((beq_iff_eq.mp q) ▸ hy)
    have say : ∀ (b : Bool) (s1 : Shared) (Q' : Unit → Shared → Prop), Q' () s1 → wpAny (model P w) A (match b with | true => rule "set.scan.the-table-gave-way" | false => pure ()) Q' E s1 := fun b s1 Q' q => by
      cases b
      · exact wpAny_pure q
      · exact wpAny_rule q
    have pm := layNew_perm t es ((PySem.strKind P w).hash z) (.str z tk)
    have f1 := layNew_fits t es ((PySem.strKind P w).hash z) (.str z tk)
    have r1 := L2.layNew_ris t es ((PySem.strKind P w).hash z) (.str z tk) hr
    have l1 := L2.layNew_led t es ((PySem.strKind P w).hash z) (.str z tk)
    generalize layNew t es ((PySem.strKind P w).hash z) (.str z tk) = laid at pm f1 r1 l1 ⊢
    obtain ⟨es1, t1, dm, gave⟩ := laid
    dsimp only at pm f1 r1 l1 ⊢
    rw [Array.toList_push] at pm
    have p1 : (es1.toList.map zOf).Perm (L ++ [z]) := by
      have q := pm.map zOf
      rw [List.map_append] at q
      exact q.trans (pL.append_right [z])
    have g1 : ∀ e ∈ es1.toList, TxE P w e := fun e he => by
      rcases List.mem_append.mp (pm.mem_iff.mp he) with q | q
      · exact g e q
      · rw [List.mem_singleton.mp q]
        exact ⟨z, tk, rfl, rfl⟩
    have n1 : (L ++ [z]).Nodup := by
      rw [List.nodup_append]
      refine ⟨nd, by simp, fun x hx y hy q => hz ?_⟩
      rw [List.mem_singleton.mp hy] at q
      exact q ▸ hx
    have b1 : es1.size < scanBound := by
      have q := p1.length_eq
      rw [List.length_map, Array.length_toList, List.length_append] at q
      rw [q]
      exact room
    have led1 : w.params.followText "set-order" = true ∨ t1.led = true := by
      rcases hl with q | q
      · exact .inl q
      · exact .inr (by rw [l1]; exact q)
    have fin : ∀ h', Heap.SameBut a s.heap h' → TxSet P w h' a (L ++ [z]) → ∀ b, Q b { s with heap := h' } := fun h' sb r b => hQ b h' sb (by rw [e]; exact r)
    refine wpAny_bind (say _ _ _ ?_)
    split
    · refine wpAny_bind ?_
      rw [hashByValue_scannable 8 sc]
      refine wpAny_pure (tx_laid (fun b s1 Q' q => ?_) ho hx hd g1 p1 n1 b1 ?_ ?_ ?_ fun h' sb r => ?_)
      · cases b
        · exact wpAny_pure q
        · exact wpAny_rule q
      · first | (split <;> first | exact f1 | exact SetTable.fits_plain_off f1) | exact f1
      · first | (split <;> exact r1) | exact r1
      · first | (split <;> exact led1) | exact led1
      · dsimp only
        exact wpAny_pure (fin h' sb r _)
    · refine wpAny_bind (wpAny_pure ?_)
      simp only [↓reduceIte]
      refine tx_laid (fun b s1 Q' q => ?_) ho hx hd g1 p1 n1 b1 f1 r1 led1 fun h' sb r => ?_
      · cases b
        · exact wpAny_pure q
        · exact wpAny_rule q
      · dsimp only
        exact wpAny_pure (fin h' sb r _)
/-- the items of a list are put in, one by one -/
theorem tx_update {I : Addr} {fp wr : List Addr} {G : Array GenState → Array GenState → Prop} {n : Nat} {Pv : Nat → Value → Prop} {St : Nat → Shared → Prop} {R : Result → Shared → Prop} (wk : WalksS P w A.in1 I fp wr G n Pv St) (B : Addr) (hB : B ∉ fp) (zs : List Str) (hz : zs.length = n) (hb : n + 1 < scanBound)
    (hv : ∀ i v, Pv i v → ∃ t, v = .str (zs.getD i Str.empty) t) : ∀ (k i : Nat) (s : Shared), n - i = k → i ≤ n → St i s → TxSet P w s.heap B (metT (zs.take i)) →
      (∀ s', Moved (B :: wr) G s s' → TxSet P w s'.heap B (metT (zs.take n)) → R (.ok (.ret .none)) s') → codeAny (model P w) A (.builtin "set.update.loop" ⟨[.ref B, .ref I], []⟩) R s := by
  have nB : B ∉ wr := fun h => hB (wk.sub _ h)
  have up : ∀ b ∈ wr, b ∈ B :: wr := fun b q => List.mem_cons_of_mem _ q
  intro k
  induction k with
  | zero =>
    intro i s e0 e1 h0 h1 fin
    obtain rfl : i = n := by omega
    refine codeAny_builtin PyProof.Rows.F.entry_set_update_loop ((Around.under_plainId PyProof.Rows.F.plain_set_update_loop _).symm ▸ ?_)
    exact wpAny_bind (wk.done s _ _ h0 fun s1 mv => wpAny_pure (fin s1 (mv.mono up) (h1.kept fun o q => mv.heap B o nB q)))
  | succ k ih =>
    intro i s e0 e1 h0 h1 fin
    have lt : i < n := by omega
    refine codeAny_builtin PyProof.Rows.F.entry_set_update_loop ((Around.under_plainId PyProof.Rows.F.plain_set_update_loop _).symm ▸ ?_)
    refine wpAny_bind (wk.item i s _ _ lt h0 fun v s1 hp h2 mv => ?_)
    obtain ⟨t, rfl⟩ := hv i v hp
    have h3 := h1.kept (h' := s1.heap) fun o q => mv.heap B o nB q
    refine wpAny_bind (wpAny_holding ?_)
    unfold setAdd
    refine wpAny_holding (wpAny_bind ((PySem.strKind P w).pyHash (k := zs.getD i Str.empty) (strKind_is _ _ _ _) ?_))
    have room : (metT (zs.take i)).length + 1 < scanBound := by
      have q := metT_len (zs.take i) []
      rw [List.length_take] at q
      have q2 : (metT (zs.take i)).length ≤ 0 + min i zs.length := q
      omega
    refine tx_add (s := { s1 with toks := s1.toks + 1 }) h3 room fun _ h' sb h4 => ?_
    rw [← metT_take (by omega)] at h4
    refine wpAny_pure ⟨plainId_quiet PyProof.Rows.F.plain_set_update_loop _, ih (i + 1) _ (by omega) lt (wk.frame _ s1 _ _ h2 (Nat.le_succ _) fun b q o e => ?_) h4 fun s2 mv2 h6 => fin s2 (Moved.trans wk.gtrans ((mv.mono up).then_heap (Nat.le_succ _) fun b o q e => ?_) mv2) h6⟩
    · exact (sb.2 b (fun h : b = B => hB (h ▸ q))).trans e
    · exact (sb.2 b (fun h : b = B => q (h ▸ List.mem_cons_self))).trans e
abbrev newSetL (w : World) : Obj := { cls := .type "set", dict := none, data := .set #[] 0 (.fresh 0 0 (!w.params.followText "set-order")) }
theorem tx_new {h : Heap} {a : Addr} (q : h.get? a = some (newSetL w)) : TxSet P w h a [] :=
  ⟨_, #[], 0, _, q, ⟨⟨rfl, rfl, rfl⟩, rfl⟩, fun e he => by simp at he, ⟨by simp, List.nodup_nil⟩, ⟨by decide, rfl⟩, List.Pairwise.nil, by
    show _ ∨ (!w.params.followText "set-order") = true
    cases w.params.followText "set-order"
    · exact .inr rfl
    · exact .inl rfl⟩
/-- set(zs) -/
theorem call_setTx {l : Addr} {its : Array Value} {zs : List Str} {Q : Value → Shared → Prop} (hh : A.handled = none) (hl : s.heap.IsList l its) (hi : PyProof.Rows.StrsAre its.toList zs) (hb : zs.length + 1 < scanBound)
    (k : ∀ (h' : Heap) (tk : Nat), TxSet P w h' s.heap.objs.size (metT zs) → (∀ b o, s.heap.get? b = some o → h'.get? b = some o) → Q (.ref s.heap.objs.size) { s with heap := h', toks := tk }) : wpAny (model P w) A (call (.type "set") [.ref l]) Q E s := by
  obtain ⟨c, tl, mro⟩ := PySem.F.called_set.mro
  have made := PySem.F.called_set.made; have sub := PySem.F.called_set.sub
  refine wpAny_call (codeAny_of_tree (show wpAny _ _ (callAny (.type "set") _) _ _ _ from ?_))
  refine wpAny_pure ⟨Code.quiet_builtin _ (by decide +kernel), codeAny_builtin PySem.F.entry_type_call ((Around.under_plain (weight_type_call_type "set" [.ref l] []) rfl).symm ▸ ?_)⟩
  have a1 := PySem.F.called_set.notType; have a2 := PySem.F.called_set.canCreate; have a3 := PySem.F.typeCall_set_1 (.ref l)
  repeat (any_goals (first | assumption | wp_step))
  refine codeAny_mono (L2.code_set_led1 (.ref l) (E := E) (Q₁ := fun v s1 => v = .ref s.heap.objs.size ∧ s1 = { s with heap := s.heap.push (newSetL w) }) ⟨rfl, rfl⟩) fun r s1 hr => ?_
  match r, hr with
  | .ok (.ret v), hr =>
    obtain ⟨rfl, rfl⟩ := hr
    have g0 : (s.heap.push (newSetL w)).get? s.heap.objs.size = some (newSetL w) := Heap.get?_push_size _ rfl
    have ty : Shared.TypeIs { s with heap := s.heap.push (newSetL w) } (.ref s.heap.objs.size) "set" := ⟨_, g0, rfl⟩
    have b1 := PySem.F.called_set.init.lookup; have b2 := PySem.F.called_set.init.bind (.ref s.heap.objs.size)
    repeat (any_goals (first | assumption | wp_step))
    refine codeAny_mono (codeAny_call_builtin (R := wants (fun r s2 => r = .none ∧ ∃ h' tk, s2 = { s with heap := h', toks := tk } ∧ TxSet P w h' s.heap.objs.size (metT zs) ∧ (∀ b o, s.heap.get? b = some o → h'.get? b = some o)) E) PySem.F.called_set.init.plain PySem.F.entry_set_init (check_set_init_1 ty ?_)) fun r2 s2 hr2 => ?_
    · obtain ⟨⟨_, od, _, os⟩, ho, rfl, nl, rfl⟩ := hl
      have lt : l < s.heap.objs.size := Heap.lt_size ho
      have ho2 : (s.heap.push (newSetL w)).get? l = some { cls := .type "list", dict := od, data := .seq its nl, slots := os } := Heap.get?_push_of_some _ ho
      have c1 := PySem.F.sub_list_set; have c2 := PySem.F.sub_list_frozenset
      have c3 : (Value.type "list" == Value.type "dict") = false := by decide
      have hl1 : (s.heap.push (newSetL w)).IsList l its := ⟨_, ho2, rfl, nl, rfl⟩
      unfold Builtin.«set.__init__» noKeywords Builtin.Frozenset.updateFrom
      generalize hP : pyIter = PI
      wp_walk
      subst hP
      refine wpAny_pyIter_list hl1 (wpAny_bind (wpAny_runValue ?_))
      have hd3 : A.in1.in1.in1.handled = none := by simp [hh]
      have sz : (s.heap.push (newSetL w)).objs.size = s.heap.objs.size + 1 := Heap.size_push ..
      have ne1 : l ≠ (s.heap.push (newSetL w)).objs.size := sz.symm ▸ Nat.ne_of_lt (Nat.lt_succ_of_lt lt)
      have ne2 : s.heap.objs.size ∉ [(s.heap.push (newSetL w)).objs.size, l] := fun q => by
        rcases List.mem_cons.mp q with e | q
        · exact absurd (e.trans sz) (Nat.ne_of_lt (Nat.lt_succ_self _))
        · exact absurd (List.mem_singleton.mp q) (Nat.ne_of_gt lt)
      have len : zs.length = its.size := by rw [← StrsAre.len_eq hi, Array.length_toList]
      have tk1 : zs.take its.size = zs := by rw [← len, List.take_length]
      refine tx_update ((Walks.list hd3 _ l ne1 its).toS) s.heap.objs.size ne2 zs len (by omega) (fun i v hv => SS.strs_at hi i v ((Array.getElem?_toList).trans hv)) (its.size - 0) 0 _ (by omega) (Nat.zero_le _) ⟨⟨_, Heap.get?_push_size _ rfl, rfl, rfl⟩, hl1.push _⟩ (tx_new (Heap.get?_push_of_some _ g0)) ?fin
      case fin =>
        intro s3 mv h3
        rw [tk1] at h3
        obtain ⟨h', g', d', tk', os'⟩ := s3
        obtain rfl : g' = s.gens := mv.gens
        obtain rfl : d' = s.drawn := mv.drawn
        obtain rfl : os' = s.os := mv.os
        refine wpAny_pure (show wpAny _ _ (ret Value.none) _ _ _ from wpAny_pure ⟨rfl, h', tk', rfl, h3, fun b o e => ?_⟩)
        have q := Heap.lt_size e
        exact mv.heap b o (fun m => by
          rcases List.mem_cons.mp m with e | m
          · exact absurd e (Nat.ne_of_lt q)
          · exact absurd ((List.mem_singleton.mp m).trans sz) (Nat.ne_of_lt (Nat.lt_succ_of_lt q))) (Heap.get?_push_of_some _ (Heap.get?_push_of_some _ e))
    · match r2, hr2 with
      | .ok (.ret r), hr2 =>
        obtain ⟨rfl, h', tk, rfl, left, kp⟩ := hr2
        repeat (any_goals (first | assumption | wp_step))
        exact k _ _ left kp
      | .error e, hr2 => exact hr2
  | .error e, hr => exact hr
/-- sorted(found), fewer than 64 texts -/
theorem sorted_tx {Q : Value → Shared → Prop} (R : TxSet P w s.heap a L) (hh : A.handled = none) (h64 : L.length < 64)
    (hQ : ∀ s' p (out : Array Value) (c : Nat) (ys : List Str), (∀ b o, s.heap.get? b = some o → s'.heap.get? b = some o) → s'.gens = s.gens → s'.os = s.os → s.heap.objs.size ≤ p → s'.heap.get? p = some (seqObj "list" out c) → PyProof.Rows.StrsAre out.toList ys → ys.Perm L → sortedS ys = true → Q (.ref p) s') :
    wpAny (model P w) A (call (.builtin "sorted") [.ref a]) Q E s := by
  obtain ⟨o, es, ep, t, ho, ⟨hx, hd⟩, g, ⟨pL, nd⟩, ⟨hb, hf⟩, hr, hl⟩ := R
  refine PySem.Calls.call_function_entry kind_sorted plain_sorted entry_sorted (args_sorted1 _) ?_
  unfold Builtin.«sorted»
  refine wpAny_bind (m := checkCount "sorted" 1 1 _) (wpAny_pure ?_)
  refine wpAny_bind (L2.collect_set (A := A.in1) hh ⟨o, ho, hx.1, hd⟩ hf hb hr hl fun s1 vs k1 hz g1 o1 pm => ?_)
  have hS : PyProof.Rows.StrsAre vs (vs.map strOf) := strsAre_map vs fun v hv => by
    obtain ⟨e, he, q⟩ := List.mem_map.mp (pm.mem_iff.mp hv)
    obtain ⟨z, tk, q1, _⟩ := g e he
    exact ⟨z, tk, by rw [← q]; exact q1⟩
  have pv : (vs.map strOf).Perm L := by
    have q := pm.map strOf
    rw [List.map_map] at q
    exact q.trans pL
  have hn : vs.length < 64 := by
    have := pv.length_eq
    rw [List.length_map] at this
    rw [this]
    exact h64
  refine wpAny_bind (wpAny_newList ?_ (by rw [sizeLine_eq]; omega))
  have hoL : (s1.heap.push (seqObj "list" vs.toArray 0)).get? s1.heap.objs.size = some (seqObj "list" vs.toArray 0) := Heap.get?_push_size _ rfl
  refine wpAny_bind (wpAny_holding (wpAny_call_entry slot_list_sort ⟨_, hoL, rfl⟩ entry_list_sort (list_sort_treeK strKind_oneLt hoL hS.keysOf (fun v1 v2 rest e => keyKind_strs (by rw [← e]; exact hS)) hn fun st' hp hs => ?_) (args_list_sort _)))
  obtain ⟨ys, y1, y2, y3⟩ := sorted_out_str hS hp hs
  obtain ⟨c, hc⟩ := sortedHeap_at (vs := vs) (out := (arrOf st').map (·.2)) hoL
  refine ⟨_, rfl, wpAny_pure ⟨_, rfl, hQ _ s1.heap.objs.size _ c ys (fun b u e => ?_) g1 o1 hz hc y1 (y2.trans pv) y3⟩⟩
  have q := k1 b u e
  have lt := Heap.lt_size q
  show (sortedHeap _ s1.heap.objs.size _ _).get? b = some u
  rw [sortedHeap_old (Nat.ne_of_lt lt) (by rw [size_push']; exact Nat.lt_succ_of_lt lt)]
  exact Heap.get?_push_of_some _ q
end
end HT
set_option maxRecDepth 100000
set_option maxHeartbeats 1600000
namespace HT
open PySem PySem.Spec L2
open PyProof.Rows hiding St

/-! ### texts in order -/
def leZ (a b : Str) : Prop := ltCps b.cps.toList a.cps.toList = false
def insZ (z : Str) : List Str → List Str
  | [] => [z]
  | y :: l => if ltCps z.cps.toList y.cps.toList = true then z :: y :: l else y :: insZ z l
def sortZ : List Str → List Str
  | [] => []
  | z :: l => insZ z (sortZ l)
theorem leZ_iff {a b : Str} : leZ a b ↔ ¬ b.cps.toList < a.cps.toList := by
  unfold leZ
  rw [ltCps_eq, decide_eq_false_iff_not]
theorem leZ_trans {a b c : Str} (h : leZ a b) (h2 : leZ b c) : leZ a c := by
  rw [leZ_iff, List.not_lt] at *
  exact List.le_trans h h2
theorem leZ_total {a b : Str} (h : ltCps a.cps.toList b.cps.toList = true) : leZ a b := by
  rw [ltCps_eq, decide_eq_true_eq] at h
  rw [leZ_iff]
  exact List.lt_asymm h
theorem leZ_anti {a b : Str} (h : leZ a b) (h2 : leZ b a) : a = b := by
  rw [leZ_iff, List.not_lt] at *
  have := List.le_antisymm h h2
  obtain ⟨⟨a⟩⟩ := a
  obtain ⟨⟨b⟩⟩ := b
  simpa using this
theorem ins_perm (z : Str) : ∀ l, (insZ z l).Perm (z :: l)
  | [] => .refl _
  | y :: l => by
    unfold insZ
    split
    · exact .refl _
    · exact ((ins_perm z l).cons y).trans (.swap z y l)
theorem sortZ_perm : ∀ l, (sortZ l).Perm l
  | [] => .refl _
  | z :: l => (ins_perm z _).trans ((sortZ_perm l).cons z)
theorem ins_pw (z : Str) : ∀ l, l.Pairwise leZ → (insZ z l).Pairwise leZ
  | [], _ => by simp [insZ]
  | y :: l, h => by
    have h' := List.pairwise_cons.mp h
    unfold insZ
    split
    · rename_i c
      refine List.pairwise_cons.mpr ⟨fun x hx => ?_, h⟩
      rcases List.mem_cons.mp hx with rfl | hx
      · exact leZ_total c
      · exact leZ_trans (leZ_total c) (h'.1 x hx)
    · rename_i c
      refine List.pairwise_cons.mpr ⟨fun x hx => ?_, ins_pw z l h'.2⟩
      rcases List.mem_cons.mp ((ins_perm z l).mem_iff.mp hx) with rfl | hx
      · exact (by simpa using c : ltCps x.cps.toList y.cps.toList = false)
      · exact h'.1 x hx
theorem sortZ_pw : ∀ l, (sortZ l).Pairwise leZ
  | [] => .nil
  | z :: l => ins_pw z _ (sortZ_pw l)
theorem rising_pw : ∀ (r : List Str) (p : Str), risingS p r = true → (p :: r).Pairwise leZ
  | [], p, _ => by simp
  | x :: r, p, h => by
    have h' : (!ltCps x.cps.toList p.cps.toList && risingS x r) = true := h
    obtain ⟨h1, h2⟩ := Bool.and_eq_true_iff.mp h'
    have ih := rising_pw r x h2
    have q : leZ p x := by
      unfold leZ
      simpa using h1
    refine List.pairwise_cons.mpr ⟨fun y hy => ?_, ih⟩
    rcases List.mem_cons.mp hy with rfl | hy
    · exact q
    · exact leZ_trans q ((List.pairwise_cons.mp ih).1 y hy)
theorem sorted_pw : ∀ {l : List Str}, sortedS l = true → l.Pairwise leZ
  | [], _ => .nil
  | x :: r, h => rising_pw r x h
theorem sortZ_of {ys l : List Str} (p : ys.Perm l) (h : sortedS ys = true) : ys = sortZ l :=
  List.Perm.eq_of_pairwise (fun a b _ _ => leZ_anti) (sorted_pw h) (sortZ_pw l) (p.trans (sortZ_perm l).symm)
theorem sortZ_len (l : List Str) : (sortZ l).length = l.length := (sortZ_perm l).length_eq
theorem sortZ_mem {l : List Str} {z : Str} : z ∈ sortZ l ↔ z ∈ l := (sortZ_perm l).mem_iff

/-! ### sorted(set(texts)) -/
def tSortSet (K : PySem.W.Frag) (ta : TE) : TE := fun σ H Q => ta σ H fun x H1 => ∃ l, ∃ zs : List Str, x = .ref l ∧ SqL K H1 l (zs.map V.str) ∧ zs.length < 64 ∧ ∀ p, H1 p = none → Q (.ref p) (upd H1 p (.lst ((sortZ (metT zs)).map V.str)))
section
variable {X : Cx} {a : Expr} {ta : TE} {p p2 q pos : Pos}
theorem pe_sortSet (hc : X.calm = true) (hg : Gl X "sorted") (hm : X.mg "sorted" = none) (hg2 : Gl X "set") (hm2 : X.mg "set" = none) (ha : PE X a ta)
    (na : starEach [a] X.env = (false, eval a X.env) :: starEach [] X.env := by rfl) : PE X (.Call (.Name "sorted" p) [.Call (.Name "set" p2) [a] [] q] [] pos) (tSortSet X.K ta) := ⟨fun pins s σ H Q I h => by
  refine Call_ (ld_blt I hg hm boot_sorted (PyProof.Rows.callWith_builtin1 (PyProof.Rows.args_cons ?_ rfl) rfl rfl))
  refine Call_ (ld_blt I hg2 hm2 boot_set (PyProof.Rows.callWith_type1 (PyProof.Rows.args_cons (thn (ha.run pins s σ H _ I h) fun v s1 ⟨x, H1, I1, r1, q1⟩ => PyProof.Rows.args_nil ?_) na) na rfl))
  obtain ⟨l, zs, rfl, hq, hn, q1⟩ := q1
  cases r1
  obtain ⟨its, r, pl, _⟩ := I1.list hq
  have b0 : zs.length + 1 < scanBound := by unfold scanBound; omega
  have b1 : (metT zs).length ≤ 0 + zs.length := metT_len zs []
  refine call_setTx (I1.ok.hd hc) pl.isList (by simpa using L2.strsAre_of r) b0 fun h' tk left keep => PyProof.Rows.args_nil ?_
  have I2 : Inv X pins σ H1 { s1 with heap := h', toks := tk } := I1.kept keep
  refine sorted_tx left (I2.ok.hd hc) (by omega) fun s' d out c ys k g o hp hg hi pm so => ?_
  have ey := sortZ_of pm so
  subst ey
  have hlen : ((sortZ (metT zs)).map V.str).length ≤ sizeLine := by rw [List.length_map, sortZ_len, sizeLine_eq]; omega
  have hn : H1 d = none := I2.hok.fresh hp
  generalize hs2 : ({ s1 with heap := h', toks := tk } : Shared) = s2 at I2 k g o hp
  have J : Inv X pins σ (upd H1 d (.lst ((sortZ (metT zs)).map V.str))) { s2 with heap := s'.heap, gens := s'.gens, drawn := s'.drawn, toks := s'.toks } :=
    I2.call (ch := []) (Un.laid k hp hn) (I2.hok.laid k hp ⟨hlen, out.toList, c, vals_of_strs hi, hg⟩) (by rw [g]; exact I2.bare) (fun _ z => nomatch z)
  have e : s' = { s2 with heap := s'.heap, gens := s'.gens, drawn := s'.drawn, toks := s'.toks } := by
    cases s'
    cases s2
    cases o
    rfl
  rw [e]
  exact ⟨.ref d, _, J, rfl, q1 d hn⟩⟩
end
def gSortSet (x : D) : Cm CO := fun S => match (lstD S x).bind strsD with
  | some zs => if zs.length < 64 then .ok (.lst ((sortZ (metT zs)).map .str)) S else .stuck
  | none => .stuck
section
variable {T : Str → Addr} {K : PySem.W.Frag} {ρ : Nat → Option Addr} {H : Hp}
theorem rep_strs : ∀ l : List Str, RepL T K ρ H (l.map .str) (l.map V.str)
  | [] => rfl
  | z :: l => ⟨V.str z, l.map V.str, rfl, rfl, rep_strs l⟩
end
section
variable {T : Str → Addr} {X : Cx} {W : WX} {a : Expr} {Fa : FE} {p p2 q pos : Pos}
theorem of_sortSet (hc : X.calm = true) (hg : Gl X "sorted") (hm : X.mg "sorted" = none) (hg2 : Gl X "set") (hm2 : X.mg "set" = none) (ha : PF T X W a Fa)
    (na : starEach [a] X.env = (false, eval a X.env) :: starEach [] X.env := by rfl) : OF T X W (.Call (.Name "sorted" p) [.Call (.Name "set" p2) [a] [] q] [] pos) (f1O gSortSet Fa) :=
  pe_imp (pe_sortSet hc hg hm hg2 hm2 ha na) fun σ H Q q => by
    obtain ⟨ρ, S, Z, env, w, er, g⟩ := q
    refine lift_imp (lift_bndO w er g) fun v H1 ⟨ρ1, S1, d1, x1, w1, e1, r1, g1⟩ => ?_
    unfold gSortSet at g1
    cases e : lstD S1 d1 with
    | none =>
      rw [e] at g1
      exact g1.elim
    | some ds =>
      rw [e] at g1
      cases e2 : strsD ds with
      | none =>
        simp only [Option.bind_some, e2] at g1
        exact g1.elim
      | some zs =>
        simp only [Option.bind_some, e2] at g1
        obtain ⟨l, vs, rfl, q1, q2⟩ := lstD_ok w1 r1 e
        rw [strsD_ok q2 e2] at q1
        split at g1
        · rename_i hn
          exact ⟨l, zs, rfl, q1, hn, fun p hp => g1 p _ ρ1 (new_neu w1 hp ⟨_, rfl, rep_strs _⟩)⟩
        · exact g1.elim
end
end HT
set_option maxRecDepth 100000
set_option maxHeartbeats 1600000
namespace HT
open PySem PySem.Spec L2
open PyProof.Rows hiding St
/-! ### str(a text) -/
def gStr (x : D) : Cm D := fun S => match x with
  | .str z => .ok (.str z) S
  | _ => .stuck
theorem ok_gStr {T : Str → Addr} {X : Cx} : OpN T X (fun xs H Q => ∃ a, xs = [V.str a] ∧ Q (.str a) H) (a1 gStr) := fun W σ ρ S Z H xs vs Q w r g => by
  match xs, r, g with
  | [.str z], r, g =>
    obtain ⟨v, us, rfl, r1, r2⟩ := r
    obtain rfl : us = [] := r2
    have e : v = .str z := r1
    subst e
    exact ⟨z, rfl, g _ H ρ .refl w rfl⟩
  | [], _, g => exact g.elim
  | .non :: [], _, g => exact g.elim
  | .bl _ :: [], _, g => exact g.elim
  | .int _ :: [], _, g => exact g.elim
  | .lst _ :: [], _, g => exact g.elim
  | .tup _ :: [], _, g => exact g.elim
  | .klst _ :: [], _, g => exact g.elim
  | .obj _ _ :: [], _, g => exact g.elim
  | .exn _ _ :: [], _, g => exact g.elim
  | .dK _ :: [], _, g => exact g.elim
  | .dT _ :: [], _, g => exact g.elim
  | .cell _ :: [], _, g => exact g.elim
  | .glob _ :: [], _, g => exact g.elim
  | .ty _ :: [], _, g => exact g.elim
  | _ :: _ :: _, _, g => exact g.elim
end HT
set_option maxRecDepth 100000
set_option maxHeartbeats 1600000
namespace HT
open PySem PySem.Spec L2
open PyProof.Rows hiding St
/-! ### *xs among arguments and in displays -/
def aStar (Fe : FE) (Fr : Env → Cm (List D)) : Env → Cm (List D) := fun env S => (Fe env S).bnd fun x S1 => match asQ2 S1 x with
  | some ds => (Fr env S1).bnd fun es S2 => .ok (ds ++ es) S2
  | none => .stuck
section
variable {T : Str → Addr} {X : Cx} {W : WX} {e : Expr} {es : List Expr} {Fe : FE} {Fr : Env → Cm (List D)} {p : Pos}
theorem af_star (he : PF T X W e Fe) (hr : AF T X W es Fr) : AF T X W (.Starred e p :: es) (aStar Fe Fr) := pa_imp (StX.pa_star he hr) fun σ H Q q => by
  obtain ⟨ρ, S, Z, env, w, er, g⟩ := q
  refine lift_imp (lift_bnd w er g) fun v H1 ⟨ρ1, S1, d1, x1, w1, e1, r1, g1⟩ => ?_
  dsimp only at g1
  cases hd : asQ2 S1 d1 with
  | none => rw [hd] at g1; exact g1.elim
  | some ds =>
    rw [hd] at g1
    obtain ⟨a, vs, rfl, h1, h2⟩ := asQ2_ok w1 r1 hd
    refine ⟨a, vs, rfl, h1.symm, ?_⟩
    refine lift_imp (lift_bnd (rel := rL T X.K) (rel2 := rL T X.K) (Q2 := Q) w1 e1 g1) fun us H2 ⟨ρ2, S2, es', x2, w2, e2, r2, g2⟩ => ?_
    exact g2 _ H2 ρ2 .refl w2 ((x2.repL h2).app r2)
end
/-! ### sum of whole numbers -/
def intsD : List D → Option (List Int)
  | [] => some []
  | .int i :: r => (intsD r).map (i :: ·)
  | _ => none
def gSum (x : D) : Cm D := fun S => match (lstD S x).bind intsD with
  | some ns => .ok (.int ns.sum) S
  | none => .stuck
section
variable {T : Str → Addr} {X : Cx}
theorem intsD_ok {K : PySem.W.Frag} {ρ : Nat → Option Addr} {H : Hp} : ∀ {ds : List D} {ns : List Int} {vs : List V}, RepL T K ρ H ds vs → intsD ds = some ns → vs = ns.map V.int
  | [], ns, vs, r, h => by
    cases h
    exact r
  | d :: ds, ns, vs, r, h => by
    obtain ⟨v, us, rfl, r1, r2⟩ := r
    cases d with
    | int z =>
      unfold intsD at h
      cases e : intsD ds with
      | none =>
        rw [e] at h
        cases h
      | some ys =>
        rw [e] at h
        cases h
        rw [intsD_ok r2 e, show v = V.int z from r1]
        rfl
    | _ => cases h
theorem ok_gSum : OpN T X (rSum X.K) (a1 gSum) := opN1 fun W σ ρ S Z H x v Q w r g => by
  unfold gSum at g
  cases e : lstD S x with
  | none => rw [e] at g; exact g.elim
  | some ds =>
    rw [e] at g
    cases e2 : intsD ds with
    | none => simp only [Option.bind_some, e2] at g; exact g.elim
    | some ns =>
      simp only [Option.bind_some, e2] at g
      obtain ⟨l, vs, rfl, q1, q2⟩ := lstD_ok w r e
      rw [intsD_ok q2 e2] at q1
      exact ⟨l, ns, rfl, q1, g _ H ρ .refl w rfl⟩
end
end HT
set_option maxRecDepth 100000
set_option maxHeartbeats 1600000
namespace HT
open PySem PySem.Spec L2
open PyProof.Rows hiding St
/-! ### sorting as a function that computes -/
section
variable {α : Type} (le : α → α → Bool)
def insB (a : α) : List α → List α
  | [] => [a]
  | b :: l => if le a b = true then a :: b :: l else b :: insB a l
def sortB : List α → List α
  | [] => []
  | a :: l => insB le a (sortB l)
theorem insB_at (a : α) : ∀ (l1 l2 : List α), (∀ b ∈ l1, le a b = false) → (∀ b ∈ l2, le a b = true) → insB le a (l1 ++ l2) = l1 ++ a :: l2
  | [], [], _, _ => rfl
  | [], b :: l, _, h => by
    show (if le a b = true then a :: b :: l else b :: insB le a l) = _
    rw [if_pos (h b List.mem_cons_self)]
    rfl
  | b :: l1, l2, h, h2 => by
    show (if le a b = true then a :: b :: (l1 ++ l2) else b :: insB le a (l1 ++ l2)) = _
    rw [if_neg (by rw [h b List.mem_cons_self]; exact Bool.false_ne_true), insB_at a l1 l2 (fun x hx => h x (List.mem_cons_of_mem _ hx)) h2]
    rfl
theorem sortB_eq (tr : ∀ a b c, le a b = true → le b c = true → le a c = true) (to : ∀ a b, (le a b || le b a) = true) : ∀ l : List α, l.mergeSort le = sortB le l
  | [] => by simp [sortB]
  | a :: l => by
    obtain ⟨l1, l2, e1, e2, h⟩ := List.mergeSort_cons tr to a l
    show _ = insB le a (sortB le l)
    rw [← sortB_eq tr to l, e1, e2]
    refine (insB_at le a l1 l2 (fun b hb => by simpa using h b hb) fun b hb => ?_).symm
    have pw := List.pairwise_mergeSort tr to (a :: l)
    rw [e1] at pw
    have q := (List.pairwise_append.mp pw).2.1
    exact (List.pairwise_cons.mp q).1 b hb
end
/-! ### sorted(data) -/
abbrev leP : D × PyData → D × PyData → Bool := PySem.W.dataLe false fun b => b.2
def alikeB (ps : List PyData) : Bool := ps.all fun p => ps.all fun q => PySem.W.alike p q
def isT1 : PyData → Bool
  | .tuple (_ :: _) => true
  | _ => false
def isNT : PyData → Bool
  | .tuple _ => false
  | .none => false
  | _ => true
def sortableB (ps : List PyData) : Bool := ps.all isT1 || ps.all isNT
theorem alikeB_ok {ps : List PyData} (h : alikeB ps = true) : PySem.W.AllAlike ps := fun d hd e he => List.all_eq_true.mp (List.all_eq_true.mp h d hd) e he
theorem sortableB_ok {ps : List PyData} (h : sortableB ps = true) : PySem.W.Sortable ps := by
  rcases Bool.or_eq_true_iff.mp h with h | h
  · refine .inl fun d hd => ?_
    have q := List.all_eq_true.mp h d hd
    unfold isT1 at q
    split at q
    · exact ⟨_, _, rfl⟩
    · cases q
  · refine .inr fun d hd => ?_
    have q := List.all_eq_true.mp h d hd
    constructor
    · rintro rfl; cases q
    · rintro xs rfl; cases q
theorem leP_total : ∀ a b : D × PyData, (leP a b || leP b a) = true := fun a b => Bool.or_eq_true_iff.mpr ((PySem.W.sortLe_total _ _ _).total a b)
theorem leP_trans : ∀ a b c : D × PyData, leP a b = true → leP b c = true → leP a c = true := (PySem.W.sortLe_total _ _ _).trans
def sortD (l : List (D × PyData)) : List D := (sortB leP l).map (·.1)
def gSortD (x : D) : Cm CO := fun S => match lstD S x with
  | some ds => (match deepL (deepC S 4) ds with
    | some ps => if alikeB ps = true ∧ sortableB ps = true ∧ ds.length ≤ 16000 ∧ (ps.all fun p => decide (p.depth ≤ 60)) = true then .ok (.lst (sortD (ds.zip ps))) S else .stuck
    | none => .stuck)
  | none => .stuck
/-- sorted(xs), xs data -/
def rSortedDt (K : PySem.W.Frag) : List V → Hp → VK → Prop := fun xs H Q => ∃ (a : Addr) (bs : List ((V × D) × PyData)), xs = [.ref a] ∧ SqL K H a (bs.map (·.1.1)) ∧ (∀ b ∈ bs, Dp K H b.1.1 b.2) ∧ (PySem.W.AllAlike (bs.map (·.2)) ∧ PySem.W.Sortable (bs.map (·.2))) ∧ bs.length ≤ 16000 ∧ (∀ b ∈ bs, b.2.depth ≤ 60) ∧
  ∀ p, H p = none → Q (.ref p) (upd H p (.lst ((bs.mergeSort (PySem.W.dataLe false (·.2))).map (·.1.1))))
theorem each_vals {bs : List ((V × D) × PyData)} : ∀ {its : List Value}, Vals (bs.map (·.1.1)) its → PySem.W.EachIs (fun u b => RelV b.1.1 u) its bs := by
  induction bs with
  | nil =>
    intro its h
    cases h
    exact .nil
  | cons b bs ih =>
    intro its h
    cases h with
    | cons h1 h2 => exact .cons h1 (ih h2)
theorem vals_each : ∀ {bs : List ((V × D) × PyData)} {its : List Value}, PySem.W.EachIs (fun u b => RelV b.1.1 u) its bs → Vals (bs.map (·.1.1)) its
  | _, _, .nil => .nil
  | _, _, .cons h t => .cons h (vals_each t)
theorem each_reads {X : Cx} {pins : List (Addr × Obj)} {σ : St} {H : Hp} {s : Shared} (I : Inv X pins σ H s) : ∀ {bs : List ((V × D) × PyData)} {its : List Value}, (∀ b ∈ bs, Dp X.K H b.1.1 b.2) → PySem.W.EachIs (fun u b => RelV b.1.1 u) its bs → PySem.W.EachIs (fun v (b : (V × D) × PyData) => ∃ as, Reads s.heap v b.2 as) its bs
  | _, _, _, .nil => .nil
  | _, _, h, .cons q t => .cons (Dp.reads I _ _ _ (h _ List.mem_cons_self) q) (each_reads I (fun b hb => h b (List.mem_cons_of_mem _ hb)) t)
theorem cr_sortedDt {X : Cx} (hu : X.A.units + 65 < cLine) : CallR X (.builtin "sorted") (rSortedDt X.K) := by
  intro pins s σ H vs us Q I r h
  obtain ⟨a, bs, rfl, hs, hd, ⟨ha, hk⟩, hn, dp, q⟩ := h
  obtain ⟨its, rv, hl, _⟩ := I.list hs
  rw [Vals.ref1 r]
  have ev := each_vals rv
  refine PySem.W.sorted_data (enc := fun b => b.2) hl.isList ev (each_reads I hd ev) ha hk (by rw [sizeLine_eq]; omega) (fun b hb => by have := dp b hb; omega) fun out h1 h2 => ?_
  obtain ⟨ep, he'⟩ := PyProof.Rows.sortedAll_at s.heap its (List.toArray out)
  have hv := vals_each h2
  have hlen : ((bs.mergeSort (PySem.W.dataLe false (·.2))).map (·.1.1)).length ≤ sizeLine := by rw [List.length_map, List.length_mergeSort, sizeLine_eq]; omega
  exact ⟨.ref _, upd H (s.heap.objs.size + 1) (.lst ((bs.mergeSort (PySem.W.dataLe false (·.2))).map (·.1.1))), I.laid (t' := s.toks) (fun _ _ => PyProof.Rows.sortedAll_old) (Nat.le_succ _) ⟨hlen, out, ep, hv, he'⟩, rfl, q _ (I.hok.fresh (Nat.le_succ _))⟩
section
variable {T : Str → Addr} {K : PySem.W.Frag} {ρ : Nat → Option Addr} {S : Sto} {Z : Hid} {H : Hp}
/-- the triples behind a list -/
theorem three_of (w : Wd T K ρ S Z H) : ∀ {ds : List D} {vs : List V} {ps : List PyData}, RepL T K ρ (Fz ρ Z H) ds vs → deepL (deepC S 4) ds = some ps →
    ∃ bs : List ((V × D) × PyData), bs.map (·.1.1) = vs ∧ bs.map (fun b => (b.1.2, b.2)) = ds.zip ps ∧ bs.map (·.2) = ps ∧ (∀ b ∈ bs, Dp K H b.1.1 b.2) ∧ ∀ b ∈ bs, Rep T K ρ (Fz ρ Z H) b.1.2 b.1.1
  | [], vs, ps, r, h => by
    cases h
    have r' : vs = [] := r
    subst r'
    exact ⟨[], rfl, rfl, rfl, (fun b hb => (nomatch hb)), (fun b hb => (nomatch hb))⟩
  | d :: ds, vs, ps, r, h => by
    obtain ⟨v, us, rfl, r1, r2⟩ := r
    have h' : (match deep0 (deepC S 4) d, deepL (deepC S 4) ds with | some a, some b => some (a :: b) | _, _ => none) = some ps := h
    cases e1 : deep0 (deepC S 4) d with
    | none => rw [e1] at h'; cases h'
    | some p =>
      cases e2 : deepL (deepC S 4) ds with
      | none => rw [e1, e2] at h'; cases h'
      | some qs =>
        rw [e1, e2] at h'
        cases h'
        obtain ⟨bs, b1, b2, b3, b4, b5⟩ := three_of w r2 e2
        refine ⟨((v, d), p) :: bs, by rw [List.map_cons, b1], by rw [List.map_cons, b2]; rfl, by rw [List.map_cons, b3], fun b hb => ?_, fun b hb => ?_⟩
        · rcases List.mem_cons.mp hb with rfl | hb
          · exact deep_dp w e1 r1
          · exact b4 b hb
        · rcases List.mem_cons.mp hb with rfl | hb
          · exact r1
          · exact b5 b hb
theorem rep_bs : ∀ {bs : List ((V × D) × PyData)}, (∀ b ∈ bs, Rep T K ρ (Fz ρ Z H) b.1.2 b.1.1) → RepL T K ρ (Fz ρ Z H) (bs.map (·.1.2)) (bs.map (·.1.1))
  | [], _ => rfl
  | b :: bs, h => ⟨b.1.1, bs.map (·.1.1), rfl, h b List.mem_cons_self, rep_bs fun x hx => h x (List.mem_cons_of_mem _ hx)⟩
end
theorem sort_map {α β : Type} (f : α → β) (le : β → β → Bool) (l : List α) : sortB le (l.map f) = (sortB (fun a b => le (f a) (f b)) l).map f := by
  have ins : ∀ (a : α) (l : List α), insB le (f a) (l.map f) = (insB (fun a b => le (f a) (f b)) a l).map f := fun a l => by
    induction l with
    | nil => rfl
    | cons b l ih =>
      show (if le (f a) (f b) = true then f a :: f b :: l.map f else f b :: insB le (f a) (l.map f)) = ((if le (f a) (f b) = true then a :: b :: l else b :: insB (fun a b => le (f a) (f b)) a l)).map f
      split
      · rfl
      · rw [ih]; rfl
  induction l with
  | nil => rfl
  | cons a l ih =>
    show insB le (f a) (sortB le (l.map f)) = (insB _ a (sortB _ l)).map f
    rw [ih, ins]
section
variable {T : Str → Addr} {X : Cx} {W : WX} {e : Expr} {Fa : Env → Cm (List D)} {p pos : Pos}
theorem of_sorted (hu : X.A.units + 65 < cLine) (hg : Gl X "sorted") (hm : X.mg "sorted" = none) (ha : AF T X W [e] Fa) (he : starEach [e] X.env = (false, eval e X.env) :: starEach [] X.env := by rfl) (hpl : (backTo pos (starEach [] X.env)).any (·.1) = false := by rfl) :
    OF T X W (.Call (.Name "sorted" p) [e] [] pos) (oOne gSortD Fa) := pe_imp (pe_callB (cr_sortedDt hu) hg hm boot_sorted ha (by decide) (by decide) he hpl) fun σ H Q q => by
  obtain ⟨ρ, S, Z, env, w, er, g⟩ := q
  refine lift_imp (lift_bndO w er g) fun vs H1 ⟨ρ1, S1, d1, x1, w1, e1, r1, g1⟩ => ?_
  match d1, r1, g1 with
  | [x], r1, g1 =>
    obtain ⟨v, us, rfl, r2, r3⟩ := r1
    have r3' : us = [] := r3
    subst r3'
    have g2 : GoodO T X.K W σ Q ρ1 Z H1 (gSortD x S1) := g1
    clear g1
    unfold gSortD at g2
    cases e : lstD S1 x with
    | none => rw [e] at g2; exact g2.elim
    | some ds =>
      rw [e] at g2
      cases e2 : deepL (deepC S1 4) ds with
      | none => simp only [e2] at g2; exact g2.elim
      | some ps =>
        simp only [e2] at g2
        split at g2
        · rename_i hh
          obtain ⟨h1, h2, h3, h4⟩ := hh
          obtain ⟨l, ws, rfl, q1, q2⟩ := lstD_ok w1 r2 e
          obtain ⟨bs, b1, b2, b3, b4, b5⟩ := three_of w1 q2 e2
          have bl : bs.length = ds.length := by
            have := congrArg List.length b1
            rw [List.length_map] at this
            rw [this, q2.len]
          refine ⟨l, bs, rfl, by rw [b1]; exact q1, b4, ⟨by rw [b3]; exact alikeB_ok h1, by rw [b3]; exact sortableB_ok h2⟩, by rw [bl]; exact h3, fun b hb => of_decide_eq_true (List.all_eq_true.mp h4 b.2 (by rw [← b3]; exact List.mem_map_of_mem hb)), fun p hp => ?_⟩
          have es : sortD (ds.zip ps) = (bs.mergeSort (PySem.W.dataLe false (·.2))).map (·.1.2) := by
            unfold sortD
            rw [← b2, sort_map, List.map_map, sortB_eq _ (fun a b c => leP_trans (a.1.2, a.2) (b.1.2, b.2) (c.1.2, c.2)) (fun a b => leP_total (a.1.2, a.2) (b.1.2, b.2))]
            rfl
          refine g2 p _ ρ1 (new_neu w1 hp ⟨_, rfl, ?_⟩)
          rw [es]
          exact rep_bs fun b hb => b5 b ((List.mergeSort_perm _ _).mem_iff.mp hb)
        · exact g2.elim
  | [], _, g1 => exact g1.elim
  | _ :: _ :: _, _, g1 => exact g1.elim
end
end HT
set_option maxRecDepth 100000
set_option maxHeartbeats 3200000
namespace HT
open PySem PySem.Spec L2
open PyProof.Rows hiding St
/-! ### comprehensions with two clauses -/
def noOwn (env : Env) : Bool := env.all fun s => match s with
  | .own _ => false
  | .slf _ => false
  | _ => true
def joinC (r : Option (List D × Sto)) (k : Sto → Option (List D × Sto)) : Option (List D × Sto) := match r with
  | none => none
  | some (ys, S) => match k S with
    | none => none
    | some (zs, S2) => some (ys ++ zs, S2)
def comp2L (b : Bd) (src : Src) (Ft : Env → Cm Bool) (G1 : Env → Cm (List D × Src)) (vs1 : List Nat) (b1 : Bd) (Ft1 : Env → Cm Bool) (Fe : FE) (env0 : Env) : List D → Sto → Option (List D × Sto)
  | [], S => if chk src S = true then some ([], S) else none
  | d :: ds, S => if chk src S = true then (match bindE b d env0 with
    | none => none
    | some e1 => if noOwn e1 = true then (match nox (Ft e1 S) with
      | none => none
      | some (false, S1) => comp2L b src Ft G1 vs1 b1 Ft1 Fe env0 ds S1
      | some (true, S1) => (match nox (G1 e1 S1) with
        | none => none
        | some (p, S2) => if p.2.isHid = true then none else joinC (compL b1 p.2 Ft1 Fe (wipeE e1 vs1) p.1 S2) (comp2L b src Ft G1 vs1 b1 Ft1 Fe env0 ds))) else none) else none
def oLc2 (vs : List Nat) (b : Bd) (G : Env → Cm (List D × Src)) (Ft : Env → Cm Bool) (vs1 : List Nat) (b1 : Bd) (G1 : Env → Cm (List D × Src)) (Ft1 : Env → Cm Bool) (Fe : FE) : Env → Cm CO := fun env S => (G env S).bnd fun p S' => oFin [] (comp2L b p.2 Ft G1 vs1 b1 Ft1 Fe (wipeE env vs) p.1 S')
section
variable {T : Str → Addr} {K : PySem.W.Frag} {ρ ρ1 ρ2 : Nat → Option Addr} {S S1 S2 : Sto} {Z Z' : Hid} {H H1 H2 : Hp} {σ : St} {env : Env} {p : Addr}
theorem ER.plain (e : ER T K ρ Z H σ env) (h : noOwn env = true) (hr : ∀ k a, ρ k = some a → ρ1 k = some a) (hs : Sub (Fz ρ Z H) (Fz ρ1 Z' H1)) : ER T K ρ1 Z' H1 σ env := by
  refine ⟨fun i d hd => ?_, fun i c hc => ?_, fun i c hc => ?_, e.len⟩
  · obtain ⟨v, h1, h2⟩ := e.val i d hd
    exact ⟨v, h1, Rep.mono hr hs _ _ h2⟩
  · have := List.all_eq_true.mp h _ (List.mem_of_getElem? hc)
    cases this
  · have := List.all_eq_true.mp h _ (List.mem_of_getElem? hc)
    cases this
end
section
variable {T : Str → Addr} {X : Cx} {W : WX} {b b1 : Bd} {G1 : Env → Cm (List D × Src)} {Ft Ft1 : Env → Cm Bool} {Fe : FE} {vs1 : List Nat}
/-- what is left, the list at p so far -/
def Left (T : Str → Addr) (K : PySem.W.Frag) (W : WX) (σ : St) (Q : VK) (ρ : Nat → Option Addr) (Z : Hid) (H : Hp) (p : Addr) (k : Sto → Option (List D × Sto)) (H' : Hp) : Prop :=
  ∃ ρ2 S2 acc, Neu T K ρ Z H ρ2 S2 H' p (.lst acc) ∧ GoodO T K W σ Q ρ Z H (oFin acc (k S2))
theorem noOwn_wipe : ∀ {vs : List Nat} {env : Env}, noOwn env = true → noOwn (wipeE env vs) = true
  | [], env, h => h
  | v :: vs, env, h => by
    refine List.all_eq_true.mpr fun s hs => ?_
    obtain ⟨i, hi⟩ := List.getElem?_of_mem hs
    rcases wipeE_get hi with q | ⟨q, _⟩
    · rw [q]
    · exact List.all_eq_true.mp h s (List.mem_of_getElem? q)
/-- the inner loop -/
theorem inner_run {J1 : It} {items1 : List D} {src1 : Src} {ρ ρ4 : Nat → Option Addr} {S4 : Sto} {Z : Hid} {H H4 : Hp} {σ σ2 : St} {e1 : Env} {Q : VK} {p : Addr} {acc0 : List D} {k : Sto → Option (List D × Sto)} {Nx : Hp → Prop}
    (n4 : Neu T X.K ρ Z H ρ4 S4 H4 p (.lst acc0)) (er : ER T X.K ρ4 (plusZ Z p) H4 σ2 e1) (no : noOwn e1 = true) (it : ItOk T X.K ρ4 (plusZ Z p) H4 J1 items1 src1) (nh : src1.isHid = false) (hv1 : ∀ i ∈ b1.slots, i ∈ vs1)
    (g : GoodO T X.K W σ Q ρ Z H (oFin acc0 (joinC (compL b1 src1 Ft1 Fe (wipeE e1 vs1) items1 S4) k))) (nx : ∀ H', Left T X.K W σ Q ρ Z H p k H' → Nx H') :
    ∃ V : Nat → Nat → Hp → Prop, (∃ m, V 0 m H4) ∧ ∀ j m H', V j m H' → (J1.stop j H' ∧ Nx H') ∨ (J1.go j H' ∧ ∃ Nx1 : Hp → Prop, (∀ H', Nx1 H' → ∃ m', m' < m ∧ V (j + 1) m' H') ∧ ∀ x H'', J1.yld j H' x H'' →
      gBd X.K b1 x (L2.wipe σ2 vs1) H'' fun σ3 H5 => L2.wipe σ3 vs1 = L2.wipe σ2 vs1 ∧ lift T X.K rB WF Ft1 σ3 H5 fun c H6 =>
        if c = true then lift T X.K (rD T X.K) WF Fe σ3 H6 fun y H7 => ∃ acc, H7 p = some (.lst acc) ∧ acc.length < sizeLine ∧ Nx1 (upd H7 p (.lst (acc ++ [y]))) else Nx1 H6) := by
  refine ⟨fun j m H2 => m = items1.length - j ∧ j ≤ items1.length ∧ ((∀ k a, ρ4 k = some a → True) ∧ ∃ ρ2 S2 acc, (∀ k a, ρ4 k = some a → ρ2 k = some a) ∧ Sub (Fz ρ4 (plusZ Z p) H4) (Fz ρ2 (plusZ Z p) H2) ∧ Neu T X.K ρ Z H ρ2 S2 H2 p (.lst acc) ∧ GoodO T X.K W σ Q ρ Z H (oFin acc (joinC (compL b1 src1 Ft1 Fe (wipeE e1 vs1) (items1.drop j) S2) k))),
    ⟨items1.length, by simp, Nat.zero_le _, fun _ _ _ => trivial, ρ4, S4, acc0, fun _ _ h => h, fun _ _ h => h, n4, g⟩, ?_⟩
  rintro j m H2 ⟨rfl, hj, _, ρ2, S2, acc, mr, ms, n, g2⟩
  have step := it ρ2 S2 (plusZ Z p) H2 mr ms (fun q => by rw [nh] at q; cases q) n.w
  by_cases hlt : j < items1.length
  · rw [drop_cons hlt] at g2
    unfold compL at g2
    split at g2
    · rename_i hch
      obtain ⟨go, yl⟩ := (step hch j).1 _ (List.getElem?_eq_getElem hlt)
      cases hb2 : bindE b1 items1[j] (wipeE e1 vs1) with
      | none => rw [hb2] at g2; exact g2.elim
      | some env1 =>
        rw [hb2] at g2
        dsimp only at g2
        refine .inr ⟨go, fun H3 => ∃ ρ2 S2 acc, (∀ k a, ρ4 k = some a → ρ2 k = some a) ∧ Sub (Fz ρ4 (plusZ Z p) H4) (Fz ρ2 (plusZ Z p) H3) ∧ Neu T X.K ρ Z H ρ2 S2 H3 p (.lst acc) ∧ GoodO T X.K W σ Q ρ Z H (oFin acc (joinC (compL b1 src1 Ft1 Fe (wipeE e1 vs1) (items1.drop (j + 1)) S2) k)), fun H3 n3 => ⟨items1.length - (j + 1), by omega, rfl, hlt, fun _ _ _ => trivial, n3⟩, fun v H3 y => ?_⟩
        obtain ⟨x3, w3, r3⟩ := yl v H3 y
        have er2 : ER T X.K ρ2 (plusZ Z p) H2 σ2 e1 := er.plain no mr ms
        have er3 : ER T X.K ρ2 (plusZ Z p) H3 (L2.wipe σ2 vs1) (wipeE e1 vs1) := (er2.ext x3).wiped vs1
        refine bd_run r3 er3 hb2 fun σ3 a3 ag => ⟨by rw [ag.wipe hv1, wipe_wipe], ρ2, S2, plusZ Z p, env1, w3, a3, ?_⟩
        cases hF : Ft1 env1 S2 with
        | stuck => rw [hF] at g2; exact g2.elim
        | exc C fs S3 => rw [hF] at g2; exact g2.elim
        | ok c S3 =>
          rw [hF] at g2
          intro c' H5 ρ5 x5 w5 ec
          have ec' : c = c' := ec
          subst ec'
          have x35 := x3.trans x5
          have frz5 : Sub (Fz ρ4 (plusZ Z p) H4) (Fz ρ5 (plusZ Z p) H5) := fun a u q => x35.frz a u (ms a u q)
          cases c with
          | false =>
            refine iteF ⟨ρ5, S3, acc, fun k a e => x35.cells k a (mr k a e), frz5, ?_, g2⟩
            obtain ⟨o, h1, h2⟩ := n.obj
            have q : H5 p = H2 p := x35.hid p (.inr rfl)
            exact ⟨fun k a e => x35.cells k a (n.cells k a e), fun a u e => x35.frz a u (n.frz a u e), fun a z => (x35.hid a (.inl z)).trans (n.hid a z), w5, n.nz, ⟨o, q.trans h1, h2.mono x35.cells x35.frz⟩⟩
          | true =>
            refine iteT ⟨ρ5, S3, plusZ Z p, env1, w5, a3.ext x5, ?_⟩
            change GoodO _ _ _ _ _ _ _ _ (oFin acc (joinC (match nox (Fe env1 S3) with | none => none | some (y, S2) => match compL b1 src1 Ft1 Fe (wipeE e1 vs1) (items1.drop (j + 1)) S2 with | none => none | some (ys, S3) => some (y :: ys, S3)) k)) at g2
            cases hE : Fe env1 S3 with
            | stuck => rw [hE] at g2; exact g2.elim
            | exc C fs S6 => rw [hE] at g2; exact g2.elim
            | ok d S6 =>
              rw [hE] at g2
              intro u H6 ρ6 x6 w6 ru
              have x36 := x35.trans x6
              obtain ⟨o, h1, h2⟩ := n.obj
              obtain ⟨av, rfl, r2⟩ := h2
              have q : H6 p = some (.lst av) := (x36.hid p (.inr rfl)).trans h1
              have r6 : RepL T X.K ρ6 (Fz ρ6 (plusZ Z p) H6) acc av := RepL.mono x36.cells x36.frz _ _ r2
              change GoodO _ _ _ _ _ _ _ _ (oFin acc (joinC (match compL b1 src1 Ft1 Fe (wipeE e1 vs1) (items1.drop (j + 1)) S6 with | none => none | some (ys, S3) => some (d :: ys, S3)) k)) at g2
              cases hR : compL b1 src1 Ft1 Fe (wipeE e1 vs1) (items1.drop (j + 1)) S6 with
              | none => rw [hR] at g2; exact g2.elim
              | some pr =>
                obtain ⟨ys, S7⟩ := pr
                rw [hR] at g2
                change GoodO _ _ _ _ _ _ _ _ (oFin acc (match k S7 with | none => none | some (zs, S2) => some (d :: ys ++ zs, S2))) at g2
                cases hK : k S7 with
                | none => rw [hK] at g2; exact g2.elim
                | some pk =>
                  obtain ⟨zs, S8⟩ := pk
                  rw [hK] at g2
                  dsimp only at g2
                  rw [List.cons_append] at g2
                  have hlen : acc.length < sizeLine := by
                    unfold oFin at g2
                    dsimp only at g2
                    split at g2
                    · rename_i hl
                      rw [List.length_append, List.length_cons] at hl
                      omega
                    · exact g2.elim
                  rw [oFin_more] at g2
                  refine ⟨av, q, by rw [← r6.len]; exact hlen, ρ6, S6, acc ++ [d], fun k a e => x36.cells k a (mr k a e), ?_, n.put x36 w6 ⟨av ++ [u], rfl, r6.app (RepL.one ru)⟩, ?_⟩
                  · rw [fz_hid (show (plusZ Z p) p from Or.inr rfl)]
                    exact fun a u q => x36.frz a u (ms a u q)
                  · show GoodO _ _ _ _ _ _ _ _ (oFin (acc ++ [d]) (joinC (compL b1 src1 Ft1 Fe (wipeE e1 vs1) (items1.drop (j + 1)) S6) k))
                    rw [hR]
                    show GoodO _ _ _ _ _ _ _ _ (oFin (acc ++ [d]) (match k S7 with | none => none | some (zs, S2) => some (ys ++ zs, S2)))
                    rw [hK]
                    exact g2
    · exact g2.elim
  · have ej : j = items1.length := by omega
    subst ej
    rw [List.drop_length] at g2
    unfold compL at g2
    split at g2
    · rename_i hch
      refine .inl ⟨(step hch _).2 (Nat.le_refl _), nx _ ⟨ρ2, S2, acc, n, ?_⟩⟩
      change GoodO _ _ _ _ _ _ _ _ (oFin acc (match k S2 with | none => none | some (zs, S2) => some ([] ++ zs, S2))) at g2
      cases hK : k S2 with
      | none => rw [hK] at g2; exact g2.elim
      | some pk => rw [hK] at g2; exact g2
    · exact g2.elim
/-- the whole run -/
theorem comp2_run {J : It} {items : List D} {src : Src} {ρ : Nat → Option Addr} {S : Sto} {Z : Hid} {H : Hp} {σ : St} {env : Env} {Q : VK} {vs : List Nat} (w : Wd T X.K ρ S Z H) (er : ER T X.K ρ Z H σ env) (it : ItOk T X.K ρ Z H J items src)
    (hv : ∀ i ∈ b.slots, i ∈ vs) (hv1 : ∀ i ∈ b1.slots, i ∈ vs1) (g : GoodO T X.K W σ Q ρ Z H (oFin [] (comp2L b src Ft G1 vs1 b1 Ft1 Fe (wipeE env vs) items S))) (p : Addr) (hp : H p = none) :
    ∃ V : Nat → Nat → Hp → Prop, (∃ m, V 0 m (upd H p (.lst []))) ∧ ∀ i m H, V i m H → (J.stop i H ∧ Q (.ref p) H) ∨ (J.go i H ∧ ∃ Nx : Hp → Prop, (∀ H', Nx H' → ∃ m', m' < m ∧ V (i + 1) m' H') ∧ ∀ x H', J.yld i H x H' →
      gBd X.K b x (L2.wipe σ vs) H' fun σ2 H2 => L2.wipe σ2 vs = L2.wipe σ vs ∧ lift T X.K rB WF Ft σ2 H2 fun c H3 =>
        if c = true then liftI T X.K WF G1 σ2 H3 fun J1 H4 => ∃ W1 : Nat → Nat → Hp → Prop, (∃ m, W1 0 m H4) ∧ ∀ j k H, W1 j k H →
          (J1.stop j H ∧ Nx H) ∨ (J1.go j H ∧ ∃ Nx1 : Hp → Prop, (∀ H', Nx1 H' → ∃ k', k' < k ∧ W1 (j + 1) k' H') ∧ ∀ x H', J1.yld j H x H' → gBd X.K b1 x (L2.wipe σ2 vs1) H' fun σ3 H5 => L2.wipe σ3 vs1 = L2.wipe σ2 vs1 ∧ lift T X.K rB WF Ft1 σ3 H5 fun c H6 =>
            if c = true then lift T X.K (rD T X.K) WF Fe σ3 H6 fun y H7 => ∃ acc, H7 p = some (.lst acc) ∧ acc.length < sizeLine ∧ Nx1 (upd H7 p (.lst (acc ++ [y]))) else Nx1 H6)
        else Nx H3) := by
  refine ⟨fun i m H2 => m = items.length - i ∧ i ≤ items.length ∧ Left T X.K W σ Q ρ Z H p (comp2L b src Ft G1 vs1 b1 Ft1 Fe (wipeE env vs) (items.drop i)) H2,
    ⟨items.length, by simp, Nat.zero_le _, ρ, S, [], new_neu w hp ⟨[], rfl, rfl⟩, g⟩, ?_⟩
  rintro i m H2 ⟨rfl, hi, ρ2, S2, acc, n, g2⟩
  have step := it ρ2 S2 (plusZ Z p) H2 n.cells n.frz (fun _ => n.hid) n.w
  by_cases hlt : i < items.length
  · rw [drop_cons hlt] at g2
    unfold comp2L at g2
    split at g2
    · rename_i hch
      obtain ⟨go, yl⟩ := (step hch i).1 _ (List.getElem?_eq_getElem hlt)
      cases hb2 : bindE b items[i] (wipeE env vs) with
      | none => rw [hb2] at g2; exact g2.elim
      | some e1 =>
        rw [hb2] at g2
        dsimp only at g2
        split at g2
        · rename_i no
          refine .inr ⟨go, Left T X.K W σ Q ρ Z H p (comp2L b src Ft G1 vs1 b1 Ft1 Fe (wipeE env vs) (items.drop (i + 1))), fun H3 n3 => ⟨items.length - (i + 1), by omega, rfl, hlt, n3⟩, fun v H3 y => ?_⟩
          obtain ⟨x3, w3, r3⟩ := yl v H3 y
          have er3 : ER T X.K ρ2 (plusZ Z p) H3 (L2.wipe σ vs) (wipeE env vs) := ((er.neu n).ext x3).wiped vs
          refine bd_run r3 er3 hb2 fun σ3 a3 ag => ⟨by rw [ag.wipe hv, wipe_wipe], ρ2, S2, plusZ Z p, e1, w3, a3, ?_⟩
          cases hF : Ft e1 S2 with
          | stuck => rw [hF] at g2; exact g2.elim
          | exc C fs S3 => rw [hF] at g2; exact g2.elim
          | ok c S3 =>
            rw [hF] at g2
            intro c' H4 ρ4 x4 w4 ec
            have ec' : c = c' := ec
            subst ec'
            have x34 := x3.trans x4
            have n4 : Neu T X.K ρ Z H ρ4 S3 H4 p (.lst acc) := by
              obtain ⟨o, h1, h2⟩ := n.obj
              have q : H4 p = H2 p := x34.hid p (.inr rfl)
              exact ⟨fun k a e => x34.cells k a (n.cells k a e), fun a u e => x34.frz a u (n.frz a u e), fun a z => (x34.hid a (.inl z)).trans (n.hid a z), w4, n.nz, ⟨o, q.trans h1, h2.mono x34.cells x34.frz⟩⟩
            cases c with
            | false => exact iteF ⟨ρ4, S3, acc, n4, g2⟩
            | true =>
              refine iteT ⟨ρ4, S3, plusZ Z p, e1, w4, a3.ext x4, ?_⟩
              change GoodO _ _ _ _ _ _ _ _ (oFin acc (match nox (G1 e1 S3) with | none => none | some (p, S2) => if p.2.isHid = true then none else joinC (compL b1 p.2 Ft1 Fe (wipeE e1 vs1) p.1 S2) (comp2L b src Ft G1 vs1 b1 Ft1 Fe (wipeE env vs) (items.drop (i + 1))))) at g2
              cases hG : G1 e1 S3 with
              | stuck => rw [hG] at g2; exact g2.elim
              | exc C fs S5 => rw [hG] at g2; exact g2.elim
              | ok pr S5 =>
                rw [hG] at g2
                intro J1 H5 ρ5 x5 w5 it1
                obtain ⟨items1, src1⟩ := pr
                change GoodO _ _ _ _ _ _ _ _ (oFin acc (if src1.isHid = true then none else joinC (compL b1 src1 Ft1 Fe (wipeE e1 vs1) items1 S5) (comp2L b src Ft G1 vs1 b1 Ft1 Fe (wipeE env vs) (items.drop (i + 1))))) at g2
                split at g2
                · exact g2.elim
                · rename_i nh
                  have n5 : Neu T X.K ρ Z H ρ5 S5 H5 p (.lst acc) := by
                    obtain ⟨o, h1, h2⟩ := n4.obj
                    have q : H5 p = H4 p := x5.hid p (.inr rfl)
                    exact ⟨fun k a e => x5.cells k a (n4.cells k a e), fun a u e => x5.frz a u (n4.frz a u e), fun a z => (x5.hid a (.inl z)).trans (n4.hid a z), w5, n4.nz, ⟨o, q.trans h1, h2.mono x5.cells x5.frz⟩⟩
                  exact inner_run n5 ((a3.ext x4).ext x5) no it1 (by simpa using nh) hv1 g2 fun H' l => l
        · exact g2.elim
    · exact g2.elim
  · have ei : i = items.length := by omega
    subst ei
    rw [List.drop_length] at g2
    unfold comp2L at g2
    split at g2
    · rename_i hch
      refine .inl ⟨(step hch _).2 (Nat.le_refl _), ?_⟩
      unfold oFin at g2
      dsimp only at g2
      rw [List.append_nil] at g2
      split at g2
      · exact g2 p H2 ρ2 n
      · exact g2.elim
    · exact g2.elim
end
section
variable {T : Str → Addr} {X : Cx} {W : WX} {elt tg iter tg1 iter1 : Expr} {ifs ifs1 : List Expr} {scope : Scope} {own : List (Str × Nat)} {G G1 : Env → Cm (List D × Src)} {Ft Ft1 : Env → Cm Bool} {Fe : FE} {b b1 : Bd} {vs1 : List Nat} {pos spos py : Pos} {y : Str} {i : Nat} {σ : St} {H : Hp} {Q : VK}
theorem lc2_te (hv : ∀ i ∈ b.slots, i ∈ own.map (·.2)) (hv1 : ∀ i ∈ b1.slots, i ∈ vs1) (q : liftO T X.K W (oLc2 (own.map (·.2)) b G Ft vs1 b1 G1 Ft1 Fe) σ H Q) : tLc2 (liftI T X.K W G) (gBd X.K b) (lift T X.K rB WF Ft) (liftI T X.K WF G1) (gBd X.K b1) (lift T X.K rB WF Ft1) (lift T X.K (rD T X.K) WF Fe) (own.map (·.2)) vs1 σ H Q := by
  obtain ⟨ρ, S, Z, env, w, er, g⟩ := q
  refine ⟨ρ, S, Z, env, w, er, ?_⟩
  unfold oLc2 at g
  cases hG : G env S with
  | stuck => rw [hG] at g; exact g
  | exc C fs S' => rw [hG] at g; exact g
  | ok p S' =>
    rw [hG] at g
    obtain ⟨items, src⟩ := p
    exact fun J H' ρ' x w' it D hD => comp2_run w' (er.ext x) it hv hv1 (GoodO.later (show GoodO T X.K W σ Q ρ Z H (oFin [] (comp2L b src Ft G1 vs1 b1 Ft1 Fe (wipeE env (own.map (·.2))) items S')) from g) x) D hD
theorem of_lc2 (hc : X.calm = true) (hN : X.N.Nodup) (hi : IF T X W tg iter G) (ok : BlkOk X.N X.env.scope scope own) (hv : ∀ i ∈ b.slots, i ∈ own.map (·.2)) (hv1 : ∀ i ∈ b1.slots, i ∈ vs1) (hv2 : ∀ i ∈ vs1, i ∈ own.map (·.2))
    (hg : ∀ (s : Shared) (H : Hp) (C : Addr) (cl : List (Str × Addr)) (fp : List Addr), PG (X.blk s H scope (compEnvC scope cl C X.env) fp) tg (gBd X.K b))
    (ht : ∀ (s : Shared) (H : Hp) (C : Addr) (cl : List (Str × Addr)) (fp : List Addr), TsF T (X.blk s H scope (compEnvC scope cl C X.env) fp) WF ifs Ft)
    (hi1 : ∀ (s : Shared) (H : Hp) (C : Addr) (cl : List (Str × Addr)) (fp : List Addr), IF T (X.blk s H scope (compEnvC scope cl C X.env) fp) WF tg1 iter1 G1)
    (hg1 : ∀ (s : Shared) (H : Hp) (C : Addr) (cl : List (Str × Addr)) (fp : List Addr), PG (X.blk s H scope (compEnvC scope cl C X.env) fp) tg1 (gBd X.K b1))
    (ht1 : ∀ (s : Shared) (H : Hp) (C : Addr) (cl : List (Str × Addr)) (fp : List Addr), TsF T (X.blk s H scope (compEnvC scope cl C X.env) fp) WF ifs1 Ft1)
    (he : ∀ (s : Shared) (H : Hp) (C : Addr) (cl : List (Str × Addr)) (fp : List Addr), PF T (X.blk s H scope (compEnvC scope cl C X.env) fp) WF elt Fe)
    (hs : ∀ x, foldedSetIterable iter X.env x = pure x := by intro _; rfl) (hs1 : ∀ env x, foldedSetIterable iter1 env x = pure x := by intro _ _; rfl) :
    OF T X W (.ListComp elt [⟨tg, iter, ifs, 0⟩, ⟨tg1, iter1, ifs1, 0⟩] scope pos) (oLc2 (own.map (·.2)) b G Ft vs1 b1 G1 Ft1 Fe) := pe_imp (pe_lc2 (vs1 := vs1) hc hN hi ok hv2 hg ht hi1 hg1 ht1 he hs hs1) fun σ H Q q => lc2_te hv hv1 q
theorem sf_setLc2 (hc : X.calm = true) (hN : X.N.Nodup) (hy : X.N[i]? = some y) (hyl : X.env.scope.names.lookup y = some .local)
    (hsw : swapsWith (.ListComp elt [⟨tg, iter, ifs, 0⟩, ⟨tg1, iter1, ifs1, 0⟩] scope pos) (some (.Name y py)) spos.line X.env = pure true) (hi : IF T X W tg iter G) (ok : BlkOk X.N X.env.scope scope own) (hv : ∀ i ∈ b.slots, i ∈ own.map (·.2)) (hv1 : ∀ i ∈ b1.slots, i ∈ vs1) (hv2 : ∀ i ∈ vs1, i ∈ own.map (·.2))
    (hg : ∀ (s : Shared) (H : Hp) (C : Addr) (cl : List (Str × Addr)) (fp : List Addr), PG (X.blk s H scope (compEnvC scope cl C X.env) fp) tg (gBd X.K b))
    (ht : ∀ (s : Shared) (H : Hp) (C : Addr) (cl : List (Str × Addr)) (fp : List Addr), TsF T (X.blk s H scope (compEnvC scope cl C X.env) fp) WF ifs Ft)
    (hi1 : ∀ (s : Shared) (H : Hp) (C : Addr) (cl : List (Str × Addr)) (fp : List Addr), IF T (X.blk s H scope (compEnvC scope cl C X.env) fp) WF tg1 iter1 G1)
    (hg1 : ∀ (s : Shared) (H : Hp) (C : Addr) (cl : List (Str × Addr)) (fp : List Addr), PG (X.blk s H scope (compEnvC scope cl C X.env) fp) tg1 (gBd X.K b1))
    (ht1 : ∀ (s : Shared) (H : Hp) (C : Addr) (cl : List (Str × Addr)) (fp : List Addr), TsF T (X.blk s H scope (compEnvC scope cl C X.env) fp) WF ifs1 Ft1)
    (he : ∀ (s : Shared) (H : Hp) (C : Addr) (cl : List (Str × Addr)) (fp : List Addr), PF T (X.blk s H scope (compEnvC scope cl C X.env) fp) WF elt Fe)
    (hs : ∀ x, foldedSetIterable iter X.env x = pure x := by intro _; rfl) (hs1 : ∀ env x, foldedSetIterable iter1 env x = pure x := by intro _ _; rfl) :
    SF T X W (.Assign [.Name y py] (.ListComp elt [⟨tg, iter, ifs, 0⟩, ⟨tg1, iter1, ifs1, 0⟩] scope pos) spos) (sSet i (fFrz (oLc2 (own.map (·.2)) b G Ft vs1 b1 G1 Ft1 Fe))) :=
  ps_imp (ps_setLc2 (vs1 := vs1) hc hN hy hyl hsw hi ok hv2 hg ht hi1 hg1 ht1 he hs hs1) fun B σ H q => by
    obtain ⟨ρ, S, Z0, Z, env, a, g⟩ := q
    show tLc2 _ _ _ _ _ _ _ _ _ σ H (fun x H1 => gName i x σ H1 B.nx)
    refine lc2_te hv hv1 (frz_te (lift_imp (lift_sB a g) fun v H1 ⟨ρ1, S1, d1, x1, a1, r1, g1⟩ => ?_))
    exact (show GoodF T X.K W B ρ1 Z0 Z H1 S1 (.nx (env.set i (.val d1))) from g1) _ H1 ρ1 Z .refl (a1.set r1)
end
end HT
set_option maxRecDepth 100000
namespace HT
open PySem PySem.Spec L2
open PyProof.Rows hiding St
/-! is, is not of two bools -/
section
variable {T : Str → Addr} {X : Cx}
def gIsB (neg : Bool) (x y : D) : Cm D := match x, y with
  | .bl a, .bl b => pure (.bl (if neg then !decide (a = b) else decide (a = b)))
  | _, _ => stk
theorem ok_gIsB : Op2 T X (fun x y H Q => ∃ a b, x = .bl a ∧ y = .bl b ∧ Q (.bl (decide (a = b))) H) (gIsB false) := by
  intro W σ ρ S Z H x y v u Q w rx ry g
  unfold gIsB at g
  split at g
  · cases rx
    cases ry
    exact ⟨_, _, rfl, rfl, g.now w rfl⟩
  · exact g.elim
theorem ok_gIsNotB : Op2 T X (fun x y H Q => ∃ a b, x = .bl a ∧ y = .bl b ∧ Q (.bl (!decide (a = b))) H) (gIsB true) := by
  intro W σ ρ S Z H x y v u Q w rx ry g
  unfold gIsB at g
  split at g
  · cases rx
    cases ry
    exact ⟨_, _, rfl, rfl, g.now w rfl⟩
  · exact g.elim
end
end HT
set_option maxRecDepth 100000
set_option maxHeartbeats 1600000
namespace HT
open PySem PySem.Spec L2
open PyProof.Rows hiding St
/-! zip of two lists that nothing changes meanwhile -/
section
variable {T : Str → Addr} {K : PySem.W.Frag} {ρ : Nat → Option Addr} {S : Sto} {Z : Hid} {H : Hp}
def SqLOk (T : Str → Addr) (K : PySem.W.Frag) (ρ : Nat → Option Addr) (Z : Hid) (H : Hp) (a : Addr) (ds : List D) (src : Src) : Prop :=
  ∀ ρ2 S2 (Z2 : Hid) H2, (∀ k a, ρ k = some a → ρ2 k = some a) → Sub (Fz ρ Z H) (Fz ρ2 Z2 H2) → (src.isHid = true → ∀ a, Z a → H2 a = H a) → Wd T K ρ2 S2 Z2 H2 → chk src S2 = true →
    ∃ vs, SqL K H2 a vs ∧ RepL T K ρ2 (Fz ρ2 Z2 H2) ds vs
theorem it_zip2 {a1 a2 : Addr} {ds1 ds2 : List D} (o1 : SqLOk T K ρ Z H a1 ds1 .fz) (o2 : SqLOk T K ρ Z H a2 ds2 .fz) (l2 : ds2.length = ds1.length) : ItOk T K ρ Z H (Itz K a1 a2) (zipD2 ds1 ds2) .fz := by
  intro ρ2 S2 Z2 H2 hc hs hh w2 hch i
  obtain ⟨vs1, h1, r1⟩ := o1 ρ2 S2 Z2 H2 hc hs (fun z => by cases z) w2 rfl
  obtain ⟨vs2, h2, r2⟩ := o2 ρ2 S2 Z2 H2 hc hs (fun z => by cases z) w2 rfl
  refine ⟨fun d hd => ?_, fun hl => ⟨vs1, vs2, h1, h2, .inl ?_⟩⟩
  · obtain ⟨x1, x2, e1, e2, rfl⟩ := zipD2_get hd
    obtain ⟨v1, hv1, rv1⟩ := r1.get e1
    obtain ⟨v2, hv2, rv2⟩ := r2.get e2
    refine ⟨⟨vs1, vs2, v1, v2, h1, h2, hv1, hv2⟩, fun x H3 y => ?_⟩
    obtain ⟨p, u1, u2, rfl, hp, rfl, y1, y2⟩ := y
    have z1 := y1 vs1 h1
    rw [hv1] at z1
    cases z1
    have z2 := y2 vs2 h2
    rw [hv2] at z2
    cases z2
    obtain ⟨x3', w3, f⟩ := new_frz (o := .tup [v1, v2]) w2 hp
    exact ⟨x3', w3, ⟨p, _, rfl, SqT.of f, RepL.cons (x3'.rep rv1) (RepL.one (x3'.rep rv2))⟩⟩
  · rw [zipD2_len l2] at hl
    rw [← r1.len]
    omega
end
def kZip2 : List D → Cm (List D × Src)
  | [.lst ds1, .lst ds2] => fun S => if ds2.length = ds1.length then .ok (zipD2 ds1 ds2, .fz) S else .stuck
  | _ => stk
def iZip2F (F : Env → Cm (List D)) : Env → Cm (List D × Src) := fun env S => (F env S).bnd kZip2
theorem if_zip2 {T : Str → Addr} {X : Cx} {W : WX} {e1 e2 : Expr} {p pos tpos : Pos} {elts : List Expr} {kk : Nat} {Fa : Env → Cm (List D)} (hg : Gl X "zip") (hm : X.mg "zip" = none) (ha : AF T X W [e1, e2] Fa)
    (hs : starEach [e1, e2] X.env = (false, eval e1 X.env) :: starEach [e2] X.env := by rfl) (hpl : (backTo pos (starEach [e2] X.env)).any (·.1) = false := by rfl) :
    IF T X W (.Tuple elts kk tpos) (.Call (.Name "zip" p) [e1, e2] [] pos) (iZip2F Fa) := by
  refine pi_imp (pi_zip hg hm ha hs hpl) fun σ H Qi q => ?_
  obtain ⟨ρ, S, Z, env, w, er, g⟩ := q
  refine lift_imp (lift_bndI w er g) fun v H1 ⟨ρ1, S1, ds, x1, w1, er1, r1, g1⟩ => ?_
  unfold kZip2 at g1
  split at g1
  · rename_i ds1 ds2
    obtain ⟨v1, us1, ev1, q1, r1⟩ := r1
    obtain ⟨v2, us2, ev2, q2, r1⟩ := r1
    split at g1
    · rename_i hl
      obtain ⟨a1, vs1, ea1, s1, o1⟩ := walk_ls w1 q1 (p := (ds1, .fz)) rfl (fun ts e => nomatch e)
      obtain ⟨a2, vs2, ea2, s2, o2⟩ := walk_ls w1 q2 (p := (ds2, .fz)) rfl (fun ts e => nomatch e)
      subst ea1 ea2
      subst r1
      subst ev2
      subst ev1
      exact ⟨a1, a2, vs1, vs2, rfl, s1, s2, g1 _ H1 ρ1 .refl w1 (it_zip2 o1 o2 hl)⟩
    · exact g1.elim
  · exact g1.elim
end HT
set_option maxRecDepth 100000
namespace HT
open PySem PySem.Spec L2
open PyProof.Rows hiding St
/-! `a if c else b` where a truth value is asked -/
section
variable {T : Str → Addr} {X : Cx} {W : WX} {a b c : Expr} {C F G : Env → Cm Bool} {pos : Pos} {tA ta tb : TT}
def tIfT (t ta tb : TT) : TT := fun σ H Q => t σ H fun c H1 => if c = true then ta σ H1 Q else tb σ H1 Q
theorem pt_ifx (hc : PT X c tA) (ha : PT X a ta) (hb : PT X b tb) : PT X (.IfExp c a b pos) (tIfT tA ta tb) := by
  refine ⟨fun pins s σ H Q I h => ?_⟩
  refine PyProof.Rows.isTrue_IfExp (thn (hc.run pins s σ H _ I h) fun d s1 ⟨H1, I1, q1⟩ => ?_)
  cases d with
  | true => exact ha.run pins s1 σ H1 Q I1 q1
  | false => exact hb.run pins s1 σ H1 Q I1 q1
theorem tf_if (hc : TF T X W c C) (h : TF T X W a F) (h2 : TF T X W b G) : TF T X W (.IfExp c a b pos) (fIfT C F G) := pt_imp (pt_ifx hc h h2) fun σ H Q q =>
  lift_then (rel := rB) (k := fun env b S1 => if b = true then F env S1 else G env S1) q fun ρ S Z env H v d w e r g => by
    have r' : d = v := r
    subst r'
    cases d with
    | true => exact iteT ⟨ρ, S, Z, env, w, e, g⟩
    | false => exact iteF ⟨ρ, S, Z, env, w, e, g⟩
end
end HT
set_option maxRecDepth 100000
namespace HT
open PySem PySem.Spec L2
open PyProof.Rows hiding St
/-- own errors' classes, asked of plain values too -/
theorem isTb_excN {T : Str → Addr} {K : PySem.W.Frag} {c : Str} {cs : List Str} (h2 : (ty7.all fun n => decide (PySem.W.kitOne K (.type n) (.ref (T c)) = some false)) = true) (h : ∀ C ∈ cs, (excB K (T C) && decide (PySem.W.kitOne K (.ref (T C)) (.ref (T c)) = some (C == c))) = true) :
    IsTb T K (.ref (T c)) (fun t => match t with | .b n => if n ∈ ty7 then some false else none | .exc C => if C ∈ cs then some (C == c) else none | _ => none) := by
  refine ⟨fun n r h => ?_, (fun C r h => nomatch h), fun C r h2 => ?_⟩
  · dsimp only at h
    split at h
    · rename_i hn
      cases h
      exact of_decide_eq_true (List.all_eq_true.mp h2 n hn)
    · cases h
  · dsimp only at h2
    split at h2
    · rename_i hm
      cases h2
      obtain ⟨q1, q2⟩ := He.ba (h C hm)
      exact ⟨excB_ok q1, of_decide_eq_true q2⟩
    · cases h2
end HT
set_option maxRecDepth 100000
set_option maxHeartbeats 2000000
namespace HT
open PySem PySem.Spec L2
open PySem.HandSPX (excO)
/-! ### an own error made by keyword -/
section
variable {M : Model} {A : Around} {E : Value → Shared → Prop} {h : Heap} {g : Array GenState} {d : Drawn} {t : Nat} {os : OsState}
variable {nm q : Str} {C N : Addr} {bs bm bmB : List Value} {hdct : Bool} {sn : List Str} {sub : List Value} {ab : Bool} {col : Option Bool} {dd : Option Addr} {k0 k1 k2 k3 k5 : Option Value} {B newId initId : String}
theorem check_newK (F : ExcBaseFacts B newId initId bmB) (hT : ∀ X : String, bm.contains (.type X) = bmB.contains (.type X)) {f : Str} {v : Value} {Q : Unit → Shared → Prop}
    (hC : h.get? C = some (excClassObj nm q C N bs bm hdct sn sub ab col dd k0 k1 k2 k3 k5 newId)) (hq : Q () ⟨h, g, d, t, os⟩) : wpAny M A (checkBuiltinCall newId ⟨[.ref C], [(f, v)]⟩) Q E ⟨h, g, d, t, os⟩ := by
  have hcont : (Value.ref C :: bm).contains (.type B) = true := by rw [List.contains_cons, hT, F.hasB, Bool.or_true]
  have hstar := F.noStar
  simp only [checkBuiltinCall, F.newKind, F.newSplit, F.newRow]
  repeat (first | refine wpAny_loadPart_at hC ?_ | (refine wpAny_isSubtype_exc hC ?_; rw [hcont]) | refine wpAny_staticBase_exc hC ?_ | refine wpAny_madeBy_exc hC ?_ | simp only [bne_self_eq_false, Bool.false_eq_true, if_false] | wp_step)
  exact hq
end
section
variable {prog : Program} {w : World} {A : Around} {E : Value → Shared → Prop} {R : Result → Shared → Prop} {h : Heap} {g : Array GenState} {d : Drawn} {t : Nat} {os : OsState}
variable {nm q : Str} {C N : Addr} {bs bm bmB : List Value} {hdct : Bool} {sn : List Str} {sub : List Value} {ab : Bool} {col : Option Bool} {dd : Option Addr} {k0 k1 k2 k3 k5 : Option Value} {B newId initId : String}
theorem newK (F : ExcBaseFacts B newId initId bmB) (hT : ∀ X : String, bm.contains (.type X) = bmB.contains (.type X)) {f : Str} {v : Value}
    (hC : h.get? C = some (excClassObj nm q C N bs bm hdct sn sub ab col dd k0 k1 k2 k3 k5 newId))
    (hq : R (.ok (.ret (.ref (h.objs.size + 1)))) ⟨(h.push { cls := .type "tuple", data := .seq #[] }).push
      { cls := .ref C, data := .fields #[.ref h.objs.size, .none, .none, .none, .bool false, .none] }, g, d, t, os⟩) :
    codeAny (model prog w) A (.builtin newId ⟨[.ref C], [(f, v)]⟩) R ⟨h, g, d, t, os⟩ := by
  have hends := F.ends
  have hcB : (Value.ref C :: bm).contains (.type B) = true := by rw [List.contains_cons, hT, F.hasB, Bool.or_true]
  have hcA : (Value.ref C :: bm).contains (.type "AttributeError") = false := by rw [List.contains_cons, hT, F.noAttr]; rfl
  have hcN : (Value.ref C :: bm).contains (.type "NameError") = false := by rw [List.contains_cons, hT, F.noName]; rfl
  have hrest : ([] : List Value).length ≤ sizeLine := Nat.zero_le _
  refine codeAny_builtinAt F.entry ?_
  unfold Builtin.«BaseException.__new__»
  refine wpAt_bind ?_
  show wpAt _ _ _ (stack >>= _) _ _ _
  refine wpAt_bind (wpAt_stack fun p below => wpAt_of_wpAny ?_)
  wp_walk
  refine wpAt_of_wpAny ?_
  rw [F.owner]
  repeat (first | with_reducible refine wpAny_madeHere_exc F.canon hC ?_ | with_reducible refine wpAny_loadPart_at hC ?_ | (with_reducible refine wpAny_isSubtype_exc hC ?_; first | rw [hcB] | rw [hcA] | rw [hcN]) | wp_step)
  show R _ _
  rw [Heap.size_push]
  exact hq
theorem type_callK (F : ExcBaseFacts B newId initId bmB) (hT : ∀ X : String, bm.contains (.type X) = bmB.contains (.type X)) {f : Str} {v : Value} {fI : Addr} {Q : Fin → Shared → Prop}
    (hC : h.get? C = some (excClassObj nm q C N bs bm hdct sn sub ab col dd k0 k1 k2 k3 k5 newId))
    (hi : W.Looks (model prog w) h (typeLookup (.ref C) "__init__") (some (.ref fI))) (hb : ∀ self, W.Looks (model prog w) h (bindSpecial (.ref fI) self) (.ref fI, [self]))
    (hq : codeAny (model prog w) A (.call (.ref fI) ⟨[.ref (h.objs.size + 1)], [(f, v)]⟩)
      (fun r s' => match r with | .ok (.ret v) => v = .none ∧ Q (.done (.ret (.ref (h.objs.size + 1)))) s' | .ok _ => False | .error e => E e s')
      ⟨(h.push (W.kdv_tup [])).push (excO C h.objs.size), g, d, t, os⟩) :
    wpAny (model prog w) A (Builtin.«type.__call__» ⟨[.ref C], [(f, v)]⟩) Q E ⟨h, g, d, t, os⟩ := by
  repeat (first | with_reducible refine wpAny_loadPart_at hC ?_ | with_reducible refine wpAny_madeBy_exc hC ?_ | wp_step)
  refine codeAny_call_builtin_code (Code.quiet_builtin _ F.quiet) (check_newK F hT hC ?_)
  refine newK F hT hC ?_
  show wpAny _ _ _ _ _ _
  have k : ∀ b o, h.get? b = some o → ((h.push (W.kdv_tup [])).push (excO C h.objs.size)).get? b = some o := fun b o e => Heap.get?_push_of_some _ (Heap.get?_push_of_some _ e)
  have hC₁ := k _ _ hC
  have hget : ((h.push (W.kdv_tup [])).push (excO C h.objs.size)).get? (h.objs.size + 1) = some (excO C h.objs.size) := by heap_get
  have hcC : (Value.ref C :: bm).contains (.ref C) = true := by simp
  have i1 := hi.keeps k
  have b1 := (hb (.ref (h.objs.size + 1))).keeps k
  unfold isInstance
  repeat (first | with_reducible refine wpAny_loadPart_at hget ?_ | (with_reducible refine wpAny_isSubtype_exc hC₁ ?_; rw [hcC]) | wp_step)
  show wpAny _ _ (typeLookup (.ref C) _) _ _ _
  refine i1.at ?_
  refine wpAny_holding (wpAny_bind (b1.at ?_))
  refine wpAny_bind (wpAny_call (codeAny_mono hq fun r s' z => ?_))
  rcases r with e | (v | _ | _ | _) <;> first | exact z | exact z.elim | skip
  obtain ⟨rfl, z⟩ := z
  first
    | exact wpAny_pure (wpAny_pure z)
    | (wp_walk; exact z)
theorem check_type_callK {M : Model} {f : Str} {v : Value} {Q : Unit → Shared → Prop} (hC : h.get? C = some (excClassObj nm q C N bs bm hdct sn sub ab col dd k0 k1 k2 k3 k5 newId))
    (hq : Q () ⟨h, g, d, t, os⟩) : wpAny M A (checkBuiltinCall "type.__call__" ⟨[.ref C], [(f, v)]⟩) Q E ⟨h, g, d, t, os⟩ := by
  have f3 := tc_sub
  have hT : (⟨h, g, d, t, os⟩ : Shared).TypeIs (.ref C) "type" := ⟨_, hC, rfl⟩
  simp only [checkBuiltinCall, tc_kind, tc_split]
  repeat (any_goals (first | assumption | with_reducible refine wpAny_loadPart_at hC ?_ | with_reducible refine wpAny_onRaise ?_ | with_reducible refine wpAny_map ?_ | wp_step))
theorem call_ownK (F : ExcBaseFacts B newId initId bmB) (hT : ∀ X : String, bm.contains (.type X) = bmB.contains (.type X)) {f : Str} {v : Value} {fI : Addr}
    (hC : h.get? C = some (excClassObj nm q C N bs bm hdct sn sub ab col dd k0 k1 k2 k3 k5 newId))
    (hi : W.Looks (model prog w) h (typeLookup (.ref C) "__init__") (some (.ref fI))) (hb : ∀ self, W.Looks (model prog w) h (bindSpecial (.ref fI) self) (.ref fI, [self]))
    (hq : codeAny (model prog w) (A.under (.builtin "type.__call__" ⟨[.ref C], [(f, v)]⟩)) (.call (.ref fI) ⟨[.ref (h.objs.size + 1)], [(f, v)]⟩) (W.InitBack (h.objs.size + 1) R)
      ⟨(h.push (W.kdv_tup [])).push (excO C h.objs.size), g, d, t, os⟩) :
    codeAny (model prog w) A (.call (.ref C) ⟨[], [(f, v)]⟩) R ⟨h, g, d, t, os⟩ := by
  have f1 := tc_lookup
  have f2 := tc_bind (.ref C)
  have hTy : (⟨h, g, d, t, os⟩ : Shared).TypeIs (.ref C) "type" := ⟨_, hC, rfl⟩
  refine codeAny_of_tree ?_
  show wpAny _ _ (callAny (.ref C) _) _ _ _
  repeat (any_goals (first | assumption | with_reducible refine wpAny_loadPart_at hC ?_ | wp_step))
  refine ⟨rfl, ?_⟩
  refine codeAny_call_builtin_at (Code.quiet_builtin _ (by decide +kernel)) entry_typeCall (check_type_callK hC (type_callK F hT hC hi hb ?_))
  refine codeAny_mono hq fun r s' z => ?_
  rcases r with e | (v | _ | _ | _) <;> exact z
end
end HT
set_option maxRecDepth 100000
set_option maxHeartbeats 2000000
namespace HT
open PySem PySem.Spec L2
open PyProof.Rows hiding St

/-! ### own errors: by keyword, by default, without a field -/
def KB1 (K : PySem.W.Frag) (fd : FuncData) (f : Str) : Prop := ∀ (s : Shared) (self u : Value), K.In s.heap → BindsTo s fd ⟨[self], [(f, u)]⟩ [(("self" : Str), self), (f, u)]
theorem kb_all {K : PySem.W.Frag} {fd : FuncData} {f : Str} {dV : Value} (hD : DflV K dV [V.non]) (h : ∀ (t : Addr) (self u : Value) (its : List Value), dV = .ref t → its.length = 1 → ∃ k, bindArgs fd ⟨[self], [(f, u)]⟩ = seqItems? (.ref t) >>= k ∧ k (some its.toArray) = pure [(("self" : Str), self), (f, u)]) : KB1 K fd f := by
  rcases hD with ⟨e, _⟩ | ⟨_, t, o, its, m, e, lT, oT, rT⟩
  · cases e
  · intro s self u X
    obtain ⟨k, e1, e2⟩ := h t self u its e rT.length.symm
    refine BindsTo.of_looks fun M => ?_
    rw [e1]
    exact looks_items X lT oT (.of_pure e2)
theorem bd_all {K : PySem.W.Frag} {fd : FuncData} {ps : List Str} {dV : Value} (hD : DflV K dV [V.non]) (h : ∀ (t : Addr) (us its : List Value), dV = .ref t → us.length + 1 = ps.length → its.length = 1 → ∃ k, bindArgs fd ⟨us, []⟩ = seqItems? (.ref t) >>= k ∧ k (some its.toArray) = pure (ps.zip (us ++ its))) : Binds K fd ps [.none] := by
  rcases hD with ⟨e, _⟩ | ⟨_, t, o, its, m, e, lT, oT, rT⟩
  · cases e
  · intro s us X hlen
    rw [List.length_append] at hlen
    obtain ⟨k, e1, e2⟩ := h t us its e hlen rT.length.symm
    have ei : its = [.none] := by
      cases rT with
      | cons a b => cases a; cases b; rfl
    rw [ei] at e2
    refine BindsTo.of_looks fun M => ?_
    rw [e1]
    rw [ei] at oT
    exact looks_items X lT oT (.of_pure e2)
section
variable {X : Cx} {pins : List (Addr × Obj)} {σ : St} {H1 : Hp} {s1 : Shared} {C fI : Addr} {f : Str} {fd : FuncData} {v : V} {Q : XK} {k : Nat}
theorem xmk_runK {u : Value} (G : ExI X.prog X.K C f fI fd) (hself : (f == ("self" : Str)) = false) (hdb : (f == ("__debug__" : Str)) = false) (msup : X.mg "super" = none) (lv : Lv (k + 1) X.A) (hb : KB1 X.K fd f)
    (I1 : Inv X pins σ H1 s1) (ru : RelV v u) (q : ∀ d, H1 d = none → Q (.ref C) (some d) (upd H1 d (.xd [(f, v)]))) : wpAny (model X.prog X.w) X.A (call (.ref C) [] [(f, u)]) (MkP X pins σ Q) X.xe s1 := by
  obtain ⟨nm, qn, N, bs, bm, sn, sub, ab, col, dd, k0, k1, k2, k3, k5, hC, hbm⟩ := G.ox.cls
  obtain ⟨mb, hbl, hbb⟩ := I1.ok.mod.blt
  obtain ⟨hp, g, dr, tk, os⟩ := s1
  have hsz : hp.objs.size ≤ hp.objs.size + 1 := Nat.le_succ _
  have hn : H1 (hp.objs.size + 1) = none := I1.hok.fresh hsz
  have kk : ∀ b o, hp.get? b = some o → ((hp.push (PySem.W.kdv_tup [])).push (PySem.HandSPX.excO C hp.objs.size)).get? b = some o := fun b o e => Heap.get?_push_of_some _ (Heap.get?_push_of_some _ e)
  have hget : ((hp.push (PySem.W.kdv_tup [])).push (PySem.HandSPX.excO C hp.objs.size)).get? (hp.objs.size + 1) = some (PySem.HandSPX.excO C hp.objs.size) := by heap_get
  have I2 : Inv X pins σ (upd H1 (hp.objs.size + 1) (exo (hp.objs.size + 1) C none)) ⟨(hp.push (PySem.W.kdv_tup [])).push (PySem.HandSPX.excO C hp.objs.size), g, dr, tk, os⟩ :=
    I1.laid (t' := tk) (a := hp.objs.size + 1) (o := exo (hp.objs.size + 1) C none) (h' := (hp.push (PySem.W.kdv_tup [])).push (PySem.HandSPX.excO C hp.objs.size)) kk hsz (exo_ok hget)
  have hxK : X.K.lookup (hp.objs.size + 1) = none := by
    cases e : X.K.lookup (hp.objs.size + 1) with
    | none => rfl
    | some o =>
      have z := Heap.lt_size (I1.kIn _ _ e)
      exact absurd (show hp.objs.size + 1 < hp.objs.size from z) (by omega)
  have bd : BindsTo ⟨(hp.push (PySem.W.kdv_tup [])).push (PySem.HandSPX.excO C hp.objs.size), g, dr, tk, os⟩ fd ⟨[Value.ref (hp.objs.size + 1)], [(f, u)]⟩ [(("self" : Str), Value.ref (hp.objs.size + 1)), (f, u)] := hb _ _ u I2.kIn
  refine wpAny_call (call_ownK F.excBase_ValueError (fun Y => PySem.HandSPX.refsVE_contains Y bm hbm) (I1.kIn _ _ hC) (PySem.W.looks_findIn I1.kIn G.iC) (fun self => PySem.W.bind_fn I1.kIn self G.tI)
    (ex_run G hself hdb (lv.room.make C [] [(f, u)]).depth I2.kIn I2.nolimit (I2.ok.mod.glob.keeps I2.bk) (hbl.keeps I2.bk) hbb msup hget hxK bd fun h2 t2 t1 dx k2 dn dne hx2 hn2 => ?_))
  refine ⟨rfl, ?_⟩
  have hsz2 : hp.objs.size ≤ ((hp.push (PySem.W.kdv_tup [])).push (PySem.HandSPX.excO C hp.objs.size)).objs.size := by
    rw [Heap.size_push, Heap.size_push]
    omega
  have hnd : H1 dx = none := I1.hok.fresh (Nat.le_trans hsz2 dn)
  have hnd2 : upd H1 (hp.objs.size + 1) (exo (hp.objs.size + 1) C none) dx = none := by
    rw [upd_ne dne]
    exact hnd
  have ea : upd H1 (hp.objs.size + 1) (exo (hp.objs.size + 1) C none) (hp.objs.size + 1) = some (exo (hp.objs.size + 1) C none) := upd_same
  have na : ∀ {b : Addr}, upd H1 (hp.objs.size + 1) (exo (hp.objs.size + 1) C none) b = none → b ≠ hp.objs.size + 1 := fun {b} n z => by
    rw [z, upd_same] at n
    cases n
  have nd : ∀ {b : Addr} {o : Obj}, ((hp.push (PySem.W.kdv_tup [])).push (PySem.HandSPX.excO C hp.objs.size)).get? b = some o → b ≠ dx := fun {b o} z => Nat.ne_of_lt (Nat.lt_of_lt_of_le (Heap.lt_size z) dn)
  have un : Un (frs X.stack) [] (upd H1 (hp.objs.size + 1) (exo (hp.objs.size + 1) C none)) (upd (upd (upd H1 (hp.objs.size + 1) (exo (hp.objs.size + 1) C none)) dx (exd dx [(f, v)])) (hp.objs.size + 1) (exo (hp.objs.size + 1) C (some dx)))
      ((hp.push (PySem.W.kdv_tup [])).push (PySem.HandSPX.excO C hp.objs.size)) h2 := {
    keep := fun b o z n _ _ => k2 b o (na n) z
    slot := fun b o z n _ _ => ⟨o.slots, k2 b o (na n) z⟩
    free := fun b o z n _ => by rw [upd_ne (na n), upd_ne (nd z)]; exact n
    there := fun b o z _ => by
      by_cases hb : b = hp.objs.size + 1
      · exact ⟨_, by rw [hb]; exact hx2⟩
      · exact ⟨o, k2 b o hb z⟩
    tups := fun b xs z => by rw [upd_ne (at_ne ea z exo_tup), upd_ne (ne_of_none z hnd2)]; exact z
    frzs := fun b o w z => by rw [upd_ne (at_ne ea z exo_frz), upd_ne (ne_of_none z hnd2)]; exact z
    tbls := fun b ps z => ⟨#[], by rw [upd_ne (at_ne ea z exo_tbl), upd_ne (ne_of_none z hnd2), z]; simp⟩ }
  have hok : HOk X.prog X.w (upd (upd (upd H1 (hp.objs.size + 1) (exo (hp.objs.size + 1) C none)) dx (exd dx [(f, v)])) (hp.objs.size + 1) (exo (hp.objs.size + 1) C (some dx))) h2 := fun b o z => by
    by_cases hb : b = hp.objs.size + 1
    · subst hb
      rw [upd_same] at z
      cases z
      exact exo_ok hx2
    · rw [upd_ne hb] at z
      by_cases hdx : b = dx
      · subst hdx
        rw [upd_same] at z
        cases z
        exact exd_ok hn2 (relO_put (fs := []) ru fun g => True.intro)
      · rw [upd_ne hdx] at z
        exact (I2.hok b o z).stay (fun c w hc y => k2 c w (by
            rcases hc with hc | hc
            · rw [hc]
              exact hb
            · exact at_ne ea hc exo_own) y)
          (fun c hc => by rw [upd_ne (at_ne ea hc exo_own), upd_ne (ne_of_none hc hnd2)]; exact hc) (fun c xs hc => by rw [upd_ne (at_ne ea hc exo_tup), upd_ne (ne_of_none hc hnd2)]; exact hc)
  have e2 : del (upd (upd (upd H1 (hp.objs.size + 1) (exo (hp.objs.size + 1) C none)) dx (exd dx [(f, v)])) (hp.objs.size + 1) (exo (hp.objs.size + 1) C (some dx))) (hp.objs.size + 1) = upd H1 dx (exd dx [(f, v)]) := by
    funext b
    by_cases hb : b = hp.objs.size + 1
    · rw [hb, del_same, upd_ne (Ne.symm dne)]
      exact hn.symm
    · rw [del_ne hb, upd_ne hb]
      by_cases hdx : b = dx
      · rw [hdx, upd_same, upd_same]
      · rw [upd_ne hdx, upd_ne hdx, upd_ne hb]
  refine mk_end (raises_own G.ox.exC G.ox.tyC) I1 hsz kk un hok rfl I2.bare upd_same (by rw [upd_ne dne, upd_same]) hnd ?_
  rw [e2, show upd (upd H1 dx (exd dx [(f, v)])) dx (.xd [(f, v)]) = upd H1 dx (.xd [(f, v)]) from by
    funext b
    by_cases hdx : b = dx
    · rw [hdx, upd_same, upd_same]
    · rw [upd_ne hdx, upd_ne hdx, upd_ne hdx]]
  exact q dx hnd
end
section
variable {T : Str → Addr} {X : Cx} {W : WX} {C f x : Str} {fI : Addr} {fd : FuncData} {k : Nat} {e : Expr} {Fe : FE} {kws : List Keyword} {Fr : Env → Cm (List D)} {p pos kpos : Pos} {nm : Option Str}
/-- keywords' values -/
abbrev KF (T : Str → Addr) (X : Cx) (W : WX) (kws : List Keyword) (F : Env → Cm (List D)) : Prop := PK X kws (lift T X.K (rL T X.K) W F)
theorem pk_imp {t t' : TA} (h : PK X kws t) (i : ∀ σ H Q, t' σ H Q → t σ H Q) : PK X kws t' := ⟨fun pos pins s σ H Q I q => h.run pos pins s σ H Q I (i σ H Q q)⟩
theorem kf_nil : KF T X W [] aNil := by
  refine pk_imp pk_nil fun σ H Q q => ?_
  obtain ⟨ρ, S, Z, env, w, er, g⟩ := q
  exact g [] H ρ .refl w rfl
theorem kf_cons (ha : PF T X W e Fe) (hr : KF T X W kws Fr) : KF T X W (⟨nm, e, kpos⟩ :: kws) (aCons Fe Fr) := by
  refine pk_imp (pk_cons ha hr) fun σ H Q q => ?_
  obtain ⟨ρ, S, Z, env, w, er, g⟩ := q
  refine lift_imp (lift_bnd w er g) fun v H1 ⟨ρ1, S1, d1, x1, w1, e1, r1, g1⟩ => ?_
  refine lift_imp (lift_bnd w1 e1 g1) fun vs H2 ⟨ρ2, S2, d2, x2, w2, e2, r2, g2⟩ => ?_
  exact g2 (v :: vs) H2 ρ2 .refl w2 ⟨v, vs, rfl, x2.rep r1, r2⟩
theorem mf_mkK (G : ExI X.prog X.K (T C) f fI fd) (hself : (f == ("self" : Str)) = false) (hdf : (f == ("__debug__" : Str)) = false) (msup : X.mg "super" = none) (lv : Lv (k + 1) X.A) (hb : KB1 X.K fd f)
    (hg : Gl X x) (hm : X.mg x = some (.ref (T C))) (ha : PF T X W e Fe) (hdb : (x == ("__debug__" : Str)) = false := by decide) :
    MF T X W (.Call (.Name x p) [] [⟨some f, e, kpos⟩] pos) (fMk C f [] (aCons Fe aNil)) := by
  intro pins s σ H Q I h
  obtain ⟨ρ, S, Z, env, w, er, g⟩ := h
  refine wpAny_Call_Name_kw (ld_glob I hg hm ?_ hdb)
  refine PySem.W.callWith_KW0 (h₀ := X.base) I.ok.mod.kin G.ox.kC (by rfl) ?_ (by rfl)
  refine thn ((kf_cons (nm := some f) (kpos := kpos) ha kf_nil).run pos pins s σ H _ I (lift_bndM w er g)) fun us s1 ⟨vs, H1, I1, r, ρ1, S1, ds, x1, w1, e1, r1, g1⟩ => ⟨I1.kIn, ?_⟩
  obtain ⟨v, hv, q⟩ := mk_good (dds := []) (dvs := []) w1 r1 (fun _ _ => rfl) g1
  rw [List.append_nil] at hv
  subst hv
  cases r with
  | cons ru rn =>
    cases rn
    exact xmk_runK G hself hdf msup lv hb I1 ru q
/-- what the written part says of a class without own __init__ -/
structure ExN (K : PySem.W.Frag) (C : Addr) : Prop where
  ex : PySem.W.excIn K C PySem.HandSPX.veTail "ValueError.__new__" = true
  exC : PySem.W.subIn K (.ref C) (.type "BaseException") = some true
  tyC : PySem.W.typeIn K (.ref C) = some (.type "type")
  kC : PySem.W.keepIn K (.ref C) = true
def exnB (K : PySem.W.Frag) (C : Addr) : Bool := PySem.W.excIn K C PySem.HandSPX.veTail "ValueError.__new__" && (decide (PySem.W.subIn K (.ref C) (.type "BaseException") = some true) && (decide (PySem.W.typeIn K (.ref C) = some (.type "type")) && PySem.W.keepIn K (.ref C)))
theorem exnB_ok {K : PySem.W.Frag} {C : Addr} (h : exnB K C = true) : ExN K C := by
  unfold exnB at h
  simp only [Bool.and_eq_true, decide_eq_true_eq] at h
  exact ⟨h.1, h.2.1, h.2.2.1, h.2.2.2⟩
def fMk0 (C : Str) : Env → Cm (Str × List (Str × D)) := fun _ S => .ok (C, []) S
theorem mf_own0 (G : ExN X.K (T C)) (hg : Gl X x) (hm : X.mg x = some (.ref (T C))) (hdb : (x == ("__debug__" : Str)) = false := by decide) : MF T X W (.Call (.Name x p) [] [] pos) (fMk0 C) := by
  intro pins s σ H Q I h
  obtain ⟨ρ, S, Z, env, w, er, g⟩ := h
  refine wpAny_Call_Name_kw (ld_glob I hg hm ?_ hdb)
  refine PySem.W.callWith_K0 I.kIn G.kC ?_
  obtain ⟨bm, N, nm, qn, bs, hdct, sn, sub, ab, col, dd, k0, k1, k2, k3, k5, mN, hC, hN, hni, TT⟩ := exc_obj I.kIn G.ex
  refine wpAny_call_exc_subT F.excBase_ValueError TT hC hN hni (fun h' a hm => ?_) (Nat.zero_le _)
  exact mk_of I hm (raises_own G.exC G.tyC) (g none [] H ρ .refl w rfl rfl) (I.hok.gone hm.new)
end
/-- isinstance of own errors: a class above them -/
theorem isTb_up {T : Str → Addr} {K : PySem.W.Frag} {cv : Value} {tb : Str → Bool} {cs : List Str} (h2 : (ty7.all fun n => decide (PySem.W.kitOne K (.type n) cv = some false)) = true) (h : ∀ C ∈ cs, (excB K (T C) && decide (PySem.W.kitOne K (.ref (T C)) cv = some (tb C))) = true) :
    IsTb T K cv (fun t => match t with | .b n => if n ∈ ty7 then some false else none | .exc C => if C ∈ cs then some (tb C) else none | _ => none) := by
  refine ⟨fun n r h => ?_, (fun C r h => nomatch h), fun C r h2 => ?_⟩
  · dsimp only at h
    split at h
    · rename_i hn
      cases h
      exact of_decide_eq_true (List.all_eq_true.mp h2 n hn)
    · cases h
  · dsimp only at h2
    split at h2
    · rename_i hm
      cases h2
      obtain ⟨q1, q2⟩ := He.ba (h C hm)
      exact ⟨excB_ok q1, of_decide_eq_true q2⟩
    · cases h2
end HT
set_option maxRecDepth 100000
set_option maxHeartbeats 2000000
namespace HT
open PySem PySem.Spec L2
open PyProof.Rows hiding St

/-! ### dicts with texts and numbers as keys -/
def keyD : D → Option Key
  | .int i => some (.inl i)
  | .str x => some (.inr x)
  | _ => none
theorem keyD_ok {T : Str → Addr} {K : PySem.W.Frag} {ρ : Nat → Option Addr} {F : Hp} {d : D} {v : V} {k : Key} (h : keyD d = some k) (r : Rep T K ρ F d v) : v = kV k := by
  cases d with
  | int i => cases h; exact r
  | str x => cases h; exact r
  | _ => cases h
def putKD {κ : Type} [DecidableEq κ] (kvs : List (κ × D)) (k : κ) (d : D) : List (κ × D) :=
  if (kvs.any fun kv => decide (kv.1 = k)) = true then kvs.map (fun kv => if kv.1 = k then (kv.1, d) else kv) else kvs ++ [(k, d)]
def valD {κ : Type} [DecidableEq κ] (kvs : List (κ × D)) (k : κ) : Option D := (kvs.find? fun kv => decide (kv.1 = k)).map (·.2)
def dropD {κ : Type} [DecidableEq κ] (kvs : List (κ × D)) (k : κ) : List (κ × D) := kvs.filter fun kv => decide (kv.1 ≠ k)
def mergeD (kvs more : List (Key × D)) : List (Key × D) := more.foldl (fun acc kv => putKD acc kv.1 kv.2) kvs
section
variable {T : Str → Addr} {K : PySem.W.Frag} {ρ ρ' : Nat → Option Addr} {F : Hp}
theorem RepK.any (k : Key) : ∀ {kvs : List (Key × D)} {vs : List (Key × V)}, RepK T K ρ F kvs vs → (vs.any fun kv => decide (kv.1 = k)) = kvs.any fun kv => decide (kv.1 = k)
  | [], vs, h => by
    have e : vs = [] := h
    rw [e]
    rfl
  | (j, d) :: r, vs, h => by
    obtain ⟨v, vr, e, _, q⟩ := h
    subst e
    rw [List.any_cons, List.any_cons, RepK.any k q]
theorem RepK.repl (k : Key) {d : D} {v : V} (hv : Rep T K ρ F d v) : ∀ {kvs : List (Key × D)} {vs : List (Key × V)}, RepK T K ρ F kvs vs → RepK T K ρ F (kvs.map fun kv => if kv.1 = k then (kv.1, d) else kv) (vs.map fun kv => if kv.1 = k then (kv.1, v) else kv)
  | [], vs, h => by
    have e : vs = [] := h
    rw [e]
    rfl
  | (j, x) :: r, vs, h => by
    obtain ⟨u, vr, e, q1, q⟩ := h
    subst e
    rw [List.map_cons, List.map_cons]
    by_cases hj : j = k
    · simp only [hj, if_true]
      exact ⟨v, _, rfl, hv, RepK.repl k hv q⟩
    · simp only [hj, if_false]
      exact ⟨u, _, rfl, q1, RepK.repl k hv q⟩
theorem RepK.app : ∀ {kvs more : List (Key × D)} {vs us : List (Key × V)}, RepK T K ρ F kvs vs → RepK T K ρ F more us → RepK T K ρ F (kvs ++ more) (vs ++ us)
  | [], more, vs, us, h, h2 => by
    have e : vs = [] := h
    subst e
    exact h2
  | (j, x) :: r, more, vs, us, h, h2 => by
    obtain ⟨u, vr, e, q1, q⟩ := h
    subst e
    exact ⟨u, vr ++ us, rfl, q1, RepK.app q h2⟩
theorem RepK.put {kvs : List (Key × D)} {vs : List (Key × V)} (h : RepK T K ρ F kvs vs) (k : Key) {d : D} {v : V} (hv : Rep T K ρ F d v) : RepK T K ρ F (putKD kvs k d) (putK vs k v) := by
  unfold putKD putK
  rw [RepK.any k h]
  split
  · exact RepK.repl k hv h
  · exact RepK.app h ⟨v, [], rfl, hv, rfl⟩
theorem RepK.len : ∀ {kvs : List (Key × D)} {vs : List (Key × V)}, RepK T K ρ F kvs vs → kvs.length = vs.length
  | [], vs, h => by
    have e : vs = [] := h
    rw [e]
    rfl
  | (j, x) :: r, vs, h => by
    obtain ⟨u, vr, e, q1, q⟩ := h
    subst e
    rw [List.length_cons, List.length_cons, RepK.len q]
theorem RepK.merge : ∀ {more kvs : List (Key × D)} {us vs : List (Key × V)}, RepK T K ρ F kvs vs → RepK T K ρ F more us → RepK T K ρ F (mergeD kvs more) (mergeK vs us)
  | [], kvs, us, vs, h, h2 => by
    have e : us = [] := h2
    subst e
    exact h
  | (j, x) :: r, kvs, us, vs, h, h2 => by
    obtain ⟨u, ur, e, q1, q⟩ := h2
    subst e
    exact RepK.merge (kvs := putKD kvs j x) (vs := putK vs j u) (h.put j q1) q
theorem RepK.val (k : Key) : ∀ {kvs : List (Key × D)} {vs : List (Key × V)}, RepK T K ρ F kvs vs → (valD kvs k = none ∧ valV vs k = none) ∨ ∃ d v, valD kvs k = some d ∧ valV vs k = some v ∧ Rep T K ρ F d v
  | [], vs, h => by
    have e : vs = [] := h
    subst e
    exact .inl ⟨rfl, rfl⟩
  | (j, x) :: r, vs, h => by
    obtain ⟨u, vr, e, q1, q⟩ := h
    subst e
    by_cases hj : j = k
    · exact .inr ⟨x, u, by simp [valD, hj], by simp [valV, hj], q1⟩
    · have e1 : valD ((j, x) :: r) k = valD r k := by simp [valD, hj]
      have e2 : valV ((j, u) :: vr) k = valV vr k := by simp [valV, hj]
      rw [e1, e2]
      exact RepK.val k q
/-- a dict's pairs, of a tree or a cell -/
def dkAt (S : Sto) : D → Option (List (Key × D))
  | .dK kvs => some kvs
  | .cell k => match S[k]? with
    | some (.dK kvs) => some kvs
    | _ => none
  | _ => none
theorem dkAt_ok {Z : Hid} {H : Hp} {S : Sto} (w : Wd T K ρ S Z H) {d : D} {v : V} {kvs : List (Key × D)} (h : dkAt S d = some kvs) (r : Rep T K ρ (Fz ρ Z H) d v) : ∃ a vs, v = .ref a ∧ H a = some (.dK vs) ∧ RepK T K ρ (Fz ρ Z H) kvs vs := by
  cases d with
  | dK ks =>
    cases h
    obtain ⟨a, vs, e, q, r⟩ := r
    exact ⟨a, vs, e, Fz_sub _ _ q, r⟩
  | cell k =>
    obtain ⟨a, e, q⟩ := r
    have h' : (match S[k]? with | some (.dK kvs) => some kvs | _ => none) = some kvs := h
    cases hk : S[k]? with
    | none => rw [hk] at h'; cases h'
    | some c =>
      rw [hk] at h'
      cases c with
      | dK ks =>
        cases h'
        obtain ⟨a', o, h1, h2, h3, vs, rfl, h4⟩ := w.cells k _ hk
        rw [q] at h1
        cases h1
        exact ⟨a, vs, e, h3, h4⟩
      | _ => cases h'
  | _ => cases h
end
/-! displays -/
def fPairs : List (FE × FE) → Env → Cm (List (D × D))
  | [], _ => pure []
  | (Fk, Fv) :: r, env => fun S => (Fk env S).bnd fun k S1 => (Fv env S1).bnd fun v S2 => (fPairs r env S2).bnd fun ps S3 => .ok ((k, v) :: ps) S3
def RepP (T : Str → Addr) (K : PySem.W.Frag) (ρ : Nat → Option Addr) (F : Hp) : List (D × D) → List (V × V) → Prop
  | [], vs => vs = []
  | p :: r, vs => ∃ x y q, vs = (x, y) :: q ∧ Rep T K ρ F p.1 x ∧ Rep T K ρ F p.2 y ∧ RepP T K ρ F r q
abbrev rPP (T : Str → Addr) (K : PySem.W.Frag) : Rl (List (D × D)) (List (V × V)) := fun ρ H d v => RepP T K ρ H d v
def keysD : List (D × D) → Option (List (Key × D))
  | [] => some []
  | (k, v) :: r => match keyD k, keysD r with
    | some k, some l => some ((k, v) :: l)
    | _, _ => none
theorem keysD_ok {T : Str → Addr} {K : PySem.W.Frag} {ρ : Nat → Option Addr} {F : Hp} : ∀ {ps : List (D × D)} {vps : List (V × V)} {kvs : List (Key × D)}, keysD ps = some kvs → RepP T K ρ F ps vps → ∃ vs, vps = vs.map (fun kv => (kV kv.1, kv.2)) ∧ RepK T K ρ F kvs vs
  | [], vps, kvs, h, r => by
    cases h
    have e : vps = [] := r
    exact ⟨[], e, rfl⟩
  | (k, v) :: ps, vps, kvs, h, r => by
    obtain ⟨x, y, q, rfl, r1, r2, r3⟩ := r
    have h' : (match keyD k, keysD ps with | some k, some l => some ((k, v) :: l) | _, _ => none) = some kvs := h
    split at h'
    · rename_i k' l hk hl
      cases h'
      obtain ⟨vs, e, r4⟩ := keysD_ok hl r3
      exact ⟨(k', y) :: vs, by rw [List.map_cons, ← e, keyD_ok hk r1], y, vs, rfl, r2, r4⟩
    · cases h'
section
variable {T : Str → Addr} {X : Cx} {W : WX} {ke ve : Expr} {keys : List (Option Expr)} {values : List Expr} {Fk Fv : FE} {fs : List (FE × FE)} {pos : Pos}
abbrev DF (T : Str → Addr) (X : Cx) (W : WX) (pos : Pos) (keys : List (Option Expr)) (values : List Expr) (fs : List (FE × FE)) : Prop := PPs X pos keys values (fs.map fun p => (lift T X.K (rD T X.K) W p.1, lift T X.K (rD T X.K) W p.2))
theorem df_nil : DF T X W pos [] [] [] := pps_nil
theorem df_cons (hk : PF T X W ke Fk) (hv : PF T X W ve Fv) (hr : DF T X W pos keys values fs) : DF T X W pos (some ke :: keys) (ve :: values) ((Fk, Fv) :: fs) := pps_cons hk hv hr
theorem pairs_run {σ : St} {env : Env} : ∀ (fs : List (FE × FE)) (ρ : Nat → Option Addr) (S : Sto) (Z : Hid) (H : Hp) (Q : List (V × V) → Hp → Prop), Wd T X.K ρ S Z H → ER T X.K ρ Z H σ env → Good T X.K (rPP T X.K) W σ Q ρ Z H (fPairs fs env S) →
    tPairs (fs.map fun p => (lift T X.K (rD T X.K) W p.1, lift T X.K (rD T X.K) W p.2)) σ H Q
  | [], ρ, S, Z, H, Q, w, er, g => g [] H ρ .refl w rfl
  | (Fk, Fv) :: fs, ρ, S, Z, H, Q, w, er, g => by
    show lift T X.K (rD T X.K) W Fk σ H _
    refine lift_imp (lift_bnd (rel2 := rPP T X.K) w er g) fun x H1 ⟨ρ1, S1, d1, x1, w1, e1, r1, g1⟩ => ?_
    refine lift_imp (lift_bnd (rel2 := rPP T X.K) w1 e1 g1) fun y H2 ⟨ρ2, S2, d2, x2, w2, e2, r2, g2⟩ => ?_
    refine pairs_run fs ρ2 S2 Z H2 _ w2 e2 ?_
    dsimp only at g2
    cases h : fPairs fs env S2 with
    | ok ps S3 =>
      rw [h] at g2
      intro vps H3 ρ3 x3 w3 r3
      exact g2 ((x, y) :: vps) H3 ρ3 x3 w3 ⟨x, y, vps, rfl, (x2.trans x3).rep r1, x3.rep r2, r3⟩
    | exc C es S3 =>
      rw [h] at g2
      exact g2
    | stuck =>
      rw [h] at g2
      exact g2
/-- {k: v, ..} -/
def oDisp (fs : List (FE × FE)) : Env → Cm CO := fun env S => match fPairs fs env S with
  | .ok ps S1 => (match keysD ps with
    | some kvs => .ok (.dK (mergeD [] kvs)) S1
    | none => .stuck)
  | _ => .stuck
theorem of_disp (h : DF T X W pos keys values fs) (hall : keys.all (·.isSome) = true := by rfl) (hl : keys.length = values.length := by rfl) (h0 : keys ≠ [] := by exact fun e => nomatch e) (h15 : keys.length ≤ 15 := by decide) (hf : fs.length = keys.length := by rfl) :
    OF T X W (.Dict keys values pos) (oDisp fs) := by
  refine pe_imp (pe_disp h hall hl h0 h15) fun σ H Q q => ?_
  obtain ⟨ρ, S, Z, env, w, er, g⟩ := q
  intro p hp
  have n : Neu T X.K ρ Z H ρ S (upd H p (.dK [])) p (.dK []) := new_neu w hp ⟨[], rfl, rfl⟩
  unfold oDisp at g
  refine pairs_run (W := W) fs ρ S (plusZ Z p) (upd H p (.dK [])) _ n.w (er.neu n) ?_
  have lenP : ∀ (fs : List (FE × FE)) (S : Sto) (ps : List (D × D)) (S1 : Sto), fPairs fs env S = .ok ps S1 → ps.length = fs.length := by
    intro fs
    induction fs with
    | nil => intro S ps S1 e; cases e; rfl
    | cons f r ih =>
      intro S ps S1 e
      obtain ⟨Fk, Fv⟩ := f
      have e' : ((Fk env S).bnd fun k S1 => (Fv env S1).bnd fun v S2 => (fPairs r env S2).bnd fun ps S3 => .ok ((k, v) :: ps) S3) = .ok ps S1 := e
      cases h1 : Fk env S with
      | ok k S2 =>
        rw [h1] at e'
        have e2 : ((Fv env S2).bnd fun v S2 => (fPairs r env S2).bnd fun ps S3 => .ok ((k, v) :: ps) S3) = .ok ps S1 := e'
        cases h2 : Fv env S2 with
        | ok v S3 =>
          rw [h2] at e2
          have e3 : ((fPairs r env S3).bnd fun ps S3 => .ok ((k, v) :: ps) S3) = .ok ps S1 := e2
          cases h3 : fPairs r env S3 with
          | ok ps' S4 =>
            rw [h3] at e3
            cases e3
            rw [List.length_cons, List.length_cons, ih _ _ _ h3]
          | exc C es S4 => rw [h3] at e3; cases e3
          | stuck => rw [h3] at e3; cases e3
        | exc C es S4 => rw [h2] at e2; cases e2
        | stuck => rw [h2] at e2; cases e2
      | exc C es S4 => rw [h1] at e'; cases e'
      | stuck => rw [h1] at e'; cases e'
  cases hF : fPairs fs env S with
  | ok ps S1 =>
    rw [hF] at g
    have lps := lenP fs S ps S1 hF
    dsimp only at g
    intro vps H2 ρ2 x2 w2 r2
    have hH2 : H2 p = some (.dK []) := by rw [x2.hid p (.inr rfl), upd_same]
    refine ⟨hH2, ?_⟩
    cases hk : keysD ps with
    | some kvs =>
      rw [hk] at g
      obtain ⟨vs, ev, rk⟩ := keysD_ok hk r2
      refine ⟨vs, ev, ?_, ?_⟩
      · have l1 : vps.length = vs.length := by rw [ev, List.length_map]
        have l2 : ∀ (ps : List (D × D)) (vps : List (V × V)), RepP T X.K ρ2 (Fz ρ2 (plusZ Z p) H2) ps vps → ps.length = vps.length := by
          intro ps
          induction ps with
          | nil => intro vps h; have e : vps = [] := h; rw [e]; rfl
          | cons a r ih =>
            intro vps h
            obtain ⟨x, y, q, rfl, _, _, h3⟩ := h
            rw [List.length_cons, List.length_cons, ih q h3]
        have l3 := l2 ps vps r2
        omega
      · exact g p _ _ (n.put x2 w2 (c' := .dK (mergeD [] kvs)) (o := .dK (mergeK [] vs)) ⟨_, rfl, RepK.merge (kvs := []) (vs := []) rfl rk⟩)
    | none =>
      rw [hk] at g
      exact g.elim
  | exc C es S1 =>
    rw [hF] at g
    exact g.elim
  | stuck =>
    rw [hF] at g
    exact g.elim
/-! d[k] = v -/
def putDC (env : Env) (d o i : D) : Sto → R Fl := fun S => match o, keyD i with
  | .cell k, some key => (match S[k]? with
    | some (.dK kvs) => if kvs.length < sizeLine then .ok (.nx env) (S.set k (.dK (putKD kvs key d))) else .stuck
    | _ => .stuck)
  | _, _ => .stuck
def sPutD (Fe Fo Fi : FE) : FS := fun env S => sB env (Fe env S) fun d S1 => sB env (Fo env S1) fun o S2 => sB env (Fi env S2) fun i S3 => putDC env d o i S3
theorem sf_putD {o ie e : Expr} {Fe Fo Fi : FE} {pos' : Pos} (hu : X.A.units + 64 < cLine) (he : PF T X W e Fe) (ho : PF T X W o Fo) (hi : PF T X W ie Fi) (hs : swapsWith e (some (.Subscript o ie pos')) pos.line X.env = pure false := by rfl) :
    SF T X W (.Assign [.Subscript o ie pos'] e pos) (sPutD Fe Fo Fi) := ps_imp (ps_dput (Nat.lt_of_le_of_lt (by omega) hu) ho hi he hs) fun B σ H q => by
  obtain ⟨ρ, S, Z0, Z, env, a, g⟩ := q
  unfold sPutD at g
  refine lift_imp (lift_sB a g) fun v H1 ⟨ρ1, S1, d1, x1, a1, r1, g1⟩ => ?_
  refine lift_imp (lift_sB a1 g1) fun u H2 ⟨ρ2, S2, d2, x2, a2, r2, g2⟩ => ?_
  refine lift_imp (lift_sB a2 g2) fun y H3 ⟨ρ3, S3, d3, x3, a3, r3, g3⟩ => ?_
  have rv := (x2.trans x3).rep r1
  have ru := x3.rep r2
  unfold putDC at g3
  cases d2 with
  | cell k =>
    cases hk : keyD d3 with
    | none => rw [hk] at g3; exact g3.elim
    | some key =>
      rw [hk] at g3
      dsimp only at g3
      split at g3
      · rename_i kvs hS
        split at g3
        · rename_i hl
          obtain ⟨p, rfl, hp⟩ := ru
          obtain ⟨p', o, h1, h2, h3, vs, rfl, h4⟩ := a3.w.cells k _ hS
          rw [hp] at h1
          cases h1
          obtain rfl := keyD_ok hk r3
          obtain ⟨x4, a4⟩ := a3.putCell (c := .dK (putKD kvs key d1)) (o := .dK (putK vs key v)) hS hp ⟨_, rfl, h4.put key rv⟩
          exact ⟨p, _, rfl, DPut.k h3 (by rw [← h4.len]; exact hl), (show GoodF T X.K W B ρ3 Z0 Z H3 _ (.nx env) from g3) σ _ ρ3 Z x4 a4⟩
        · exact g3.elim
      · exact g3.elim
  | _ => exact g3.elim
end
end HT
set_option maxRecDepth 100000
set_option maxHeartbeats 1000000
namespace HT.C
open PySem PySem.Spec L2
open PyProof.Rows hiding St
def is_int : Ty → Option Bool
  | .b n => kitB n "int"
  | _ => none
def is_str : Ty → Option Bool
  | .b n => kitB n "str"
  | _ => none
def is_bool : Ty → Option Bool
  | .b n => kitB n "bool"
  | _ => none
def is_list : Ty → Option Bool
  | .b n => kitB n "list"
  | _ => none
def is_tuple : Ty → Option Bool
  | .b n => kitB n "tuple"
  | _ => none
def is_dict : Ty → Option Bool
  | .b n => kitB n "dict"
  | _ => none
def is_Shop : Ty → Option Bool := fun t => match t with
  | .b n => if n ∈ ty7 then some false else none
  | .own C => if C = "Shop" then some true else none
  | _ => none
def is_Rule : Ty → Option Bool := fun t => match t with
  | .b n => if n ∈ ty7 then some false else none
  | .own C => if C = "Rule" then some true else none
  | _ => none
def is_Live : Ty → Option Bool := fun t => match t with
  | .b n => if n ∈ ty7 then some false else none
  | .own C => if C = "Live" then some true else none
  | _ => none
def is_Library : Ty → Option Bool := fun t => match t with
  | .b n => if n ∈ ty7 then some false else none
  | .own C => if C = "Library" then some true else none
  | _ => none
def is_View : Ty → Option Bool := fun t => match t with
  | .b n => if n ∈ ty7 then some false else none
  | .own C => if C = "View" then some true else none
  | _ => none
def is_Stage : Ty → Option Bool := fun t => match t with
  | .b n => if n ∈ ty7 then some false else none
  | .own C => if C = "Stage" then some true else none
  | _ => none
def is_Step : Ty → Option Bool := fun t => match t with
  | .b n => if n ∈ ty7 then some false else none
  | .own C => if C = "Step" then some true else none
  | _ => none
def is_Sums : Ty → Option Bool := fun t => match t with
  | .b n => if n ∈ ty7 then some false else none
  | .own C => if C = "Sums" then some true else none
  | _ => none
def is_Bounds : Ty → Option Bool := fun t => match t with
  | .b n => if n ∈ ty7 then some false else none
  | .own C => if C = "Bounds" then some true else none
  | _ => none
end HT.C
set_option maxRecDepth 100000
set_option maxHeartbeats 1000000
namespace HT.C
open PySem PySem.Spec L2
open PyProof.Rows hiding St
/-! ### number_of -/
def M_number_of : List D → Cm D := mkM 2 4 ((sSeq (sFor (.many [2, 3]) (iEnumA (aCons (fFld ["Shop"] "rows" (vVar 0)) aNil)) (sIf (fAndT (fB (fArgs (a2 (gIsi is_str (.ty "str"))) (aCons (fVar 1) (aCons (fun _ => pure (.ty "str")) aNil)))) (fB (f2 (gEq false) (f2 gIx (fVar 3) (fun _ => pure (.int 0))) (fVar 1)))) (sRet (fVar 2)) sNil))
  (sRaise (fMk "UnknownName" "name" [] (aCons (fVar 1) aNil)))))
def N_number_of : List D → Cm D := frm M_number_of
/-! ### Shop.boxes -/
def M_Shop_boxes : List D → Cm D := mkM 2 2 ((sRet (fCell (oOne gList (aCons (f2 gIx (f2 gIx (fFld ["Shop"] "rows" (vVar 0)) (fCall N_number_of [] (aCons (fVar 0) (aCons (fVar 1) aNil)))) (fun _ => pure (.int 3))) aNil)))))
def N_Shop_boxes : List D → Cm D := frm M_Shop_boxes
/-! ### Shop.__eq__ -/
def M_Shop_eq : List D → Cm D := mkM 2 2 ((sRet (fAndV (fArgs (a2 (gIsi is_Shop (.own "Shop"))) (aCons (fVar 1) (aCons (fun _ => pure (.glob "Shop")) aNil))) (f2 (gEq false) (fFld ["Shop"] "rows" (vVar 0)) (fFld ["Shop"] "rows" (vVar 1))))))
def N_Shop_eq : List D → Cm D := frm M_Shop_eq
/-! ### Shop.groups -/
def M_Shop_groups : List D → Cm D := mkM 1 5 ((sRet (fCell (oLc [1, 2, 3, 4] (.many [1, 2, 3, 4]) (iSeq (fFld ["Shop"] "rows" (vVar 0))) (fun _ => pure true) (fTup (aCons (fVar 1) (aCons (fVar 2) (aCons (fVar 3) (aCons (fCell (oOne gList (aCons (fVar 4) aNil))) aNil)))))))))
def N_Shop_groups : List D → Cm D := frm M_Shop_groups
/-! ### is_name -/
def M_is_name : List D → Cm D := mkM 1 2 ((sSeq (sIf (fOrT (fNotT (fB (fArgs (a2 (gIsi is_str (.ty "str"))) (aCons (fVar 0) (aCons (fun _ => pure (.ty "str")) aNil))))) (fNotT (fB (fChain (gOrd (fun i j => decide (i ≤ j))) (gOrd (fun i j => decide (i ≤ j))) (fun _ => pure (.int 1)) (fArgs (a1 gLen) (aCons (fVar 0) aNil)) (fun _ => pure (.int 8)))))) (sRet (fun _ => pure (.bl false))) sNil)
  (sRet (f2 (gEq false) (fFrz (oLc [1] (.one 1) (iSeq (fVar 0)) (fB (f2 (gInS true) (fVar 1) (fun _ => pure (.str "abcdefghijklmnopqrstuvwxyz")))) (fVar 1))) (fFrz (oLst aNil))))))
def N_is_name : List D → Cm D := frm M_is_name
/-! ### are_names -/
def M_are_names : List D → Cm D := mkM 1 2 ((sSeq (sIf (fOrT (fNotT (fB (fArgs (a2 (gIsi is_list (.ty "list"))) (aCons (fVar 0) (aCons (fun _ => pure (.ty "list")) aNil))))) (fB (f2 (gEq true) (fFrz (oLc [1] (.one 1) (iSeq (fVar 0)) (fNotT (fB (fCall N_is_name [] (aCons (fVar 1) aNil)))) (fVar 1))) (fFrz (oLst aNil))))) (sRet (fun _ => pure (.bl false))) sNil)
  (sRet (f2 (gEq false) (f1 gLenSet (fVar 0)) (fArgs (a1 gLen) (aCons (fVar 0) aNil))))))
def N_are_names : List D → Cm D := frm M_are_names
/-! ### is_group -/
def M_is_group : List D → Cm D := mkM 1 1 ((sSeq (sIf (fOrT (fNotT (fB (fArgs (a2 (gIsi is_tuple (.ty "tuple"))) (aCons (fVar 0) (aCons (fun _ => pure (.ty "tuple")) aNil))))) (fOrT (fB (f2 (gEq true) (fArgs (a1 gLen) (aCons (fVar 0) aNil)) (fun _ => pure (.int 4)))) (fNotT (fB (fCall N_is_name [] (aCons (f2 gIx (fVar 0) (fun _ => pure (.int 0))) aNil)))))) (sRet (fun _ => pure (.bl false))) sNil)
  (sSeq (sIf (fOrT (fB (f2 (gInX true) (f2 gIx (fVar 0) (fun _ => pure (.int 1))) (fFrz (oLst (aCons (fun _ => pure (.str "or")) (aCons (fun _ => pure (.str "and")) aNil)))))) (fB (f2 (gInX true) (f2 gIx (fVar 0) (fun _ => pure (.int 2))) (fFrz (oLst (aCons (fun _ => pure (.str "one")) (aCons (fun _ => pure (.str "many")) aNil))))))) (sRet (fun _ => pure (.bl false))) sNil)
  (sRet (fAndV (fCall N_are_names [] (aCons (f2 gIx (fVar 0) (fun _ => pure (.int 3))) aNil)) (fChain (gOrd (fun i j => decide (i ≤ j))) (gOrd (fun i j => decide (i ≤ j))) (fun _ => pure (.int 1)) (fArgs (a1 gLen) (aCons (f2 gIx (fVar 0) (fun _ => pure (.int 3))) aNil)) (fun _ => pure (.int 5))))))))
def N_is_group : List D → Cm D := frm M_is_group
/-! ### Shop.__init__ -/
def M_Shop_init : List D → Cm CO := mkI 2 5 "Shop" ((sSeq (sIf (fOrT (fNotT (fB (fArgs (a2 (gIsi is_list (.ty "list"))) (aCons (fVar 1) (aCons (fun _ => pure (.ty "list")) aNil))))) (fNotT (fB (fChain (gOrd (fun i j => decide (i ≤ j))) (gOrd (fun i j => decide (i ≤ j))) (fun _ => pure (.int 1)) (fArgs (a1 gLen) (aCons (fVar 1) aNil)) (fun _ => pure (.int 4)))))) (sRaise (fMk "InvalidList" "value" [] (aCons (fVar 1) aNil))) sNil)
  (sSeq (sSet 2 (fCell (oLst aNil)))
  (sSeq (sFor (.one 3) (iSeq (fVar 1)) (sSeq (sIf (fOrT (fNotT (fB (fCall N_is_group [] (aCons (fVar 3) aNil)))) (fB (f2 (gInX false) (f2 gIx (fVar 3) (fun _ => pure (.int 0))) (fFrz (oLc [4] (.one 4) (iSeq (fVar 2)) (fun _ => pure true) (f2 gIx (fVar 4) (fun _ => pure (.int 0)))))))) (sRaise (fMk "InvalidItem" "value" [] (aCons (fVar 3) aNil))) sNil)
  (sApp 2 (fTup (aCons (f2 gIx (fVar 3) (fun _ => pure (.int 0))) (aCons (f2 gIx (fVar 3) (fun _ => pure (.int 1))) (aCons (f2 gIx (fVar 3) (fun _ => pure (.int 2))) (aCons (fArgs (a1 gTuple) (aCons (f2 gIx (fVar 3) (fun _ => pure (.int 3))) aNil)) aNil))))))))
  (sFldS 0 ["Shop"] "rows" (fArgs (a1 gTuple) (aCons (fVar 2) aNil)))))))
def N_Shop_init : List D → Cm CO := frmI M_Shop_init
/-! ### Shop.names -/
def M_Shop_names : List D → Cm D := mkM 1 2 ((sRet (fCell (oLc [1] (.one 1) (iSeq (fFld ["Shop"] "rows" (vVar 0))) (fun _ => pure true) (f2 gIx (fVar 1) (fun _ => pure (.int 0)))))))
def N_Shop_names : List D → Cm D := frm M_Shop_names
/-! ### _law_copied -/
def M__law_copied : List D → Cm D := mkM 1 5 ((sRet (fCell (oLc [1, 2, 3, 4] (.many [1, 2, 3, 4]) (iSeq (fVar 0)) (fun _ => pure true) (fTup (aCons (fVar 1) (aCons (fVar 2) (aCons (fVar 3) (aCons (fCell (oOne gList (aCons (fVar 4) aNil))) aNil)))))))))
def N__law_copied : List D → Cm D := frm M__law_copied
/-! ### _law_cell -/
def M__law_cell : List D → Cm D := mkM 2 2 ((sSeq (sIf (fB (f2 (gOrd (fun i j => decide (i < j))) (fVar 1) (fArgs (a1 gLen) (aCons (fVar 0) aNil)))) (sRet (f2 gIx (fVar 0) (fVar 1))) sNil)
  (sRet (fun _ => pure (.int 0)))))
def N__law_cell : List D → Cm D := frm M__law_cell
/-! ### _law_generator -/
def M__law_generator : List D → Cm D := mkM 2 3 ((sSeq (sSet 2 (fCall N__law_cell [] (aCons (fVar 0) (aCons (fVar 1) aNil))))
  (sRet (fCell (oLst (aCons (f2 gMod (fArgs (a1 gInt) (aCons (fArgs (a2 gMax) (aCons (f2 gSub (fVar 2) (f2 gPow (fun _ => pure (.int 10)) (fun _ => pure (.int 18)))) (aCons (fun _ => pure (.int 0)) aNil))) aNil)) (f2 gPow (f2 gPow (fun _ => pure (.int 10)) (fun _ => pure (.int 60))) (fun _ => pure (.int 10)))) (aCons (f2 gMod (fArgs (a1 gInt) (aCons (fVar 2) aNil)) (fun _ => pure (.int 2147483647))) (aCons (f2 gMul2 (fun _ => pure (.int 1000)) (fVar 1)) aNil))))))))
def N__law_generator : List D → Cm D := frm M__law_generator
/-! ### _law_hash -/
def M__law_hash : List D → Cm D := mkM 2 3 ((sSeq (sSet 2 (f2 gMod (fArgs (a1 gInt) (aCons (f2 gAdd (f2 gAdd (f2 gAdd (f2 gMul2 (fVar 0) (fun _ => pure (.int 1103515245))) (f2 gMul2 (f2 gMul2 (fun _ => pure (.int 7919)) (fVar 1)) (fVar 1))) (fVar 1)) (fun _ => pure (.int 1))) aNil)) (fun _ => pure (.int 2147483647))))
  (sSeq (sSet 2 (f2 gMod (fArgs (a1 gInt) (aCons (f2 gAdd (f2 gMul2 (fVar 2) (fVar 2)) (fun _ => pure (.int 69621))) aNil)) (fun _ => pure (.int 2147483629))))
  (sRet (f2 gMod (fArgs (a1 gInt) (aCons (f2 gMul2 (fVar 2) (fun _ => pure (.int 48271))) aNil)) (fun _ => pure (.int 2147483587)))))))
def N__law_hash : List D → Cm D := frm M__law_hash
/-! ### _law_random -/
def F__law_random_0 : FS := (sSet 2 (f2 gMod (fArgs (a1 gInt) (aCons (f2 gIx (fVar 0) (fun _ => pure (.int 0))) aNil)) (fVar 1)))
def F__law_random_1 : FS := (sPutC (f2 gDiv (f2 gIx (fVar 0) (fun _ => pure (.int 0))) (fVar 1)) (fVar 0) (fun _ => pure (.int 0)))
def F__law_random_2 : FS := (sRet (fVar 2))
def F__law_random_3 : FS := (sIf (fB (f2 (gOrd (fun i j => decide (j < i))) (f2 gIx (fVar 0) (fun _ => pure (.int 0))) (fun _ => pure (.int 0)))) (sSeq F__law_random_0
  (sSeq F__law_random_1
  F__law_random_2)) sNil)
def F__law_random_4 : FS := (sSet 2 (fun _ => pure (.int 0)))
def F__law_random_5 : FS := (sPutC (f2 gAdd (f2 gIx (fVar 0) (fun _ => pure (.int 2))) (fun _ => pure (.int 1))) (fVar 0) (fun _ => pure (.int 2)))
def F__law_random_6 : FS := (sSet 2 (f2 gAdd (f2 gMul2 (fVar 2) (fun _ => pure (.int 2147483587))) (fCall N__law_hash [] (aCons (f2 gIx (fVar 0) (fun _ => pure (.int 1))) (aCons (f2 gIx (fVar 0) (fun _ => pure (.int 2))) aNil)))))
def B__law_random_7 : FS := (sSeq F__law_random_5
  F__law_random_6)
def F__law_random_8 : FS := (sFor (.one 3) (iRg1 (aCons (f2 gAdd (fun _ => pure (.int 1)) (f2 gDiv (f1 gBits (fVar 1)) (fun _ => pure (.int 30)))) aNil)) B__law_random_7)
def F__law_random_9 : FS := (sRet (f2 gMod (fArgs (a1 gInt) (aCons (fVar 2) aNil)) (fVar 1)))
def M__law_random : List D → Cm D := mkM 2 4 ((sSeq F__law_random_3
  (sSeq F__law_random_4
  (sSeq F__law_random_8
  F__law_random_9))))
def N__law_random : List D → Cm D := mlt M__law_random
/-! ### _law_parts -/
def F__law_parts_0 : FS := (sSet 3 (fCell (oLst (aCons (fFrz (oLst (aCons (fun _ => pure (.str "red")) (aCons (fun _ => pure (.str "blue")) (aCons (fun _ => pure (.str "tan")) (aCons (fun _ => pure (.str "grey")) (aCons (fun _ => pure (.str "s")) aNil))))))) (aCons (fFrz (oLst (aCons (fun _ => pure (.str "s")) (aCons (fun _ => pure (.str "m")) (aCons (fun _ => pure (.str "l")) (aCons (fun _ => pure (.str "xl")) (aCons (fun _ => pure (.str "hue")) aNil))))))) (aCons (fFrz (oLst (aCons (fun _ => pure (.str "ada")) (aCons (fun _ => pure (.str "bo")) (aCons (fun _ => pure (.str "cy")) (aCons (fun _ => pure (.str "m")) (aCons (fun _ => pure (.str "ed")) aNil))))))) aNil))))))
def F__law_parts_1 : FS := (sApp 3 (fFrz (oLst (aCons (fun _ => pure (.str "a")) (aCons (fun _ => pure (.str "b")) (aCons (fun _ => pure (.str "red")) (aCons (fun _ => pure (.str "d")) (aCons (fun _ => pure (.str "abcdefgh")) aNil))))))))
def F__law_parts_2 : FS := (sPar 4 5 (aCons (fCell (oLst aNil)) (aCons (fun _ => pure (.int 1)) aNil)))
def F__law_parts_3 : FS := (sPar 7 8 (aCons (f2 gIx (fFrz (oLst (aCons (fun _ => pure (.str "or")) (aCons (fun _ => pure (.str "and")) aNil)))) (fCall N__law_random [] (aCons (fVar 0) (aCons (fun _ => pure (.int 2)) aNil)))) (aCons (f2 gIx (fFrz (oLst (aCons (fun _ => pure (.str "one")) (aCons (fun _ => pure (.str "many")) aNil)))) (fCall N__law_random [] (aCons (fVar 0) (aCons (fun _ => pure (.int 2)) aNil)))) aNil)))
def F__law_parts_4 : FS := (sSet 9 (f3 gSl (f2 gIx (fVar 3) (fVar 6)) pNone (pSome (f2 gAdd (fun _ => pure (.int 1)) (fCall N__law_random [] (aCons (fVar 0) (aCons (fVar 2) aNil)))))))
def F__law_parts_5 : FS := (sSet 5 (f2 gMul2 (fVar 5) (fIfT (fAndT (fB (f2 (gEq false) (fVar 8) (fun _ => pure (.str "one")))) (fB (f2 (gOrd (fun i j => decide (j < i))) (fVar 6) (fun _ => pure (.int 0))))) (fArgs (a1 gLen) (aCons (fVar 9) aNil)) (f2 gIx (fFrz (oLst (aCons (fun _ => pure (.int 1)) (aCons (fun _ => pure (.int 2)) (aCons (fun _ => pure (.int 4)) (aCons (fun _ => pure (.int 8)) (aCons (fun _ => pure (.int 16)) (aCons (fun _ => pure (.int 32)) aNil)))))))) (fArgs (a1 gLen) (aCons (fVar 9) aNil))))))
def F__law_parts_6 : FS := (sApp 4 (fTup (aCons (f2 gIx (fFrz (oLst (aCons (fun _ => pure (.str "hue")) (aCons (fun _ => pure (.str "size")) (aCons (fun _ => pure (.str "make")) (aCons (fun _ => pure (.str "x")) aNil)))))) (fVar 6)) (aCons (fVar 7) (aCons (fVar 8) (aCons (fVar 9) aNil))))))
def F__law_parts_7 : FS := (sIf (fB (f2 (gOrd (fun i j => decide (i ≤ j))) (fVar 5) (fun _ => pure (.int 1024)))) F__law_parts_6 sNil)
def B__law_parts_8 : FS := (sSeq F__law_parts_3
  (sSeq F__law_parts_4
  (sSeq F__law_parts_5
  F__law_parts_7)))
def F__law_parts_9 : FS := (sFor (.one 6) (iRg1 (aCons (fVar 1) aNil)) B__law_parts_8)
def F__law_parts_10 : FS := (sRet (fVar 4))
def M__law_parts : List D → Cm D := mkM 3 10 ((sSeq F__law_parts_0
  (sSeq F__law_parts_1
  (sSeq F__law_parts_2
  (sSeq F__law_parts_9
  F__law_parts_10)))))
def N__law_parts : List D → Cm D := mlt M__law_parts
end HT.C
set_option maxRecDepth 100000
set_option maxHeartbeats 1000000
namespace HT.C
open PySem PySem.Spec L2
open PyProof.Rows hiding St
/-! ### plain reasoning about the defs' functions -/
theorem pure_ap {α : Type} (a : α) (S : Sto) : (pure a : Cm α) S = .ok a S := rfl
theorem stk_ap {α : Type} (S : Sto) : (stk : Cm α) S = .stuck := rfl
theorem bnd_ok {α β : Type} (a : α) (S : Sto) (f : α → Cm β) : (R.ok a S).bnd f = f a S := rfl
theorem bnd_exc {α β : Type} (C : Str) (fs : List (Str × D)) (S : Sto) (f : α → Cm β) : (R.exc C fs S).bnd f = .exc C fs S := rfl
theorem seq_nx {F G : FS} {env e' : Env} {S S' : Sto} (h : F env S = .ok (.nx e') S') : sSeq F G env S = G e' S' := by
  unfold sSeq
  rw [h]
theorem seq_rt {F G : FS} {env : Env} {S S' : Sto} {d : D} (h : F env S = .ok (.rt d) S') : sSeq F G env S = .ok (.rt d) S' := by
  unfold sSeq
  rw [h]
theorem seq_xc {F G : FS} {env e' : Env} {S S' : Sto} {C : Str} {fs : List (Str × D)} (h : F env S = .ok (.xc e' C fs) S') : sSeq F G env S = .ok (.xc e' C fs) S' := by
  unfold sSeq
  rw [h]
theorem mk_rt {np n : Nat} {F : FS} {ds : List D} {env : Env} {S S' : Sto} {d : D} (h : ds.length = np) (he : ds.map .val ++ List.replicate (n - np) .un = env) (hF : F env S = .ok (.rt d) S') : mkM np n F ds S = .ok d S' := by
  subst h
  subst he
  unfold mkM
  simp [hF]
theorem mk_nx {np n : Nat} {F : FS} {ds : List D} {env e' : Env} {S S' : Sto} (h : ds.length = np) (he : ds.map .val ++ List.replicate (n - np) .un = env) (hF : F env S = .ok (.nx e') S') : mkM np n F ds S = .ok .non S' := by
  subst h
  subst he
  unfold mkM
  simp [hF]
theorem mk_xc {np n : Nat} {F : FS} {ds : List D} {env e' : Env} {S S' : Sto} {C : Str} {fs : List (Str × D)} (h : ds.length = np) (he : ds.map .val ++ List.replicate (n - np) .un = env) (hF : F env S = .ok (.xc e' C fs) S') : mkM np n F ds S = .exc C fs S' := by
  subst h
  subst he
  unfold mkM
  simp [hF]
/-- a call that sees nothing of the store -/
theorem frm_cl {M : List D → Cm D} {ds : List D} {S : Sto} {d : D} (hc : clL ds = true) (e : M ds [] = .ok d []) : frm M ds S = .ok d S := by
  show (if clL ds = true then _ else _) = _
  rw [if_pos hc, e]
  rfl
theorem frm_exc {M : List D → Cm D} {ds : List D} {S : Sto} {C : Str} {fs : List (Str × D)} (hc : clL ds = true) (e : M ds [] = .exc C fs []) : frm M ds S = .exc C fs S := by
  show (if clL ds = true then _ else _) = _
  rw [if_pos hc, e]
  rfl
theorem frm_cell {M : List D → Cm D} {ds : List D} {S T : Sto} {d d' : D} (hc : clL ds = true) (e : M ds [] = .ok d T) (hT : T ≠ []) (hm : melt0 (meltC T 0 6) d = some d') : frm M ds S = .ok d' S := by
  have hl : ¬ T.length = ([] : Sto).length := fun h => hT (List.eq_nil_of_length_eq_zero h)
  have e2 : mltR [] (.ok d T) = .ok d' [] := by
    show (if T.length = ([] : Sto).length then _ else _) = _
    rw [if_neg hl]
    show (match melt0 (meltC T 0 6) d, mkeep (meltC T 0 6) [] T with
        | some d', some S'' => R.ok d' S''
        | _, _ => .stuck) = _
    rw [hm]
    rfl
  show (if clL ds = true then _ else _) = _
  rw [if_pos hc, e, e2]
  rfl
theorem frmI_cell {M : List D → Cm CO} {ds : List D} {S T : Sto} {d d' : CO} (hc : clL ds = true) (e : M ds [] = .ok d T) (hT : T ≠ []) (hm : meltCO (meltC T 0 6) d = some d') : frmI M ds S = .ok d' S := by
  have hl : ¬ T.length = ([] : Sto).length := fun h => hT (List.eq_nil_of_length_eq_zero h)
  have e2 : mltO [] (.ok d T) = .ok d' [] := by
    show (if T.length = ([] : Sto).length then _ else _) = _
    rw [if_neg hl]
    show (match meltCO (meltC T 0 6) d, mkeep (meltC T 0 6) [] T with
        | some d', some S'' => R.ok d' S''
        | _, _ => .stuck) = _
    rw [hm]
    rfl
  show (if clL ds = true then _ else _) = _
  rw [if_pos hc, e, e2]
  rfl
/-- .. that reads the cells as they are -/
theorem frmI_snap {M : List D → Cm CO} {ds es : List D} {S T : Sto} {d d' : CO} (hc : clL ds = false) (hs : meltL (meltC S 0 6) ds = some es) (e : M es [] = .ok d T) (hT : T ≠ []) (hm : meltCO (meltC T 0 6) d = some d') (hf : lfCO d' = true) : frmI M ds S = .ok d' S := by
  have hl : ¬ T.length = ([] : Sto).length := fun h => hT (List.eq_nil_of_length_eq_zero h)
  have e2 : mltO [] (.ok d T) = .ok d' [] := by
    show (if T.length = ([] : Sto).length then _ else _) = _
    rw [if_neg hl]
    show (match meltCO (meltC T 0 6) d, mkeep (meltC T 0 6) [] T with
        | some d', some S'' => R.ok d' S''
        | _, _ => .stuck) = _
    rw [hm]
    rfl
  show (if clL ds = true then _ else _) = _
  rw [if_neg (by rw [hc]; exact Bool.false_ne_true), hs]
  dsimp only
  rw [e, e2]
  exact if_pos hf
/- closed data is molten to itself -/
mutual
theorem melt_cl (f : Nat → Option D) : ∀ d : D, clD d = true → melt0 f d = some d
  | .lst ds, h => by show (meltL f ds).map D.lst = _; rw [meltL_cl f ds h]; rfl
  | .klst ds, h => by show (meltL f ds).map D.klst = _; rw [meltL_cl f ds h]; rfl
  | .tup ds, h => by show (meltL f ds).map D.tup = _; rw [meltL_cl f ds h]; rfl
  | .obj C fs, h => by show (meltF f fs).map (D.obj C) = _; rw [meltF_cl f fs h]; rfl
  | .exn C fs, h => by show (meltF f fs).map (D.exn C) = _; rw [meltF_cl f fs h]; rfl
  | .dK kvs, h => by show (meltK f kvs).map D.dK = _; rw [meltK_cl f kvs h]; rfl
  | .dT kvs, h => by show (meltT f kvs).map D.dT = _; rw [meltT_cl f kvs h]; rfl
  | .cell _, h => by cases h
  | .non, _ => rfl
  | .bl _, _ => rfl
  | .int _, _ => rfl
  | .str _, _ => rfl
  | .glob _, _ => rfl
  | .ty _, _ => rfl
theorem meltL_cl (f : Nat → Option D) : ∀ d : List D, clL d = true → meltL f d = some d
  | [], _ => rfl
  | d :: ds, h => by show (match melt0 f d, meltL f ds with | some a, some b => some (a :: b) | _, _ => none) = _; rw [melt_cl f d (bAnd h).1, meltL_cl f ds (bAnd h).2]
theorem meltF_cl (f : Nat → Option D) : ∀ d : List (Str × D), clF d = true → meltF f d = some d
  | [], _ => rfl
  | (x, d) :: ds, h => by show (match melt0 f d, meltF f ds with | some a, some b => some ((x, a) :: b) | _, _ => none) = _; rw [melt_cl f d (bAnd h).1, meltF_cl f ds (bAnd h).2]
theorem meltK_cl (f : Nat → Option D) : ∀ d : List (Key × D), clK d = true → meltK f d = some d
  | [], _ => rfl
  | (x, d) :: ds, h => by show (match melt0 f d, meltK f ds with | some a, some b => some ((x, a) :: b) | _, _ => none) = _; rw [melt_cl f d (bAnd h).1, meltK_cl f ds (bAnd h).2]
theorem meltT_cl (f : Nat → Option D) : ∀ d : List (List Key × D), clT d = true → meltT f d = some d
  | [], _ => rfl
  | (x, d) :: ds, h => by show (match melt0 f d, meltT f ds with | some a, some b => some ((x, a) :: b) | _, _ => none) = _; rw [melt_cl f d (bAnd h).1, meltT_cl f ds (bAnd h).2]
end
theorem clL_map {α : Type} (f : α → D) (h : ∀ a, clD (f a) = true) : ∀ l : List α, clL (l.map f) = true
  | [] => rfl
  | a :: l => by show (clD (f a) && clL (l.map f)) = true; rw [h a, clL_map f h l]; rfl
theorem clL_app : ∀ {a b : List D}, clL a = true → clL b = true → clL (a ++ b) = true
  | [], b, _, h => h
  | d :: a, b, h, h2 => by show (clD d && clL (a ++ b)) = true; rw [(bAnd h).1, clL_app (bAnd h).2 h2]; rfl
/-- a new cell read off at once -/
theorem melt_top {c : CO} {T : Sto} {k : Nat} {m : Nat} (hk : T[k]? = some c) (hc : meltCO (meltC T 0 m) c = some c) : melt0 (meltC T 0 (m + 1)) (.cell k) = some (frzD c) := by
  have e : melt0 (meltC T 0 (m + 1)) (.cell k) = meltC T 0 (m + 1) k := rfl
  rw [e]
  unfold meltC
  rw [if_neg (Nat.not_lt_zero k), hk]
  dsimp only
  rw [hc]
  rfl
/-- a loop by its invariant -/
theorem loop_inv {b : Bd} {src : Src} {body : FS} (I : List D → Env → Sto → Prop) (hend : ∀ e S, I [] e S → chk src S = true)
    (hstep : ∀ d r e S, I (d :: r) e S → chk src S = true ∧ ∃ e1 e2 S2, bindE b d e = some e1 ∧ body e1 S = .ok (.nx e2) S2 ∧ I r e2 S2) :
    ∀ (ds : List D) (e : Env) (S : Sto), I ds e S → ∃ e' S', loopD b src body ds e S = .ok (.nx e') S' ∧ I [] e' S'
  | [], e, S, h => ⟨e, S, by unfold loopD; rw [if_pos (hend e S h)], h⟩
  | d :: r, e, S, h => by
    obtain ⟨hc, e1, e2, S2, h1, h2, h3⟩ := hstep d r e S h
    obtain ⟨e', S', h4, h5⟩ := loop_inv I hend hstep r e2 S2 h3
    refine ⟨e', S', ?_, h5⟩
    unfold loopD
    rw [if_pos hc, h1]
    dsimp only
    rw [h2]
    exact h4
/-- one turn of a loop -/
theorem loop_cons {b : Bd} {src : Src} {body : FS} {d : D} {r : List D} {e e1 e2 : Env} {S S2 : Sto} (hc : chk src S = true) (h1 : bindE b d e = some e1) (h2 : body e1 S = .ok (.nx e2) S2) : loopD b src body (d :: r) e S = loopD b src body r e2 S2 := by
  conv => lhs; unfold loopD
  rw [if_pos hc, h1]
  dsimp only
  rw [h2]
theorem loop_nil {b : Bd} {src : Src} {body : FS} {e : Env} {S : Sto} (hc : chk src S = true) : loopD b src body [] e S = .ok (.nx e) S := by
  unfold loopD
  rw [if_pos hc]
/-- the turn that leaves -/
theorem loop_rt {b : Bd} {src : Src} {body : FS} {d v : D} {r : List D} {e e1 : Env} {S S2 : Sto} (hc : chk src S = true) (h1 : bindE b d e = some e1) (h2 : body e1 S = .ok (.rt v) S2) : loopD b src body (d :: r) e S = .ok (.rt v) S2 := by
  unfold loopD
  rw [if_pos hc, h1]
  dsimp only
  rw [h2]
theorem loop_xc {b : Bd} {src : Src} {body : FS} {d : D} {C : Str} {fs : List (Str × D)} {r : List D} {e e1 e2 : Env} {S S2 : Sto} (hc : chk src S = true) (h1 : bindE b d e = some e1) (h2 : body e1 S = .ok (.xc e2 C fs) S2) : loopD b src body (d :: r) e S = .ok (.xc e2 C fs) S2 := by
  unfold loopD
  rw [if_pos hc, h1]
  dsimp only
  rw [h2]
/-- a comprehension whose parts change nothing -/
theorem comp_pure {b : Bd} {src : Src} {Ft : Env → Cm Bool} {Fe : FE} {env0 : Env} {S : Sto} (hc : chk src S = true) (sel : D → Option D) : ∀ (ds : List D),
    (∀ d ∈ ds, ∃ e1, bindE b d env0 = some e1 ∧ ((Ft e1 S = .ok false S ∧ sel d = none) ∨ ∃ y, Ft e1 S = .ok true S ∧ Fe e1 S = .ok y S ∧ sel d = some y)) → compL b src Ft Fe env0 ds S = some (ds.filterMap sel, S)
  | [], _ => by unfold compL; rw [if_pos hc]; rfl
  | d :: r, h => by
    have ih := comp_pure (b := b) (src := src) (Ft := Ft) (Fe := Fe) (env0 := env0) hc sel r fun x hx => h x (List.mem_cons_of_mem _ hx)
    obtain ⟨e1, h1, h2⟩ := h d List.mem_cons_self
    unfold compL
    rw [if_pos hc, h1]
    dsimp only
    rcases h2 with ⟨q1, q2⟩ | ⟨y, q1, q2, q3⟩
    · rw [q1]
      show compL b src Ft Fe env0 r S = _
      rw [ih, List.filterMap_cons, q2]
    · rw [q1]
      show (match nox (Fe e1 S) with
          | none => none
          | some (y, S2) => match compL b src Ft Fe env0 r S2 with
            | none => none
            | some (ys, S3) => some (y :: ys, S3)) = _
      rw [q2]
      show (match compL b src Ft Fe env0 r S with
            | none => none
            | some (ys, S3) => some (y :: ys, S3)) = _
      rw [ih, List.filterMap_cons, q3]
theorem sel_none {l : List D} {sel : D → Option D} (h : ∀ d ∈ l, sel d = none) : l.filterMap sel = [] := by
  induction l with
  | nil => rfl
  | cons a l ih => rw [List.filterMap_cons, h a List.mem_cons_self]; exact ih fun d hd => h d (List.mem_cons_of_mem _ hd)
theorem sl5 {n : Nat} (h : n ≤ 16000) : n ≤ sizeLine := by rw [sizeLine_eq]; omega
end HT.C
set_option maxRecDepth 100000
set_option maxHeartbeats 1000000
namespace HT.C
open PySem PySem.Spec L2
open PyProof.Rows hiding St
/-! ### the combinators, step by step -/
section
variable {env e1 : Env} {S S1 S2 S3 : Sto} {F G Fa Fb Fc : FE} {x y z d : D} {r : R D}
theorem ev_var {i : Nat} (h : env[i]? = some (.val d)) : fVar i env S = .ok d S := by unfold fVar; rw [h]; rfl
theorem ev_c {d : D} {S : Sto} : (pure d : Cm D) S = .ok d S := rfl
theorem ev_f2 {g : D → D → Cm D} (ha : Fa env S = .ok x S1) (hb : Fb env S1 = .ok y S2) (hg : g x y S2 = r) : f2 g Fa Fb env S = r := by unfold f2; rw [ha, bnd_ok, hb, bnd_ok]; exact hg
theorem ev_f1 {g : D → Cm D} (ha : Fa env S = .ok x S1) (hg : g x S1 = r) : f1 g Fa env S = r := by unfold f1; rw [ha, bnd_ok]; exact hg
theorem ev_fB {b : Bool} (h : F env S = .ok (.bl b) S1) : fB F env S = .ok b S1 := by unfold fB; rw [h]; rfl
theorem ev_notT {T : Env → Cm Bool} {b : Bool} (h : T env S = .ok b S1) : fNotT T env S = .ok (!b) S1 := by unfold fNotT; rw [h]; rfl
theorem ev_orT_t {T U : Env → Cm Bool} (h : T env S = .ok true S1) : fOrT T U env S = .ok true S1 := by unfold fOrT; rw [h, bnd_ok]; exact if_pos rfl
theorem ev_orT_f {T U : Env → Cm Bool} {r : R Bool} (h : T env S = .ok false S1) (h2 : U env S1 = r) : fOrT T U env S = r := by unfold fOrT; rw [h, bnd_ok]; exact h2
theorem ev_andT_f {T U : Env → Cm Bool} (h : T env S = .ok false S1) : fAndT T U env S = .ok false S1 := by unfold fAndT; rw [h, bnd_ok]; rfl
theorem ev_andT_t {T U : Env → Cm Bool} {r : R Bool} (h : T env S = .ok true S1) (h2 : U env S1 = r) : fAndT T U env S = r := by unfold fAndT; rw [h, bnd_ok]; exact h2
theorem ev_andV_f (h : F env S = .ok (.bl false) S1) : fAndV F G env S = .ok (.bl false) S1 := by unfold fAndV; rw [h, bnd_ok]; rfl
theorem ev_andV_t (h : F env S = .ok (.bl true) S1) (h2 : G env S1 = r) : fAndV F G env S = r := by unfold fAndV; rw [h, bnd_ok]; exact h2
theorem ev_ifT_t {α : Type} {T : Env → Cm Bool} {A B : Env → Cm α} {r : R α} (h : T env S = .ok true S1) (h2 : A env S1 = r) : fIfT T A B env S = r := by unfold fIfT; rw [h, bnd_ok]; exact h2
theorem ev_ifT_f {α : Type} {T : Env → Cm Bool} {A B : Env → Cm α} {r : R α} (h : T env S = .ok false S1) (h2 : B env S1 = r) : fIfT T A B env S = r := by unfold fIfT; rw [h, bnd_ok]; exact h2
theorem ev_nil : aNil env S = .ok [] S := rfl
theorem ev_cons {Fr : Env → Cm (List D)} {xs : List D} (ha : Fa env S = .ok x S1) (hr : Fr env S1 = .ok xs S2) : aCons Fa Fr env S = .ok (x :: xs) S2 := by unfold aCons; rw [ha, bnd_ok, hr]; rfl
theorem ev_args {g : List D → Cm D} {Fr : Env → Cm (List D)} {xs : List D} (ha : Fr env S = .ok xs S1) (hg : g xs S1 = r) : fArgs g Fr env S = r := by unfold fArgs; rw [ha, bnd_ok]; exact hg
theorem ev_call {M : List D → Cm D} {ds : List D} {Fr : Env → Cm (List D)} {xs : List D} (ha : Fr env S = .ok xs S1) (hg : M (xs ++ ds) S1 = r) : fCall M ds Fr env S = r := by unfold fCall; rw [ha, bnd_ok]; exact hg
theorem ev_frz {Fo : Env → Cm CO} {c : CO} (h : Fo env S = .ok c S1) : fFrz Fo env S = .ok (frzD c) S1 := by unfold fFrz; rw [h]; rfl
theorem ev_cell {Fo : Env → Cm CO} {c : CO} (h : Fo env S = .ok c S1) : fCell Fo env S = .ok (.cell S1.length) (S1 ++ [c]) := by unfold fCell; rw [h]; rfl
theorem ev_lst {Fr : Env → Cm (List D)} {xs : List D} (ha : Fr env S = .ok xs S1) (hl : xs.length ≤ 16000 := by first | decide | simp) : oLst Fr env S = .ok (.lst xs) S1 := by unfold oLst; rw [ha, bnd_ok]; exact if_pos (sl5 hl)
theorem ev_tup {Fr : Env → Cm (List D)} {xs : List D} (ha : Fr env S = .ok xs S1) (hl : xs.length ≤ 16000 := by first | decide | simp) : fTup Fr env S = .ok (.tup xs) S1 := by unfold fTup; rw [ha, bnd_ok]; exact if_pos (sl5 hl)
theorem ev_make {M : List D → Cm CO} {ds : List D} {Fr : Env → Cm (List D)} {xs : List D} {r : R CO} (ha : Fr env S = .ok xs S1) (hg : M (xs ++ ds) S1 = r) : oMake M ds Fr env S = r := by unfold oMake; rw [ha, bnd_ok]; exact hg
theorem ev_one {g : D → Cm CO} {Fr : Env → Cm (List D)} {r : R CO} (ha : Fr env S = .ok [x] S1) (hg : g x S1 = r) : oOne g Fr env S = r := by unfold oOne; rw [ha, bnd_ok]; exact hg
theorem ev_lc {vs : List Nat} {b : Bd} {Gi : Env → Cm (List D × Src)} {Ft : Env → Cm Bool} {Fe : FE} {ds ys : List D} {src : Src} (hi : Gi env S = .ok (ds, src) S1) (hc : compL b src Ft Fe (wipeE env vs) ds S1 = some (ys, S2)) (hl : ys.length ≤ 16000) : oLc vs b Gi Ft Fe env S = .ok (.lst ys) S2 := by
  unfold oLc
  rw [hi, bnd_ok]
  dsimp only
  rw [hc]
  show (if (([] : List D) ++ ys).length ≤ sizeLine then R.ok (CO.lst ([] ++ ys)) S2 else .stuck) = _
  rw [List.nil_append]
  exact if_pos (sl5 hl)
theorem ev_meth {C m : Str} {M : List D → Cm D} {ds : List D} {Fo : FE} {Fr : Env → Cm (List D)} {o : D} {fs : List (Str × D)} {xs : List D} (ho : Fo env S = .ok o S1) (hc : asCO S1 o = some (.ins C fs)) (hm : fs.lookup m = none) (ha : Fr env S1 = .ok xs S2) (hr : M (o :: (xs ++ ds)) S2 = r) : fMeth C m M ds Fo Fr env S = r := by
  unfold fMeth
  rw [ho, bnd_ok, hc]
  dsimp only
  rw [if_pos ⟨rfl, hm⟩, ha, bnd_ok]
  exact hr
-- statements
theorem ev_set {i : Nat} (h : F env S = .ok d S1) : sSet i F env S = .ok (.nx (env.set i (.val d))) S1 := by unfold sSet; rw [h]; rfl
theorem ev_ret (h : F env S = .ok d S1) : sRet F env S = .ok (.rt d) S1 := by unfold sRet; rw [h]; rfl
theorem ev_expr (h : F env S = .ok d S1) : sExpr F env S = .ok (.nx env) S1 := by unfold sExpr; rw [h]; rfl
theorem ev_expr_xc {C : Str} {fs : List (Str × D)} (h : F env S = .exc C fs S1) : sExpr F env S = .ok (.xc env C fs) S1 := by unfold sExpr; rw [h]; rfl
theorem ev_if_t {T : Env → Cm Bool} {A B : FS} {r : R Fl} (h : T env S = .ok true S1) (h2 : A env S1 = r) : sIf T A B env S = r := by unfold sIf; rw [h]; exact h2
theorem ev_if_f {T : Env → Cm Bool} {A B : FS} {r : R Fl} (h : T env S = .ok false S1) (h2 : B env S1 = r) : sIf T A B env S = r := by unfold sIf; rw [h]; exact h2
theorem ev_skip {T : Env → Cm Bool} {A : FS} (h : T env S = .ok false S1) : sIf T A sNil env S = .ok (.nx env) S1 := ev_if_f h rfl
theorem ev_for {b : Bd} {Gi : Env → Cm (List D × Src)} {body : FS} {ds : List D} {src : Src} {r : R Fl} (h : Gi env S = .ok (ds, src) S1) (hs : src.isHid = false) (hl : loopD b src body ds env S1 = r) : sFor b Gi body env S = r := by
  unfold sFor
  rw [h]
  show (if src.isHid = true then _ else _) = _
  rw [hs]
  exact hl
theorem ev_seq {A B : FS} {e' : Env} {r : R Fl} (h : A env S = .ok (.nx e') S1) (h2 : B e' S1 = r) : sSeq A B env S = r := (seq_nx h).trans h2
theorem ev_raise {C f : Str} {Fr : Env → Cm (List D)} (h : Fr env S = .ok [d] S1) : sRaise (fMk C f [] Fr) env S = .ok (.xc env C [(f, d)]) S1 := by unfold sRaise fMk; rw [h]; rfl
theorem ev_seqL {ds : List D} (h : F env S = .ok (.lst ds) S1) : iSeq F env S = .ok (ds, .fz) S1 := by unfold iSeq; rw [h]; rfl
theorem ev_seqT {ds : List D} (h : F env S = .ok (.tup ds) S1) : iSeq F env S = .ok (ds, .fz) S1 := by unfold iSeq; rw [h]; rfl
theorem ev_seqC {k : Nat} {ds : List D} (h : F env S = .ok (.cell k) S1) (hk : S1[k]? = some (.lst ds)) : iSeq F env S = .ok (ds, .cl k (.lst ds)) S1 := by
  unfold iSeq
  rw [h, bnd_ok]
  show (match walkD S1 (.cell k) with | some p => R.ok p S1 | none => .stuck) = _
  have : walkD S1 (.cell k) = some (ds, Src.cl k (.lst ds)) := by
    show (match S1[k]? with | some (.lst ds) => some (ds, Src.cl k (.lst ds)) | _ => none) = _
    rw [hk]
  rw [this]
theorem chk_cl {k : Nat} {c : CO} (hk : S[k]? = some c) : chk (.cl k c) S = true := by
  show (match S[k]? with | some c' => eqCO c c' | none => false) = true
  rw [hk]
  exact eqCO_rfl _
theorem asL_cell {k : Nat} {ds : List D} (hk : S[k]? = some (.lst ds)) : asL S (.cell k) = some ds := by
  show (match S[k]? with | some (.lst ds) => some ds | _ => none) = _
  rw [hk]
theorem asLT_cell {k : Nat} {ds : List D} (hk : S[k]? = some (.lst ds)) : asLT S (.cell k) = some ds := by
  show (match S[k]? with | some (.lst ds) => some ds | _ => none) = _
  rw [hk]
theorem lstAt_cell {k : Nat} {ds : List D} (hk : S[k]? = some (.lst ds)) : lstAt S k = some ds := by unfold lstAt; rw [hk]
theorem ty_cell {k : Nat} {ds : List D} (hk : S[k]? = some (.lst ds)) : tyD S (.cell k) = some (.b "list") := by
  show (match S[k]? with | some (.lst _) => some (Ty.b "list") | some (.dK _) => some (Ty.b "dict") | some (.dT _) => some (Ty.b "dict") | some (.ins C _) => some (Ty.own C) | none => none) = _
  rw [hk]
theorem ev_len {ds : List D} (hs : ∀ z, x ≠ .str z) (h : asQ2 S x = some ds) : a1 gLen [x] S = .ok (.int ds.length) S := by
  show gLen x S = _
  unfold gLen
  split
  · exact absurd rfl (hs _)
  · rw [h]
theorem ev_tupleL {ds : List D} (hs : ∀ z, x ≠ .tup z) (h : asL S x = some ds) : a1 gTuple [x] S = .ok (.tup ds) S := by
  show gTuple x S = _
  unfold gTuple
  split
  · exact absurd rfl (hs _)
  · rw [h]
theorem ev_isi {tb : Ty → Option Bool} {n : String} {t : Ty} {b : Bool} (ht : tyD S x = some t) (hb : tb t = some b) : a2 (gIsi tb (.ty n)) [x, .ty n] S = .ok (.bl b) S := by
  show gIsi tb (.ty n) x (.ty n) S = _
  unfold gIsi
  rw [if_pos (by show (n == n) = true; exact beq_self_eq_true n), ht]
  dsimp only
  rw [hb]
theorem ev_appC {i k : Nat} {ds : List D} (hv : env[i]? = some (.val (.cell k))) (h0 : (lstAt S k).isSome = true) (h : F env S = .ok d S1) (hk : S1[k]? = some (.lst ds)) (hl : ds.length < 16000) : sApp i F env S = .ok (.nx env) (S1.set k (.lst (ds ++ [d]))) := by
  unfold sApp
  rw [hv]
  dsimp only
  rw [if_pos h0, h]
  show appC env k d S1 = _
  unfold appC
  rw [lstAt_cell hk]
  dsimp only
  rw [if_pos (Nat.lt_of_lt_of_le hl (sl5 (Nat.le_refl _)))]
theorem at0 {a : D} {l : List D} : atI (a :: l) 0 = some a := atI_nat (j := 0) rfl
end
end HT.C
set_option maxRecDepth 100000
set_option maxHeartbeats 1000000
namespace HT.C
open PySem PySem.Spec L2
open PyProof.Rows hiding St
/-! ### groups, shops -/
structure Gp where
  nm : Str
  md : Str
  br : Str
  bx : List Str
def strD (x : Str) : D := .str x
def itF (g : Gp) : D := .tup [.str g.nm, .str g.md, .str g.br, .lst (g.bx.map .str)]
def rowD (g : Gp) : D := .tup [.str g.nm, .str g.md, .str g.br, .tup (g.bx.map .str)]
def shopD (ps : List Gp) : D := .obj "Shop" [("rows", .tup (ps.map rowD))]
theorem cl_strs (l : List Str) : clL (l.map .str) = true := clL_map _ (fun _ => rfl) l
theorem cl_itF (g : Gp) : clD (itF g) = true := by
  show (true && (true && (true && (clL (g.bx.map .str) && true)))) = true
  rw [cl_strs]
  rfl
theorem cl_rowD (g : Gp) : clD (rowD g) = true := by
  show (true && (true && (true && (clL (g.bx.map .str) && true)))) = true
  rw [cl_strs]
  rfl
theorem cl_its (l : List Gp) : clL (l.map itF) = true := clL_map _ cl_itF l
theorem cl_rows (l : List Gp) : clL (l.map rowD) = true := clL_map _ cl_rowD l
theorem cl_shop (l : List Gp) : clD (shopD l) = true := by
  show (clL (l.map rowD) && true) = true
  rw [cl_rows]
  rfl
/-- what names there are -/
def grpW : List Str := ["hue", "size", "make", "x", "huex", "sizex", "makex", "xx"]
def boxT : List (List Str) := [["red", "blue", "tan", "grey", "s"], ["s", "m", "l", "xl", "hue"], ["ada", "bo", "cy", "m", "ed"], ["a", "b", "red", "d", "abcdefgh"]]
def boxT3 : List (List Str) := [["s", "m", "xl"], ["ada", "bo", "red"]]
def boxT2 : List (List Str) := boxT ++ boxT3
def boxB : List (List Str) := boxT2.flatMap fun l => [l.take 1, l.take 2, l.take 3, l.take 4, l.take 5]
def boxP : List (List Str) := boxB ++ boxB.map List.reverse
def boxW : List (List Str) := boxP ++ boxP.map List.reverse ++ boxP.map (fun l => ("z" : Str) :: l.drop 1) ++ [[("z" : Str)]]
def isT (r : R D) : Bool := match r with
  | .ok (.bl true) [] => true
  | _ => false
theorem isT_ok {r : R D} (h : isT r = true) : r = .ok (.bl true) [] := by
  unfold isT at h
  split at h
  · rfl
  · cases h
theorem frm_T {M : List D → Cm D} {ds : List D} {S : Sto} (hc : clL ds = true) (h : isT (M ds []) = true) : frm M ds S = .ok (.bl true) S := frm_cl hc (isT_ok h)
theorem nm_all : (grpW.all fun x => isT (M_is_name [.str x] [])) = true := by decide +kernel
theorem nm_ok {x : Str} (h : x ∈ grpW) (S : Sto) : N_is_name [.str x] S = .ok (.bl true) S := frm_T rfl (List.all_eq_true.mp nm_all x h)
theorem bx_all : (boxW.all fun l => isT (M_are_names [.lst (l.map .str)] [])) = true := by decide +kernel
theorem bx_ok {l : List Str} (h : l ∈ boxW) (S : Sto) : N_are_names [.lst (l.map .str)] S = .ok (.bl true) S := frm_T (by show (clL (l.map .str) && true) = true; rw [cl_strs]; rfl) (List.all_eq_true.mp bx_all l h)
theorem bx_len {l : List Str} (h : l ∈ boxW) : 1 ≤ l.length ∧ l.length ≤ 5 := by
  have q : (boxW.all fun l => decide (1 ≤ l.length ∧ l.length ≤ 5)) = true := by decide +kernel
  exact of_decide_eq_true (List.all_eq_true.mp q l h)
structure GpOk (g : Gp) : Prop where
  nm : g.nm ∈ grpW
  md : g.md = "or" ∨ g.md = "and"
  br : g.br = "one" ∨ g.br = "many"
  bx : g.bx ∈ boxW
theorem ord_le {i j : Int} (S : Sto) : gOrd (fun i j => decide (i ≤ j)) (.int i) (.int j) S = .ok (.bl (decide (i ≤ j))) S := rfl
theorem ch_le {a b c : Int} {Fa Fb Fc : FE} {env : Env} {S : Sto} (ha : Fa env S = .ok (.int a) S) (hb : Fb env S = .ok (.int b) S) (hc : Fc env S = .ok (.int c) S) (h1 : a ≤ b) (h2 : b ≤ c) :
    fChain (gOrd (fun i j => decide (i ≤ j))) (gOrd (fun i j => decide (i ≤ j))) Fa Fb Fc env S = .ok (.bl true) S := by
  unfold fChain
  rw [ha, bnd_ok, hb, bnd_ok, ord_le, bnd_ok, decide_eq_true h1]
  dsimp only
  rw [hc, bnd_ok, ord_le, decide_eq_true h2]
theorem group_ok {g : Gp} (h : GpOk g) (S : Sto) : N_is_group [itF g] S = .ok (.bl true) S := by
  refine frm_cl (by show (clD (itF g) && true) = true; rw [cl_itF]; rfl) ?_
  obtain ⟨nm, md, br, bx⟩ := g
  obtain ⟨h1, h2, h3, h4⟩ := h
  dsimp only at h1 h2 h3 h4
  have l := bx_len h4
  have hl : (bx.map D.str).length = bx.length := List.length_map ..
  have q : fChain (gOrd (fun i j => decide (i ≤ j))) (gOrd (fun i j => decide (i ≤ j))) (fun _ => pure (.int 1)) (fArgs (a1 gLen) (aCons (f2 gIx (fVar 0) (fun _ => pure (.int 3))) aNil)) (fun _ => pure (.int 5)) [.val (.tup [.str nm, .str md, .str br, .lst (bx.map .str)])] [] = .ok (.bl true) [] := by
    refine ch_le (a := 1) (b := bx.length) (c := 5) rfl ?_ rfl (by omega) (by omega)
    show R.ok (D.int (bx.map D.str).length) [] = _
    rw [hl]
  have t : (fCall N_are_names [] (aCons (f2 gIx (fVar 0) (fun _ => pure (.int 3))) aNil)) [.val (.tup [.str nm, .str md, .str br, .lst (bx.map .str)])] [] = .ok (.bl true) [] := bx_ok h4 []
  have n1 : (fCall N_is_name [] (aCons (f2 gIx (fVar 0) (fun _ => pure (.int 0))) aNil)) [.val (.tup [.str nm, .str md, .str br, .lst (bx.map .str)])] [] = .ok (.bl true) [] := nm_ok h1 []
  have c : (sRet (fAndV (fCall N_are_names [] (aCons (f2 gIx (fVar 0) (fun _ => pure (.int 3))) aNil)) (fChain (gOrd (fun i j => decide (i ≤ j))) (gOrd (fun i j => decide (i ≤ j))) (fun _ => pure (.int 1)) (fArgs (a1 gLen) (aCons (f2 gIx (fVar 0) (fun _ => pure (.int 3))) aNil)) (fun _ => pure (.int 5))))) [.val (.tup [.str nm, .str md, .str br, .lst (bx.map .str)])] [] = .ok (.rt (.bl true)) [] := by
    unfold sRet fAndV
    rw [t, bnd_ok]
    dsimp only
    rw [if_pos rfl, q]
    rfl
  unfold M_is_group
  refine mk_rt rfl rfl ((seq_nx (e' := [.val (.tup [.str nm, .str md, .str br, .lst (bx.map .str)])]) (S' := []) ?_).trans ((seq_nx (e' := [.val (.tup [.str nm, .str md, .str br, .lst (bx.map .str)])]) (S' := []) ?_).trans c))
  · show sB [.val (.tup [.str nm, .str md, .str br, .lst (bx.map .str)])] ((((fCall N_is_name [] (aCons (f2 gIx (fVar 0) (fun _ => pure (.int 0))) aNil)) [.val (.tup [.str nm, .str md, .str br, .lst (bx.map .str)])] []).bnd toB).bnd fun b => pure (!b)) _ = _
    rw [n1]
    rfl
  · rcases h2 with rfl | rfl <;> rcases h3 with rfl | rfl <;> kernel_rfl
/-! ### Shop(groups) -/
def initB : FS := (sSeq (sIf (fOrT (fNotT (fB (fCall N_is_group [] (aCons (fVar 3) aNil)))) (fB (f2 (gInX false) (f2 gIx (fVar 3) (fun _ => pure (.int 0))) (fFrz (oLc [4] (.one 4) (iSeq (fVar 2)) (fun _ => pure true) (f2 gIx (fVar 4) (fun _ => pure (.int 0)))))))) (sRaise (fMk "InvalidItem" "value" [] (aCons (fVar 3) aNil))) sNil)
  (sApp 2 (fTup (aCons (f2 gIx (fVar 3) (fun _ => pure (.int 0))) (aCons (f2 gIx (fVar 3) (fun _ => pure (.int 1))) (aCons (f2 gIx (fVar 3) (fun _ => pure (.int 2))) (aCons (fArgs (a1 gTuple) (aCons (f2 gIx (fVar 3) (fun _ => pure (.int 3))) aNil)) aNil)))))))
theorem M_init_eq : M_Shop_init = mkI 2 5 "Shop" ((sSeq (sIf (fOrT (fNotT (fB (fArgs (a2 (gIsi is_list (.ty "list"))) (aCons (fVar 1) (aCons (fun _ => pure (.ty "list")) aNil))))) (fNotT (fB (fChain (gOrd (fun i j => decide (i ≤ j))) (gOrd (fun i j => decide (i ≤ j))) (fun _ => pure (.int 1)) (fArgs (a1 gLen) (aCons (fVar 1) aNil)) (fun _ => pure (.int 4)))))) (sRaise (fMk "InvalidList" "value" [] (aCons (fVar 1) aNil))) sNil)
  (sSeq (sSet 2 (fCell (oLst aNil)))
  (sSeq (sFor (.one 3) (iSeq (fVar 1)) initB)
  (sFldS 0 ["Shop"] "rows" (fArgs (a1 gTuple) (aCons (fVar 2) aNil))))))) := rfl
/-- the env within the loop -/
def iE (n : Nat) (gs : D) (s3 s4 : Sl) : Env := [.slf (.ins "Shop" []), .val gs, .val (.cell n), s3, s4]
theorem strs_dp (S : Sto) (l : List Str) : dqL (dqC S 4) (l.map .str) = some (l.map .str) := by
  induction l with
  | nil => rfl
  | cons a l ih => show (match dq0 (dqC S 4) (.str a), dqL (dqC S 4) (l.map .str) with | some a, some b => some (a :: b) | _, _ => none) = _; rw [ih]; rfl
theorem strs_d0 (f : Nat → Option PyData) (l : List Str) : deepL f (l.map .str) = some (l.map .str) := by
  induction l with
  | nil => rfl
  | cons a l ih => show (match deep0 f (.str a), deepL f (l.map .str) with | some a, some b => some (a :: b) | _, _ => none) = _; rw [ih]; rfl
theorem lay_strs (l : List Str) (h : ∀ x ∈ l, PyData.canLay0 (.str x) = true) : PyData.canLayAll0 (l.map .str) = true := by
  induction l with
  | nil => rfl
  | cons a l ih => show (PyData.canLay0 (.str a) && PyData.canLayAll0 (l.map .str)) = true; rw [h a List.mem_cons_self, ih fun x hx => h x (List.mem_cons_of_mem _ hx)]; rfl
theorem depth_strs (l : List Str) : PyData.depthAll (l.map .str) ≤ 1 := by
  induction l with
  | nil => exact Nat.zero_le _
  | cons a l ih => show max (PyData.depth (.str a)) (PyData.depthAll (l.map .str)) ≤ 1; exact Nat.max_le.mpr ⟨by simp [PyData.depth], ih⟩
/-- a text in a list of texts -/
theorem in_strs {x : Str} {l : List Str} {n : Bool} (hx : PyData.canLay0 (.str x) = true) (hl : ∀ y ∈ l, PyData.canLay0 (.str y) = true) (S : Sto) : gInX n (.str x) (.lst (l.map .str)) S = .ok (.bl (if n then !decide (x ∈ l) else decide (x ∈ l))) S := by
  have e1 : gInX n (.str x) (.lst (l.map .str)) S = gInL n (.str x) (.lst (l.map .str)) S := if_neg (by simp [isDk, asCO])
  have e2 : deep S (.lst (l.map .str)) = some (.list (l.map .str)) := by
    show (deepL (deepC S 4) (l.map .str)).map PyData.list = _
    rw [strs_d0]
    rfl
  have s1 : SeqAt.shaped (.str x) = true := by
    simp only [SeqAt.shaped, hx, Bool.true_and]
    simp [PyData.depth]
  have s2 : SeqAt.shaped (.list (l.map .str)) = true := by
    have q : PyData.canLay0 (.list (l.map .str)) = true := lay_strs l hl
    have d : PyData.depth (.list (l.map .str)) ≤ 64 := by
      have := depth_strs l
      simp only [PyData.depth]
      omega
    simp only [SeqAt.shaped, q, Bool.true_and, decide_eq_true_eq]
    exact d
  have a : ((l.map PyData.str).any fun z => PyData.eqv z (.str x)) = decide (x ∈ l) := by
    clear e1 e2 s2 hl
    induction l with
    | nil => rfl
    | cons y l ih =>
      rw [List.map_cons, List.any_cons, ih]
      show ((y == x) || decide (x ∈ l)) = decide (x ∈ y :: l)
      by_cases h : y = x
      · subst h; simp
      · have h' : ¬ x = y := fun e => h e.symm
        simp [h, h']
  rw [e1]
  unfold gInL
  rw [show deep S (.str x) = some (.str x) from rfl, e2]
  dsimp only
  rw [if_pos ⟨s1, s2⟩, a]
theorem grp_lay : ∀ x ∈ grpW, PyData.canLay0 (.str x) = true := by
  have q : (grpW.all fun x => PyData.canLay0 (.str x)) = true := by decide +kernel
  exact fun x h => List.all_eq_true.mp q x h
theorem rows_names (S : Sto) (n : Nat) (gs : D) (s3 s4 : Sl) (L : List Gp) (hn : S[n]? = some (.lst (L.map rowD))) (hL : L.length ≤ 4) :
    fFrz (oLc [4] (.one 4) (iSeq (fVar 2)) (fun _ => pure true) (f2 gIx (fVar 4) (fun _ => pure (.int 0)))) (iE n gs s3 s4) S = .ok (.lst (L.map fun g => .str g.nm)) S := by
  have i : iSeq (fVar 2) (iE n gs s3 s4) S = .ok (L.map rowD, .cl n (.lst (L.map rowD))) S := by
    show (match walkD S (.cell n) with | some p => R.ok p S | none => .stuck) = _
    have : walkD S (.cell n) = some (L.map rowD, .cl n (.lst (L.map rowD))) := by
      show (match S[n]? with | some (.lst ds) => some (ds, Src.cl n (.lst ds)) | _ => none) = _
      rw [hn]
    rw [this]
  have hc : chk (.cl n (.lst (L.map rowD))) S = true := by
    show (match S[n]? with | some c' => eqCO (.lst (L.map rowD)) c' | none => false) = true
    rw [hn]
    exact eqCO_rfl _
  have c := comp_pure (b := .one 4) (src := .cl n (.lst (L.map rowD))) (Ft := fun _ => pure true) (Fe := f2 gIx (fVar 4) (fun _ => pure (.int 0))) (env0 := wipeE (iE n gs s3 s4) [4]) (S := S) hc
    (fun d => match d with | .tup (a :: _) => some a | _ => none) (L.map rowD) (fun d hd => by
      obtain ⟨g, _, rfl⟩ := List.mem_map.mp hd
      exact ⟨_, rfl, .inr ⟨.str g.nm, rfl, rfl, rfl⟩⟩)
  have f : (L.map rowD).filterMap (fun d => match d with | .tup (a :: _) => some a | _ => none) = L.map fun g => .str g.nm := by
    rw [List.filterMap_map]
    induction L with
    | nil => rfl
    | cons a L ih => exact congrArg (D.str a.nm :: ·) (by
        clear i hc c hn
        clear ih hL
        induction L with
        | nil => rfl
        | cons b L ih => exact congrArg (D.str b.nm :: ·) ih)
  show (((iSeq (fVar 2) (iE n gs s3 s4) S).bnd fun p S' => oFin [] (compL (.one 4) p.2 (fun _ => pure true) (f2 gIx (fVar 4) (fun _ => pure (.int 0))) (wipeE (iE n gs s3 s4) [4]) p.1 S')).bnd fun c S' => .ok (frzD c) S') = _
  rw [i, bnd_ok]
  dsimp only
  rw [c, f]
  show (if (([] : List D) ++ L.map fun g => D.str g.nm).length ≤ sizeLine then R.ok (CO.lst ([] ++ L.map fun g => D.str g.nm)) S else .stuck).bnd _ = _
  rw [List.nil_append, if_pos (sl5 (by rw [List.length_map]; omega)), bnd_ok]
  rfl
end HT.C
set_option maxRecDepth 100000
set_option maxHeartbeats 1000000
namespace HT.C
open PySem PySem.Spec L2
open PyProof.Rows hiding St
theorem map_nm (L : List Gp) : (L.map fun g => D.str g.nm) = (L.map (·.nm)).map .str := by rw [List.map_map]; rfl
theorem nms_lay {L : List Gp} (h : ∀ g ∈ L, GpOk g) : ∀ y ∈ L.map (·.nm), PyData.canLay0 (.str y) = true := fun y hy => by
  obtain ⟨g, hg, rfl⟩ := List.mem_map.mp hy
  exact grp_lay _ (h g hg).nm
theorem len_its (ps : List Gp) : (ps.map itF).length = ps.length := List.length_map ..
theorem len_rows (ps : List Gp) : (ps.map rowD).length = ps.length := List.length_map ..
abbrev inRowsT : Env → Cm Bool := fB (f2 (gInX false) (f2 gIx (fVar 3) (fun _ => pure (.int 0))) (fFrz (oLc [4] (.one 4) (iSeq (fVar 2)) (fun _ => pure true) (f2 gIx (fVar 4) (fun _ => pure (.int 0))))))
/-- the name among those ahead -/
theorem in_rows {S : Sto} {n : Nat} {gs : D} {s4 : Sl} {L : List Gp} {x : Str} {r : List D} (hx : PyData.canLay0 (.str x) = true) (hn : S[n]? = some (.lst (L.map rowD))) (hL : L.length ≤ 4) (ok : ∀ g ∈ L, GpOk g) :
    inRowsT (iE n gs (.val (.tup (.str x :: r))) s4) S = .ok (decide (x ∈ L.map (·.nm))) S := by
  refine ev_fB (ev_f2 (x := .str x) (ev_f2 (ev_var rfl) ev_c ?_) (rows_names S n gs _ s4 L hn hL) ?_)
  · show (match atI (.str x :: r) 0 with | some d => R.ok d S | none => .stuck) = _
    rw [at0]
  · rw [map_nm]
    exact in_strs hx (nms_lay ok) S
abbrev initApp : FS := sApp 2 (fTup (aCons (f2 gIx (fVar 3) (fun _ => pure (.int 0))) (aCons (f2 gIx (fVar 3) (fun _ => pure (.int 1))) (aCons (f2 gIx (fVar 3) (fun _ => pure (.int 2))) (aCons (fArgs (a1 gTuple) (aCons (f2 gIx (fVar 3) (fun _ => pure (.int 3))) aNil)) aNil)))))
/-- a turn with a group that fits -/
theorem init_turn {S : Sto} {gs : D} {s4 : Sl} {L : List Gp} {g : Gp} (hg : GpOk g) (hL : L.length ≤ 3) (ok : ∀ g ∈ L, GpOk g) (hn : g.nm ∉ L.map (·.nm)) :
    initB (iE S.length gs (.val (itF g)) s4) (S ++ [.lst (L.map rowD)]) = .ok (.nx (iE S.length gs (.val (itF g)) s4)) (S ++ [.lst ((L ++ [g]).map rowD)]) := by
  have hk : (S ++ [CO.lst (L.map rowD)])[S.length]? = some (.lst (L.map rowD)) := by simp
  have q := in_rows (S := S ++ [CO.lst (L.map rowD)]) (n := S.length) (gs := gs) (s4 := s4) (x := g.nm) (r := [.str g.md, .str g.br, .lst (g.bx.map .str)]) (grp_lay _ hg.nm) hk (by omega) ok
  rw [decide_eq_false hn] at q
  unfold initB
  refine ev_seq (ev_skip (ev_orT_f (ev_notT (b := true) (ev_fB (ev_call (ev_cons (ev_var rfl) ev_nil) (group_ok hg _)))) q)) ?_
  have a := ev_appC (i := 2) (k := S.length) (ds := L.map rowD) (d := rowD g) (env := iE S.length gs (.val (itF g)) s4) (S := S ++ [CO.lst (L.map rowD)]) (S1 := S ++ [CO.lst (L.map rowD)]) (F := fTup (aCons (f2 gIx (fVar 3) (fun _ => pure (.int 0))) (aCons (f2 gIx (fVar 3) (fun _ => pure (.int 1))) (aCons (f2 gIx (fVar 3) (fun _ => pure (.int 2))) (aCons (fArgs (a1 gTuple) (aCons (f2 gIx (fVar 3) (fun _ => pure (.int 3))) aNil)) aNil))))) rfl (by rw [lstAt_cell hk]; rfl)
    (ev_tup (ev_cons (ev_f2 (ev_var rfl) ev_c rfl) (ev_cons (ev_f2 (ev_var rfl) ev_c rfl) (ev_cons (ev_f2 (ev_var rfl) ev_c rfl) (ev_cons (ev_args (ev_cons (ev_f2 (ev_var rfl) ev_c rfl) ev_nil) (ev_tupleL (fun z e => by cases e) rfl)) ev_nil))))) hk (by rw [len_rows]; omega)
  refine a.trans ?_
  simp
/-- the loop over groups that fit -/
theorem init_loop {S : Sto} {gs : D} {s4 : Sl} : ∀ (r : List Gp) (L : List Gp) (s3 : Sl) (more : List D), (∀ g ∈ L ++ r, GpOk g) → (L ++ r).length ≤ 4 → ((L ++ r).map (·.nm)).Nodup →
    ∃ s3', loopD (.one 3) .fz initB (r.map itF ++ more) (iE S.length gs s3 s4) (S ++ [.lst (L.map rowD)]) = loopD (.one 3) .fz initB more (iE S.length gs s3' s4) (S ++ [.lst ((L ++ r).map rowD)])
  | [], L, s3, more, _, _, _ => ⟨s3, by rw [List.append_nil, List.map_nil, List.nil_append]⟩
  | g :: r, L, s3, more, ok, hl, nd => by
    have e : L ++ g :: r = (L ++ [g]) ++ r := by simp
    obtain ⟨s3', h⟩ := init_loop (S := S) (gs := gs) (s4 := s4) r (L ++ [g]) (.val (itF g)) more (by rw [← e]; exact ok) (by rw [← e]; exact hl) (by rw [← e]; exact nd)
    refine ⟨s3', ?_⟩
    have hn : g.nm ∉ L.map (·.nm) := fun hm => by
      rw [List.map_append, List.map_cons] at nd
      exact (List.nodup_append.mp nd).2.2 _ hm _ List.mem_cons_self rfl
    have hl' : L.length ≤ 3 := by simp at hl; omega
    have tn := init_turn (S := S) (gs := gs) (s4 := s4) (L := L) (g := g) (ok g (by simp)) hl' (fun x hx => ok x (List.mem_append_left _ hx)) hn
    rw [List.map_cons, List.cons_append, loop_cons (e1 := iE S.length gs (.val (itF g)) s4) rfl rfl tn, h, e]
abbrev initT : Env → Cm Bool := fOrT (fNotT (fB (fArgs (a2 (gIsi is_list (.ty "list"))) (aCons (fVar 1) (aCons (fun _ => pure (.ty "list")) aNil))))) (fNotT (fB (fChain (gOrd (fun i j => decide (i ≤ j))) (gOrd (fun i j => decide (i ≤ j))) (fun _ => pure (.int 1)) (fArgs (a1 gLen) (aCons (fVar 1) aNil)) (fun _ => pure (.int 4)))))
/-- its head: a list of one to four -/
theorem init_head {S : Sto} {gs : D} {items : List D} (ht : tyD S gs = some (.b "list")) (hq : asQ2 S gs = some items) (h1 : 1 ≤ items.length) (h4 : items.length ≤ 4) (hs : ∀ x, gs ≠ .str x) :
    initT [.slf (.ins "Shop" []), .val gs, .un, .un, .un] S = .ok false S :=
  ev_orT_f (ev_notT (b := true) (ev_fB (ev_args (ev_cons (ev_var rfl) (ev_cons ev_c ev_nil)) (ev_isi ht rfl)))) (ev_notT (b := true) (ev_fB (ch_le (a := 1) (b := items.length) (c := 4) rfl (ev_args (ev_cons (ev_var rfl) ev_nil) (ev_len hs hq)) rfl (by omega) (by omega))))
theorem mkI_nx {np n : Nat} {C : Str} {F : FS} {ds : List D} {env e' : Env} {S S' : Sto} {c : CO} (h : ds.length + 1 = np) (he : .slf (.ins C []) :: (ds.map .val ++ List.replicate (n - np) .un) = env) (hF : F env S = .ok (.nx e') S') (hs : selfOf e' = some c) : mkI np n C F ds S = .ok c S' := by
  subst h
  subst he
  unfold mkI
  rw [if_pos rfl, hF]
  dsimp only
  rw [hs]
theorem mkI_xc {np n : Nat} {C C' : Str} {F : FS} {ds : List D} {env e' : Env} {S S' : Sto} {fs : List (Str × D)} (h : ds.length + 1 = np) (he : .slf (.ins C []) :: (ds.map .val ++ List.replicate (n - np) .un) = env) (hF : F env S = .ok (.xc e' C' fs) S') : mkI np n C F ds S = .exc C' fs S' := by
  subst h
  subst he
  unfold mkI
  rw [if_pos rfl, hF]
theorem init_new {S : Sto} {gs : D} : sSet 2 (fCell (oLst aNil)) [.slf (.ins "Shop" []), .val gs, .un, .un, .un] S = .ok (.nx (iE S.length gs .un .un)) (S ++ [.lst (([] : List Gp).map rowD)]) := ev_set (ev_cell (ev_lst ev_nil))
/-- Shop of groups that fit, of a frozen list -/
theorem init_ok {S : Sto} {ps : List Gp} (ok : ∀ g ∈ ps, GpOk g) (h1 : 1 ≤ ps.length) (h4 : ps.length ≤ 4) (nd : (ps.map (·.nm)).Nodup) :
    M_Shop_init [.lst (ps.map itF)] S = .ok (.ins "Shop" [("rows", .tup (ps.map rowD))]) (S ++ [.lst (ps.map rowD)]) := by
  obtain ⟨s3', h⟩ := init_loop (S := S) (gs := .lst (ps.map itF)) (s4 := .un) ps [] .un [] (by simpa using ok) (by simpa using h4) (by simpa using nd)
  rw [List.append_nil, List.nil_append] at h
  have hk : (S ++ [CO.lst (ps.map rowD)])[S.length]? = some (.lst (ps.map rowD)) := by simp
  rw [M_init_eq]
  refine mkI_nx (env := [.slf (.ins "Shop" []), .val (.lst (ps.map itF)), .un, .un, .un]) (e' := [.slf (.ins "Shop" [("rows", .tup (ps.map rowD))]), .val (.lst (ps.map itF)), .val (.cell S.length), s3', .un]) rfl rfl ?_ rfl
  refine ev_seq (ev_skip (init_head (items := ps.map itF) rfl rfl (by rw [len_its]; exact h1) (by rw [len_its]; exact h4) (fun x e => by cases e))) (ev_seq init_new (ev_seq (ev_for (ev_seqL (ev_var rfl)) rfl (h.trans (loop_nil rfl))) ?_))
  have e : fArgs (a1 gTuple) (aCons (fVar 2) aNil) (iE S.length (.lst (ps.map itF)) s3' .un) (S ++ [.lst (ps.map rowD)]) = .ok (.tup (ps.map rowD)) (S ++ [.lst (ps.map rowD)]) := ev_args (ev_cons (ev_var rfl) ev_nil) (ev_tupleL (fun z e => by cases e) (asL_cell hk))
  unfold sFldS
  rw [e]
  rfl
theorem shop_ok {S : Sto} {ps : List Gp} (ok : ∀ g ∈ ps, GpOk g) (h1 : 1 ≤ ps.length) (h4 : ps.length ≤ 4) (nd : (ps.map (·.nm)).Nodup) : N_Shop_init [.lst (ps.map itF)] S = .ok (.ins "Shop" [("rows", .tup (ps.map rowD))]) S := by
  have q := init_ok (S := []) ok h1 h4 nd
  refine frmI_cell (by show (clL (ps.map itF) && true) = true; rw [cl_its]; rfl) q (by simp) ?_
  show (meltF _ [("rows", D.tup (ps.map rowD))]).map (CO.ins "Shop") = _
  rw [meltF_cl _ _ (by show (clL (ps.map rowD) && true) = true; rw [cl_rows]; rfl)]
  rfl
end HT.C
set_option maxRecDepth 100000
set_option maxHeartbeats 1000000
namespace HT.C
open PySem PySem.Spec L2
open PyProof.Rows hiding St
/-! ### the drawn numbers -/
theorem getI (i : Int) (S : Sto) : gInt (.int i) S = .ok (.int i) S := rfl
theorem mul_ok {a b : Int} (ha : a.natAbs < 2 ^ 100) (hb : b.natAbs < 2 ^ 100) (S : Sto) : gMul2 (.int a) (.int b) S = .ok (.int (a * b)) S := by
  have l : ∀ z : Int, z.natAbs < 2 ^ 100 → z.natAbs.log2 < 101 := fun z h => PySem.Flt.log2_lt_of (by decide) (Nat.lt_trans h (by decide))
  show gMul (.int a) (.int b) S = _
  unfold gMul
  have h1 := l a ha
  have h2 := l b hb
  have hc : a.natAbs.log2 + b.natAbs.log2 < 1000000 := by omega
  simp only [hc, if_true]
theorem mod_ok {a b : Int} (hb : 0 < b) (S : Sto) : gMod (.int a) (.int b) S = .ok (.int (a % b)) S := by
  unfold gMod
  dsimp only
  rw [if_pos hb]
  rfl
theorem add_ok {a b : Int} (S : Sto) : gAdd (.int a) (.int b) S = .ok (.int (a + b)) S := rfl
theorem sub_ok {a b : Int} (S : Sto) : gSub (.int a) (.int b) S = .ok (.int (a - b)) S := rfl
theorem max_ok {a b : Int} (S : Sto) : gMax (.int a) (.int b) S = .ok (.int (if b > a then b else a)) S := rfl
theorem cl_ints (ns : List Int) : clL (ns.map D.int) = true := clL_map _ (fun _ => rfl) ns
theorem cell_ok (ns : List Int) (i : Nat) (S : Sto) : N__law_cell [.klst (ns.map .int), .int i] S = .ok (.int (ns.getD i 0)) S := by
  refine frm_cl (by show (clL (ns.map D.int) && true) = true; rw [cl_ints]; rfl) ?_
  have hl : asQ2 [] (.klst (ns.map .int)) = some (ns.map .int) := rfl
  by_cases hi : i < ns.length
  · have h1 : atI (ns.map D.int) (i : Int) = some (.int (ns.getD i 0)) := by
      refine atI_nat ?_
      rw [List.getElem?_map, List.getElem?_eq_getElem hi]
      simp [List.getD, hi]
    simp [M__law_cell, mkM, sSeq, sIf, sRet, sB, fB, f2, fVar, fArgs, a1, aCons, aNil, gOrd, gLen, gIx, toB, pure_ap, bnd_ok, hl, h1, hi]
  · simp [M__law_cell, mkM, sSeq, sIf, sRet, sB, fB, f2, fVar, fArgs, a1, aCons, aNil, gOrd, gLen, gIx, toB, pure_ap, bnd_ok, hl, hi, sNil, List.getD]
theorem hash_ok {a b : Int} (ha : 0 ≤ a ∧ a < 2147483648) (hb : 0 ≤ b ∧ b ≤ 1000000) (S : Sto) : ∃ h, N__law_hash [.int a, .int b] S = .ok (.int h) S ∧ 0 ≤ h ∧ h < 2147483587 := by
  have ms : ∀ z : Int, 0 ≤ z → z < 2 ^ 90 → z.natAbs < 2 ^ 100 := fun z h1 h2 => by
    have e : (2 : Int) ^ 90 = 1237940039285380274899124224 := by decide
    have e2 : (2 : Nat) ^ 100 = 1267650600228229401496703205376 := by decide
    omega
  have e90 : (2 : Int) ^ 90 = 1237940039285380274899124224 := by decide
  have n1 := ms a ha.1 (by omega)
  have n2 := ms b hb.1 (by omega)
  have k1 : (1103515245 : Int).natAbs < 2 ^ 100 := by decide
  have k2 : (7919 : Int).natAbs < 2 ^ 100 := by decide
  have k3 : (48271 : Int).natAbs < 2 ^ 100 := by decide
  have p1 : (0 : Int) < 2147483647 := by decide
  have p2 : (0 : Int) < 2147483629 := by decide
  have p3 : (0 : Int) < 2147483587 := by decide
  have n3 : (7919 * b).natAbs < 2 ^ 100 := ms _ (by omega) (by omega)
  obtain ⟨m1, hm1⟩ : ∃ m, m = (a * 1103515245 + 7919 * b * b + b + 1) % 2147483647 := ⟨_, rfl⟩
  have b1 : 0 ≤ m1 ∧ m1 < 2147483647 := by
    rw [hm1]
    exact ⟨Int.emod_nonneg _ (by decide), Int.emod_lt_of_pos _ p1⟩
  have n4 := ms m1 b1.1 (by omega)
  obtain ⟨m2, hm2⟩ : ∃ m, m = (m1 * m1 + 69621) % 2147483629 := ⟨_, rfl⟩
  have b2 : 0 ≤ m2 ∧ m2 < 2147483629 := by
    rw [hm2]
    exact ⟨Int.emod_nonneg _ (by decide), Int.emod_lt_of_pos _ p2⟩
  have n5 := ms m2 b2.1 (by omega)
  refine ⟨(m2 * 48271) % 2147483587, frm_cl rfl ?_, Int.emod_nonneg _ (by decide), Int.emod_lt_of_pos _ p3⟩
  simp [M__law_hash, mkM, sSeq, sRet, sSet, sB, f2, fVar, fArgs, a1, aCons, aNil, pure_ap, bnd_ok, getI, add_ok, mul_ok n1 k1, mul_ok k2 n2, mul_ok n3 n2, mod_ok p1, mod_ok p2, mod_ok p3, ← hm1, mul_ok n4 n4, ← hm2, mul_ok n5 k3]
theorem ix_cell {k : Nat} {S : Sto} {a b c : D} (hk : S[k]? = some (.lst [a, b, c])) : gIx (.cell k) (.int 0) S = .ok a S ∧ gIx (.cell k) (.int 1) S = .ok b S ∧ gIx (.cell k) (.int 2) S = .ok c S := by
  have h : asQ2 S (.cell k) = some [a, b, c] := by
    show (match S[k]? with | some (.lst ds) => some ds | _ => none) = _
    rw [hk]
  have e0 : atI [a, b, c] 0 = some a := rfl
  have e1 : atI [a, b, c] 1 = some b := rfl
  have e2 : atI [a, b, c] 2 = some c := rfl
  refine ⟨?_, ?_, ?_⟩
  · simp [gIx, h, e0]
  · simp [gIx, h, e1]
  · simp [gIx, h, e2]
theorem put_c {k : Nat} {S : Sto} {a b c d : D} {env : Env} (hk : S[k]? = some (.lst [a, b, c])) : putC env d (.cell k) (.int 0) S = .ok (.nx env) (S.set k (.lst [d, b, c])) ∧ putC env d (.cell k) (.int 2) S = .ok (.nx env) (S.set k (.lst [a, b, d])) := by
  have h : lstAt S k = some [a, b, c] := lstAt_cell hk
  have e0 : ixN ([a, b, c] : List D).length 0 = some 0 := rfl
  have e2 : ixN ([a, b, c] : List D).length 2 = some 2 := rfl
  constructor
  · simp only [putC, h, e0]
    rfl
  · simp only [putC, h, e2]
    rfl
/-- a generator's cell -/
def isG (S : Sto) (k : Nat) (B : Int) : Prop := ∃ g0 g1 g2, S[k]? = some (.lst [.int g0, .int g1, .int g2]) ∧ 0 ≤ g0 ∧ 0 ≤ g1 ∧ g1 < 2147483647 ∧ 0 ≤ g2 ∧ g2 ≤ B
theorem isG.lt {S : Sto} {k : Nat} {B : Int} (h : isG S k B) : k < S.length := by
  obtain ⟨g0, g1, g2, hk, _⟩ := h
  exact (List.getElem?_eq_some_iff.mp hk).1
theorem isG.more {S T : Sto} {k : Nat} {B : Int} (h : isG S k B) : isG (S ++ T) k B := by
  obtain ⟨g0, g1, g2, hk, r⟩ := h
  exact ⟨g0, g1, g2, by rw [List.getElem?_append_left (List.getElem?_eq_some_iff.mp hk).1]; exact hk, r⟩
theorem isG.le {S : Sto} {k : Nat} {B C : Int} (h : isG S k B) (hb : B ≤ C) : isG S k C := by
  obtain ⟨g0, g1, g2, hk, a, b, c, d, e⟩ := h
  exact ⟨g0, g1, g2, hk, a, b, c, d, by omega⟩
theorem gen_ok (ns : List Int) (i : Nat) (hi : i < 100) (S : Sto) : ∃ g, M__law_generator [.klst (ns.map .int), .int i] S = .ok (.cell S.length) (S ++ [.lst g]) ∧ isG (S ++ [.lst g]) S.length (1000 * i) := by
  have p1 : (0 : Int) < 2147483647 := by decide
  have w1 : gPow (.int 10) (.int 18) S = .ok (.int (10 ^ 18)) S := by kernel_rfl
  have w2 : gPow (.int 10) (.int 60) S = .ok (.int (10 ^ 60)) S := by kernel_rfl
  have w3 : gPow (.int (10 ^ 60)) (.int 10) S = .ok (.int ((10 ^ 60) ^ 10)) S := by kernel_rfl
  have p2 : (0 : Int) < (10 ^ 60) ^ 10 := by decide +kernel
  have k1 : (1000 : Int).natAbs < 2 ^ 100 := by decide
  have k2 : ((i : Nat) : Int).natAbs < 2 ^ 100 := by
    have e2 : (2 : Nat) ^ 100 = 1267650600228229401496703205376 := by decide
    omega
  obtain ⟨z, hz⟩ : ∃ z, z = ns.getD i 0 := ⟨_, rfl⟩
  obtain ⟨B, hB⟩ : ∃ B : Int, B = (10 ^ 60) ^ 10 := ⟨_, rfl⟩
  rw [← hB] at p2 w3
  obtain ⟨t, ht⟩ : ∃ t : Int, t = 10 ^ 18 := ⟨_, rfl⟩
  rw [← ht] at w1
  obtain ⟨u, hu⟩ : ∃ u : Int, u = 10 ^ 60 := ⟨_, rfl⟩
  rw [← hu] at w2 w3
  have sl : (3 : Nat) ≤ sizeLine := sl5 (by omega)
  refine ⟨[.int ((if 0 > z - t then 0 else z - t) % B), .int (z % 2147483647), .int (1000 * i)], ?_, (if 0 > z - t then 0 else z - t) % B, z % 2147483647, 1000 * i, by simp, Int.emod_nonneg _ (by omega), Int.emod_nonneg _ (by decide), Int.emod_lt_of_pos _ p1, by omega, by omega⟩
  have c := cell_ok ns i S
  rw [← hz] at c
  simp [M__law_generator, mkM, sSeq, sRet, sSet, sB, f2, fVar, fArgs, a1, a2, aCons, aNil, fCall, fCell, oLst, pure_ap, bnd_ok, getI, c, w1, w2, w3, sub_ok, max_ok, mod_ok p1, mod_ok p2, mul_ok k1 k2, sl]
theorem krg (S : Sto) : kRg1 [.int 1] S = .ok ([.int 0], .fz) S := by
  have h : InRg 1 := by unfold InRg; omega
  unfold kRg1
  simp only [h, if_true]
  rfl
theorem m0z (S : Sto) : gMul2 (.int 0) (.int 2147483587) S = .ok (.int 0) S := mul_ok (a := 0) (b := 2147483587) (by decide) (by decide) S
theorem bits_all : ((List.range 200).all fun n => decide (((Builtin.Int.intBits (n : Int) : Nat) : Int) / 30 = 0 ∧ (n : Int).natAbs.log2 < 9000)) = true := by decide +kernel
theorem bits_ok {n : Int} (h : 1 ≤ n ∧ n < 200) : ((Builtin.Int.intBits n : Nat) : Int) / 30 = 0 ∧ n.natAbs.log2 < 9000 := by
  obtain ⟨m, rfl⟩ : ∃ m : Nat, n = m := ⟨n.toNat, by omega⟩
  exact of_decide_eq_true (List.all_eq_true.mp bits_all m (List.mem_range.mpr (by omega)))
theorem dvn {g0 n : Int} (hn : 1 ≤ n ∧ n < 200) (S : Sto) : gDiv (.int g0) (.int n) S = .ok (.int (g0 / n)) S := by
  have h : 0 < n ∧ n.natAbs.log2 < 9000 := ⟨by omega, (bits_ok hn).2⟩
  unfold gDiv
  dsimp only
  rw [if_pos h]
  rfl
theorem it_n {n : Int} (hn : 1 ≤ n ∧ n < 200) (env : Env) (S : Sto) (he : env[1]? = some (.val (.int n))) : iRg1 (aCons (f2 gAdd (fun _ => pure (.int 1)) (f2 gDiv (f1 gBits (fVar 1)) (fun _ => pure (.int 30)))) aNil) env S = .ok ([.int 0], .fz) S := by
  have d : f2 gDiv (f1 gBits (fVar 1)) (fun _ => pure (.int 30)) env S = .ok (.int 0) S := by
    refine ev_f2 (x := .int ((Builtin.Int.intBits n : Nat) : Int)) (ev_f1 (ev_var he) rfl) ev_c ?_
    rw [dvn ⟨by omega, by omega⟩, (bits_ok hn).1]
  have e : f2 gAdd (fun _ => pure (.int 1)) (f2 gDiv (f1 gBits (fVar 1)) (fun _ => pure (.int 30))) env S = .ok (.int 1) S := ev_f2 ev_c d rfl
  unfold iRg1 aCons
  rw [e]
  exact krg S
theorem r5 {k : Nat} {S : Sto} {g0 g1 g2 : Int} {s1 s2 s3 : Sl} (hk : S[k]? = some (.lst [.int g0, .int g1, .int g2])) : F__law_random_5 [.val (.cell k), s1, s2, s3] S = .ok (.nx [.val (.cell k), s1, s2, s3]) (S.set k (.lst [.int g0, .int g1, .int (g2 + 1)])) := by
  have h : f2 gAdd (f2 gIx (fVar 0) (fun _ => pure (.int 2))) (fun _ => pure (.int 1)) [.val (.cell k), s1, s2, s3] S = .ok (.int (g2 + 1)) S := ev_f2 (ev_f2 (ev_var rfl) ev_c (ix_cell hk).2.2) ev_c rfl
  show sB _ (f2 gAdd (f2 gIx (fVar 0) (fun _ => pure (.int 2))) (fun _ => pure (.int 1)) [.val (.cell k), s1, s2, s3] S) _ = _
  rw [h]
  exact (put_c hk).2
theorem r6 {k : Nat} {S : Sto} {g0 g1 g2 h : Int} {s1 s3 : Sl} (hk : S[k]? = some (.lst [.int g0, .int g1, .int g2])) (hh : N__law_hash [.int g1, .int g2] S = .ok (.int h) S) : F__law_random_6 [.val (.cell k), s1, .val (.int 0), s3] S = .ok (.nx [.val (.cell k), s1, .val (.int (0 + h)), s3]) S :=
  ev_set (ev_f2 (ev_f2 (ev_var rfl) ev_c (m0z S)) (ev_call (ev_cons (ev_f2 (ev_var rfl) ev_c (ix_cell hk).2.1) (ev_cons (ev_f2 (ev_var rfl) ev_c (ix_cell hk).2.2) ev_nil)) hh) rfl)
theorem rnd_raw {k : Nat} {S : Sto} {g0 g1 g2 n : Int} (hk : S[k]? = some (.lst [.int g0, .int g1, .int g2])) (h0 : 0 ≤ g0) (h1 : 0 ≤ g1 ∧ g1 < 2147483647) (h2 : 0 ≤ g2 ∧ g2 ≤ 900000) (hn : 1 ≤ n ∧ n < 200) :
    ∃ r g0' g2', M__law_random [.cell k, .int n] S = .ok (.int r) (S.set k (.lst [.int g0', .int g1, .int g2'])) ∧ (0 ≤ r ∧ r < n) ∧ 0 ≤ g0' ∧ g2 ≤ g2' ∧ g2' ≤ g2 + 1 := by
  have hn0 : 0 < n := by omega
  obtain ⟨i0, i1, i2⟩ := ix_cell hk
  by_cases hg : 0 < g0
  · have dv := dvn (g0 := g0) hn S
    refine ⟨g0 % n, g0 / n, g2, ?_, ⟨Int.emod_nonneg _ (by omega), Int.emod_lt_of_pos _ hn0⟩, Int.ediv_nonneg h0 (by omega), Int.le_refl _, by omega⟩
    simp [M__law_random, F__law_random_0, F__law_random_1, F__law_random_2, F__law_random_3, mkM, sSeq, sIf, sRet, sSet, sPutC, sB, fB, f2, fVar, fArgs, a1, aCons, aNil, gOrd, toB, pure_ap, bnd_ok, getI, i0, hg, mod_ok hn0, dv, (put_c hk).1]
  · obtain ⟨h, hh, b1, b2⟩ := hash_ok (a := g1) (b := g2 + 1) ⟨h1.1, by omega⟩ ⟨by omega, by omega⟩ (S.set k (.lst [.int g0, .int g1, .int (g2 + 1)]))
    have hl : k < S.length := (List.getElem?_eq_some_iff.mp hk).1
    have hk2 : (S.set k (.lst [.int g0, .int g1, .int (g2 + 1)]))[k]? = some (.lst [.int g0, .int g1, .int (g2 + 1)]) := List.getElem?_set_self hl
    have q3 : F__law_random_3 [.val (.cell k), .val (.int n), .un, .un] S = .ok (.nx [.val (.cell k), .val (.int n), .un, .un]) S := by
      simp [F__law_random_3, sIf, sB, fB, f2, fVar, gOrd, toB, pure_ap, bnd_ok, i0, hg, sNil]
    have q4 : F__law_random_4 [.val (.cell k), .val (.int n), .un, .un] S = .ok (.nx [.val (.cell k), .val (.int n), .val (.int 0), .un]) S := rfl
    have q8 : F__law_random_8 [.val (.cell k), .val (.int n), .val (.int 0), .un] S = .ok (.nx [.val (.cell k), .val (.int n), .val (.int (0 + h)), .val (.int 0)]) (S.set k (.lst [.int g0, .int g1, .int (g2 + 1)])) := by
      have b7 : B__law_random_7 [.val (.cell k), .val (.int n), .val (.int 0), .val (.int 0)] S = .ok (.nx [.val (.cell k), .val (.int n), .val (.int (0 + h)), .val (.int 0)]) (S.set k (.lst [.int g0, .int g1, .int (g2 + 1)])) := ev_seq (r5 hk) (r6 hk2 hh)
      exact ev_for (it_n hn _ S rfl) rfl ((loop_cons rfl rfl b7).trans (loop_nil rfl))
    have q9 : F__law_random_9 [.val (.cell k), .val (.int n), .val (.int (0 + h)), .val (.int 0)] (S.set k (.lst [.int g0, .int g1, .int (g2 + 1)])) = .ok (.rt (.int ((0 + h) % n))) (S.set k (.lst [.int g0, .int g1, .int (g2 + 1)])) :=
      ev_ret (ev_f2 (ev_args (ev_cons (ev_var rfl) ev_nil) rfl) (ev_var rfl) (mod_ok hn0 _))
    refine ⟨(0 + h) % n, g0, g2 + 1, ?_, ⟨Int.emod_nonneg _ (by omega), Int.emod_lt_of_pos _ hn0⟩, h0, by omega, by omega⟩
    exact mk_rt rfl rfl (ev_seq q3 (ev_seq q4 (ev_seq q8 q9)))
theorem mlt_same {M : List D → Cm D} {ds : List D} {S S' : Sto} {d : D} (h : M ds S = .ok d S') (hl : S'.length = S.length) : mlt M ds S = .ok d S' := by
  show mltR S (M ds S) = _
  rw [h]
  exact if_pos hl
theorem rnd_ok {k : Nat} {S : Sto} {B n : Int} (h : isG S k B) (hB : B ≤ 900000) (hn : 1 ≤ n ∧ n < 200) : ∃ r g, N__law_random [.cell k, .int n] S = .ok (.int r) (S.set k (.lst g)) ∧ (0 ≤ r ∧ r < n) ∧ isG (S.set k (.lst g)) k (B + 1) ∧ clL g = true := by
  have hl := h.lt
  obtain ⟨g0, g1, g2, hk, a, b, c, d, e⟩ := h
  obtain ⟨r, g0', g2', q, q1, q2, q3, q4⟩ := rnd_raw hk a ⟨b, c⟩ ⟨d, by omega⟩ hn
  exact ⟨r, _, mlt_same q (List.length_set ..), q1, ⟨g0', g1, g2', List.getElem?_set_self hl, q2, b, c, by omega, by omega⟩, rfl⟩
end HT.C
set_option maxRecDepth 100000
set_option maxHeartbeats 1000000
namespace HT.C
open PySem PySem.Spec L2
open PyProof.Rows hiding St
/-! ### the drawn groups -/
theorem keep_set {f : Nat → Option D} {c : CO} (hc : meltCO f c = some c) : ∀ (S : List CO) (k : Nat) (T : List CO), mkeep f S (S.set k c ++ T) = some (S.set k c)
  | [], k, T => rfl
  | a :: S, 0, T => by
    have q : mkeep f S (S ++ T) = some S := by
      clear hc
      induction S with
      | nil => rfl
      | cons b S ih =>
        show (match (if eqCO b b = true then some b else meltCO f b), mkeep f S (S ++ T) with | some a, some b => some (a :: b) | _, _ => none) = _
        rw [if_pos (eqCO_rfl b), ih]
    show (match (if eqCO a c = true then some a else meltCO f c), mkeep f S (S ++ T) with | some a, some b => some (a :: b) | _, _ => none) = _
    rw [q]
    by_cases h : eqCO a c = true
    · rw [if_pos h, eqCO_eq h]
      rfl
    · rw [if_neg h, hc]
      rfl
  | a :: S, k + 1, T => by
    show (match (if eqCO a a = true then some a else meltCO f a), mkeep f S (S.set k c ++ T) with | some a, some b => some (a :: b) | _, _ => none) = _
    rw [if_pos (eqCO_rfl a), keep_set hc S k T]
    rfl
/-- an answer in a new cell, one elder cell changed -/
theorem mlt_cell {M : List D → Cm D} {ds : List D} {S T : Sto} {k : Nat} {c : CO} {d d' : D} (e : M ds S = .ok d (S.set k c ++ T)) (hT : T ≠ []) (hc : ∀ f, meltCO f c = some c) (hm : melt0 (meltC (S.set k c ++ T) S.length 6) d = some d') : mlt M ds S = .ok d' (S.set k c) := by
  have hl : ¬ (S.set k c ++ T).length = S.length := fun h => by
    rw [List.length_append, List.length_set] at h
    exact hT (List.eq_nil_of_length_eq_zero (by omega))
  show mltR S (M ds S) = _
  rw [e]
  show (if (S.set k c ++ T).length = S.length then _ else _) = _
  rw [if_neg hl]
  show (match melt0 (meltC (S.set k c ++ T) S.length 6) d, mkeep (meltC (S.set k c ++ T) S.length 6) S (S.set k c ++ T) with
    | some d', some S'' => R.ok d' S''
    | _, _ => .stuck) = _
  rw [hm, keep_set (hc _) S k T]
theorem melt_new {c : CO} {T : Sto} {n k m : Nat} (hn : ¬ k < n) (hk : T[k]? = some c) (hc : meltCO (meltC T n m) c = some c) : melt0 (meltC T n (m + 1)) (.cell k) = some (frzD c) := by
  have e : melt0 (meltC T n (m + 1)) (.cell k) = meltC T n (m + 1) k := rfl
  rw [e]
  unfold meltC
  rw [if_neg hn, hk]
  dsimp only
  rw [hc]
  rfl
def nmsL : List Str := ["hue", "size", "make", "x"]
structure GpP (g : Gp) : Prop where
  md : g.md = "or" ∨ g.md = "and"
  br : g.br = "one" ∨ g.br = "many"
  bx : g.bx ∈ boxP
theorem boxP_W {l : List Str} (h : l ∈ boxP) : l ∈ boxW := by
  unfold boxW
  exact List.mem_append_left _ (List.mem_append_left _ (List.mem_append_left _ h))
theorem nms_grp : ∀ x ∈ nmsL, x ∈ grpW := by decide +kernel
/-- parts that can be drawn -/
structure PsOk (ps : List Gp) : Prop where
  ok : ∀ g ∈ ps, GpP g
  nm : (ps.map (·.nm)).Nodup ∧ (∀ x ∈ ps.map (·.nm), x ∈ nmsL) ∧ ps.length ≤ 4
  one : 1 ≤ ps.length
theorem PsOk.grp {ps : List Gp} (h : PsOk ps) : ∀ g ∈ ps, GpOk g := fun g hg => ⟨nms_grp _ (h.nm.2.1 _ (List.mem_map_of_mem hg)), (h.ok g hg).md, (h.ok g hg).br, boxP_W (h.ok g hg).bx⟩
theorem PsOk.nd {ps : List Gp} (h : PsOk ps) : (ps.map (·.nm)).Nodup := h.nm.1
theorem PsOk.len {ps : List Gp} (h : PsOk ps) : ps.length ≤ 4 := h.nm.2.2
def n4 : List D := boxT.map fun l => .lst (l.map .str)
def pE (k n : Nat) (m mo : Int) (tot : Sl) (s6 s7 s8 s9 : Sl) : Env := [.val (.cell k), .val (.int m), .val (.int mo), .val (.cell n), .val (.cell (n + 1)), tot, s6, s7, s8, s9]
theorem two_or (r : Int) (h : 0 ≤ r ∧ r < 2) (a b : Str) (S : Sto) : ∃ x, gIx (.lst [.str a, .str b]) (.int r) S = .ok (.str x) S ∧ (x = a ∨ x = b) := by
  have e : r = 0 ∨ r = 1 := by omega
  rcases e with rfl | rfl
  · exact ⟨a, rfl, .inl rfl⟩
  · exact ⟨b, rfl, .inr rfl⟩
theorem cut_box : ∀ (i : Nat) (r : Nat), i < 4 → r < 5 → ∃ l ∈ boxP, ∀ S, gSl (.lst ((boxT.getD i []).map .str)) none (some (1 + (r : Nat) : Int)) S = .ok (.lst (l.map .str)) S ∧ l.length = 1 + r := by
  have q : ((List.range 4).all fun i => (List.range 5).all fun r => decide ((boxT.getD i []).take (1 + r) ∈ boxP) && decide (((boxT.getD i []).take (1 + r)).length = 1 + r)) = true := by decide +kernel
  intro i r hi hr
  have q1 := List.all_eq_true.mp (List.all_eq_true.mp q i (List.mem_range.mpr hi)) r (List.mem_range.mpr hr)
  obtain ⟨q2, q3⟩ := bAnd q1
  refine ⟨_, of_decide_eq_true q2, fun S => ⟨?_, of_decide_eq_true q3⟩⟩
  have c : i = 0 ∨ i = 1 ∨ i = 2 ∨ i = 3 := by omega
  have c2 : r = 0 ∨ r = 1 ∨ r = 2 ∨ r = 3 ∨ r = 4 := by omega
  rcases c with rfl | rfl | rfl | rfl <;> rcases c2 with rfl | rfl | rfl | rfl | rfl <;> kernel_rfl
theorem ix_n4 (i : Nat) (hi : i < 4) {S : Sto} {n : Nat} (hn : S[n]? = some (.lst n4)) : gIx (.cell n) (.int (i : Nat)) S = .ok (.lst ((boxT.getD i []).map .str)) S := by
  have h : asQ2 S (.cell n) = some n4 := asL_cell hn
  have e : atI n4 (i : Int) = some (.lst ((boxT.getD i []).map .str)) := by
    have c : i = 0 ∨ i = 1 ∨ i = 2 ∨ i = 3 := by omega
    rcases c with rfl | rfl | rfl | rfl <;> rfl
  show (match asQ2 S (.cell n) with | some ds => (match atI ds (i : Int) with | some d => R.ok d S | none => .stuck) | none => .stuck) = _
  rw [h]
  dsimp only
  rw [e]
theorem pows (l : Nat) (hl : 1 ≤ l ∧ l ≤ 5) (S : Sto) : ∃ f : Int, gIx (.lst [.int 1, .int 2, .int 4, .int 8, .int 16, .int 32]) (.int (l : Nat)) S = .ok (.int f) S ∧ 1 ≤ f ∧ f ≤ 32 := by
  have c : l = 1 ∨ l = 2 ∨ l = 3 ∨ l = 4 ∨ l = 5 := by omega
  rcases c with rfl | rfl | rfl | rfl | rfl
  · exact ⟨2, rfl, by decide, by decide⟩
  · exact ⟨4, rfl, by decide, by decide⟩
  · exact ⟨8, rfl, by decide, by decide⟩
  · exact ⟨16, rfl, by decide, by decide⟩
  · exact ⟨32, rfl, by decide, by decide⟩
theorem set_app {S T : Sto} {k : Nat} {c : CO} (h : k < S.length) : (S ++ T).set k c = S.set k c ++ T := List.set_append_left _ _ h
theorem eq_str (x y : Str) (hx : PyData.canLay0 (.str x) = true) (hy : PyData.canLay0 (.str y) = true) (S : Sto) : gEq false (.str x) (.str y) S = .ok (.bl (x == y)) S := by
  have s1 : SeqAt.shaped (.str x) = true := by simp only [SeqAt.shaped, hx, Bool.true_and]; simp [PyData.depth]
  have s2 : SeqAt.shaped (.str y) = true := by simp only [SeqAt.shaped, hy, Bool.true_and]; simp [PyData.depth]
  show (if SeqAt.shaped (.str x) = true ∧ SeqAt.shaped (.str y) = true then R.ok (D.bl (PyData.eqv (.str x) (.str y))) S else .stuck) = _
  rw [if_pos ⟨s1, s2⟩]
  rfl
theorem nms_ix (i : Nat) (hi : i < 4) (S : Sto) : gIx (.lst [.str "hue", .str "size", .str "make", .str "x"]) (.int (i : Nat)) S = .ok (.str (nmsL.getD i "")) S := by
  have c : i = 0 ∨ i = 1 ∨ i = 2 ∨ i = 3 := by omega
  rcases c with rfl | rfl | rfl | rfl <;> rfl
/-- one turn -/
theorem parts_turn {S : Sto} {k : Nat} {B mo m tot : Int} {i : Nat} {L : List Gp} {s7 s8 s9 : Sl} (hg : isG S k B) (hB : B ≤ 800000) (hi : i < 4) (hmo : 1 ≤ mo ∧ mo ≤ 5) (ht : 1 ≤ tot ∧ tot ≤ 2 ^ 40) (hL : L.length ≤ 4) :
    ∃ g tot' s7' s8' s9' L', B__law_parts_8 (pE k S.length m mo (.val (.int tot)) (.val (.int (i : Nat))) s7 s8 s9) (S ++ [.lst n4, .lst (L.map itF)]) = .ok (.nx (pE k S.length m mo (.val (.int tot')) (.val (.int (i : Nat))) s7' s8' s9')) (S.set k (.lst g) ++ [.lst n4, .lst (L'.map itF)]) ∧
      isG (S.set k (.lst g)) k (B + 3) ∧ clL g = true ∧ 1 ≤ tot' ∧ tot' ≤ tot * 32 ∧ ((L' = L ∧ 1024 < tot') ∨ ∃ gp, (GpP gp ∧ (gp.bx.length : Int) ≤ mo) ∧ gp.nm = nmsL.getD i "" ∧ L' = L ++ [gp]) := by
  have hk := hg.lt
  obtain ⟨r1, g1, e1, z1, i1, c1⟩ := rnd_ok (S := S ++ [.lst n4, .lst (L.map itF)]) hg.more (by omega) (n := 2) ⟨by decide, by decide⟩
  rw [set_app hk] at e1 i1
  have i1' : isG (S.set k (.lst g1)) k (B + 1) := by
    obtain ⟨x, y, z, q, r⟩ := i1
    rw [List.getElem?_append_left (by rw [List.length_set]; exact hk)] at q
    exact ⟨x, y, z, q, r⟩
  obtain ⟨r2, g2, e2, z2, i2, c2⟩ := rnd_ok (S := S.set k (.lst g1) ++ [.lst n4, .lst (L.map itF)]) i1'.more (by omega) (n := 2) ⟨by decide, by decide⟩
  rw [set_app i1'.lt, List.set_set] at e2 i2
  have i2' : isG (S.set k (.lst g2)) k (B + 1 + 1) := by
    obtain ⟨x, y, z, q, r⟩ := i2
    rw [List.getElem?_append_left (by rw [List.length_set]; exact hk)] at q
    exact ⟨x, y, z, q, r⟩
  obtain ⟨r3, g3, e3, z3, i3, c3⟩ := rnd_ok (S := S.set k (.lst g2) ++ [.lst n4, .lst (L.map itF)]) i2'.more (by omega) (n := mo) ⟨by omega, by omega⟩
  rw [set_app i2'.lt, List.set_set] at e3 i3
  have i3' : isG (S.set k (.lst g3)) k (B + 1 + 1 + 1) := by
    obtain ⟨x, y, z, q, r⟩ := i3
    rw [List.getElem?_append_left (by rw [List.length_set]; exact hk)] at q
    exact ⟨x, y, z, q, r⟩
  obtain ⟨md, m1, m2⟩ := two_or r1 z1 "or" "and" (S.set k (.lst g1) ++ [.lst n4, .lst (L.map itF)])
  obtain ⟨br, b1, b2⟩ := two_or r2 z2 "one" "many" (S.set k (.lst g2) ++ [.lst n4, .lst (L.map itF)])
  obtain ⟨rn, hr⟩ : ∃ rn : Nat, r3 = rn := ⟨r3.toNat, by omega⟩
  subst hr
  obtain ⟨bx, hbx, cut⟩ := cut_box i rn hi (by omega)
  have hlb : bx.length = 1 + rn := (cut []).2
  have hn : ∀ g : List D, (S.set k (.lst g) ++ [CO.lst n4, .lst (L.map itF)])[S.length]? = some (.lst n4) := fun g => by
    rw [List.getElem?_append_right (by rw [List.length_set]; exact Nat.le_refl _), List.length_set, Nat.sub_self]
    rfl
  have hn1 : ∀ g : List D, (S.set k (.lst g) ++ [CO.lst n4, .lst (L.map itF)])[S.length + 1]? = some (.lst (L.map itF)) := fun g => by
    rw [List.getElem?_append_right (by rw [List.length_set]; omega), List.length_set, Nat.add_sub_cancel_left]
    rfl
  -- mode, bears
  have q3 : F__law_parts_3 (pE k S.length m mo (.val (.int tot)) (.val (.int (i : Nat))) s7 s8 s9) (S ++ [.lst n4, .lst (L.map itF)]) = .ok (.nx (pE k S.length m mo (.val (.int tot)) (.val (.int (i : Nat))) (.val (.str md)) (.val (.str br)) s9)) (S.set k (.lst g2) ++ [.lst n4, .lst (L.map itF)]) := by
    have w : (aCons (f2 gIx (fFrz (oLst (aCons (fun _ => pure (.str "or")) (aCons (fun _ => pure (.str "and")) aNil)))) (fCall N__law_random [] (aCons (fVar 0) (aCons (fun _ => pure (.int 2)) aNil)))) (aCons (f2 gIx (fFrz (oLst (aCons (fun _ => pure (.str "one")) (aCons (fun _ => pure (.str "many")) aNil)))) (fCall N__law_random [] (aCons (fVar 0) (aCons (fun _ => pure (.int 2)) aNil)))) aNil)) (pE k S.length m mo (.val (.int tot)) (.val (.int (i : Nat))) s7 s8 s9) (S ++ [.lst n4, .lst (L.map itF)]) = .ok [.str md, .str br] (S.set k (.lst g2) ++ [.lst n4, .lst (L.map itF)]) :=
      ev_cons (ev_f2 (ev_frz (ev_lst (ev_cons ev_c (ev_cons ev_c ev_nil)))) (ev_call (ev_cons (ev_var rfl) (ev_cons ev_c ev_nil)) e1) m1) (ev_cons (ev_f2 (ev_frz (ev_lst (ev_cons ev_c (ev_cons ev_c ev_nil)))) (ev_call (ev_cons (ev_var rfl) (ev_cons ev_c ev_nil)) e2) b1) ev_nil)
    unfold F__law_parts_3 sPar
    rw [w]
    rfl
  have q4 : F__law_parts_4 (pE k S.length m mo (.val (.int tot)) (.val (.int (i : Nat))) (.val (.str md)) (.val (.str br)) s9) (S.set k (.lst g2) ++ [.lst n4, .lst (L.map itF)]) = .ok (.nx (pE k S.length m mo (.val (.int tot)) (.val (.int (i : Nat))) (.val (.str md)) (.val (.str br)) (.val (.lst (bx.map .str))))) (S.set k (.lst g3) ++ [.lst n4, .lst (L.map itF)]) := by
    refine ev_set (d := .lst (bx.map .str)) ?_
    have u1 : (f2 gIx (fVar 3) (fVar 6)) (pE k S.length m mo (.val (.int tot)) (.val (.int (i : Nat))) (.val (.str md)) (.val (.str br)) s9) (S.set k (.lst g2) ++ [.lst n4, .lst (L.map itF)]) = .ok (.lst ((boxT.getD i []).map .str)) (S.set k (.lst g2) ++ [.lst n4, .lst (L.map itF)]) := ev_f2 (ev_var rfl) (ev_var rfl) (ix_n4 i hi (hn g2))
    have u2 : (f2 gAdd (fun _ => pure (.int 1)) (fCall N__law_random [] (aCons (fVar 0) (aCons (fVar 2) aNil)))) (pE k S.length m mo (.val (.int tot)) (.val (.int (i : Nat))) (.val (.str md)) (.val (.str br)) s9) (S.set k (.lst g2) ++ [.lst n4, .lst (L.map itF)]) = .ok (.int (1 + (rn : Nat))) (S.set k (.lst g3) ++ [.lst n4, .lst (L.map itF)]) := ev_f2 ev_c (ev_call (ev_cons (ev_var rfl) (ev_cons (ev_var rfl) ev_nil)) e3) rfl
    unfold f3 pSome pNone
    rw [u1, bnd_ok]
    show ((R.ok none _).bnd fun l S2 => _) = _
    rw [bnd_ok, u2]
    exact (cut _).1
  have hbr : PyData.canLay0 (.str br) = true := by rcases b2 with rfl | rfl <;> decide +kernel
  obtain ⟨f, pw, f1, f32⟩ := pows bx.length ⟨by omega, by omega⟩ (S.set k (.lst g3) ++ [.lst n4, .lst (L.map itF)])
  have q5 : ∃ tot', F__law_parts_5 (pE k S.length m mo (.val (.int tot)) (.val (.int (i : Nat))) (.val (.str md)) (.val (.str br)) (.val (.lst (bx.map .str)))) (S.set k (.lst g3) ++ [.lst n4, .lst (L.map itF)]) = .ok (.nx (pE k S.length m mo (.val (.int tot')) (.val (.int (i : Nat))) (.val (.str md)) (.val (.str br)) (.val (.lst (bx.map .str))))) (S.set k (.lst g3) ++ [.lst n4, .lst (L.map itF)]) ∧ 1 ≤ tot' ∧ tot' ≤ tot * 32 := by
    have lenv : fArgs (a1 gLen) (aCons (fVar 9) aNil) (pE k S.length m mo (.val (.int tot)) (.val (.int (i : Nat))) (.val (.str md)) (.val (.str br)) (.val (.lst (bx.map .str)))) (S.set k (.lst g3) ++ [.lst n4, .lst (L.map itF)]) = .ok (.int bx.length) (S.set k (.lst g3) ++ [.lst n4, .lst (L.map itF)]) := by
      refine ev_args (ev_cons (ev_var rfl) ev_nil) ?_
      rw [ev_len (ds := bx.map .str) (fun z e => by cases e) rfl, List.length_map]
    have t1 : ∃ c : Bool, (fAndT (fB (f2 (gEq false) (fVar 8) (fun _ => pure (.str "one")))) (fB (f2 (gOrd (fun i j => decide (j < i))) (fVar 6) (fun _ => pure (.int 0))))) (pE k S.length m mo (.val (.int tot)) (.val (.int (i : Nat))) (.val (.str md)) (.val (.str br)) (.val (.lst (bx.map .str)))) (S.set k (.lst g3) ++ [.lst n4, .lst (L.map itF)]) = .ok c (S.set k (.lst g3) ++ [.lst n4, .lst (L.map itF)]) := by
      cases hb : (br == ("one" : Str)) with
      | false => exact ⟨false, ev_andT_f (ev_fB (ev_f2 (ev_var rfl) ev_c (by rw [eq_str _ _ hbr (by decide +kernel), hb])))⟩
      | true => exact ⟨_, ev_andT_t (ev_fB (ev_f2 (ev_var rfl) ev_c (by rw [eq_str _ _ hbr (by decide +kernel), hb]))) (ev_fB (ev_f2 (ev_var rfl) ev_c rfl))⟩
    obtain ⟨c, hc⟩ := t1
    have b100 : tot.natAbs < 2 ^ 100 := by
      have e1 : (2 : Int) ^ 40 = 1099511627776 := by decide
      have e2 : (2 : Nat) ^ 100 = 1267650600228229401496703205376 := by decide
      omega
    cases c with
    | true =>
      refine ⟨tot * bx.length, ev_set (ev_f2 (ev_var rfl) (ev_ifT_t hc lenv) (mul_ok b100 ?_ _)), ?_, ?_⟩
      · have e2 : (2 : Nat) ^ 100 = 1267650600228229401496703205376 := by decide
        omega
      · have : (1 : Int) ≤ bx.length := by omega
        exact Int.le_trans ht.1 (by have := Int.mul_le_mul_of_nonneg_left this (by omega : 0 ≤ tot); omega)
      · exact Int.mul_le_mul_of_nonneg_left (by omega) (by omega)
    | false =>
      refine ⟨tot * f, ev_set (ev_f2 (ev_var rfl) (ev_ifT_f hc (ev_f2 (ev_frz (ev_lst (ev_cons ev_c (ev_cons ev_c (ev_cons ev_c (ev_cons ev_c (ev_cons ev_c (ev_cons ev_c ev_nil)))))))) lenv pw)) (mul_ok b100 ?_ _)), ?_, ?_⟩
      · have e2 : (2 : Nat) ^ 100 = 1267650600228229401496703205376 := by decide
        omega
      · exact Int.le_trans ht.1 (by have := Int.mul_le_mul_of_nonneg_left f1 (by omega : 0 ≤ tot); omega)
      · exact Int.mul_le_mul_of_nonneg_left f32 (by omega)
  obtain ⟨tot', q5, ta, tb⟩ := q5
  have i3'' := i3'.le (C := B + 3) (by omega)
  by_cases hc : tot' ≤ 1024
  · refine ⟨g3, tot', .val (.str md), .val (.str br), .val (.lst (bx.map .str)), L ++ [⟨nmsL.getD i "", md, br, bx⟩], ev_seq q3 (ev_seq q4 (ev_seq q5 ?_)), i3'', c3, ta, tb, .inr ⟨_, ⟨⟨m2, b2, hbx⟩, by show (bx.length : Int) ≤ mo; omega⟩, rfl, rfl⟩⟩
    refine ev_if_t (ev_fB (ev_f2 (ev_var rfl) ev_c (by rw [ord_le, decide_eq_true hc]))) ?_
    have a := ev_appC (i := 4) (k := S.length + 1) (ds := L.map itF) (d := itF ⟨nmsL.getD i "", md, br, bx⟩) (env := pE k S.length m mo (.val (.int tot')) (.val (.int (i : Nat))) (.val (.str md)) (.val (.str br)) (.val (.lst (bx.map .str)))) (S := S.set k (.lst g3) ++ [.lst n4, .lst (L.map itF)]) (S1 := S.set k (.lst g3) ++ [.lst n4, .lst (L.map itF)])
      (F := fTup (aCons (f2 gIx (fFrz (oLst (aCons (fun _ => pure (.str "hue")) (aCons (fun _ => pure (.str "size")) (aCons (fun _ => pure (.str "make")) (aCons (fun _ => pure (.str "x")) aNil)))))) (fVar 6)) (aCons (fVar 7) (aCons (fVar 8) (aCons (fVar 9) aNil))))) rfl (by rw [lstAt_cell (hn1 g3)]; rfl)
      (ev_tup (ev_cons (ev_f2 (ev_frz (ev_lst (ev_cons ev_c (ev_cons ev_c (ev_cons ev_c (ev_cons ev_c ev_nil)))))) (ev_var rfl) (nms_ix i hi _)) (ev_cons (ev_var rfl) (ev_cons (ev_var rfl) (ev_cons (ev_var rfl) ev_nil))))) (hn1 g3) (by rw [len_its]; omega)
    refine a.trans ?_
    rw [List.set_append_right _ _ (by rw [List.length_set]; omega), List.length_set, Nat.add_sub_cancel_left, List.map_append]
    rfl
  · refine ⟨g3, tot', .val (.str md), .val (.str br), .val (.lst (bx.map .str)), L, ev_seq q3 (ev_seq q4 (ev_seq q5 ?_)), i3'', c3, ta, tb, .inl ⟨rfl, by omega⟩⟩
    exact ev_skip (ev_fB (ev_f2 (ev_var rfl) ev_c (by rw [ord_le, decide_eq_false hc])))
end HT.C
set_option maxRecDepth 100000
set_option maxHeartbeats 1000000
namespace HT.C
open PySem PySem.Spec L2
open PyProof.Rows hiding St
def itemsR (i j : Nat) : List D := (List.range' i j).map fun n => D.int (n : Nat)
theorem itemsR_cons (i j : Nat) : itemsR i (j + 1) = .int (i : Nat) :: itemsR (i + 1) j := by
  unfold itemsR
  rw [List.range'_succ, List.map_cons]
theorem rng_items (M : Nat) : rngD 0 (M : Nat) = itemsR 0 M := by
  unfold rngD itemsR
  rw [show ((M : Int) - 0).toNat = M from by omega, List.range_eq_range']
  exact List.map_congr_left fun n _ => congrArg D.int (Int.zero_add _)
theorem krg_ok (z : Int) (h : InRg z) (S : Sto) : kRg1 [.int z] S = .ok (rngD 0 z, .fz) S := by
  unfold kRg1
  simp only [h, if_true]
  rfl
theorem rng1 {env : Env} {S : Sto} {F : FE} {M : Nat} (h : F env S = .ok (.int (M : Nat)) S) (hM : M ≤ 1000000) : iRg1 (aCons F aNil) env S = .ok (itemsR 0 M, .fz) S := by
  unfold iRg1
  rw [ev_cons h ev_nil, bnd_ok, krg_ok _ (by unfold InRg; omega), rng_items]
theorem take_next (i : Nat) (hi : i < 4) : nmsL.take (i + 1) = nmsL.take i ++ [nmsL.getD i ""] := by
  have c : i = 0 ∨ i = 1 ∨ i = 2 ∨ i = 3 := by omega
  rcases c with rfl | rfl | rfl | rfl <;> rfl
theorem isG.set {S : Sto} {k : Nat} {B : Int} (h : isG S k B) : ∃ g, S = S.set k (.lst g) ∧ clL g = true := by
  obtain ⟨g0, g1, g2, hk, _⟩ := h
  refine ⟨_, ?_, (rfl : clL [D.int g0, D.int g1, D.int g2] = true)⟩
  have hl := (List.getElem?_eq_some_iff.mp hk)
  obtain ⟨h1, h2⟩ := hl
  rw [← h2]
  exact (List.set_getElem_self h1).symm
theorem parts_loop {k : Nat} {mo m : Int} (hmo : 1 ≤ mo ∧ mo ≤ 5) : ∀ (j i : Nat) (S : Sto) (B tot : Int) (L : List Gp) (s6 s7 s8 s9 : Sl), i + j ≤ 4 → isG S k B → B + 3 * j ≤ 800000 → 1 ≤ tot → tot * 32 ^ j ≤ 2 ^ 40 → (∀ g ∈ L, GpP g ∧ (g.bx.length : Int) ≤ mo) → (L.map (·.nm)).Sublist (nmsL.take i) →
    ∃ (g : List D) (tot' : Int) (s6' s7' s8' s9' : Sl) (L' : List Gp), loopD (.one 6) .fz B__law_parts_8 (itemsR i j) (pE k S.length m mo (.val (.int tot)) s6 s7 s8 s9) (S ++ [.lst n4, .lst (L.map itF)]) = .ok (.nx (pE k S.length m mo (.val (.int tot')) s6' s7' s8' s9')) (S.set k (.lst g) ++ [.lst n4, .lst (L'.map itF)]) ∧
      isG (S.set k (.lst g)) k (B + 3 * j) ∧ clL g = true ∧ (∀ g ∈ L', GpP g ∧ (g.bx.length : Int) ≤ mo) ∧ (L'.map (·.nm)).Sublist (nmsL.take (i + j)) ∧ ((1 ≤ L.length ∨ (1 ≤ j ∧ tot ≤ 32)) → 1 ≤ L'.length)
  | 0, i, S, B, tot, L, s6, s7, s8, s9, hi, hg, hB, ht, ht2, ok, sb => by
    obtain ⟨g, e, c⟩ := hg.set
    refine ⟨g, tot, s6, s7, s8, s9, L, ?_, by rw [← e]; exact hg.le (by omega), c, ok, sb, fun h => by rcases h with h | ⟨h, _⟩ <;> omega⟩
    rw [← e]
    exact loop_nil rfl
  | j + 1, i, S, B, tot, L, s6, s7, s8, s9, hi, hg, hB, ht, ht2, ok, sb => by
    have p32 : (1 : Int) ≤ 32 ^ j := Int.pow_pos (by decide)
    have e32 : (32 : Int) ^ (j + 1) = 32 ^ j * 32 := Int.pow_succ ..
    have t40 : tot ≤ 2 ^ 40 := by
      have h1 : (1 : Int) ≤ 32 ^ (j + 1) := Int.pow_pos (by decide)
      have := Int.mul_le_mul_of_nonneg_left h1 (by omega : 0 ≤ tot)
      omega
    have hL : L.length ≤ 4 := by
      have := sb.length_le
      rw [List.length_map, List.length_take] at this
      omega
    obtain ⟨g, tot', s7', s8', s9', L1, e, i1, c1, t1, t2, q⟩ := parts_turn (S := S) (k := k) (B := B) (mo := mo) (m := m) (tot := tot) (i := i) (L := L) (s7 := s7) (s8 := s8) (s9 := s9) hg (by omega) (by omega) hmo ⟨ht, t40⟩ hL
    have nx : (∀ g ∈ L1, GpP g ∧ (g.bx.length : Int) ≤ mo) ∧ (L1.map (·.nm)).Sublist (nmsL.take (i + 1)) ∧ ((1 ≤ L.length ∨ tot ≤ 32) → 1 ≤ L1.length) := by
      rw [take_next i (by omega)]
      rcases q with ⟨rfl, q⟩ | ⟨gp, g1, g2, rfl⟩
      · refine ⟨ok, sb.trans (List.sublist_append_left _ _), fun h => ?_⟩
        rcases h with h | h
        · exact h
        · exfalso; omega
      · refine ⟨fun x hx => ?_, ?_, fun _ => by simp⟩
        · rcases List.mem_append.mp hx with h | h
          · exact ok x h
          · rw [List.mem_singleton.mp h]; exact g1
        · rw [List.map_append, List.map_cons, List.map_nil, g2]
          exact sb.append (List.Sublist.refl _)
    have tt : tot' * 32 ^ j ≤ 2 ^ 40 := by
      have h1 := Int.mul_le_mul_of_nonneg_right t2 (by omega : (0 : Int) ≤ 32 ^ j)
      have h2 : tot * 32 * 32 ^ j = tot * 32 ^ (j + 1) := by rw [e32, Int.mul_assoc, Int.mul_comm 32 (32 ^ j)]
      omega
    obtain ⟨g', tot2, a6, a7, a8, a9, L2, f1, f2, f3, f4, f5, f6⟩ := parts_loop hmo j (i + 1) (S.set k (.lst g)) (B + 3) tot' L1 (.val (.int (i : Nat))) s7' s8' s9' (by omega) i1 (by omega) t1 tt nx.1 nx.2.1
    rw [List.length_set, List.set_set] at f1
    rw [List.set_set] at f2
    refine ⟨g', tot2, a6, a7, a8, a9, L2, ?_, f2.le (by omega), f3, f4, by rw [show i + (j + 1) = i + 1 + j from by omega]; exact f5, fun h => f6 ?_⟩
    · rw [itemsR_cons]
      exact (loop_cons (e1 := pE k S.length m mo (.val (.int tot)) (.val (.int (i : Nat))) s7 s8 s9) rfl rfl e).trans f1
    · rcases h with h | h
      · exact .inl (nx.2.2 (.inl h))
      · exact .inl (nx.2.2 (.inr h.2))
/-- _law_parts -/
theorem parts_okm {S : Sto} {k : Nat} {B : Int} {M : Nat} {mo : Int} (hg : isG S k B) (hB : B ≤ 700000) (hM : 1 ≤ M ∧ M ≤ 4) (hmo : 1 ≤ mo ∧ mo ≤ 5) :
    ∃ g ps, N__law_parts [.cell k, .int (M : Nat), .int mo] S = .ok (.lst (ps.map itF)) (S.set k (.lst g)) ∧ isG (S.set k (.lst g)) k (B + 12) ∧ PsOk ps ∧ ps.length ≤ M ∧ ∀ g ∈ ps, (g.bx.length : Int) ≤ mo := by
  obtain ⟨g, tot', s6', s7', s8', s9', ps, e, i1, c1, ok, sb, one⟩ := parts_loop (k := k) (mo := mo) (m := (M : Nat)) hmo M 0 S B 1 [] .un .un .un .un (by omega) hg (by omega) (by decide) (by
    have c : M = 1 ∨ M = 2 ∨ M = 3 ∨ M = 4 := by omega
    rcases c with rfl | rfl | rfl | rfl <;> decide) (fun g h => by cases h) (by simp)
  have sub := sb.trans (List.take_sublist _ _)
  have pok : PsOk ps := ⟨fun g hg => (ok g hg).1, ⟨sub.nodup (by decide +kernel), fun x hx => sub.subset hx, by have := sub.length_le; rw [List.length_map] at this; exact this⟩, one (.inr ⟨hM.1, by decide⟩)⟩
  refine ⟨g, ps, ?_, i1.le (by omega), pok, ?_⟩
  · have f2 : F__law_parts_2 [.val (.cell k), .val (.int (M : Nat)), .val (.int mo), .val (.cell S.length), .un, .un, .un, .un, .un, .un] (S ++ [.lst n4]) = .ok (.nx (pE k S.length (M : Nat) mo (.val (.int 1)) .un .un .un .un)) (S ++ [.lst n4, .lst (([] : List Gp).map itF)]) := by
      have w : (aCons (fCell (oLst aNil)) (aCons (fun _ => pure (.int 1)) aNil)) [.val (.cell k), .val (.int (M : Nat)), .val (.int mo), .val (.cell S.length), .un, .un, .un, .un, .un, .un] (S ++ [.lst n4]) = .ok [.cell (S.length + 1), .int 1] (S ++ [.lst n4, .lst (([] : List Gp).map itF)]) := by
        have := ev_cons (Fa := fCell (oLst aNil)) (Fr := aCons (fun _ => pure (.int 1)) aNil) (env := [.val (.cell k), .val (.int (M : Nat)), .val (.int mo), .val (.cell S.length), .un, .un, .un, .un, .un, .un]) (ev_cell (S := S ++ [.lst n4]) (ev_lst ev_nil)) (ev_cons ev_c ev_nil)
        simpa using this
      unfold F__law_parts_2 sPar
      rw [w]
      rfl
    have f0 : F__law_parts_0 [.val (.cell k), .val (.int (M : Nat)), .val (.int mo), .un, .un, .un, .un, .un, .un, .un] S = .ok (.nx [.val (.cell k), .val (.int (M : Nat)), .val (.int mo), .val (.cell S.length), .un, .un, .un, .un, .un, .un]) (S ++ [.lst (n4.take 3)]) :=
      ev_set (ev_cell (ev_lst (ev_cons (ev_frz (ev_lst (ev_cons ev_c (ev_cons ev_c (ev_cons ev_c (ev_cons ev_c (ev_cons ev_c ev_nil))))))) (ev_cons (ev_frz (ev_lst (ev_cons ev_c (ev_cons ev_c (ev_cons ev_c (ev_cons ev_c (ev_cons ev_c ev_nil))))))) (ev_cons (ev_frz (ev_lst (ev_cons ev_c (ev_cons ev_c (ev_cons ev_c (ev_cons ev_c (ev_cons ev_c ev_nil))))))) ev_nil)))))
    have hk3 : (S ++ [CO.lst (n4.take 3)])[S.length]? = some (.lst (n4.take 3)) := by simp
    have f1 : F__law_parts_1 [.val (.cell k), .val (.int (M : Nat)), .val (.int mo), .val (.cell S.length), .un, .un, .un, .un, .un, .un] (S ++ [.lst (n4.take 3)]) = .ok (.nx [.val (.cell k), .val (.int (M : Nat)), .val (.int mo), .val (.cell S.length), .un, .un, .un, .un, .un, .un]) (S ++ [.lst n4]) := by
      have a := ev_appC (i := 3) (k := S.length) (ds := n4.take 3) (env := [.val (.cell k), .val (.int (M : Nat)), .val (.int mo), .val (.cell S.length), .un, .un, .un, .un, .un, .un]) (S := S ++ [.lst (n4.take 3)]) (F := fFrz (oLst (aCons (fun _ => pure (.str "a")) (aCons (fun _ => pure (.str "b")) (aCons (fun _ => pure (.str "red")) (aCons (fun _ => pure (.str "d")) (aCons (fun _ => pure (.str "abcdefgh")) aNil))))))) rfl (by rw [lstAt_cell hk3]; rfl)
        (ev_frz (ev_lst (ev_cons ev_c (ev_cons ev_c (ev_cons ev_c (ev_cons ev_c (ev_cons ev_c ev_nil))))))) hk3 (by decide)
      refine a.trans ?_
      simp
      rfl
    have f9 : F__law_parts_9 (pE k S.length (M : Nat) mo (.val (.int 1)) .un .un .un .un) (S ++ [.lst n4, .lst (([] : List Gp).map itF)]) = .ok (.nx (pE k S.length (M : Nat) mo (.val (.int tot')) s6' s7' s8' s9')) (S.set k (.lst g) ++ [.lst n4, .lst (ps.map itF)]) := by
      exact ev_for (ds := itemsR 0 M) (src := .fz) (S1 := S ++ [.lst n4, .lst (([] : List Gp).map itF)]) (rng1 (ev_var rfl) (by omega)) rfl e
    have f10 : F__law_parts_10 (pE k S.length (M : Nat) mo (.val (.int tot')) s6' s7' s8' s9') (S.set k (.lst g) ++ [.lst n4, .lst (ps.map itF)]) = .ok (.rt (.cell (S.length + 1))) (S.set k (.lst g) ++ [.lst n4, .lst (ps.map itF)]) := ev_ret (ev_var rfl)
    have raw : M__law_parts [.cell k, .int (M : Nat), .int mo] S = .ok (.cell (S.length + 1)) (S.set k (.lst g) ++ [.lst n4, .lst (ps.map itF)]) := mk_rt rfl rfl (ev_seq f0 (ev_seq f1 (ev_seq f2 (ev_seq f9 f10))))
    refine mlt_cell raw (by simp) (fun f => ?_) ?_
    · show (meltL f g).map CO.lst = _
      rw [meltL_cl f g c1]
      rfl
    · refine melt_new (c := .lst (ps.map itF)) (by omega) ?_ ?_
      · rw [List.getElem?_append_right (by rw [List.length_set]; omega), List.length_set, Nat.add_sub_cancel_left]
        rfl
      · show (meltL _ (ps.map itF)).map CO.lst = _
        rw [meltL_cl _ _ (cl_its ps)]
        rfl
  · refine ⟨?_, fun g hg => (ok g hg).2⟩
    have := sb.length_le
    rw [List.length_map, List.length_take] at this
    omega
theorem parts_ok {S : Sto} {k : Nat} {B : Int} {M : Nat} {mo : Int} (hg : isG S k B) (hB : B ≤ 700000) (hM : 1 ≤ M ∧ M ≤ 4) (hmo : 1 ≤ mo ∧ mo ≤ 5) :
    ∃ g ps, N__law_parts [.cell k, .int (M : Nat), .int mo] S = .ok (.lst (ps.map itF)) (S.set k (.lst g)) ∧ isG (S.set k (.lst g)) k (B + 12) ∧ PsOk ps ∧ ps.length ≤ M := by
  obtain ⟨g, ps, a, b, c, d, _⟩ := parts_okm hg hB hM hmo
  exact ⟨g, ps, a, b, c, d⟩
end HT.C
set_option maxRecDepth 100000
set_option maxHeartbeats 1000000
namespace HT.C
open PySem PySem.Spec L2
open PyProof.Rows hiding St
/-! ### what groups tell -/
def pdG (g : Gp) : PyData := .tuple [.str g.nm, .str g.md, .str g.br, .list (g.bx.map .str)]
def pdL (ps : List Gp) : PyData := .list (ps.map pdG)
/-! ### the text of data is a text -/
theorem ok_mem {x : Str} : PyData.strOk x = true ↔ ∀ c ∈ x.cps.toList, c < 0x110000 := by
  unfold PyData.strOk
  rw [← Array.all_toList, List.all_eq_true]
  simp only [decide_eq_true_eq]
theorem ok_app {x y : Str} (hx : PyData.strOk x = true) (hy : PyData.strOk y = true) : PyData.strOk (x ++ y) = true := by
  rw [ok_mem] at *
  intro c hc
  rw [cps_toList_append] at hc
  rcases List.mem_append.mp hc with h | h
  · exact hx c h
  · exact hy c h
theorem ok_join {s : Str} {ts : List Str} (hs : PyData.strOk s = true) (ht : ∀ t ∈ ts, PyData.strOk t = true) : PyData.strOk (Str.join s ts) = true := by
  rw [ok_mem]
  intro c hc
  rcases (mem_join s c ts).mp hc with ⟨t, h1, h2⟩ | ⟨_, h⟩
  · exact ok_mem.mp (ht t h1) c h2
  · exact ok_mem.mp hs c h
theorem ok_list {xs : List PyData} (h : ∀ x ∈ xs, PyData.strOk x.shown = true) : PyData.strOk (PyData.list xs).shown = true := by
  rw [PyData.shown_list, shownAll_eq_map]
  refine ok_app (ok_app (by decide +kernel) (ok_join (by decide +kernel) fun t ht => ?_)) (by decide +kernel)
  obtain ⟨x, hx, rfl⟩ := List.mem_map.mp ht
  exact h x hx
theorem ok_tuple {xs : List PyData} (h : ∀ x ∈ xs, PyData.strOk x.shown = true) : PyData.strOk (PyData.tuple xs).shown = true := by
  rw [PyData.shown_tuple, shownAll_eq_map]
  refine ok_app (ok_app (by decide +kernel) (ok_join (by decide +kernel) fun t ht => ?_)) (by split <;> decide +kernel)
  obtain ⟨x, hx, rfl⟩ := List.mem_map.mp ht
  exact h x hx
def goodS (x : Str) : Bool := decide (x.cps.size ≤ 8) && (PyData.canLay0 (.str x) && (PyData.leavesShort 8 (.str x) && PyData.strOk (PyData.shown (.str x))))
structure GpS (g : Gp) : Prop where
  nm : goodS g.nm = true
  md : goodS g.md = true
  br : goodS g.br = true
  bx : ∀ x ∈ g.bx, goodS x = true
  len : g.bx.length ≤ 5
theorem GpOk.s {g : Gp} (h : GpOk g) : GpS g := by
  have q1 : (grpW.all goodS) = true := by decide +kernel
  have q2 : (boxW.all fun l => l.all goodS) = true := by decide +kernel
  refine ⟨List.all_eq_true.mp q1 _ h.nm, ?_, ?_, fun x hx => List.all_eq_true.mp (List.all_eq_true.mp q2 _ h.bx) x hx, (bx_len h.bx).2⟩
  · rcases h.md with e | e <;> rw [e] <;> decide +kernel
  · rcases h.br with e | e <;> rw [e] <;> decide +kernel
theorem goodS_lay {x : Str} (h : goodS x = true) : PyData.canLay0 (.str x) = true := (bAnd (bAnd h).2).1
theorem goodS_short {x : Str} (h : goodS x = true) : PyData.leavesShort 8 (.str x) = true := (bAnd (bAnd (bAnd h).2).2).1
theorem goodS_tx {x : Str} (h : goodS x = true) : PyData.strOk (PyData.shown (.str x)) = true := (bAnd (bAnd (bAnd h).2).2).2
theorem goodS_size {x : Str} (h : goodS x = true) : x.cps.size ≤ 8 := of_decide_eq_true (bAnd h).1
theorem strs_short {l : List Str} (h : ∀ x ∈ l, goodS x = true) : PyData.leavesShortAll 8 (l.map .str) = true := by
  induction l with
  | nil => simp [PyData.leavesShortAll]
  | cons a l ih =>
    simp only [List.map_cons, PyData.leavesShortAll, goodS_short (h a List.mem_cons_self), ih fun x hx => h x (List.mem_cons_of_mem _ hx), Bool.and_self]
theorem strs_bulk {l : List Str} (h : ∀ x ∈ l, goodS x = true) : PyData.bulkAll (l.map .str) ≤ 9 * l.length := by
  induction l with
  | nil => simp [PyData.bulkAll]
  | cons a l ih =>
    have h1 := goodS_size (h a List.mem_cons_self)
    have h2 := ih fun x hx => h x (List.mem_cons_of_mem _ hx)
    simp only [List.map_cons, PyData.bulkAll, PyData.bulk, List.length_cons]
    omega
theorem strs_show (l : List Str) : PyData.showableAll (l.map .str) = true := by
  induction l with
  | nil => simp [PyData.showableAll]
  | cons a l ih => simp only [List.map_cons, PyData.showableAll, PyData.showable, ih, Bool.and_self]
structure Fine (p : PyData) (n : Nat) : Prop where
  lay : p.canLay0 = true
  short : p.leavesShort 8 = true
  bulk : p.bulk ≤ n
  sh : p.showable = true
  dp : p.depth ≤ 10
  tx : PyData.strOk p.shown = true
theorem fineG {g : Gp} (h : GpS g) : Fine (pdG g) 80 := by
  have b := strs_bulk h.bx
  have l := h.len
  have b1 := goodS_size h.nm
  have b2 := goodS_size h.md
  have b3 := goodS_size h.br
  have d := depth_strs g.bx
  refine ⟨?_, ?_, ?_, ?_, ?_, ?_⟩
  · have q := lay_strs g.bx fun x hx => goodS_lay (h.bx x hx)
    have a1 := goodS_lay h.nm
    have a2 := goodS_lay h.md
    have a3 := goodS_lay h.br
    simp only [PyData.canLay0] at a1 a2 a3
    simp only [pdG, PyData.canLay0, PyData.canLayAll0, a1, a2, a3, q, Bool.and_self]
  · simp only [pdG, PyData.leavesShort, PyData.leavesShortAll]
    have a1 := goodS_short h.nm
    have a2 := goodS_short h.md
    have a3 := goodS_short h.br
    simp only [PyData.leavesShort] at a1 a2 a3
    simp only [a1, a2, a3, strs_short h.bx, Bool.and_self]
  · simp only [pdG, PyData.bulk, PyData.bulkAll]
    omega
  · simp only [pdG, PyData.showable, PyData.showableAll, strs_show, Bool.and_self]
  · simp only [pdG, PyData.depth, PyData.depthAll]
    omega
  · refine ok_tuple fun x hx => ?_
    simp only [List.mem_cons, List.not_mem_nil, or_false] at hx
    rcases hx with rfl | rfl | rfl | rfl
    · exact goodS_tx h.nm
    · exact goodS_tx h.md
    · exact goodS_tx h.br
    · refine ok_list fun x hx => ?_
      obtain ⟨y, hy, rfl⟩ := List.mem_map.mp hx
      exact goodS_tx (h.bx y hy)
theorem fineL {l : List PyData} {n : Nat} (h : ∀ p ∈ l, Fine p n ∧ p.depth ≤ 9) (hl : l.length ≤ 1000) : Fine (.list l) ((n + 1) * l.length) := by
  have tx := ok_list (xs := l) fun x hx => (h x hx).1.tx
  have q : PyData.canLayAll0 l = true ∧ PyData.leavesShortAll 8 l = true ∧ PyData.bulkAll l ≤ (n + 1) * l.length ∧ PyData.showableAll l = true ∧ PyData.depthAll l ≤ 9 := by
    clear hl tx
    induction l with
    | nil => exact ⟨rfl, by simp [PyData.leavesShortAll], by simp [PyData.bulkAll], by simp [PyData.showableAll], by simp [PyData.depthAll]⟩
    | cons a l ih =>
      obtain ⟨c1, c2, c3, c4, c5⟩ := ih fun p hp => h p (List.mem_cons_of_mem _ hp)
      obtain ⟨⟨a1, a2, a3, a4, a5, _⟩, a6⟩ := h a List.mem_cons_self
      refine ⟨by simp only [PyData.canLayAll0, a1, c1, Bool.and_self], by simp only [PyData.leavesShortAll, a2, c2, Bool.and_self], ?_, by simp only [PyData.showableAll, a4, c4, Bool.and_self], by simp only [PyData.depthAll]; omega⟩
      simp only [PyData.bulkAll, List.length_cons, Nat.mul_succ]
      omega
  obtain ⟨c1, c2, c3, c4, c5⟩ := q
  exact ⟨by simp only [PyData.canLay0, c1], by simp only [PyData.leavesShort, c2], by simp only [PyData.bulk]; exact c3, by simp only [PyData.showable, c4], by simp only [PyData.depth]; omega, tx⟩
theorem depthG {g : Gp} (h : GpS g) : (pdG g).depth ≤ 9 := by
  have d := depth_strs g.bx
  simp only [pdG, PyData.depth, PyData.depthAll]
  omega
theorem finePs {ps : List Gp} (h : ∀ g ∈ ps, GpS g) (hl : ps.length ≤ 10) : Fine (pdL ps) 810 := by
  have q := fineL (l := ps.map pdG) (n := 80) (fun p hp => by
    obtain ⟨g, hg, rfl⟩ := List.mem_map.mp hp
    exact ⟨fineG (h g hg), depthG (h g hg)⟩) (by rw [List.length_map]; omega)
  rw [List.length_map] at q
  exact ⟨q.lay, q.short, Nat.le_trans q.bulk (by omega), q.sh, q.dp, q.tx⟩
theorem Fine.shaped {p : PyData} {n : Nat} (h : Fine p n) : SeqAt.shaped p = true := by
  have := h.dp
  simp only [SeqAt.shaped, h.lay, Bool.true_and, decide_eq_true_eq]
  omega
theorem Fine.size {p : PyData} {n : Nat} (h : Fine p n) (hn : n ≤ 100000) : p.shown.length ≤ sizeLine := by
  have := PyData.shown_le_bulk 8 (Nat.le_refl _) p h.short
  have b := h.bulk
  rw [sizeLine_eq]
  omega
/-- == of equal data -/
theorem eq_same {x y : D} {p : PyData} {S : Sto} {neg : Bool} (hx : deep S x = some p) (hy : deep S y = some p) (hp : SeqAt.shaped p = true) (hl : p.canLay0 = true) : gEq neg x y S = .ok (.bl (!neg)) S := by
  unfold gEq
  rw [hx, hy]
  dsimp only
  rw [if_pos ⟨hp, hp⟩, SeqAt.eqv_refl p hl]
  cases neg <;> rfl
theorem Fine.txl {p : PyData} {n : Nat} (h : Fine p n) : PyData.canLay0 (.str p.shown) = true := by
  have := h.tx
  simp only [PyData.canLay0, this]
theorem repr_ok {x : D} {p : PyData} {n : Nat} {S : Sto} (hx : deepq S x = some p) (h : Fine p n) (hn : n ≤ 100000) : a1 gReprQ [x] S = .ok (.str p.shown) S := by
  show gReprQ x S = _
  unfold gReprQ
  rw [hx]
  dsimp only
  rw [if_pos ⟨h.sh, by have := h.dp; omega, h.size hn⟩]
/-! ### frozen groups as data -/
theorem deep_it (f : Nat → Option PyData) (g : Gp) : deep0 f (itF g) = some (pdG g) := by
  show (match deep0 f (.str g.nm), deepL f [.str g.md, .str g.br, .lst (g.bx.map .str)] with | some a, some b => some (a :: b) | _, _ => none).map PyData.tuple = _
  show (match some (PyData.str g.nm), (match some (PyData.str g.md), (match some (PyData.str g.br), (match (deepL f (g.bx.map .str)).map PyData.list, some ([] : List PyData) with | some a, some b => some (a :: b) | _, _ => none) with | some a, some b => some (a :: b) | _, _ => none) with | some a, some b => some (a :: b) | _, _ => none) with | some a, some b => some (a :: b) | _, _ => none).map PyData.tuple = _
  rw [strs_d0]
  rfl
theorem deep_its (f : Nat → Option PyData) (ps : List Gp) : deepL f (ps.map itF) = some (ps.map pdG) := by
  induction ps with
  | nil => rfl
  | cons g ps ih => show (match deep0 f (itF g), deepL f (ps.map itF) with | some a, some b => some (a :: b) | _, _ => none) = _; rw [deep_it, ih]; rfl
theorem dq_strs (f : Nat → Option PyData) (l : List Str) : dqL f (l.map .str) = some (l.map .str) := by
  induction l with
  | nil => rfl
  | cons a l ih => show (match dq0 f (.str a), dqL f (l.map .str) with | some a, some b => some (a :: b) | _, _ => none) = _; rw [ih]; rfl
theorem dq_it (f : Nat → Option PyData) (g : Gp) : dq0 f (itF g) = some (pdG g) := by
  show (match some (PyData.str g.nm), (match some (PyData.str g.md), (match some (PyData.str g.br), (match (dqL f (g.bx.map .str)).map PyData.list, some ([] : List PyData) with | some a, some b => some (a :: b) | _, _ => none) with | some a, some b => some (a :: b) | _, _ => none) with | some a, some b => some (a :: b) | _, _ => none) with | some a, some b => some (a :: b) | _, _ => none).map PyData.tuple = _
  rw [dq_strs]
  rfl
theorem dq_its (f : Nat → Option PyData) (ps : List Gp) : dqL f (ps.map itF) = some (ps.map pdG) := by
  induction ps with
  | nil => rfl
  | cons g ps ih => show (match dq0 f (itF g), dqL f (ps.map itF) with | some a, some b => some (a :: b) | _, _ => none) = _; rw [dq_it, ih]; rfl
theorem deep_ps (S : Sto) (ps : List Gp) : deep S (.lst (ps.map itF)) = some (pdL ps) := by
  show (deepL (deepC S 4) (ps.map itF)).map PyData.list = _
  rw [deep_its]
  rfl
theorem deepq_ps (S : Sto) (ps : List Gp) : deepq S (.lst (ps.map itF)) = some (pdL ps) := by
  show (dqL (dqC S 4) (ps.map itF)).map PyData.list = _
  rw [dq_its]
  rfl
/-! ### groups in cells: made by a copy, by shop.groups() -/
def bC (p : Gp) : CO := .lst (p.bx.map .str)
def gi : Nat → List Gp → List D
  | _, [] => []
  | n, p :: ps => .tup [.str p.nm, .str p.md, .str p.br, .cell n] :: gi (n + 1) ps
theorem gi_len : ∀ (n : Nat) (ps : List Gp), (gi n ps).length = ps.length
  | _, [] => rfl
  | n, p :: ps => by show (gi (n + 1) ps).length + 1 = _; rw [gi_len (n + 1) ps]; rfl
/-- the boxes' cells stand -/
def BxAt (S : Sto) : Nat → List Gp → Prop
  | _, [] => True
  | n, p :: ps => S[n]? = some (bC p) ∧ BxAt S (n + 1) ps
theorem bx_new (S : Sto) (T : Sto) : ∀ ps : List Gp, BxAt (S ++ ps.map bC ++ T) S.length ps := fun ps => by
  induction ps generalizing S with
  | nil => trivial
  | cons p ps ih =>
    refine ⟨by simp, ?_⟩
    have := ih (S ++ [bC p])
    simpa using this
theorem BxAt.mono {S S' : Sto} : ∀ {n : Nat} {ps : List Gp}, (∀ (i : Nat) (c : CO), S[i]? = some c → S'[i]? = some c) → BxAt S n ps → BxAt S' n ps
  | _, [], _, _ => trivial
  | n, p :: ps, h, q => ⟨h _ _ q.1, BxAt.mono h q.2⟩
theorem gi_deep {S : Sto} {m : Nat} : ∀ {n : Nat} {ps : List Gp}, BxAt S n ps → deepL (deepC S (m + 1)) (gi n ps) = some (ps.map pdG)
  | _, [], _ => rfl
  | n, p :: ps, h => by
    have c : deepC S (m + 1) n = some (.list (p.bx.map .str)) := by
      unfold deepC
      rw [h.1]
      show (deepL (deepC S m) (p.bx.map .str)).map PyData.list = _
      rw [strs_d0]
      rfl
    show (match (match some (PyData.str p.nm), (match some (PyData.str p.md), (match some (PyData.str p.br), (match deepC S (m + 1) n, some ([] : List PyData) with | some a, some b => some (a :: b) | _, _ => none) with | some a, some b => some (a :: b) | _, _ => none) with | some a, some b => some (a :: b) | _, _ => none) with | some a, some b => some (a :: b) | _, _ => none).map PyData.tuple, deepL (deepC S (m + 1)) (gi (n + 1) ps) with | some a, some b => some (a :: b) | _, _ => none) = _
    rw [c, gi_deep h.2]
    rfl
theorem gi_dq {S : Sto} {m : Nat} : ∀ {n : Nat} {ps : List Gp}, BxAt S n ps → dqL (dqC S (m + 1)) (gi n ps) = some (ps.map pdG)
  | _, [], _ => rfl
  | n, p :: ps, h => by
    have c : dqC S (m + 1) n = some (.list (p.bx.map .str)) := by
      unfold dqC
      rw [h.1]
      show (dqL (dqC S m) (p.bx.map .str)).map PyData.list = _
      rw [dq_strs]
      rfl
    show (match (match some (PyData.str p.nm), (match some (PyData.str p.md), (match some (PyData.str p.br), (match dqC S (m + 1) n, some ([] : List PyData) with | some a, some b => some (a :: b) | _, _ => none) with | some a, some b => some (a :: b) | _, _ => none) with | some a, some b => some (a :: b) | _, _ => none) with | some a, some b => some (a :: b) | _, _ => none).map PyData.tuple, dqL (dqC S (m + 1)) (gi (n + 1) ps) with | some a, some b => some (a :: b) | _, _ => none) = _
    rw [c, gi_dq h.2]
    rfl
theorem gi_melt {S : Sto} {m : Nat} : ∀ {n : Nat} {ps : List Gp}, BxAt S n ps → meltL (meltC S 0 (m + 1)) (gi n ps) = some (ps.map itF)
  | _, [], _ => rfl
  | n, p :: ps, h => by
    have c : melt0 (meltC S 0 (m + 1)) (.cell n) = some (.lst (p.bx.map .str)) := melt_top h.1 (by
      show (meltL _ (p.bx.map .str)).map CO.lst = _
      rw [meltL_cl _ _ (cl_strs _)]
      rfl)
    show (match (match some (D.str p.nm), (match some (D.str p.md), (match some (D.str p.br), (match melt0 (meltC S 0 (m + 1)) (.cell n), some ([] : List D) with | some a, some b => some (a :: b) | _, _ => none) with | some a, some b => some (a :: b) | _, _ => none) with | some a, some b => some (a :: b) | _, _ => none) with | some a, some b => some (a :: b) | _, _ => none).map D.tup, meltL (meltC S 0 (m + 1)) (gi (n + 1) ps) with | some a, some b => some (a :: b) | _, _ => none) = _
    rw [c, gi_melt h.2]
    rfl
/-- a comprehension that lays each group's boxes in a cell -/
theorem comp_gi {Fe : FE} {env0 : Env} (f : Gp → D) (hb : ∀ p, ∃ e1, bindE (.many [1, 2, 3, 4]) (f p) env0 = some e1 ∧ ∀ S, Fe e1 S = .ok (.tup [.str p.nm, .str p.md, .str p.br, .cell S.length]) (S ++ [bC p])) :
    ∀ (ps : List Gp) (S : Sto), compL (.many [1, 2, 3, 4]) .fz (fun _ => pure true) Fe env0 (ps.map f) S = some (gi S.length ps, S ++ ps.map bC)
  | [], S => by unfold compL; rw [List.map_nil]; simp [chk, gi]
  | p :: ps, S => by
    obtain ⟨e1, h1, h2⟩ := hb p
    have ih := comp_gi f hb ps (S ++ [bC p])
    rw [List.map_cons]
    conv => lhs; unfold compL
    rw [if_pos (show chk .fz S = true from rfl), h1]
    dsimp only
    show (match nox (Fe e1 S) with
      | none => none
      | some (y, S2) => match compL (.many [1, 2, 3, 4]) .fz (fun _ => pure true) Fe env0 (ps.map f) S2 with
        | none => none
        | some (ys, S3) => some (y :: ys, S3)) = _
    rw [h2 S]
    show (match compL (.many [1, 2, 3, 4]) .fz (fun _ => pure true) Fe env0 (ps.map f) (S ++ [bC p]) with
        | none => none
        | some (ys, S3) => some (_ :: ys, S3)) = _
    rw [ih]
    simp [gi]
theorem copied_raw {S : Sto} {ps : List Gp} (hl : ps.length ≤ 100) : M__law_copied [.lst (ps.map itF)] S = .ok (.cell (S.length + ps.length)) (S ++ ps.map bC ++ [.lst (gi S.length ps)]) := by
  have c := comp_gi (Fe := fTup (aCons (fVar 1) (aCons (fVar 2) (aCons (fVar 3) (aCons (fCell (oOne gList (aCons (fVar 4) aNil))) aNil))))) (env0 := wipeE [.val (.lst (ps.map itF)), .un, .un, .un, .un] [1, 2, 3, 4]) itF
    (fun p => ⟨[.val (.lst (ps.map itF)), .val (.str p.nm), .val (.str p.md), .val (.str p.br), .val (.lst (p.bx.map .str))], rfl, fun S => ev_tup (ev_cons (ev_var rfl) (ev_cons (ev_var rfl) (ev_cons (ev_var rfl) (ev_cons (ev_cell (ev_one (ev_cons (ev_var rfl) ev_nil) rfl)) ev_nil))))⟩) ps S
  have q := ev_cell (ev_lc (env := [.val (.lst (ps.map itF)), .un, .un, .un, .un]) (S := S) (vs := [1, 2, 3, 4]) (b := .many [1, 2, 3, 4]) (ev_seqL (ev_var (i := 0) rfl)) c (by rw [gi_len]; omega))
  rw [show (S ++ ps.map bC).length = S.length + ps.length from by simp] at q
  exact mk_rt rfl rfl (ev_ret q)
theorem groups_raw {S : Sto} {ps : List Gp} (hl : ps.length ≤ 100) : M_Shop_groups [shopD ps] S = .ok (.cell (S.length + ps.length)) (S ++ ps.map bC ++ [.lst (gi S.length ps)]) := by
  have c := comp_gi (Fe := fTup (aCons (fVar 1) (aCons (fVar 2) (aCons (fVar 3) (aCons (fCell (oOne gList (aCons (fVar 4) aNil))) aNil))))) (env0 := wipeE [.val (shopD ps), .un, .un, .un, .un] [1, 2, 3, 4]) rowD
    (fun p => ⟨[.val (shopD ps), .val (.str p.nm), .val (.str p.md), .val (.str p.br), .val (.tup (p.bx.map .str))], rfl, fun S => ev_tup (ev_cons (ev_var rfl) (ev_cons (ev_var rfl) (ev_cons (ev_var rfl) (ev_cons (ev_cell (ev_one (ev_cons (ev_var rfl) ev_nil) rfl)) ev_nil))))⟩) ps S
  have q := ev_cell (ev_lc (env := [.val (shopD ps), .un, .un, .un, .un]) (S := S) (vs := [1, 2, 3, 4]) (b := .many [1, 2, 3, 4]) (ev_seqT (F := fFld ["Shop"] "rows" (vVar 0)) (ds := ps.map rowD) (S1 := S) rfl) c (by rw [gi_len]; omega))
  rw [show (S ++ ps.map bC).length = S.length + ps.length from by simp] at q
  exact mk_rt rfl rfl (ev_ret q)
/-- the copy, shop.groups() as trees -/
theorem top_melt {ps : List Gp} : melt0 (meltC (([] : Sto) ++ ps.map bC ++ [.lst (gi 0 ps)]) 0 6) (.cell (0 + ps.length)) = some (.lst (ps.map itF)) := by
  have hk : (([] : Sto) ++ ps.map bC ++ [.lst (gi 0 ps)])[0 + ps.length]? = some (.lst (gi 0 ps)) := by simp
  have b : BxAt (([] : Sto) ++ ps.map bC ++ [.lst (gi 0 ps)]) 0 ps := bx_new [] _ ps
  have e : melt0 (meltC (([] : Sto) ++ ps.map bC ++ [.lst (gi 0 ps)]) 0 6) (.cell (0 + ps.length)) = meltC (([] : Sto) ++ ps.map bC ++ [.lst (gi 0 ps)]) 0 6 (0 + ps.length) := rfl
  rw [e]
  unfold meltC
  rw [if_neg (Nat.not_lt_zero _), hk]
  dsimp only
  show ((meltL _ (gi 0 ps)).map CO.lst).map frzD = _
  rw [gi_melt b]
  rfl
theorem copied_ok {S : Sto} {ps : List Gp} (hl : ps.length ≤ 100) : N__law_copied [.lst (ps.map itF)] S = .ok (.lst (ps.map itF)) S :=
  frm_cell (by show (clL (ps.map itF) && true) = true; rw [cl_its]; rfl) (copied_raw (S := []) hl) (by simp) top_melt
theorem groups_ok {S : Sto} {ps : List Gp} (hl : ps.length ≤ 100) : N_Shop_groups [shopD ps] S = .ok (.lst (ps.map itF)) S :=
  frm_cell (by show (clD (shopD ps) && true) = true; rw [cl_shop]; rfl) (groups_raw (S := []) hl) (by simp) top_melt
end HT.C
set_option maxRecDepth 100000
set_option maxHeartbeats 1000000
namespace HT.C
open PySem PySem.Spec L2
open PyProof.Rows hiding St
/-! ### what raises passes on -/
section
variable {env e1 : Env} {S S1 S2 S3 : Sto} {F G Fa Fb Fc : FE} {x y z d : D} {C : Str} {fs : List (Str × D)}
theorem xv_f2a {g : D → D → Cm D} (h : Fa env S = .exc C fs S1) : f2 g Fa Fb env S = .exc C fs S1 := by unfold f2; rw [h]; rfl
theorem xv_f2b {g : D → D → Cm D} (ha : Fa env S = .ok x S1) (h : Fb env S1 = .exc C fs S2) : f2 g Fa Fb env S = .exc C fs S2 := by unfold f2; rw [ha, bnd_ok, h]; rfl
theorem xv_cons {Fr : Env → Cm (List D)} (h : Fa env S = .exc C fs S1) : aCons Fa Fr env S = .exc C fs S1 := by unfold aCons; rw [h]; rfl
theorem xv_cons2 {Fr : Env → Cm (List D)} (ha : Fa env S = .ok x S1) (h : Fr env S1 = .exc C fs S2) : aCons Fa Fr env S = .exc C fs S2 := by unfold aCons; rw [ha, bnd_ok, h]; rfl
theorem xv_one {g : D → Cm CO} {Fr : Env → Cm (List D)} (h : Fr env S = .exc C fs S1) : oOne g Fr env S = .exc C fs S1 := by unfold oOne; rw [h]; rfl
theorem xv_cell {Fo : Env → Cm CO} (h : Fo env S = .exc C fs S1) : fCell Fo env S = .exc C fs S1 := by unfold fCell; rw [h]; rfl
theorem xv_frz {Fo : Env → Cm CO} (h : Fo env S = .exc C fs S1) : fFrz Fo env S = .exc C fs S1 := by unfold fFrz; rw [h]; rfl
theorem xv_ret (h : F env S = .exc C fs S1) : sRet F env S = .ok (.xc env C fs) S1 := by unfold sRet; rw [h]; rfl
theorem xv_set {i : Nat} (h : F env S = .exc C fs S1) : sSet i F env S = .ok (.xc env C fs) S1 := by unfold sSet; rw [h]; rfl
end
/-! ### number_of, boxes, names -/
def enF : Nat → List Gp → List D
  | _, [] => []
  | j, g :: r => .tup [.int (j : Nat), rowD g] :: enF (j + 1) r
theorem enF_eq : ∀ (ps : List Gp) (j : Nat), ((ps.map rowD).mapIdx fun i d => D.tup [.int ((i + j : Nat) : Int), d]) = enF j ps
  | [], _ => rfl
  | g :: r, j => by
    rw [List.map_cons, List.mapIdx_cons]
    have := enF_eq r (j + 1)
    simp only [enF]
    rw [← this, Nat.zero_add]
    congr 1
    congr 1
    funext i d
    rw [show i + 1 + j = i + (j + 1) from by omega]
theorem enum_rows (ps : List Gp) : enumD (ps.map rowD) = enF 0 ps := enF_eq ps 0
theorem enF_app : ∀ (a b : List Gp) (j : Nat), enF j (a ++ b) = enF j a ++ enF (j + a.length) b
  | [], b, j => by simp [enF]
  | g :: a, b, j => by
    show _ :: enF (j + 1) (a ++ b) = _ :: (enF (j + 1) a ++ _)
    rw [enF_app a b (j + 1)]
    simp only [List.length_cons]
    rw [show j + 1 + a.length = j + (a.length + 1) from by omega]
abbrev nofT : Env → Cm Bool := fAndT (fB (fArgs (a2 (gIsi is_str (.ty "str"))) (aCons (fVar 1) (aCons (fun _ => pure (.ty "str")) aNil)))) (fB (f2 (gEq false) (f2 gIx (fVar 3) (fun _ => pure (.int 0))) (fVar 1)))
abbrev nofB : FS := sIf nofT (sRet (fVar 2)) sNil
theorem nof_skip {sh x : D} {S : Sto} (more : List D) : ∀ (L : List Gp) (j : Nat) (s2 s3 : Sl), (∀ g ∈ L, ∀ i : Nat, nofT [.val sh, .val x, .val (.int i), .val (rowD g)] S = .ok false S) →
    ∃ s2' s3', loopD (.many [2, 3]) .fz nofB (enF j L ++ more) [.val sh, .val x, s2, s3] S = loopD (.many [2, 3]) .fz nofB more [.val sh, .val x, s2', s3'] S
  | [], j, s2, s3, _ => ⟨s2, s3, rfl⟩
  | g :: L, j, s2, s3, h => by
    obtain ⟨s2', s3', e⟩ := nof_skip more L (j + 1) (.val (.int j)) (.val (rowD g)) (fun g' hg' => h g' (List.mem_cons_of_mem _ hg'))
    exact ⟨s2', s3', (loop_cons (e1 := [.val sh, .val x, .val (.int j), .val (rowD g)]) rfl rfl (ev_skip (h g List.mem_cons_self j))).trans e⟩
theorem isi_str (x : Str) (S : Sto) : a2 (gIsi is_str (.ty "str")) [.str x, .ty "str"] S = .ok (.bl true) S := rfl
theorem nofT_str {sh : D} {x : Str} {g : Gp} {S : Sto} (hx : PyData.canLay0 (.str x) = true) (hg : PyData.canLay0 (.str g.nm) = true) (i : Nat) : nofT [.val sh, .val (.str x), .val (.int i), .val (rowD g)] S = .ok (g.nm == x) S :=
  ev_andT_t (ev_fB (ev_args (ev_cons (ev_var rfl) (ev_cons ev_c ev_nil)) (isi_str x S))) (ev_fB (ev_f2 (ev_f2 (ev_var rfl) ev_c (y := .int 0) (r := .ok (.str g.nm) S) rfl) (ev_var (d := .str x) rfl) (eq_str g.nm x hg hx S)))
theorem nof_rows {ps : List Gp} {x : D} {s2 s3 : Sl} {S : Sto} : iEnumA (aCons (fFld ["Shop"] "rows" (vVar 0)) aNil) [.val (shopD ps), .val x, s2, s3] S = .ok (enF 0 ps, .fz) S := by
  rw [← enum_rows]
  rfl
theorem nof_ok {L r : List Gp} {g : Gp} {S : Sto} (hx : PyData.canLay0 (.str g.nm) = true) (hL : ∀ a ∈ L, PyData.canLay0 (.str a.nm) = true ∧ a.nm ≠ g.nm) : N_number_of [shopD (L ++ g :: r), .str g.nm] S = .ok (.int (L.length : Nat)) S := by
  obtain ⟨s2', s3', e⟩ := nof_skip (sh := shopD (L ++ g :: r)) (x := .str g.nm) (S := []) (enF (0 + L.length) (g :: r)) L 0 .un .un (fun a ha i => by
    rw [nofT_str hx (hL a ha).1 i]
    have : (a.nm == g.nm) = false := by simp [(hL a ha).2]
    rw [this])
  refine frm_cl (by show (clD (shopD _) && true) = true; rw [cl_shop]; rfl) ?_
  refine mk_rt (env := [.val (shopD (L ++ g :: r)), .val (.str g.nm), .un, .un]) rfl rfl ((seq_rt ?_))
  refine ev_for nof_rows rfl ?_
  rw [enF_app]
  refine e.trans (loop_rt (e1 := [.val (shopD (L ++ g :: r)), .val (.str g.nm), .val (.int ((0 + L.length : Nat) : Int)), .val (rowD g)]) rfl rfl ?_)
  refine ev_if_t (by rw [nofT_str hx hx, show (g.nm == g.nm) = true from beq_self_eq_true _]) ?_
  rw [Nat.zero_add]
  exact ev_ret (ev_var rfl)
theorem nof_bad {ps : List Gp} {x : D} {S : Sto} (hc : clD x = true) (hT : ∀ g ∈ ps, ∀ i : Nat, nofT [.val (shopD ps), .val x, .val (.int i), .val (rowD g)] [] = .ok false []) : N_number_of [shopD ps, x] S = .exc "UnknownName" [("name", x)] S := by
  obtain ⟨s2', s3', e⟩ := nof_skip (sh := shopD ps) (x := x) (S := []) [] ps 0 .un .un hT
  rw [List.append_nil] at e
  refine frm_exc (by show (clD (shopD _) && (clD x && true)) = true; rw [cl_shop, hc]; rfl) ?_
  refine mk_xc (e' := [.val (shopD ps), .val x, s2', s3']) (env := [.val (shopD ps), .val x, .un, .un]) rfl rfl (ev_seq (ev_for nof_rows rfl (e.trans (loop_nil rfl))) (ev_raise (ev_cons (ev_var rfl) ev_nil)))
theorem ix_rows {L r : List Gp} {g : Gp} {S : Sto} : gIx (.tup ((L ++ g :: r).map rowD)) (.int (L.length : Nat)) S = .ok (rowD g) S := by
  show (match atI ((L ++ g :: r).map rowD) (L.length : Nat) with | some d => R.ok d S | none => .stuck) = _
  rw [atI_nat (v := rowD g) (by simp)]
theorem boxes_raw {L r : List Gp} {g : Gp} {S : Sto} (hx : PyData.canLay0 (.str g.nm) = true) (hL : ∀ a ∈ L, PyData.canLay0 (.str a.nm) = true ∧ a.nm ≠ g.nm) : M_Shop_boxes [shopD (L ++ g :: r), .str g.nm] S = .ok (.cell S.length) (S ++ [bC g]) :=
  mk_rt (env := [.val (shopD (L ++ g :: r)), .val (.str g.nm)]) rfl rfl (ev_ret (ev_cell (ev_one (ev_cons (ev_f2 (ev_f2 (Fa := fFld ["Shop"] "rows" (vVar 0)) (x := .tup ((L ++ g :: r).map rowD)) (S1 := S) rfl (ev_call (ev_cons (ev_var rfl) (ev_cons (ev_var rfl) ev_nil)) (nof_ok hx hL)) ix_rows) ev_c (y := .int 3) (r := .ok (.tup (g.bx.map .str)) S) rfl) ev_nil) rfl)))
theorem boxes_ok {L r : List Gp} {g : Gp} {S : Sto} (hx : PyData.canLay0 (.str g.nm) = true) (hL : ∀ a ∈ L, PyData.canLay0 (.str a.nm) = true ∧ a.nm ≠ g.nm) : N_Shop_boxes [shopD (L ++ g :: r), .str g.nm] S = .ok (.lst (g.bx.map .str)) S :=
  frm_cell (T := ([] : Sto) ++ [bC g]) (by show (clD (shopD _) && (true && true)) = true; rw [cl_shop]; rfl) (boxes_raw (S := []) hx hL) (by simp) (melt_top (c := bC g) (by rfl) (by
    show (meltL _ (g.bx.map .str)).map CO.lst = _
    rw [meltL_cl _ _ (cl_strs _)]
    rfl))
theorem boxes_bad {ps : List Gp} {x : D} {S : Sto} (hc : clD x = true) (hT : ∀ g ∈ ps, ∀ i : Nat, nofT [.val (shopD ps), .val x, .val (.int i), .val (rowD g)] [] = .ok false []) : N_Shop_boxes [shopD ps, x] S = .exc "UnknownName" [("name", x)] S := by
  refine frm_exc (by show (clD (shopD _) && (clD x && true)) = true; rw [cl_shop, hc]; rfl) ?_
  have q := nof_bad (S := []) hc hT
  refine mk_xc (env := [.val (shopD ps), .val x]) (e' := [.val (shopD ps), .val x]) rfl rfl ?_
  have e : (fCall N_number_of [] (aCons (fVar 0) (aCons (fVar 1) aNil))) [.val (shopD ps), .val x] [] = .exc "UnknownName" [("name", x)] [] := ev_call (ev_cons (ev_var rfl) (ev_cons (ev_var rfl) ev_nil)) q
  exact xv_ret (xv_cell (xv_one (xv_cons (xv_f2a (xv_f2b (x := .tup (ps.map rowD)) (S1 := []) rfl e)))))
def headD : D → Option D
  | .tup (x :: _) => some x
  | _ => none
theorem heads {f : Gp → D} (h0 : ∀ g, ∃ r, f g = .tup (.str g.nm :: r)) : ∀ ps : List Gp, (ps.map f).filterMap headD = ps.map fun g => .str g.nm
  | [] => rfl
  | g :: ps => by
    obtain ⟨r, hr⟩ := h0 g
    rw [List.map_cons, List.map_cons, ← heads h0 ps, List.filterMap_cons_some (b := .str g.nm) (by rw [hr]; rfl)]
theorem names_comp {ps : List Gp} {f : Gp → D} {S : Sto} {e0 : Env} (i : Nat) (hi : i < e0.length) (h0 : ∀ g, ∃ r, f g = .tup (.str g.nm :: r)) :
    compL (.one i) .fz (fun _ => pure true) (f2 gIx (fVar i) (fun _ => pure (.int 0))) e0 (ps.map f) S = some (ps.map fun g => .str g.nm, S) := by
  have q := comp_pure (b := .one i) (src := .fz) (Ft := fun _ => pure true) (Fe := f2 gIx (fVar i) (fun _ => pure (.int 0))) (env0 := e0) (S := S) rfl headD (ps.map f) (fun d hd => by
    obtain ⟨g, hg, rfl⟩ := List.mem_map.mp hd
    obtain ⟨r, hr⟩ := h0 g
    refine ⟨e0.set i (.val (f g)), rfl, .inr ⟨.str g.nm, rfl, ?_, by rw [hr]; rfl⟩⟩
    refine ev_f2 (ev_var (by rw [List.getElem?_set_self hi])) ev_c ?_
    rw [hr]
    show (match atI (D.str g.nm :: r) 0 with | some d => R.ok d S | none => .stuck) = _
    rw [at0])
  rw [q, heads h0]
def nmD (ps : List Gp) : List D := ps.map fun g => .str g.nm
theorem names_raw {ps : List Gp} {S : Sto} (hl : ps.length ≤ 100) : M_Shop_names [shopD ps] S = .ok (.cell S.length) (S ++ [.lst (nmD ps)]) := by
  have c := names_comp (ps := ps) (f := rowD) (S := S) (e0 := [.val (shopD ps), .un]) 1 (by show 1 < 2; decide) (fun g => ⟨_, rfl⟩)
  exact mk_rt rfl rfl (ev_ret (ev_cell (ev_lc (env := [.val (shopD ps), .un]) (vs := [1]) (b := .one 1) (ev_seqT (F := fFld ["Shop"] "rows" (vVar 0)) (ds := ps.map rowD) (S1 := S) rfl) c (by unfold nmD; rw [List.length_map]; omega))))
theorem cl_nms (ps : List Gp) : clL (nmD ps) = true := clL_map _ (fun _ => rfl) ps
theorem names_ok {ps : List Gp} {S : Sto} (hl : ps.length ≤ 100) : N_Shop_names [shopD ps] S = .ok (.lst (nmD ps)) S :=
  frm_cell (T := ([] : Sto) ++ [.lst (nmD ps)]) (by show (clD (shopD _) && true) = true; rw [cl_shop]; rfl) (names_raw (S := []) hl) (by simp) (melt_top (c := .lst (nmD ps)) (by rfl) (by
    show (meltL _ (nmD ps)).map CO.lst = _
    rw [meltL_cl _ _ (cl_nms _)]
    rfl))
end HT.C
set_option maxRecDepth 100000
set_option maxHeartbeats 1000000
namespace HT.C
open PySem PySem.Spec L2
open PyProof.Rows hiding St
/-! ### Shop == -/
def rowP (g : Gp) : PyData := .tuple [.str g.nm, .str g.md, .str g.br, .tuple (g.bx.map .str)]
theorem eqv_consA (x y : PyData) (xs ys : List PyData) : PyData.eqvAll (x :: xs) (y :: ys) = (PyData.eqv x y && PyData.eqvAll xs ys) := by rw [PyData.eqvAll]
theorem eqv_strs : ∀ a b : List Str, PyData.eqvAll (a.map .str) (b.map .str) = true ↔ a = b
  | [], [] => by simp [PyData.eqvAll]
  | [], _ :: _ => by simp [PyData.eqvAll]
  | _ :: _, [] => by simp [PyData.eqvAll]
  | x :: a, y :: b => by
    rw [List.map_cons, List.map_cons, eqv_consA, Bool.and_eq_true, eqv_strs a b, List.cons.injEq]
    simp only [PyData.eqv, beq_iff_eq]
theorem eqv_row (a b : Gp) : PyData.eqv (rowP a) (rowP b) = true ↔ a = b := by
  obtain ⟨a1, a2, a3, a4⟩ := a
  obtain ⟨b1, b2, b3, b4⟩ := b
  simp only [rowP, PyData.eqv, PyData.eqvAll, Bool.and_eq_true, beq_iff_eq, eqv_strs, Gp.mk.injEq, and_true]
theorem eqv_rows : ∀ a b : List Gp, PyData.eqvAll (a.map rowP) (b.map rowP) = true ↔ a = b
  | [], [] => by simp [PyData.eqvAll]
  | [], _ :: _ => by simp [PyData.eqvAll]
  | _ :: _, [] => by simp [PyData.eqvAll]
  | x :: a, y :: b => by rw [List.map_cons, List.map_cons, eqv_consA, Bool.and_eq_true, eqv_rows a b, List.cons.injEq, eqv_row]
def rowsP (ps : List Gp) : PyData := .tuple (ps.map rowP)
theorem rows_shaped {ps : List Gp} (h : ∀ g ∈ ps, GpS g) : SeqAt.shaped (rowsP ps) = true := by
  have q : PyData.canLayAll0 (ps.map rowP) = true ∧ PyData.depthAll (ps.map rowP) ≤ 9 := by
    induction ps with
    | nil => exact ⟨rfl, by simp [PyData.depthAll]⟩
    | cons g ps ih =>
      obtain ⟨c1, c2⟩ := ih fun x hx => h x (List.mem_cons_of_mem _ hx)
      have hg := h g List.mem_cons_self
      have q := lay_strs g.bx fun x hx => goodS_lay (hg.bx x hx)
      have d := depth_strs g.bx
      have a1 := goodS_lay hg.nm
      have a2 := goodS_lay hg.md
      have a3 := goodS_lay hg.br
      simp only [PyData.canLay0] at a1 a2 a3
      refine ⟨by simp only [List.map_cons, PyData.canLayAll0, rowP, PyData.canLay0, a1, a2, a3, q, c1, Bool.and_self], ?_⟩
      simp only [List.map_cons, PyData.depthAll, rowP, PyData.depth]
      omega
  simp only [SeqAt.shaped, rowsP, PyData.canLay0, q.1, PyData.depth, Bool.true_and, decide_eq_true_eq]
  omega
theorem deep_row (f : Nat → Option PyData) (g : Gp) : deep0 f (rowD g) = some (rowP g) := by
  show (match some (PyData.str g.nm), (match some (PyData.str g.md), (match some (PyData.str g.br), (match (deepL f (g.bx.map .str)).map PyData.tuple, some ([] : List PyData) with | some a, some b => some (a :: b) | _, _ => none) with | some a, some b => some (a :: b) | _, _ => none) with | some a, some b => some (a :: b) | _, _ => none) with | some a, some b => some (a :: b) | _, _ => none).map PyData.tuple = _
  rw [strs_d0]
  rfl
theorem deep_rowL (f : Nat → Option PyData) (ps : List Gp) : deepL f (ps.map rowD) = some (ps.map rowP) := by
  induction ps with
  | nil => rfl
  | cons g ps ih => show (match deep0 f (rowD g), deepL f (ps.map rowD) with | some a, some b => some (a :: b) | _, _ => none) = _; rw [deep_row, ih]; rfl
theorem deep_rows (S : Sto) (ps : List Gp) : deep S (.tup (ps.map rowD)) = some (rowsP ps) := by
  show (deepL (deepC S 4) (ps.map rowD)).map PyData.tuple = _
  rw [deep_rowL]
  rfl
theorem eq_rows {ps qs : List Gp} {S : Sto} {neg : Bool} (h1 : ∀ g ∈ ps, GpS g) (h2 : ∀ g ∈ qs, GpS g) (b : Bool) (hb : b = true ↔ ps = qs) : gEq neg (.tup (ps.map rowD)) (.tup (qs.map rowD)) S = .ok (.bl (if neg then !b else b)) S := by
  unfold gEq
  rw [deep_rows, deep_rows]
  dsimp only
  rw [if_pos ⟨rows_shaped h1, rows_shaped h2⟩]
  have e : PyData.eqv (rowsP ps) (rowsP qs) = b := by
    have q : PyData.eqv (rowsP ps) (rowsP qs) = true ↔ ps = qs := by
      unfold rowsP
      rw [PyData.eqv]
      exact eqv_rows ps qs
    exact Bool.eq_iff_iff.mpr (q.trans hb.symm)
  rw [e]
theorem shop_is (qs : List Gp) (S : Sto) : a2 (gIsi is_Shop (.own "Shop")) [shopD qs, .glob "Shop"] S = .ok (.bl true) S := rfl
theorem shop_eq {ps qs : List Gp} {S : Sto} (h1 : ∀ g ∈ ps, GpS g) (h2 : ∀ g ∈ qs, GpS g) (b : Bool) (hb : b = true ↔ ps = qs) : N_Shop_eq [shopD ps, shopD qs] S = .ok (.bl b) S := by
  refine frm_cl (by show (clD (shopD _) && (clD (shopD _) && true)) = true; rw [cl_shop, cl_shop]; rfl) ?_
  refine mk_rt (env := [.val (shopD ps), .val (shopD qs)]) rfl rfl (ev_ret (ev_andV_t (ev_args (ev_cons (ev_var rfl) (ev_cons ev_c ev_nil)) (shop_is qs [])) (ev_f2 (Fa := fFld ["Shop"] "rows" (vVar 0)) (Fb := fFld ["Shop"] "rows" (vVar 1)) (x := .tup (ps.map rowD)) (y := .tup (qs.map rowD)) (S1 := []) (S2 := []) rfl rfl (eq_rows h1 h2 b hb))))
theorem shop_neq {ps : List Gp} {x : D} {S : Sto} {t : Ty} (hc : clD x = true) (ht : tyD [] x = some t) (hb : is_Shop t = some false) : N_Shop_eq [shopD ps, x] S = .ok (.bl false) S := by
  refine frm_cl (by show (clD (shopD _) && (clD x && true)) = true; rw [cl_shop, hc]; rfl) ?_
  have e : a2 (gIsi is_Shop (.own "Shop")) [x, .glob "Shop"] [] = .ok (.bl false) [] := by
    show gIsi is_Shop (.own "Shop") x (.glob "Shop") [] = _
    unfold gIsi
    rw [if_pos (show (ClsD.own "Shop").is (.glob "Shop") = true from rfl), ht]
    dsimp only
    rw [hb]
  exact mk_rt (env := [.val (shopD ps), .val x]) rfl rfl (ev_ret (ev_andV_f (ev_args (ev_cons (ev_var rfl) (ev_cons ev_c ev_nil)) e)))
theorem ob_shop (ps : List Gp) (S : Sto) : isOb "Shop" S (shopD ps) = true := rfl
/-- x == y of two shops -/
theorem shop_eqO {ps qs : List Gp} {S : Sto} {neg : Bool} (h1 : ∀ g ∈ ps, GpS g) (h2 : ∀ g ∈ qs, GpS g) (b : Bool) (hb : b = true ↔ ps = qs) : gEqO neg "Shop" N_Shop_eq (shopD ps) (shopD qs) S = .ok (.bl (neg ^^ b)) S := by
  unfold gEqO
  rw [if_pos (ob_shop ps S), if_pos (.inl (ob_shop qs S)), shop_eq h1 h2 b hb]
  rfl
theorem shop_neqO {ps : List Gp} {x : D} {S : Sto} {neg : Bool} {n : String} (hc : clD x = true) (hn : isOb "Shop" S x = false) (ht : ∀ S, tyD S x = some (.b n)) (hb : is_Shop (.b n) = some false) : gEqO neg "Shop" N_Shop_eq (shopD ps) x S = .ok (.bl neg) S ∧ gEqO false "Shop" N_Shop_eq x (shopD ps) S = .ok (.bl false) S := by
  have hbt : (bTy S x).isSome = true := by unfold bTy; rw [ht S]; rfl
  constructor
  · unfold gEqO
    rw [if_pos (ob_shop ps S), if_pos (.inr hbt), shop_neq hc (ht []) hb]
    cases neg <;> rfl
  · unfold gEqO
    rw [if_neg (by rw [hn]; exact Bool.false_ne_true), if_pos (ob_shop ps S), if_pos ⟨rfl, hbt⟩, shop_neq hc (ht []) hb]
    rfl
/-! ### Shop(given) -/
theorem lf_strs (l : List Str) : lfL (l.map .str) = true := by
  induction l with
  | nil => rfl
  | cons a l ih => show (true && lfL (l.map .str)) = true; rw [ih]; rfl
theorem lf_rows (l : List Gp) : lfL (l.map rowD) = true := by
  induction l with
  | nil => rfl
  | cons a l ih =>
    show ((true && (true && (true && (lfL (a.bx.map .str) && true)))) && lfL (l.map rowD)) = true
    rw [ih, lf_strs]
    rfl
theorem given_melt {S : Sto} {k n : Nat} {ps : List Gp} (hk : S[k]? = some (.lst (gi n ps))) (hb : BxAt S n ps) : melt0 (meltC S 0 6) (.cell k) = some (.lst (ps.map itF)) := by
  have e : melt0 (meltC S 0 6) (.cell k) = meltC S 0 6 k := rfl
  rw [e]
  unfold meltC
  rw [if_neg (Nat.not_lt_zero _), hk]
  dsimp only
  show ((meltL _ (gi n ps)).map CO.lst).map frzD = _
  rw [gi_melt hb]
  rfl
theorem given_ok {S : Sto} {k n : Nat} {ps : List Gp} (hk : S[k]? = some (.lst (gi n ps))) (hb : BxAt S n ps) (ok : ∀ g ∈ ps, GpOk g) (h1 : 1 ≤ ps.length) (h4 : ps.length ≤ 4) (nd : (ps.map (·.nm)).Nodup) :
    N_Shop_init [.cell k] S = .ok (.ins "Shop" [("rows", .tup (ps.map rowD))]) S := by
  have q := init_ok (S := []) ok h1 h4 nd
  refine frmI_snap (es := [.lst (ps.map itF)]) (d' := .ins "Shop" [("rows", .tup (ps.map rowD))]) rfl ?_ q (by simp) ?_ (by show (lfL (ps.map rowD) && true) = true; rw [lf_rows]; rfl)
  · show (match melt0 (meltC S 0 6) (.cell k), some ([] : List D) with | some a, some b => some (a :: b) | _, _ => none) = _
    rw [given_melt hk hb]
  · show (meltF _ [("rows", D.tup (ps.map rowD))]).map (CO.ins "Shop") = _
    rw [meltF_cl _ _ (by show (clL (ps.map rowD) && true) = true; rw [cl_rows]; rfl)]
    rfl
theorem given_deep {S : Sto} {k n : Nat} {ps : List Gp} (hk : S[k]? = some (.lst (gi n ps))) (hb : BxAt S n ps) : deep S (.cell k) = some (pdL ps) := by
  show deepC S 4 k = _
  unfold deepC
  rw [hk]
  show (deepL (deepC S 3) (gi n ps)).map PyData.list = _
  rw [gi_deep hb]
  rfl
theorem given_dq {S : Sto} {k n : Nat} {ps : List Gp} (hk : S[k]? = some (.lst (gi n ps))) (hb : BxAt S n ps) : deepq S (.cell k) = some (pdL ps) := by
  show dqC S 4 k = _
  unfold dqC
  rw [hk]
  show (dqL (dqC S 3) (gi n ps)).map PyData.list = _
  rw [gi_dq hb]
  rfl
/-! ### lists of texts -/
theorem nms_deep (S : Sto) (ps : List Gp) : deep S (.lst (nmD ps)) = some (.list ((ps.map (·.nm)).map .str)) := by
  show (deepL (deepC S 4) (nmD ps)).map PyData.list = _
  unfold nmD
  rw [map_nm, strs_d0]
  rfl
theorem list_shaped {l : List Str} (h : ∀ x ∈ l, PyData.canLay0 (.str x) = true) : SeqAt.shaped (.list (l.map .str)) = true ∧ PyData.canLay0 (.list (l.map .str)) = true := by
  have q : PyData.canLay0 (.list (l.map .str)) = true := lay_strs l h
  have d : PyData.depth (.list (l.map .str)) ≤ 64 := by
    have := depth_strs l
    simp only [PyData.depth]
    omega
  refine ⟨?_, q⟩
  simp only [SeqAt.shaped, q, Bool.true_and, decide_eq_true_eq]
  exact d
theorem strs_deep (S : Sto) (l : List Str) : deep S (.lst (l.map .str)) = some (.list (l.map .str)) := by
  show (deepL (deepC S 4) (l.map .str)).map PyData.list = _
  rw [strs_d0]
  rfl
theorem cell_deep {S : Sto} {k : Nat} {l : List Str} (hk : S[k]? = some (.lst (l.map .str))) : deep S (.cell k) = some (.list (l.map .str)) := by
  show deepC S 4 k = _
  unfold deepC
  rw [hk]
  show (deepL (deepC S 3) (l.map .str)).map PyData.list = _
  rw [strs_d0]
  rfl
end HT.C
set_option maxRecDepth 100000
set_option maxHeartbeats 1000000
namespace HT.C
open PySem PySem.Spec L2
open PyProof.Rows hiding St
/-! ### appending to cells -/
def Flat (S : Sto) (k : Nat) : Prop := ∃ ds, S[k]? = some (.lst ds) ∧ clL ds = true
/-- cells of lo up to hi may have changed; flat cells stay flat -/
structure Sp (lo hi : Nat) (S S' : Sto) : Prop where
  len : S'.length = S.length
  old : ∀ k, ¬ (lo ≤ k ∧ k < hi) → S'[k]? = S[k]?
  flat : ∀ k, Flat S k → Flat S' k
theorem Sp.refl (lo hi : Nat) (S : Sto) : Sp lo hi S S := ⟨rfl, fun _ _ => rfl, fun _ h => h⟩
theorem Sp.trans {lo hi : Nat} {S S1 S2 : Sto} (h1 : Sp lo hi S S1) (h2 : Sp lo hi S1 S2) : Sp lo hi S S2 := ⟨h2.len.trans h1.len, fun k hk => (h2.old k hk).trans (h1.old k hk), fun k h => h2.flat k (h1.flat k h)⟩
theorem Sp.wide {lo hi lo' hi' : Nat} {S S' : Sto} (h : Sp lo hi S S') (h1 : lo' ≤ lo) (h2 : hi ≤ hi') : Sp lo' hi' S S' := ⟨h.len, fun k hk => h.old k fun c => hk ⟨by omega, by omega⟩, h.flat⟩
theorem cell_lt {S : Sto} {k : Nat} {c : CO} (h : S[k]? = some c) : k < S.length := (List.getElem?_eq_some_iff.mp h).1
theorem set_sp {S : Sto} {k : Nat} {ds : List D} (hk : k < S.length) (hc : clL ds = true) : Sp k (k + 1) S (S.set k (.lst ds)) := by
  refine ⟨List.length_set, fun j hj => List.getElem?_set_ne (by omega), fun j h => ?_⟩
  by_cases e : k = j
  · subst e
    exact ⟨ds, by rw [List.getElem?_set_self hk], hc⟩
  · obtain ⟨d, h1, h2⟩ := h
    exact ⟨d, by rw [List.getElem?_set_ne e]; exact h1, h2⟩
theorem ev_appCC {Fo F : FE} {env : Env} {S S1 S2 : Sto} {k : Nat} {d : D} {ds : List D} (ho : Fo env S = .ok (.cell k) S1) (h0 : (lstAt S1 k).isSome = true) (h : F env S1 = .ok d S2) (hk : S2[k]? = some (.lst ds)) (hl : ds.length < 16000) : sAppC Fo F env S = .ok (.nx env) (S2.set k (.lst (ds ++ [d]))) := by
  unfold sAppC
  rw [ho]
  show (if (lstAt S1 k).isSome = true then sB env (F env S1) fun d S2 => appC env k d S2 else .stuck) = _
  rw [if_pos h0, h]
  show appC env k d S2 = _
  unfold appC
  rw [lstAt_cell hk]
  dsimp only
  rw [if_pos (Nat.lt_of_lt_of_le hl (sl5 (Nat.le_refl _)))]
theorem bx_set {S : Sto} {k : Nat} {c : CO} : ∀ {n : Nat} {ps : List Gp}, k < n → BxAt S n ps → BxAt (S.set k c) n ps
  | _, [], _, _ => trivial
  | n, p :: ps, h, q => ⟨by rw [List.getElem?_set_ne (by omega)]; exact q.1, bx_set (by omega) q.2⟩
abbrev spoilB : FS := sAppC (f2 gIx (fVar 7) (fun _ => pure (.int 3))) (fun _ => pure .non)
def cgp (g : Gp) (j : Nat) : D := .tup [.str g.nm, .str g.md, .str g.br, .cell j]
/-- None behind each group's boxes -/
theorem spoil {k : Nat} {big : List D} : ∀ (ps : List Gp) (n : Nat) (env : Env) (S : Sto), 7 < env.length → S[k]? = some (.lst big) → (k < n ∨ n + ps.length ≤ k) → BxAt S n ps → (∀ g ∈ ps, g.bx.length ≤ 5) →
    ∃ env' S', loopD (.one 7) (.cl k (.lst big)) spoilB (gi n ps) env S = .ok (.nx env') S' ∧ Sp n (n + ps.length) S S' ∧ (env' = env ∨ ∃ g j, env' = env.set 7 (.val (cgp g j)) ∧ n ≤ j ∧ j < n + ps.length)
  | [], n, env, S, _, hk, _, _, _ => ⟨env, S, loop_nil (chk_cl hk), .refl _ _ _, .inl rfl⟩
  | p :: ps, n, env, S, he, hk, hn, hb, hl => by
    have hkn : n ≠ k := by simp only [List.length_cons] at hn; omega
    have s1 : Sp n (n + 1) S (S.set n (.lst (p.bx.map .str ++ [.non]))) := set_sp (cell_lt hb.1) (clL_app (cl_strs _) rfl)
    have hk' : (S.set n (.lst (p.bx.map .str ++ [.non])))[k]? = some (.lst big) := by rw [List.getElem?_set_ne hkn]; exact hk
    obtain ⟨env', S', e, q, r⟩ := spoil ps (n + 1) (env.set 7 (.val (cgp p n))) (S.set n (.lst (p.bx.map .str ++ [.non]))) (by rw [List.length_set]; exact he) hk' (by simp only [List.length_cons] at hn; omega) (bx_set (by omega) hb.2) (fun g hg => hl g (List.mem_cons_of_mem _ hg))
    refine ⟨env', S', ?_, (s1.wide (by omega) (by simp only [List.length_cons]; omega)).trans (q.wide (by omega) (by simp only [List.length_cons]; omega)), ?_⟩
    · refine (loop_cons (chk_cl hk) (rfl : bindE (.one 7) (cgp p n) env = some (env.set 7 (.val (cgp p n)))) ?_).trans e
      have h3 : (f2 gIx (fVar 7) (fun _ => pure (.int 3))) (env.set 7 (.val (cgp p n))) S = .ok (.cell n) S := ev_f2 (ev_var (by rw [List.getElem?_set_self he])) ev_c rfl
      exact ev_appCC h3 (by rw [lstAt_cell hb.1]; rfl) ev_c hb.1 (by rw [List.length_map]; have := hl p List.mem_cons_self; omega)
    · rcases r with rfl | ⟨g, j, rfl, h1, h2⟩
      · exact .inr ⟨p, n, rfl, Nat.le_refl _, by simp only [List.length_cons]; omega⟩
      · exact .inr ⟨g, j, by rw [List.set_set], by omega, by simp only [List.length_cons]; omega⟩
/-! ### what stays when new cells melt -/
def LowS (n : Nat) (s : Sl) : Prop := ∀ S m, meltSl (meltC S n (m + 1)) s = some s
theorem low_un (n : Nat) : LowS n .un := fun _ _ => rfl
theorem low_cl {n : Nat} {d : D} (h : clD d = true) : LowS n (.val d) := fun S m => by
  show (melt0 _ d).map Sl.val = _
  rw [melt_cl _ d h]
  rfl
theorem meltC_low {S : Sto} {n m k : Nat} (h : k < n) : meltC S n (m + 1) k = some (.cell k) := if_pos h
theorem low_cell {n k : Nat} (h : k < n) : LowS n (.val (.cell k)) := fun S m => by
  show (meltC S n (m + 1) k).map Sl.val = _
  rw [meltC_low h]
  rfl
theorem low_cgp {n k : Nat} {g : Gp} (h : k < n) : LowS n (.val (cgp g k)) := fun S m => by
  show ((match some (D.str g.nm), (match some (D.str g.md), (match some (D.str g.br), (match meltC S n (m + 1) k, some ([] : List D) with | some a, some b => some (a :: b) | _, _ => none) with | some a, some b => some (a :: b) | _, _ => none) with | some a, some b => some (a :: b) | _, _ => none) with | some a, some b => some (a :: b) | _, _ => none).map D.tup).map Sl.val = _
  rw [meltC_low h]
  rfl
def LowE (n : Nat) (env : Env) : Prop := ∀ s ∈ env, LowS n s
theorem LowE.set {n : Nat} {env : Env} {i : Nat} {s : Sl} (h : LowE n env) (hs : LowS n s) : LowE n (env.set i s) := fun x hx => by
  rcases List.mem_or_eq_of_mem_set hx with h1 | rfl
  · exact h x h1
  · exact hs
theorem meltE_low {n m : Nat} {S : Sto} : ∀ {env : Env}, LowE n env → meltE (meltC S n (m + 1)) env = some env
  | [], _ => rfl
  | s :: r, h => by
    unfold meltE
    rw [h s List.mem_cons_self S m, meltE_low fun x hx => h x (List.mem_cons_of_mem _ hx)]
theorem meltE_set {n m : Nat} {S : Sto} {s s' : Sl} (hs : meltSl (meltC S n (m + 1)) s = some s') : ∀ {env : Env} {i : Nat}, LowE n env → meltE (meltC S n (m + 1)) (env.set i s) = some (env.set i s')
  | [], _, _ => rfl
  | a :: r, 0, h => by
    show meltE _ (s :: r) = some (s' :: r)
    unfold meltE
    rw [hs, meltE_low fun x hx => h x (List.mem_cons_of_mem _ hx)]
  | a :: r, i + 1, h => by
    show meltE _ (a :: r.set i s) = some (a :: r.set i s')
    unfold meltE
    rw [h a List.mem_cons_self S m, meltE_set hs fun x hx => h x (List.mem_cons_of_mem _ hx)]
theorem keep_same {f : Nat → Option D} : ∀ (S T : List CO), mkeep f S (S ++ T) = some S
  | [], _ => rfl
  | c :: r, T => by
    show (match (if eqCO c c = true then some c else meltCO f c), mkeep f r (r ++ T) with | some a, some b => some (a :: b) | _, _ => none) = _
    rw [if_pos (eqCO_rfl _), keep_same r T]
/-- a statement that only lays new cells -/
theorem sMelt_new {F : FS} {env e1 e2 : Env} {S T : Sto} (h : F env S = .ok (.nx e1) (S ++ T)) (hT : T ≠ []) (he : meltE (meltC (S ++ T) S.length 6) e1 = some e2) : sMelt F env S = .ok (.nx e2) S := by
  unfold sMelt
  rw [h]
  show (if (S ++ T).length = S.length then _ else _) = _
  rw [if_neg (by
    rw [List.length_append]
    have : T.length ≠ 0 := fun c => hT (List.eq_nil_of_length_eq_zero c)
    omega)]
  show (match (meltE (meltC (S ++ T) S.length 6) e1).map Fl.nx, mkeep (meltC (S ++ T) S.length 6) S (S ++ T) with | some d', some S'' => R.ok d' S'' | _, _ => .stuck) = _
  rw [he, keep_same]
  rfl
/-- a turn at whose start there is no cell -/
theorem sMelt_all {F : FS} {env e1 e2 : Env} {T : Sto} (h : F env [] = .ok (.nx e1) T) (hT : T ≠ []) (he : meltE (meltC T 0 6) e1 = some e2) : sMelt F env [] = .ok (.nx e2) [] := by
  have q := sMelt_new (S := []) (T := T) (F := F) (env := env) (e1 := e1) (e2 := e2) (by rw [h]; rfl) hT he
  exact q
end HT.C
set_option maxRecDepth 100000
set_option maxHeartbeats 1000000
namespace HT.C
open PySem PySem.Spec L2
open PyProof.Rows hiding St
/-! ### the end of a turn -/
theorem flat_melt {S : Sto} {k : Nat} (m : Nat) (h : Flat S k) : ∃ d, meltC S 0 (m + 1) k = some d ∧ clD d = true := by
  obtain ⟨ds, h1, h2⟩ := h
  refine ⟨.lst ds, ?_, h2⟩
  unfold meltC
  rw [if_neg (Nat.not_lt_zero _), h1]
  dsimp only
  show ((meltL _ ds).map CO.lst).map frzD = _
  rw [meltL_cl _ _ h2]
  rfl
theorem cgp_melt {S : Sto} {g : Gp} {j : Nat} (m : Nat) (h : Flat S j) : ∃ d, melt0 (meltC S 0 (m + 1)) (cgp g j) = some d ∧ clD d = true := by
  obtain ⟨d, e, c⟩ := flat_melt m h
  refine ⟨.tup [.str g.nm, .str g.md, .str g.br, d], ?_, by show (true && (true && (true && (clD d && true)))) = true; rw [c]; rfl⟩
  show (match some (D.str g.nm), (match some (D.str g.md), (match some (D.str g.br), (match meltC S 0 (m + 1) j, some ([] : List D) with | some a, some b => some (a :: b) | _, _ => none) with | some a, some b => some (a :: b) | _, _ => none) with | some a, some b => some (a :: b) | _, _ => none) with | some a, some b => some (a :: b) | _, _ => none).map D.tup = _
  rw [e]
  rfl
theorem gi_some {S : Sto} (m : Nat) {more : List D} (hm : clL more = true) : ∀ (ps : List Gp) (n : Nat), (∀ j, n ≤ j → j < n + ps.length → Flat S j) → ∃ ds, meltL (meltC S 0 (m + 1)) (gi n ps ++ more) = some ds ∧ clL ds = true
  | [], n, _ => ⟨more, meltL_cl _ _ hm, hm⟩
  | p :: ps, n, h => by
    obtain ⟨d, e, c⟩ := cgp_melt (g := p) m (h n (Nat.le_refl _) (by simp only [List.length_cons]; omega))
    obtain ⟨ds, e2, c2⟩ := gi_some m hm ps (n + 1) (fun j h1 h2 => h j (by omega) (by simp only [List.length_cons]; omega))
    refine ⟨d :: ds, ?_, by show (clD d && clL ds) = true; rw [c, c2]; rfl⟩
    show (match melt0 (meltC S 0 (m + 1)) (cgp p n), meltL (meltC S 0 (m + 1)) (gi (n + 1) ps ++ more) with | some a, some b => some (a :: b) | _, _ => none) = _
    rw [e, e2]
/-- a slot without cells -/
def ClS : Sl → Prop
  | .un => True
  | .val d => clD d = true
  | _ => False
def GoodSl (S : Sto) (s : Sl) : Prop := ∃ s', meltSl (meltC S 0 6) s = some s' ∧ ClS s'
theorem ClS.low {s : Sl} (h : ClS s) (n : Nat) : LowS n s := by
  cases s with
  | un => exact low_un n
  | val d => exact low_cl h
  | _ => cases h
theorem ClS.good {s : Sl} (h : ClS s) (S : Sto) : GoodSl S s := ⟨s, h.low 0 S 5, h⟩
theorem good_un (S : Sto) : GoodSl S .un := ClS.good (s := .un) trivial S
theorem good_cl {S : Sto} {d : D} (h : clD d = true) : GoodSl S (.val d) := ClS.good (s := .val d) h S
theorem good_flat {S : Sto} {k : Nat} (h : Flat S k) : GoodSl S (.val (.cell k)) := by
  obtain ⟨d, e, c⟩ := flat_melt 5 h
  exact ⟨.val d, by show (meltC S 0 6 k).map Sl.val = _; rw [e]; rfl, c⟩
theorem good_cgp {S : Sto} {g : Gp} {j : Nat} (h : Flat S j) : GoodSl S (.val (cgp g j)) := by
  obtain ⟨d, e, c⟩ := cgp_melt (g := g) 5 h
  exact ⟨.val d, by show (melt0 (meltC S 0 6) (cgp g j)).map Sl.val = _; rw [e]; rfl, c⟩
theorem good_gi {S : Sto} {k n : Nat} {ps : List Gp} {more : List D} (hk : S[k]? = some (.lst (gi n ps ++ more))) (hm : clL more = true) (h : ∀ j, n ≤ j → j < n + ps.length → Flat S j) : GoodSl S (.val (.cell k)) := by
  obtain ⟨ds, e, c⟩ := gi_some (S := S) 4 hm ps n h
  refine ⟨.val (.lst ds), ?_, c⟩
  show (meltC S 0 6 k).map Sl.val = _
  have : meltC S 0 6 k = some (.lst ds) := by
    unfold meltC
    rw [if_neg (Nat.not_lt_zero _), hk]
    dsimp only
    show ((meltL (meltC S 0 5) (gi n ps ++ more)).map CO.lst).map frzD = _
    rw [e]
    rfl
  rw [this]
  rfl
theorem good_env {S : Sto} : ∀ {env : Env}, (∀ s ∈ env, GoodSl S s) → ∃ env', meltE (meltC S 0 6) env = some env' ∧ env'.length = env.length ∧ ∀ s ∈ env', ClS s
  | [], _ => ⟨[], rfl, rfl, fun s h => by cases h⟩
  | s :: r, h => by
    obtain ⟨s', e, c⟩ := h s List.mem_cons_self
    obtain ⟨r', e2, l, c2⟩ := good_env (env := r) fun x hx => h x (List.mem_cons_of_mem _ hx)
    refine ⟨s' :: r', ?_, by rw [List.length_cons, List.length_cons, l], fun x hx => ?_⟩
    · unfold meltE
      rw [e, e2]
    · rcases List.mem_cons.mp hx with rfl | h
      · exact c
      · exact c2 x h
theorem flat_set {S : Sto} {k j : Nat} {c : CO} (h : Flat S j) (hj : k ≠ j) : Flat (S.set k c) j := by
  obtain ⟨ds, h1, h2⟩ := h
  exact ⟨ds, by rw [List.getElem?_set_ne hj]; exact h1, h2⟩
theorem uncons {α : Type} {l : List α} {n : Nat} (h : l.length = n + 1) : ∃ a r, l = a :: r ∧ r.length = n := by
  cases l with
  | nil => cases h
  | cons a r => exact ⟨a, r, rfl, Nat.succ.inj h⟩
/-- the boxes' cells are flat -/
theorem bx_flat {S : Sto} : ∀ {n : Nat} {ps : List Gp}, BxAt S n ps → ∀ j, n ≤ j → j < n + ps.length → Flat S j
  | n, [], _, j, h1, h2 => by simp only [List.length_nil] at h2; omega
  | n, p :: ps, h, j, h1, h2 => by
    by_cases e : n = j
    · subst e
      exact ⟨_, h.1, cl_strs _⟩
    · exact bx_flat h.2 j (by omega) (by simp only [List.length_cons] at h2; omega)
theorem bx_same {S S' : Sto} : ∀ {n : Nat} {ps : List Gp}, (∀ j, n ≤ j → j < n + ps.length → S'[j]? = S[j]?) → BxAt S n ps → BxAt S' n ps
  | _, [], _, _ => trivial
  | n, p :: ps, h, q => ⟨by rw [h n (Nat.le_refl _) (by simp only [List.length_cons]; omega)]; exact q.1, bx_same (fun j h1 h2 => h j (by omega) (by simp only [List.length_cons]; omega)) q.2⟩
theorem bx_more {S T : Sto} {n : Nat} {ps : List Gp} (h : BxAt S n ps) : BxAt (S ++ T) n ps := h.mono fun i c hc => by rw [List.getElem?_append_left (cell_lt hc)]; exact hc
theorem flat_more {S T : Sto} {k : Nat} (h : Flat S k) : Flat (S ++ T) k := by
  obtain ⟨ds, h1, h2⟩ := h
  exact ⟨ds, by rw [List.getElem?_append_left (cell_lt h1)]; exact h1, h2⟩
/-! ### repr and == of lists of groups -/
theorem shown_eq {p : PyData} {n : Nat} {S : Sto} {neg : Bool} (h : Fine p n) : gEq neg (.str p.shown) (.str p.shown) S = .ok (.bl (!neg)) S :=
  eq_same (p := .str p.shown) rfl rfl (by simp only [SeqAt.shaped, h.txl, Bool.true_and]; simp [PyData.depth]) h.txl
theorem PsOk.s {ps : List Gp} (h : PsOk ps) : ∀ g ∈ ps, GpS g := fun g hg => (h.grp g hg).s
theorem PsOk.fine {ps : List Gp} (h : PsOk ps) : Fine (pdL ps) 810 := finePs h.s (Nat.le_trans h.len (by omega))
theorem reprs_same {Fa Fb : FE} {env : Env} {S : Sto} {x y : D} {p : PyData} {n : Nat} {neg : Bool} (hf : Fine p n) (hn : n ≤ 100000) (hx : Fa env S = .ok x S) (hy : Fb env S = .ok y S) (h1 : deepq S x = some p) (h2 : deepq S y = some p) :
    f2 (gEq neg) (fArgs (a1 gReprQ) (aCons Fa aNil)) (fArgs (a1 gReprQ) (aCons Fb aNil)) env S = .ok (.bl (!neg)) S :=
  ev_f2 (ev_args (ev_cons hx ev_nil) (repr_ok h1 hf hn)) (ev_args (ev_cons hy ev_nil) (repr_ok h2 hf hn)) (shown_eq hf)
theorem names_same {S : Sto} {ps : List Gp} {neg : Bool} (h : PsOk ps) : gEq neg (.lst (nmD ps)) (.lst (nmD ps)) S = .ok (.bl (!neg)) S := by
  have q := list_shaped (nms_lay h.grp)
  exact eq_same (nms_deep S ps) (nms_deep S ps) q.1 q.2
theorem boxes_same {S : Sto} {g : Gp} {neg : Bool} {x : D} (h : GpS g) (hx : deep S x = some (.list (g.bx.map .str))) : gEq neg x (.lst (g.bx.map .str)) S = .ok (.bl (!neg)) S := by
  have q := list_shaped (l := g.bx) fun x hx => goodS_lay (h.bx x hx)
  exact eq_same hx (strs_deep S g.bx) q.1 q.2
theorem nodup_ne {L r : List Gp} {g : Gp} (h : ((L ++ g :: r).map (·.nm)).Nodup) : ∀ a ∈ L, a.nm ≠ g.nm := fun a ha e => by
  rw [List.map_append, List.map_cons] at h
  exact (List.nodup_append.mp h).2.2 _ (List.mem_map_of_mem ha) _ List.mem_cons_self e
end HT.C
set_option maxRecDepth 100000
set_option maxHeartbeats 1000000
namespace HT.C
open PySem PySem.Spec L2
open PyProof.Rows hiding St
/-! ### data that can be told -/
mutual
theorem dq_cl (f g : Nat → Option PyData) : ∀ d : D, clD d = true → dq0 f d = dq0 g d
  | .lst ds, h => by show (dqL f ds).map PyData.list = (dqL g ds).map _; rw [dqL_cl f g ds h]
  | .klst ds, h => by show (dqL f ds).map PyData.list = (dqL g ds).map _; rw [dqL_cl f g ds h]
  | .tup ds, h => by show (dqL f ds).map PyData.tuple = (dqL g ds).map _; rw [dqL_cl f g ds h]
  | .dK kvs, h => by show (dqK f kvs).map PyData.dict = (dqK g kvs).map _; rw [dqK_cl f g kvs h]
  | .obj _ _, _ => rfl
  | .exn _ _, _ => rfl
  | .dT _, _ => rfl
  | .cell _, h => by cases h
  | .non, _ => rfl
  | .bl _, _ => rfl
  | .int _, _ => rfl
  | .str _, _ => rfl
  | .glob _, _ => rfl
  | .ty _, _ => rfl
theorem dqL_cl (f g : Nat → Option PyData) : ∀ d : List D, clL d = true → dqL f d = dqL g d
  | [], _ => rfl
  | d :: ds, h => by
    show (match dq0 f d, dqL f ds with | some a, some b => some (a :: b) | _, _ => none) = (match dq0 g d, dqL g ds with | some a, some b => some (a :: b) | _, _ => none)
    rw [dq_cl f g d (bAnd h).1, dqL_cl f g ds (bAnd h).2]
theorem dqK_cl (f g : Nat → Option PyData) : ∀ d : List (Key × D), clK d = true → dqK f d = dqK g d
  | [], _ => rfl
  | (k, d) :: ds, h => by
    show (match dq0 f d, dqK f ds with | some a, some b => some ((keyPD k, a) :: b) | _, _ => none) = (match dq0 g d, dqK g ds with | some a, some b => some ((keyPD k, a) :: b) | _, _ => none)
    rw [dq_cl f g d (bAnd h).1, dqK_cl f g ds (bAnd h).2]
end
/-- it can be told -/
structure Shw (p : PyData) : Prop where
  sh : p.showable = true
  dp : p.depth ≤ 50
  sz : p.shown.length ≤ 100000
  tx : PyData.strOk p.shown = true
def shwB (p : PyData) : Bool := p.showable && (decide (p.depth ≤ 50) && (decide (p.shown.length ≤ 100000) && PyData.strOk p.shown))
theorem shwB_ok {p : PyData} (h : shwB p = true) : Shw p := ⟨(bAnd h).1, of_decide_eq_true (bAnd (bAnd h).2).1, of_decide_eq_true (bAnd (bAnd (bAnd h).2).2).1, (bAnd (bAnd (bAnd h).2).2).2⟩
theorem Fine.shw {p : PyData} {n : Nat} (h : Fine p n) (hn : n ≤ 9000) : Shw p := ⟨h.sh, by have := h.dp; omega, by
  have := PyData.shown_le_bulk 8 (Nat.le_refl _) p h.short
  have b := h.bulk
  omega, h.tx⟩
def toldB (x : D) : Bool := clD x && match deepq [] x with
  | some p => shwB p
  | none => false
theorem toldB_ok {x : D} (h : toldB x = true) : clD x = true ∧ ∃ p, Shw p ∧ ∀ S, deepq S x = some p := by
  obtain ⟨h1, h2⟩ := bAnd h
  refine ⟨h1, ?_⟩
  split at h2
  · rename_i p e
    exact ⟨p, shwB_ok h2, fun S => (dq_cl _ _ x h1).trans e⟩
  · cases h2
theorem shw_repr {x : D} {p : PyData} {S : Sto} (hx : deepq S x = some p) (h : Shw p) : a1 gReprQ [x] S = .ok (.str p.shown) S := by
  show gReprQ x S = _
  unfold gReprQ
  rw [hx]
  dsimp only
  rw [if_pos ⟨h.sh, h.dp, by rw [sizeLine_eq]; have := h.sz; omega⟩]
theorem Shw.txl {p : PyData} (h : Shw p) : PyData.canLay0 (.str p.shown) = true := by
  have := h.tx
  simp only [PyData.canLay0, this]
theorem shw_eq {p : PyData} {S : Sto} {neg : Bool} (h : Shw p) : gEq neg (.str p.shown) (.str p.shown) S = .ok (.bl (!neg)) S :=
  eq_same (p := .str p.shown) rfl rfl (by simp only [SeqAt.shaped, h.txl, Bool.true_and]; simp [PyData.depth]) h.txl
end HT.C
set_option maxRecDepth 100000
set_option maxHeartbeats 1000000
namespace HT.C
open PySem PySem.Spec L2
open PyProof.Rows hiding St
/-! ### drawn numbers of any bound -/
theorem dvg {g0 n : Int} (h0 : 0 < n) (hl : n.natAbs.log2 < 9000) (S : Sto) : gDiv (.int g0) (.int n) S = .ok (.int (g0 / n)) S := by
  unfold gDiv
  dsimp only
  rw [if_pos ⟨h0, hl⟩]
  rfl
theorem rg_items (j : Nat) (hj : j ≤ 2) : rngD 0 (1 + (j : Nat)) = (List.range' 0 (1 + j)).map fun i => D.int (i : Nat) := by
  have c : j = 0 ∨ j = 1 ∨ j = 2 := by omega
  rcases c with rfl | rfl | rfl <;> rfl
theorem it_g {n : Int} {j : Nat} (hj : j ≤ 2) (hb : ((Builtin.Int.intBits n : Nat) : Int) / 30 = (j : Nat)) (env : Env) (S : Sto) (he : env[1]? = some (.val (.int n))) :
    iRg1 (aCons (f2 gAdd (fun _ => pure (.int 1)) (f2 gDiv (f1 gBits (fVar 1)) (fun _ => pure (.int 30)))) aNil) env S = .ok ((List.range' 0 (1 + j)).map fun i => D.int (i : Nat), .fz) S := by
  have d : f2 gDiv (f1 gBits (fVar 1)) (fun _ => pure (.int 30)) env S = .ok (.int (j : Nat)) S := by
    refine ev_f2 (x := .int ((Builtin.Int.intBits n : Nat) : Int)) (ev_f1 (ev_var he) rfl) ev_c ?_
    rw [dvn ⟨by omega, by omega⟩, hb]
  have e : f2 gAdd (fun _ => pure (.int 1)) (f2 gDiv (f1 gBits (fVar 1)) (fun _ => pure (.int 30))) env S = .ok (.int (1 + (j : Nat))) S := ev_f2 ev_c d rfl
  have h : InRg (1 + (j : Nat)) := by unfold InRg; omega
  have kq : kRg1 [.int (1 + (j : Nat))] S = .ok (rngD 0 (1 + (j : Nat)), .fz) S := by
    unfold kRg1
    simp only [h, if_true]
    rfl
  unfold iRg1
  rw [ev_cons e ev_nil, bnd_ok, kq, rg_items j hj]
theorem r6g {k : Nat} {S : Sto} {g0 g1 g2 h dr : Int} {s1 s3 : Sl} (hd : dr.natAbs < 2 ^ 100) (hk : S[k]? = some (.lst [.int g0, .int g1, .int g2])) (hh : N__law_hash [.int g1, .int g2] S = .ok (.int h) S) : F__law_random_6 [.val (.cell k), s1, .val (.int dr), s3] S = .ok (.nx [.val (.cell k), s1, .val (.int (dr * 2147483587 + h)), s3]) S :=
  ev_set (ev_f2 (ev_f2 (ev_var rfl) ev_c (mul_ok hd (by decide) S)) (ev_call (ev_cons (ev_f2 (ev_var rfl) ev_c (ix_cell hk).2.1) (ev_cons (ev_f2 (ev_var rfl) ev_c (ix_cell hk).2.2) ev_nil)) hh) rfl)
theorem rnd_loop {k : Nat} {g0 g1 n : Int} (h1 : 0 ≤ g1 ∧ g1 < 2147483647) : ∀ (m i t : Nat) (S : Sto) (g2 dr : Int) (s3 : Sl), t + m ≤ 3 → S[k]? = some (.lst [.int g0, .int g1, .int g2]) → 0 ≤ g2 → g2 + m ≤ 900010 → 0 ≤ dr → dr < 2147483587 ^ t →
    ∃ dr' s3', loopD (.one 3) .fz B__law_random_7 ((List.range' i m).map fun i => D.int (i : Nat)) [.val (.cell k), .val (.int n), .val (.int dr), s3] S = .ok (.nx [.val (.cell k), .val (.int n), .val (.int dr'), s3']) (S.set k (.lst [.int g0, .int g1, .int (g2 + m)])) ∧ 0 ≤ dr'
  | 0, i, t, S, g2, dr, s3, ht, hk, a, b, c, d => by
    refine ⟨dr, s3, ?_, c⟩
    obtain ⟨hl, e⟩ := List.getElem?_eq_some_iff.mp hk
    have e0 : g2 + ((0 : Nat) : Int) = g2 := by omega
    rw [e0, ← e, List.set_getElem_self]
    exact loop_nil rfl
  | m + 1, i, t, S, g2, dr, s3, ht, hk, a, b, c, d => by
    obtain ⟨h, hh, b1, b2⟩ := hash_ok (a := g1) (b := g2 + 1) ⟨h1.1, by omega⟩ ⟨by omega, by omega⟩ (S.set k (.lst [.int g0, .int g1, .int (g2 + 1)]))
    have hl : k < S.length := (List.getElem?_eq_some_iff.mp hk).1
    have hk2 : (S.set k (.lst [.int g0, .int g1, .int (g2 + 1)]))[k]? = some (.lst [.int g0, .int g1, .int (g2 + 1)]) := List.getElem?_set_self hl
    have hd : dr.natAbs < 2 ^ 100 := by
      have e2 : (2 : Nat) ^ 100 = 1267650600228229401496703205376 := by decide
      have c3 : t = 0 ∨ t = 1 ∨ t = 2 := by omega
      rcases c3 with rfl | rfl | rfl
      · have : (2147483587 : Int) ^ 0 = 1 := by decide
        omega
      · have : (2147483587 : Int) ^ 1 = 2147483587 := by decide
        omega
      · have : (2147483587 : Int) ^ 2 = 4611685756434386569 := by decide
        omega
    have nx : dr * 2147483587 + h < 2147483587 ^ (t + 1) := by
      have : (2147483587 : Int) ^ (t + 1) = 2147483587 ^ t * 2147483587 := Int.pow_succ ..
      rw [this]
      have q : (dr + 1) * 2147483587 ≤ 2147483587 ^ t * 2147483587 := Int.mul_le_mul_of_nonneg_right (by omega) (by decide)
      omega
    obtain ⟨dr', s3', e, z⟩ := rnd_loop (k := k) (g0 := g0) (g1 := g1) (n := n) h1 m (i + 1) (t + 1) _ (g2 + 1) (dr * 2147483587 + h) (.val (.int (i : Nat))) (by omega) hk2 (by omega) (by omega) (by omega) nx
    refine ⟨dr', s3', ?_, z⟩
    have b7 : B__law_random_7 [.val (.cell k), .val (.int n), .val (.int dr), .val (.int (i : Nat))] S = .ok (.nx [.val (.cell k), .val (.int n), .val (.int (dr * 2147483587 + h)), .val (.int (i : Nat))]) (S.set k (.lst [.int g0, .int g1, .int (g2 + 1)])) := ev_seq (r5 hk) (r6g hd hk2 hh)
    rw [List.set_set, show g2 + 1 + ((m : Nat) : Int) = g2 + ((m + 1 : Nat) : Int) by omega] at e
    exact (loop_cons rfl rfl b7).trans e
theorem rnd_gen {k : Nat} {S : Sto} {B n : Int} {j : Nat} (hj : j ≤ 2) (h : isG S k B) (hB : B ≤ 900000) (hn0 : 0 < n) (hlg : n.natAbs.log2 < 9000) (hb : ((Builtin.Int.intBits n : Nat) : Int) / 30 = (j : Nat)) :
    ∃ r g, N__law_random [.cell k, .int n] S = .ok (.int r) (S.set k (.lst g)) ∧ (0 ≤ r ∧ r < n) ∧ isG (S.set k (.lst g)) k (B + (j : Nat) + 1) ∧ clL g = true := by
  have hl := h.lt
  obtain ⟨g0, g1, g2, hk, h0, h1a, h1b, h2a, h2b⟩ := h
  have h1 : 0 ≤ g1 ∧ g1 < 2147483647 := ⟨h1a, h1b⟩
  obtain ⟨i0, i1, i2⟩ := ix_cell hk
  by_cases hg : 0 < g0
  · have dv := dvg (g0 := g0) hn0 hlg S
    refine ⟨g0 % n, [.int (g0 / n), .int g1, .int g2], mlt_same ?_ (List.length_set ..), ⟨Int.emod_nonneg _ (by omega), Int.emod_lt_of_pos _ hn0⟩, ⟨g0 / n, g1, g2, List.getElem?_set_self hl, Int.ediv_nonneg h0 (by omega), h1a, h1b, h2a, by omega⟩, rfl⟩
    simp [M__law_random, F__law_random_0, F__law_random_1, F__law_random_2, F__law_random_3, mkM, sSeq, sIf, sRet, sSet, sPutC, sB, fB, f2, fVar, fArgs, a1, aCons, aNil, gOrd, toB, pure_ap, bnd_ok, getI, i0, hg, mod_ok hn0, dv, (put_c hk).1]
  · obtain ⟨dr, s3, e, z⟩ := rnd_loop (k := k) (g0 := g0) (g1 := g1) (n := n) h1 (1 + j) 0 0 S g2 0 .un (by omega) hk h2a (by omega) (by omega) (by decide)
    have q3 : F__law_random_3 [.val (.cell k), .val (.int n), .un, .un] S = .ok (.nx [.val (.cell k), .val (.int n), .un, .un]) S := by
      simp [F__law_random_3, sIf, sB, fB, f2, fVar, gOrd, toB, pure_ap, bnd_ok, i0, hg, sNil]
    have q4 : F__law_random_4 [.val (.cell k), .val (.int n), .un, .un] S = .ok (.nx [.val (.cell k), .val (.int n), .val (.int 0), .un]) S := rfl
    have q8 : F__law_random_8 [.val (.cell k), .val (.int n), .val (.int 0), .un] S = .ok (.nx [.val (.cell k), .val (.int n), .val (.int dr), s3]) (S.set k (.lst [.int g0, .int g1, .int (g2 + (1 + j : Nat))])) := ev_for (it_g hj hb _ S rfl) rfl e
    have q9 : F__law_random_9 [.val (.cell k), .val (.int n), .val (.int dr), s3] (S.set k (.lst [.int g0, .int g1, .int (g2 + (1 + j : Nat))])) = .ok (.rt (.int (dr % n))) (S.set k (.lst [.int g0, .int g1, .int (g2 + (1 + j : Nat))])) :=
      ev_ret (ev_f2 (ev_args (ev_cons (ev_var rfl) ev_nil) rfl) (ev_var rfl) (mod_ok hn0 _))
    refine ⟨dr % n, _, mlt_same (mk_rt rfl rfl (ev_seq q3 (ev_seq q4 (ev_seq q8 q9)))) (List.length_set ..), ⟨Int.emod_nonneg _ (by omega), Int.emod_lt_of_pos _ hn0⟩, ⟨g0, g1, _, List.getElem?_set_self hl, h0, h1a, h1b, by omega, by omega⟩, rfl⟩
end HT.C
set_option maxRecDepth 100000
set_option maxHeartbeats 1000000
namespace HT.Lk01
open PySem PySem.Spec L2 HT.C
open PyProof.Rows hiding St
abbrev P0 : Program := PySem.Challenge.pw_tickcounts_k01_errors
def top (i : Nat) : Stmt := P0.main.body.getD i (.Pass ⟨0, 0, 0, 0⟩)
def sub (st : Stmt) (j : Nat) : Stmt := match st with
  | .ClassDef _ _ _ b _ _ _ _ _ _ _ => b.getD j st
  | _ => st
abbrev s__law_bare : Stmt := top 26
abbrev s__law_cell : Stmt := top 18
abbrev s__law_generator : Stmt := top 20
abbrev s__law_kinds : Stmt := top 22
abbrev s__law_named : Stmt := top 25
abbrev s__law_placed : Stmt := top 24
abbrev s__law_hash : Stmt := top 19
abbrev s__law_random : Stmt := top 21
abbrev s__law_right : Stmt := top 23
abbrev s_law : Stmt := top 27

def is_InvalidItem : Ty → Option Bool := fun t => match t with
  | .b n => if n ∈ ty7 then some false else none
  | .exc C => if C ∈ (["InvalidItem", "InvalidList", "InvalidName", "InvalidNumber", "InvalidRule", "InvalidShop", "InvalidStore", "InvalidText", "InvalidThing", "InvalidTicks", "InvalidWord", "Missing", "NothingToUndo", "TakenName", "UnknownName"] : List Str) then some ((fun C : Str => decide (C ∈ (["InvalidItem"] : List Str))) C) else none
  | _ => none
def is_InvalidList : Ty → Option Bool := fun t => match t with
  | .b n => if n ∈ ty7 then some false else none
  | .exc C => if C ∈ (["InvalidItem", "InvalidList", "InvalidName", "InvalidNumber", "InvalidRule", "InvalidShop", "InvalidStore", "InvalidText", "InvalidThing", "InvalidTicks", "InvalidWord", "Missing", "NothingToUndo", "TakenName", "UnknownName"] : List Str) then some ((fun C : Str => decide (C ∈ (["InvalidList"] : List Str))) C) else none
  | _ => none
def is_InvalidName : Ty → Option Bool := fun t => match t with
  | .b n => if n ∈ ty7 then some false else none
  | .exc C => if C ∈ (["InvalidItem", "InvalidList", "InvalidName", "InvalidNumber", "InvalidRule", "InvalidShop", "InvalidStore", "InvalidText", "InvalidThing", "InvalidTicks", "InvalidWord", "Missing", "NothingToUndo", "TakenName", "UnknownName"] : List Str) then some ((fun C : Str => decide (C ∈ (["InvalidName"] : List Str))) C) else none
  | _ => none
def is_InvalidNumber : Ty → Option Bool := fun t => match t with
  | .b n => if n ∈ ty7 then some false else none
  | .exc C => if C ∈ (["InvalidItem", "InvalidList", "InvalidName", "InvalidNumber", "InvalidRule", "InvalidShop", "InvalidStore", "InvalidText", "InvalidThing", "InvalidTicks", "InvalidWord", "Missing", "NothingToUndo", "TakenName", "UnknownName"] : List Str) then some ((fun C : Str => decide (C ∈ (["InvalidNumber"] : List Str))) C) else none
  | _ => none
def is_InvalidRule : Ty → Option Bool := fun t => match t with
  | .b n => if n ∈ ty7 then some false else none
  | .exc C => if C ∈ (["InvalidItem", "InvalidList", "InvalidName", "InvalidNumber", "InvalidRule", "InvalidShop", "InvalidStore", "InvalidText", "InvalidThing", "InvalidTicks", "InvalidWord", "Missing", "NothingToUndo", "TakenName", "UnknownName"] : List Str) then some ((fun C : Str => decide (C ∈ (["InvalidRule"] : List Str))) C) else none
  | _ => none
def is_InvalidShop : Ty → Option Bool := fun t => match t with
  | .b n => if n ∈ ty7 then some false else none
  | .exc C => if C ∈ (["InvalidItem", "InvalidList", "InvalidName", "InvalidNumber", "InvalidRule", "InvalidShop", "InvalidStore", "InvalidText", "InvalidThing", "InvalidTicks", "InvalidWord", "Missing", "NothingToUndo", "TakenName", "UnknownName"] : List Str) then some ((fun C : Str => decide (C ∈ (["InvalidShop"] : List Str))) C) else none
  | _ => none
def is_InvalidStore : Ty → Option Bool := fun t => match t with
  | .b n => if n ∈ ty7 then some false else none
  | .exc C => if C ∈ (["InvalidItem", "InvalidList", "InvalidName", "InvalidNumber", "InvalidRule", "InvalidShop", "InvalidStore", "InvalidText", "InvalidThing", "InvalidTicks", "InvalidWord", "Missing", "NothingToUndo", "TakenName", "UnknownName"] : List Str) then some ((fun C : Str => decide (C ∈ (["InvalidStore"] : List Str))) C) else none
  | _ => none
def is_InvalidText : Ty → Option Bool := fun t => match t with
  | .b n => if n ∈ ty7 then some false else none
  | .exc C => if C ∈ (["InvalidItem", "InvalidList", "InvalidName", "InvalidNumber", "InvalidRule", "InvalidShop", "InvalidStore", "InvalidText", "InvalidThing", "InvalidTicks", "InvalidWord", "Missing", "NothingToUndo", "TakenName", "UnknownName"] : List Str) then some ((fun C : Str => decide (C ∈ (["InvalidText"] : List Str))) C) else none
  | _ => none
def is_InvalidThing : Ty → Option Bool := fun t => match t with
  | .b n => if n ∈ ty7 then some false else none
  | .exc C => if C ∈ (["InvalidItem", "InvalidList", "InvalidName", "InvalidNumber", "InvalidRule", "InvalidShop", "InvalidStore", "InvalidText", "InvalidThing", "InvalidTicks", "InvalidWord", "Missing", "NothingToUndo", "TakenName", "UnknownName"] : List Str) then some ((fun C : Str => decide (C ∈ (["InvalidThing"] : List Str))) C) else none
  | _ => none
def is_InvalidTicks : Ty → Option Bool := fun t => match t with
  | .b n => if n ∈ ty7 then some false else none
  | .exc C => if C ∈ (["InvalidItem", "InvalidList", "InvalidName", "InvalidNumber", "InvalidRule", "InvalidShop", "InvalidStore", "InvalidText", "InvalidThing", "InvalidTicks", "InvalidWord", "Missing", "NothingToUndo", "TakenName", "UnknownName"] : List Str) then some ((fun C : Str => decide (C ∈ (["InvalidTicks"] : List Str))) C) else none
  | _ => none
def is_InvalidWord : Ty → Option Bool := fun t => match t with
  | .b n => if n ∈ ty7 then some false else none
  | .exc C => if C ∈ (["InvalidItem", "InvalidList", "InvalidName", "InvalidNumber", "InvalidRule", "InvalidShop", "InvalidStore", "InvalidText", "InvalidThing", "InvalidTicks", "InvalidWord", "Missing", "NothingToUndo", "TakenName", "UnknownName"] : List Str) then some ((fun C : Str => decide (C ∈ (["InvalidWord"] : List Str))) C) else none
  | _ => none
def is_Missing : Ty → Option Bool := fun t => match t with
  | .b n => if n ∈ ty7 then some false else none
  | .exc C => if C ∈ (["InvalidItem", "InvalidList", "InvalidName", "InvalidNumber", "InvalidRule", "InvalidShop", "InvalidStore", "InvalidText", "InvalidThing", "InvalidTicks", "InvalidWord", "Missing", "NothingToUndo", "TakenName", "UnknownName"] : List Str) then some ((fun C : Str => decide (C ∈ (["Missing"] : List Str))) C) else none
  | _ => none
def is_NothingToUndo : Ty → Option Bool := fun t => match t with
  | .b n => if n ∈ ty7 then some false else none
  | .exc C => if C ∈ (["InvalidItem", "InvalidList", "InvalidName", "InvalidNumber", "InvalidRule", "InvalidShop", "InvalidStore", "InvalidText", "InvalidThing", "InvalidTicks", "InvalidWord", "Missing", "NothingToUndo", "TakenName", "UnknownName"] : List Str) then some ((fun C : Str => decide (C ∈ (["NothingToUndo"] : List Str))) C) else none
  | _ => none
def is_TakenName : Ty → Option Bool := fun t => match t with
  | .b n => if n ∈ ty7 then some false else none
  | .exc C => if C ∈ (["InvalidItem", "InvalidList", "InvalidName", "InvalidNumber", "InvalidRule", "InvalidShop", "InvalidStore", "InvalidText", "InvalidThing", "InvalidTicks", "InvalidWord", "Missing", "NothingToUndo", "TakenName", "UnknownName"] : List Str) then some ((fun C : Str => decide (C ∈ (["TakenName"] : List Str))) C) else none
  | _ => none
def is_TickError : Ty → Option Bool := fun t => match t with
  | .b n => if n ∈ ty7 then some false else none
  | .exc C => if C ∈ (["InvalidItem", "InvalidList", "InvalidName", "InvalidNumber", "InvalidRule", "InvalidShop", "InvalidStore", "InvalidText", "InvalidThing", "InvalidTicks", "InvalidWord", "Missing", "NothingToUndo", "TakenName", "UnknownName"] : List Str) then some ((fun C : Str => decide (C ∈ (["InvalidItem", "InvalidList", "InvalidName", "InvalidNumber", "InvalidRule", "InvalidShop", "InvalidStore", "InvalidText", "InvalidThing", "InvalidTicks", "InvalidWord", "Missing", "NothingToUndo", "TakenName", "UnknownName"] : List Str))) C) else none
  | _ => none
def is_UnknownName : Ty → Option Bool := fun t => match t with
  | .b n => if n ∈ ty7 then some false else none
  | .exc C => if C ∈ (["InvalidItem", "InvalidList", "InvalidName", "InvalidNumber", "InvalidRule", "InvalidShop", "InvalidStore", "InvalidText", "InvalidThing", "InvalidTicks", "InvalidWord", "Missing", "NothingToUndo", "TakenName", "UnknownName"] : List Str) then some ((fun C : Str => decide (C ∈ (["UnknownName"] : List Str))) C) else none
  | _ => none
def is_ValueError : Ty → Option Bool := fun t => match t with
  | .b n => if n ∈ ty7 then some false else none
  | .exc C => if C ∈ (["InvalidItem", "InvalidList", "InvalidName", "InvalidNumber", "InvalidRule", "InvalidShop", "InvalidStore", "InvalidText", "InvalidThing", "InvalidTicks", "InvalidWord", "Missing", "NothingToUndo", "TakenName", "UnknownName"] : List Str) then some ((fun C : Str => decide (C ∈ (["InvalidItem", "InvalidList", "InvalidName", "InvalidNumber", "InvalidRule", "InvalidShop", "InvalidStore", "InvalidText", "InvalidThing", "InvalidTicks", "InvalidWord", "Missing", "NothingToUndo", "TakenName", "UnknownName"] : List Str))) C) else none
  | _ => none
def xf_name : List Str := ["InvalidName", "TakenName", "UnknownName"]
def xf_value : List Str := ["InvalidItem", "InvalidList", "InvalidNumber", "InvalidRule", "InvalidShop", "InvalidStore", "InvalidText", "InvalidThing", "InvalidTicks", "InvalidWord", "Missing"]
structure Fx (K : PySem.W.Frag) (mg : Str → Option Value) where
  fd__law_bare : FuncData
  d__law_bare : FunD K "_law_bare" "_law_bare" (defArgs s__law_bare) (defBody s__law_bare) (defScope s__law_bare) [] [] (He.fAd K ("_law_bare", none)) fd__law_bare
  g__law_bare : mg "_law_bare" = some (.ref (He.fAd K ("_law_bare", none)))
  fd__law_cell : FuncData
  d__law_cell : FunD K "_law_cell" "_law_cell" (defArgs s__law_cell) (defBody s__law_cell) (defScope s__law_cell) [] [] (He.fAd K ("_law_cell", none)) fd__law_cell
  g__law_cell : mg "_law_cell" = some (.ref (He.fAd K ("_law_cell", none)))
  fd__law_generator : FuncData
  d__law_generator : FunD K "_law_generator" "_law_generator" (defArgs s__law_generator) (defBody s__law_generator) (defScope s__law_generator) [] [] (He.fAd K ("_law_generator", none)) fd__law_generator
  g__law_generator : mg "_law_generator" = some (.ref (He.fAd K ("_law_generator", none)))
  fd__law_kinds : FuncData
  d__law_kinds : FunD K "_law_kinds" "_law_kinds" (defArgs s__law_kinds) (defBody s__law_kinds) (defScope s__law_kinds) [] [] (He.fAd K ("_law_kinds", none)) fd__law_kinds
  g__law_kinds : mg "_law_kinds" = some (.ref (He.fAd K ("_law_kinds", none)))
  fd__law_named : FuncData
  d__law_named : FunD K "_law_named" "_law_named" (defArgs s__law_named) (defBody s__law_named) (defScope s__law_named) [] [] (He.fAd K ("_law_named", none)) fd__law_named
  g__law_named : mg "_law_named" = some (.ref (He.fAd K ("_law_named", none)))
  fd__law_placed : FuncData
  d__law_placed : FunD K "_law_placed" "_law_placed" (defArgs s__law_placed) (defBody s__law_placed) (defScope s__law_placed) [] [] (He.fAd K ("_law_placed", none)) fd__law_placed
  g__law_placed : mg "_law_placed" = some (.ref (He.fAd K ("_law_placed", none)))
  fd__law_hash : FuncData
  d__law_hash : FunD K "_law_hash" "_law_hash" (defArgs s__law_hash) (defBody s__law_hash) (defScope s__law_hash) [] [] (He.fAd K ("_law_hash", none)) fd__law_hash
  g__law_hash : mg "_law_hash" = some (.ref (He.fAd K ("_law_hash", none)))
  fd__law_random : FuncData
  d__law_random : FunD K "_law_random" "_law_random" (defArgs s__law_random) (defBody s__law_random) (defScope s__law_random) [] [] (He.fAd K ("_law_random", none)) fd__law_random
  g__law_random : mg "_law_random" = some (.ref (He.fAd K ("_law_random", none)))
  fd__law_right : FuncData
  d__law_right : FunD K "_law_right" "_law_right" (defArgs s__law_right) (defBody s__law_right) (defScope s__law_right) [] [] (He.fAd K ("_law_right", none)) fd__law_right
  g__law_right : mg "_law_right" = some (.ref (He.fAd K ("_law_right", none)))
  fd_law : FuncData
  d_law : FunD K "law" "law" (defArgs s_law) (defBody s_law) (defScope s_law) [] [] (He.fAd K ("law", none)) fd_law
  g_law : mg "law" = some (.ref (He.fAd K ("law", none)))
  n_ValueError : mg "ValueError" = none
  n_dict : mg "dict" = none
  n_int : mg "int" = none
  n_isinstance : mg "isinstance" = none
  n_len : mg "len" = none
  n_list : mg "list" = none
  n_max : mg "max" = none
  n_range : mg "range" = none
  n_repr : mg "repr" = none
  n_super : mg "super" = none
  g_InvalidItem : mg "InvalidItem" = some (.ref (He.ga K "InvalidItem"))
  g_InvalidList : mg "InvalidList" = some (.ref (He.ga K "InvalidList"))
  g_InvalidName : mg "InvalidName" = some (.ref (He.ga K "InvalidName"))
  g_InvalidNumber : mg "InvalidNumber" = some (.ref (He.ga K "InvalidNumber"))
  g_InvalidRule : mg "InvalidRule" = some (.ref (He.ga K "InvalidRule"))
  g_InvalidShop : mg "InvalidShop" = some (.ref (He.ga K "InvalidShop"))
  g_InvalidStore : mg "InvalidStore" = some (.ref (He.ga K "InvalidStore"))
  g_InvalidText : mg "InvalidText" = some (.ref (He.ga K "InvalidText"))
  g_InvalidThing : mg "InvalidThing" = some (.ref (He.ga K "InvalidThing"))
  g_InvalidTicks : mg "InvalidTicks" = some (.ref (He.ga K "InvalidTicks"))
  g_InvalidWord : mg "InvalidWord" = some (.ref (He.ga K "InvalidWord"))
  g_Missing : mg "Missing" = some (.ref (He.ga K "Missing"))
  g_NothingToUndo : mg "NothingToUndo" = some (.ref (He.ga K "NothingToUndo"))
  g_TakenName : mg "TakenName" = some (.ref (He.ga K "TakenName"))
  g_TickError : mg "TickError" = some (.ref (He.ga K "TickError"))
  g_UnknownName : mg "UnknownName" = some (.ref (He.ga K "UnknownName"))
  is_InvalidItem : IsTb (He.ga K) K (.ref (He.ga K "InvalidItem")) is_InvalidItem
  is_InvalidList : IsTb (He.ga K) K (.ref (He.ga K "InvalidList")) is_InvalidList
  is_InvalidName : IsTb (He.ga K) K (.ref (He.ga K "InvalidName")) is_InvalidName
  is_InvalidNumber : IsTb (He.ga K) K (.ref (He.ga K "InvalidNumber")) is_InvalidNumber
  is_InvalidRule : IsTb (He.ga K) K (.ref (He.ga K "InvalidRule")) is_InvalidRule
  is_InvalidShop : IsTb (He.ga K) K (.ref (He.ga K "InvalidShop")) is_InvalidShop
  is_InvalidStore : IsTb (He.ga K) K (.ref (He.ga K "InvalidStore")) is_InvalidStore
  is_InvalidText : IsTb (He.ga K) K (.ref (He.ga K "InvalidText")) is_InvalidText
  is_InvalidThing : IsTb (He.ga K) K (.ref (He.ga K "InvalidThing")) is_InvalidThing
  is_InvalidTicks : IsTb (He.ga K) K (.ref (He.ga K "InvalidTicks")) is_InvalidTicks
  is_InvalidWord : IsTb (He.ga K) K (.ref (He.ga K "InvalidWord")) is_InvalidWord
  is_Missing : IsTb (He.ga K) K (.ref (He.ga K "Missing")) is_Missing
  is_NothingToUndo : IsTb (He.ga K) K (.ref (He.ga K "NothingToUndo")) is_NothingToUndo
  is_TakenName : IsTb (He.ga K) K (.ref (He.ga K "TakenName")) is_TakenName
  is_TickError : IsTb (He.ga K) K (.ref (He.ga K "TickError")) is_TickError
  is_UnknownName : IsTb (He.ga K) K (.ref (He.ga K "UnknownName")) is_UnknownName
  is_ValueError : IsTb (He.ga K) K (.type "ValueError") is_ValueError
  is_dict : IsTb (He.ga K) K (.type "dict") is_dict
  is_list : IsTb (He.ga K) K (.type "list") is_list
  xf_name : ∀ C ∈ xf_name, XfC K (He.ga K C) ∧ PySem.W.findIn K (.ref (He.ga K C)) "name" = some none
  xf_value : ∀ C ∈ xf_value, XfC K (He.ga K C) ∧ PySem.W.findIn K (.ref (He.ga K C)) "value" = some none
  fx_InvalidItem : FuncData
  ex_InvalidItem : ExI P0 K (He.ga K "InvalidItem") "value" (He.fAd K ("InvalidItem", some "__init__")) fx_InvalidItem
  bx_InvalidItem : Binds K fx_InvalidItem ["self", "value"] []
  bd_InvalidItem : Binds K fx_InvalidItem ["self", "value"] [.none]
  kb_InvalidItem : KB1 K fx_InvalidItem "value"
  fx_InvalidList : FuncData
  ex_InvalidList : ExI P0 K (He.ga K "InvalidList") "value" (He.fAd K ("InvalidList", some "__init__")) fx_InvalidList
  bx_InvalidList : Binds K fx_InvalidList ["self", "value"] []
  bd_InvalidList : Binds K fx_InvalidList ["self", "value"] [.none]
  kb_InvalidList : KB1 K fx_InvalidList "value"
  fx_InvalidName : FuncData
  ex_InvalidName : ExI P0 K (He.ga K "InvalidName") "name" (He.fAd K ("InvalidName", some "__init__")) fx_InvalidName
  bx_InvalidName : Binds K fx_InvalidName ["self", "name"] []
  bd_InvalidName : Binds K fx_InvalidName ["self", "name"] [.none]
  kb_InvalidName : KB1 K fx_InvalidName "name"
  fx_InvalidNumber : FuncData
  ex_InvalidNumber : ExI P0 K (He.ga K "InvalidNumber") "value" (He.fAd K ("InvalidNumber", some "__init__")) fx_InvalidNumber
  bx_InvalidNumber : Binds K fx_InvalidNumber ["self", "value"] []
  bd_InvalidNumber : Binds K fx_InvalidNumber ["self", "value"] [.none]
  kb_InvalidNumber : KB1 K fx_InvalidNumber "value"
  fx_InvalidRule : FuncData
  ex_InvalidRule : ExI P0 K (He.ga K "InvalidRule") "value" (He.fAd K ("InvalidRule", some "__init__")) fx_InvalidRule
  bx_InvalidRule : Binds K fx_InvalidRule ["self", "value"] []
  bd_InvalidRule : Binds K fx_InvalidRule ["self", "value"] [.none]
  kb_InvalidRule : KB1 K fx_InvalidRule "value"
  fx_InvalidShop : FuncData
  ex_InvalidShop : ExI P0 K (He.ga K "InvalidShop") "value" (He.fAd K ("InvalidShop", some "__init__")) fx_InvalidShop
  bx_InvalidShop : Binds K fx_InvalidShop ["self", "value"] []
  bd_InvalidShop : Binds K fx_InvalidShop ["self", "value"] [.none]
  kb_InvalidShop : KB1 K fx_InvalidShop "value"
  fx_InvalidStore : FuncData
  ex_InvalidStore : ExI P0 K (He.ga K "InvalidStore") "value" (He.fAd K ("InvalidStore", some "__init__")) fx_InvalidStore
  bx_InvalidStore : Binds K fx_InvalidStore ["self", "value"] []
  bd_InvalidStore : Binds K fx_InvalidStore ["self", "value"] [.none]
  kb_InvalidStore : KB1 K fx_InvalidStore "value"
  fx_InvalidText : FuncData
  ex_InvalidText : ExI P0 K (He.ga K "InvalidText") "value" (He.fAd K ("InvalidText", some "__init__")) fx_InvalidText
  bx_InvalidText : Binds K fx_InvalidText ["self", "value"] []
  bd_InvalidText : Binds K fx_InvalidText ["self", "value"] [.none]
  kb_InvalidText : KB1 K fx_InvalidText "value"
  fx_InvalidThing : FuncData
  ex_InvalidThing : ExI P0 K (He.ga K "InvalidThing") "value" (He.fAd K ("InvalidThing", some "__init__")) fx_InvalidThing
  bx_InvalidThing : Binds K fx_InvalidThing ["self", "value"] []
  bd_InvalidThing : Binds K fx_InvalidThing ["self", "value"] [.none]
  kb_InvalidThing : KB1 K fx_InvalidThing "value"
  fx_InvalidTicks : FuncData
  ex_InvalidTicks : ExI P0 K (He.ga K "InvalidTicks") "value" (He.fAd K ("InvalidTicks", some "__init__")) fx_InvalidTicks
  bx_InvalidTicks : Binds K fx_InvalidTicks ["self", "value"] []
  bd_InvalidTicks : Binds K fx_InvalidTicks ["self", "value"] [.none]
  kb_InvalidTicks : KB1 K fx_InvalidTicks "value"
  fx_InvalidWord : FuncData
  ex_InvalidWord : ExI P0 K (He.ga K "InvalidWord") "value" (He.fAd K ("InvalidWord", some "__init__")) fx_InvalidWord
  bx_InvalidWord : Binds K fx_InvalidWord ["self", "value"] []
  bd_InvalidWord : Binds K fx_InvalidWord ["self", "value"] [.none]
  kb_InvalidWord : KB1 K fx_InvalidWord "value"
  fx_Missing : FuncData
  ex_Missing : ExI P0 K (He.ga K "Missing") "value" (He.fAd K ("Missing", some "__init__")) fx_Missing
  bx_Missing : Binds K fx_Missing ["self", "value"] []
  bd_Missing : Binds K fx_Missing ["self", "value"] [.none]
  kb_Missing : KB1 K fx_Missing "value"
  fx_TakenName : FuncData
  ex_TakenName : ExI P0 K (He.ga K "TakenName") "name" (He.fAd K ("TakenName", some "__init__")) fx_TakenName
  bx_TakenName : Binds K fx_TakenName ["self", "name"] []
  bd_TakenName : Binds K fx_TakenName ["self", "name"] [.none]
  kb_TakenName : KB1 K fx_TakenName "name"
  fx_UnknownName : FuncData
  ex_UnknownName : ExI P0 K (He.ga K "UnknownName") "name" (He.fAd K ("UnknownName", some "__init__")) fx_UnknownName
  bx_UnknownName : Binds K fx_UnknownName ["self", "name"] []
  bd_UnknownName : Binds K fx_UnknownName ["self", "name"] [.none]
  kb_UnknownName : KB1 K fx_UnknownName "name"
  en_NothingToUndo : ExN K (He.ga K "NothingToUndo")
section
variable {w : World} {K : PySem.W.Frag} {mg : Str → Option Value} {base : Heap}
theorem bx_InvalidItem (x : Fx K mg) : Binds K x.fx_InvalidItem ["self", "value"] [] := x.bx_InvalidItem
theorem bx_InvalidList (x : Fx K mg) : Binds K x.fx_InvalidList ["self", "value"] [] := x.bx_InvalidList
theorem bx_InvalidName (x : Fx K mg) : Binds K x.fx_InvalidName ["self", "name"] [] := x.bx_InvalidName
theorem bx_InvalidNumber (x : Fx K mg) : Binds K x.fx_InvalidNumber ["self", "value"] [] := x.bx_InvalidNumber
theorem bx_InvalidRule (x : Fx K mg) : Binds K x.fx_InvalidRule ["self", "value"] [] := x.bx_InvalidRule
theorem bx_InvalidShop (x : Fx K mg) : Binds K x.fx_InvalidShop ["self", "value"] [] := x.bx_InvalidShop
theorem bx_InvalidStore (x : Fx K mg) : Binds K x.fx_InvalidStore ["self", "value"] [] := x.bx_InvalidStore
theorem bx_InvalidText (x : Fx K mg) : Binds K x.fx_InvalidText ["self", "value"] [] := x.bx_InvalidText
theorem bx_InvalidThing (x : Fx K mg) : Binds K x.fx_InvalidThing ["self", "value"] [] := x.bx_InvalidThing
theorem bx_InvalidTicks (x : Fx K mg) : Binds K x.fx_InvalidTicks ["self", "value"] [] := x.bx_InvalidTicks
theorem bx_InvalidWord (x : Fx K mg) : Binds K x.fx_InvalidWord ["self", "value"] [] := x.bx_InvalidWord
theorem bx_Missing (x : Fx K mg) : Binds K x.fx_Missing ["self", "value"] [] := x.bx_Missing
theorem bx_TakenName (x : Fx K mg) : Binds K x.fx_TakenName ["self", "name"] [] := x.bx_TakenName
theorem bx_UnknownName (x : Fx K mg) : Binds K x.fx_UnknownName ["self", "name"] [] := x.bx_UnknownName
/-! ### _law_bare -/
def M__law_bare : List D → Cm D := mkM 0 1 ((sSeq (sSet 0 (fFrz (oLst (aCons (fExn (fMk "InvalidNumber" "value" [.non] aNil)) (aCons (fExn (fMk "InvalidList" "value" [.non] aNil)) (aCons (fExn (fMk "InvalidItem" "value" [.non] aNil)) (aCons (fExn (fMk "InvalidShop" "value" [.non] aNil)) (aCons (fExn (fMk "InvalidThing" "value" [.non] aNil)) (aCons (fExn (fMk "InvalidTicks" "value" [.non] aNil)) aNil)))))))))
  (sSeq (sSet 0 (f2 gAdd (fVar 0) (fFrz (oLst (aCons (fExn (fMk "InvalidStore" "value" [.non] aNil)) (aCons (fExn (fMk "InvalidWord" "value" [.non] aNil)) (aCons (fExn (fMk "InvalidRule" "value" [.non] aNil)) (aCons (fExn (fMk "InvalidText" "value" [.non] aNil)) (aCons (fExn (fMk "Missing" "value" [.non] aNil)) aNil)))))))))
  (sRet (f2 gAdd (fVar 0) (fFrz (oLst (aCons (fExn (fMk "InvalidName" "name" [.non] aNil)) (aCons (fExn (fMk "TakenName" "name" [.non] aNil)) (aCons (fExn (fMk "UnknownName" "name" [.non] aNil)) aNil))))))))))
def N__law_bare : List D → Cm D := frm M__law_bare
theorem sc__law_bare : FnScope ["found"] [] (defScope s__law_bare) := ⟨rfl, rfl, rfl, by decide +kernel, rfl, by decide +kernel, by decide +kernel⟩
theorem b__law_bare (x : Fx K mg) : Binds K x.fd__law_bare [] [] := x.d__law_bare.bindsN fun _ _ _ _ _ _ us hl => match us, hl with | [], _ => rfl
set_option maxHeartbeats 4000000 in
theorem ft__law_bare (x : Fx K mg) : FT P0 w K mg base (He.ga K) (3 + 1) (He.fAd K ("_law_bare", none)) x.fd__law_bare [] M__law_bare := ft_of x.d__law_bare sc__law_bare rfl rfl fun cdv A outer s H E lv =>
  have nd := sc__law_bare.nd
  have tk := ctx_takes (P := P0) (w := w) (K := K) (mg := mg) (base := base) (N := ["found"]) (qual := "_law_bare") (scope := defScope s__law_bare) (f := He.fAd K ("_law_bare", none)) (cdv := cdv) (A := A) (outer := outer) (s := s) (H := H) (E := E)
  have po := ctx_po (P := P0) (w := w) (K := K) (mg := mg) (base := base) (N := ["found"]) (qual := "_law_bare") (scope := defScope s__law_bare) (f := He.fAd K ("_law_bare", none)) (cdv := cdv) (A := A) (outer := outer) (s := s) (H := H) (E := E)
  (sfs_cons (sf_set (i := 0) nd rfl (by first | exact Or.inl rfl | exact Or.inr rfl) (pf_frz (of_lst (af_cons (pf_exn (mf_mk0 (C := "InvalidNumber") (f := "value") (dvs := [V.non]) (dds := [D.non]) x.ex_InvalidNumber rfl rfl x.n_super (lv.mono (by decide : 1 ≤ _)) x.bd_InvalidNumber (.cons rfl .nil) (fun _ _ => ⟨_, _, rfl, rfl, rfl⟩) rfl x.g_InvalidNumber)) (af_cons (pf_exn (mf_mk0 (C := "InvalidList") (f := "value") (dvs := [V.non]) (dds := [D.non]) x.ex_InvalidList rfl rfl x.n_super (lv.mono (by decide : 1 ≤ _)) x.bd_InvalidList (.cons rfl .nil) (fun _ _ => ⟨_, _, rfl, rfl, rfl⟩) rfl x.g_InvalidList)) (af_cons (pf_exn (mf_mk0 (C := "InvalidItem") (f := "value") (dvs := [V.non]) (dds := [D.non]) x.ex_InvalidItem rfl rfl x.n_super (lv.mono (by decide : 1 ≤ _)) x.bd_InvalidItem (.cons rfl .nil) (fun _ _ => ⟨_, _, rfl, rfl, rfl⟩) rfl x.g_InvalidItem)) (af_cons (pf_exn (mf_mk0 (C := "InvalidShop") (f := "value") (dvs := [V.non]) (dds := [D.non]) x.ex_InvalidShop rfl rfl x.n_super (lv.mono (by decide : 1 ≤ _)) x.bd_InvalidShop (.cons rfl .nil) (fun _ _ => ⟨_, _, rfl, rfl, rfl⟩) rfl x.g_InvalidShop)) (af_cons (pf_exn (mf_mk0 (C := "InvalidThing") (f := "value") (dvs := [V.non]) (dds := [D.non]) x.ex_InvalidThing rfl rfl x.n_super (lv.mono (by decide : 1 ≤ _)) x.bd_InvalidThing (.cons rfl .nil) (fun _ _ => ⟨_, _, rfl, rfl, rfl⟩) rfl x.g_InvalidThing)) (af_cons (pf_exn (mf_mk0 (C := "InvalidTicks") (f := "value") (dvs := [V.non]) (dds := [D.non]) x.ex_InvalidTicks rfl rfl x.n_super (lv.mono (by decide : 1 ≤ _)) x.bd_InvalidTicks (.cons rfl .nil) (fun _ _ => ⟨_, _, rfl, rfl, rfl⟩) rfl x.g_InvalidTicks)) af_nil)))))))))
  (sfs_cons (sf_set (i := 0) nd rfl (by first | exact Or.inl rfl | exact Or.inr rfl) (pf_bin op_add4 ok_gAdd (pf_var (pv 0)) (pf_frz (of_lst (af_cons (pf_exn (mf_mk0 (C := "InvalidStore") (f := "value") (dvs := [V.non]) (dds := [D.non]) x.ex_InvalidStore rfl rfl x.n_super (lv.mono (by decide : 1 ≤ _)) x.bd_InvalidStore (.cons rfl .nil) (fun _ _ => ⟨_, _, rfl, rfl, rfl⟩) rfl x.g_InvalidStore)) (af_cons (pf_exn (mf_mk0 (C := "InvalidWord") (f := "value") (dvs := [V.non]) (dds := [D.non]) x.ex_InvalidWord rfl rfl x.n_super (lv.mono (by decide : 1 ≤ _)) x.bd_InvalidWord (.cons rfl .nil) (fun _ _ => ⟨_, _, rfl, rfl, rfl⟩) rfl x.g_InvalidWord)) (af_cons (pf_exn (mf_mk0 (C := "InvalidRule") (f := "value") (dvs := [V.non]) (dds := [D.non]) x.ex_InvalidRule rfl rfl x.n_super (lv.mono (by decide : 1 ≤ _)) x.bd_InvalidRule (.cons rfl .nil) (fun _ _ => ⟨_, _, rfl, rfl, rfl⟩) rfl x.g_InvalidRule)) (af_cons (pf_exn (mf_mk0 (C := "InvalidText") (f := "value") (dvs := [V.non]) (dds := [D.non]) x.ex_InvalidText rfl rfl x.n_super (lv.mono (by decide : 1 ≤ _)) x.bd_InvalidText (.cons rfl .nil) (fun _ _ => ⟨_, _, rfl, rfl, rfl⟩) rfl x.g_InvalidText)) (af_cons (pf_exn (mf_mk0 (C := "Missing") (f := "value") (dvs := [V.non]) (dds := [D.non]) x.ex_Missing rfl rfl x.n_super (lv.mono (by decide : 1 ≤ _)) x.bd_Missing (.cons rfl .nil) (fun _ _ => ⟨_, _, rfl, rfl, rfl⟩) rfl x.g_Missing)) af_nil)))))))))
  (sfs_one (sf_ret (pf_bin op_add4 ok_gAdd (pf_var (pv 0)) (pf_frz (of_lst (af_cons (pf_exn (mf_mk0 (C := "InvalidName") (f := "name") (dvs := [V.non]) (dds := [D.non]) x.ex_InvalidName rfl rfl x.n_super (lv.mono (by decide : 1 ≤ _)) x.bd_InvalidName (.cons rfl .nil) (fun _ _ => ⟨_, _, rfl, rfl, rfl⟩) rfl x.g_InvalidName)) (af_cons (pf_exn (mf_mk0 (C := "TakenName") (f := "name") (dvs := [V.non]) (dds := [D.non]) x.ex_TakenName rfl rfl x.n_super (lv.mono (by decide : 1 ≤ _)) x.bd_TakenName (.cons rfl .nil) (fun _ _ => ⟨_, _, rfl, rfl, rfl⟩) rfl x.g_TakenName)) (af_cons (pf_exn (mf_mk0 (C := "UnknownName") (f := "name") (dvs := [V.non]) (dds := [D.non]) x.ex_UnknownName rfl rfl x.n_super (lv.mono (by decide : 1 ≤ _)) x.bd_UnknownName (.cons rfl .nil) (fun _ _ => ⟨_, _, rfl, rfl, rfl⟩) rfl x.g_UnknownName)) af_nil))))))))))
theorem fn__law_bare (x : Fx K mg) : FT P0 w K mg base (He.ga K) (3 + 1) (He.fAd K ("_law_bare", none)) x.fd__law_bare [] N__law_bare := ft_frm (ft__law_bare x)
/-! ### _law_cell -/
theorem sc__law_cell : FnScope ["script", "index"] ["script", "index"] (defScope s__law_cell) := ⟨rfl, rfl, rfl, by decide +kernel, rfl, by decide +kernel, by decide +kernel⟩
theorem b__law_cell (x : Fx K mg) : Binds K x.fd__law_cell ["script", "index"] [] := x.d__law_cell.bindsN fun _ _ _ _ _ _ us hl => match us, hl with | [_, _], _ => rfl
set_option maxHeartbeats 4000000 in
theorem ft__law_cell (x : Fx K mg) : FT P0 w K mg base (He.ga K) (3 + 1) (He.fAd K ("_law_cell", none)) x.fd__law_cell ["script", "index"] M__law_cell := ft_of x.d__law_cell sc__law_cell rfl rfl fun cdv A outer s H E lv =>
  have nd := sc__law_cell.nd
  have tk := ctx_takes (P := P0) (w := w) (K := K) (mg := mg) (base := base) (N := ["script", "index"]) (qual := "_law_cell") (scope := defScope s__law_cell) (f := He.fAd K ("_law_cell", none)) (cdv := cdv) (A := A) (outer := outer) (s := s) (H := H) (E := E)
  have po := ctx_po (P := P0) (w := w) (K := K) (mg := mg) (base := base) (N := ["script", "index"]) (qual := "_law_cell") (scope := defScope s__law_cell) (f := He.fAd K ("_law_cell", none)) (cdv := cdv) (A := A) (outer := outer) (s := s) (H := H) (E := E)
  (sfs_cons (sf_if (tf_cmp op_lt (ok_gOrd _) (pf_var (pv 1)) (pf_callB call_len ok_gLen rfl x.n_len PyProof.Rows.Boot.«len» (af_cons (pf_var (pv 0)) af_nil)) (nomark _)) (sfs_one (sf_ret (pf_ix (pf_var (pv 0)) (pf_var (pv 1)) fun _ _ => rfl))) sfs_nil)
  (sfs_one (sf_ret pf_int)))
theorem fn__law_cell (x : Fx K mg) : FT P0 w K mg base (He.ga K) (3 + 1) (He.fAd K ("_law_cell", none)) x.fd__law_cell ["script", "index"] N__law_cell := ft_frm (ft__law_cell x)
/-! ### _law_generator -/
theorem sc__law_generator : FnScope ["script", "index", "seed"] ["script", "index"] (defScope s__law_generator) := ⟨rfl, rfl, rfl, by decide +kernel, rfl, by decide +kernel, by decide +kernel⟩
theorem b__law_generator (x : Fx K mg) : Binds K x.fd__law_generator ["script", "index"] [] := x.d__law_generator.bindsN fun _ _ _ _ _ _ us hl => match us, hl with | [_, _], _ => rfl
set_option maxHeartbeats 4000000 in
theorem ft__law_generator (x : Fx K mg) : FT P0 w K mg base (He.ga K) (4 + 1) (He.fAd K ("_law_generator", none)) x.fd__law_generator ["script", "index"] M__law_generator := ft_of x.d__law_generator sc__law_generator rfl rfl fun cdv A outer s H E lv =>
  have nd := sc__law_generator.nd
  have tk := ctx_takes (P := P0) (w := w) (K := K) (mg := mg) (base := base) (N := ["script", "index", "seed"]) (qual := "_law_generator") (scope := defScope s__law_generator) (f := He.fAd K ("_law_generator", none)) (cdv := cdv) (A := A) (outer := outer) (s := s) (H := H) (E := E)
  have po := ctx_po (P := P0) (w := w) (K := K) (mg := mg) (base := base) (N := ["script", "index", "seed"]) (qual := "_law_generator") (scope := defScope s__law_generator) (f := He.fAd K ("_law_generator", none)) (cdv := cdv) (A := A) (outer := outer) (s := s) (H := H) (E := E)
  (sfs_cons (sf_set (i := 2) nd rfl (by first | exact Or.inl rfl | exact Or.inr rfl) (pf_call (fn__law_cell x) (lv.mono (by decide)) rfl x.g__law_cell x.d__law_cell.kp (b__law_cell x) .nil CsD.nil tk (af_cons (pf_var (pv 0)) (af_cons (pf_var (pv 1)) af_nil))))
  (sfs_one (sf_ret (pf_cell (of_lst (af_cons (pf_bin op_mod ok_gMod (pf_callTy call_int1 ok_gInt rfl x.n_int PyProof.Rows.Boot.«int» (af_cons (pf_callB (call_max2 rfl) ok_gMax rfl x.n_max PyProof.Rows.Boot.«max» (af_cons (pf_bin op_sub ok_gSub (pf_var (pv 2)) (pf_bin op_powW ok_gPow pf_int pf_int)) (af_cons pf_int af_nil))) af_nil)) (pf_bin op_powW ok_gPow (pf_bin op_powW ok_gPow pf_int pf_int) pf_int)) (af_cons (pf_bin op_mod ok_gMod (pf_callTy call_int1 ok_gInt rfl x.n_int PyProof.Rows.Boot.«int» (af_cons (pf_var (pv 2)) af_nil)) pf_int) (af_cons (pf_bin op_mul4 ok_gMul2 pf_int (pf_var (pv 1))) af_nil))))))))
theorem fn__law_generator (x : Fx K mg) : FT P0 w K mg base (He.ga K) (4 + 1) (He.fAd K ("_law_generator", none)) x.fd__law_generator ["script", "index"] N__law_generator := ft_frm (ft__law_generator x)
/-! ### _law_kinds -/
def F__law_kinds_0 : FS := (sSet 1 (fFrz (oLst (aCons (fArgs (a2 (gIsi is_InvalidNumber (.own "InvalidNumber"))) (aCons (fVar 0) (aCons (fun _ => pure (.glob "InvalidNumber")) aNil))) (aCons (fArgs (a2 (gIsi is_InvalidList (.own "InvalidList"))) (aCons (fVar 0) (aCons (fun _ => pure (.glob "InvalidList")) aNil))) (aCons (fArgs (a2 (gIsi is_InvalidItem (.own "InvalidItem"))) (aCons (fVar 0) (aCons (fun _ => pure (.glob "InvalidItem")) aNil))) aNil))))))
def F__law_kinds_1 : FS := (sSet 1 (f2 gAdd (fVar 1) (fFrz (oLst (aCons (fArgs (a2 (gIsi is_InvalidShop (.own "InvalidShop"))) (aCons (fVar 0) (aCons (fun _ => pure (.glob "InvalidShop")) aNil))) (aCons (fArgs (a2 (gIsi is_InvalidThing (.own "InvalidThing"))) (aCons (fVar 0) (aCons (fun _ => pure (.glob "InvalidThing")) aNil))) aNil))))))
def F__law_kinds_2 : FS := (sSet 1 (f2 gAdd (fVar 1) (fFrz (oLst (aCons (fArgs (a2 (gIsi is_InvalidTicks (.own "InvalidTicks"))) (aCons (fVar 0) (aCons (fun _ => pure (.glob "InvalidTicks")) aNil))) (aCons (fArgs (a2 (gIsi is_InvalidStore (.own "InvalidStore"))) (aCons (fVar 0) (aCons (fun _ => pure (.glob "InvalidStore")) aNil))) aNil))))))
def F__law_kinds_3 : FS := (sSet 1 (f2 gAdd (fVar 1) (fFrz (oLst (aCons (fArgs (a2 (gIsi is_InvalidWord (.own "InvalidWord"))) (aCons (fVar 0) (aCons (fun _ => pure (.glob "InvalidWord")) aNil))) (aCons (fArgs (a2 (gIsi is_InvalidRule (.own "InvalidRule"))) (aCons (fVar 0) (aCons (fun _ => pure (.glob "InvalidRule")) aNil))) aNil))))))
def F__law_kinds_4 : FS := (sSet 1 (f2 gAdd (fVar 1) (fFrz (oLst (aCons (fArgs (a2 (gIsi is_InvalidText (.own "InvalidText"))) (aCons (fVar 0) (aCons (fun _ => pure (.glob "InvalidText")) aNil))) (aCons (fArgs (a2 (gIsi is_Missing (.own "Missing"))) (aCons (fVar 0) (aCons (fun _ => pure (.glob "Missing")) aNil))) aNil))))))
def F__law_kinds_5 : FS := (sSet 1 (f2 gAdd (fVar 1) (fFrz (oLst (aCons (fArgs (a2 (gIsi is_InvalidName (.own "InvalidName"))) (aCons (fVar 0) (aCons (fun _ => pure (.glob "InvalidName")) aNil))) (aCons (fArgs (a2 (gIsi is_TakenName (.own "TakenName"))) (aCons (fVar 0) (aCons (fun _ => pure (.glob "TakenName")) aNil))) (aCons (fArgs (a2 (gIsi is_UnknownName (.own "UnknownName"))) (aCons (fVar 0) (aCons (fun _ => pure (.glob "UnknownName")) aNil))) aNil)))))))
def F__law_kinds_6 : FS := (sRet (fFrz (oLst aNil)))
def F__law_kinds_7 : FS := (sIf (fOrT (fNotT (fB (fArgs (a2 (gIsi is_TickError (.own "TickError"))) (aCons (fVar 0) (aCons (fun _ => pure (.glob "TickError")) aNil))))) (fNotT (fB (fArgs (a2 (gIsi is_ValueError (.ty "ValueError"))) (aCons (fVar 0) (aCons (fun _ => pure (.ty "ValueError")) aNil)))))) F__law_kinds_6 sNil)
def F__law_kinds_8 : FS := (sRet (fFrz (oLc [2] (.one 2) (iRg1 (aCons (fun _ => pure (.int 15)) aNil)) (fB (f2 gIx (f2 gAdd (fVar 1) (fFrz (oLst (aCons (fArgs (a2 (gIsi is_NothingToUndo (.own "NothingToUndo"))) (aCons (fVar 0) (aCons (fun _ => pure (.glob "NothingToUndo")) aNil))) aNil)))) (fVar 2))) (fVar 2))))
def M__law_kinds : List D → Cm D := mkM 1 3 ((sSeq F__law_kinds_0
  (sSeq F__law_kinds_1
  (sSeq F__law_kinds_2
  (sSeq F__law_kinds_3
  (sSeq F__law_kinds_4
  (sSeq F__law_kinds_5
  (sSeq F__law_kinds_7
  F__law_kinds_8))))))))
def N__law_kinds : List D → Cm D := frm M__law_kinds
theorem sc__law_kinds : FnScope ["error", "classes", "at"] ["error"] (defScope s__law_kinds) := ⟨rfl, rfl, rfl, by decide +kernel, rfl, by decide +kernel, by decide +kernel⟩
theorem b__law_kinds (x : Fx K mg) : Binds K x.fd__law_kinds ["error"] [] := x.d__law_kinds.bindsN fun _ _ _ _ _ _ us hl => match us, hl with | [_], _ => rfl
set_option maxHeartbeats 4000000 in
theorem ft__law_kinds (x : Fx K mg) : FT P0 w K mg base (He.ga K) (3 + 1) (He.fAd K ("_law_kinds", none)) x.fd__law_kinds ["error"] M__law_kinds := ft_of x.d__law_kinds sc__law_kinds rfl rfl fun cdv A outer s H E lv =>
  have nd := sc__law_kinds.nd
  have tk := ctx_takes (P := P0) (w := w) (K := K) (mg := mg) (base := base) (N := ["error", "classes", "at"]) (qual := "_law_kinds") (scope := defScope s__law_kinds) (f := He.fAd K ("_law_kinds", none)) (cdv := cdv) (A := A) (outer := outer) (s := s) (H := H) (E := E)
  have po := ctx_po (P := P0) (w := w) (K := K) (mg := mg) (base := base) (N := ["error", "classes", "at"]) (qual := "_law_kinds") (scope := defScope s__law_kinds) (f := He.fAd K ("_law_kinds", none)) (cdv := cdv) (A := A) (outer := outer) (s := s) (H := H) (E := E)
  (sfs_cons (sf_set (i := 1) nd rfl (by first | exact Or.inl rfl | exact Or.inr rfl) (pf_frz (of_lst (af_cons (pf_callB call_isi2 (ok_gIsi (c := (.own "InvalidNumber")) x.is_InvalidNumber) rfl x.n_isinstance PyProof.Rows.Boot.«isinstance» (af_cons (pf_var (pv 0)) (af_cons (pf_clsName rfl x.g_InvalidNumber) af_nil))) (af_cons (pf_callB call_isi2 (ok_gIsi (c := (.own "InvalidList")) x.is_InvalidList) rfl x.n_isinstance PyProof.Rows.Boot.«isinstance» (af_cons (pf_var (pv 0)) (af_cons (pf_clsName rfl x.g_InvalidList) af_nil))) (af_cons (pf_callB call_isi2 (ok_gIsi (c := (.own "InvalidItem")) x.is_InvalidItem) rfl x.n_isinstance PyProof.Rows.Boot.«isinstance» (af_cons (pf_var (pv 0)) (af_cons (pf_clsName rfl x.g_InvalidItem) af_nil))) af_nil))))))
  (sfs_cons (sf_set (i := 1) nd rfl (by first | exact Or.inl rfl | exact Or.inr rfl) (pf_bin op_add4 ok_gAdd (pf_var (pv 1)) (pf_frz (of_lst (af_cons (pf_callB call_isi2 (ok_gIsi (c := (.own "InvalidShop")) x.is_InvalidShop) rfl x.n_isinstance PyProof.Rows.Boot.«isinstance» (af_cons (pf_var (pv 0)) (af_cons (pf_clsName rfl x.g_InvalidShop) af_nil))) (af_cons (pf_callB call_isi2 (ok_gIsi (c := (.own "InvalidThing")) x.is_InvalidThing) rfl x.n_isinstance PyProof.Rows.Boot.«isinstance» (af_cons (pf_var (pv 0)) (af_cons (pf_clsName rfl x.g_InvalidThing) af_nil))) af_nil))))))
  (sfs_cons (sf_set (i := 1) nd rfl (by first | exact Or.inl rfl | exact Or.inr rfl) (pf_bin op_add4 ok_gAdd (pf_var (pv 1)) (pf_frz (of_lst (af_cons (pf_callB call_isi2 (ok_gIsi (c := (.own "InvalidTicks")) x.is_InvalidTicks) rfl x.n_isinstance PyProof.Rows.Boot.«isinstance» (af_cons (pf_var (pv 0)) (af_cons (pf_clsName rfl x.g_InvalidTicks) af_nil))) (af_cons (pf_callB call_isi2 (ok_gIsi (c := (.own "InvalidStore")) x.is_InvalidStore) rfl x.n_isinstance PyProof.Rows.Boot.«isinstance» (af_cons (pf_var (pv 0)) (af_cons (pf_clsName rfl x.g_InvalidStore) af_nil))) af_nil))))))
  (sfs_cons (sf_set (i := 1) nd rfl (by first | exact Or.inl rfl | exact Or.inr rfl) (pf_bin op_add4 ok_gAdd (pf_var (pv 1)) (pf_frz (of_lst (af_cons (pf_callB call_isi2 (ok_gIsi (c := (.own "InvalidWord")) x.is_InvalidWord) rfl x.n_isinstance PyProof.Rows.Boot.«isinstance» (af_cons (pf_var (pv 0)) (af_cons (pf_clsName rfl x.g_InvalidWord) af_nil))) (af_cons (pf_callB call_isi2 (ok_gIsi (c := (.own "InvalidRule")) x.is_InvalidRule) rfl x.n_isinstance PyProof.Rows.Boot.«isinstance» (af_cons (pf_var (pv 0)) (af_cons (pf_clsName rfl x.g_InvalidRule) af_nil))) af_nil))))))
  (sfs_cons (sf_set (i := 1) nd rfl (by first | exact Or.inl rfl | exact Or.inr rfl) (pf_bin op_add4 ok_gAdd (pf_var (pv 1)) (pf_frz (of_lst (af_cons (pf_callB call_isi2 (ok_gIsi (c := (.own "InvalidText")) x.is_InvalidText) rfl x.n_isinstance PyProof.Rows.Boot.«isinstance» (af_cons (pf_var (pv 0)) (af_cons (pf_clsName rfl x.g_InvalidText) af_nil))) (af_cons (pf_callB call_isi2 (ok_gIsi (c := (.own "Missing")) x.is_Missing) rfl x.n_isinstance PyProof.Rows.Boot.«isinstance» (af_cons (pf_var (pv 0)) (af_cons (pf_clsName rfl x.g_Missing) af_nil))) af_nil))))))
  (sfs_cons (sf_set (i := 1) nd rfl (by first | exact Or.inl rfl | exact Or.inr rfl) (pf_bin op_add4 ok_gAdd (pf_var (pv 1)) (pf_frz (of_lst (af_cons (pf_callB call_isi2 (ok_gIsi (c := (.own "InvalidName")) x.is_InvalidName) rfl x.n_isinstance PyProof.Rows.Boot.«isinstance» (af_cons (pf_var (pv 0)) (af_cons (pf_clsName rfl x.g_InvalidName) af_nil))) (af_cons (pf_callB call_isi2 (ok_gIsi (c := (.own "TakenName")) x.is_TakenName) rfl x.n_isinstance PyProof.Rows.Boot.«isinstance» (af_cons (pf_var (pv 0)) (af_cons (pf_clsName rfl x.g_TakenName) af_nil))) (af_cons (pf_callB call_isi2 (ok_gIsi (c := (.own "UnknownName")) x.is_UnknownName) rfl x.n_isinstance PyProof.Rows.Boot.«isinstance» (af_cons (pf_var (pv 0)) (af_cons (pf_clsName rfl x.g_UnknownName) af_nil))) af_nil)))))))
  (sfs_cons (sf_if (tf_pw (twf_or (tf_not (tf_val (pf_callB call_isi2 (ok_gIsi (c := (.own "TickError")) x.is_TickError) rfl x.n_isinstance PyProof.Rows.Boot.«isinstance» (af_cons (pf_var (pv 0)) (af_cons (pf_clsName rfl x.g_TickError) af_nil))))) (twf_or1 (tf_not (tf_val (pf_callB call_isi2 (ok_gIsi (c := (.ty "ValueError")) x.is_ValueError) rfl x.n_isinstance PyProof.Rows.Boot.«isinstance» (af_cons (pf_var (pv 0)) (af_cons (pf_tyName rfl x.n_ValueError PyProof.Rows.Boot.«ValueError») af_nil)))))))) (sfs_one (sf_ret (pf_frz (of_lst af_nil)))) sfs_nil)
  (sfs_one (sf_ret (pf_frz (of_lc (own := [("at", 2)]) (b := (.one 2)) rfl nd (if_range1 rfl x.n_range (af_cons pf_int af_nil)) (blkOk_by (by rfl)) (by decide) (fun _ _ _ _ _ => (pg_name nd rfl (by first | exact Or.inl rfl | exact Or.inr rfl))) (fun _ _ _ _ _ => (tsf_one (tf_val (pf_ix (pf_bin op_add4 ok_gAdd (pf_var (pv 1)) (pf_frz (of_lst (af_cons (pf_callB call_isi2 (ok_gIsi (c := (.own "NothingToUndo")) x.is_NothingToUndo) rfl x.n_isinstance PyProof.Rows.Boot.«isinstance» (af_cons (pf_var (pv 0)) (af_cons (pf_clsName rfl x.g_NothingToUndo) af_nil))) af_nil)))) (pf_var (pv 2)) fun _ _ => rfl)))) (fun _ _ _ _ _ => (pf_var (pv 2))))))))))))))
theorem fn__law_kinds (x : Fx K mg) : FT P0 w K mg base (He.ga K) (3 + 1) (He.fAd K ("_law_kinds", none)) x.fd__law_kinds ["error"] N__law_kinds := ft_frm (ft__law_kinds x)
/-! ### _law_named -/
def M__law_named : List D → Cm D := mkM 1 2 ((sSeq (sSet 1 (fFrz (oLst (aCons (fExn (fMk "InvalidNumber" "value" [] (aCons (fVar 0) aNil))) (aCons (fExn (fMk "InvalidList" "value" [] (aCons (fVar 0) aNil))) (aCons (fExn (fMk "InvalidItem" "value" [] (aCons (fVar 0) aNil))) (aCons (fExn (fMk "InvalidShop" "value" [] (aCons (fVar 0) aNil))) aNil)))))))
  (sSeq (sSet 1 (f2 gAdd (fVar 1) (fFrz (oLst (aCons (fExn (fMk "InvalidThing" "value" [] (aCons (fVar 0) aNil))) (aCons (fExn (fMk "InvalidTicks" "value" [] (aCons (fVar 0) aNil))) (aCons (fExn (fMk "InvalidStore" "value" [] (aCons (fVar 0) aNil))) aNil)))))))
  (sSeq (sSet 1 (f2 gAdd (fVar 1) (fFrz (oLst (aCons (fExn (fMk "InvalidWord" "value" [] (aCons (fVar 0) aNil))) (aCons (fExn (fMk "InvalidRule" "value" [] (aCons (fVar 0) aNil))) (aCons (fExn (fMk "InvalidText" "value" [] (aCons (fVar 0) aNil))) aNil)))))))
  (sRet (f2 gAdd (fVar 1) (fFrz (oLst (aCons (fExn (fMk "Missing" "value" [] (aCons (fVar 0) aNil))) (aCons (fExn (fMk "InvalidName" "name" [] (aCons (fVar 0) aNil))) (aCons (fExn (fMk "TakenName" "name" [] (aCons (fVar 0) aNil))) (aCons (fExn (fMk "UnknownName" "name" [] (aCons (fVar 0) aNil))) aNil))))))))))))
def N__law_named : List D → Cm D := frm M__law_named
theorem sc__law_named : FnScope ["given", "found"] ["given"] (defScope s__law_named) := ⟨rfl, rfl, rfl, by decide +kernel, rfl, by decide +kernel, by decide +kernel⟩
theorem b__law_named (x : Fx K mg) : Binds K x.fd__law_named ["given"] [] := x.d__law_named.bindsN fun _ _ _ _ _ _ us hl => match us, hl with | [_], _ => rfl
set_option maxHeartbeats 4000000 in
theorem ft__law_named (x : Fx K mg) : FT P0 w K mg base (He.ga K) (3 + 1) (He.fAd K ("_law_named", none)) x.fd__law_named ["given"] M__law_named := ft_of x.d__law_named sc__law_named rfl rfl fun cdv A outer s H E lv =>
  have nd := sc__law_named.nd
  have tk := ctx_takes (P := P0) (w := w) (K := K) (mg := mg) (base := base) (N := ["given", "found"]) (qual := "_law_named") (scope := defScope s__law_named) (f := He.fAd K ("_law_named", none)) (cdv := cdv) (A := A) (outer := outer) (s := s) (H := H) (E := E)
  have po := ctx_po (P := P0) (w := w) (K := K) (mg := mg) (base := base) (N := ["given", "found"]) (qual := "_law_named") (scope := defScope s__law_named) (f := He.fAd K ("_law_named", none)) (cdv := cdv) (A := A) (outer := outer) (s := s) (H := H) (E := E)
  (sfs_cons (sf_set (i := 1) nd rfl (by first | exact Or.inl rfl | exact Or.inr rfl) (pf_frz (of_lst (af_cons (pf_exn (mf_mkK (C := "InvalidNumber") (f := "value") x.ex_InvalidNumber rfl rfl x.n_super (lv.mono (by decide : 1 ≤ _)) x.kb_InvalidNumber rfl x.g_InvalidNumber (pf_var (pv 0)))) (af_cons (pf_exn (mf_mkK (C := "InvalidList") (f := "value") x.ex_InvalidList rfl rfl x.n_super (lv.mono (by decide : 1 ≤ _)) x.kb_InvalidList rfl x.g_InvalidList (pf_var (pv 0)))) (af_cons (pf_exn (mf_mkK (C := "InvalidItem") (f := "value") x.ex_InvalidItem rfl rfl x.n_super (lv.mono (by decide : 1 ≤ _)) x.kb_InvalidItem rfl x.g_InvalidItem (pf_var (pv 0)))) (af_cons (pf_exn (mf_mkK (C := "InvalidShop") (f := "value") x.ex_InvalidShop rfl rfl x.n_super (lv.mono (by decide : 1 ≤ _)) x.kb_InvalidShop rfl x.g_InvalidShop (pf_var (pv 0)))) af_nil)))))))
  (sfs_cons (sf_set (i := 1) nd rfl (by first | exact Or.inl rfl | exact Or.inr rfl) (pf_bin op_add4 ok_gAdd (pf_var (pv 1)) (pf_frz (of_lst (af_cons (pf_exn (mf_mkK (C := "InvalidThing") (f := "value") x.ex_InvalidThing rfl rfl x.n_super (lv.mono (by decide : 1 ≤ _)) x.kb_InvalidThing rfl x.g_InvalidThing (pf_var (pv 0)))) (af_cons (pf_exn (mf_mkK (C := "InvalidTicks") (f := "value") x.ex_InvalidTicks rfl rfl x.n_super (lv.mono (by decide : 1 ≤ _)) x.kb_InvalidTicks rfl x.g_InvalidTicks (pf_var (pv 0)))) (af_cons (pf_exn (mf_mkK (C := "InvalidStore") (f := "value") x.ex_InvalidStore rfl rfl x.n_super (lv.mono (by decide : 1 ≤ _)) x.kb_InvalidStore rfl x.g_InvalidStore (pf_var (pv 0)))) af_nil)))))))
  (sfs_cons (sf_set (i := 1) nd rfl (by first | exact Or.inl rfl | exact Or.inr rfl) (pf_bin op_add4 ok_gAdd (pf_var (pv 1)) (pf_frz (of_lst (af_cons (pf_exn (mf_mkK (C := "InvalidWord") (f := "value") x.ex_InvalidWord rfl rfl x.n_super (lv.mono (by decide : 1 ≤ _)) x.kb_InvalidWord rfl x.g_InvalidWord (pf_var (pv 0)))) (af_cons (pf_exn (mf_mkK (C := "InvalidRule") (f := "value") x.ex_InvalidRule rfl rfl x.n_super (lv.mono (by decide : 1 ≤ _)) x.kb_InvalidRule rfl x.g_InvalidRule (pf_var (pv 0)))) (af_cons (pf_exn (mf_mkK (C := "InvalidText") (f := "value") x.ex_InvalidText rfl rfl x.n_super (lv.mono (by decide : 1 ≤ _)) x.kb_InvalidText rfl x.g_InvalidText (pf_var (pv 0)))) af_nil)))))))
  (sfs_one (sf_ret (pf_bin op_add4 ok_gAdd (pf_var (pv 1)) (pf_frz (of_lst (af_cons (pf_exn (mf_mkK (C := "Missing") (f := "value") x.ex_Missing rfl rfl x.n_super (lv.mono (by decide : 1 ≤ _)) x.kb_Missing rfl x.g_Missing (pf_var (pv 0)))) (af_cons (pf_exn (mf_mkK (C := "InvalidName") (f := "name") x.ex_InvalidName rfl rfl x.n_super (lv.mono (by decide : 1 ≤ _)) x.kb_InvalidName rfl x.g_InvalidName (pf_var (pv 0)))) (af_cons (pf_exn (mf_mkK (C := "TakenName") (f := "name") x.ex_TakenName rfl rfl x.n_super (lv.mono (by decide : 1 ≤ _)) x.kb_TakenName rfl x.g_TakenName (pf_var (pv 0)))) (af_cons (pf_exn (mf_mkK (C := "UnknownName") (f := "name") x.ex_UnknownName rfl rfl x.n_super (lv.mono (by decide : 1 ≤ _)) x.kb_UnknownName rfl x.g_UnknownName (pf_var (pv 0)))) af_nil))))))))))))
theorem fn__law_named (x : Fx K mg) : FT P0 w K mg base (He.ga K) (3 + 1) (He.fAd K ("_law_named", none)) x.fd__law_named ["given"] N__law_named := ft_frm (ft__law_named x)
/-! ### _law_placed -/
def M__law_placed : List D → Cm D := mkM 1 2 ((sSeq (sSet 1 (fFrz (oLst (aCons (fExn (fMk "InvalidNumber" "value" [] (aCons (fVar 0) aNil))) (aCons (fExn (fMk "InvalidList" "value" [] (aCons (fVar 0) aNil))) (aCons (fExn (fMk "InvalidItem" "value" [] (aCons (fVar 0) aNil))) (aCons (fExn (fMk "InvalidShop" "value" [] (aCons (fVar 0) aNil))) (aCons (fExn (fMk "InvalidThing" "value" [] (aCons (fVar 0) aNil))) aNil))))))))
  (sSeq (sSet 1 (f2 gAdd (fVar 1) (fFrz (oLst (aCons (fExn (fMk "InvalidTicks" "value" [] (aCons (fVar 0) aNil))) (aCons (fExn (fMk "InvalidStore" "value" [] (aCons (fVar 0) aNil))) (aCons (fExn (fMk "InvalidWord" "value" [] (aCons (fVar 0) aNil))) (aCons (fExn (fMk "InvalidRule" "value" [] (aCons (fVar 0) aNil))) aNil))))))))
  (sRet (f2 gAdd (fVar 1) (fFrz (oLst (aCons (fExn (fMk "InvalidText" "value" [] (aCons (fVar 0) aNil))) (aCons (fExn (fMk "Missing" "value" [] (aCons (fVar 0) aNil))) (aCons (fExn (fMk "InvalidName" "name" [] (aCons (fVar 0) aNil))) (aCons (fExn (fMk "TakenName" "name" [] (aCons (fVar 0) aNil))) (aCons (fExn (fMk "UnknownName" "name" [] (aCons (fVar 0) aNil))) aNil))))))))))))
def N__law_placed : List D → Cm D := frm M__law_placed
theorem sc__law_placed : FnScope ["given", "found"] ["given"] (defScope s__law_placed) := ⟨rfl, rfl, rfl, by decide +kernel, rfl, by decide +kernel, by decide +kernel⟩
theorem b__law_placed (x : Fx K mg) : Binds K x.fd__law_placed ["given"] [] := x.d__law_placed.bindsN fun _ _ _ _ _ _ us hl => match us, hl with | [_], _ => rfl
set_option maxHeartbeats 4000000 in
theorem ft__law_placed (x : Fx K mg) : FT P0 w K mg base (He.ga K) (3 + 1) (He.fAd K ("_law_placed", none)) x.fd__law_placed ["given"] M__law_placed := ft_of x.d__law_placed sc__law_placed rfl rfl fun cdv A outer s H E lv =>
  have nd := sc__law_placed.nd
  have tk := ctx_takes (P := P0) (w := w) (K := K) (mg := mg) (base := base) (N := ["given", "found"]) (qual := "_law_placed") (scope := defScope s__law_placed) (f := He.fAd K ("_law_placed", none)) (cdv := cdv) (A := A) (outer := outer) (s := s) (H := H) (E := E)
  have po := ctx_po (P := P0) (w := w) (K := K) (mg := mg) (base := base) (N := ["given", "found"]) (qual := "_law_placed") (scope := defScope s__law_placed) (f := He.fAd K ("_law_placed", none)) (cdv := cdv) (A := A) (outer := outer) (s := s) (H := H) (E := E)
  (sfs_cons (sf_set (i := 1) nd rfl (by first | exact Or.inl rfl | exact Or.inr rfl) (pf_frz (of_lst (af_cons (pf_exn (mf_mk (C := "InvalidNumber") (f := "value") x.ex_InvalidNumber rfl rfl x.n_super (lv.mono (by decide : 1 ≤ _)) (bx_InvalidNumber x) .nil CsD.nil rfl x.g_InvalidNumber (af_cons (pf_var (pv 0)) af_nil))) (af_cons (pf_exn (mf_mk (C := "InvalidList") (f := "value") x.ex_InvalidList rfl rfl x.n_super (lv.mono (by decide : 1 ≤ _)) (bx_InvalidList x) .nil CsD.nil rfl x.g_InvalidList (af_cons (pf_var (pv 0)) af_nil))) (af_cons (pf_exn (mf_mk (C := "InvalidItem") (f := "value") x.ex_InvalidItem rfl rfl x.n_super (lv.mono (by decide : 1 ≤ _)) (bx_InvalidItem x) .nil CsD.nil rfl x.g_InvalidItem (af_cons (pf_var (pv 0)) af_nil))) (af_cons (pf_exn (mf_mk (C := "InvalidShop") (f := "value") x.ex_InvalidShop rfl rfl x.n_super (lv.mono (by decide : 1 ≤ _)) (bx_InvalidShop x) .nil CsD.nil rfl x.g_InvalidShop (af_cons (pf_var (pv 0)) af_nil))) (af_cons (pf_exn (mf_mk (C := "InvalidThing") (f := "value") x.ex_InvalidThing rfl rfl x.n_super (lv.mono (by decide : 1 ≤ _)) (bx_InvalidThing x) .nil CsD.nil rfl x.g_InvalidThing (af_cons (pf_var (pv 0)) af_nil))) af_nil))))))))
  (sfs_cons (sf_set (i := 1) nd rfl (by first | exact Or.inl rfl | exact Or.inr rfl) (pf_bin op_add4 ok_gAdd (pf_var (pv 1)) (pf_frz (of_lst (af_cons (pf_exn (mf_mk (C := "InvalidTicks") (f := "value") x.ex_InvalidTicks rfl rfl x.n_super (lv.mono (by decide : 1 ≤ _)) (bx_InvalidTicks x) .nil CsD.nil rfl x.g_InvalidTicks (af_cons (pf_var (pv 0)) af_nil))) (af_cons (pf_exn (mf_mk (C := "InvalidStore") (f := "value") x.ex_InvalidStore rfl rfl x.n_super (lv.mono (by decide : 1 ≤ _)) (bx_InvalidStore x) .nil CsD.nil rfl x.g_InvalidStore (af_cons (pf_var (pv 0)) af_nil))) (af_cons (pf_exn (mf_mk (C := "InvalidWord") (f := "value") x.ex_InvalidWord rfl rfl x.n_super (lv.mono (by decide : 1 ≤ _)) (bx_InvalidWord x) .nil CsD.nil rfl x.g_InvalidWord (af_cons (pf_var (pv 0)) af_nil))) (af_cons (pf_exn (mf_mk (C := "InvalidRule") (f := "value") x.ex_InvalidRule rfl rfl x.n_super (lv.mono (by decide : 1 ≤ _)) (bx_InvalidRule x) .nil CsD.nil rfl x.g_InvalidRule (af_cons (pf_var (pv 0)) af_nil))) af_nil))))))))
  (sfs_one (sf_ret (pf_bin op_add4 ok_gAdd (pf_var (pv 1)) (pf_frz (of_lst (af_cons (pf_exn (mf_mk (C := "InvalidText") (f := "value") x.ex_InvalidText rfl rfl x.n_super (lv.mono (by decide : 1 ≤ _)) (bx_InvalidText x) .nil CsD.nil rfl x.g_InvalidText (af_cons (pf_var (pv 0)) af_nil))) (af_cons (pf_exn (mf_mk (C := "Missing") (f := "value") x.ex_Missing rfl rfl x.n_super (lv.mono (by decide : 1 ≤ _)) (bx_Missing x) .nil CsD.nil rfl x.g_Missing (af_cons (pf_var (pv 0)) af_nil))) (af_cons (pf_exn (mf_mk (C := "InvalidName") (f := "name") x.ex_InvalidName rfl rfl x.n_super (lv.mono (by decide : 1 ≤ _)) (bx_InvalidName x) .nil CsD.nil rfl x.g_InvalidName (af_cons (pf_var (pv 0)) af_nil))) (af_cons (pf_exn (mf_mk (C := "TakenName") (f := "name") x.ex_TakenName rfl rfl x.n_super (lv.mono (by decide : 1 ≤ _)) (bx_TakenName x) .nil CsD.nil rfl x.g_TakenName (af_cons (pf_var (pv 0)) af_nil))) (af_cons (pf_exn (mf_mk (C := "UnknownName") (f := "name") x.ex_UnknownName rfl rfl x.n_super (lv.mono (by decide : 1 ≤ _)) (bx_UnknownName x) .nil CsD.nil rfl x.g_UnknownName (af_cons (pf_var (pv 0)) af_nil))) af_nil))))))))))))
theorem fn__law_placed (x : Fx K mg) : FT P0 w K mg base (He.ga K) (3 + 1) (He.fAd K ("_law_placed", none)) x.fd__law_placed ["given"] N__law_placed := ft_frm (ft__law_placed x)
/-! ### _law_hash -/
theorem sc__law_hash : FnScope ["seed", "index", "mixed"] ["seed", "index"] (defScope s__law_hash) := ⟨rfl, rfl, rfl, by decide +kernel, rfl, by decide +kernel, by decide +kernel⟩
theorem b__law_hash (x : Fx K mg) : Binds K x.fd__law_hash ["seed", "index"] [] := x.d__law_hash.bindsN fun _ _ _ _ _ _ us hl => match us, hl with | [_, _], _ => rfl
set_option maxHeartbeats 4000000 in
theorem ft__law_hash (x : Fx K mg) : FT P0 w K mg base (He.ga K) (3 + 1) (He.fAd K ("_law_hash", none)) x.fd__law_hash ["seed", "index"] M__law_hash := ft_of x.d__law_hash sc__law_hash rfl rfl fun cdv A outer s H E lv =>
  have nd := sc__law_hash.nd
  have tk := ctx_takes (P := P0) (w := w) (K := K) (mg := mg) (base := base) (N := ["seed", "index", "mixed"]) (qual := "_law_hash") (scope := defScope s__law_hash) (f := He.fAd K ("_law_hash", none)) (cdv := cdv) (A := A) (outer := outer) (s := s) (H := H) (E := E)
  have po := ctx_po (P := P0) (w := w) (K := K) (mg := mg) (base := base) (N := ["seed", "index", "mixed"]) (qual := "_law_hash") (scope := defScope s__law_hash) (f := He.fAd K ("_law_hash", none)) (cdv := cdv) (A := A) (outer := outer) (s := s) (H := H) (E := E)
  (sfs_cons (sf_set (i := 2) nd rfl (by first | exact Or.inl rfl | exact Or.inr rfl) (pf_bin op_mod ok_gMod (pf_callTy call_int1 ok_gInt rfl x.n_int PyProof.Rows.Boot.«int» (af_cons (pf_bin op_add4 ok_gAdd (pf_bin op_add4 ok_gAdd (pf_bin op_add4 ok_gAdd (pf_bin op_mul4 ok_gMul2 (pf_var (pv 0)) pf_int) (pf_bin op_mul4 ok_gMul2 (pf_bin op_mul4 ok_gMul2 pf_int (pf_var (pv 1))) (pf_var (pv 1)))) (pf_var (pv 1))) pf_int) af_nil)) pf_int))
  (sfs_cons (sf_set (i := 2) nd rfl (by first | exact Or.inl rfl | exact Or.inr rfl) (pf_bin op_mod ok_gMod (pf_callTy call_int1 ok_gInt rfl x.n_int PyProof.Rows.Boot.«int» (af_cons (pf_bin op_add4 ok_gAdd (pf_bin op_mul4 ok_gMul2 (pf_var (pv 2)) (pf_var (pv 2))) pf_int) af_nil)) pf_int))
  (sfs_one (sf_ret (pf_bin op_mod ok_gMod (pf_callTy call_int1 ok_gInt rfl x.n_int PyProof.Rows.Boot.«int» (af_cons (pf_bin op_mul4 ok_gMul2 (pf_var (pv 2)) pf_int) af_nil)) pf_int)))))
theorem fn__law_hash (x : Fx K mg) : FT P0 w K mg base (He.ga K) (3 + 1) (He.fAd K ("_law_hash", none)) x.fd__law_hash ["seed", "index"] N__law_hash := ft_frm (ft__law_hash x)
/-! ### _law_random -/
theorem sc__law_random : FnScope ["generator", "bound", "drawn", "turn"] ["generator", "bound"] (defScope s__law_random) := ⟨rfl, rfl, rfl, by decide +kernel, rfl, by decide +kernel, by decide +kernel⟩
theorem b__law_random (x : Fx K mg) : Binds K x.fd__law_random ["generator", "bound"] [] := x.d__law_random.bindsN fun _ _ _ _ _ _ us hl => match us, hl with | [_, _], _ => rfl
set_option maxHeartbeats 4000000 in
theorem ft__law_random (x : Fx K mg) : FT P0 w K mg base (He.ga K) (4 + 1) (He.fAd K ("_law_random", none)) x.fd__law_random ["generator", "bound"] M__law_random := ft_of x.d__law_random sc__law_random rfl rfl fun cdv A outer s H E lv =>
  have nd := sc__law_random.nd
  have tk := ctx_takes (P := P0) (w := w) (K := K) (mg := mg) (base := base) (N := ["generator", "bound", "drawn", "turn"]) (qual := "_law_random") (scope := defScope s__law_random) (f := He.fAd K ("_law_random", none)) (cdv := cdv) (A := A) (outer := outer) (s := s) (H := H) (E := E)
  have po := ctx_po (P := P0) (w := w) (K := K) (mg := mg) (base := base) (N := ["generator", "bound", "drawn", "turn"]) (qual := "_law_random") (scope := defScope s__law_random) (f := He.fAd K ("_law_random", none)) (cdv := cdv) (A := A) (outer := outer) (s := s) (H := H) (E := E)
  (sfs_cons (sf_if (tf_cmp op_gt (ok_gOrd _) (pf_ix (pf_var (pv 0)) pf_int fun _ _ => rfl) pf_int (nomark _)) (sfs_cons (sf_set (i := 2) nd rfl (by first | exact Or.inl rfl | exact Or.inr rfl) (pf_bin op_mod ok_gMod (pf_callTy call_int1 ok_gInt rfl x.n_int PyProof.Rows.Boot.«int» (af_cons (pf_ix (pf_var (pv 0)) pf_int fun _ _ => rfl) af_nil)) (pf_var (pv 1))))
  (sfs_cons (sf_putC (pf_bin op_fdivW ok_gDiv (pf_ix (pf_var (pv 0)) pf_int fun _ _ => rfl) (pf_var (pv 1))) (pf_var (pv 0)) pf_int)
  (sfs_one (sf_ret (pf_var (pv 2)))))) sfs_nil)
  (sfs_cons (sf_set (i := 2) nd rfl (by first | exact Or.inl rfl | exact Or.inr rfl) pf_int)
  (sfs_cons (sf_for (b := (.one 3)) po rfl (if_range1 rfl x.n_range (af_cons (pf_bin op_add4 ok_gAdd pf_int (pf_bin op_fdivW ok_gDiv (pf_bits (pf_var (pv 1))) pf_int)) af_nil)) (pg_name nd rfl (by first | exact Or.inl rfl | exact Or.inr rfl)) (sfs_cons (sf_putC (pf_bin op_add4 ok_gAdd (pf_ix (pf_var (pv 0)) pf_int fun _ _ => rfl) pf_int) (pf_var (pv 0)) pf_int)
  (sfs_one (sf_set (i := 2) nd rfl (by first | exact Or.inl rfl | exact Or.inr rfl) (pf_bin op_add4 ok_gAdd (pf_bin op_mul4 ok_gMul2 (pf_var (pv 2)) pf_int) (pf_call (fn__law_hash x) (lv.mono (by decide)) rfl x.g__law_hash x.d__law_hash.kp (b__law_hash x) .nil CsD.nil tk (af_cons (pf_ix (pf_var (pv 0)) pf_int fun _ _ => rfl) (af_cons (pf_ix (pf_var (pv 0)) pf_int fun _ _ => rfl) af_nil))))))))
  (sfs_one (sf_ret (pf_bin op_mod ok_gMod (pf_callTy call_int1 ok_gInt rfl x.n_int PyProof.Rows.Boot.«int» (af_cons (pf_var (pv 2)) af_nil)) (pf_var (pv 1))))))))
theorem fn__law_random (x : Fx K mg) : FT P0 w K mg base (He.ga K) (4 + 1) (He.fAd K ("_law_random", none)) x.fd__law_random ["generator", "bound"] N__law_random := ft_melt (ft__law_random x)
/-! ### _law_right -/
def F__law_right_0 : FS := (sRet (fun _ => pure (.bl false)))
def F__law_right_1 : FS := (sIf (fB (f2 (gEq true) (fFrz (oLc [3] (.one 3) (iSeq (fVar 0)) (fun _ => pure true) (fCall M__law_kinds [] (aCons (fVar 3) aNil)))) (fFrz (oLc [4] (.one 4) (iRg1 (aCons (fun _ => pure (.int 14)) aNil)) (fun _ => pure true) (fFrz (oLst (aCons (fVar 4) aNil))))))) F__law_right_0 sNil)
def F__law_right_2 : FS := (sSet 2 (f2 gAdd (fFrz (oLc [3] (.one 3) (iSeq (f3 gSl (fVar 0) pNone (pSome (fun _ => pure (.int 11))))) (fun _ => pure true) (fXf xf_value "value" (fVar 3)))) (fFrz (oLc [3] (.one 3) (iSeq (f3 gSl (fVar 0) (pSome (fun _ => pure (.int 11))) pNone)) (fun _ => pure true) (fXf xf_name "name" (fVar 3))))))
def F__law_right_3 : FS := (sRet (f2 (gEq false) (fArgs (a1 gReprQ) (aCons (fVar 2) aNil)) (fArgs (a1 gReprQ) (aCons (f2 gMul2 (fFrz (oLst (aCons (fVar 1) aNil))) (fun _ => pure (.int 14))) aNil))))
def M__law_right : List D → Cm D := mkM 2 5 ((sSeq F__law_right_1
  (sSeq F__law_right_2
  F__law_right_3)))
def N__law_right : List D → Cm D := frm M__law_right
theorem sc__law_right : FnScope ["errors", "given", "fields", "error", "at"] ["errors", "given"] (defScope s__law_right) := ⟨rfl, rfl, rfl, by decide +kernel, rfl, by decide +kernel, by decide +kernel⟩
theorem b__law_right (x : Fx K mg) : Binds K x.fd__law_right ["errors", "given"] [] := x.d__law_right.bindsN fun _ _ _ _ _ _ us hl => match us, hl with | [_, _], _ => rfl
set_option maxHeartbeats 4000000 in
theorem ft__law_right (x : Fx K mg) : FT P0 w K mg base (He.ga K) (4 + 1) (He.fAd K ("_law_right", none)) x.fd__law_right ["errors", "given"] M__law_right := ft_of x.d__law_right sc__law_right rfl rfl fun cdv A outer s H E lv =>
  have nd := sc__law_right.nd
  have tk := ctx_takes (P := P0) (w := w) (K := K) (mg := mg) (base := base) (N := ["errors", "given", "fields", "error", "at"]) (qual := "_law_right") (scope := defScope s__law_right) (f := He.fAd K ("_law_right", none)) (cdv := cdv) (A := A) (outer := outer) (s := s) (H := H) (E := E)
  have po := ctx_po (P := P0) (w := w) (K := K) (mg := mg) (base := base) (N := ["errors", "given", "fields", "error", "at"]) (qual := "_law_right") (scope := defScope s__law_right) (f := He.fAd K ("_law_right", none)) (cdv := cdv) (A := A) (outer := outer) (s := s) (H := H) (E := E)
  (sfs_cons (sf_if (tf_cmp (op_neD lv.room.units) ok_gNe (pf_frz (of_lc (own := [("error", 3)]) (b := (.one 3)) rfl nd (if_seq (pf_var (pv 0))) (blkOk_by (by rfl)) (by decide) (fun _ _ _ _ _ => (pg_name nd rfl (by first | exact Or.inl rfl | exact Or.inr rfl))) (fun _ _ _ _ _ => tsf_nil) (fun _ _ _ _ _ => (pf_call (ft__law_kinds x) (lv.mono (by decide)) rfl x.g__law_kinds x.d__law_kinds.kp (b__law_kinds x) .nil CsD.nil takesF (af_cons (pf_var (pv 3)) af_nil))))) (pf_frz (of_lc (own := [("at", 4)]) (b := (.one 4)) rfl nd (if_range1 rfl x.n_range (af_cons pf_int af_nil)) (blkOk_by (by rfl)) (by decide) (fun _ _ _ _ _ => (pg_name nd rfl (by first | exact Or.inl rfl | exact Or.inr rfl))) (fun _ _ _ _ _ => tsf_nil) (fun _ _ _ _ _ => (pf_frz (of_lst (af_cons (pf_var (pv 4)) af_nil)))))) (nomark _)) (sfs_one (sf_ret pf_bl)) sfs_nil)
  (sfs_cons (sf_set (i := 2) nd rfl (by first | exact Or.inl rfl | exact Or.inr rfl) (pf_bin op_add4 ok_gAdd (pf_frz (of_lc (own := [("error", 3)]) (b := (.one 3)) rfl nd (if_seq (pf_sl (pf_var (pv 0)) pof_none (pof_some pf_int))) (blkOk_by (by rfl)) (by decide) (fun _ _ _ _ _ => (pg_name nd rfl (by first | exact Or.inl rfl | exact Or.inr rfl))) (fun _ _ _ _ _ => tsf_nil) (fun _ _ _ _ _ => (pf_xf (cs := xf_value) (pf_var (pv 3)) x.xf_value)))) (pf_frz (of_lc (own := [("error", 3)]) (b := (.one 3)) rfl nd (if_seq (pf_sl (pf_var (pv 0)) (pof_some pf_int) pof_none)) (blkOk_by (by rfl)) (by decide) (fun _ _ _ _ _ => (pg_name nd rfl (by first | exact Or.inl rfl | exact Or.inr rfl))) (fun _ _ _ _ _ => tsf_nil) (fun _ _ _ _ _ => (pf_xf (cs := xf_name) (pf_var (pv 3)) x.xf_name))))))
  (sfs_one (sf_ret (pf_cmp (op_eqD lv.room.units) ok_gEq (pf_callB (call_reprQ lv) ok_gReprQ rfl x.n_repr PyProof.Rows.Boot.«repr» (af_cons (pf_var (pv 2)) af_nil)) (pf_callB (call_reprQ lv) ok_gReprQ rfl x.n_repr PyProof.Rows.Boot.«repr» (af_cons (pf_bin op_mul4 ok_gMul2 (pf_frz (of_lst (af_cons (pf_var (pv 1)) af_nil))) pf_int) af_nil)) (nomark _))))))
theorem fn__law_right (x : Fx K mg) : FT P0 w K mg base (He.ga K) (4 + 1) (He.fAd K ("_law_right", none)) x.fd__law_right ["errors", "given"] N__law_right := ft_frm (ft__law_right x)
/-! ### law -/
def F_law_0 : FS := (sSet 1 (fCall N__law_random [] (aCons (fCall M__law_generator [] (aCons (fVar 0) (aCons (fun _ => pure (.int 0)) aNil))) (aCons (f2 gPow (fun _ => pure (.int 10)) (fun _ => pure (.int 12))) aNil))))
def F_law_1 : FS := (sSet 2 (fFrz (oLst (aCons (fCall M__law_placed [] (aCons (fVar 1) aNil)) (aCons (fCall M__law_named [] (aCons (fun _ => pure (.str "elder")) aNil)) aNil)))))
def F_law_2 : FS := (sPar 4 5 (aCons (fCall M__law_placed [] (aCons (fVar 3) aNil)) (aCons (fCall M__law_named [] (aCons (fVar 3) aNil)) aNil)))
def F_law_3 : FS := (sRet (fun _ => pure (.bl false)))
def F_law_4 : FS := (sIf (fOrT (fNotT (fB (fCall M__law_right [] (aCons (fVar 4) (aCons (fVar 3) aNil))))) (fNotT (fB (fCall M__law_right [] (aCons (fVar 5) (aCons (fVar 3) aNil)))))) F_law_3 sNil)
def F_law_5 : FS := (sApp 3 (fun _ => pure (.str "more")))
def F_law_6 : FS := (sIf (fB (fArgs (a2 (gIsi is_list (.ty "list"))) (aCons (fVar 3) (aCons (fun _ => pure (.ty "list")) aNil)))) F_law_5 sNil)
def F_law_7 : FS := (sPutD (fFrz (oLst (aCons (fun _ => pure (.int 1)) aNil))) (fVar 3) (fun _ => pure (.str "more")))
def F_law_8 : FS := (sIf (fB (fArgs (a2 (gIsi is_dict (.ty "dict"))) (aCons (fVar 3) (aCons (fun _ => pure (.ty "dict")) aNil)))) F_law_7 sNil)
def F_law_9 : FS := (sRet (fun _ => pure (.bl false)))
def F_law_10 : FS := (sIf (fOrT (fNotT (fB (fCall M__law_right [] (aCons (fVar 4) (aCons (fVar 3) aNil))))) (fNotT (fB (fCall M__law_right [] (aCons (fVar 5) (aCons (fVar 3) aNil)))))) F_law_9 sNil)
def B_law_11 : FS := (sMelt (sSeq F_law_2
  (sSeq F_law_4
  (sSeq F_law_6
  (sSeq F_law_8
  F_law_10)))))
def F_law_12 : FS := (sFor (.one 3) (iSeq (fFrz (oLst (aCons (fVar 1) (aCons (f2 gSub (fun _ => pure (.int 0)) (fVar 1)) (aCons (fTup (aCons (fun _ => pure (.int 1)) (aCons (fun _ => pure (.int 2)) aNil))) (aCons (fTup aNil) (aCons (fCell (oLst (aCons (fun _ => pure (.int 1)) aNil))) (aCons (fCell (oLst aNil)) (aCons (fCell (fun _ S => .ok (.dK []) S)) (aCons (fCell (oDisp [((fun _ => pure (.str "a")), (fFrz (oLst (aCons (fVar 1) aNil))))])) (aCons (fun _ => pure (.str "a b")) (aCons (fun _ => pure (.str "")) (aCons (fun _ => pure (.bl true)) (aCons (fun _ => pure .non) (aCons (fTup (aCons (fun _ => pure (.str "f")) (aCons (fun _ => pure (.int 2)) aNil))) aNil)))))))))))))))) B_law_11)
def F_law_13 : FS := (sRet (fun _ => pure (.bl false)))
def F_law_14 : FS := (sIf (fOrT (fNotT (fB (fCall M__law_right [] (aCons (f2 gIx (fVar 2) (fun _ => pure (.int 0))) (aCons (fVar 1) aNil))))) (fOrT (fNotT (fB (fCall M__law_right [] (aCons (f2 gIx (fVar 2) (fun _ => pure (.int 1))) (aCons (fun _ => pure (.str "elder")) aNil))))) (fNotT (fB (fCall M__law_right [] (aCons (fun _ => M__law_bare []) (aCons (fun _ => pure .non) aNil))))))) F_law_13 sNil)
def F_law_15 : FS := (sRet (f2 (gEq false) (fCall M__law_kinds [] (aCons (fExn (fMk0 "NothingToUndo")) aNil)) (fFrz (oLst (aCons (fun _ => pure (.int 14)) aNil)))))
def M_law : List D → Cm D := mkM 1 6 ((sSeq F_law_0
  (sSeq F_law_1
  (sSeq F_law_12
  (sSeq F_law_14
  F_law_15)))))
def N_law : List D → Cm D := frm M_law
theorem sc_law : FnScope ["script", "mark", "elder", "given", "first", "second"] ["script"] (defScope s_law) := ⟨rfl, rfl, rfl, by decide +kernel, rfl, by decide +kernel, by decide +kernel⟩
theorem b_law (x : Fx K mg) : Binds K x.fd_law ["script"] [] := x.d_law.bindsN fun _ _ _ _ _ _ us hl => match us, hl with | [_], _ => rfl
set_option maxHeartbeats 4000000 in
theorem ft_law (x : Fx K mg) : FT P0 w K mg base (He.ga K) (5 + 1) (He.fAd K ("law", none)) x.fd_law ["script"] M_law := ft_of x.d_law sc_law rfl rfl fun cdv A outer s H E lv =>
  have nd := sc_law.nd
  have tk := ctx_takes (P := P0) (w := w) (K := K) (mg := mg) (base := base) (N := ["script", "mark", "elder", "given", "first", "second"]) (qual := "law") (scope := defScope s_law) (f := He.fAd K ("law", none)) (cdv := cdv) (A := A) (outer := outer) (s := s) (H := H) (E := E)
  have po := ctx_po (P := P0) (w := w) (K := K) (mg := mg) (base := base) (N := ["script", "mark", "elder", "given", "first", "second"]) (qual := "law") (scope := defScope s_law) (f := He.fAd K ("law", none)) (cdv := cdv) (A := A) (outer := outer) (s := s) (H := H) (E := E)
  (sfs_cons (sf_set (i := 1) nd rfl (by first | exact Or.inl rfl | exact Or.inr rfl) (pf_call (fn__law_random x) (lv.mono (by decide)) rfl x.g__law_random x.d__law_random.kp (b__law_random x) .nil CsD.nil tk (af_cons (pf_call (ft__law_generator x) (lv.mono (by decide)) rfl x.g__law_generator x.d__law_generator.kp (b__law_generator x) .nil CsD.nil tk (af_cons (pf_var (pv 0)) (af_cons pf_int af_nil))) (af_cons (pf_bin op_powW ok_gPow pf_int pf_int) af_nil))))
  (sfs_cons (sf_set (i := 2) nd rfl (by first | exact Or.inl rfl | exact Or.inr rfl) (pf_frz (of_lst (af_cons (pf_call (ft__law_placed x) (lv.mono (by decide)) rfl x.g__law_placed x.d__law_placed.kp (b__law_placed x) .nil CsD.nil tk (af_cons (pf_var (pv 1)) af_nil)) (af_cons (pf_call (ft__law_named x) (lv.mono (by decide)) rfl x.g__law_named x.d__law_named.kp (b__law_named x) .nil CsD.nil tk (af_cons pf_str af_nil)) af_nil)))))
  (sfs_cons (sf_for (b := (.one 3)) po rfl (if_seq (pf_frz (of_lst (af_cons (pf_var (pv 1)) (af_cons (pf_bin op_sub ok_gSub pf_int (pf_var (pv 1))) (af_cons (pf_tup (af_cons pf_int (af_cons pf_int af_nil))) (af_cons (pf_tup af_nil) (af_cons (pf_cell (of_lst (af_cons pf_int af_nil))) (af_cons (pf_cell (of_lst af_nil)) (af_cons (pf_cell of_dict0) (af_cons (pf_cell (of_disp (df_cons pf_str (pf_frz (of_lst (af_cons (pf_var (pv 1)) af_nil))) df_nil))) (af_cons pf_str (af_cons pf_str (af_cons pf_bl (af_cons pf_non (af_cons (pf_tup (af_cons pf_str (af_cons pf_int af_nil))) af_nil)))))))))))))))) (pg_name nd rfl (by first | exact Or.inl rfl | exact Or.inr rfl)) (sfs_melt (sfs_cons (sf_par (i := 4) (j := 5) rfl nd rfl rfl (by decide) rfl rfl (af_cons (pf_call (ft__law_placed x) (lv.mono (by decide)) rfl x.g__law_placed x.d__law_placed.kp (b__law_placed x) .nil CsD.nil tk (af_cons (pf_var (pv 3)) af_nil)) (af_cons (pf_call (ft__law_named x) (lv.mono (by decide)) rfl x.g__law_named x.d__law_named.kp (b__law_named x) .nil CsD.nil tk (af_cons (pf_var (pv 3)) af_nil)) af_nil)) rfl)
  (sfs_cons (sf_if (tf_pw (twf_or (tf_not (tf_val (pf_call (ft__law_right x) (lv.mono (by decide)) rfl x.g__law_right x.d__law_right.kp (b__law_right x) .nil CsD.nil tk (af_cons (pf_var (pv 4)) (af_cons (pf_var (pv 3)) af_nil))))) (twf_or1 (tf_not (tf_val (pf_call (ft__law_right x) (lv.mono (by decide)) rfl x.g__law_right x.d__law_right.kp (b__law_right x) .nil CsD.nil tk (af_cons (pf_var (pv 5)) (af_cons (pf_var (pv 3)) af_nil)))))))) (sfs_one (sf_ret pf_bl)) sfs_nil)
  (sfs_cons (sf_if (tf_val (pf_callB call_isi2 (ok_gIsi (c := (.ty "list")) x.is_list) rfl x.n_isinstance PyProof.Rows.Boot.«isinstance» (af_cons (pf_var (pv 3)) (af_cons (pf_tyName rfl x.n_list PyProof.Rows.Boot.«list») af_nil)))) (sfs_one (sf_app (i := 3) (pv 3) pf_str)) sfs_nil)
  (sfs_cons (sf_if (tf_val (pf_callB call_isi2 (ok_gIsi (c := (.ty "dict")) x.is_dict) rfl x.n_isinstance PyProof.Rows.Boot.«isinstance» (af_cons (pf_var (pv 3)) (af_cons (pf_tyName rfl x.n_dict PyProof.Rows.Boot.«dict») af_nil)))) (sfs_one (sf_putD lv.room.units (pf_frz (of_lst (af_cons pf_int af_nil))) (pf_var (pv 3)) pf_str)) sfs_nil)
  (sfs_one (sf_if (tf_pw (twf_or (tf_not (tf_val (pf_call (ft__law_right x) (lv.mono (by decide)) rfl x.g__law_right x.d__law_right.kp (b__law_right x) .nil CsD.nil tk (af_cons (pf_var (pv 4)) (af_cons (pf_var (pv 3)) af_nil))))) (twf_or1 (tf_not (tf_val (pf_call (ft__law_right x) (lv.mono (by decide)) rfl x.g__law_right x.d__law_right.kp (b__law_right x) .nil CsD.nil tk (af_cons (pf_var (pv 5)) (af_cons (pf_var (pv 3)) af_nil)))))))) (sfs_one (sf_ret pf_bl)) sfs_nil))))))))
  (sfs_cons (sf_if (tf_pw (twf_or (tf_not (tf_val (pf_call (ft__law_right x) (lv.mono (by decide)) rfl x.g__law_right x.d__law_right.kp (b__law_right x) .nil CsD.nil tk (af_cons (pf_ix (pf_var (pv 2)) pf_int fun _ _ => rfl) (af_cons (pf_var (pv 1)) af_nil))))) (twf_or (tf_not (tf_val (pf_call (ft__law_right x) (lv.mono (by decide)) rfl x.g__law_right x.d__law_right.kp (b__law_right x) .nil CsD.nil tk (af_cons (pf_ix (pf_var (pv 2)) pf_int fun _ _ => rfl) (af_cons pf_str af_nil))))) (twf_or1 (tf_not (tf_val (pf_call (ft__law_right x) (lv.mono (by decide)) rfl x.g__law_right x.d__law_right.kp (b__law_right x) .nil CsD.nil tk (af_cons (pf_call0 (ft__law_bare x) (lv.mono (by decide)) rfl x.g__law_bare x.d__law_bare.kp (b__law_bare x) .nil CsD.nil tk) (af_cons pf_non af_nil))))))))) (sfs_one (sf_ret pf_bl)) sfs_nil)
  (sfs_one (sf_ret (pf_cmp (op_eqD lv.room.units) ok_gEq (pf_call (ft__law_kinds x) (lv.mono (by decide)) rfl x.g__law_kinds x.d__law_kinds.kp (b__law_kinds x) .nil CsD.nil tk (af_cons (pf_exn (mf_own0 (C := "NothingToUndo") x.en_NothingToUndo rfl x.g_NothingToUndo)) af_nil)) (pf_frz (of_lst (af_cons pf_int af_nil))) (nomark _))))))))
theorem fn_law (x : Fx K mg) : FT P0 w K mg base (He.ga K) (5 + 1) (He.fAd K ("law", none)) x.fd_law ["script"] N_law := ft_frm (ft_law x)
end
end HT.Lk01
set_option maxRecDepth 100000
set_option maxHeartbeats 4000000
namespace HT.Lk01
open PySem PySem.Spec L2 HT.C
open PyProof.Rows hiding St
def df__law_bare : He.DefD := ⟨("_law_bare", none), "_law_bare", "_law_bare", defArgs s__law_bare, defBody s__law_bare, defScope s__law_bare, [], []⟩
def df__law_cell : He.DefD := ⟨("_law_cell", none), "_law_cell", "_law_cell", defArgs s__law_cell, defBody s__law_cell, defScope s__law_cell, [], []⟩
def df__law_generator : He.DefD := ⟨("_law_generator", none), "_law_generator", "_law_generator", defArgs s__law_generator, defBody s__law_generator, defScope s__law_generator, [], []⟩
def df__law_kinds : He.DefD := ⟨("_law_kinds", none), "_law_kinds", "_law_kinds", defArgs s__law_kinds, defBody s__law_kinds, defScope s__law_kinds, [], []⟩
def df__law_named : He.DefD := ⟨("_law_named", none), "_law_named", "_law_named", defArgs s__law_named, defBody s__law_named, defScope s__law_named, [], []⟩
def df__law_placed : He.DefD := ⟨("_law_placed", none), "_law_placed", "_law_placed", defArgs s__law_placed, defBody s__law_placed, defScope s__law_placed, [], []⟩
def df__law_hash : He.DefD := ⟨("_law_hash", none), "_law_hash", "_law_hash", defArgs s__law_hash, defBody s__law_hash, defScope s__law_hash, [], []⟩
def df__law_random : He.DefD := ⟨("_law_random", none), "_law_random", "_law_random", defArgs s__law_random, defBody s__law_random, defScope s__law_random, [], []⟩
def df__law_right : He.DefD := ⟨("_law_right", none), "_law_right", "_law_right", defArgs s__law_right, defBody s__law_right, defScope s__law_right, [], []⟩
def df_law : He.DefD := ⟨("law", none), "law", "law", defArgs s_law, defBody s_law, defScope s_law, [], []⟩
def dfs : List He.DefD := [df__law_bare, df__law_cell, df__law_generator, df__law_kinds, df__law_named, df__law_placed, df__law_hash, df__law_random, df__law_right, df_law]
abbrev sx_InvalidItem : Stmt := sub (top 4) 0
abbrev sx_InvalidList : Stmt := sub (top 3) 0
abbrev sx_InvalidName : Stmt := sub (top 13) 0
abbrev sx_InvalidNumber : Stmt := sub (top 2) 0
abbrev sx_InvalidRule : Stmt := sub (top 10) 0
abbrev sx_InvalidShop : Stmt := sub (top 5) 0
abbrev sx_InvalidStore : Stmt := sub (top 8) 0
abbrev sx_InvalidText : Stmt := sub (top 11) 0
abbrev sx_InvalidThing : Stmt := sub (top 6) 0
abbrev sx_InvalidTicks : Stmt := sub (top 7) 0
abbrev sx_InvalidWord : Stmt := sub (top 9) 0
abbrev sx_Missing : Stmt := sub (top 12) 0
abbrev sx_TakenName : Stmt := sub (top 14) 0
abbrev sx_UnknownName : Stmt := sub (top 15) 0
def exs : List ExW := [some (("__init__" : Str), ("InvalidItem.__init__" : Str), defArgs sx_InvalidItem, FuncBody.stmts (defBody sx_InvalidItem), defScope sx_InvalidItem, mainGlobals, builtinsNs), some (("__init__" : Str), ("InvalidList.__init__" : Str), defArgs sx_InvalidList, FuncBody.stmts (defBody sx_InvalidList), defScope sx_InvalidList, mainGlobals, builtinsNs), some (("__init__" : Str), ("InvalidName.__init__" : Str), defArgs sx_InvalidName, FuncBody.stmts (defBody sx_InvalidName), defScope sx_InvalidName, mainGlobals, builtinsNs), some (("__init__" : Str), ("InvalidNumber.__init__" : Str), defArgs sx_InvalidNumber, FuncBody.stmts (defBody sx_InvalidNumber), defScope sx_InvalidNumber, mainGlobals, builtinsNs), some (("__init__" : Str), ("InvalidRule.__init__" : Str), defArgs sx_InvalidRule, FuncBody.stmts (defBody sx_InvalidRule), defScope sx_InvalidRule, mainGlobals, builtinsNs), some (("__init__" : Str), ("InvalidShop.__init__" : Str), defArgs sx_InvalidShop, FuncBody.stmts (defBody sx_InvalidShop), defScope sx_InvalidShop, mainGlobals, builtinsNs), some (("__init__" : Str), ("InvalidStore.__init__" : Str), defArgs sx_InvalidStore, FuncBody.stmts (defBody sx_InvalidStore), defScope sx_InvalidStore, mainGlobals, builtinsNs), some (("__init__" : Str), ("InvalidText.__init__" : Str), defArgs sx_InvalidText, FuncBody.stmts (defBody sx_InvalidText), defScope sx_InvalidText, mainGlobals, builtinsNs), some (("__init__" : Str), ("InvalidThing.__init__" : Str), defArgs sx_InvalidThing, FuncBody.stmts (defBody sx_InvalidThing), defScope sx_InvalidThing, mainGlobals, builtinsNs), some (("__init__" : Str), ("InvalidTicks.__init__" : Str), defArgs sx_InvalidTicks, FuncBody.stmts (defBody sx_InvalidTicks), defScope sx_InvalidTicks, mainGlobals, builtinsNs), some (("__init__" : Str), ("InvalidWord.__init__" : Str), defArgs sx_InvalidWord, FuncBody.stmts (defBody sx_InvalidWord), defScope sx_InvalidWord, mainGlobals, builtinsNs), some (("__init__" : Str), ("Missing.__init__" : Str), defArgs sx_Missing, FuncBody.stmts (defBody sx_Missing), defScope sx_Missing, mainGlobals, builtinsNs), some (("__init__" : Str), ("TakenName.__init__" : Str), defArgs sx_TakenName, FuncBody.stmts (defBody sx_TakenName), defScope sx_TakenName, mainGlobals, builtinsNs), some (("__init__" : Str), ("UnknownName.__init__" : Str), defArgs sx_UnknownName, FuncBody.stmts (defBody sx_UnknownName), defScope sx_UnknownName, mainGlobals, builtinsNs)]
def fb (K : PySem.W.Frag) : List Bool := [
  (He.Fa.glo "_law_bare").ok K,
  (He.Fa.glo "_law_cell").ok K,
  (He.Fa.glo "_law_generator").ok K,
  (He.Fa.glo "_law_kinds").ok K,
  (He.Fa.glo "_law_named").ok K,
  (He.Fa.glo "_law_placed").ok K,
  (He.Fa.glo "_law_hash").ok K,
  (He.Fa.glo "_law_random").ok K,
  (He.Fa.glo "_law_right").ok K,
  (He.Fa.glo "law").ok K,
  (He.Fa.free "ValueError").ok K,
  (He.Fa.free "dict").ok K,
  (He.Fa.free "int").ok K,
  (He.Fa.free "isinstance").ok K,
  (He.Fa.free "len").ok K,
  (He.Fa.free "list").ok K,
  (He.Fa.free "max").ok K,
  (He.Fa.free "range").ok K,
  (He.Fa.free "repr").ok K,
  (He.Fa.free "super").ok K,
  (He.Fa.glo "InvalidItem").ok K,
  (He.Fa.glo "InvalidList").ok K,
  (He.Fa.glo "InvalidName").ok K,
  (He.Fa.glo "InvalidNumber").ok K,
  (He.Fa.glo "InvalidRule").ok K,
  (He.Fa.glo "InvalidShop").ok K,
  (He.Fa.glo "InvalidStore").ok K,
  (He.Fa.glo "InvalidText").ok K,
  (He.Fa.glo "InvalidThing").ok K,
  (He.Fa.glo "InvalidTicks").ok K,
  (He.Fa.glo "InvalidWord").ok K,
  (He.Fa.glo "Missing").ok K,
  (He.Fa.glo "NothingToUndo").ok K,
  (He.Fa.glo "TakenName").ok K,
  (He.Fa.glo "TickError").ok K,
  (He.Fa.glo "UnknownName").ok K,
  (ty7.all fun n => decide (PySem.W.kitOne K (.type n) (.ref (He.ga K "InvalidItem")) = some false)),
  ((["InvalidItem", "InvalidList", "InvalidName", "InvalidNumber", "InvalidRule", "InvalidShop", "InvalidStore", "InvalidText", "InvalidThing", "InvalidTicks", "InvalidWord", "Missing", "NothingToUndo", "TakenName", "UnknownName"] : List Str).all fun y => excB K (He.ga K y) && decide (PySem.W.kitOne K (.ref (He.ga K y)) (.ref (He.ga K "InvalidItem")) = some ((fun C : Str => decide (C ∈ (["InvalidItem"] : List Str))) y))),
  (ty7.all fun n => decide (PySem.W.kitOne K (.type n) (.ref (He.ga K "InvalidList")) = some false)),
  ((["InvalidItem", "InvalidList", "InvalidName", "InvalidNumber", "InvalidRule", "InvalidShop", "InvalidStore", "InvalidText", "InvalidThing", "InvalidTicks", "InvalidWord", "Missing", "NothingToUndo", "TakenName", "UnknownName"] : List Str).all fun y => excB K (He.ga K y) && decide (PySem.W.kitOne K (.ref (He.ga K y)) (.ref (He.ga K "InvalidList")) = some ((fun C : Str => decide (C ∈ (["InvalidList"] : List Str))) y))),
  (ty7.all fun n => decide (PySem.W.kitOne K (.type n) (.ref (He.ga K "InvalidName")) = some false)),
  ((["InvalidItem", "InvalidList", "InvalidName", "InvalidNumber", "InvalidRule", "InvalidShop", "InvalidStore", "InvalidText", "InvalidThing", "InvalidTicks", "InvalidWord", "Missing", "NothingToUndo", "TakenName", "UnknownName"] : List Str).all fun y => excB K (He.ga K y) && decide (PySem.W.kitOne K (.ref (He.ga K y)) (.ref (He.ga K "InvalidName")) = some ((fun C : Str => decide (C ∈ (["InvalidName"] : List Str))) y))),
  (ty7.all fun n => decide (PySem.W.kitOne K (.type n) (.ref (He.ga K "InvalidNumber")) = some false)),
  ((["InvalidItem", "InvalidList", "InvalidName", "InvalidNumber", "InvalidRule", "InvalidShop", "InvalidStore", "InvalidText", "InvalidThing", "InvalidTicks", "InvalidWord", "Missing", "NothingToUndo", "TakenName", "UnknownName"] : List Str).all fun y => excB K (He.ga K y) && decide (PySem.W.kitOne K (.ref (He.ga K y)) (.ref (He.ga K "InvalidNumber")) = some ((fun C : Str => decide (C ∈ (["InvalidNumber"] : List Str))) y))),
  (ty7.all fun n => decide (PySem.W.kitOne K (.type n) (.ref (He.ga K "InvalidRule")) = some false)),
  ((["InvalidItem", "InvalidList", "InvalidName", "InvalidNumber", "InvalidRule", "InvalidShop", "InvalidStore", "InvalidText", "InvalidThing", "InvalidTicks", "InvalidWord", "Missing", "NothingToUndo", "TakenName", "UnknownName"] : List Str).all fun y => excB K (He.ga K y) && decide (PySem.W.kitOne K (.ref (He.ga K y)) (.ref (He.ga K "InvalidRule")) = some ((fun C : Str => decide (C ∈ (["InvalidRule"] : List Str))) y))),
  (ty7.all fun n => decide (PySem.W.kitOne K (.type n) (.ref (He.ga K "InvalidShop")) = some false)),
  ((["InvalidItem", "InvalidList", "InvalidName", "InvalidNumber", "InvalidRule", "InvalidShop", "InvalidStore", "InvalidText", "InvalidThing", "InvalidTicks", "InvalidWord", "Missing", "NothingToUndo", "TakenName", "UnknownName"] : List Str).all fun y => excB K (He.ga K y) && decide (PySem.W.kitOne K (.ref (He.ga K y)) (.ref (He.ga K "InvalidShop")) = some ((fun C : Str => decide (C ∈ (["InvalidShop"] : List Str))) y))),
  (ty7.all fun n => decide (PySem.W.kitOne K (.type n) (.ref (He.ga K "InvalidStore")) = some false)),
  ((["InvalidItem", "InvalidList", "InvalidName", "InvalidNumber", "InvalidRule", "InvalidShop", "InvalidStore", "InvalidText", "InvalidThing", "InvalidTicks", "InvalidWord", "Missing", "NothingToUndo", "TakenName", "UnknownName"] : List Str).all fun y => excB K (He.ga K y) && decide (PySem.W.kitOne K (.ref (He.ga K y)) (.ref (He.ga K "InvalidStore")) = some ((fun C : Str => decide (C ∈ (["InvalidStore"] : List Str))) y))),
  (ty7.all fun n => decide (PySem.W.kitOne K (.type n) (.ref (He.ga K "InvalidText")) = some false)),
  ((["InvalidItem", "InvalidList", "InvalidName", "InvalidNumber", "InvalidRule", "InvalidShop", "InvalidStore", "InvalidText", "InvalidThing", "InvalidTicks", "InvalidWord", "Missing", "NothingToUndo", "TakenName", "UnknownName"] : List Str).all fun y => excB K (He.ga K y) && decide (PySem.W.kitOne K (.ref (He.ga K y)) (.ref (He.ga K "InvalidText")) = some ((fun C : Str => decide (C ∈ (["InvalidText"] : List Str))) y))),
  (ty7.all fun n => decide (PySem.W.kitOne K (.type n) (.ref (He.ga K "InvalidThing")) = some false)),
  ((["InvalidItem", "InvalidList", "InvalidName", "InvalidNumber", "InvalidRule", "InvalidShop", "InvalidStore", "InvalidText", "InvalidThing", "InvalidTicks", "InvalidWord", "Missing", "NothingToUndo", "TakenName", "UnknownName"] : List Str).all fun y => excB K (He.ga K y) && decide (PySem.W.kitOne K (.ref (He.ga K y)) (.ref (He.ga K "InvalidThing")) = some ((fun C : Str => decide (C ∈ (["InvalidThing"] : List Str))) y))),
  (ty7.all fun n => decide (PySem.W.kitOne K (.type n) (.ref (He.ga K "InvalidTicks")) = some false)),
  ((["InvalidItem", "InvalidList", "InvalidName", "InvalidNumber", "InvalidRule", "InvalidShop", "InvalidStore", "InvalidText", "InvalidThing", "InvalidTicks", "InvalidWord", "Missing", "NothingToUndo", "TakenName", "UnknownName"] : List Str).all fun y => excB K (He.ga K y) && decide (PySem.W.kitOne K (.ref (He.ga K y)) (.ref (He.ga K "InvalidTicks")) = some ((fun C : Str => decide (C ∈ (["InvalidTicks"] : List Str))) y))),
  (ty7.all fun n => decide (PySem.W.kitOne K (.type n) (.ref (He.ga K "InvalidWord")) = some false)),
  ((["InvalidItem", "InvalidList", "InvalidName", "InvalidNumber", "InvalidRule", "InvalidShop", "InvalidStore", "InvalidText", "InvalidThing", "InvalidTicks", "InvalidWord", "Missing", "NothingToUndo", "TakenName", "UnknownName"] : List Str).all fun y => excB K (He.ga K y) && decide (PySem.W.kitOne K (.ref (He.ga K y)) (.ref (He.ga K "InvalidWord")) = some ((fun C : Str => decide (C ∈ (["InvalidWord"] : List Str))) y))),
  (ty7.all fun n => decide (PySem.W.kitOne K (.type n) (.ref (He.ga K "Missing")) = some false)),
  ((["InvalidItem", "InvalidList", "InvalidName", "InvalidNumber", "InvalidRule", "InvalidShop", "InvalidStore", "InvalidText", "InvalidThing", "InvalidTicks", "InvalidWord", "Missing", "NothingToUndo", "TakenName", "UnknownName"] : List Str).all fun y => excB K (He.ga K y) && decide (PySem.W.kitOne K (.ref (He.ga K y)) (.ref (He.ga K "Missing")) = some ((fun C : Str => decide (C ∈ (["Missing"] : List Str))) y))),
  (ty7.all fun n => decide (PySem.W.kitOne K (.type n) (.ref (He.ga K "NothingToUndo")) = some false)),
  ((["InvalidItem", "InvalidList", "InvalidName", "InvalidNumber", "InvalidRule", "InvalidShop", "InvalidStore", "InvalidText", "InvalidThing", "InvalidTicks", "InvalidWord", "Missing", "NothingToUndo", "TakenName", "UnknownName"] : List Str).all fun y => excB K (He.ga K y) && decide (PySem.W.kitOne K (.ref (He.ga K y)) (.ref (He.ga K "NothingToUndo")) = some ((fun C : Str => decide (C ∈ (["NothingToUndo"] : List Str))) y))),
  (ty7.all fun n => decide (PySem.W.kitOne K (.type n) (.ref (He.ga K "TakenName")) = some false)),
  ((["InvalidItem", "InvalidList", "InvalidName", "InvalidNumber", "InvalidRule", "InvalidShop", "InvalidStore", "InvalidText", "InvalidThing", "InvalidTicks", "InvalidWord", "Missing", "NothingToUndo", "TakenName", "UnknownName"] : List Str).all fun y => excB K (He.ga K y) && decide (PySem.W.kitOne K (.ref (He.ga K y)) (.ref (He.ga K "TakenName")) = some ((fun C : Str => decide (C ∈ (["TakenName"] : List Str))) y))),
  (ty7.all fun n => decide (PySem.W.kitOne K (.type n) (.ref (He.ga K "TickError")) = some false)),
  ((["InvalidItem", "InvalidList", "InvalidName", "InvalidNumber", "InvalidRule", "InvalidShop", "InvalidStore", "InvalidText", "InvalidThing", "InvalidTicks", "InvalidWord", "Missing", "NothingToUndo", "TakenName", "UnknownName"] : List Str).all fun y => excB K (He.ga K y) && decide (PySem.W.kitOne K (.ref (He.ga K y)) (.ref (He.ga K "TickError")) = some ((fun C : Str => decide (C ∈ (["InvalidItem", "InvalidList", "InvalidName", "InvalidNumber", "InvalidRule", "InvalidShop", "InvalidStore", "InvalidText", "InvalidThing", "InvalidTicks", "InvalidWord", "Missing", "NothingToUndo", "TakenName", "UnknownName"] : List Str))) y))),
  (ty7.all fun n => decide (PySem.W.kitOne K (.type n) (.ref (He.ga K "UnknownName")) = some false)),
  ((["InvalidItem", "InvalidList", "InvalidName", "InvalidNumber", "InvalidRule", "InvalidShop", "InvalidStore", "InvalidText", "InvalidThing", "InvalidTicks", "InvalidWord", "Missing", "NothingToUndo", "TakenName", "UnknownName"] : List Str).all fun y => excB K (He.ga K y) && decide (PySem.W.kitOne K (.ref (He.ga K y)) (.ref (He.ga K "UnknownName")) = some ((fun C : Str => decide (C ∈ (["UnknownName"] : List Str))) y))),
  (ty7.all fun n => decide (PySem.W.kitOne K (.type n) (.type "ValueError") = some false)),
  ((["InvalidItem", "InvalidList", "InvalidName", "InvalidNumber", "InvalidRule", "InvalidShop", "InvalidStore", "InvalidText", "InvalidThing", "InvalidTicks", "InvalidWord", "Missing", "NothingToUndo", "TakenName", "UnknownName"] : List Str).all fun y => excB K (He.ga K y) && decide (PySem.W.kitOne K (.ref (He.ga K y)) (.type "ValueError") = some ((fun C : Str => decide (C ∈ (["InvalidItem", "InvalidList", "InvalidName", "InvalidNumber", "InvalidRule", "InvalidShop", "InvalidStore", "InvalidText", "InvalidThing", "InvalidTicks", "InvalidWord", "Missing", "NothingToUndo", "TakenName", "UnknownName"] : List Str))) y))),
  (xf_name.all fun y => xfB K (He.ga K y) && He.eqO (PySem.W.findIn K (.ref (He.ga K y)) "name") (some none)),
  (xf_value.all fun y => xfB K (He.ga K y) && He.eqO (PySem.W.findIn K (.ref (He.ga K y)) "value") (some none)),
  exnB K (He.ga K "NothingToUndo"),
  exB P0 K "InvalidItem" "value",
  exB P0 K "InvalidList" "value",
  exB P0 K "InvalidName" "name",
  exB P0 K "InvalidNumber" "value",
  exB P0 K "InvalidRule" "value",
  exB P0 K "InvalidShop" "value",
  exB P0 K "InvalidStore" "value",
  exB P0 K "InvalidText" "value",
  exB P0 K "InvalidThing" "value",
  exB P0 K "InvalidTicks" "value",
  exB P0 K "InvalidWord" "value",
  exB P0 K "Missing" "value",
  exB P0 K "TakenName" "name",
  exB P0 K "UnknownName" "name"]
abbrev AlH : Type := He.AlD × List ExW × Bool
def obsH (K : PySem.W.Frag) : AlH := (He.obsD [] dfs K, [exW K "InvalidItem", exW K "InvalidList", exW K "InvalidName", exW K "InvalidNumber", exW K "InvalidRule", exW K "InvalidShop", exW K "InvalidStore", exW K "InvalidText", exW K "InvalidThing", exW K "InvalidTicks", exW K "InvalidWord", exW K "Missing", exW K "TakenName", exW K "UnknownName"], (fb K).all id)
def valH : AlH := (He.valD dfs, exs, true)
theorem facts {K : PySem.W.Frag} {h : Heap} {mg : Str → Option Value} (X : K.In h) (G : h.Ns mainGlobals mg) (c : obsH K = valH) : Nonempty (Fx K mg) := by
  have cd : He.SaysD [] dfs K := congrArg (fun z : AlH => z.1) c
  have ce : [exW K "InvalidItem", exW K "InvalidList", exW K "InvalidName", exW K "InvalidNumber", exW K "InvalidRule", exW K "InvalidShop", exW K "InvalidStore", exW K "InvalidText", exW K "InvalidThing", exW K "InvalidTicks", exW K "InvalidWord", exW K "Missing", exW K "TakenName", exW K "UnknownName"] = exs := congrArg (fun z : AlH => z.2.1) c
  have hb : (fb K).all id = true := congrArg (fun z : AlH => z.2.2) c
  obtain ⟨fd__law_bare, D__law_bare⟩ := cd.def_ 0 (d := df__law_bare) rfl
  obtain ⟨fd__law_cell, D__law_cell⟩ := cd.def_ 1 (d := df__law_cell) rfl
  obtain ⟨fd__law_generator, D__law_generator⟩ := cd.def_ 2 (d := df__law_generator) rfl
  obtain ⟨fd__law_kinds, D__law_kinds⟩ := cd.def_ 3 (d := df__law_kinds) rfl
  obtain ⟨fd__law_named, D__law_named⟩ := cd.def_ 4 (d := df__law_named) rfl
  obtain ⟨fd__law_placed, D__law_placed⟩ := cd.def_ 5 (d := df__law_placed) rfl
  obtain ⟨fd__law_hash, D__law_hash⟩ := cd.def_ 6 (d := df__law_hash) rfl
  obtain ⟨fd__law_random, D__law_random⟩ := cd.def_ 7 (d := df__law_random) rfl
  obtain ⟨fd__law_right, D__law_right⟩ := cd.def_ 8 (d := df__law_right) rfl
  obtain ⟨fd_law, D_law⟩ := cd.def_ 9 (d := df_law) rfl
  have w_InvalidItem : exW K "InvalidItem" = some (("__init__" : Str), ("InvalidItem.__init__" : Str), defArgs sx_InvalidItem, FuncBody.stmts (defBody sx_InvalidItem), defScope sx_InvalidItem, mainGlobals, builtinsNs) := Option.some.inj (congrArg (fun l : List ExW => l[0]?) ce)
  obtain ⟨fx_InvalidItem, X_InvalidItem, Y_InvalidItem⟩ := exB_ok (nthB hb 73 rfl) w_InvalidItem rfl ⟨_, rfl, rfl⟩ rfl rfl rfl rfl rfl (by decide +kernel) rfl rfl ⟨_, fun env => rfl⟩
  have w_InvalidList : exW K "InvalidList" = some (("__init__" : Str), ("InvalidList.__init__" : Str), defArgs sx_InvalidList, FuncBody.stmts (defBody sx_InvalidList), defScope sx_InvalidList, mainGlobals, builtinsNs) := Option.some.inj (congrArg (fun l : List ExW => l[1]?) ce)
  obtain ⟨fx_InvalidList, X_InvalidList, Y_InvalidList⟩ := exB_ok (nthB hb 74 rfl) w_InvalidList rfl ⟨_, rfl, rfl⟩ rfl rfl rfl rfl rfl (by decide +kernel) rfl rfl ⟨_, fun env => rfl⟩
  have w_InvalidName : exW K "InvalidName" = some (("__init__" : Str), ("InvalidName.__init__" : Str), defArgs sx_InvalidName, FuncBody.stmts (defBody sx_InvalidName), defScope sx_InvalidName, mainGlobals, builtinsNs) := Option.some.inj (congrArg (fun l : List ExW => l[2]?) ce)
  obtain ⟨fx_InvalidName, X_InvalidName, Y_InvalidName⟩ := exB_ok (nthB hb 75 rfl) w_InvalidName rfl ⟨_, rfl, rfl⟩ rfl rfl rfl rfl rfl (by decide +kernel) rfl rfl ⟨_, fun env => rfl⟩
  have w_InvalidNumber : exW K "InvalidNumber" = some (("__init__" : Str), ("InvalidNumber.__init__" : Str), defArgs sx_InvalidNumber, FuncBody.stmts (defBody sx_InvalidNumber), defScope sx_InvalidNumber, mainGlobals, builtinsNs) := Option.some.inj (congrArg (fun l : List ExW => l[3]?) ce)
  obtain ⟨fx_InvalidNumber, X_InvalidNumber, Y_InvalidNumber⟩ := exB_ok (nthB hb 76 rfl) w_InvalidNumber rfl ⟨_, rfl, rfl⟩ rfl rfl rfl rfl rfl (by decide +kernel) rfl rfl ⟨_, fun env => rfl⟩
  have w_InvalidRule : exW K "InvalidRule" = some (("__init__" : Str), ("InvalidRule.__init__" : Str), defArgs sx_InvalidRule, FuncBody.stmts (defBody sx_InvalidRule), defScope sx_InvalidRule, mainGlobals, builtinsNs) := Option.some.inj (congrArg (fun l : List ExW => l[4]?) ce)
  obtain ⟨fx_InvalidRule, X_InvalidRule, Y_InvalidRule⟩ := exB_ok (nthB hb 77 rfl) w_InvalidRule rfl ⟨_, rfl, rfl⟩ rfl rfl rfl rfl rfl (by decide +kernel) rfl rfl ⟨_, fun env => rfl⟩
  have w_InvalidShop : exW K "InvalidShop" = some (("__init__" : Str), ("InvalidShop.__init__" : Str), defArgs sx_InvalidShop, FuncBody.stmts (defBody sx_InvalidShop), defScope sx_InvalidShop, mainGlobals, builtinsNs) := Option.some.inj (congrArg (fun l : List ExW => l[5]?) ce)
  obtain ⟨fx_InvalidShop, X_InvalidShop, Y_InvalidShop⟩ := exB_ok (nthB hb 78 rfl) w_InvalidShop rfl ⟨_, rfl, rfl⟩ rfl rfl rfl rfl rfl (by decide +kernel) rfl rfl ⟨_, fun env => rfl⟩
  have w_InvalidStore : exW K "InvalidStore" = some (("__init__" : Str), ("InvalidStore.__init__" : Str), defArgs sx_InvalidStore, FuncBody.stmts (defBody sx_InvalidStore), defScope sx_InvalidStore, mainGlobals, builtinsNs) := Option.some.inj (congrArg (fun l : List ExW => l[6]?) ce)
  obtain ⟨fx_InvalidStore, X_InvalidStore, Y_InvalidStore⟩ := exB_ok (nthB hb 79 rfl) w_InvalidStore rfl ⟨_, rfl, rfl⟩ rfl rfl rfl rfl rfl (by decide +kernel) rfl rfl ⟨_, fun env => rfl⟩
  have w_InvalidText : exW K "InvalidText" = some (("__init__" : Str), ("InvalidText.__init__" : Str), defArgs sx_InvalidText, FuncBody.stmts (defBody sx_InvalidText), defScope sx_InvalidText, mainGlobals, builtinsNs) := Option.some.inj (congrArg (fun l : List ExW => l[7]?) ce)
  obtain ⟨fx_InvalidText, X_InvalidText, Y_InvalidText⟩ := exB_ok (nthB hb 80 rfl) w_InvalidText rfl ⟨_, rfl, rfl⟩ rfl rfl rfl rfl rfl (by decide +kernel) rfl rfl ⟨_, fun env => rfl⟩
  have w_InvalidThing : exW K "InvalidThing" = some (("__init__" : Str), ("InvalidThing.__init__" : Str), defArgs sx_InvalidThing, FuncBody.stmts (defBody sx_InvalidThing), defScope sx_InvalidThing, mainGlobals, builtinsNs) := Option.some.inj (congrArg (fun l : List ExW => l[8]?) ce)
  obtain ⟨fx_InvalidThing, X_InvalidThing, Y_InvalidThing⟩ := exB_ok (nthB hb 81 rfl) w_InvalidThing rfl ⟨_, rfl, rfl⟩ rfl rfl rfl rfl rfl (by decide +kernel) rfl rfl ⟨_, fun env => rfl⟩
  have w_InvalidTicks : exW K "InvalidTicks" = some (("__init__" : Str), ("InvalidTicks.__init__" : Str), defArgs sx_InvalidTicks, FuncBody.stmts (defBody sx_InvalidTicks), defScope sx_InvalidTicks, mainGlobals, builtinsNs) := Option.some.inj (congrArg (fun l : List ExW => l[9]?) ce)
  obtain ⟨fx_InvalidTicks, X_InvalidTicks, Y_InvalidTicks⟩ := exB_ok (nthB hb 82 rfl) w_InvalidTicks rfl ⟨_, rfl, rfl⟩ rfl rfl rfl rfl rfl (by decide +kernel) rfl rfl ⟨_, fun env => rfl⟩
  have w_InvalidWord : exW K "InvalidWord" = some (("__init__" : Str), ("InvalidWord.__init__" : Str), defArgs sx_InvalidWord, FuncBody.stmts (defBody sx_InvalidWord), defScope sx_InvalidWord, mainGlobals, builtinsNs) := Option.some.inj (congrArg (fun l : List ExW => l[10]?) ce)
  obtain ⟨fx_InvalidWord, X_InvalidWord, Y_InvalidWord⟩ := exB_ok (nthB hb 83 rfl) w_InvalidWord rfl ⟨_, rfl, rfl⟩ rfl rfl rfl rfl rfl (by decide +kernel) rfl rfl ⟨_, fun env => rfl⟩
  have w_Missing : exW K "Missing" = some (("__init__" : Str), ("Missing.__init__" : Str), defArgs sx_Missing, FuncBody.stmts (defBody sx_Missing), defScope sx_Missing, mainGlobals, builtinsNs) := Option.some.inj (congrArg (fun l : List ExW => l[11]?) ce)
  obtain ⟨fx_Missing, X_Missing, Y_Missing⟩ := exB_ok (nthB hb 84 rfl) w_Missing rfl ⟨_, rfl, rfl⟩ rfl rfl rfl rfl rfl (by decide +kernel) rfl rfl ⟨_, fun env => rfl⟩
  have w_TakenName : exW K "TakenName" = some (("__init__" : Str), ("TakenName.__init__" : Str), defArgs sx_TakenName, FuncBody.stmts (defBody sx_TakenName), defScope sx_TakenName, mainGlobals, builtinsNs) := Option.some.inj (congrArg (fun l : List ExW => l[12]?) ce)
  obtain ⟨fx_TakenName, X_TakenName, Y_TakenName⟩ := exB_ok (nthB hb 85 rfl) w_TakenName rfl ⟨_, rfl, rfl⟩ rfl rfl rfl rfl rfl (by decide +kernel) rfl rfl ⟨_, fun env => rfl⟩
  have w_UnknownName : exW K "UnknownName" = some (("__init__" : Str), ("UnknownName.__init__" : Str), defArgs sx_UnknownName, FuncBody.stmts (defBody sx_UnknownName), defScope sx_UnknownName, mainGlobals, builtinsNs) := Option.some.inj (congrArg (fun l : List ExW => l[13]?) ce)
  obtain ⟨fx_UnknownName, X_UnknownName, Y_UnknownName⟩ := exB_ok (nthB hb 86 rfl) w_UnknownName rfl ⟨_, rfl, rfl⟩ rfl rfl rfl rfl rfl (by decide +kernel) rfl rfl ⟨_, fun env => rfl⟩
  exact ⟨{
    fd__law_bare := fd__law_bare, d__law_bare := D__law_bare,
    g__law_bare := He.glo_ok X G (nthB hb 0 rfl),
    fd__law_cell := fd__law_cell, d__law_cell := D__law_cell,
    g__law_cell := He.glo_ok X G (nthB hb 1 rfl),
    fd__law_generator := fd__law_generator, d__law_generator := D__law_generator,
    g__law_generator := He.glo_ok X G (nthB hb 2 rfl),
    fd__law_kinds := fd__law_kinds, d__law_kinds := D__law_kinds,
    g__law_kinds := He.glo_ok X G (nthB hb 3 rfl),
    fd__law_named := fd__law_named, d__law_named := D__law_named,
    g__law_named := He.glo_ok X G (nthB hb 4 rfl),
    fd__law_placed := fd__law_placed, d__law_placed := D__law_placed,
    g__law_placed := He.glo_ok X G (nthB hb 5 rfl),
    fd__law_hash := fd__law_hash, d__law_hash := D__law_hash,
    g__law_hash := He.glo_ok X G (nthB hb 6 rfl),
    fd__law_random := fd__law_random, d__law_random := D__law_random,
    g__law_random := He.glo_ok X G (nthB hb 7 rfl),
    fd__law_right := fd__law_right, d__law_right := D__law_right,
    g__law_right := He.glo_ok X G (nthB hb 8 rfl),
    fd_law := fd_law, d_law := D_law,
    g_law := He.glo_ok X G (nthB hb 9 rfl),
    n_ValueError := He.free_ok X G (nthB hb 10 rfl),
    n_dict := He.free_ok X G (nthB hb 11 rfl),
    n_int := He.free_ok X G (nthB hb 12 rfl),
    n_isinstance := He.free_ok X G (nthB hb 13 rfl),
    n_len := He.free_ok X G (nthB hb 14 rfl),
    n_list := He.free_ok X G (nthB hb 15 rfl),
    n_max := He.free_ok X G (nthB hb 16 rfl),
    n_range := He.free_ok X G (nthB hb 17 rfl),
    n_repr := He.free_ok X G (nthB hb 18 rfl),
    n_super := He.free_ok X G (nthB hb 19 rfl),
    g_InvalidItem := He.glo_ok X G (nthB hb 20 rfl),
    g_InvalidList := He.glo_ok X G (nthB hb 21 rfl),
    g_InvalidName := He.glo_ok X G (nthB hb 22 rfl),
    g_InvalidNumber := He.glo_ok X G (nthB hb 23 rfl),
    g_InvalidRule := He.glo_ok X G (nthB hb 24 rfl),
    g_InvalidShop := He.glo_ok X G (nthB hb 25 rfl),
    g_InvalidStore := He.glo_ok X G (nthB hb 26 rfl),
    g_InvalidText := He.glo_ok X G (nthB hb 27 rfl),
    g_InvalidThing := He.glo_ok X G (nthB hb 28 rfl),
    g_InvalidTicks := He.glo_ok X G (nthB hb 29 rfl),
    g_InvalidWord := He.glo_ok X G (nthB hb 30 rfl),
    g_Missing := He.glo_ok X G (nthB hb 31 rfl),
    g_NothingToUndo := He.glo_ok X G (nthB hb 32 rfl),
    g_TakenName := He.glo_ok X G (nthB hb 33 rfl),
    g_TickError := He.glo_ok X G (nthB hb 34 rfl),
    g_UnknownName := He.glo_ok X G (nthB hb 35 rfl),
    is_InvalidItem := isTb_up (T := He.ga K) (cs := ["InvalidItem", "InvalidList", "InvalidName", "InvalidNumber", "InvalidRule", "InvalidShop", "InvalidStore", "InvalidText", "InvalidThing", "InvalidTicks", "InvalidWord", "Missing", "NothingToUndo", "TakenName", "UnknownName"]) (tb := (fun C : Str => decide (C ∈ (["InvalidItem"] : List Str)))) (nthB hb 36 rfl) (fun C hC => (nthB hb 37 rfl) |> fun h => List.all_eq_true.mp h C hC),
    is_InvalidList := isTb_up (T := He.ga K) (cs := ["InvalidItem", "InvalidList", "InvalidName", "InvalidNumber", "InvalidRule", "InvalidShop", "InvalidStore", "InvalidText", "InvalidThing", "InvalidTicks", "InvalidWord", "Missing", "NothingToUndo", "TakenName", "UnknownName"]) (tb := (fun C : Str => decide (C ∈ (["InvalidList"] : List Str)))) (nthB hb 38 rfl) (fun C hC => (nthB hb 39 rfl) |> fun h => List.all_eq_true.mp h C hC),
    is_InvalidName := isTb_up (T := He.ga K) (cs := ["InvalidItem", "InvalidList", "InvalidName", "InvalidNumber", "InvalidRule", "InvalidShop", "InvalidStore", "InvalidText", "InvalidThing", "InvalidTicks", "InvalidWord", "Missing", "NothingToUndo", "TakenName", "UnknownName"]) (tb := (fun C : Str => decide (C ∈ (["InvalidName"] : List Str)))) (nthB hb 40 rfl) (fun C hC => (nthB hb 41 rfl) |> fun h => List.all_eq_true.mp h C hC),
    is_InvalidNumber := isTb_up (T := He.ga K) (cs := ["InvalidItem", "InvalidList", "InvalidName", "InvalidNumber", "InvalidRule", "InvalidShop", "InvalidStore", "InvalidText", "InvalidThing", "InvalidTicks", "InvalidWord", "Missing", "NothingToUndo", "TakenName", "UnknownName"]) (tb := (fun C : Str => decide (C ∈ (["InvalidNumber"] : List Str)))) (nthB hb 42 rfl) (fun C hC => (nthB hb 43 rfl) |> fun h => List.all_eq_true.mp h C hC),
    is_InvalidRule := isTb_up (T := He.ga K) (cs := ["InvalidItem", "InvalidList", "InvalidName", "InvalidNumber", "InvalidRule", "InvalidShop", "InvalidStore", "InvalidText", "InvalidThing", "InvalidTicks", "InvalidWord", "Missing", "NothingToUndo", "TakenName", "UnknownName"]) (tb := (fun C : Str => decide (C ∈ (["InvalidRule"] : List Str)))) (nthB hb 44 rfl) (fun C hC => (nthB hb 45 rfl) |> fun h => List.all_eq_true.mp h C hC),
    is_InvalidShop := isTb_up (T := He.ga K) (cs := ["InvalidItem", "InvalidList", "InvalidName", "InvalidNumber", "InvalidRule", "InvalidShop", "InvalidStore", "InvalidText", "InvalidThing", "InvalidTicks", "InvalidWord", "Missing", "NothingToUndo", "TakenName", "UnknownName"]) (tb := (fun C : Str => decide (C ∈ (["InvalidShop"] : List Str)))) (nthB hb 46 rfl) (fun C hC => (nthB hb 47 rfl) |> fun h => List.all_eq_true.mp h C hC),
    is_InvalidStore := isTb_up (T := He.ga K) (cs := ["InvalidItem", "InvalidList", "InvalidName", "InvalidNumber", "InvalidRule", "InvalidShop", "InvalidStore", "InvalidText", "InvalidThing", "InvalidTicks", "InvalidWord", "Missing", "NothingToUndo", "TakenName", "UnknownName"]) (tb := (fun C : Str => decide (C ∈ (["InvalidStore"] : List Str)))) (nthB hb 48 rfl) (fun C hC => (nthB hb 49 rfl) |> fun h => List.all_eq_true.mp h C hC),
    is_InvalidText := isTb_up (T := He.ga K) (cs := ["InvalidItem", "InvalidList", "InvalidName", "InvalidNumber", "InvalidRule", "InvalidShop", "InvalidStore", "InvalidText", "InvalidThing", "InvalidTicks", "InvalidWord", "Missing", "NothingToUndo", "TakenName", "UnknownName"]) (tb := (fun C : Str => decide (C ∈ (["InvalidText"] : List Str)))) (nthB hb 50 rfl) (fun C hC => (nthB hb 51 rfl) |> fun h => List.all_eq_true.mp h C hC),
    is_InvalidThing := isTb_up (T := He.ga K) (cs := ["InvalidItem", "InvalidList", "InvalidName", "InvalidNumber", "InvalidRule", "InvalidShop", "InvalidStore", "InvalidText", "InvalidThing", "InvalidTicks", "InvalidWord", "Missing", "NothingToUndo", "TakenName", "UnknownName"]) (tb := (fun C : Str => decide (C ∈ (["InvalidThing"] : List Str)))) (nthB hb 52 rfl) (fun C hC => (nthB hb 53 rfl) |> fun h => List.all_eq_true.mp h C hC),
    is_InvalidTicks := isTb_up (T := He.ga K) (cs := ["InvalidItem", "InvalidList", "InvalidName", "InvalidNumber", "InvalidRule", "InvalidShop", "InvalidStore", "InvalidText", "InvalidThing", "InvalidTicks", "InvalidWord", "Missing", "NothingToUndo", "TakenName", "UnknownName"]) (tb := (fun C : Str => decide (C ∈ (["InvalidTicks"] : List Str)))) (nthB hb 54 rfl) (fun C hC => (nthB hb 55 rfl) |> fun h => List.all_eq_true.mp h C hC),
    is_InvalidWord := isTb_up (T := He.ga K) (cs := ["InvalidItem", "InvalidList", "InvalidName", "InvalidNumber", "InvalidRule", "InvalidShop", "InvalidStore", "InvalidText", "InvalidThing", "InvalidTicks", "InvalidWord", "Missing", "NothingToUndo", "TakenName", "UnknownName"]) (tb := (fun C : Str => decide (C ∈ (["InvalidWord"] : List Str)))) (nthB hb 56 rfl) (fun C hC => (nthB hb 57 rfl) |> fun h => List.all_eq_true.mp h C hC),
    is_Missing := isTb_up (T := He.ga K) (cs := ["InvalidItem", "InvalidList", "InvalidName", "InvalidNumber", "InvalidRule", "InvalidShop", "InvalidStore", "InvalidText", "InvalidThing", "InvalidTicks", "InvalidWord", "Missing", "NothingToUndo", "TakenName", "UnknownName"]) (tb := (fun C : Str => decide (C ∈ (["Missing"] : List Str)))) (nthB hb 58 rfl) (fun C hC => (nthB hb 59 rfl) |> fun h => List.all_eq_true.mp h C hC),
    is_NothingToUndo := isTb_up (T := He.ga K) (cs := ["InvalidItem", "InvalidList", "InvalidName", "InvalidNumber", "InvalidRule", "InvalidShop", "InvalidStore", "InvalidText", "InvalidThing", "InvalidTicks", "InvalidWord", "Missing", "NothingToUndo", "TakenName", "UnknownName"]) (tb := (fun C : Str => decide (C ∈ (["NothingToUndo"] : List Str)))) (nthB hb 60 rfl) (fun C hC => (nthB hb 61 rfl) |> fun h => List.all_eq_true.mp h C hC),
    is_TakenName := isTb_up (T := He.ga K) (cs := ["InvalidItem", "InvalidList", "InvalidName", "InvalidNumber", "InvalidRule", "InvalidShop", "InvalidStore", "InvalidText", "InvalidThing", "InvalidTicks", "InvalidWord", "Missing", "NothingToUndo", "TakenName", "UnknownName"]) (tb := (fun C : Str => decide (C ∈ (["TakenName"] : List Str)))) (nthB hb 62 rfl) (fun C hC => (nthB hb 63 rfl) |> fun h => List.all_eq_true.mp h C hC),
    is_TickError := isTb_up (T := He.ga K) (cs := ["InvalidItem", "InvalidList", "InvalidName", "InvalidNumber", "InvalidRule", "InvalidShop", "InvalidStore", "InvalidText", "InvalidThing", "InvalidTicks", "InvalidWord", "Missing", "NothingToUndo", "TakenName", "UnknownName"]) (tb := (fun C : Str => decide (C ∈ (["InvalidItem", "InvalidList", "InvalidName", "InvalidNumber", "InvalidRule", "InvalidShop", "InvalidStore", "InvalidText", "InvalidThing", "InvalidTicks", "InvalidWord", "Missing", "NothingToUndo", "TakenName", "UnknownName"] : List Str)))) (nthB hb 64 rfl) (fun C hC => (nthB hb 65 rfl) |> fun h => List.all_eq_true.mp h C hC),
    is_UnknownName := isTb_up (T := He.ga K) (cs := ["InvalidItem", "InvalidList", "InvalidName", "InvalidNumber", "InvalidRule", "InvalidShop", "InvalidStore", "InvalidText", "InvalidThing", "InvalidTicks", "InvalidWord", "Missing", "NothingToUndo", "TakenName", "UnknownName"]) (tb := (fun C : Str => decide (C ∈ (["UnknownName"] : List Str)))) (nthB hb 66 rfl) (fun C hC => (nthB hb 67 rfl) |> fun h => List.all_eq_true.mp h C hC),
    is_ValueError := isTb_up (T := He.ga K) (cs := ["InvalidItem", "InvalidList", "InvalidName", "InvalidNumber", "InvalidRule", "InvalidShop", "InvalidStore", "InvalidText", "InvalidThing", "InvalidTicks", "InvalidWord", "Missing", "NothingToUndo", "TakenName", "UnknownName"]) (tb := (fun C : Str => decide (C ∈ (["InvalidItem", "InvalidList", "InvalidName", "InvalidNumber", "InvalidRule", "InvalidShop", "InvalidStore", "InvalidText", "InvalidThing", "InvalidTicks", "InvalidWord", "Missing", "NothingToUndo", "TakenName", "UnknownName"] : List Str)))) (nthB hb 68 rfl) (fun C hC => (nthB hb 69 rfl) |> fun h => List.all_eq_true.mp h C hC),
    is_dict := ⟨(fun n r h => kit_ty h), (fun C r h => nomatch h), (fun C r h => nomatch h)⟩,
    is_list := ⟨(fun n r h => kit_ty h), (fun C r h => nomatch h), (fun C r h => nomatch h)⟩,
    xf_name := fun C hC => (fun h => (He.ba h).imp xfB_ok He.eqO_ok) (List.all_eq_true.mp (nthB hb 70 rfl) C hC),
    xf_value := fun C hC => (fun h => (He.ba h).imp xfB_ok He.eqO_ok) (List.all_eq_true.mp (nthB hb 71 rfl) C hC),
    en_NothingToUndo := exnB_ok (nthB hb 72 rfl),
    bd_InvalidItem := (by
      obtain ⟨_, _, _, _, _, _, _, _, hD, e⟩ := Y_InvalidItem
      refine bd_all hD fun t us its et hu hi => ?_
      rw [e, et]
      exact match us, hu, its, hi with | [_], _, [_], _ => ⟨_, rfl, rfl⟩),
    kb_InvalidItem := (by
      obtain ⟨_, _, _, _, _, _, _, _, hD, e⟩ := Y_InvalidItem
      refine kb_all hD fun t self u its et hi => ?_
      rw [e, et]
      exact match its, hi with | [_], _ => ⟨_, rfl, rfl⟩),
    bd_InvalidList := (by
      obtain ⟨_, _, _, _, _, _, _, _, hD, e⟩ := Y_InvalidList
      refine bd_all hD fun t us its et hu hi => ?_
      rw [e, et]
      exact match us, hu, its, hi with | [_], _, [_], _ => ⟨_, rfl, rfl⟩),
    kb_InvalidList := (by
      obtain ⟨_, _, _, _, _, _, _, _, hD, e⟩ := Y_InvalidList
      refine kb_all hD fun t self u its et hi => ?_
      rw [e, et]
      exact match its, hi with | [_], _ => ⟨_, rfl, rfl⟩),
    bd_InvalidName := (by
      obtain ⟨_, _, _, _, _, _, _, _, hD, e⟩ := Y_InvalidName
      refine bd_all hD fun t us its et hu hi => ?_
      rw [e, et]
      exact match us, hu, its, hi with | [_], _, [_], _ => ⟨_, rfl, rfl⟩),
    kb_InvalidName := (by
      obtain ⟨_, _, _, _, _, _, _, _, hD, e⟩ := Y_InvalidName
      refine kb_all hD fun t self u its et hi => ?_
      rw [e, et]
      exact match its, hi with | [_], _ => ⟨_, rfl, rfl⟩),
    bd_InvalidNumber := (by
      obtain ⟨_, _, _, _, _, _, _, _, hD, e⟩ := Y_InvalidNumber
      refine bd_all hD fun t us its et hu hi => ?_
      rw [e, et]
      exact match us, hu, its, hi with | [_], _, [_], _ => ⟨_, rfl, rfl⟩),
    kb_InvalidNumber := (by
      obtain ⟨_, _, _, _, _, _, _, _, hD, e⟩ := Y_InvalidNumber
      refine kb_all hD fun t self u its et hi => ?_
      rw [e, et]
      exact match its, hi with | [_], _ => ⟨_, rfl, rfl⟩),
    bd_InvalidRule := (by
      obtain ⟨_, _, _, _, _, _, _, _, hD, e⟩ := Y_InvalidRule
      refine bd_all hD fun t us its et hu hi => ?_
      rw [e, et]
      exact match us, hu, its, hi with | [_], _, [_], _ => ⟨_, rfl, rfl⟩),
    kb_InvalidRule := (by
      obtain ⟨_, _, _, _, _, _, _, _, hD, e⟩ := Y_InvalidRule
      refine kb_all hD fun t self u its et hi => ?_
      rw [e, et]
      exact match its, hi with | [_], _ => ⟨_, rfl, rfl⟩),
    bd_InvalidShop := (by
      obtain ⟨_, _, _, _, _, _, _, _, hD, e⟩ := Y_InvalidShop
      refine bd_all hD fun t us its et hu hi => ?_
      rw [e, et]
      exact match us, hu, its, hi with | [_], _, [_], _ => ⟨_, rfl, rfl⟩),
    kb_InvalidShop := (by
      obtain ⟨_, _, _, _, _, _, _, _, hD, e⟩ := Y_InvalidShop
      refine kb_all hD fun t self u its et hi => ?_
      rw [e, et]
      exact match its, hi with | [_], _ => ⟨_, rfl, rfl⟩),
    bd_InvalidStore := (by
      obtain ⟨_, _, _, _, _, _, _, _, hD, e⟩ := Y_InvalidStore
      refine bd_all hD fun t us its et hu hi => ?_
      rw [e, et]
      exact match us, hu, its, hi with | [_], _, [_], _ => ⟨_, rfl, rfl⟩),
    kb_InvalidStore := (by
      obtain ⟨_, _, _, _, _, _, _, _, hD, e⟩ := Y_InvalidStore
      refine kb_all hD fun t self u its et hi => ?_
      rw [e, et]
      exact match its, hi with | [_], _ => ⟨_, rfl, rfl⟩),
    bd_InvalidText := (by
      obtain ⟨_, _, _, _, _, _, _, _, hD, e⟩ := Y_InvalidText
      refine bd_all hD fun t us its et hu hi => ?_
      rw [e, et]
      exact match us, hu, its, hi with | [_], _, [_], _ => ⟨_, rfl, rfl⟩),
    kb_InvalidText := (by
      obtain ⟨_, _, _, _, _, _, _, _, hD, e⟩ := Y_InvalidText
      refine kb_all hD fun t self u its et hi => ?_
      rw [e, et]
      exact match its, hi with | [_], _ => ⟨_, rfl, rfl⟩),
    bd_InvalidThing := (by
      obtain ⟨_, _, _, _, _, _, _, _, hD, e⟩ := Y_InvalidThing
      refine bd_all hD fun t us its et hu hi => ?_
      rw [e, et]
      exact match us, hu, its, hi with | [_], _, [_], _ => ⟨_, rfl, rfl⟩),
    kb_InvalidThing := (by
      obtain ⟨_, _, _, _, _, _, _, _, hD, e⟩ := Y_InvalidThing
      refine kb_all hD fun t self u its et hi => ?_
      rw [e, et]
      exact match its, hi with | [_], _ => ⟨_, rfl, rfl⟩),
    bd_InvalidTicks := (by
      obtain ⟨_, _, _, _, _, _, _, _, hD, e⟩ := Y_InvalidTicks
      refine bd_all hD fun t us its et hu hi => ?_
      rw [e, et]
      exact match us, hu, its, hi with | [_], _, [_], _ => ⟨_, rfl, rfl⟩),
    kb_InvalidTicks := (by
      obtain ⟨_, _, _, _, _, _, _, _, hD, e⟩ := Y_InvalidTicks
      refine kb_all hD fun t self u its et hi => ?_
      rw [e, et]
      exact match its, hi with | [_], _ => ⟨_, rfl, rfl⟩),
    bd_InvalidWord := (by
      obtain ⟨_, _, _, _, _, _, _, _, hD, e⟩ := Y_InvalidWord
      refine bd_all hD fun t us its et hu hi => ?_
      rw [e, et]
      exact match us, hu, its, hi with | [_], _, [_], _ => ⟨_, rfl, rfl⟩),
    kb_InvalidWord := (by
      obtain ⟨_, _, _, _, _, _, _, _, hD, e⟩ := Y_InvalidWord
      refine kb_all hD fun t self u its et hi => ?_
      rw [e, et]
      exact match its, hi with | [_], _ => ⟨_, rfl, rfl⟩),
    bd_Missing := (by
      obtain ⟨_, _, _, _, _, _, _, _, hD, e⟩ := Y_Missing
      refine bd_all hD fun t us its et hu hi => ?_
      rw [e, et]
      exact match us, hu, its, hi with | [_], _, [_], _ => ⟨_, rfl, rfl⟩),
    kb_Missing := (by
      obtain ⟨_, _, _, _, _, _, _, _, hD, e⟩ := Y_Missing
      refine kb_all hD fun t self u its et hi => ?_
      rw [e, et]
      exact match its, hi with | [_], _ => ⟨_, rfl, rfl⟩),
    bd_TakenName := (by
      obtain ⟨_, _, _, _, _, _, _, _, hD, e⟩ := Y_TakenName
      refine bd_all hD fun t us its et hu hi => ?_
      rw [e, et]
      exact match us, hu, its, hi with | [_], _, [_], _ => ⟨_, rfl, rfl⟩),
    kb_TakenName := (by
      obtain ⟨_, _, _, _, _, _, _, _, hD, e⟩ := Y_TakenName
      refine kb_all hD fun t self u its et hi => ?_
      rw [e, et]
      exact match its, hi with | [_], _ => ⟨_, rfl, rfl⟩),
    bd_UnknownName := (by
      obtain ⟨_, _, _, _, _, _, _, _, hD, e⟩ := Y_UnknownName
      refine bd_all hD fun t us its et hu hi => ?_
      rw [e, et]
      exact match us, hu, its, hi with | [_], _, [_], _ => ⟨_, rfl, rfl⟩),
    kb_UnknownName := (by
      obtain ⟨_, _, _, _, _, _, _, _, hD, e⟩ := Y_UnknownName
      refine kb_all hD fun t self u its et hi => ?_
      rw [e, et]
      exact match its, hi with | [_], _ => ⟨_, rfl, rfl⟩),
    fx_InvalidItem := fx_InvalidItem, ex_InvalidItem := X_InvalidItem, bx_InvalidItem := (by
      obtain ⟨_, _, _, _, _, _, _, _, hD, e⟩ := Y_InvalidItem
      refine bx_all hD fun t us its et hu hi => ?_
      rw [e, et]
      exact match us, hu, its, hi with | [_, _], _, [_], _ => ⟨_, rfl, rfl⟩),
    fx_InvalidList := fx_InvalidList, ex_InvalidList := X_InvalidList, bx_InvalidList := (by
      obtain ⟨_, _, _, _, _, _, _, _, hD, e⟩ := Y_InvalidList
      refine bx_all hD fun t us its et hu hi => ?_
      rw [e, et]
      exact match us, hu, its, hi with | [_, _], _, [_], _ => ⟨_, rfl, rfl⟩),
    fx_InvalidName := fx_InvalidName, ex_InvalidName := X_InvalidName, bx_InvalidName := (by
      obtain ⟨_, _, _, _, _, _, _, _, hD, e⟩ := Y_InvalidName
      refine bx_all hD fun t us its et hu hi => ?_
      rw [e, et]
      exact match us, hu, its, hi with | [_, _], _, [_], _ => ⟨_, rfl, rfl⟩),
    fx_InvalidNumber := fx_InvalidNumber, ex_InvalidNumber := X_InvalidNumber, bx_InvalidNumber := (by
      obtain ⟨_, _, _, _, _, _, _, _, hD, e⟩ := Y_InvalidNumber
      refine bx_all hD fun t us its et hu hi => ?_
      rw [e, et]
      exact match us, hu, its, hi with | [_, _], _, [_], _ => ⟨_, rfl, rfl⟩),
    fx_InvalidRule := fx_InvalidRule, ex_InvalidRule := X_InvalidRule, bx_InvalidRule := (by
      obtain ⟨_, _, _, _, _, _, _, _, hD, e⟩ := Y_InvalidRule
      refine bx_all hD fun t us its et hu hi => ?_
      rw [e, et]
      exact match us, hu, its, hi with | [_, _], _, [_], _ => ⟨_, rfl, rfl⟩),
    fx_InvalidShop := fx_InvalidShop, ex_InvalidShop := X_InvalidShop, bx_InvalidShop := (by
      obtain ⟨_, _, _, _, _, _, _, _, hD, e⟩ := Y_InvalidShop
      refine bx_all hD fun t us its et hu hi => ?_
      rw [e, et]
      exact match us, hu, its, hi with | [_, _], _, [_], _ => ⟨_, rfl, rfl⟩),
    fx_InvalidStore := fx_InvalidStore, ex_InvalidStore := X_InvalidStore, bx_InvalidStore := (by
      obtain ⟨_, _, _, _, _, _, _, _, hD, e⟩ := Y_InvalidStore
      refine bx_all hD fun t us its et hu hi => ?_
      rw [e, et]
      exact match us, hu, its, hi with | [_, _], _, [_], _ => ⟨_, rfl, rfl⟩),
    fx_InvalidText := fx_InvalidText, ex_InvalidText := X_InvalidText, bx_InvalidText := (by
      obtain ⟨_, _, _, _, _, _, _, _, hD, e⟩ := Y_InvalidText
      refine bx_all hD fun t us its et hu hi => ?_
      rw [e, et]
      exact match us, hu, its, hi with | [_, _], _, [_], _ => ⟨_, rfl, rfl⟩),
    fx_InvalidThing := fx_InvalidThing, ex_InvalidThing := X_InvalidThing, bx_InvalidThing := (by
      obtain ⟨_, _, _, _, _, _, _, _, hD, e⟩ := Y_InvalidThing
      refine bx_all hD fun t us its et hu hi => ?_
      rw [e, et]
      exact match us, hu, its, hi with | [_, _], _, [_], _ => ⟨_, rfl, rfl⟩),
    fx_InvalidTicks := fx_InvalidTicks, ex_InvalidTicks := X_InvalidTicks, bx_InvalidTicks := (by
      obtain ⟨_, _, _, _, _, _, _, _, hD, e⟩ := Y_InvalidTicks
      refine bx_all hD fun t us its et hu hi => ?_
      rw [e, et]
      exact match us, hu, its, hi with | [_, _], _, [_], _ => ⟨_, rfl, rfl⟩),
    fx_InvalidWord := fx_InvalidWord, ex_InvalidWord := X_InvalidWord, bx_InvalidWord := (by
      obtain ⟨_, _, _, _, _, _, _, _, hD, e⟩ := Y_InvalidWord
      refine bx_all hD fun t us its et hu hi => ?_
      rw [e, et]
      exact match us, hu, its, hi with | [_, _], _, [_], _ => ⟨_, rfl, rfl⟩),
    fx_Missing := fx_Missing, ex_Missing := X_Missing, bx_Missing := (by
      obtain ⟨_, _, _, _, _, _, _, _, hD, e⟩ := Y_Missing
      refine bx_all hD fun t us its et hu hi => ?_
      rw [e, et]
      exact match us, hu, its, hi with | [_, _], _, [_], _ => ⟨_, rfl, rfl⟩),
    fx_TakenName := fx_TakenName, ex_TakenName := X_TakenName, bx_TakenName := (by
      obtain ⟨_, _, _, _, _, _, _, _, hD, e⟩ := Y_TakenName
      refine bx_all hD fun t us its et hu hi => ?_
      rw [e, et]
      exact match us, hu, its, hi with | [_, _], _, [_], _ => ⟨_, rfl, rfl⟩),
    fx_UnknownName := fx_UnknownName, ex_UnknownName := X_UnknownName, bx_UnknownName := (by
      obtain ⟨_, _, _, _, _, _, _, _, hD, e⟩ := Y_UnknownName
      refine bx_all hD fun t us its et hu hi => ?_
      rw [e, et]
      exact match us, hu, its, hi with | [_, _], _, [_], _ => ⟨_, rfl, rfl⟩) }⟩
abbrev R0 : PySem.W.OpenRow := PySem.W.OpenLaw.row PySem.Challenge.rw_tickcounts_k01_errors
def asH (g : Addr → Option Obj) : Nat → List Addr
  | 0 => [mainGlobals, cStatics]
  | n + 1 => He.growD g (asH g n)
def obsG (g : Addr → Option Obj) : AlH := obsH (He.frG g (asH g 5))
def hk : PySem.W.Hook where
  α := AlH
  obs := fun s => obsG s.heap.get?
  val := fun _ => valH
  says := fun _ h => ∃ K : PySem.W.Frag, K.In h ∧ obsH K = valH
  of := fun _ _ e => ⟨_, He.frG_in, e⟩
  keeps := fun _ _ _ ⟨K, hK, c⟩ k => ⟨K, PySem.W.Frag.In.keeps hK k, c⟩
def ob (s : PySem.W.SharedT) : AlH := obsG (HandSHeadRun.getT s)
theorem ob_eq (s : PySem.W.SharedT) : ob s = hk.obs s.abs := by
  have e : HandSHeadRun.getT s = s.abs.heap.get? := funext (HandSHeadRun.getT_eq s)
  show obsG (HandSHeadRun.getT s) = obsG s.abs.heap.get?
  rw [e]
abbrev loose : List PySem.Str := "TickError" :: "InvalidNumber" :: "InvalidList" :: "InvalidItem" :: "InvalidShop" :: "InvalidThing" :: "InvalidTicks" :: "InvalidStore" :: "InvalidWord" :: "InvalidRule" :: "InvalidText" :: "Missing" :: "InvalidName" :: "TakenName" :: "UnknownName" :: "NothingToUndo" :: "_law_cell" :: "_law_hash" :: "_law_generator" :: "_law_random" :: "_law_kinds" :: "_law_right" :: "_law_placed" :: "_law_named" :: "_law_bare" :: []
set_option maxHeartbeats 0 in
theorem run (w : World) : HandSHeadRun.RunEq R0 (PySem.W.view R0.prog [27]) hk ob 8000 loose w := by
  intro os
  kernel_rfl
end HT.Lk01
set_option maxRecDepth 100000
set_option maxHeartbeats 4000000
namespace HT.Lk01
open PySem PySem.Spec L2 HT.C
open PyProof.Rows hiding St
/-! ### what is told of numbers -/
theorem ok_of (x : String) : PyData.strOk (Str.ofString x) = true := by
  rw [Str.ofString_eq_toList]
  refine ok_mem.mpr fun c hc => ?_
  obtain ⟨ch, _, rfl⟩ := List.mem_map.mp (by simpa using hc)
  have := ch.valid
  show ch.val.toNat < 0x110000
  rcases this with h | ⟨_, h⟩
  · have h' : ch.val.toNat < 0xd800 := h
    omega
  · exact h
theorem int_shw {i : Int} (h : i.natAbs < 10 ^ 15) : Shw (.int i) ∧ (PyData.shown (.int i)).length ≤ 16 := by
  have l := int_text_length_le10 (k := 15) (by decide) h
  have l2 : (PyData.shown (.int i)).length ≤ 16 := by
    show (Str.ofString (toString i)).length ≤ 16
    rw [PySem.ofString_length]
    omega
  have q3 : i.natAbs.log2 < 101 := PySem.Flt.log2_lt_of (by decide) (Nat.lt_trans h (by decide))
  refine ⟨⟨?_, by simp [PyData.depth], by omega, ok_of _⟩, l2⟩
  simp [PyData.showable]
  omega
/-- data that is told in few signs -/
structure Few (p : PyData) : Prop where
  sh : p.showable = true
  dp : p.depth ≤ 10
  ls : p.leavesShort 16 = true
  bk : p.bulk ≤ 60
  tx : PyData.strOk p.shown = true
theorem few_int {i : Int} (h : i.natAbs < 10 ^ 15) : Few (.int i) := by
  obtain ⟨a, b⟩ := int_shw h
  exact ⟨a.sh, by simp [PyData.depth], by simp [PyData.leavesShort]; exact b, by simp [PyData.bulk], a.tx⟩
def fewB (p : PyData) : Bool := p.showable && (decide (p.depth ≤ 10) && (p.leavesShort 16 && (decide (p.bulk ≤ 60) && PyData.strOk p.shown)))
theorem few_b {p : PyData} (h : fewB p = true) : Few p := by
  obtain ⟨a, h⟩ := bAnd h
  obtain ⟨b, h⟩ := bAnd h
  obtain ⟨c, h⟩ := bAnd h
  obtain ⟨d, e⟩ := bAnd h
  exact ⟨a, of_decide_eq_true b, c, of_decide_eq_true d, e⟩
theorem few14 {p : PyData} (h : Few p) : Shw (.list (List.replicate 14 p)) := by
  refine ⟨?_, ?_, ?_, ok_list fun x hx => by rw [(List.mem_replicate.mp hx).2]; exact h.tx⟩
  · simp [PyData.showable, PyData.showableAll, List.replicate, h.sh]
  · have := h.dp
    simp [PyData.depth, PyData.depthAll, List.replicate]
    omega
  · have l : (PyData.list (List.replicate 14 p)).leavesShort 16 = true := by simp [PyData.leavesShort, PyData.leavesShortAll, List.replicate, h.ls]
    have b := PyData.shown_le_bulk 16 (by decide) _ l
    have c : (PyData.list (List.replicate 14 p)).bulk ≤ 2000 := by
      have := h.bk
      simp [PyData.bulk, PyData.bulkAll, List.replicate]
      omega
    omega
/-! ### the errors made -/
def vN : List Str := ["InvalidNumber", "InvalidList", "InvalidItem", "InvalidShop", "InvalidThing", "InvalidTicks", "InvalidStore", "InvalidWord", "InvalidRule", "InvalidText", "Missing"]
def nN : List Str := ["InvalidName", "TakenName", "UnknownName"]
def plD (d : D) : List D := vN.map (fun c => .exn c [("value", d)]) ++ nN.map fun c => .exn c [("name", d)]
theorem placed_ok (d : D) (S : Sto) : M__law_placed [d] S = .ok (.lst (plD d)) S := by kernel_rfl
theorem named_ok (d : D) (S : Sto) : M__law_named [d] S = .ok (.lst (plD d)) S := by kernel_rfl
theorem bare_ok (S : Sto) : M__law_bare [] S = .ok (.lst (plD .non)) S := by kernel_rfl
theorem right0 (d : D) (S : Sto) : F__law_right_1 [.val (.lst (plD d)), .val d, .un, .un, .un] S = .ok (.nx [.val (.lst (plD d)), .val d, .un, .un, .un]) S := by kernel_rfl
theorem right2 (d : D) (S : Sto) : F__law_right_2 [.val (.lst (plD d)), .val d, .un, .un, .un] S = .ok (.nx [.val (.lst (plD d)), .val d, .val (.lst (List.replicate 14 d)), .un, .un]) S := by kernel_rfl
theorem dq14 {S : Sto} {d : D} {p : PyData} (h : HT.deepq S d = some p) : ∀ n : Nat, dqL (dqC S 4) (List.replicate n d) = some (List.replicate n p)
  | 0 => rfl
  | n + 1 => by
    have h' : dq0 (dqC S 4) d = some p := h
    rw [List.replicate_succ, dqL, h', dq14 h n]
    rfl
theorem right_ok {S : Sto} {d : D} {p : PyData} (h : HT.deepq S d = some p) (f : Few p) : M__law_right [.lst (plD d), d] S = .ok (.bl true) S := by
  have q : HT.deepq S (.lst (List.replicate 14 d)) = some (.list (List.replicate 14 p)) := by
    show (dqL (dqC S 4) (List.replicate 14 d)).map PyData.list = _
    rw [dq14 h]
    rfl
  have sw := few14 f
  have m : (f2 gMul2 (fFrz (oLst (aCons (fVar 1) aNil))) (fun _ => pure (.int 14))) [.val (.lst (plD d)), .val d, .val (.lst (List.replicate 14 d)), .un, .un] S = .ok (.lst (List.replicate 14 d)) S := by kernel_rfl
  exact mk_rt rfl rfl (ev_seq (right0 d S) (ev_seq (right2 d S) (ev_ret (ev_f2 (ev_args (ev_cons (ev_var rfl) ev_nil) (shw_repr q sw)) (ev_args (ev_cons m ev_nil) (shw_repr q sw)) (shw_eq sw)))))
end HT.Lk01
set_option maxRecDepth 100000
set_option maxHeartbeats 4000000
namespace HT.Lk01
open PySem PySem.Spec L2 HT.C
open PyProof.Rows hiding St
theorem ok_dict {kvs : List (PyData × PyData)} (h : ∀ t ∈ PyData.shownKv kvs, PyData.strOk t = true) : PyData.strOk (PyData.dict kvs).shown = true := by
  rw [PyData.shown]
  unfold dictText
  exact ok_app (ok_app (by decide +kernel) (ok_join (by decide +kernel) h)) (by decide +kernel)
abbrev dA (i : Int) : PyData := .dict [(.str "a", .list [.int i])]
abbrev dM (i : Int) : PyData := .dict [(.str "a", .list [.int i]), (.str "more", .list [.int 1])]
theorem few_dA {i : Int} (h : i.natAbs < 10 ^ 15) : Few (dA i) := by
  obtain ⟨a, b⟩ := int_shw h
  have sh : (PyData.int i).showable = true := a.sh
  have ls : (PyData.int i).leavesShort 16 = true := (few_int h).ls
  have s1 : (PyData.str "a").leavesShort 16 = true := by decide +kernel
  have li : PyData.strOk (PyData.list [.int i]).shown = true := ok_list fun x hx => by rw [List.mem_singleton.mp hx]; exact a.tx
  refine ⟨by simp [PyData.showable, PyData.showableKv, PyData.showableAll] at sh ⊢; exact sh, by simp [PyData.depth, PyData.depthKv, PyData.depthAll], by simp only [PyData.leavesShort, PyData.leavesShortKv, PyData.leavesShortAll, Bool.and_true, Bool.and_eq_true] at s1 ls ⊢; exact ⟨s1, ls⟩, by show (dA 0).bulk ≤ 60; decide +kernel, ok_dict fun t ht => ?_⟩
  have ht' : t ∈ [(PyData.str "a").shown ++ (": " : Str) ++ (PyData.list [.int i]).shown] := ht
  rw [List.mem_singleton.mp ht']
  exact ok_app (ok_app (by decide +kernel) (by decide +kernel)) li
theorem few_dM {i : Int} (h : i.natAbs < 10 ^ 15) : Few (dM i) := by
  obtain ⟨a, b⟩ := int_shw h
  have sh : (PyData.int i).showable = true := a.sh
  have ls : (PyData.int i).leavesShort 16 = true := (few_int h).ls
  have s1 : (PyData.str "a").leavesShort 16 = true := by decide +kernel
  have s2 : (PyData.str "more").leavesShort 16 = true := by decide +kernel
  have s3 : (PyData.int 1).leavesShort 16 = true := by decide +kernel
  have s4 : (PyData.int 1).showable = true := by decide +kernel
  have li : PyData.strOk (PyData.list [.int i]).shown = true := ok_list fun x hx => by rw [List.mem_singleton.mp hx]; exact a.tx
  refine ⟨by simp [PyData.showable, PyData.showableKv, PyData.showableAll] at sh s4 ⊢; exact ⟨sh, s4⟩, by simp [PyData.depth, PyData.depthKv, PyData.depthAll], by simp only [PyData.leavesShort, PyData.leavesShortKv, PyData.leavesShortAll, Bool.and_true, Bool.and_eq_true] at s1 s2 s3 ls ⊢; exact ⟨⟨s1, ls⟩, s2, s3⟩, by show (dM 0).bulk ≤ 60; decide +kernel, ok_dict fun t ht => ?_⟩
  have ht' : t ∈ [(PyData.str "a").shown ++ (": " : Str) ++ (PyData.list [.int i]).shown, (PyData.str "more").shown ++ (": " : Str) ++ (PyData.list [.int 1]).shown] := ht
  rcases List.mem_cons.mp ht' with rfl | ht'
  · exact ok_app (ok_app (by decide +kernel) (by decide +kernel)) li
  · rw [List.mem_singleton.mp ht']
    exact ok_app (ok_app (by decide +kernel) (by decide +kernel)) (by decide +kernel)
/-! ### one turn -/
theorem melt_same {F : FS} {env e' : Env} {S S' : Sto} (h : F env S = .ok (.nx e') S') (hl : S'.length = S.length) : sMelt F env S = .ok (.nx e') S' := by
  unfold sMelt
  rw [h]
  exact if_pos hl
section
variable {k0 m e : D} {s4 s5 : Sl} {S S2 : Sto} {d : D} {p p2 : PyData} {t : Ty} {k : Nat}
abbrev tE (k0 m e d : D) (s4 s5 : Sl) : Env := [.val k0, .val m, .val e, .val d, s4, s5]
abbrev nE (k0 m e d : D) : Env := tE k0 m e d (.val (.lst (plD d))) (.val (.lst (plD d)))
theorem f2_ok : F_law_2 (tE k0 m e d s4 s5) S = .ok (.nx (nE k0 m e d)) S := by
  have h : (aCons (fCall M__law_placed [] (aCons (fVar 3) aNil)) (aCons (fCall M__law_named [] (aCons (fVar 3) aNil)) aNil)) (tE k0 m e d s4 s5) S = .ok [.lst (plD d), .lst (plD d)] S :=
    ev_cons (ev_call (ev_cons (ev_var rfl) ev_nil) (placed_ok d S)) (ev_cons (ev_call (ev_cons (ev_var rfl) ev_nil) (named_ok d S)) ev_nil)
  unfold F_law_2 sPar
  rw [h]
  rfl
theorem both_ok (h : HT.deepq S d = some p) (f : Few p) : (fOrT (fNotT (fB (fCall M__law_right [] (aCons (fVar 4) (aCons (fVar 3) aNil))))) (fNotT (fB (fCall M__law_right [] (aCons (fVar 5) (aCons (fVar 3) aNil)))))) (nE k0 m e d) S = .ok false S :=
  ev_orT_f (ev_notT (b := true) (ev_fB (ev_call (ev_cons (ev_var rfl) (ev_cons (ev_var rfl) ev_nil)) (right_ok h f)))) (ev_notT (b := true) (ev_fB (ev_call (ev_cons (ev_var rfl) (ev_cons (ev_var rfl) ev_nil)) (right_ok h f))))
theorem isl {b : Bool} (ht : tyD S d = some t) (hb : is_list t = some b) : (fB (fArgs (a2 (gIsi is_list (.ty "list"))) (aCons (fVar 3) (aCons (fun _ => pure (.ty "list")) aNil)))) (nE k0 m e d) S = .ok b S :=
  ev_fB (ev_args (ev_cons (ev_var rfl) (ev_cons ev_c ev_nil)) (ev_isi ht hb))
theorem isd {b : Bool} (ht : tyD S d = some t) (hb : is_dict t = some b) : (fB (fArgs (a2 (gIsi is_dict (.ty "dict"))) (aCons (fVar 3) (aCons (fun _ => pure (.ty "dict")) aNil)))) (nE k0 m e d) S = .ok b S :=
  ev_fB (ev_args (ev_cons (ev_var rfl) (ev_cons ev_c ev_nil)) (ev_isi ht hb))
theorem turn_plain (h : HT.deepq S d = some p) (f : Few p) (ht : tyD S d = some t) (h1 : is_list t = some false) (h2 : is_dict t = some false) : B_law_11 (tE k0 m e d s4 s5) S = .ok (.nx (nE k0 m e d)) S :=
  melt_same (ev_seq f2_ok (ev_seq (ev_skip (both_ok h f)) (ev_seq (ev_skip (isl ht h1)) (ev_seq (ev_skip (isd ht h2)) (ev_skip (both_ok h f)))))) rfl
theorem turn_lst {ds : List D} (hk : S[k]? = some (.lst ds)) (hl : ds.length < 16000) (h : HT.deepq S (.cell k) = some p) (f : Few p) (hS : S.set k (.lst (ds ++ [.str "more"])) = S2) (g : HT.deepq S2 (.cell k) = some p2) (f2 : Few p2) : B_law_11 (tE k0 m e (.cell k) s4 s5) S = .ok (.nx (nE k0 m e (.cell k))) S2 := by
  subst hS
  have ht : tyD S (.cell k) = some (.b "list") := ty_cell hk
  have hlt : k < S.length := (List.getElem?_eq_some_iff.mp hk).1
  have ht2 : tyD (S.set k (.lst (ds ++ [.str "more"]))) (.cell k) = some (.b "list") := ty_cell (ds := ds ++ [.str "more"]) (List.getElem?_set_self hlt)
  exact melt_same (ev_seq f2_ok (ev_seq (ev_skip (both_ok h f)) (ev_seq (ev_if_t (isl ht rfl) (ev_appC rfl (by rw [lstAt_cell hk]; rfl) ev_c hk hl)) (ev_seq (ev_skip (isd ht2 rfl)) (ev_skip (both_ok g f2)))))) (List.length_set ..)
theorem ty_dict {kvs : List (Key × D)} (hk : S[k]? = some (.dK kvs)) : tyD S (.cell k) = some (.b "dict") := by
  show (match S[k]? with | some (.lst _) => some (Ty.b "list") | some (.dK _) => some (Ty.b "dict") | some (.dT _) => some (Ty.b "dict") | some (.ins C _) => some (Ty.own C) | none => none) = _
  rw [hk]
theorem turn_dic {kvs : List (Key × D)} (hk : S[k]? = some (.dK kvs)) (hl : kvs.length < 16000) (h : HT.deepq S (.cell k) = some p) (f : Few p) (hS : S.set k (.dK (putKD kvs (.inr "more") (.lst [.int 1]))) = S2) (g : HT.deepq S2 (.cell k) = some p2) (f2 : Few p2) : B_law_11 (tE k0 m e (.cell k) s4 s5) S = .ok (.nx (nE k0 m e (.cell k))) S2 := by
  subst hS
  have ht : tyD S (.cell k) = some (.b "dict") := ty_dict hk
  have put : F_law_7 (nE k0 m e (.cell k)) S = .ok (.nx (nE k0 m e (.cell k))) (S.set k (.dK (putKD kvs (.inr "more") (.lst [.int 1])))) := by
    show putDC _ (.lst [.int 1]) (.cell k) (.str "more") S = _
    unfold putDC
    show (match S[k]? with | some (.dK kvs) => if kvs.length < sizeLine then R.ok (Fl.nx _) (S.set k (.dK (putKD kvs (.inr "more") (.lst [.int 1])))) else .stuck | _ => .stuck) = _
    rw [hk]
    dsimp only
    rw [if_pos (Nat.lt_of_lt_of_le hl (sl5 (Nat.le_refl _)))]
  exact melt_same (ev_seq f2_ok (ev_seq (ev_skip (both_ok h f)) (ev_seq (ev_skip (isl ht rfl)) (ev_seq (ev_if_t (isd ht rfl) put) (ev_skip (both_ok g f2)))))) (List.length_set ..)
end
end HT.Lk01
set_option maxRecDepth 100000
set_option maxHeartbeats 4000000
namespace HT.Lk01
open PySem PySem.Spec L2 HT.C
open PyProof.Rows hiding St
section
variable {ns : List Int} {g : List D} {r : Int}
abbrev e0 (ns : List Int) : D := .klst (ns.map .int)
abbrev eE (r : Int) : D := .lst [.lst (plD (.int r)), .lst (plD (.str "elder"))]
def S1 (g : List D) (r : Int) : Sto := [.lst g, .lst [.int 1], .lst [], .dK [], .dK [(.inr "a", .lst [.int r])]]
def S2 (g : List D) (r : Int) : Sto := [.lst g, .lst [.int 1, .str "more"], .lst [], .dK [], .dK [(.inr "a", .lst [.int r])]]
def S3 (g : List D) (r : Int) : Sto := [.lst g, .lst [.int 1, .str "more"], .lst [.str "more"], .dK [], .dK [(.inr "a", .lst [.int r])]]
def S4 (g : List D) (r : Int) : Sto := [.lst g, .lst [.int 1, .str "more"], .lst [.str "more"], .dK [(.inr "more", .lst [.int 1])], .dK [(.inr "a", .lst [.int r])]]
def S5 (g : List D) (r : Int) : Sto := [.lst g, .lst [.int 1, .str "more"], .lst [.str "more"], .dK [(.inr "more", .lst [.int 1])], .dK [(.inr "a", .lst [.int r]), (.inr "more", .lst [.int 1])]]
def its (r : Int) : List D := [.int r, .int (0 - r), .tup [.int 1, .int 2], .tup [], .cell 1, .cell 2, .cell 3, .cell 4, .str "a b", .str "", .bl true, .non, .tup [.str "f", .int 2]]
theorem its_ok (s3 s4 s5 : Sl) : (iSeq (fFrz (oLst (aCons (fVar 1) (aCons (f2 gSub (fun _ => pure (.int 0)) (fVar 1)) (aCons (fTup (aCons (fun _ => pure (.int 1)) (aCons (fun _ => pure (.int 2)) aNil))) (aCons (fTup aNil) (aCons (fCell (oLst (aCons (fun _ => pure (.int 1)) aNil))) (aCons (fCell (oLst aNil)) (aCons (fCell (fun _ S => .ok (.dK []) S)) (aCons (fCell (oDisp [((fun _ => pure (.str "a")), (fFrz (oLst (aCons (fVar 1) aNil))))])) (aCons (fun _ => pure (.str "a b")) (aCons (fun _ => pure (.str "")) (aCons (fun _ => pure (.bl true)) (aCons (fun _ => pure .non) (aCons (fTup (aCons (fun _ => pure (.str "f")) (aCons (fun _ => pure (.int 2)) aNil))) aNil)))))))))))))))) [.val (e0 ns), .val (.int r), .val (eE r), s3, s4, s5] [.lst g] = .ok (its r, .fz) (S1 g r) := by kernel_rfl
theorem loop_ok (h : r.natAbs < 10 ^ 15) : ∃ d, loopD (.one 3) .fz B_law_11 (its r) [.val (e0 ns), .val (.int r), .val (eE r), .un, .un, .un] (S1 g r) = .ok (.nx (nE (e0 ns) (.int r) (eE r) d)) (S5 g r) := by
  have h0 : (0 - r).natAbs < 10 ^ 15 := by omega
  refine ⟨.tup [.str "f", .int 2], ?_⟩
  unfold its
  refine (loop_cons rfl rfl (turn_plain (p := .int r) (t := .b "int") rfl (few_int h) rfl rfl rfl)).trans ?_
  refine (loop_cons rfl rfl (turn_plain (p := .int (0 - r)) (t := .b "int") rfl (few_int h0) rfl rfl rfl)).trans ?_
  refine (loop_cons rfl rfl (turn_plain (p := .tuple [.int 1, .int 2]) (t := .b "tuple") rfl (few_b (by decide +kernel)) rfl rfl rfl)).trans ?_
  refine (loop_cons rfl rfl (turn_plain (p := .tuple []) (t := .b "tuple") rfl (few_b (by decide +kernel)) rfl rfl rfl)).trans ?_
  refine (loop_cons rfl rfl (turn_lst (k := 1) (ds := [.int 1]) (p := .list [.int 1]) (p2 := .list [.int 1, .str "more"]) (S2 := S2 g r) rfl (by decide) rfl (few_b (by decide +kernel)) rfl rfl (few_b (by decide +kernel)))).trans ?_
  refine (loop_cons rfl rfl (turn_lst (k := 2) (ds := []) (p := .list []) (p2 := .list [.str "more"]) (S2 := S3 g r) rfl (by decide) rfl (few_b (by decide +kernel)) rfl rfl (few_b (by decide +kernel)))).trans ?_
  refine (loop_cons rfl rfl (turn_dic (k := 3) (kvs := []) (p := .dict []) (p2 := .dict [(.str "more", .list [.int 1])]) (S2 := S4 g r) rfl (by decide) rfl (few_b (by decide +kernel)) rfl rfl (few_b (by decide +kernel)))).trans ?_
  refine (loop_cons rfl rfl (turn_dic (k := 4) (kvs := [(.inr "a", .lst [.int r])]) (p := dA r) (p2 := dM r) (S2 := S5 g r) rfl (by show 1 < 16000; decide) rfl (few_dA h) rfl rfl (few_dM h))).trans ?_
  refine (loop_cons rfl rfl (turn_plain (p := .str "a b") (t := .b "str") rfl (few_b (by decide +kernel)) rfl rfl rfl)).trans ?_
  refine (loop_cons rfl rfl (turn_plain (p := .str "") (t := .b "str") rfl (few_b (by decide +kernel)) rfl rfl rfl)).trans ?_
  refine (loop_cons rfl rfl (turn_plain (p := .bool true) (t := .b "bool") rfl (few_b (by decide +kernel)) rfl rfl rfl)).trans ?_
  refine (loop_cons rfl rfl (turn_plain (p := .none) (t := .b "NoneType") rfl (few_b (by decide +kernel)) rfl rfl rfl)).trans ?_
  refine (loop_cons rfl rfl (turn_plain (p := .tuple [.str "f", .int 2]) (t := .b "tuple") rfl (few_b (by decide +kernel)) rfl rfl rfl)).trans ?_
  exact loop_nil rfl
theorem law_raw : ∃ S', M_law [.klst (ns.map .int)] [] = .ok (.bl true) S' := by
  obtain ⟨g0, eg, hg⟩ := gen_ok ns 0 (by decide) []
  obtain ⟨r, g, er, hr, _, _⟩ := rnd_gen (n := 1000000000000) (j := 1) (by decide) hg (by decide) (by decide) (by decide +kernel) (by decide +kernel)
  have h : r.natAbs < 10 ^ 15 := by omega
  have er' : N__law_random [.cell 0, .int 1000000000000] [.lst g0] = .ok (.int r) [.lst g] := er
  have f0 : F_law_0 [.val (e0 ns), .un, .un, .un, .un, .un] [] = .ok (.nx [.val (e0 ns), .val (.int r), .un, .un, .un, .un]) [.lst g] :=
    ev_set (ev_call (ev_cons (ev_call (ev_cons (ev_var rfl) (ev_cons ev_c ev_nil)) eg) (ev_cons (ev_f2 (g := gPow) (Fa := fun _ => pure (.int 10)) (Fb := fun _ => pure (.int 12)) ev_c ev_c (by kernel_rfl)) ev_nil)) er')
  have f1 : F_law_1 [.val (e0 ns), .val (.int r), .un, .un, .un, .un] [.lst g] = .ok (.nx [.val (e0 ns), .val (.int r), .val (eE r), .un, .un, .un]) [.lst g] :=
    ev_set (ev_frz (c := .lst [.lst (plD (.int r)), .lst (plD (.str "elder"))]) (ev_lst (ev_cons (ev_call (ev_cons (ev_var rfl) ev_nil) (placed_ok _ _)) (ev_cons (ev_call (ev_cons ev_c ev_nil) (named_ok _ _)) ev_nil))))
  obtain ⟨d, el⟩ := loop_ok (ns := ns) (g := g) h
  have f12 : F_law_12 [.val (e0 ns), .val (.int r), .val (eE r), .un, .un, .un] [.lst g] = .ok (.nx (nE (e0 ns) (.int r) (eE r) d)) (S5 g r) := ev_for (its_ok _ _ _) rfl el
  have ix0 : (f2 gIx (fVar 2) (fun _ => pure (.int 0))) (nE (e0 ns) (.int r) (eE r) d) (S5 g r) = .ok (.lst (plD (.int r))) (S5 g r) := by kernel_rfl
  have ix1 : (f2 gIx (fVar 2) (fun _ => pure (.int 1))) (nE (e0 ns) (.int r) (eE r) d) (S5 g r) = .ok (.lst (plD (.str "elder"))) (S5 g r) := by kernel_rfl
  have f14 : F_law_14 (nE (e0 ns) (.int r) (eE r) d) (S5 g r) = .ok (.nx (nE (e0 ns) (.int r) (eE r) d)) (S5 g r) :=
    ev_skip (ev_orT_f (ev_notT (b := true) (ev_fB (ev_call (ev_cons ix0 (ev_cons (ev_var rfl) ev_nil)) (right_ok (p := .int r) rfl (few_int h)))))
      (ev_orT_f (ev_notT (b := true) (ev_fB (ev_call (ev_cons ix1 (ev_cons ev_c ev_nil)) (right_ok (d := .str "elder") (p := .str "elder") rfl (few_b (by decide +kernel))))))
        (ev_notT (b := true) (ev_fB (ev_call (ev_cons (bare_ok _) (ev_cons ev_c ev_nil)) (right_ok (d := .non) (p := .none) rfl (few_b (by decide +kernel))))))))
  have f15 : F_law_15 (nE (e0 ns) (.int r) (eE r) d) (S5 g r) = .ok (.rt (.bl true)) (S5 g r) := by kernel_rfl
  exact ⟨_, mk_rt rfl rfl (ev_seq f0 (ev_seq f1 (ev_seq f12 (ev_seq f14 f15))))⟩
end
end HT.Lk01
set_option maxRecDepth 100000
set_option maxHeartbeats 4000000
open PySem PySem.W PySem.Calls PyProof.Rows
theorem PySem.Challenge.cw_tickcounts_k01_errors_holds : PySem.Challenge.rw_tickcounts_k01_errors.Holds := by
  w_on; o_law
  refine HandSHeadRun.head_any (r := HT.Lk01.R0) (q := view HT.Lk01.R0.prog [27]) (H := HT.Lk01.hk) (ob := HT.Lk01.ob) (M := 8000) (loose := HT.Lk01.loose) (d := HandSHeadRun.topDef HT.Lk01.R0.prog 27) (kwd := []) HT.Lk01.ob_eq
    (by kernel_rfl) (fun s => by kernel_rfl) HT.Lk01.run (by kernel_rfl) (by kernel_rfl) (by kernel_rfl) (by rfl) (by first | assumption | decide +kernel) (by decide +kernel) ⟨rfl, rfl, rfl, rfl, rfl, by decide +kernel⟩ ?hw ?hc
  case hw => w_witness2
  case hc =>
    refine HT.walk_T (l := PySem.Challenge.rw_tickcounts_k01_errors) (n := 63) (k := 6) (x := "script") rfl (by decide) (by kernel_rfl) ⟨⟨rfl, by decide, by decide⟩, rfl⟩ ?F
    intro w mg fa h Y G hmg0
    obtain ⟨K, KX, c⟩ := Y
    have hmg : mg ("law" : PySem.Str) = some (.ref fa) := by
      have e : (HandSHeadRun.topDef HT.Lk01.R0.prog 27).name = ("law" : PySem.Str) := by kernel_rfl
      rw [← e]
      exact hmg0
    obtain ⟨x⟩ := HT.Lk01.facts KX G c
    have e := hmg.symm.trans x.g_law
    cases e
    exact ⟨K, x.fd_law, He.ga K, HT.Lk01.M_law, KX, fun s u => x.d_law.bindsA (ps := ["script"]) (fun _ _ _ _ _ _ us hl => match us, hl with | [_], _ => rfl) s [u] rfl, fun ns _ => HT.Lk01.law_raw, fun base _ _ => HT.Lk01.ft_law x⟩
